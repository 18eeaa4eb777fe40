import PyProof.Rows.All
import PySem.Str
import PySem.PyData
import HandS.ForMost
import HandS.Exc
import HandS.ExcOwn
import HandS.TryOnly
import HandS.WordsExc
import HandS.Lambda
import HandS.Deep
import KE.KDictKeyed
import HandS.TupAny
import HandS.TupMul
import HandS.TupLe
import HandS.Wide
import HandS.TupLen
import HandS.IsInst
import HandS.Conv
import HandS.CallLocal
import HandS.Style
import HandS.Zip
import HandS.Walk
import HandS.DictTup
import KE.GoesMore
import KE.GoesEnum
import HandS.DictComp
import KE.SortData
import KE.DataMinMax
import KE.KDictSum
import KE.KDictDisplayH
import KE.KDictPairs
import HandS.SetFor
import HandS.Strs
import PyProof.SeqIndex
import HandS.Defaults
import HandS.Head0
import HandS.Head1
import HandS.Head2
import HandS.HeadEnd
import HandS.HeadHook1
import HandS.HeadHook2
import HandS.HeadWalk
import PySem.Challenge.RW_railpoints_k19_whole_written_tracks
set_option Elab.async false
set_option linter.all false
set_option maxRecDepth 100000
set_option maxHeartbeats 0
/-! Fw0: abstract values, abstract state, IR, its pure denotation. Own work. -/
namespace RP
open PySem

/-! ### values -/
inductive PV where
  | non
  | bl (b : Bool)
  | int (i : Int)
  | str (x : Str)
  | tup (xs : List PV)
  | lst (xs : List PV)
  | rol (xs : List PV)
  | tpx (xs : List PV)
  | dct (kvs : List (PV × PV))
  | ref (n : Nat)
  | fn (x : Str)

/-- texts are compared by their codes -/
def eqS (x y : Str) : Bool := x.cps.toList == y.cps.toList
def b2i (b : Bool) : Int := if b then 1 else 0

/-! structural equality (keys) -/
mutual
def PV.beq : PV → PV → Bool
  | .non, .non => true
  | .bl a, .bl b => a == b
  | .int a, .int b => a == b
  | .str a, .str b => eqS a b
  | .tup a, .tup b => PV.beqs a b
  | .lst a, .lst b => PV.beqs a b
  | _, _ => false
def PV.beqs : List PV → List PV → Bool
  | [], [] => true
  | a :: as, b :: bs => PV.beq a b && PV.beqs as bs
  | _, _ => false
end
/-! Python's == of data -/
mutual
def eqP : PV → PV → Bool
  | .non, .non => true
  | .bl a, .bl b => a == b
  | .bl a, .int j => b2i a == j
  | .int i, .bl b => i == b2i b
  | .int i, .int j => i == j
  | .str x, .str y => eqS x y
  | .lst xs, .lst ys => eqPs xs ys
  | .tup xs, .tup ys => eqPs xs ys
  | _, _ => false
def eqPs : List PV → List PV → Bool
  | [], [] => true
  | x :: xs, y :: ys => eqP x y && eqPs xs ys
  | _, _ => false
end
/-- a text that the model may compare -/
def strFine (x : Str) : Bool := x.cps.toList.length ≤ 100000 && x.cps.toList.all fun c => c < 55296
/-! data down to a depth: no dicts, no objects, no defs -/
mutual
def dat : Nat → PV → Bool
  | _, .non => true
  | _, .bl _ => true
  | _, .int _ => true
  | _, .str x => strFine x
  | n + 1, .tup xs => dats n xs
  | n + 1, .lst xs => dats n xs
  | _, _ => false
def dats : Nat → List PV → Bool
  | _, [] => true
  | n, x :: xs => dat n x && dats n xs
end
/-! keys: ints, texts, None, tuples of such -/
mutual
def keyOk : Nat → PV → Bool
  | _, .non => true
  | _, .int _ => true
  | _, .str _ => true
  | n + 1, .tup xs => keyOks n xs
  | _, _ => false
def keyOks : Nat → List PV → Bool
  | _, [] => true
  | n, x :: xs => keyOk n x && keyOks n xs
end
/-! < of data -/
def ltCps : List Nat → List Nat → Bool
  | [], [] => false
  | [], _ :: _ => true
  | _ :: _, [] => false
  | a :: as, b :: bs => if a = b then ltCps as bs else decide (a < b)
mutual
def ltP : PV → PV → Option Bool
  | .int a, .int b => some (decide (a < b))
  | .str a, .str b => some (ltCps a.cps.toList b.cps.toList)
  | .tup a, .tup b => ltPs a b
  | _, _ => none
def ltPs : List PV → List PV → Option Bool
  | [], [] => some false
  | [], _ :: _ => some true
  | _ :: _, [] => some false
  | a :: as, b :: bs => (match ltPs as bs with
    | none => none
    | some k => if eqP a b then some k else ltP a b)
end

/-! ### state, results -/
inductive AObj where
  | lst (xs : List PV)
  | ins (c : Str) (fs : List (Str × PV))
abbrev AS := List AObj
inductive Exc where
  | mk (c : Str) (fs : List (Str × PV))
inductive Res (α : Type) where
  | ok (a : α) (s : AS)
  | exc (e : Exc) (s : AS)
  | stuck
abbrev M (α : Type) := AS → Res α
def Res.andThen {α β : Type} : Res α → (α → AS → Res β) → Res β
  | .ok a s, f => f a s
  | .exc e s, _ => .exc e s
  | .stuck, _ => .stuck
def ret {α : Type} (a : α) : M α := fun s => .ok a s
def stk {α : Type} : M α := fun _ => .stuck
def bnd {α β : Type} (x : M α) (f : α → M β) : M β := fun s => (x s).andThen fun a s' => f a s'
def opt {α : Type} : Option α → M α
  | some a => ret a
  | none => stk
/-- no exception may leave -/
def noExc {α : Type} (x : M α) : M α := fun s => match x s with
  | .ok a s' => .ok a s'
  | _ => .stuck

/-- a frame's slots -/
inductive Sl where
  | no
  | sh (v : PV)
  | ow (xs : List PV)
  | od (kvs : List (PV × PV))
abbrev Fm := List Sl
def Fm.get (r : Fm) (i : Nat) : Sl := match r[i]? with
  | some x => x
  | none => .no
def Sl.isNo : Sl → Bool
  | .no => true
  | _ => false
def Sl.freeze : Sl → Sl
  | .ow xs => .sh (.lst xs)
  | .od kvs => .sh (.dct kvs)
  | x => x
def Fm.freeze (r : Fm) (i : Nat) : Fm := r.set i (r.get i).freeze
def Fm.wipe (r : Fm) : List Nat → Fm
  | [] => r
  | i :: is => (Fm.wipe r is).set i .no

/-! ### operators -/
inductive BO where
  | add | sub | mul | mod | fdiv | pow
  deriving DecidableEq
inductive CO where
  | eq | ne | lt | le | gt | ge | isin | notin
  deriving DecidableEq
inductive Ty where
  | int | bool | str | tuple | list
  deriving DecidableEq
inductive B1 where
  | len | list | tuple | tuplex | sorted | sortedSet | lenSet | dict | sum | min | max | all | any | int | bool | abs
  deriving DecidableEq

def LIM : Nat := 1000000
def small (i : Int) : Bool := decide (-(2 ^ 62) < i) && decide (i < 2 ^ 62)
def wide (i : Int) : Bool := decide (i.natAbs < 2 ^ 4096)
def repN {α : Type} (xs : List α) : Nat → List α
  | 0 => []
  | n + 1 => xs ++ repN xs n
def binP : BO → PV → PV → Option PV
  | .add, .int a, .int b => some (.int (a + b))
  | .add, .tup a, .tup b => if a.length + b.length ≤ LIM then some (.tup (a ++ b)) else none
  | .add, .lst a, .lst b => if a.length + b.length ≤ LIM then some (.lst (a ++ b)) else none
  | .sub, .int a, .int b => some (.int (a - b))
  | .mul, .int a, .int b => if wide a && wide b then some (.int (a * b)) else none
  | .mul, .tup a, .int b => if a.isEmpty = false ∧ a.length ≤ 1000 ∧ 2 ≤ b ∧ b ≤ 1000 then some (.tup (repN a b.toNat)) else none
  | .mul, .lst a, .int b => if a.length * b.toNat ≤ LIM && small b then some (.lst (repN a b.toNat)) else none
  | .mod, .int a, .int b => if 0 < b then some (.int (a % b)) else none
  | .fdiv, .int a, .int b => if 0 < b ∧ b < 1073741824 then some (.int (a / b)) else none
  | .pow, .int a, .int b => if 0 ≤ b ∧ b ≤ 100 ∧ a.natAbs < 100 then some (.int (a ^ b.toNat)) else none
  | _, _, _ => none
def DEP : Nat := 40
def datS (xs : List PV) : Bool := dats DEP xs
def isinP (x : PV) : PV → Option Bool
  | .lst ys => if dat DEP x && datS ys then some (ys.any fun y => eqP y x) else none
  | .tup ys => if dat DEP x && datS ys then some (ys.any fun y => eqP y x) else none
  | .dct kvs => if keyOk 8 x then (match x with
    | .tup _ => some (kvs.any fun kv => PV.beq kv.1 x)
    | _ => none) else none
  | _ => none
def cmpP : CO → PV → PV → Option Bool
  | .eq, a, b => if dat DEP a && dat DEP b then some (eqP a b) else none
  | .ne, a, b => if dat DEP a && dat DEP b then some (!eqP a b) else none
  | .lt, a, b => if dat DEP a && dat DEP b then ltP a b else none
  | .le, .int a, .int b => some (decide (a ≤ b))
  | .gt, .int a, .int b => some (decide (b < a))
  | .ge, .int a, .int b => some (decide (b ≤ a))
  | .isin, a, b => isinP a b
  | .notin, a, b => (isinP a b).map (!·)
  | _, _, _ => none
def isTy : Ty → PV → Bool
  | .int, .int _ => true
  | .int, .bl _ => true
  | .bool, .bl _ => true
  | .str, .str _ => true
  | .tuple, .tup _ => true
  | .list, .lst _ => true
  | .list, .rol _ => true
  | _, _ => false
def isTyP (t : Ty) (x : PV) : Option Bool := match x with
  | .dct _ => none
  | .ref _ => none
  | .fn _ => none
  | .tpx _ => none
  | x => some (isTy t x)

def isNonP : PV → Bool
  | .non => true
  | _ => false
def nrm (n : Nat) (i : Int) : Option Nat := if 0 ≤ i then (if i < n then some i.toNat else none) else if -(n : Int) ≤ i then some (i + n).toNat else none
def at' (xs : List PV) (i : Int) : Option PV := (nrm xs.length i).bind fun j => xs[j]?
def lookP (k : PV) : List (PV × PV) → Option PV
  | [] => none
  | kv :: r => if PV.beq kv.1 k then some kv.2 else lookP k r
def putP (kvs : List (PV × PV)) (k v : PV) : List (PV × PV) :=
  if kvs.any fun kv => PV.beq kv.1 k then kvs.map fun kv => if PV.beq kv.1 k then (kv.1, v) else kv else kvs ++ [(k, v)]
def isTup : PV → Bool
  | .tup _ => true
  | _ => false
def keyT (k : PV) : Bool := isTup k && keyOk 8 k
def ixP (s : AS) : PV → PV → Option PV
  | .lst xs, .int i => at' xs i
  | .rol xs, .int i => at' xs i
  | .tup xs, .int i => at' xs i
  | .dct kvs, k => if keyT k then lookP k kvs else none
  | .ref n, .int i => match s[n]? with
    | some (.lst xs) => at' xs i
    | _ => none
  | _, _ => none
/-- where a bound of a slice lies -/
def clip (n : Nat) (i : Int) : Nat := if i < 0 then (i + n).toNat else min i.toNat n
def slLoP : PV → PV → Option PV
  | .lst xs, .int i => some (.lst (xs.drop (clip xs.length i)))
  | .tup xs, .int i => some (.tup (xs.drop (clip xs.length i)))
  | .tpx xs, .int i => some (.tup (xs.drop (clip xs.length i)))
  | _, _ => none
def slHiP : PV → PV → Option PV
  | .lst xs, .int i => some (.lst (xs.take (clip xs.length i)))
  | .tup xs, .int i => some (.tup (xs.take (clip xs.length i)))
  | .tpx xs, .int i => some (.tup (xs.take (clip xs.length i)))
  | _, _ => none
/-! sorting by < : insertion, stable -/
def insP (x : PV) : List PV → Option (List PV)
  | [] => some [x]
  | y :: ys => match ltP y x with
    | some true => (insP x ys).map (y :: ·)
    | some false => some (x :: y :: ys)
    | none => none
def sortP : List PV → Option (List PV)
  | [] => some []
  | x :: xs => (sortP xs).bind (insP x)
/-! what sorting asks: alike items, tuples or none of them -/
mutual
def alikeP : PV → PV → Bool
  | .non, .non => true
  | .bl _, .bl _ => true
  | .int _, .int _ => true
  | .str _, .str _ => true
  | .lst xs, .lst ys => alikePs xs ys
  | .tup xs, .tup ys => alikePs xs ys
  | _, _ => false
def alikePs : List PV → List PV → Bool
  | x :: xs, y :: ys => alikeP x y && alikePs xs ys
  | _, _ => true
end
def alkAll (xs : List PV) : Bool := xs.all fun x => xs.all fun y => alikeP x y
def neTup : PV → Bool
  | .tup (_ :: _) => true
  | _ => false
def noTup : PV → Bool
  | .bl _ => true
  | .int _ => true
  | .str _ => true
  | .lst _ => true
  | _ => false
def ordOk (xs : List PV) : Bool := datS xs && (alkAll xs && xs.all fun x => !isNonP x)
/-- an int put into a row of rising ones -/
def insU (k : Int) : List Int → List Int
  | [] => [k]
  | y :: ys => if k < y then k :: y :: ys else if k = y then y :: ys else y :: insU k ys
def setI (ns : List Int) : List Int := ns.foldr insU []
def dedup : List PV → List PV
  | [] => []
  | x :: xs => if (dedup xs).any fun y => PV.beq y x then dedup xs else x :: dedup xs
def intsOf : List PV → Option (List Int)
  | [] => some []
  | .int i :: r => (intsOf r).map (i :: ·)
  | _ => none
def boolsOf : List PV → Option (List Bool)
  | [] => some []
  | .bl i :: r => (boolsOf r).map (i :: ·)
  | _ => none
/-- the first least one -/
def minP : PV → List PV → Option PV
  | m, [] => some m
  | m, x :: xs => match ltP x m with
    | some true => minP x xs
    | some false => minP m xs
    | none => none
/-- the first greatest one -/
def maxP : PV → List PV → Option PV
  | m, [] => some m
  | m, x :: xs => match ltP m x with
    | some true => maxP x xs
    | some false => maxP m xs
    | none => none
def itemsOf : PV → Option (List PV)
  | .lst xs => some xs
  | .tup xs => some xs
  | _ => none
def pairsOf : List PV → Option (List (PV × PV))
  | [] => some []
  | .tup [k, v] :: r => (pairsOf r).map ((k, v) :: ·)
  | _ => none
def b1P : B1 → PV → Option PV
  | .len, .lst xs => some (.int xs.length)
  | .len, .rol xs => some (.int xs.length)
  | .len, .tup xs => some (.int xs.length)
  | .len, .dct kvs => some (.int kvs.length)
  | .list, .lst xs => some (.lst xs)
  | .list, .tup xs => some (.lst xs)
  | .list, .dct kvs => some (.lst (kvs.map (·.1)))
  | .tuple, .lst xs => some (.tup xs)
  | .tuple, .tup xs => some (.tup xs)
  | .tuplex, .lst xs => some (.tpx xs)
  | .sorted, .lst xs => if ordOk xs && (xs.all neTup || xs.all noTup) then (sortP xs).map .lst else none
  | .sorted, .dct kvs => if ordOk (kvs.map (·.1)) && (kvs.map (·.1)).all neTup then (sortP (kvs.map (·.1))).map .lst else none
  | .sortedSet, .lst xs => (intsOf xs).bind fun ns => if (setI ns).length < 64 && decide (xs.length < 4000) then some (.lst ((setI ns).map .int)) else none
  | .lenSet, .lst xs => if keyOks 8 xs then some (.int (dedup xs).length) else none
  | .dict, .lst xs => (pairsOf xs).bind fun kvs => if kvs.all (fun kv => keyT kv.1) then some (.dct (kvs.foldl (fun acc kv => putP acc kv.1 kv.2) [])) else none
  | .sum, .lst xs => (intsOf xs).map fun ns => .int ns.sum
  | .min, .lst (x :: xs) => if ordOk (x :: xs) then minP x xs else none
  | .min, .tup (x :: xs) => if ordOk (x :: xs) then minP x xs else none
  | .min, .tpx (x :: xs) => if ordOk (x :: xs) then minP x xs else none
  | .max, .lst (x :: xs) => if ordOk (x :: xs) then maxP x xs else none
  | .all, .lst xs => (boolsOf xs).map fun bs => .bl (bs.all id)
  | .any, .lst xs => (boolsOf xs).map fun bs => .bl (bs.any id)
  | .int, .int i => some (.int i)
  | .int, .bl b => some (.int (b2i b))
  | .bool, .bl b => some (.bl b)
  | .abs, .int i => some (.int (if i < 0 then -i else i))
  | _, _ => none
def idxP (x : PV) : List PV → Option Nat
  | [] => none
  | y :: ys => if eqP y x then some 0 else (idxP x ys).map (· + 1)
def seqX : PV → Bool
  | .lst _ => true
  | .tpx _ => true
  | _ => false
def ixOf (x y : PV) : Option PV := match x with
  | .lst xs => if datS xs && dat DEP y then (idxP y xs).map fun n => .int n else none
  | .tpx xs => if datS xs && dat DEP y then (idxP y xs).map fun n => .int n else none
  | _ => none

def litF (d : Str) : List (Str × Str) → Str → Str
  | [], _ => d
  | p :: ps, z => if eqS p.1 z then p.2 else litF d ps z
def litP (ps : List (Str × Str)) (d : Str) : PV → Option PV
  | .str z => some (.str (litF d ps z))
  | _ => none

/-! ### IR -/
/-- targets -/
inductive Tg where
  | nm (i : Nat)
  | tup (is : List Nat)
mutual
inductive E where
  | dead
  | var (i : Nat)
  | int (i : Int)
  | str (x : Str)
  | bl (b : Bool)
  | non
  | gc (j : Nat)
  | fnv (x : Str)
  | tup (es : Es)
  | lst (es : Es)
  | lstR (es : Es)
  | dnew
  | d1 (k v : E)
  | bin (op : BO) (a b : E)
  | cmp (op : CO) (a b : E)
  | chain (op op' : CO) (a b c : E)
  | isN (a : E)
  | notN (a : E)
  | and (a b : E)
  | or (a b : E)
  | not (a : E)
  | neg (a : E)
  | ite (c a b : E)
  | ix (a b : E)
  | slLo (a b : E)
  | slHi (a b : E)
  | call (j : Nat) (es : Es)
  | callv (i : Nat) (es : Es)
  | b1 (op : B1) (a : E)
  | min2 (a b : E)
  | max2 (a b : E)
  | isinst (t : Ty) (a : E)
  | idx (a b : E)
  | litget (ps : List (Str × Str)) (a : E) (d : Str)
  | lrange (a : E)
  | lc (e : E) (t : Tg) (it : It) (c : E) (vs : List Nat)
  | lc2 (e : E) (t : Tg) (it : It) (c : E) (t2 : Tg) (it2 : It) (c2 : E) (vs vs2 : List Nat)
  | dc (k v : E) (t : Tg) (it : It) (c : E) (vs : List Nat)
inductive Es where
  | nil
  | cons (e : E) (es : Es)
inductive It where
  | seq (e : E)
  | range1 (a : E)
  | enum (a : E)
  | zip (a b : E)
  | items (a : E)
  | keys (a : E)
end
mutual
inductive S where
  | dead
  | set (i : Nat) (e : E)
  | setO (i : Nat) (e : E)
  | setT (is : List Nat) (e : E)
  | setLcO (j i : Nat) (e : E) (t : Tg) (c : E) (vs : List Nat)
  | par (is : List Nat) (es : Es)
  | parD (i j : Nat) (e : E)
  | app (i : Nat) (e : E)
  | ext (i : Nat) (e : E)
  | seti (i : Nat) (k e : E)
  | expr (e : E)
  | retE (e : E)
  | retN
  | ife (c : E) (a b : Ss)
  | for_ (t : Tg) (it : It) (b : Ss)
  | while_ (n : Nat) (c : E) (b : Ss)
  | raise_ (c : Str)
  | pass
inductive Ss where
  | nil
  | cons (s : S) (ss : Ss)
  | frz (i : Nat) (ss : Ss)
end
inductive Fl where
  | nx (r : Fm)
  | bk (r : Fm)
  | ct (r : Fm)
  | rt (v : PV)

/-! ### denotation -/
def bindNs : List Nat → List PV → Fm → Option Fm
  | [], [], r => some r
  | i :: is, v :: vs, r => bindNs is vs (r.set i (.sh v))
  | _, _, _ => none
def bindT : Tg → PV → Fm → Option Fm
  | .nm i, v, r => some (r.set i (.sh v))
  | .tup is, .tup vs, r => bindNs is vs r
  | .tup _, _, _ => none
def enumP (n : Nat) : List PV → List PV
  | [] => []
  | x :: xs => .tup [.int n, x] :: enumP (n + 1) xs
def zipP : List PV → List PV → List PV
  | x :: xs, y :: ys => .tup [x, y] :: zipP xs ys
  | _, _ => []
def rangeP (lo : Int) : Nat → List PV
  | 0 => []
  | n + 1 => .int lo :: rangeP (lo + 1) n
def seqP : PV → Option (List PV)
  | .lst xs => some xs
  | .tup xs => some xs
  | .rol xs => some xs
  | _ => none
def keysOfD : PV → Option (List PV)
  | .dct kvs => some (kvs.map (·.1))
  | _ => none
def rangeOf : PV → Option (List PV)
  | .int n => if -1000000 ≤ n ∧ n ≤ 1000000 then some (rangeP 0 n.toNat) else none
  | _ => none
def enumOf : PV → Option (List PV)
  | .lst xs => some (enumP 0 xs)
  | .tup xs => some (enumP 0 xs)
  | _ => none
def zipOf : PV → PV → Option (List PV)
  | .lst xs, .lst ys => some (zipP xs ys)
  | .tup xs, .tup ys => some (zipP xs ys)
  | _, _ => none
def itemsOfD : PV → Option (List PV)
  | .dct kvs => some (kvs.map fun kv => .tup [kv.1, kv.2])
  | _ => none
def finL (ys : List PV) : M PV := if ys.length ≤ LIM then ret (.lst ys) else stk
def finD (ys : List (PV × PV)) : M PV := if ys.length ≤ LIM then ret (.dct ys) else stk
def truth : PV → Option Bool
  | .bl b => some b
  | _ => none
def tb (x : M PV) : M Bool := bnd x fun v => opt (truth v)
def tst {α : Type} (x : M PV) (f : Bool → M α) : M α := bnd (tb x) f
/-- the turns of a comprehension: f gives the items of a turn -/
def lcGo (f : PV → M (List PV)) : List PV → List PV → M (List PV)
  | [], acc => ret acc
  | x :: xs, acc => bnd (f x) fun ys => lcGo f xs (acc ++ ys)
def dcGo (f : PV → M (Option (PV × PV))) : List PV → List (PV × PV) → M (List (PV × PV))
  | [], acc => ret acc
  | x :: xs, acc => bnd (f x) fun o => match o with
    | some (k, v) => if keyT k then dcGo f xs (putP acc k v) else stk
    | none => dcGo f xs acc
abbrev Den := List PV → M PV
def getFn (G : List Den) (j : Nat) : List PV → M PV := match G[j]? with
  | some d => d
  | none => fun _ => stk
section
-- the defs that are called, by place; those that are values, by name; the module's constants, by place
variable (G : List Den) (GV : List (Str × Nat × Den)) (C : List PV)
def callP (x : Str) : Option (Str × Nat × Den) := GV.find? fun p => eqS p.1 x
def callN (p : Str × Nat × Den) (args : List PV) : M PV := if args.length = p.2.1 then p.2.2 args else stk
mutual
/-- o: the owned may be read (an operand) -/
def den : E → Bool → Fm → M PV
  | .dead, _, _ => stk
  | .var i, o, r => match r.get i with
    | .sh v => ret v
    | .ow xs => if o then ret (.lst xs) else stk
    | .od kvs => if o then ret (.dct kvs) else stk
    | .no => stk
  | .int i, _, _ => ret (.int i)
  | .str x, _, _ => ret (.str x)
  | .bl b, _, _ => ret (.bl b)
  | .non, _, _ => ret .non
  | .gc j, _, _ => opt C[j]?
  | .fnv x, _, _ => ret (.fn x)
  | .tup es, _, r => bnd (denEs es r) fun vs => ret (.tup vs)
  | .lst es, _, r => bnd (denEs es r) fun vs => ret (.lst vs)
  | .lstR es, _, r => bnd (denEs es r) fun vs => fun s => .ok (.ref s.length) (s ++ [.lst vs])
  | .dnew, _, _ => ret (.dct [])
  | .d1 k v, _, r => bnd (den k false r) fun x => bnd (den v false r) fun y => if keyT x then ret (.dct [(x, y)]) else stk
  | .bin op a b, _, r => bnd (den a true r) fun x => bnd (den b true r) fun y => opt (binP op x y)
  | .cmp op a b, _, r => bnd (den a true r) fun x => bnd (den b true r) fun y => opt ((cmpP op x y).map .bl)
  | .chain op op' a b c, _, r => bnd (den a false r) fun x => bnd (den b false r) fun y => bnd (opt (cmpP op x y)) fun k =>
      if k then bnd (den c false r) fun z => opt ((cmpP op' y z).map .bl) else ret (.bl false)
  | .isN a, _, r => bnd (den a false r) fun x => ret (.bl (isNonP x))
  | .notN a, _, r => bnd (den a false r) fun x => ret (.bl (!isNonP x))
  | .and a b, _, r => tst (den a false r) fun k => if k then den b false r else ret (.bl false)
  | .or a b, _, r => tst (den a false r) fun k => if k then ret (.bl true) else den b false r
  | .not a, _, r => tst (den a false r) fun k => ret (.bl (!k))
  | .neg a, _, r => bnd (den a false r) fun x => match x with
    | .int i => ret (.int (-i))
    | _ => stk
  | .ite c a b, _, r => tst (den c false r) fun k => if k then den a false r else den b false r
  | .ix a b, _, r => bnd (den a true r) fun x => bnd (den b false r) fun y => fun s => opt (ixP s x y) s
  | .slLo a b, _, r => bnd (den a true r) fun x => bnd (den b false r) fun y => opt (slLoP x y)
  | .slHi a b, _, r => bnd (den a true r) fun x => bnd (den b false r) fun y => opt (slHiP x y)
  | .call j es, _, r => bnd (denEs es r) fun vs => getFn G j vs
  | .callv i es, _, r => match r.get i with
    | .sh (.fn x) => (match callP GV x with
      | some p => bnd (denEs es r) fun vs => callN p vs
      | none => stk)
    | _ => stk
  | .b1 op a, _, r => bnd (den a true r) fun x => opt (b1P op x)
  | .min2 a b, _, r => bnd (den a false r) fun x => bnd (den b false r) fun y => match x, y with
    | .int i, .int j => ret (.int (if j < i then j else i))
    | _, _ => stk
  | .max2 a b, _, r => bnd (den a false r) fun x => bnd (den b false r) fun y => match x, y with
    | .int i, .int j => ret (.int (if j > i then j else i))
    | _, _ => stk
  | .isinst t a, _, r => bnd (den a true r) fun x => opt ((isTyP t x).map .bl)
  | .idx a b, _, r => bnd (den a true r) fun x => if seqX x then bnd (den b false r) fun y => opt (ixOf x y) else stk
  | .litget ps a d, _, r => bnd (den a false r) fun x => opt (litP ps d x)
  | .lrange a, _, r => bnd (den a false r) fun x => match x with
    | .int n => if -1000000 ≤ n ∧ n ≤ 1000000 then ret (.lst (rangeP 0 n.toNat)) else stk
    | _ => stk
  | .lc e t it c vs, _, r => bnd (denIt it true r) fun xs => noExc (bnd (lcGo (fun x => bnd (opt (bindT t x (r.wipe vs))) fun r2 => tst (den c false r2) fun k => if k then bnd (den e false r2) fun y => ret [y] else ret []) xs []) finL)
  | .lc2 e t it c t2 it2 c2 vs vs2, _, r => bnd (denIt it true r) fun xs => noExc (bnd (lcGo (fun x => bnd (opt (bindT t x (r.wipe vs))) fun r2 => tst (den c false r2) fun k => if k then
      bnd (denIt it2 false r2) fun zs => lcGo (fun z => bnd (opt (bindT t2 z (r2.wipe vs2))) fun r3 => tst (den c2 false r3) fun k => if k then bnd (den e false r3) fun y => ret [y] else ret []) zs [] else ret []) xs []) finL)
  | .dc k v t it c vs, _, r => bnd (denIt it true r) fun xs => noExc (bnd (dcGo (fun x => bnd (opt (bindT t x (r.wipe vs))) fun r2 => tst (den c false r2) fun b => if b then bnd (den k false r2) fun y => bnd (den v false r2) fun z => ret (some (y, z)) else ret none) xs []) finD)
def denEs : Es → Fm → M (List PV)
  | .nil, _ => ret []
  | .cons e es, r => bnd (den e false r) fun v => bnd (denEs es r) fun vs => ret (v :: vs)
def denIt : It → Bool → Fm → M (List PV)
  | .seq e, o, r => bnd (den e o r) fun x => opt (seqP x)
  | .range1 a, _, r => bnd (den a false r) fun x => opt (rangeOf x)
  | .enum a, o, r => bnd (den a o r) fun x => opt (enumOf x)
  | .zip a b, o, r => bnd (den a o r) fun x => bnd (den b o r) fun y => opt (zipOf x y)
  | .items a, _, r => bnd (den a false r) fun x => opt (itemsOfD x)
  | .keys a, _, r => bnd (den a false r) fun x => opt (keysOfD x)
end
/-! statements -/
def ofV (x : PV) : Sl := match x with
  | .lst xs => .ow xs
  | .dct kvs => .od kvs
  | v => .sh v
def bndN (is : List Nat) (x : PV) (r : Fm) : Option Fm := match x with
  | .tup vs => bindNs is vs r
  | _ => none
def setSl (r : Fm) (i : Nat) (k v : PV) : M Fm := match r.get i with
  | .ow xs => (match k with
    | .int j => (match nrm xs.length j with
      | some n => ret (r.set i (.ow (xs.set n v)))
      | none => stk)
    | _ => stk)
  | .od kvs => if keyT k && kvs.length < LIM then ret (r.set i (.od (putP kvs k v))) else stk
  | .sh (.ref n) => (match k with
    | .int j => fun s => (match s[n]? with
      | some (.lst xs) => (match nrm xs.length j with
        | some m => .ok r (s.set n (.lst (xs.set m v)))
        | none => .stuck)
      | _ => .stuck)
    | _ => stk)
  | _ => stk
/-- a loop over items: f is the body -/
def forGo (f : PV → Fm → M Fl) : List PV → Fm → M Fl
  | [], r => ret (.nx r)
  | x :: xs, r => bnd (f x r) fun l => match l with
    | .nx r' => forGo f xs r'
    | .ct r' => forGo f xs r'
    | .bk r' => ret (.nx r')
    | .rt v => ret (.rt v)
def whGo (c : Fm → M PV) (f : Fm → M Fl) : Nat → Fm → M Fl
  | 0, _ => stk
  | n + 1, r => tst (c r) fun k => if k then bnd (f r) fun l => (match l with
    | .nx r' => whGo c f n r'
    | .ct r' => whGo c f n r'
    | .bk r' => ret (.nx r')
    | .rt v => ret (.rt v)) else ret (.nx r)
mutual
def denS : S → Fm → M Fl
  | .dead, _ => stk
  | .set i e, r => bnd (den G GV C e false r) fun v => ret (.nx (r.set i (.sh v)))
  | .setO i e, r => bnd (den G GV C e false r) fun v => ret (.nx (r.set i (ofV v)))
  | .setT is e, r => bnd (den G GV C e true r) fun v => bnd (opt (bndN is v r)) fun r' => ret (.nx r')
  | .setLcO j i e t c vs, r => match Fm.get r i with
    | .od kvs => bnd (noExc (bnd (lcGo (fun x => bnd (opt (bindT t x (Fm.wipe (r.set i .no) vs))) fun r2 => tst (den G GV C c false r2) fun k => if k then bnd (den G GV C e false r2) fun y => ret [y] else ret []) (kvs.map fun kv => .tup [kv.1, kv.2]) []) finL)) fun v => ret (.nx (r.set j (ofV v)))
    | _ => stk
  | .par is es, r => bnd (denEs G GV C es r) fun vs => bnd (opt (bindNs is vs r)) fun r' => ret (.nx r')
  | .parD i j e, r => bnd (den G GV C e false r) fun v => ret (.nx ((r.set i (.od [])).set j (.sh v)))
  | .app i e, r => match r.get i with
    | .ow xs => bnd (den G GV C e false r) fun v => if xs.length < LIM then ret (.nx (r.set i (.ow (xs ++ [v])))) else stk
    | _ => stk
  | .ext i e, r => match r.get i with
    | .ow xs => bnd (den G GV C e true r) fun v => match v with
      | .lst ys => if xs.length + ys.length ≤ LIM then ret (.nx (r.set i (.ow (xs ++ ys)))) else stk
      | _ => stk
    | _ => stk
  | .seti i k e, r => bnd (den G GV C e false r) fun v => if (r.get i).isNo then stk else bnd (den G GV C k false r) fun x => bnd (setSl r i x v) fun r' => ret (.nx r')
  | .expr e, r => bnd (den G GV C e false r) fun _ => ret (.nx r)
  | .retE e, r => bnd (den G GV C e false r) fun v => ret (.rt v)
  | .retN, _ => ret (.rt .non)
  | .ife c a b, r => tst (den G GV C c false r) fun k => if k then denSs a r else denSs b r
  | .for_ t it b, r => bnd (denIt G GV C it false r) fun xs => forGo (fun x r1 => bnd (opt (bindT t x r1)) fun r2 => denSs b r2) xs r
  | .while_ n c b, r => whGo (fun r1 => den G GV C c false r1) (fun r1 => denSs b r1) n r
  | .raise_ c, _ => fun s => .exc (.mk c []) s
  | .pass, r => ret (.nx r)
def denSs : Ss → Fm → M Fl
  | .nil, r => ret (.nx r)
  | .cons s ss, r => bnd (denS s r) fun l => match l with
    | .nx r' => denSs ss r'
    | .bk r' => ret (.bk r')
    | .ct r' => ret (.ct r')
    | .rt v => ret (.rt v)
  | .frz i ss, r => denSs ss (r.freeze i)
end
def endOf : Fl → M PV
  | .rt v => ret v
  | .nx _ => ret .non
  | _ => stk
/-- a def of n slots -/
def run (n : Nat) (b : Ss) : Den := fun args => bnd (denSs G GV C b (args.map .sh ++ List.replicate (n - args.length) .no)) endOf
end
end RP

/-! Fw1: how abstract values lie in the heap; the uniform judgements. Own work. -/
namespace RP
open PySem PySem.Spec PyProof.Rows L2

/-! ### dicts with tuple keys, as one object -/
mutual
/-- the key of a value that is a key -/
def nkey : PV → NestedKey
  | .non => .none
  | .int i => .num i
  | .str x => .text x
  | .tup xs => .tup (nkeys xs)
  | _ => .none
def nkeys : List PV → List NestedKey
  | [] => []
  | x :: xs => nkey x :: nkeys xs
end
/-- the dict at a bears these keys, where their tuples stand, and these values -/
def DctO (P : Program) (w : World) (a : Addr) (es : List (NestedKey × Addr × V)) : HO := .ext fun h =>
  es.length ≤ sizeLine ∧ (a == sysModules) = false ∧ ∃ xs : List (NestedKey × Addr × Value), Paired (fun (p : NestedKey × Addr × V) (q : NestedKey × Addr × Value) => p.1 = q.1 ∧ p.2.1 = q.2.1 ∧ RelV p.2.2 q.2.2) es xs ∧
    ∃ o ds ep, h.get? a = some o ∧ o.ExactDict ∧ o.data = .dict ds ep ∧ ds.toList = xs.map (entryOfKey (nestedKind P w)) ∧ (xs.map (·.1)).Nodup

/-- the fixed things: the program, the world, the written part, the module's names, the tables -/
structure Sy where
  P : Program
  w : World
  K : PySem.W.Frag
  mg : Str → Option Value
  T : List (Addr × Str)

mutual
/-- v is the abstract value, over the frozen objects G and the mutable ones m -/
inductive Rep (S : Sy) (G : Hp) (m : List Addr) : PV → V → Prop
  | non : Rep S G m .non .non
  | bl (b : Bool) : Rep S G m (.bl b) (.bl b)
  | int (i : Int) : Rep S G m (.int i) (.int i)
  | str (x : Str) : Rep S G m (.str x) (.str x)
  | tup {a : Addr} {xs : List PV} {vs : List V} (h : SqT S.K G a vs) (r : Reps S G m xs vs) : Rep S G m (.tup xs) (.ref a)
  | lst {a : Addr} {xs : List PV} {vs : List V} (h : G a = some (.lst vs)) (r : Reps S G m xs vs) : Rep S G m (.lst xs) (.ref a)
  | rol {a : Addr} {xs : List PV} {vs : List V} (h : SqL S.K G a vs) (r : Reps S G m xs vs) : Rep S G m (.rol xs) (.ref a)
  | tpx {a : Addr} {o : Obj} {xs : List PV} {vs : List V} (h : G a = some (.frz o (.tup vs))) (hd : o.dict = none) (r : Reps S G m xs vs) : Rep S G m (.tpx xs) (.ref a)
  | dct {a : Addr} {od : Obj} {kvs : List (PV × PV)} {es : List (NestedKey × Addr × V)} (h : G a = some (.frz od (DctO S.P S.w a es))) (r : RepsD S G m kvs es) : Rep S G m (.dct kvs) (.ref a)
  | ref {n : Nat} {a : Addr} (h : m[n]? = some a) : Rep S G m (.ref n) (.ref a)
  | fn {x : Str} {f : Addr} (h : S.mg x = some (.ref f)) : Rep S G m (.fn x) (.ref f)
inductive Reps (S : Sy) (G : Hp) (m : List Addr) : List PV → List V → Prop
  | nil : Reps S G m [] []
  | cons {x : PV} {xs : List PV} {v : V} {vs : List V} (h : Rep S G m x v) (r : Reps S G m xs vs) : Reps S G m (x :: xs) (v :: vs)
inductive RepsD (S : Sy) (G : Hp) (m : List Addr) : List (PV × PV) → List (NestedKey × Addr × V) → Prop
  | nil : RepsD S G m [] []
  | cons {k x : PV} {r : List (PV × PV)} {a : Addr} {v : V} {es : List (NestedKey × Addr × V)} (hk : keyT k = true) (h1 : Rep S G m k (.ref a)) (h2 : Rep S G m x v) (hr : RepsD S G m r es) : RepsD S G m ((k, x) :: r) ((nkey k, a, v) :: es)
end

section
variable {S : Sy} {G G' H : Hp} {m m' : List Addr}
theorem sqT_mono {K : PySem.W.Frag} {a : Addr} {vs : List V} (le : ∀ b o, G b = some o → G' b = some o) (h : SqT K G a vs) : SqT K G' a vs := by
  rcases h with (h | ⟨o, h⟩) | h
  · exact .inl (.inl (le _ _ h))
  · exact .inl (.inr ⟨o, le _ _ h⟩)
  · exact .inr h
theorem sqL_mono {K : PySem.W.Frag} {a : Addr} {vs : List V} (le : ∀ b o, G b = some o → G' b = some o) (h : SqL K G a vs) : SqL K G' a vs := by
  rcases h with (h | ⟨o, h⟩) | h
  · exact .inl (.inl (le _ _ h))
  · exact .inl (.inr ⟨o, le _ _ h⟩)
  · exact .inr h
mutual
theorem Rep.mono {x : PV} {v : V} (h : Rep S G m x v) (le : ∀ b o, G b = some o → G' b = some o) (lm : ∃ t, m' = m ++ t) : Rep S G' m' x v := by
  cases h with
  | non => exact .non
  | bl b => exact .bl b
  | int i => exact .int i
  | str x => exact .str x
  | tup h r => exact .tup (sqT_mono le h) (r.mono le lm)
  | lst h r => exact .lst (le _ _ h) (r.mono le lm)
  | rol h r => exact .rol (sqL_mono le h) (r.mono le lm)
  | tpx h hd r => exact .tpx (le _ _ h) hd (r.mono le lm)
  | dct h r => exact .dct (le _ _ h) (r.mono le lm)
  | ref h =>
    obtain ⟨t, e⟩ := lm
    subst e
    exact .ref (by rw [List.getElem?_append_left (List.getElem?_eq_some_iff.mp h).1]; exact h)
  | fn h => exact .fn h
theorem Reps.mono {x : List PV} {v : List V} (h : Reps S G m x v) (le : ∀ b o, G b = some o → G' b = some o) (lm : ∃ t, m' = m ++ t) : Reps S G' m' x v := by
  cases h with
  | nil => exact .nil
  | cons h r => exact .cons (h.mono le lm) (r.mono le lm)
theorem RepsD.mono {x : List (PV × PV)} {v : List (NestedKey × Addr × V)} (h : RepsD S G m x v) (le : ∀ b o, G b = some o → G' b = some o) (lm : ∃ t, m' = m ++ t) : RepsD S G' m' x v := by
  cases h with
  | nil => exact .nil
  | cons hk h1 h2 hr => exact .cons hk (h1.mono le lm) (h2.mono le lm) (hr.mono le lm)
end
theorem Reps.length : ∀ {xs : List PV} {vs : List V}, Reps S G m xs vs → xs.length = vs.length
  | _, _, .nil => rfl
  | _, _, .cons _ r => by rw [List.length_cons, List.length_cons, r.length]
theorem Reps.get : ∀ {xs : List PV} {vs : List V} {i : Nat} {x : PV}, Reps S G m xs vs → xs[i]? = some x → ∃ v, vs[i]? = some v ∧ Rep S G m x v
  | _, _, _, _, .nil, e => by simp at e
  | _, _, 0, _, .cons h _, e => by simp at e; subst e; exact ⟨_, rfl, h⟩
  | _, _, i + 1, x, .cons _ r, e => by
    obtain ⟨v, h1, h2⟩ := Reps.get (i := i) (x := x) r (by simpa using e)
    exact ⟨v, by simpa using h1, h2⟩
theorem Reps.get' : ∀ {xs : List PV} {vs : List V} {i : Nat} {v : V}, Reps S G m xs vs → vs[i]? = some v → ∃ x, xs[i]? = some x ∧ Rep S G m x v
  | _, _, _, _, .nil, e => by simp at e
  | _, _, 0, _, .cons h _, e => by simp at e; subst e; exact ⟨_, rfl, h⟩
  | _, _, i + 1, x, .cons _ r, e => by
    obtain ⟨v, h1, h2⟩ := Reps.get' (i := i) (v := x) r (by simpa using e)
    exact ⟨v, by simpa using h1, h2⟩
theorem Reps.append : ∀ {xs ys : List PV} {vs ws : List V}, Reps S G m xs vs → Reps S G m ys ws → Reps S G m (xs ++ ys) (vs ++ ws)
  | _, _, _, _, .nil, h => h
  | _, _, _, _, .cons a r, h => .cons a (Reps.append r h)
theorem Reps.take : ∀ {xs : List PV} {vs : List V} (n : Nat), Reps S G m xs vs → Reps S G m (xs.take n) (vs.take n)
  | _, _, 0, _ => by simp; exact .nil
  | _, _, _ + 1, .nil => .nil
  | _, _, n + 1, .cons h r => .cons h (Reps.take n r)
theorem Reps.drop : ∀ {xs : List PV} {vs : List V} (n : Nat), Reps S G m xs vs → Reps S G m (xs.drop n) (vs.drop n)
  | _, _, 0, h => h
  | _, _, _ + 1, .nil => .nil
  | _, _, n + 1, .cons _ r => Reps.drop n r
theorem Reps.set : ∀ {xs : List PV} {vs : List V} {x : PV} {v : V} (i : Nat), Rep S G m x v → Reps S G m xs vs → Reps S G m (xs.set i x) (vs.set i v)
  | _, _, _, _, _, _, .nil => .nil
  | _, _, _, _, 0, h, .cons _ r => .cons h r
  | _, _, _, _, i + 1, h, .cons a r => .cons a (Reps.set i h r)
theorem Reps.repN {xs : List PV} {vs : List V} (h : Reps S G m xs vs) : ∀ n, Reps S G m (repN xs n) (List.replicate n vs).flatten
  | 0 => .nil
  | n + 1 => by rw [List.replicate_succ, List.flatten_cons]; exact h.append (Reps.repN h n)
/-- an operand: what an owned list or dict bears, read off the heap itself -/
inductive RepO (S : Sy) (G : Hp) (m : List Addr) (H : Hp) : PV → V → Prop
  | rep {x : PV} {v : V} (h : Rep S G m x v) : RepO S G m H x v
  | lst {a : Addr} {xs : List PV} {vs : List V} (h : H a = some (.lst vs)) (hm : a ∉ m) (r : Reps S G m xs vs) : RepO S G m H (.lst xs) (.ref a)
  | dct {a : Addr} {kvs : List (PV × PV)} {es : List (NestedKey × Addr × V)} (h : H a = some (DctO S.P S.w a es)) (hm : a ∉ m) (r : RepsD S G m kvs es) : RepO S G m H (.dct kvs) (.ref a)
/-- a list or a dict by value -/
def isObjP : PV → Bool
  | .lst _ => true
  | .dct _ => true
  | _ => false
/-- a new list, a new dict, that nobody else holds, or another value; H₀: the heap ahead -/
inductive RepF (S : Sy) (G : Hp) (m : List Addr) (H₀ H : Hp) : PV → V → Prop
  | val {x : PV} {v : V} (hx : isObjP x = false) (h : Rep S G m x v) : RepF S G m H₀ H x v
  | lst {a : Addr} {xs : List PV} {vs : List V} (h : H a = some (.lst vs)) (hm : a ∉ m) (hg : G a = none) (hn : H₀ a = none) (r : Reps S G m xs vs) : RepF S G m H₀ H (.lst xs) (.ref a)
  | dct {a : Addr} {kvs : List (PV × PV)} {es : List (NestedKey × Addr × V)} (h : H a = some (DctO S.P S.w a es)) (hm : a ∉ m) (hg : G a = none) (hn : H₀ a = none) (r : RepsD S G m kvs es) : RepF S G m H₀ H (.dct kvs) (.ref a)
end

/-! ### the world at a moment -/
def ntbl (o : HO) : Prop := ∀ ps, o ≠ .tbl ps
/-- a mutable object -/
inductive ObjR (S : Sy) (G : Hp) (m : List Addr) (H : Hp) (a : Addr) : AObj → Prop
  | lst {xs : List PV} {vs : List V} (h : H a = some (.lst vs)) (r : Reps S G m xs vs) : ObjR S G m H a (.lst xs)
  | ins {c : Str} {C dx : Addr} {fs : List (Str × PV)} {vs : List V} (hc : S.mg c = some (.ref C)) (h : H a = some (.ins C dx ((fs.map (·.1)).zip vs))) (r : Reps S G m (fs.map (·.2)) vs) : ObjR S G m H a (.ins c fs)
structure Wd (S : Sy) (G : Hp) (m : List Addr) (s : AS) (H : Hp) : Prop where
  le : ∀ a o, G a = some o → H a = some o ∧ a ∉ m ∧ ntbl o
  len : s.length = m.length
  nd : m.Nodup
  obj : ∀ (n : Nat) (a : Addr) (o : AObj), m[n]? = some a → s[n]? = some o → ObjR S G m H a o
  tab : LamX.Tabs S.T H
/-- from one moment to a later one -/
structure Ext (m m' : List Addr) (G G' H H' : Hp) : Prop where
  le : ∀ a o, G a = some o → G' a = some o
  pre : ∃ t, m' = m ++ t
  newm : ∀ a, a ∈ m' → a ∈ m ∨ H a = none
  newG : ∀ a o, G' a = some o → G a = some o ∨ H a = none
  keep : ∀ a o, H a = some o → a ∉ m → ntbl o → H' a = some o
  dom : ∀ a, H' a = none → H a = none
section
variable {S : Sy} {G G' G2 H H' H2 : Hp} {m m' m2 : List Addr} {s s' : AS}
theorem Ext.refl : Ext m m G G H H := ⟨fun _ _ h => h, ⟨[], by simp⟩, fun _ h => .inl h, fun _ _ h => .inl h, fun _ _ h _ _ => h, fun _ h => h⟩
theorem Ext.trans (a : Ext m m' G G' H H') (b : Ext m' m2 G' G2 H' H2) : Ext m m2 G G2 H H2 where
  le := fun x o h => b.le x o (a.le x o h)
  pre := by
    obtain ⟨t, e⟩ := a.pre
    obtain ⟨u, e2⟩ := b.pre
    exact ⟨t ++ u, by rw [e2, e, List.append_assoc]⟩
  newm := fun x h => by
    rcases b.newm x h with z | z
    · exact a.newm x z
    · exact .inr (a.dom x z)
  newG := fun x o h => by
    rcases b.newG x o h with z | z
    · exact a.newG x o z
    · exact .inr (a.dom x z)
  keep := fun x o h hm hn => by
    refine b.keep x o (a.keep x o h hm hn) (fun z => ?_) hn
    rcases a.newm x z with q | q
    · exact hm q
    · rw [h] at q; cases q
  dom := fun x h => a.dom x (b.dom x h)
theorem Rep.ext {x : PV} {v : V} (h : Rep S G m x v) (e : Ext m m' G G' H H') : Rep S G' m' x v := h.mono e.le e.pre
theorem Reps.ext {x : List PV} {v : List V} (h : Reps S G m x v) (e : Ext m m' G G' H H') : Reps S G' m' x v := h.mono e.le e.pre
theorem RepsD.ext {x : List (PV × PV)} {v : List (NestedKey × Addr × V)} (h : RepsD S G m x v) (e : Ext m m' G G' H H') : RepsD S G' m' x v := h.mono e.le e.pre
theorem Ext.notm {a : Addr} {o : HO} (e : Ext m m' G G' H H') (h : H a = some o) (hm : a ∉ m) : a ∉ m' := fun z => by
  rcases e.newm a z with q | q
  · exact hm q
  · rw [h] at q; cases q
theorem Ext.notG {a : Addr} {o : HO} (e : Ext m m' G G' H H') (h : H a = some o) (hg : G a = none) : G' a = none := by
  cases q : G' a with
  | none => rfl
  | some u =>
    rcases e.newG a u q with z | z
    · rw [hg] at z; cases z
    · rw [h] at z; cases z
theorem ntbl_lst {xs : List V} : ntbl (.lst xs) := fun _ h => nomatch h
theorem ntbl_tup {xs : List V} : ntbl (.tup xs) := fun _ h => nomatch h
theorem ntbl_dct {P : Program} {w : World} {a : Addr} {es : List (NestedKey × Addr × V)} : ntbl (DctO P w a es) := fun _ h => nomatch h
theorem RepO.ext {x : PV} {v : V} (h : RepO S G m H x v) (e : Ext m m' G G' H H') : RepO S G' m' H' x v := by
  cases h with
  | rep h => exact .rep (h.ext e)
  | lst h hm r => exact .lst (e.keep _ _ h hm ntbl_lst) (e.notm h hm) (r.ext e)
  | dct h hm r => exact .dct (e.keep _ _ h hm ntbl_dct) (e.notm h hm) (r.ext e)

/-! ### a frame's slots -/
/-- what slot i holds -/
def SlotOk (S : Sy) (G : Hp) (m : List Addr) (H₀ H : Hp) (a : Addr) : Sl → Option (Option V) → Prop
  | .no, _ => True
  | .sh x, o => ∃ v, o = some (some v) ∧ Rep S G m x v
  | .ow xs, o => o = some (some (.ref a)) ∧ (∃ vs, H a = some (.lst vs) ∧ Reps S G m xs vs) ∧ a ∉ m ∧ G a = none ∧ H₀ a = none
  | .od kvs, o => o = some (some (.ref a)) ∧ (∃ es, H a = some (DctO S.P S.w a es) ∧ RepsD S G m kvs es) ∧ a ∉ m ∧ G a = none ∧ H₀ a = none
def Sl.owns : Sl → Bool
  | .ow _ => true
  | .od _ => true
  | _ => false
/-- H₀: the heap at the def's entry (what is owned is younger) -/
structure FmOk (S : Sy) (G : Hp) (m : List Addr) (H₀ H : Hp) (r : Fm) (σ : L2.St) : Prop where
  len : r.length = σ.length
  ex : ∃ oa : Nat → Addr, (∀ i, SlotOk S G m H₀ H (oa i) (r.get i) σ[i]?) ∧ ∀ i j, (r.get i).owns = true → (r.get j).owns = true → oa i = oa j → i = j
theorem SlotOk.ext {H₀ : Hp} {a : Addr} {x : Sl} {o : Option (Option V)} (h : SlotOk S G m H₀ H a x o) (e : Ext m m' G G' H H') : SlotOk S G' m' H₀ H' a x o := by
  cases x with
  | no => trivial
  | sh x =>
    obtain ⟨v, h1, h2⟩ := h
    exact ⟨v, h1, h2.ext e⟩
  | ow xs =>
    obtain ⟨h1, ⟨vs, h2, h3⟩, h4, h5, h6⟩ := h
    exact ⟨h1, ⟨vs, e.keep _ _ h2 h4 ntbl_lst, h3.ext e⟩, e.notm h2 h4, e.notG h2 h5, h6⟩
  | od xs =>
    obtain ⟨h1, ⟨vs, h2, h3⟩, h4, h5, h6⟩ := h
    exact ⟨h1, ⟨vs, e.keep _ _ h2 h4 ntbl_dct, h3.ext e⟩, e.notm h2 h4, e.notG h2 h5, h6⟩
theorem FmOk.ext {H₀ : Hp} {r : Fm} {σ : L2.St} (h : FmOk S G m H₀ H r σ) (e : Ext m m' G G' H H') : FmOk S G' m' H₀ H' r σ := by
  obtain ⟨l, oa, h1, h2⟩ := h
  exact ⟨l, oa, fun i => (h1 i).ext e, h2⟩

/-! ### exceptions -/
/-- the exception's class and own dict -/
def ExcR (S : Sy) (G : Hp) (m : List Addr) (H : Hp) : Exc → Value → Option Addr → Prop
  | .mk c fs, cls, d => ∃ C, S.mg c = some (.ref C) ∧ cls = .ref C ∧ match fs with
    | [] => d = none
    | _ => ∃ da vs, d = some da ∧ H da = some (.xd ((fs.map (·.1)).zip vs)) ∧ Reps S G m (fs.map (·.2)) vs

/-! ### the judgements -/
/-- how a result stands: a new object, a value that is shared, an operand -/
inductive Md where
  | F | E | O
/-- how results stand: H₀ the heap ahead -/
abbrev RT (α β : Type) := Hp → Hp → List Addr → Hp → α → β → Prop
def RepM (S : Sy) : Md → RT PV V
  | .F, H₀, G, m, H, x, v => RepF S G m H₀ H x v
  | .E, _, G, m, _, x, v => Rep S G m x v
  | .O, _, G, m, H, x, v => RepO S G m H x v
def RepB : RT Bool Bool := fun _ _ _ _ x b => x = b
def RepA (S : Sy) : RT (List PV) (List V) := fun _ G m _ xs vs => Reps S G m xs vs
def RT.Good {α β : Type} (R : RT α β) : Prop := ∀ (H₀ H₁ G : Hp) (m : List Addr) (H : Hp) (x : α) (v : β), (∀ a, H₁ a = none → H₀ a = none) → R H₁ G m H x v → R H₀ G m H x v
theorem good_M (S : Sy) (k : Md) : (RepM S k).Good := by
  intro H₀ H₁ G m H x v hd h
  cases k with
  | F =>
    cases h with
    | val hx h => exact .val hx h
    | lst h hm hg hn r => exact .lst h hm hg (hd _ hn) r
    | dct h hm hg hn r => exact .dct h hm hg (hd _ hn) r
  | E => exact h
  | O => exact h
theorem good_B : RepB.Good := fun _ _ _ _ _ _ _ _ h => h
theorem good_A (S : Sy) : (RepA S).Good := fun _ _ _ _ _ _ _ _ h => h
/-- what is wanted behind code that began at (G, m, H) -/
def Post {α β : Type} (S : Sy) (R : RT α β) (G : Hp) (m : List Addr) (H : Hp) (res : Res α) (Q : β → Hp → Prop) (W : XK) : Prop := match res with
  | .ok x s => ∀ G' m' H' v, Ext m m' G G' H H' → Wd S G' m' s H' → R H G' m' H' x v → Q v H'
  | .exc e s => ∀ G' m' H' cls d, Ext m m' G G' H H' → Wd S G' m' s H' → ExcR S G' m' H' e cls d → W cls d H'
  | .stuck => False
/-- code goes on: from the middle to the end -/
theorem Post.later {α β : Type} {R : RT α β} (hR : R.Good) {res : Res α} {Q : β → Hp → Prop} {W : XK} (e : Ext m m' G G' H H') (h : Post S R G m H res Q W) : Post S R G' m' H' res Q W := by
  cases res with
  | ok x s => exact fun G2 m2 H2 v e2 wd r => h G2 m2 H2 v (e.trans e2) wd (hR _ _ _ _ _ _ _ e.dom r)
  | exc x s => exact fun G2 m2 H2 c d e2 wd r => h G2 m2 H2 c d (e.trans e2) wd r
  | stuck => exact h
/-- one step of a chain -/
theorem Post.step {α β γ δ : Type} {R : RT α β} {R' : RT γ δ} (hR : R.Good) {x : M γ} {f : γ → M α} {s : AS} {Q : β → Hp → Prop} {W : XK} (h : Post S R G m H (bnd x f s) Q W)
    {Q' : δ → Hp → Prop} (k : ∀ a s1 G1 m1 H1 v, Ext m m1 G G1 H H1 → Wd S G1 m1 s1 H1 → R' H G1 m1 H1 a v → Post S R G1 m1 H1 (f a s1) Q W → Q' v H1) : Post S R' G m H (x s) Q' W := by
  unfold bnd at h
  cases e : x s with
  | ok a s1 =>
    rw [e] at h
    exact fun G1 m1 H1 v e1 wd r => k a s1 G1 m1 H1 v e1 wd r (Post.later hR e1 h)
  | exc x' s1 =>
    rw [e] at h
    exact h
  | stuck =>
    rw [e] at h
    exact h
theorem Post.ret {α β : Type} {R : RT α β} {a : α} {Q : β → Hp → Prop} {W : XK} {v : β} (wd : Wd S G m s H) (r : R H G m H a v) (h : Post S R G m H (ret a s) Q W) : Q v H := h G m H v Ext.refl wd r
theorem Post.imp {α β : Type} {R R' : RT α β} {res : Res α} {Q Q' : β → Hp → Prop} {W : XK} (h : Post S R G m H res Q W) (hR : ∀ G' m' H' x v s', res = .ok x s' → Ext m m' G G' H H' → Wd S G' m' s' H' → R' H G' m' H' x v → ∃ G2, Ext m m' G G2 H H' ∧ Wd S G2 m' s' H' ∧ R H G2 m' H' x v) (hQ : ∀ v H', Q v H' → Q' v H') : Post S R' G m H res Q' W := by
  cases res with
  | ok x s =>
    intro G' m' H' v e wd r
    obtain ⟨G2, e2, wd2, r2⟩ := hR G' m' H' x v s rfl e wd r
    exact hQ _ _ (h G2 m' H' v e2 wd2 r2)
  | exc x s => exact h
  | stuck => exact h

/-- a moment inside a def's body: the frame's slots too -/
def At (S : Sy) (G : Hp) (m : List Addr) (s : AS) (H₀ H : Hp) (r : Fm) (σ : L2.St) : Prop := Wd S G m s H ∧ FmOk S G m H₀ H r σ
/-- readings by a denotation -/
def tDen {α β : Type} (S : Sy) (R : RT α β) (W : XK) (d : Fm → M α) : L2.St → Hp → (β → Hp → Prop) → Prop := fun σ H Q => ∃ G m s H₀ r, At S G m s H₀ H r σ ∧ Post S R G m H (d r s) Q W
abbrev tD (S : Sy) (k : Md) (W : XK) (d : Fm → M PV) : TE := tDen S (RepM S k) W d
abbrev tDT (S : Sy) (W : XK) (d : Fm → M PV) : TT := tDen S RepB W fun r => tb (d r)
abbrev tDA (S : Sy) (W : XK) (d : Fm → M (List PV)) : TA := tDen S (RepA S) W d
end
theorem _root_.L2.PE.imp {X : Cx} {e : Expr} {t t' : TE} (h : PE X e t) (hi : ∀ σ H Q, t' σ H Q → t σ H Q) : PE X e t' := ⟨fun pins s σ H Q I hw => h.run pins s σ H Q I (hi σ H Q hw)⟩
theorem _root_.L2.PT.imp {X : Cx} {e : Expr} {t t' : TT} (h : PT X e t) (hi : ∀ σ H Q, t' σ H Q → t σ H Q) : PT X e t' := ⟨fun pins s σ H Q I hw => h.run pins s σ H Q I (hi σ H Q hw)⟩
theorem _root_.L2.PA.imp {X : Cx} {e : List Expr} {t t' : TA} (h : PA X e t) (hi : ∀ σ H Q, t' σ H Q → t σ H Q) : PA X e t' := ⟨fun pos pins s σ H Q I hw => h.run pos pins s σ H Q I (hi σ H Q hw)⟩
theorem _root_.L2.PS.imp {X : Cx} {e : Stmt} {t t' : TS} (h : PS X e t) (hi : ∀ D σ H, t' D σ H → t D σ H) : PS X e t' := ⟨fun pins s σ H D I hw => h.run pins s σ H D I (hi D σ H hw)⟩
theorem _root_.L2.PSs.imp {X : Cx} {e : List Stmt} {t t' : TS} (h : PSs X e t) (hi : ∀ D σ H, t' D σ H → t D σ H) : PSs X e t' := ⟨fun pins s σ H D I hw => h.run pins s σ H D I (hi D σ H hw)⟩

/-! ### from a new object to a shared value, to an operand -/
section
variable {S : Sy} {G G' H H' : Hp} {m m' : List Addr} {s : AS}
theorem freezeG {a : Addr} {o : HO} (wd : Wd S G m s H) (e : H a = some o) (hm : a ∉ m) (hn : ntbl o) (hg : G a = none) : (∀ b u, G b = some u → upd G a o b = some u) ∧ Wd S (upd G a o) m s H := by
  have le : ∀ b u, G b = some u → upd G a o b = some u := fun b u h => by rw [upd_ne (ne_of_none h hg)]; exact h
  refine ⟨le, fun b u h => ?_, wd.len, wd.nd, fun n b u h1 h2 => ?_, wd.tab⟩
  · by_cases hb : b = a
    · subst hb; rw [upd_same] at h; cases h; exact ⟨e, hm, hn⟩
    · rw [upd_ne hb] at h; exact wd.le b u h
  · cases wd.obj n b u h1 h2 with
    | lst h r => exact .lst h (r.mono le ⟨[], by simp⟩)
    | ins hc h r => exact .ins hc h (r.mono le ⟨[], by simp⟩)
theorem Ext.freeze {H₀ : Hp} {G₀ : Hp} {m₀ : List Addr} {a : Addr} {o : HO} (e : Ext m₀ m G₀ G H₀ H) (hn : H₀ a = none) (hg : G a = none) : Ext m₀ m G₀ (upd G a o) H₀ H where
  le := fun b u h => by
    have h' := e.le b u h
    rw [upd_ne (ne_of_none h' hg)]; exact h'
  pre := e.pre
  newm := e.newm
  newG := fun b u h => by
    by_cases hb : b = a
    · subst hb; exact .inr hn
    · rw [upd_ne hb] at h; exact e.newG b u h
  keep := e.keep
  dom := e.dom
theorem ntbl_frz {o : Obj} {u : HO} : ntbl (.frz o u) := fun _ h => nomatch h
/-- an object is frozen and locked: H changes at a alone -/
theorem lockG {a : Addr} {o o' : HO} (wd : Wd S G m s H) (e : H a = some o) (hm : a ∉ m) (hn : ntbl o') (ho : ntbl o) (hc : ∀ q, H a ≠ some (LamX.CodeO a q)) (hg : G a = none) : (∀ b u, G b = some u → upd G a o' b = some u) ∧ Wd S (upd G a o') m s (upd H a o') := by
  have le : ∀ b u, G b = some u → upd G a o' b = some u := fun b u h => by rw [upd_ne (ne_of_none h hg)]; exact h
  have kp : ∀ b u, b ≠ a → H b = some u → upd H a o' b = some u := fun b u hb h => by rw [upd_ne hb]; exact h
  refine ⟨le, fun b u h => ?_, wd.len, wd.nd, fun n b u h1 h2 => ?_, fun p hp => ?_⟩
  · by_cases hb : b = a
    · subst hb; rw [upd_same] at h; cases h; exact ⟨upd_same, hm, hn⟩
    · rw [upd_ne hb] at h; exact ⟨kp b u hb (wd.le b u h).1, (wd.le b u h).2⟩
  · have hb : b ≠ a := fun z => hm (z ▸ List.mem_of_getElem? h1)
    cases wd.obj n b u h1 h2 with
    | lst h r => exact .lst (kp _ _ hb h) (r.mono le ⟨[], by simp⟩)
    | ins hc h r => exact .ins hc (kp _ _ hb h) (r.mono le ⟨[], by simp⟩)
  · obtain ⟨ps, h1, h2, h3⟩ := wd.tab p hp
    refine ⟨ps, kp _ _ (fun z => by rw [z, e] at h1; cases h1; exact ho _ rfl) h1, h2, fun pos cv hcv => ?_⟩
    obtain ⟨c, e1, e2⟩ := h3 pos cv hcv
    exact ⟨c, e1, kp _ _ (fun z => hc _ (by rw [← z]; exact e2)) e2⟩
theorem Ext.lock {H₀ : Hp} {G₀ : Hp} {m₀ : List Addr} {a : Addr} {o : HO} (e : Ext m₀ m G₀ G H₀ H) (hn : H₀ a = none) (hg : G a = none) : Ext m₀ m G₀ (upd G a o) H₀ (upd H a o) where
  le := (e.freeze hn hg (o := o)).le
  pre := e.pre
  newm := e.newm
  newG := (e.freeze hn hg (o := o)).newG
  keep := fun b u h h1 h2 => by rw [upd_ne (ne_of_none h hn)]; exact e.keep b u h h1 h2
  dom := fun b h => by
    by_cases hb : b = a
    · subst hb; exact hn
    · rw [upd_ne hb] at h; exact e.dom b h
/-- a wish for a value, or for what one gets by locking the dict that it is -/
def LQ (P : Program) (w : World) (Q : VK) : VK := fun v H => Q v H ∨ ∃ a es, v = .ref a ∧ H a = some (DctO P w a es) ∧ ∀ od, (∀ q, H a ≠ some (LamX.CodeO a q)) → Q v (upd H a (.frz od (DctO P w a es)))
/-- what is new may be frozen -/
theorem Post.frozen {x : Res PV} {Q : VK} {W : XK} (h : Post S (RepM S .E) G m H x Q W) : Post S (RepM S .F) G m H x (LQ S.P S.w Q) W := by
  cases x with
  | ok x s' =>
    intro G' m' H' v e wd r
    cases r with
    | val hx r => exact .inl (h G' m' H' _ e wd r)
    | @lst a xs vs g hm hg hn r =>
      obtain ⟨le, wd'⟩ := freezeG wd g hm ntbl_lst hg
      exact .inl (h _ _ _ _ (e.freeze hn hg) wd' (.lst upd_same (r.mono le ⟨[], by simp⟩)))
    | @dct a kvs es g hm hg hn r =>
      refine .inr ⟨a, es, rfl, g, fun od hc => ?_⟩
      obtain ⟨le, wd'⟩ := lockG (o' := .frz od (DctO S.P S.w a es)) wd g hm ntbl_frz ntbl_dct hc hg
      exact h _ _ _ _ (e.lock hn hg) wd' (.dct upd_same (r.mono le ⟨[], by simp⟩))
  | exc x s => exact h
  | stuck => exact h
theorem Post.operand {x : Res PV} {Q : VK} {W : XK} (h : Post S (RepM S .O) G m H x Q W) : Post S (RepM S .E) G m H x Q W :=
  h.imp (fun G' m' H' x v s' _ e wd r => ⟨G', e, wd, .rep r⟩) fun _ _ q => q
end
theorem dct_code {X : Cx} {pins : List (Addr × Obj)} {s : Shared} {σ : L2.St} {H : Hp} {a : Addr} {es : List (NestedKey × Addr × V)} {q : Str} (I : Inv X pins σ H s) (h : H a = some (DctO X.prog X.w a es)) (h' : H a = some (LamX.CodeO a q)) : False := by
  obtain ⟨⟨_, _, _, _, o, ds, ep, e1, _, e3, _⟩, _⟩ := I.hok a _ h
  obtain ⟨⟨oc, vs, t, f1, f2, _⟩, _⟩ := I.hok a _ h'
  rw [e1] at f1
  cases f1
  rw [e3] at f2
  cases f2
theorem pe_lockv {X : Cx} {e : Expr} {t : TE} (h : PE X e t) : PE X e (fun σ H Q => t σ H (LQ X.prog X.w Q)) := by
  refine ⟨fun pins s σ H Q I hw => thn (h.run pins s σ H _ I hw) fun v s1 ⟨x, H1, I1, r1, q1⟩ => ?_⟩
  rcases q1 with q1 | ⟨a, es, rfl, g, q1⟩
  · exact ⟨x, H1, I1, r1, q1⟩
  · obtain ⟨od, I2⟩ := I1.lock g True.intro
    exact ⟨_, _, I2, r1, q1 od fun q z => dct_code I1 g z⟩
theorem toO {S : Sy} {X : Cx} {e : Expr} {W : XK} {d : Fm → M PV} (h : PE X e (tD S .E W d)) : PE X e (tD S .O W d) := h.imp fun σ H Q ⟨G, m, s, H₀, r, a, p⟩ => ⟨G, m, s, H₀, r, a, p.operand⟩
end RP

/-! Fw2: the operators on abstract values. Own work. -/
namespace RP
open PySem PySem.Spec PyProof.Rows L2

abbrev sy (X : Cx) (T : List (Addr × Str)) : Sy := ⟨X.prog, X.w, X.K, X.mg, T⟩

theorem toE {X : Cx} {T : List (Addr × Str)} {e : Expr} {W : XK} {d : Fm → M PV} (h : PE X e (tD (sy X T) .F W d)) : PE X e (tD (sy X T) .E W d) := (pe_lockv h).imp fun σ H Q ⟨G, m, s, H₀, r, a, p⟩ => ⟨G, m, s, H₀, r, a, p.frozen⟩
theorem LIM_le : LIM ≤ sizeLine := by rw [sizeLine_eq]; decide

section
variable {S : Sy} {G G' H H' : Hp} {m m' : List Addr} {s : AS} {p : Addr} {o : HO}
/-! ### a new object -/
theorem Wd.keep1 (wd : Wd S G m s H) (hp : H p = none) : ∀ b u, H b = some u → upd H p o b = some u := fun b u h => by rw [upd_ne (ne_of_none h hp)]; exact h
theorem Wd.mem (wd : Wd S G m s H) {a : Addr} (h : a ∈ m) : ∃ o, H a = some o := by
  obtain ⟨n, hn, e⟩ := List.getElem_of_mem h
  have hs : n < s.length := by rw [wd.len]; exact hn
  have := wd.obj n a s[n] (by rw [List.getElem?_eq_getElem hn, e]) (List.getElem?_eq_getElem hs)
  generalize s[n] = q at this
  cases this with
  | lst h _ => exact ⟨_, h⟩
  | ins _ h _ => exact ⟨_, h⟩
theorem ObjR.keep {a : Addr} {ob : AObj} (h : ObjR S G m H a ob) (k : ∀ b u, H b = some u → H' b = some u) : ObjR S G m H' a ob := by
  cases h with
  | lst h r => exact .lst (k _ _ h) r
  | ins hc h r => exact .ins hc (k _ _ h) r
theorem ObjR.mono {a : Addr} {ob : AObj} (h : ObjR S G m H a ob) (le : ∀ b o, G b = some o → G' b = some o) (lm : ∃ t, m' = m ++ t) : ObjR S G' m' H a ob := by
  cases h with
  | lst h r => exact .lst h (r.mono le lm)
  | ins hc h r => exact .ins hc h (r.mono le lm)
theorem Wd.new (wd : Wd S G m s H) (hp : H p = none) : Wd S G m s (upd H p o) :=
  ⟨fun a u h => ⟨wd.keep1 hp a u (wd.le a u h).1, (wd.le a u h).2⟩, wd.len, wd.nd, fun n a u h1 h2 => (wd.obj n a u h1 h2).keep (wd.keep1 hp), wd.tab.ext (wd.keep1 hp)⟩
theorem Wd.Gnone (wd : Wd S G m s H) (hp : H p = none) : G p = none := by
  cases q : G p with
  | none => rfl
  | some u => have := (wd.le p u q).1; rw [hp] at this; cases this
theorem Wd.mnone (wd : Wd S G m s H) (hp : H p = none) : p ∉ m := fun h => by
  obtain ⟨o, e⟩ := wd.mem h
  rw [hp] at e; cases e
theorem Wd.newExt (wd : Wd S G m s H) (hp : H p = none) : Ext m m G G H (upd H p o) where
  le := fun _ _ h => h
  pre := ⟨[], by simp⟩
  newm := fun _ h => .inl h
  newG := fun _ _ h => .inl h
  keep := fun a u h _ _ => wd.keep1 hp a u h
  dom := fun a h => by
    by_cases e : a = p
    · subst e; exact hp
    · rw [upd_ne e] at h; exact h
/-- a new object of no one's -/
theorem fin_new {k : Md} {x : PV} {Q : VK} {W : XK} (wd : Wd S G m s H) (h : Post S (RepM S .F) G m H (ret x s) Q W) (hp : H p = none) (r : RepF S G m H (upd H p o) x (.ref p)) : Q (.ref p) (upd H p o) :=
  h G m (upd H p o) (.ref p) (wd.newExt hp) (wd.new hp) r
/-- a new object, frozen at once -/
theorem fin_frz {x : PV} {Q : VK} {W : XK} (wd : Wd S G m s H) (h : Post S (RepM S .E) G m H (ret x s) Q W) (hp : H p = none) (hn : ntbl o) (r : Rep S (upd G p o) m x (.ref p)) : Q (.ref p) (upd H p o) := by
  obtain ⟨_, wd'⟩ := freezeG (wd.new hp) upd_same (wd.mnone hp) hn (wd.Gnone hp)
  exact h (upd G p o) m (upd H p o) (.ref p) ((wd.newExt hp).freeze hp (wd.Gnone hp)) wd' r
theorem fin_lst {xs : List PV} {vs : List V} {Q : VK} {W : XK} (wd : Wd S G m s H) (h : Post S (RepM S .F) G m H (ret (.lst xs) s) Q W) (hp : H p = none) (r : Reps S G m xs vs) : Q (.ref p) (upd H p (.lst vs)) :=
  fin_new (k := .F) wd h hp (.lst upd_same (wd.mnone hp) (wd.Gnone hp) hp r)
theorem fin_tup {xs : List PV} {vs : List V} {Q : VK} {W : XK} (wd : Wd S G m s H) (h : Post S (RepM S .E) G m H (ret (.tup xs) s) Q W) (hp : H p = none) (r : Reps S G m xs vs) : Q (.ref p) (upd H p (.tup vs)) :=
  fin_frz wd h hp ntbl_tup (.tup (.inl (.inl upd_same)) (r.mono (fun b u q => by rw [upd_ne (ne_of_none q (wd.Gnone hp))]; exact q) ⟨[], by simp⟩))
theorem fin_val {x : PV} {v : V} {Q : VK} {W : XK} (wd : Wd S G m s H) (h : Post S (RepM S .E) G m H (ret x s) Q W) (r : Rep S G m x v) : Q v H := h.ret wd r
/-! ### what an operand is -/
theorem RepO.int' {i : Int} {v : V} (h : RepO S G m H (.int i) v) : v = .int i := by cases h with | rep h => cases h; rfl
theorem RepO.bl' {i : Bool} {v : V} (h : RepO S G m H (.bl i) v) : v = .bl i := by cases h with | rep h => cases h; rfl
theorem RepO.str' {i : Str} {v : V} (h : RepO S G m H (.str i) v) : v = .str i := by cases h with | rep h => cases h; rfl
theorem RepO.non' {v : V} (h : RepO S G m H .non v) : v = .non := by cases h with | rep h => cases h; rfl
theorem RepO.tup' (wd : Wd S G m s H) {xs : List PV} {v : V} (h : RepO S G m H (.tup xs) v) : ∃ a vs, v = .ref a ∧ SqT S.K G a vs ∧ SqT S.K H a vs ∧ Reps S G m xs vs := by
  cases h with
  | rep h => cases h with | tup h r => exact ⟨_, _, rfl, h, sqT_mono (fun b o q => (wd.le b o q).1) h, r⟩
theorem RepO.lst' (wd : Wd S G m s H) {xs : List PV} {v : V} (h : RepO S G m H (.lst xs) v) : ∃ a vs, v = .ref a ∧ H a = some (.lst vs) ∧ a ∉ m ∧ Reps S G m xs vs := by
  cases h with
  | rep h => cases h with | lst h r => exact ⟨_, _, rfl, (wd.le _ _ h).1, (wd.le _ _ h).2.1, r⟩
  | lst h hm r => exact ⟨_, _, rfl, h, hm, r⟩
theorem RepO.rol' (wd : Wd S G m s H) {xs : List PV} {v : V} (h : RepO S G m H (.rol xs) v) : ∃ a vs, v = .ref a ∧ SqL S.K H a vs ∧ Reps S G m xs vs := by
  cases h with
  | rep h => cases h with | rol h r => exact ⟨_, _, rfl, sqL_mono (fun b o q => (wd.le b o q).1) h, r⟩
theorem RepO.tpx' (wd : Wd S G m s H) {xs : List PV} {v : V} (h : RepO S G m H (.tpx xs) v) : ∃ a vs o, v = .ref a ∧ H a = some (.frz o (.tup vs)) ∧ o.dict = none ∧ SqT S.K G a vs ∧ SqT S.K H a vs ∧ Reps S G m xs vs := by
  cases h with
  | rep h => cases h with | tpx h hd r => exact ⟨_, _, _, rfl, (wd.le _ _ h).1, hd, .inl (.inr ⟨_, h⟩), .inl (.inr ⟨_, (wd.le _ _ h).1⟩), r⟩
theorem RepO.dct' (wd : Wd S G m s H) {xs : List (PV × PV)} {v : V} (h : RepO S G m H (.dct xs) v) : ∃ a es, v = .ref a ∧ Rd H a (DctO S.P S.w a es) ∧ a ∉ m ∧ RepsD S G m xs es := by
  cases h with
  | rep h => cases h with | dct h r => exact ⟨_, _, rfl, .inr ⟨_, (wd.le _ _ h).1⟩, (wd.le _ _ h).2.1, r⟩
  | dct h hm r => exact ⟨_, _, rfl, .inl h, hm, r⟩

/-! ### data for == -/
def toD : PV → PyData
  | .non => .none
  | .bl b => .bool b
  | .int i => .int i
  | .str x => .str x
  | .tup xs => .tuple (toDs xs)
  | .lst xs => .list (toDs xs)
  | _ => .none
where toDs : List PV → List PyData
  | [] => []
  | x :: xs => toD x :: toDs xs
theorem eqS_iff {x y : Str} : eqS x y = decide (x = y) := by
  unfold eqS
  by_cases h : x = y
  · subst h; simp
  · rw [decide_eq_false h]
    rw [beq_eq_false_iff_ne]
    intro e
    apply h
    cases x; cases y
    simp only [Str.mk.injEq]
    exact Array.toList_inj.mp e
mutual
theorem eqv_toD : ∀ (n : Nat) (x y : PV), dat n x = true → dat n y = true → PyData.eqv (toD x) (toD y) = eqP x y
  | n, .non, y, _, hy => by cases y <;> simp_all [toD, PyData.eqv, eqP, dat]
  | n, .bl a, y, _, hy => by cases y <;> simp_all [toD, PyData.eqv, eqP, dat, b2i]
  | n, .int a, y, _, hy => by cases y <;> simp_all [toD, PyData.eqv, eqP, dat, b2i]
  | n, .str a, y, _, hy => by cases y <;> simp_all [toD, PyData.eqv, eqP, dat, eqS_iff, Bool.beq_eq_decide_eq]
  | 0, .tup a, y, hx, hy => by simp [dat] at hx
  | 0, .lst a, y, hx, hy => by simp [dat] at hx
  | n + 1, .tup a, .tup b, hx, hy => by
    simp only [toD, PyData.eqv, eqP, dat] at *
    exact eqv_toDs n a b hx hy
  | n + 1, .lst a, .lst b, hx, hy => by
    simp only [toD, PyData.eqv, eqP, dat] at *
    exact eqv_toDs n a b hx hy
  | n + 1, .tup a, .non, hx, hy | n + 1, .tup a, .bl _, hx, hy | n + 1, .tup a, .int _, hx, hy | n + 1, .tup a, .str _, hx, hy | n + 1, .tup a, .lst _, hx, hy => by simp [toD, PyData.eqv, eqP]
  | n + 1, .lst a, .non, hx, hy | n + 1, .lst a, .bl _, hx, hy | n + 1, .lst a, .int _, hx, hy | n + 1, .lst a, .str _, hx, hy | n + 1, .lst a, .tup _, hx, hy => by simp [toD, PyData.eqv, eqP]
  | n + 1, .tup a, .dct _, hx, hy | n + 1, .tup a, .ref _, hx, hy | n + 1, .tup a, .fn _, hx, hy | n + 1, .tup a, .rol _, hx, hy | n + 1, .tup a, .tpx _, hx, hy => by simp [dat] at hy
  | n + 1, .lst a, .dct _, hx, hy | n + 1, .lst a, .ref _, hx, hy | n + 1, .lst a, .fn _, hx, hy | n + 1, .lst a, .rol _, hx, hy | n + 1, .lst a, .tpx _, hx, hy => by simp [dat] at hy
  | n, .dct _, y, hx, _ | n, .ref _, y, hx, _ | n, .fn _, y, hx, _ | n, .rol _, y, hx, _ | n, .tpx _, y, hx, _ => by simp [dat] at hx
theorem eqv_toDs : ∀ (n : Nat) (x y : List PV), dats n x = true → dats n y = true → PyData.eqvAll (toD.toDs x) (toD.toDs y) = eqPs x y
  | n, [], [], _, _ => rfl
  | n, [], _ :: _, _, _ => rfl
  | n, _ :: _, [], _, _ => rfl
  | n, a :: as, b :: bs, hx, hy => by
    simp only [toD.toDs, PyData.eqvAll, eqPs, dats, Bool.and_eq_true] at *
    rw [eqv_toD n a b hx.1 hy.1, eqv_toDs n as bs hx.2 hy.2]
end
mutual
theorem shaped_toD : ∀ (n : Nat) (x : PV), dat n x = true → (toD x).canLay0 = true ∧ (toD x).depth ≤ n
  | n, .non, _ => ⟨rfl, Nat.zero_le _⟩
  | n, .bl _, _ => ⟨rfl, Nat.zero_le _⟩
  | n, .int _, _ => ⟨rfl, Nat.zero_le _⟩
  | n, .str x, h => by
    refine ⟨?_, Nat.zero_le _⟩
    simp only [dat, strFine, Bool.and_eq_true, decide_eq_true_eq, List.all_eq_true] at h
    show PyData.strOk x = true
    unfold PyData.strOk
    rw [← Array.all_toList, List.all_eq_true]
    intro c hc
    have := h.2 c hc
    simp only [decide_eq_true_eq]
    omega
  | 0, .tup a, h => by simp [dat] at h
  | 0, .lst a, h => by simp [dat] at h
  | n + 1, .tup a, h => by
    simp only [dat] at h
    obtain ⟨h1, h2⟩ := shaped_toDs n a h
    exact ⟨h1, by simp only [toD, PyData.depth]; omega⟩
  | n + 1, .lst a, h => by
    simp only [dat] at h
    obtain ⟨h1, h2⟩ := shaped_toDs n a h
    exact ⟨h1, by simp only [toD, PyData.depth]; omega⟩
  | n, .dct _, hx | n, .ref _, hx | n, .fn _, hx | n, .rol _, hx | n, .tpx _, hx => by simp [dat] at hx
theorem shaped_toDs : ∀ (n : Nat) (x : List PV), dats n x = true → PyData.canLayAll0 (toD.toDs x) = true ∧ PyData.depthAll (toD.toDs x) ≤ n
  | n, [], _ => ⟨rfl, Nat.zero_le _⟩
  | n, x :: xs, h => by
    simp only [dats, Bool.and_eq_true] at h
    obtain ⟨h1, h2⟩ := shaped_toD n x h.1
    obtain ⟨h3, h4⟩ := shaped_toDs n xs h.2
    refine ⟨by simp only [toD.toDs, PyData.canLayAll0, h1, h3, Bool.and_self], ?_⟩
    simp only [toD.toDs, PyData.depthAll]
    omega
end
theorem shaped_of {x : PV} (h : dat DEP x = true) : SeqAt.shaped (toD x) = true := by
  obtain ⟨h1, h2⟩ := shaped_toD DEP x h
  unfold SeqAt.shaped
  rw [h1, decide_eq_true (show (toD x).depth ≤ 64 from Nat.le_trans h2 (by decide))]
  rfl
mutual
theorem Rep.dp (wd : Wd S G m s H) : ∀ (n : Nat) (x : PV) (v : V), dat n x = true → Rep S G m x v → Dp S.K H v (toD x)
  | n, .non, _, _, h => by cases h; exact .non
  | n, .bl _, _, _, h => by cases h; exact .bl _
  | n, .int _, _, _, h => by cases h; exact .int _
  | n, .str _, _, _, h => by cases h; exact .str _
  | 0, .tup _, _, d, _ | 0, .lst _, _, d, _ => by simp [dat] at d
  | n + 1, .tup xs, _, d, h => by
    cases h with | tup h r =>
    simp only [dat] at d
    exact .tup (sqT_mono (fun b o q => (wd.le b o q).1) h) (Reps.dp wd n xs _ d r)
  | n + 1, .lst xs, _, d, h => by
    cases h with | lst h r =>
    simp only [dat] at d
    exact .lst (.inl (.inl (wd.le _ _ h).1)) (Reps.dp wd n xs _ d r)
  | n, .dct _, _, hx, _ | n, .ref _, _, hx, _ | n, .fn _, _, hx, _ | n, .rol _, _, hx, _ | n, .tpx _, _, hx, _ => by simp [dat] at hx
theorem Reps.dp (wd : Wd S G m s H) : ∀ (n : Nat) (x : List PV) (v : List V), dats n x = true → Reps S G m x v → DpAll S.K H v (toD.toDs x)
  | n, [], _, _, h => by cases h; exact .nil
  | n, x :: xs, _, d, h => by
    cases h with | cons h r =>
    simp only [dats, Bool.and_eq_true] at d
    exact .cons (Rep.dp wd n x _ d.1 h) (Reps.dp wd n xs _ d.2 r)
end
theorem RepO.dp (wd : Wd S G m s H) (n : Nat) {x : PV} {v : V} (d : dat n x = true) (h : RepO S G m H x v) : Dp S.K H v (toD x) := by
  cases h with
  | rep h => exact h.dp wd n _ _ d
  | lst h hm r =>
    cases n with
    | zero => simp [dat] at d
    | succ n =>
      simp only [dat] at d
      exact .lst (.inl (.inl h)) (r.dp wd n _ _ d)
  | dct h hm r => cases n <;> simp [dat] at d

/-! ### < of data -/
theorem ltCps_iff : ∀ a b : List Nat, ltCps a b = decide (a < b)
  | [], [] => by simp [ltCps]
  | [], b :: bs => by simp [ltCps]
  | a :: as, [] => by simp [ltCps]
  | a :: as, b :: bs => by
    unfold ltCps
    rw [ltCps_iff as bs]
    by_cases h : a = b
    · subst h; simp [List.cons_lt_cons_iff]
    · rw [if_neg h]
      by_cases h2 : a < b
      · simp [List.cons_lt_cons_iff, h2]
      · simp [List.cons_lt_cons_iff, h2, h]
theorem lex_of {e r : Nat → Bool} : ∀ (xs ys : List PV) (i : Nat) (k : Bool), ltPs xs ys = some k → (∀ j x y, xs[j]? = some x → ys[j]? = some y → e (i + j) = eqP x y) →
    (∀ j x y b, xs[j]? = some x → ys[j]? = some y → ltP x y = some b → r (i + j) = b) → Ob.lexAt e r (decide (xs.length < ys.length)) i (min xs.length ys.length) = k
  | [], [], i, k, h, _, _ => by simp [ltPs] at h; subst h; rfl
  | [], y :: ys, i, k, h, _, _ => by simp [ltPs] at h; subst h; simp [Ob.lexAt]
  | x :: xs, [], i, k, h, _, _ => by simp [ltPs] at h; subst h; simp [Ob.lexAt]
  | x :: xs, y :: ys, i, k, h, he, hr => by
    unfold ltPs at h
    cases q : ltPs xs ys with
    | none => rw [q] at h; cases h
    | some k' =>
      rw [q] at h
      simp only at h
      have ih := lex_of (e := e) (r := r) xs ys (i + 1) k' q (fun j a b h1 h2 => by have := he (j + 1) a b (by simpa using h1) (by simpa using h2); rw [← this]; congr 1; omega) (fun j a b c h1 h2 h3 => by have := hr (j + 1) a b c (by simpa using h1) (by simpa using h2) h3; rw [← this]; congr 1; omega)
      have hm : min (x :: xs).length (y :: ys).length = min xs.length ys.length + 1 := by simp only [List.length_cons]; omega
      rw [hm, Ob.lexAt_succ]
      have hl : decide ((x :: xs).length < (y :: ys).length) = decide (xs.length < ys.length) := by simp
      rw [hl]
      have e0 := he 0 x y rfl rfl
      rw [Nat.add_zero] at e0
      rw [e0]
      by_cases c : eqP x y = true
      · rw [if_pos c] at h ⊢
        cases h
        exact ih
      · rw [if_neg c] at h ⊢
        have r0 := hr 0 x y k rfl rfl h
        rw [Nat.add_zero] at r0
        exact r0
theorem reads_get {h : Heap} : ∀ {vs : List Value} {ds : List PyData} {as : List Addr} {j : Nat} {v : Value}, ReadsAll h vs ds as → vs[j]? = some v → ∃ d bs, ds[j]? = some d ∧ Reads h v d bs
  | _, _, _, _, _, .nil, e => by simp at e
  | _, _, _, 0, _, .cons r _, e => by simp at e; subst e; exact ⟨_, _, rfl, r⟩
  | _, _, _, j + 1, v, .cons _ t, e => by
    obtain ⟨d, bs, h1, h2⟩ := reads_get (j := j) (v := v) t (by simpa using e)
    exact ⟨d, bs, by simpa using h1, h2⟩
theorem toDs_get : ∀ {xs : List PV} {j : Nat} {d : PyData}, (toD.toDs xs)[j]? = some d → ∃ x, xs[j]? = some x ∧ d = toD x
  | [], _, _, e => by simp [toD.toDs] at e
  | x :: xs, 0, d, e => by simp [toD.toDs] at e; exact ⟨x, rfl, e.symm⟩
  | x :: xs, j + 1, d, e => by
    simp only [toD.toDs, List.getElem?_cons_succ] at e
    obtain ⟨y, h1, h2⟩ := toDs_get e
    exact ⟨y, by simpa using h1, h2⟩
theorem dats_get : ∀ {n : Nat} {xs : List PV} {j : Nat} {x : PV}, dats n xs = true → xs[j]? = some x → dat n x = true
  | _, [], _, _, _, e => by simp at e
  | _, x :: xs, 0, y, h, e => by simp [dats] at h e; subst e; exact h.1
  | _, x :: xs, j + 1, y, h, e => by simp [dats] at h; exact dats_get h.2 (by simpa using e)
theorem toDs_len : ∀ xs : List PV, (toD.toDs xs).length = xs.length
  | [] => rfl
  | x :: xs => by simp [toD.toDs, toDs_len xs]
theorem ltPs_get : ∀ {xs ys : List PV} {j : Nat} {x y : PV} {k : Bool}, ltPs xs ys = some k → xs[j]? = some x → ys[j]? = some y → eqP x y = false → ∃ b, ltP x y = some b
  | [], _, _, _, _, _, _, e, _, _ => by simp at e
  | _ :: _, [], _, _, _, _, _, _, e, _ => by simp at e
  | a :: as, b :: bs, j, x, y, k, h, e1, e2, ne => by
    unfold ltPs at h
    cases q : ltPs as bs with
    | none => rw [q] at h; cases h
    | some k' =>
      rw [q] at h
      simp only at h
      cases j with
      | zero =>
        simp at e1 e2
        subst e1 e2
        rw [if_neg (by rw [ne]; decide)] at h
        exact ⟨_, h⟩
      | succ j => exact ltPs_get q (by simpa using e1) (by simpa using e2) ne
theorem rc_lt : ∀ (n : Nat) (x y : PV) (A : Around) (s : Shared) (a b : Value) (as bs : List Addr) (k : Bool), dat n x = true → dat n y = true → Reads s.heap a (toD x) as → Reads s.heap b (toD y) bs → ltP x y = some k → A.units + n < cLine → Ob.RcOp .Lt A s a b k
  | n, .int i, y, A, s, a, b, as, bs, k, hx, hy, ra, rb, h, hu => by
    cases y with
    | int j => simp [ltP] at h; subst h; cases ra; cases rb; exact Ob.RcOp.lt_int _ _ _ _
    | _ => simp [ltP] at h
  | n, .str i, y, A, s, a, b, as, bs, k, hx, hy, ra, rb, h, hu => by
    cases y with
    | str j =>
      simp only [ltP, Option.some.injEq] at h
      subst h
      cases ra; cases rb
      intro prog w E Q q
      rw [ltCps_iff] at q
      exact PySem.P.lt_str q
    | _ => simp [ltP] at h
  | 0, .tup xs, y, A, s, a, b, as, bs, k, hx, hy, ra, rb, h, hu => by simp [dat] at hx
  | n + 1, .tup xs, y, A, s, a, b, as, bs, k, hx, hy, ra, rb, h, hu => by
    cases y with
    | tup ys =>
      simp only [ltP] at h
      simp only [dat] at hx hy
      simp only [toD] at ra rb
      cases ra with
      | tuple a1 a2 a3 a4 =>
      cases rb with
      | tuple b1 b2 b3 b4 =>
        rename_i aa oa vsa na ba ob vsb nb
        have la : vsa.size = xs.length := by
          have := SeqAt.ReadsAll.length _ _ _ a4
          rw [toDs_len] at this; simpa using this
        have lb : vsb.size = ys.length := by
          have := SeqAt.ReadsAll.length _ _ _ b4
          rw [toDs_len] at this; simpa using this
        let e : Nat → Bool := fun j => eqP (xs.getD j .non) (ys.getD j .non)
        let r : Nat → Bool := fun j => (ltP (xs.getD j .non) (ys.getD j .non)).getD false
        have hu' : A.in1.units + n < cLine := by show A.units + 1 + n < _; omega
        have key : ∀ j (h1 : j < vsa.size) (h2 : j < vsb.size), ∃ x y ca cb, xs[j]? = some x ∧ ys[j]? = some y ∧ Reads s.heap vsa[j] (toD x) ca ∧ Reads s.heap vsb[j] (toD y) cb := by
          intro j h1 h2
          obtain ⟨d1, ca, q1, q2⟩ := reads_get (j := j) (v := vsa[j]) a4 (by simp [h1])
          obtain ⟨d2, cb, q3, q4⟩ := reads_get (j := j) (v := vsb[j]) b4 (by simp [h2])
          obtain ⟨x, e1, rfl⟩ := toDs_get q1
          obtain ⟨y, e2, rfl⟩ := toDs_get q3
          exact ⟨x, y, ca, cb, e1, e2, q2, q4⟩
        have R := Ob.RcOp.tuples_lt (A := A) (s := s) (e := e) (r := r) ⟨oa, a1, a2, na, a3⟩ ⟨ob, b1, b2, nb, b3⟩ (by omega) (fun j h1 h2 => by
          obtain ⟨x, y, ca, cb, e1, e2, q1, q2⟩ := key j h1 h2
          have dx := dats_get hx e1
          have dy := dats_get hy e2
          obtain ⟨cx, px⟩ := shaped_toD n x dx
          obtain ⟨cy, py⟩ := shaped_toD n y dy
          have z := SeqAt.eqAt_reads (toD x) (toD y) A.in1 s _ _ _ _ q1 q2 cx cy (by have : min (toD x).depth (toD y).depth ≤ n := Nat.le_trans (Nat.min_le_left _ _) px; omega)
          have ej : e j = eqP x y := by simp [e, e1, e2]
          rw [ej, ← eqv_toD n x y dx dy]
          exact z) (fun j h1 h2 ne => by
          obtain ⟨x, y, ca, cb, e1, e2, q1, q2⟩ := key j h1 h2
          have dx := dats_get hx e1
          have dy := dats_get hy e2
          have ej : e j = eqP x y := by simp [e, e1, e2]
          rw [ej] at ne
          obtain ⟨c, hc⟩ := ltPs_get h e1 e2 ne
          have rj : r j = c := by simp [r, e1, e2, hc]
          rw [rj]
          exact rc_lt n x y A.in1 s _ _ _ _ c dx dy q1 q2 hc hu')
        rw [la, lb, lex_of xs ys 0 k h (fun j x y h1 h2 => by simp [e, h1, h2]) (fun j x y b h1 h2 h3 => by simp [r, h1, h2, h3])] at R
        exact R
    | _ => simp [ltP] at h
  | n, .non, y, A, s, a, b, as, bs, k, hx, hy, ra, rb, h, hu | n, .bl _, y, A, s, a, b, as, bs, k, hx, hy, ra, rb, h, hu | n, .lst _, y, A, s, a, b, as, bs, k, hx, hy, ra, rb, h, hu | n, .rol _, y, A, s, a, b, as, bs, k, hx, hy, ra, rb, h, hu | n, .tpx _, y, A, s, a, b, as, bs, k, hx, hy, ra, rb, h, hu
  | n, .dct _, y, A, s, a, b, as, bs, k, hx, hy, ra, rb, h, hu | n, .ref _, y, A, s, a, b, as, bs, k, hx, hy, ra, rb, h, hu | n, .fn _, y, A, s, a, b, as, bs, k, hx, hy, ra, rb, h, hu => by simp [ltP] at h
end
end RP

/-! Fw3: operators on abstract values, as rules. Own work. -/
namespace RP
open PySem PySem.Spec PyProof.Rows L2

/-- no exception -/
abbrev W0 : XK := fun _ _ _ => False
/-- a two-place operation on abstract values -/
def rO2 (S : Sy) (k : Md) (f : PV → PV → Option PV) : R2 := fun x y H Q => ∃ G m s a b, Wd S G m s H ∧ RepO S G m H a x ∧ RepO S G m H b y ∧ Post S (RepM S k) G m H (opt (f a b) s) Q W0
def opOf : BO → Operator
  | .add => .Add
  | .sub => .Sub
  | .mul => .Mult
  | .mod => .Mod
  | .fdiv => .FloorDiv
  | .pow => .Pow
section
variable {X : Cx} {T : List (Addr × Str)}
section
variable {S : Sy} {G H : Hp} {m : List Addr} {s : AS} {k : Md}
theorem post_none {x : Option PV} {Q : VK} {W : XK} (e : x = none) (h : Post S (RepM S k) G m H (opt x s) Q W) : False := by subst e; exact h
theorem post_int {i : Int} {Q : VK} {W : XK} (wd : Wd S G m s H) (h : Post S (RepM S .F) G m H (ret (.int i) s) Q W) : Q (.int i) H := h.ret wd (.val rfl (.int i))
theorem post_bl {i : Bool} {Q : VK} {W : XK} (wd : Wd S G m s H) (h : Post S (RepM S .F) G m H (ret (.bl i) s) Q W) : Q (.bl i) H := h.ret wd (.val rfl (.bl i))
theorem post_frz {x : PV} {Q : VK} {W : XK} {p : Addr} {o : HO} (wd : Wd S G m s H) (hx : isObjP x = false) (h : Post S (RepM S .F) G m H (ret x s) Q W) (hp : H p = none) (hn : ntbl o) (r : Rep S (upd G p o) m x (.ref p)) : Q (.ref p) (upd H p o) := by
  obtain ⟨_, wd'⟩ := freezeG (wd.new hp) upd_same (wd.mnone hp) hn (wd.Gnone hp)
  exact h (upd G p o) m (upd H p o) (.ref p) ((wd.newExt hp).freeze hp (wd.Gnone hp)) wd' (.val hx r)
theorem post_tup {xs : List PV} {vs : List V} {Q : VK} {W : XK} {p : Addr} (wd : Wd S G m s H) (h : Post S (RepM S .F) G m H (ret (.tup xs) s) Q W) (hp : H p = none) (r : Reps S G m xs vs) : Q (.ref p) (upd H p (.tup vs)) :=
  post_frz wd rfl h hp ntbl_tup (.tup (.inl (.inl upd_same)) (r.mono (fun b u q => by rw [upd_ne (ne_of_none q (wd.Gnone hp))]; exact q) ⟨[], by simp⟩))
end
theorem op_binP (op : BO) : OpR X (binaryOp (opOf op)) (rO2 (sy X T) .F (binP op)) := by
  intro pins s σ H x y v u Q I rx ry h
  obtain ⟨G, m, st, a, b, wd, ra, rb, h⟩ := h
  have dead : binP op a b = none → wpAny (model X.prog X.w) X.A (binaryOp (opOf op) v u) (EP X pins σ Q) X.xe s := fun e => (post_none e h).elim
  cases op with
  | add =>
    cases a with
    | int i =>
      cases b with
      | int j =>
        obtain rfl := ra.int'
        obtain rfl := rb.int'
        exact op_add pins s σ H _ _ v u Q I rx ry ⟨i, j, rfl, rfl, post_int wd h⟩
      | _ => exact dead rfl
    | tup xs =>
      cases b with
      | tup ys =>
        obtain ⟨a, vs, rfl, ga, ha, r1⟩ := ra.tup' wd
        obtain ⟨b, ws, rfl, gb, hb, r2⟩ := rb.tup' wd
        by_cases hl : xs.length + ys.length ≤ LIM
        · have e : binP .add (.tup xs) (.tup ys) = some (.tup (xs ++ ys)) := by simp only [binP]; rw [if_pos hl]
          rw [e] at h
          refine op_catA pins s σ H _ _ v u Q I rx ry ⟨a, b, vs, ws, rfl, rfl, ha, hb, ?_, fun z => ?_, fun _ z => ?_, fun _ _ p hp => post_tup wd h hp (r1.append r2)⟩
          · rw [← r1.length, ← r2.length]; exact Nat.le_trans hl LIM_le
          · subst z
            have : xs = [] := by cases r1; rfl
            subst this
            exact h.ret wd (.val rfl (.tup gb r2))
          · subst z
            have : ys = [] := by cases r2; rfl
            subst this
            rw [List.append_nil] at h
            exact h.ret wd (.val rfl (.tup ga r1))
        · exact dead (by simp only [binP]; rw [if_neg hl])
      | _ => exact dead rfl
    | lst xs =>
      cases b with
      | lst ys =>
        obtain ⟨a, vs, rfl, ha, _, r1⟩ := ra.lst' wd
        obtain ⟨b, ws, rfl, hb, _, r2⟩ := rb.lst' wd
        by_cases hl : xs.length + ys.length ≤ LIM
        · have e : binP .add (.lst xs) (.lst ys) = some (.lst (xs ++ ys)) := by simp only [binP]; rw [if_pos hl]
          rw [e] at h
          exact op_cat pins s σ H _ _ v u Q I rx ry ⟨a, b, vs, ws, rfl, rfl, ha, hb, by rw [← r1.length, ← r2.length]; exact Nat.le_trans hl LIM_le, fun p hp => fin_lst wd h hp (r1.append r2)⟩
        · exact dead (by simp only [binP]; rw [if_neg hl])
      | _ => exact dead rfl
    | _ => exact dead rfl
  | sub =>
    cases a with
    | int i =>
      cases b with
      | int j =>
        obtain rfl := ra.int'
        obtain rfl := rb.int'
        exact op_sub pins s σ H _ _ v u Q I rx ry ⟨i, j, rfl, rfl, post_int wd h⟩
      | _ => exact dead rfl
    | _ => exact dead rfl
  | mul =>
    cases a with
    | int i =>
      cases b with
      | int j =>
        obtain rfl := ra.int'
        obtain rfl := rb.int'
        by_cases hw : (wide i && wide j) = true
        · have e : binP .mul (.int i) (.int j) = some (.int (i * j)) := by simp only [binP]; rw [if_pos hw]
          rw [e] at h
          simp only [wide, Bool.and_eq_true, decide_eq_true_eq] at hw
          exact op_mulW pins s σ H _ _ v u Q I rx ry ⟨i, j, rfl, rfl, wide_mul hw.1 hw.2 (by decide) (by decide) (by decide), post_int wd h⟩
        · exact dead (by simp only [binP]; rw [if_neg hw])
      | _ => exact dead rfl
    | tup xs =>
      cases b with
      | int j =>
        obtain ⟨a, vs, rfl, ga, ha, r1⟩ := ra.tup' wd
        obtain rfl := rb.int'
        by_cases hw : xs.isEmpty = false ∧ xs.length ≤ 1000 ∧ 2 ≤ j ∧ j ≤ 1000
        · have e : binP .mul (.tup xs) (.int j) = some (.tup (repN xs j.toNat)) := by simp only [binP]; rw [if_pos hw]
          rw [e] at h
          obtain ⟨h1, h2, h3, h4⟩ := hw
          exact op_repT pins s σ H _ _ v u Q I rx ry ⟨a, j, vs, rfl, rfl, ha, fun z => by
            subst z
            cases r1
            simp at h1, h3, h4, by rw [← r1.length]; exact h2, fun p hp => post_tup wd h hp (r1.repN _)⟩
        · exact dead (by simp only [binP]; rw [if_neg hw])
      | _ => exact dead rfl
    | lst xs =>
      cases b with
      | int j =>
        obtain ⟨a, vs, rfl, ha, _, r1⟩ := ra.lst' wd
        obtain rfl := rb.int'
        by_cases hw : (decide (xs.length * j.toNat ≤ LIM) && small j) = true
        · have e : binP .mul (.lst xs) (.int j) = some (.lst (repN xs j.toNat)) := by
            simp only [binP]
            rw [if_pos (by simpa using hw)]
          rw [e] at h
          simp only [small, Bool.and_eq_true, decide_eq_true_eq] at hw
          exact op_rep pins s σ H _ _ v u Q I rx ry ⟨a, j, vs, rfl, rfl, ha, by omega, by omega, by rw [← r1.length]; exact Nat.le_trans hw.1 LIM_le, fun p hp => fin_lst wd h hp (r1.repN _)⟩
        · exact dead (by simp only [binP]; rw [if_neg (by simpa using hw)])
      | _ => exact dead rfl
    | _ => exact dead rfl
  | mod =>
    cases a with
    | int i =>
      cases b with
      | int j =>
        obtain rfl := ra.int'
        obtain rfl := rb.int'
        by_cases hw : 0 < j
        · have e : binP .mod (.int i) (.int j) = some (.int (i % j)) := by simp only [binP]; rw [if_pos hw]
          rw [e] at h
          exact op_mod pins s σ H _ _ v u Q I rx ry ⟨i, j, rfl, rfl, hw, post_int wd h⟩
        · exact dead (by simp only [binP]; rw [if_neg hw])
      | _ => exact dead rfl
    | _ => exact dead rfl
  | fdiv =>
    cases a with
    | int i =>
      cases b with
      | int j =>
        obtain rfl := ra.int'
        obtain rfl := rb.int'
        by_cases hw : 0 < j ∧ j < 1073741824
        · have e : binP .fdiv (.int i) (.int j) = some (.int (i / j)) := by simp only [binP]; rw [if_pos hw]
          rw [e] at h
          exact op_fdiv pins s σ H _ _ v u Q I rx ry ⟨i, j, rfl, rfl, hw, post_int wd h⟩
        · exact dead (by simp only [binP]; rw [if_neg hw])
      | _ => exact dead rfl
    | _ => exact dead rfl
  | pow =>
    cases a with
    | int i =>
      cases b with
      | int j =>
        obtain rfl := ra.int'
        obtain rfl := rb.int'
        by_cases hw : 0 ≤ j ∧ j ≤ 100 ∧ i.natAbs < 100
        · have e : binP .pow (.int i) (.int j) = some (.int (i ^ j.toNat)) := by simp only [binP]; rw [if_pos hw]
          rw [e] at h
          exact op_pow pins s σ H _ _ v u Q I rx ry ⟨i, j, rfl, rfl, ⟨hw.1, by omega, by omega⟩, post_int wd h⟩
        · exact dead (by simp only [binP]; rw [if_neg hw])
      | _ => exact dead rfl
    | _ => exact dead rfl
end
end RP

/-! Fw4: dicts with tuple keys; comparisons. Own work. -/
namespace RP
open PySem PySem.Spec PyProof.Rows L2

/-! ### keys -/
mutual
theorem nkey_eq : ∀ (n : Nat) (x y : PV), keyOk n x = true → keyOk n y = true → decide (nkey x = nkey y) = PV.beq x y
  | n, .non, y, _, hy => by cases y <;> simp_all [nkey, PV.beq, keyOk]
  | n, .int a, y, _, hy => by cases y <;> simp_all [nkey, PV.beq, keyOk, Bool.beq_eq_decide_eq]
  | n, .str a, y, _, hy => by cases y <;> simp_all [nkey, PV.beq, keyOk, eqS_iff]
  | 0, .tup a, y, hx, hy => by simp [keyOk] at hx
  | n + 1, .tup a, .tup b, hx, hy => by
    simp only [nkey, PV.beq, keyOk] at *
    rw [← nkeys_eq n a b hx hy]
    simp
  | n + 1, .tup a, .non, hx, hy | n + 1, .tup a, .int _, hx, hy | n + 1, .tup a, .str _, hx, hy => by simp [nkey, PV.beq]
  | n + 1, .tup a, .bl _, hx, hy | n + 1, .tup a, .lst _, hx, hy | n + 1, .tup a, .rol _, hx, hy | n + 1, .tup a, .tpx _, hx, hy | n + 1, .tup a, .dct _, hx, hy | n + 1, .tup a, .ref _, hx, hy | n + 1, .tup a, .fn _, hx, hy => by simp [keyOk] at hy
  | n, .bl _, y, hx, _ | n, .lst _, y, hx, _ | n, .rol _, y, hx, _ | n, .tpx _, y, hx, _ | n, .dct _, y, hx, _ | n, .ref _, y, hx, _ | n, .fn _, y, hx, _ => by simp [keyOk] at hx
theorem nkeys_eq : ∀ (n : Nat) (x y : List PV), keyOks n x = true → keyOks n y = true → decide (nkeys x = nkeys y) = PV.beqs x y
  | n, [], [], _, _ => by simp [nkeys, PV.beqs]
  | n, [], _ :: _, _, _ => by simp [nkeys, PV.beqs]
  | n, _ :: _, [], _, _ => by simp [nkeys, PV.beqs]
  | n, a :: as, b :: bs, hx, hy => by
    simp only [keyOks, Bool.and_eq_true] at hx hy
    simp only [nkeys, PV.beqs, ← nkey_eq n a b hx.1 hy.1, ← nkeys_eq n as bs hx.2 hy.2, List.cons.injEq]
    by_cases h : nkey a = nkey b <;> simp [h]
end
theorem keyT_key {x : PV} (h : keyT x = true) : keyOk 8 x = true := by unfold keyT at h; rw [Bool.and_eq_true] at h; exact h.2
theorem nkey_iff {x y : PV} (hx : keyT x = true) (hy : keyT y = true) : (nkey x = nkey y) ↔ PV.beq x y = true := by
  rw [← nkey_eq 8 x y (keyT_key hx) (keyT_key hy), decide_eq_true_eq]
mutual
theorem nkey_depth : ∀ (n : Nat) (x : PV), keyOk n x = true → (nkey x).depth ≤ n
  | n, .non, _ | n, .int _, _ | n, .str _, _ => Nat.zero_le _
  | 0, .tup a, hx => by simp [keyOk] at hx
  | n + 1, .tup a, hx => by
    simp only [keyOk] at hx
    have := nkeys_depth n a hx
    simp only [nkey, NestedKey.depth]
    omega
  | n, .bl _, hx | n, .lst _, hx | n, .rol _, hx | n, .tpx _, hx | n, .dct _, hx | n, .ref _, hx | n, .fn _, hx => by simp [keyOk] at hx
theorem nkeys_depth : ∀ (n : Nat) (x : List PV), keyOks n x = true → NestedKey.depthAll (nkeys x) ≤ n
  | n, [], _ => Nat.zero_le _
  | n, x :: xs, h => by
    simp only [keyOks, Bool.and_eq_true] at h
    have h1 := nkey_depth n x h.1
    have h2 := nkeys_depth n xs h.2
    simp only [nkeys, NestedKey.depthAll]
    omega
end
section
variable {X : Cx} {T : List (Addr × Str)} {pins : List (Addr × Obj)} {σ : L2.St} {H G : Hp} {m : List Addr} {s : Shared} {st : AS}
mutual
theorem nested_of (I : Inv X pins σ H s) (le : ∀ b o, G b = some o → H b = some o) : ∀ (n : Nat) (x : PV) (v : V) (u : Value), keyOk n x = true → Rep (sy X T) G m x v → RelV v u → NestedIs s.heap (nkey x) u
  | n, .non, _, _, _, h, r => by cases h; cases r; exact .none
  | n, .int i, _, _, _, h, r => by cases h; obtain ⟨t, rfl⟩ := r; exact .int i t
  | n, .str i, _, _, _, h, r => by cases h; obtain ⟨t, rfl⟩ := r; exact .text i t
  | 0, .tup a, _, _, hx, _, _ => by simp [keyOk] at hx
  | n + 1, .tup a, _, _, hx, h, r => by
    cases h with | tup h rs =>
    cases r
    simp only [keyOk] at hx
    obtain ⟨its, rv, ⟨o, e, hc, k, hd⟩, _⟩ := I.tuple (sqT_mono le h)
    exact .tup e hc hd (nesteds_of I le n a _ its hx rs rv)
  | n, .bl _, _, _, hx, _, _ | n, .lst _, _, _, hx, _, _ | n, .rol _, _, _, hx, _, _ | n, .tpx _, _, _, hx, _, _ | n, .dct _, _, _, hx, _, _ | n, .ref _, _, _, hx, _, _ | n, .fn _, _, _, hx, _, _ => by simp [keyOk] at hx
theorem nesteds_of (I : Inv X pins σ H s) (le : ∀ b o, G b = some o → H b = some o) : ∀ (n : Nat) (x : List PV) (v : List V) (u : List Value), keyOks n x = true → Reps (sy X T) G m x v → Vals v u → NestedAll s.heap (nkeys x) u
  | n, [], _, _, _, h, r => by cases h; cases r; exact .nil
  | n, x :: xs, _, _, hx, h, r => by
    simp only [keyOks, Bool.and_eq_true] at hx
    cases h with | cons h hs =>
    cases r with | cons r rs =>
    exact .cons (nested_of I le n x _ _ hx.1 h r) (nesteds_of I le n xs _ _ hx.2 hs rs)
end
theorem key_is (I : Inv X pins σ H s) (le : ∀ b o, G b = some o → H b = some o) {x : PV} {a : Addr} (hk : keyT x = true) (h : Rep (sy X T) G m x (.ref a)) : (nestedKind X.prog X.w).is s.heap (nkey x) a :=
  ⟨nested_of I le 8 x _ _ (keyT_key hk) h rfl, nkey_depth 8 x (keyT_key hk)⟩
/-- how the entries' values lie -/
abbrev EsAre : List (NestedKey × Addr × V) → List (NestedKey × Addr × Value) → Prop := Paired fun p q => p.1 = q.1 ∧ p.2.1 = q.2.1 ∧ RelV p.2.2 q.2.2
theorem es_is (I : Inv X pins σ H s) (le : ∀ b o, G b = some o → H b = some o) : ∀ {kvs : List (PV × PV)} {es : List (NestedKey × Addr × V)} {xs : List (NestedKey × Addr × Value)}, RepsD (sy X T) G m kvs es → EsAre es xs →
    ∀ x ∈ xs, (nestedKind X.prog X.w).is s.heap x.1 x.2.1
  | _, _, _, .nil, .nil, _, hx => by simp at hx
  | _, _, _, .cons hk h1 h2 hr, .cons q t, x, hx => by
    rcases List.mem_cons.mp hx with z | z
    · subst z
      obtain ⟨q1, q2, _⟩ := q
      simp only at q1 q2
      rw [← q1, ← q2]
      exact key_is I le hk h1
    · exact es_is I le hr t x z
def _root_.L2.HO.elim' : HO → Heap → Prop
  | .ext f, h => f h
  | _, _ => True
theorem dct_of (I : Inv X pins σ H s) (le : ∀ b o, G b = some o → H b = some o) {a : Addr} {kvs : List (PV × PV)} {es : List (NestedKey × Addr × V)} (h : Rd H a (DctO X.prog X.w a es)) (r : RepsD (sy X T) G m kvs es) :
    es.length ≤ sizeLine ∧ (a == sysModules) = false ∧ ∃ xs, EsAre es xs ∧ s.heap.DictOfH (nestedKind X.prog X.w) a xs := by
  have key : (DctO X.prog X.w a es).elim' s.heap := by
    rcases h with h | ⟨o, h⟩
    · exact (I.hok a _ h).1
    · exact (I.hok a _ h).2.1
  obtain ⟨hl, hs, xs, rx, o, ds, ep, e1, e2, e3, e4, e5⟩ := key
  exact ⟨hl, hs, xs, rx, o, ds, ep, e1, e2, e3, e4, es_is I le r rx, e5⟩
theorem atKey_cons (p : NestedKey × Addr × Value) (xs : List (NestedKey × Addr × Value)) (k : NestedKey) : atKey (p :: xs) k = if p.1 = k then some p.2 else atKey xs k := by
  unfold atKey
  by_cases h : p.1 = k
  · simp [h]
  · simp [h]
/-- the look-up -/
theorem look_of {S : Sy} {k : PV} (hk : keyT k = true) : ∀ {kvs : List (PV × PV)} {es : List (NestedKey × Addr × V)} {xs : List (NestedKey × Addr × Value)}, RepsD S G m kvs es → EsAre es xs →
    (∀ x, lookP k kvs = some x → ∃ b u v, atKey xs (nkey k) = some (b, u) ∧ Rep S G m x v ∧ RelV v u) ∧ (lookP k kvs = none → atKey xs (nkey k) = none)
  | _, _, _, .nil, .nil => ⟨fun _ h => by simp [lookP] at h, fun _ => rfl⟩
  | _, _, _, .cons (k := k') hk' h1 h2 hr, .cons q t => by
    obtain ⟨q1, q2, q3⟩ := q
    obtain ⟨ih1, ih2⟩ := look_of hk hr t
    simp only at q1 q2 q3
    rw [atKey_cons, ← q1]
    unfold lookP
    by_cases c : PV.beq k' k = true
    · rw [if_pos ((nkey_iff hk' hk).mpr c)]
      simp only [c, if_true]
      exact ⟨fun x e => by cases e; exact ⟨_, _, _, rfl, h2, q3⟩, fun e => nomatch e⟩
    · rw [if_neg (fun z => c ((nkey_iff hk' hk).mp z))]
      simp only [c]
      exact ⟨ih1, ih2⟩
theorem any_of {S : Sy} {k : PV} (hk : keyT k = true) : ∀ {kvs : List (PV × PV)} {es : List (NestedKey × Addr × V)} {xs : List (NestedKey × Addr × Value)}, RepsD S G m kvs es → EsAre es xs →
    (atKey xs (nkey k)).isSome = kvs.any fun kv => PV.beq kv.1 k
  | _, _, _, .nil, .nil => rfl
  | _, _, _, .cons (k := k') hk' h1 h2 hr, .cons q t => by
    obtain ⟨q1, q2, q3⟩ := q
    have ih := any_of hk hr t
    simp only at q1 q2 q3
    rw [atKey_cons, ← q1, List.any_cons]
    by_cases c : PV.beq k' k = true
    · rw [if_pos ((nkey_iff hk' hk).mpr c)]
      simp [c]
    · rw [if_neg (fun z => c ((nkey_iff hk' hk).mp z)), ih]
      simp [c]
theorem RepsD.length {S : Sy} : ∀ {kvs : List (PV × PV)} {es : List (NestedKey × Addr × V)}, RepsD S G m kvs es → kvs.length = es.length
  | _, _, .nil => rfl
  | _, _, .cons _ _ _ r => by rw [List.length_cons, List.length_cons, r.length]
/-- the store -/
theorem put_map {S : Sy} {k x : PV} {v : V} {u : Value} (hk : keyT k = true) (rx : Rep S G m x v) (rv : RelV v u) : ∀ {kvs : List (PV × PV)} {es : List (NestedKey × Addr × V)} {xs : List (NestedKey × Addr × Value)}, RepsD S G m kvs es → EsAre es xs →
    ∃ es', RepsD S G m (kvs.map fun kv => if PV.beq kv.1 k then (kv.1, x) else kv) es' ∧ EsAre es' (xs.map (putAt (nkey k) u)) ∧ es'.length = es.length
  | _, _, _, .nil, .nil => ⟨[], .nil, .nil, rfl⟩
  | _, _, _, .cons (k := k') (a := a) (v := v') hk' h1 h2 hr, .cons q t => by
    obtain ⟨q1, q2, q3⟩ := q
    obtain ⟨es', r1, r2, r3⟩ := put_map hk rx rv hr t
    simp only at q1 q2 q3
    by_cases c : PV.beq k' k = true
    · refine ⟨(nkey k', a, v) :: es', ?_, ?_, by simp [r3]⟩
      · simp only [List.map_cons, c, if_true]
        exact .cons hk' h1 rx r1
      · rw [List.map_cons]
        unfold putAt
        rw [if_pos (by rw [← q1]; exact (nkey_iff hk' hk).mpr c)]
        exact .cons ⟨q1, q2, rv⟩ r2
    · refine ⟨(nkey k', a, v') :: es', ?_, ?_, by simp [r3]⟩
      · simp only [List.map_cons, c]
        exact .cons hk' h1 h2 r1
      · rw [List.map_cons]
        unfold putAt
        rw [if_neg (by rw [← q1]; exact fun z => c ((nkey_iff hk' hk).mp z))]
        exact .cons ⟨q1, q2, q3⟩ r2
theorem RepsD.append {S : Sy} : ∀ {a b : List (PV × PV)} {x y : List (NestedKey × Addr × V)}, RepsD S G m a x → RepsD S G m b y → RepsD S G m (a ++ b) (x ++ y)
  | _, _, _, _, .nil, h => h
  | _, _, _, _, .cons hk h1 h2 hr, h => .cons hk h1 h2 (RepsD.append hr h)
theorem paired_append {α β : Type} {R : α → β → Prop} : ∀ {a b : List α} {x y : List β}, Paired R a x → Paired R b y → Paired R (a ++ b) (x ++ y)
  | _, _, _, _, .nil, h => h
  | _, _, _, _, .cons q t, h => .cons q (paired_append t h)
theorem put_of {S : Sy} {k x : PV} {b : Addr} {v : V} {u : Value} (hk : keyT k = true) (rk : Rep S G m k (.ref b)) (rx : Rep S G m x v) (rv : RelV v u) {kvs : List (PV × PV)} {es : List (NestedKey × Addr × V)} {xs : List (NestedKey × Addr × Value)} (r : RepsD S G m kvs es) (e : EsAre es xs) :
    ∃ es', RepsD S G m (putP kvs k x) es' ∧ EsAre es' (storedH xs (nkey k) b u) ∧ es'.length ≤ es.length + 1 := by
  have ha := any_of hk r e
  unfold putP storedH
  rw [ha]
  by_cases c : (kvs.any fun kv => PV.beq kv.1 k) = true
  · rw [if_pos c, if_pos c]
    obtain ⟨es', r1, r2, r3⟩ := put_map hk rx rv r e
    exact ⟨es', r1, r2, by omega⟩
  · rw [if_neg c, if_neg c]
    exact ⟨es ++ [(nkey k, b, v)], r.append (.cons hk rk rx .nil), paired_append e (.cons ⟨rfl, rfl, rv⟩ .nil), by simp⟩
/-- d[k] = v, an owned dict -/
theorem dct_put {A : Around} {E : Value → Shared → Prop} {Q : Unit → Shared → Prop} (hu : A.units + 9 < cLine) (I : Inv X pins σ H s) (le : ∀ b o, G b = some o → H b = some o) {a b : Addr} {k x : PV} {v : V} {u : Value} {kvs : List (PV × PV)} {es : List (NestedKey × Addr × V)}
    (h : H a = some (DctO X.prog X.w a es)) (hz : es.length < sizeLine) (r : RepsD (sy X T) G m kvs es) (hk : keyT k = true) (rk : Rep (sy X T) G m k (.ref b)) (rx : Rep (sy X T) G m x v) (rv : RelV v u)
    (hq : ∀ es' s', Inv X pins σ (upd H a (DctO X.prog X.w a es')) s' → RepsD (sy X T) G m (putP kvs k x) es' → es'.length ≤ es.length + 1 → Q () s') : wpAny (model X.prog X.w) A (setItem (.ref a) (.ref b) u) Q E s := by
  obtain ⟨hl, hs, xs, ex, hd⟩ := dct_of I le (.inl h) r
  have hlen : es.length = xs.length := Paired.length ex
  refine wpAny_setItem_heap (hsz := by omega) (show A.units + 1 + 8 < cLine by omega) (key_is I le hk rk) hd fun h' hd' sb => ?_
  obtain ⟨es', r1, r2, r3⟩ := put_of hk rk rx rv r ex
  refine hq es' _ ?_ r1 r3
  obtain ⟨o, ds, ep, e1, e2, e3, e4, e5, e6⟩ := hd'
  refine d_write I (by rw [h]; exact True.intro) sb ⟨o, e1⟩ ?_
  refine ⟨⟨by omega, hs, _, r2, o, ds, ep, e1, e2, e3, e4, e6⟩, ⟨o, e1⟩, fun h1 h2 q st => ?_⟩
  obtain ⟨q1, q2, ys, q3, o', ds', ep', q4, q5⟩ := q
  exact ⟨q1, q2, ys, q3, o', ds', ep', st _ q4, q5⟩
/-- d[k] -/
theorem dct_get {A : Around} {E : Value → Shared → Prop} {Q : Value → Shared → Prop} (hu : A.units + 9 < cLine) (I : Inv X pins σ H s) (le : ∀ b o, G b = some o → H b = some o) {a b : Addr} {k x : PV} {kvs : List (PV × PV)} {es : List (NestedKey × Addr × V)}
    (h : Rd H a (DctO X.prog X.w a es)) (r : RepsD (sy X T) G m kvs es) (hk : keyT k = true) (rk : Rep (sy X T) G m k (.ref b)) (hx : lookP k kvs = some x)
    (hq : ∀ v u s', Inv X pins σ H s' → Rep (sy X T) G m x v → RelV v u → Q u s') : wpAny (model X.prog X.w) A (getItem (.ref a) (.ref b)) Q E s := by
  obtain ⟨hl, hs, xs, ex, hd⟩ := dct_of I le h r
  obtain ⟨c, u, v, e1, e2, e3⟩ := (look_of hk r ex).1 x hx
  exact wpAny_getItem_heap (show A.units + 1 + 8 < cLine by omega) (key_is I le hk rk) hd e1 (hq v u _ (I.tok _) e2 e3)
theorem dct_in {A : Around} {E : Value → Shared → Prop} {Q : Value → Shared → Prop} (hu : A.units + 9 < cLine) (I : Inv X pins σ H s) (le : ∀ b o, G b = some o → H b = some o) {a b : Addr} {k : PV} {kvs : List (PV × PV)} {es : List (NestedKey × Addr × V)}
    (h : Rd H a (DctO X.prog X.w a es)) (r : RepsD (sy X T) G m kvs es) (hk : keyT k = true) (rk : Rep (sy X T) G m k (.ref b)) (neg : Bool)
    (hq : ∀ s', Inv X pins σ H s' → Q (.bool (if neg then !(kvs.any fun kv => PV.beq kv.1 k) else kvs.any fun kv => PV.beq kv.1 k)) s') : wpAny (model X.prog X.w) A (compareOp (if neg then .NotIn else .In) (.ref b) (.ref a)) Q E s := by
  obtain ⟨hl, hs, xs, ex, hd⟩ := dct_of I le h r
  have ha := any_of hk r ex
  have hq := hq { s with toks := s.toks + (nestedKind X.prog X.w).draws (nkey k) } (I.tok _)
  rw [← ha] at hq
  cases neg with
  | false => exact wpAny_in_heap (show A.units + 1 + 8 < cLine by omega) (key_is I le hk rk) hs hd hq
  | true =>
    have hm : s.heap.DictKeyed (nestedKind X.prog X.w) a (pairsH xs) := ⟨xs, hd, rfl⟩
    refine notIn_keyed (show A.units + 1 + 8 < cLine by omega) (key_is I le hk rk) hs hm ?_
    rw [valueAt_pairsH, Option.isSome_map]
    exact hq
end
end RP

/-! Fw5: comparisons, subscripts, slices, built-ins. Own work. -/
namespace RP
open PySem PySem.Spec PyProof.Rows L2

def copOf : CO → CmpOp
  | .eq => .Eq
  | .ne => .NotEq
  | .lt => .Lt
  | .le => .LtE
  | .gt => .Gt
  | .ge => .GtE
  | .isin => .In
  | .notin => .NotIn
theorem any_toDs {n : Nat} {x : PV} (hx : dat n x = true) : ∀ ys : List PV, dats n ys = true → ((toD.toDs ys).any fun z => PyData.eqv z (toD x)) = ys.any fun y => eqP y x
  | [], _ => rfl
  | y :: ys, h => by
    simp only [dats, Bool.and_eq_true] at h
    simp only [toD.toDs, List.any_cons, eqv_toD n y x h.1 hx, any_toDs hx ys h.2]
section
variable {X : Cx} {T : List (Addr × Str)}
theorem room_in (A : Around) (d : PyData) (n : Nat) (hd : SeqAt.shaped d = true) (hu : A.units + 200 < cLine) : A.units + 1 + min n d.depth < cLine := by
  have h1 := SeqAt.depth_of_shaped hd
  have h2 : min n d.depth ≤ d.depth := Nat.min_le_right _ _
  omega
/-- x in a list or a tuple -/
theorem op_inseq (hu : X.A.units + 200 < cLine) (neg : Bool) {pins : List (Addr × Obj)} {s : Shared} {σ : L2.St} {H G : Hp} {m : List Addr} {st : AS} {a b : PV} {x y : V} {v u : Value} {Q : VK} (I : Inv X pins σ H s) (rx : L2.RelV x v) (ry : L2.RelV y u)
    (wd : Wd (sy X T) G m st H) (ra : RepO (sy X T) G m H a x) (rb : RepO (sy X T) G m H b y) (ys : List PV) (hb : b = .lst ys ∨ b = .tup ys) (da : dat DEP a = true) (dy : dats DEP ys = true)
    (q : Q (.bl (if neg then !(ys.any fun y => eqP y a) else ys.any fun y => eqP y a)) H) : wpAny (model X.prog X.w) X.A (compareOp (if neg then .NotIn else .In) v u) (EP X pins σ Q) X.xe s := by
  obtain ⟨as, r1⟩ := Dp.reads I _ _ _ (ra.dp wd DEP da) rx
  have s1 := shaped_of da
  have e := any_toDs da ys dy
  obtain ⟨hc, _⟩ := shaped_toDs DEP ys dy
  have dty : dat (DEP + 1) b = true := by rcases hb with rfl | rfl <;> exact dy
  obtain ⟨bs, r2⟩ := Dp.reads I _ _ _ (rb.dp wd (DEP + 1) dty) ry
  rcases hb with rfl | rfl
  · cases neg with
    | false => exact SeqAt.in_list_reads r2 r1 hc (SeqAt.canLay_of_shaped s1) (room_in _ _ _ s1 hu) ⟨.bl _, H, I, by rw [e]; rfl, q⟩
    | true => exact SeqAt.notIn_list_reads r2 r1 hc (SeqAt.canLay_of_shaped s1) (room_in _ _ _ s1 hu) ⟨.bl _, H, I, by rw [e]; rfl, q⟩
  · cases neg with
    | false => exact SeqAt.in_tuple_reads r2 r1 hc (SeqAt.canLay_of_shaped s1) (room_in _ _ _ s1 hu) ⟨.bl _, H, I, by rw [e]; rfl, q⟩
    | true => exact SeqAt.notIn_tuple_reads r2 r1 hc (SeqAt.canLay_of_shaped s1) (room_in _ _ _ s1 hu) ⟨.bl _, H, I, by rw [e]; rfl, q⟩
theorem op_isin (hu : X.A.units + 200 < cLine) (neg : Bool) : OpR X (compareOp (if neg then .NotIn else .In)) (rO2 (sy X T) .F fun a b => ((isinP a b).map fun k => if neg then !k else k).map .bl) := by
  intro pins s σ H x y v u Q I rx ry h
  obtain ⟨G, m, st, a, b, wd, ra, rb, h⟩ := h
  dsimp only at h
  have dead : isinP a b = none → wpAny (model X.prog X.w) X.A (compareOp (if neg then .NotIn else .In) v u) (EP X pins σ Q) X.xe s := fun e => (post_none (by rw [e]; rfl) h).elim
  cases b with
  | lst ys =>
    by_cases c : (dat DEP a && datS ys) = true
    · have e : isinP a (.lst ys) = some (ys.any fun y => eqP y a) := by simp only [isinP]; rw [if_pos c]
      rw [e] at h
      rw [Bool.and_eq_true] at c
      exact op_inseq hu neg I rx ry wd ra rb ys (.inl rfl) c.1 c.2 (post_bl wd h)
    · exact dead (by simp only [isinP]; rw [if_neg c])
  | tup ys =>
    by_cases c : (dat DEP a && datS ys) = true
    · have e : isinP a (.tup ys) = some (ys.any fun y => eqP y a) := by simp only [isinP]; rw [if_pos c]
      rw [e] at h
      rw [Bool.and_eq_true] at c
      exact op_inseq hu neg I rx ry wd ra rb ys (.inr rfl) c.1 c.2 (post_bl wd h)
    · exact dead (by simp only [isinP]; rw [if_neg c])
  | dct kvs =>
    by_cases c : keyOk 8 a = true
    · cases a with
      | tup zs =>
        have e : isinP (.tup zs) (.dct kvs) = some (kvs.any fun kv => PV.beq kv.1 (.tup zs)) := by simp only [isinP]; rw [if_pos c]
        rw [e] at h
        obtain ⟨p, es, rfl, hp, _, rp⟩ := rb.dct' wd
        have hk : keyT (.tup zs) = true := by unfold keyT; rw [c]; rfl
        cases ra with | rep ra =>
        cases ra with | tup g r =>
        cases rx
        cases ry
        exact dct_in (T := T) (by omega) I (fun b o q => (wd.le b o q).1) hp rp hk (.tup g r) neg fun s' I' => ⟨.bl _, H, I', rfl, post_bl wd h⟩
      | _ => exact dead (by simp only [isinP]; rw [if_pos c])
    · exact dead (by simp only [isinP]; rw [if_neg c])
  | _ => exact dead rfl
theorem op_cmpP (hu : X.A.units + 200 < cLine) (op : CO) : OpR X (compareOp (copOf op)) (rO2 (sy X T) .F fun a b => (cmpP op a b).map .bl) := by
  intro pins s σ H x y v u Q I rx ry h
  have h0 := h
  obtain ⟨G, m, st, a, b, wd, ra, rb, h⟩ := h
  dsimp only at h
  have dead : cmpP op a b = none → wpAny (model X.prog X.w) X.A (compareOp (copOf op) v u) (EP X pins σ Q) X.xe s := fun e => (post_none (by rw [e]; rfl) h).elim
  cases op with
  | eq =>
    by_cases c : (dat DEP a && dat DEP b) = true
    · have e : cmpP .eq a b = some (eqP a b) := by simp only [cmpP]; rw [if_pos c]
      rw [e] at h
      rw [Bool.and_eq_true] at c
      exact op_eqD (by omega) pins s σ H x y v u Q I rx ry ⟨toD a, toD b, ra.dp wd DEP c.1, rb.dp wd DEP c.2, shaped_of c.1, shaped_of c.2, by rw [eqv_toD DEP a b c.1 c.2]; exact post_bl wd h⟩
    · exact dead (by simp only [cmpP]; rw [if_neg c])
  | ne =>
    by_cases c : (dat DEP a && dat DEP b) = true
    · have e : cmpP .ne a b = some (!eqP a b) := by simp only [cmpP]; rw [if_pos c]
      rw [e] at h
      rw [Bool.and_eq_true] at c
      exact op_neD (by omega) pins s σ H x y v u Q I rx ry ⟨toD a, toD b, ra.dp wd DEP c.1, rb.dp wd DEP c.2, shaped_of c.1, shaped_of c.2, by rw [eqv_toD DEP a b c.1 c.2]; exact post_bl wd h⟩
    · exact dead (by simp only [cmpP]; rw [if_neg c])
  | lt =>
    by_cases c : (dat DEP a && dat DEP b) = true
    · have e : cmpP .lt a b = ltP a b := by simp only [cmpP]; rw [if_pos c]
      cases q : ltP a b with
      | none => exact dead (by rw [e, q])
      | some k =>
        rw [e, q] at h
        rw [Bool.and_eq_true] at c
        obtain ⟨as, r1⟩ := Dp.reads I _ _ _ (ra.dp wd DEP c.1) rx
        obtain ⟨bs, r2⟩ := Dp.reads I _ _ _ (rb.dp wd DEP c.2) ry
        have R := rc_lt DEP a b X.A s v u _ _ k c.1 c.2 r1 r2 q (by have : DEP = 40 := rfl; omega)
        have z : wpAny (model X.prog X.w) X.A (compareOp .Lt v u) (EP X pins σ Q) X.xe s := R X.prog X.w X.xe (EP X pins σ Q) ⟨.bl _, H, I, rfl, post_bl wd h⟩
        exact z
    · exact dead (by simp only [cmpP]; rw [if_neg c])
  | le =>
    cases a with
    | int i =>
      cases b with
      | int j =>
        obtain rfl := ra.int'
        obtain rfl := rb.int'
        exact op_le pins s σ H _ _ v u Q I rx ry ⟨i, j, rfl, rfl, post_bl wd h⟩
      | _ => exact dead rfl
    | _ => exact dead rfl
  | gt =>
    cases a with
    | int i =>
      cases b with
      | int j =>
        obtain rfl := ra.int'
        obtain rfl := rb.int'
        exact op_gt pins s σ H _ _ v u Q I rx ry ⟨i, j, rfl, rfl, post_bl wd h⟩
      | _ => exact dead rfl
    | _ => exact dead rfl
  | ge =>
    cases a with
    | int i =>
      cases b with
      | int j =>
        obtain rfl := ra.int'
        obtain rfl := rb.int'
        exact op_ge pins s σ H _ _ v u Q I rx ry ⟨i, j, rfl, rfl, post_bl wd h⟩
      | _ => exact dead rfl
    | _ => exact dead rfl
  | isin =>
    refine op_isin (T := T) hu false pins s σ H x y v u Q I rx ry ?_
    simpa [cmpP, Option.map_map] using h0
  | notin =>
    refine op_isin (T := T) hu true pins s σ H x y v u Q I rx ry ?_
    simpa [cmpP, Option.map_map] using h0
end
end RP

/-! Fw6: subscripts, slices, simple built-ins. Own work. -/
namespace RP
open PySem PySem.Spec PyProof.Rows L2

section
variable {X : Cx} {T : List (Addr × Str)}
section
variable {S : Sy} {G H : Hp} {m : List Addr} {s : AS}
theorem nrm_eq (n : Nat) (i : Int) : nrm n i = ixN n i := rfl
theorem at_of {xs : List PV} {vs : List V} {i : Int} {x : PV} (r : Reps S G m xs vs) (h : at' xs i = some x) : ∃ v, atI vs i = some v ∧ Rep S G m x v := by
  unfold at' at h
  unfold atI
  rw [nrm_eq, r.length] at h
  cases q : ixN vs.length i with
  | none => rw [q] at h; simp at h
  | some j =>
    rw [q] at h
    obtain ⟨v, e, rv⟩ := r.get (by simpa using h)
    exact ⟨v, by simpa using e, rv⟩
theorem post_val {x : PV} {v : V} {Q : VK} {W : XK} (wd : Wd S G m s H) (r : Rep S G m x v) (h : Post S (RepM S .E) G m H (opt (some x) s) Q W) : Q v H := h.ret wd r
end
/-- a subscript -/
def rIxP (S : Sy) : R2 := fun x y H Q => ∃ G m s a b, Wd S G m s H ∧ RepO S G m H a x ∧ RepO S G m H b y ∧ Post S (RepM S .E) G m H (opt (ixP s a b) s) Q W0
theorem ix_dct {value slice : Expr} {pins : List (Addr × Obj)} {s : Shared} {σ : L2.St} {H G : Hp} {m : List Addr} {a b : Addr} {k x : PV} {kvs : List (PV × PV)} {es : List (NestedKey × Addr × V)} {Q : VK}
    (hu : X.A.units + 200 < cLine) (I : Inv X pins σ H s) (le : ∀ b o, G b = some o → H b = some o)
    (h : Rd H a (DctO X.prog X.w a es)) (r : RepsD (sy X T) G m kvs es) (hk : keyT k = true) (rk : Rep (sy X T) G m k (.ref b)) (hx : lookP k kvs = some x)
    (hq : ∀ v, Rep (sy X T) G m x v → Q v H) (hs : subscripted slice false (.ref a) (.ref b) = operate [.ref a, .ref b] (getItem (.ref a) (.ref b))) : wpAny (model X.prog X.w) X.A (subscriptTail value slice (.ref a) (.ref b)) (EP X pins σ Q) X.xe s := by
  obtain ⟨hl, hz, xs, ex, hd⟩ := dct_of I le h r
  have hT := hd.typeIs
  unfold subscriptTail
  refine wpAny_bind ?_
  rw [getitemInPython_of_ne hT.not_modules]
  refine wpAny_bind (wpAny_specialOf hT PySem.F.slot_dict_getitem.lookup ?_)
  have fin : wpAny (model X.prog X.w) X.A (subscripted slice false (.ref a) (.ref b)) (fun r s₃ => wpAny (model X.prog X.w) X.A (letTemporaryGo value (.ref a) r >>= fun _ => pure r) (EP X pins σ Q) X.xe s₃) X.xe s := by
    rw [hs]
    exact wpAny_operating (wpAny_mono (dct_get (A := X.A) (E := X.xe) (Q := EP X pins σ Q) (by omega) I le h r hk rk hx fun v u s' I' rx ru => ⟨v, H, I', ru, hq v rx⟩) (fun r s₃ h₃ => wpAny_bind (wpAny_letTemporaryGo (wpAny_pure h₃))) fun _ _ x => x)
  first
    | exact wpAny_pure (wpAny_bind fin)
    | exact wpAny_bind (wpAny_pure (wpAny_bind fin))
    | exact wpAny_bind fin
theorem ix_P (hu : X.A.units + 200 < cLine) : IxR X (rIxP (sy X T)) := by
  intro value slice pins s σ H x y v u Q I rx ry h hs
  obtain ⟨G, m, st, a, b, wd, ra, rb, h⟩ := h
  have dead : ixP st a b = none → wpAny (model X.prog X.w) X.A (subscriptTail value slice v u) (EP X pins σ Q) X.xe s := fun e => by rw [e] at h; exact h.elim
  cases a with
  | lst xs =>
    cases b with
    | int i =>
      obtain rfl := rb.int'
      obtain ⟨p, vs, rfl, hp, _, r⟩ := ra.lst' wd
      cases q : at' xs i with
      | none => exact dead q
      | some z =>
        obtain ⟨w, e, rw'⟩ := at_of r q
        rw [show ixP st (.lst xs) (.int i) = some z from q] at h
        exact ix_list value slice pins s σ H _ _ v u Q I rx ry ⟨p, vs, i, w, rfl, rfl, .inl (.inl hp), e, post_val wd rw' h⟩ hs
    | _ => exact dead rfl
  | rol xs =>
    cases b with
    | int i =>
      obtain rfl := rb.int'
      obtain ⟨p, vs, rfl, hp, r⟩ := ra.rol' wd
      cases q : at' xs i with
      | none => exact dead q
      | some z =>
        obtain ⟨w, e, rw'⟩ := at_of r q
        rw [show ixP st (.rol xs) (.int i) = some z from q] at h
        exact ix_list value slice pins s σ H _ _ v u Q I rx ry ⟨p, vs, i, w, rfl, rfl, hp, e, post_val wd rw' h⟩ hs
    | _ => exact dead rfl
  | tup xs =>
    cases b with
    | int i =>
      obtain rfl := rb.int'
      obtain ⟨p, vs, rfl, _, hp, r⟩ := ra.tup' wd
      cases q : at' xs i with
      | none => exact dead q
      | some z =>
        obtain ⟨w, e, rw'⟩ := at_of r q
        rw [show ixP st (.tup xs) (.int i) = some z from q] at h
        exact ix_tup value slice pins s σ H _ _ v u Q I rx ry ⟨p, vs, i, w, rfl, rfl, hp, e, post_val wd rw' h⟩ hs
    | _ => exact dead rfl
  | dct kvs =>
    by_cases c : keyT b = true
    · cases q : lookP b kvs with
      | none => exact dead (by simp only [ixP]; rw [if_pos c, q])
      | some z =>
        rw [show ixP st (.dct kvs) b = some z by simp only [ixP]; rw [if_pos c, q]] at h
        cases b with
        | tup zs =>
          obtain ⟨p, es, rfl, hp, _, r⟩ := ra.dct' wd
          cases rb with | rep rb =>
          cases rb with | tup g rr =>
          cases rx
          cases ry
          exact ix_dct (T := T) hu I (fun b o q => (wd.le b o q).1) hp r c (.tup g rr) q (fun w rw' => post_val wd rw' h) hs
        | _ => simp [keyT, isTup] at c
    · exact dead (by simp only [ixP]; rw [if_neg c])
  | ref n =>
    cases b with
    | int i =>
      obtain rfl := rb.int'
      cases ra with | rep ra =>
      cases ra with | ref hm =>
      cases q : st[n]? with
      | none => exact dead (by simp only [ixP]; rw [q])
      | some ob =>
        have O := wd.obj n _ ob hm q
        cases O with
        | @lst xs vs hp r =>
          cases q2 : at' xs i with
          | none => exact dead (by simp only [ixP]; rw [q]; exact q2)
          | some z =>
            obtain ⟨w, e, rw'⟩ := at_of r q2
            rw [show ixP st (.ref n) (.int i) = some z by simp only [ixP]; rw [q]; exact q2] at h
            exact ix_list value slice pins s σ H _ _ v u Q I rx ry ⟨_, vs, i, w, rfl, rfl, .inl (.inl hp), e, post_val wd rw' h⟩ hs
        | ins _ _ _ => exact dead (by simp only [ixP]; rw [q])
    | _ => exact dead rfl
  | _ => exact dead (by cases b <;> rfl)

/-! ### slices -/
theorem clip_sIx (n d : Nat) (i : Int) : clip n i = HT.sIx n d (some i) := rfl
theorem cut_lo {vs : List V} (i : Int) : cutV vs (some i) none = vs.drop (clip vs.length i) := by
  unfold cutV
  rw [HT.sIx_none, ← clip_sIx]
  rw [List.take_of_length_le]
  rw [List.length_drop]; omega
theorem cut_hi {vs : List V} (i : Int) : cutV vs none (some i) = vs.take (clip vs.length i) := by
  unfold cutV
  rw [HT.sIx_none, ← clip_sIx]
  simp
def rSlP (S : Sy) (k : Bool) : V → Option Int → Option Int → Hp → VK → Prop := fun x lo hi H Q => ∃ G m s a i, Wd S G m s H ∧ RepO S G m H a x ∧ (lo = if k then some i else none) ∧ (hi = if k then none else some i) ∧ Post S (RepM S .F) G m H (opt (if k then slLoP a (.int i) else slHiP a (.int i)) s) Q W0
theorem sl_P (k : Bool) : SlR X (rSlP (sy X T) k) := by
  intro pins s σ H x v vl vu lo hi sl Q I rx hs pl pu h
  obtain ⟨G, m, st, a, i, wd, ra, rfl, rfl, h⟩ := h
  cases a with
  | lst xs =>
    obtain ⟨p, vs, rfl, hp, _, r⟩ := ra.lst' wd
    refine sl_list pins s σ H _ v vl vu _ _ sl Q I rx hs pl pu ⟨p, vs, rfl, .inl (.inl hp), fun p hp => ?_⟩
    cases k with
    | true =>
      show Q (.ref p) (upd H p (.lst (cutV vs (some i) none)))
      rw [cut_lo]
      exact fin_lst wd h hp (by rw [← r.length]; exact r.drop _)
    | false =>
      show Q (.ref p) (upd H p (.lst (cutV vs none (some i))))
      rw [cut_hi]
      exact fin_lst wd h hp (by rw [← r.length]; exact r.take _)
  | tup xs =>
    obtain ⟨p, vs, rfl, gp, hp, r⟩ := ra.tup' wd
    refine sl_tupA pins s σ H _ v vl vu _ _ sl Q I rx hs pl pu ⟨p, vs, rfl, hp, fun hw => ?_, fun hw p hp => ?_⟩
    · cases k with
      | true =>
        have e : clip xs.length i = 0 := by rw [r.length]; exact hw.1
        have h : Post (sy X T) (RepM (sy X T) .F) G m H (opt (some (.tup (xs.drop (clip xs.length i)))) st) Q W0 := h
        rw [e, List.drop_zero] at h
        exact h.ret wd (.val rfl (.tup gp r))
      | false =>
        have e : clip xs.length i = xs.length := by rw [r.length]; exact hw.2
        have h : Post (sy X T) (RepM (sy X T) .F) G m H (opt (some (.tup (xs.take (clip xs.length i)))) st) Q W0 := h
        rw [e, List.take_length] at h
        exact h.ret wd (.val rfl (.tup gp r))
    · cases k with
      | true =>
        show Q (.ref p) (upd H p (.tup (cutV vs (some i) none)))
        rw [cut_lo]
        exact post_tup wd h hp (by rw [← r.length]; exact r.drop _)
      | false =>
        show Q (.ref p) (upd H p (.tup (cutV vs none (some i))))
        rw [cut_hi]
        exact post_tup wd h hp (by rw [← r.length]; exact r.take _)
  | tpx xs =>
    obtain ⟨p, vs, o, rfl, _, _, gp, hp, r⟩ := ra.tpx' wd
    refine sl_tupA pins s σ H _ v vl vu _ _ sl Q I rx hs pl pu ⟨p, vs, rfl, hp, fun hw => ?_, fun hw p hp => ?_⟩
    · cases k with
      | true =>
        have e : clip xs.length i = 0 := by rw [r.length]; exact hw.1
        have h : Post (sy X T) (RepM (sy X T) .F) G m H (opt (some (.tup (xs.drop (clip xs.length i)))) st) Q W0 := h
        rw [e, List.drop_zero] at h
        exact h.ret wd (.val rfl (.tup gp r))
      | false =>
        have e : clip xs.length i = xs.length := by rw [r.length]; exact hw.2
        have h : Post (sy X T) (RepM (sy X T) .F) G m H (opt (some (.tup (xs.take (clip xs.length i)))) st) Q W0 := h
        rw [e, List.take_length] at h
        exact h.ret wd (.val rfl (.tup gp r))
    · cases k with
      | true =>
        show Q (.ref p) (upd H p (.tup (cutV vs (some i) none)))
        rw [cut_lo]
        exact post_tup wd h hp (by rw [← r.length]; exact r.drop _)
      | false =>
        show Q (.ref p) (upd H p (.tup (cutV vs none (some i))))
        rw [cut_hi]
        exact post_tup wd h hp (by rw [← r.length]; exact r.take _)
  | _ => cases k <;> exact h.elim

/-! ### calls of built-ins with one argument -/
def rC1 (S : Sy) (k : Md) (f : PV → Option PV) : List V → Hp → VK → Prop := fun vs H Q => ∃ G m s a x, vs = [x] ∧ Wd S G m s H ∧ RepO S G m H a x ∧ Post S (RepM S k) G m H (opt (f a) s) Q W0
theorem bools_of {S : Sy} {G : Hp} {m : List Addr} : ∀ {xs : List PV} {vs : List V} {bs : List Bool}, Reps S G m xs vs → boolsOf xs = some bs → vs = bs.map V.bl
  | _, _, bs, .nil, h => by simp [boolsOf] at h; subst h; rfl
  | _, _, bs, .cons (x := x) r t, h => by
    cases x with
    | bl b =>
      simp only [boolsOf] at h
      obtain ⟨cs, e, rfl⟩ := Option.map_eq_some_iff.mp h
      cases r
      rw [bools_of t e]; rfl
    | _ => simp [boolsOf] at h
theorem ints_of {S : Sy} {G : Hp} {m : List Addr} : ∀ {xs : List PV} {vs : List V} {bs : List Int}, Reps S G m xs vs → intsOf xs = some bs → vs = bs.map V.int
  | _, _, bs, .nil, h => by simp [intsOf] at h; subst h; rfl
  | _, _, bs, .cons (x := x) r t, h => by
    cases x with
    | int b =>
      simp only [intsOf] at h
      obtain ⟨cs, e, rfl⟩ := Option.map_eq_some_iff.mp h
      cases r
      rw [ints_of t e]; rfl
    | _ => simp [intsOf] at h
theorem len_P : CallR X (.builtin "len") (rC1 (sy X T) .F (b1P .len)) := by
  intro pins s σ H xs us Q I r h
  obtain ⟨G, m, st, a, x, rfl, wd, ra, h⟩ := h
  cases a with
  | lst ys =>
    obtain ⟨p, vs, rfl, hp, _, rr⟩ := ra.lst' wd
    exact call_len_seq pins s σ H _ us Q I r ⟨p, vs, rfl, .inl (.inl (.inl hp)), by rw [← rr.length]; exact post_int wd h⟩
  | rol ys =>
    obtain ⟨p, vs, rfl, hp, rr⟩ := ra.rol' wd
    exact call_len_seq pins s σ H _ us Q I r ⟨p, vs, rfl, .inl hp, by rw [← rr.length]; exact post_int wd h⟩
  | tup ys =>
    obtain ⟨p, vs, rfl, _, hp, rr⟩ := ra.tup' wd
    exact call_len_seq pins s σ H _ us Q I r ⟨p, vs, rfl, .inr hp, by rw [← rr.length]; exact post_int wd h⟩
  | dct kvs =>
    obtain ⟨p, es, rfl, hp, _, rr⟩ := ra.dct' wd
    obtain ⟨u, rfl, ru⟩ := vals1 r
    cases ru
    obtain ⟨hl, hs, ys, ey, hd⟩ := dct_of I (fun b o q => (wd.le b o q).1) hp rr
    have e1 : kvs.length = ys.length := by rw [rr.length]; exact Paired.length ey
    have hz := sizeLine_eq
    refine call_len_dictH hs hd (by rw [← e1, rr.length]; omega) ⟨.int kvs.length, H, I.tok _, ⟨_, by rw [e1]⟩, post_int wd h⟩
  | _ => exact h.elim
theorem list_P : CallR X (.type "list") (rC1 (sy X T) .F fun a => match a with | .dct _ => none | a => b1P .list a) := by
  intro pins s σ H xs us Q I r h
  obtain ⟨G, m, st, a, x, rfl, wd, ra, h⟩ := h
  cases a with
  | lst ys =>
    obtain ⟨p, vs, rfl, hp, _, rr⟩ := ra.lst' wd
    exact call_list_of pins s σ H _ us Q I r ⟨p, vs, rfl, .inl (.inl (.inl hp)), fun l hl => fin_lst wd h hl rr⟩
  | tup ys =>
    obtain ⟨p, vs, rfl, _, hp, rr⟩ := ra.tup' wd
    exact call_list_of pins s σ H _ us Q I r ⟨p, vs, rfl, .inr hp, fun l hl => fin_lst wd h hl rr⟩
  | _ => exact h.elim
theorem tuple_P : CallR X (.type "tuple") (rC1 (sy X T) .F (b1P .tuple)) := by
  intro pins s σ H xs us Q I r h
  obtain ⟨G, m, st, a, x, rfl, wd, ra, h⟩ := h
  cases a with
  | lst ys =>
    obtain ⟨p, vs, rfl, hp, _, rr⟩ := ra.lst' wd
    exact call_tuple_of pins s σ H _ us Q I r ⟨p, vs, rfl, .inl ⟨.inl (.inl hp), fun l hl => post_tup wd h hl rr⟩⟩
  | tup ys =>
    obtain ⟨p, vs, rfl, gp, hp, rr⟩ := ra.tup' wd
    exact call_tuple_of pins s σ H _ us Q I r ⟨p, vs, rfl, .inr ⟨hp, h.ret wd (.val rfl (.tup gp rr))⟩⟩
  | _ => exact h.elim
theorem all_P (hc : X.calm = true) : CallR X (.builtin "all") (rC1 (sy X T) .F (b1P .all)) := by
  intro pins s σ H xs us Q I r h
  obtain ⟨G, m, st, a, x, rfl, wd, ra, h⟩ := h
  cases a with
  | lst ys =>
    obtain ⟨p, vs, rfl, hp, _, rr⟩ := ra.lst' wd
    cases q : boolsOf ys with
    | none => rw [show b1P .all (.lst ys) = none by simp only [b1P]; rw [q]; rfl] at h; exact h.elim
    | some bs =>
      rw [show b1P .all (.lst ys) = some (.bl (bs.all id)) by simp only [b1P]; rw [q]; rfl] at h
      exact cr_all hc pins s σ H _ us Q I r ⟨p, bs, rfl, .inl (.inl (by rw [← bools_of rr q]; exact hp)), post_bl wd h⟩
  | _ => exact h.elim
theorem any_P (hc : X.calm = true) : CallR X (.builtin "any") (rC1 (sy X T) .F (b1P .any)) := by
  intro pins s σ H xs us Q I r h
  obtain ⟨G, m, st, a, x, rfl, wd, ra, h⟩ := h
  cases a with
  | lst ys =>
    obtain ⟨p, vs, rfl, hp, _, rr⟩ := ra.lst' wd
    cases q : boolsOf ys with
    | none => rw [show b1P .any (.lst ys) = none by simp only [b1P]; rw [q]; rfl] at h; exact h.elim
    | some bs =>
      rw [show b1P .any (.lst ys) = some (.bl (bs.any id)) by simp only [b1P]; rw [q]; rfl] at h
      exact cr_any hc pins s σ H _ us Q I r ⟨p, bs, rfl, .inl (.inl (by rw [← bools_of rr q]; exact hp)), post_bl wd h⟩
  | _ => exact h.elim
theorem sum_P (hc : X.calm = true) : CallR X (.builtin "sum") (rC1 (sy X T) .F (b1P .sum)) := by
  intro pins s σ H xs us Q I r h
  obtain ⟨G, m, st, a, x, rfl, wd, ra, h⟩ := h
  cases a with
  | lst ys =>
    obtain ⟨p, vs, rfl, hp, _, rr⟩ := ra.lst' wd
    cases q : intsOf ys with
    | none => rw [show b1P .sum (.lst ys) = none by simp only [b1P]; rw [q]; rfl] at h; exact h.elim
    | some bs =>
      rw [show b1P .sum (.lst ys) = some (.int bs.sum) by simp only [b1P]; rw [q]; rfl] at h
      exact cr_sum hc pins s σ H _ us Q I r ⟨p, bs, rfl, .inl (.inl (by rw [← ints_of rr q]; exact hp)), post_int wd h⟩
  | _ => exact h.elim
theorem int_P : CallR X (.type "int") (rC1 (sy X T) .F (b1P .int)) := by
  intro pins s σ H xs us Q I r h
  obtain ⟨G, m, st, a, x, rfl, wd, ra, h⟩ := h
  cases a with
  | int i =>
    obtain rfl := ra.int'
    exact call_int1 pins s σ H _ us Q I r (.inl ⟨i, rfl, post_int wd h⟩)
  | bl i =>
    obtain rfl := ra.bl'
    exact call_int1 pins s σ H _ us Q I r (.inr ⟨i, rfl, post_int wd h⟩)
  | _ => exact h.elim
theorem bool_P : CallR X (.type "bool") (rC1 (sy X T) .F (b1P .bool)) := by
  intro pins s σ H xs us Q I r h
  obtain ⟨G, m, st, a, x, rfl, wd, ra, h⟩ := h
  cases a with
  | bl i =>
    obtain rfl := ra.bl'
    exact call_bool1 pins s σ H _ us Q I r (.inr ⟨i, rfl, post_bl wd h⟩)
  | _ => exact h.elim
theorem abs_P : CallR X (.builtin "abs") (rC1 (sy X T) .F (b1P .abs)) := by
  intro pins s σ H xs us Q I r h
  obtain ⟨G, m, st, a, x, rfl, wd, ra, h⟩ := h
  cases a with
  | int i =>
    obtain rfl := ra.int'
    exact call_abs pins s σ H _ us Q I r ⟨i, rfl, post_int wd h⟩
  | _ => exact h.elim
/-- isinstance(x, T) -/
def tyName : Ty → String
  | .int => "int"
  | .bool => "bool"
  | .str => "str"
  | .tuple => "tuple"
  | .list => "list"
def rIsi1 (S : Sy) (t : Ty) : List V → Hp → VK → Prop := fun vs H Q => ∃ G m s a x, vs = [x, .ty (tyName t)] ∧ Wd S G m s H ∧ RepO S G m H a x ∧ Post S (RepM S .F) G m H (opt ((isTyP t a).map .bl) s) Q W0
theorem isi_P (t : Ty) : CallR X (.builtin "isinstance") (rIsi1 (sy X T) t) := by
  intro pins s σ H xs us Q I r h
  obtain ⟨G, m, st, a, x, rfl, wd, ra, h⟩ := h
  have go : ∀ (c : String) (b : Bool), TyX X.K H x (.type c) → kitB c (tyName t) = some b → Q (.bl b) H → wpAny (model X.prog X.w) X.A (call (.builtin "isinstance") us) (EP X pins σ Q) X.xe s := fun c b ty e q =>
    call_isi pins s σ H _ us Q I r ⟨x, .ty (tyName t), .type c, .type (tyName t), b, rfl, .ty _, ty, kit_ty e, q⟩
  have sq : ∀ {p : Addr} {vs : List V}, SqT X.K H p vs → TyX X.K H (.ref p) (.type "tuple") := fun {p vs} hp => by
    rcases hp with (hp | ⟨o, hp⟩) | ⟨o, its, n, h1, h2, _⟩
    · exact .base (.tup hp)
    · exact .fTuple hp
    · exact .kTuple h1 h2
  have sl : ∀ {p : Addr} {vs : List V}, SqL X.K H p vs → TyX X.K H (.ref p) (.type "list") := fun {p vs} hp => by
    rcases hp with (hp | ⟨o, hp⟩) | ⟨o, its, n, h1, h2, _⟩
    · exact .base (.lst hp)
    · exact .base (.frz hp)
    · exact .kList h1 h2
  cases a with
  | non =>
    obtain rfl := ra.non'
    exact go "NoneType" (isTy t .non) (.base .non) (by cases t <;> simp only [isTy, tyName] <;> decide +kernel) (post_bl wd h)
  | bl i =>
    obtain rfl := ra.bl'
    exact go "bool" (isTy t (.bl i)) (.base (.bl i)) (by cases t <;> simp only [isTy, tyName] <;> decide +kernel) (post_bl wd h)
  | int i =>
    obtain rfl := ra.int'
    exact go "int" (isTy t (.int i)) (.base (.int i)) (by cases t <;> simp only [isTy, tyName] <;> decide +kernel) (post_bl wd h)
  | str i =>
    obtain rfl := ra.str'
    exact go "str" (isTy t (.str i)) (.base (.str i)) (by cases t <;> simp only [isTy, tyName] <;> decide +kernel) (post_bl wd h)
  | tup ys =>
    obtain ⟨p, vs, rfl, _, hp, rr⟩ := ra.tup' wd
    exact go "tuple" (isTy t (.tup ys)) (sq hp) (by cases t <;> simp only [isTy, tyName] <;> decide +kernel) (post_bl wd h)
  | lst ys =>
    obtain ⟨p, vs, rfl, hp, _, rr⟩ := ra.lst' wd
    exact go "list" (isTy t (.lst ys)) (.base (.lst hp)) (by cases t <;> simp only [isTy, tyName] <;> decide +kernel) (post_bl wd h)
  | rol ys =>
    obtain ⟨p, vs, rfl, hp, rr⟩ := ra.rol' wd
    exact go "list" (isTy t (.rol ys)) (sl hp) (by cases t <;> simp only [isTy, tyName] <;> decide +kernel) (post_bl wd h)
  | _ => exact h.elim
end
end RP

/-! Fw7: expressions. Own work. -/
namespace RP
open PySem PySem.Spec PyProof.Rows L2

/-- a def's promise by its denotation -/
def SpD (S : Sy) (n : Nat) (d : Den) : Sp := fun vs H Q E => ∃ G m s args, args.length = n ∧ Wd S G m s H ∧ Reps S G m args vs ∧ Post S (RepM S .E) G m H (d args s) Q E
theorem SpD.len {S : Sy} {n : Nat} {d : Den} {vs : List V} {H : Hp} {Q : VK} {E : XK} (h : SpD S n d vs H Q E) : vs.length = n := by
  obtain ⟨G, m, s, args, e, _, r, _⟩ := h
  rw [← r.length, e]
/-- a def that may be called -/
structure Callee (X : Cx) (S : Sy) (k : Nat) (x : Str) (ar lv : Nat) (d : Den) : Prop where
  ex : ∃ f fd ps, X.mg x = some (.ref f) ∧ PySem.W.keepIn X.K (.ref f) = true ∧ L2.Binds X.K fd ps [] ∧ ps.length = ar ∧ FnOk X.prog X.w X.K X.mg X.base (L2.CX X.prog X.w) lv f fd ps (SpD S ar d)
  le : lv ≤ k
/-- what a body's code leans on -/
structure Cok (X : Cx) (T : List (Addr × Str)) (N : List Str) (k : Nat) (W : XK) (G : List Den) (GV : List (Str × Nat × Den)) (C : List PV) (fns : List (Str × Nat × Nat)) (gcs : List Str) (bls : List Str) : Prop where
  calm : X.calm = true
  eN : X.N = N
  nd : N.Nodup
  room : Room k X.A
  tk : Takes X (fun c d _ H => W c d H)
  fns : ∀ (j : Nat) (x : Str) (ar lv : Nat), fns[j]? = some (x, ar, lv) → ∃ d, G[j]? = some d ∧ Callee X (sy X T) k x ar lv d
  gvs : ∀ p, p ∈ GV → ∃ lv, Callee X (sy X T) k p.1 p.2.1 lv p.2.2
  gcs : ∀ (j : Nat) (x : Str), gcs[j]? = some x → ∃ p u v, C[j]? = some p ∧ X.mg x = some u ∧ L2.RelV v u ∧ ∀ G m, Rep (sy X T) G m p v
  bls : ∀ x, x ∈ bls → X.mg x = none
  pas : PassesOwn (model X.prog X.w) X.A X.env X.xe
section
variable {X : Cx} {T : List (Addr × Str)} {N : List Str} {k : Nat} {W : XK} {G : List Den} {GV : List (Str × Nat × Den)} {C : List PV} {fns : List (Str × Nat × Nat)} {gcs bls : List Str}
theorem Cok.un (ok : Cok X T N k W G GV C fns gcs bls) : X.A.units + 200 < cLine := by have := ok.room.un; omega

/-! ### names, constants -/
theorem de_var {i : Nat} {x : Str} {pos : Pos} {W : XK} (hN : X.N[i]? = some x) (hv : Vis X.env.scope x) (hd : (x == ("__debug__" : Str)) = false) (hcd : (x == ("__classdict__" : Str)) = false) (o : Bool) :
    PE X (.Name x pos) (tD (sy X T) (if o then .O else .E) W (fun r => match r.get i with
      | .sh v => ret v
      | .ow xs => if o then ret (.lst xs) else stk
      | .od kvs => if o then ret (.dct kvs) else stk
      | .no => stk)) := by
  refine (pe_var hN hv hd hcd).imp fun σ H Q ⟨G, m, s, H₀, r, a, p⟩ => ?_
  obtain ⟨wd, fm⟩ := a
  dsimp only at p
  obtain ⟨oa, hs, _⟩ := fm.ex
  have h := hs i
  cases e : r.get i with
  | no => rw [e] at p; exact p.elim
  | sh v =>
    rw [e] at p h
    obtain ⟨w, h1, h2⟩ := h
    refine ⟨w, h1, ?_⟩
    cases o with
    | true => exact p.ret wd (.rep h2)
    | false => exact p.ret wd h2
  | ow xs =>
    rw [e] at p h
    obtain ⟨h1, ⟨vs, h2, h3⟩, h4, _⟩ := h
    cases o with
    | true => exact ⟨_, h1, p.ret wd (.lst h2 h4 h3)⟩
    | false => exact p.elim
  | od kvs =>
    rw [e] at p h
    obtain ⟨h1, ⟨vs, h2, h3⟩, h4, _⟩ := h
    cases o with
    | true => exact ⟨_, h1, p.ret wd (.dct h2 h4 h3)⟩
    | false => exact p.elim
theorem de_int {i : Int} {j : Nat} {pos : Pos} {W : XK} : PE X (.Constant (.int i) j pos) (tD (sy X T) .F W fun _ => ret (.int i)) :=
  pe_int.imp fun σ H Q ⟨G, m, s, H₀, r, a, p⟩ => p.ret a.1 (.val rfl (.int i))
theorem de_str {i : Str} {j : Nat} {pos : Pos} {W : XK} : PE X (.Constant (.str i) j pos) (tD (sy X T) .F W fun _ => ret (.str i)) :=
  pe_str.imp fun σ H Q ⟨G, m, s, H₀, r, a, p⟩ => p.ret a.1 (.val rfl (.str i))
theorem de_bl {i : Bool} {j : Nat} {pos : Pos} {W : XK} : PE X (.Constant (.bool i) j pos) (tD (sy X T) .F W fun _ => ret (.bl i)) :=
  pe_bl.imp fun σ H Q ⟨G, m, s, H₀, r, a, p⟩ => p.ret a.1 (.val rfl (.bl i))
theorem de_non {j : Nat} {pos : Pos} {W : XK} : PE X (.Constant .none j pos) (tD (sy X T) .F W fun _ => ret .non) :=
  pe_non.imp fun σ H Q ⟨G, m, s, H₀, r, a, p⟩ => p.ret a.1 (.val rfl .non)
theorem de_gc {j : Nat} {x : Str} {pos : Pos} {W : XK} (ok : Cok X T N k W G GV C fns gcs bls) (hj : gcs[j]? = some x) (hg : Gl X x) (hd : (x == ("__debug__" : Str)) = false) : PE X (.Name x pos) (tD (sy X T) .E W fun _ => opt C[j]?) := by
  obtain ⟨p, u, v, e, hm, rv, hr⟩ := ok.gcs j x hj
  refine (pe_glob hg hm rv hd).imp fun σ H Q ⟨G, m, s, H₀, r, a, h⟩ => ?_
  rw [e] at h
  exact h.ret a.1 (hr G m)
theorem de_fnv {x : Str} {f : Addr} {pos : Pos} {W : XK} (hg : Gl X x) (hm : X.mg x = some (.ref f)) (hd : (x == ("__debug__" : Str)) = false) : PE X (.Name x pos) (tD (sy X T) .F W fun _ => ret (.fn x)) :=
  (pe_glob (v := .ref f) hg hm rfl hd).imp fun σ H Q ⟨G, m, s, H₀, r, a, h⟩ => h.ret a.1 (.val rfl (.fn hm))

/-! ### argument lists, displays -/
theorem notstar {e : Expr} {es : List Expr} {env : Env} (h : (match e with | .Starred _ _ => false | _ => true) = true) : starEach (e :: es) env = (false, eval e env) :: starEach es env := by
  cases e <;> first | rfl | simp at h
theorem da_nil {W : XK} : PA X [] (tDA (sy X T) W fun _ => ret []) := pa_nil.imp fun σ H Q ⟨G, m, s, H₀, r, a, p⟩ => p.ret a.1 .nil
theorem da_cons {e : Expr} {es : List Expr} {d : Fm → M PV} {ds : Fm → M (List PV)} {W : XK} (he : PE X e (tD (sy X T) .E W d)) (hs : PA X es (tDA (sy X T) W ds)) (hn : starEach (e :: es) X.env = (false, eval e X.env) :: starEach es X.env) :
    PA X (e :: es) (tDA (sy X T) W fun r => bnd (d r) fun v => bnd (ds r) fun vs => ret (v :: vs)) := by
  refine (pa_cons he hs hn).imp fun σ H Q ⟨G, m, s, H₀, r, a, p⟩ => ?_
  refine ⟨G, m, s, H₀, r, a, p.step (good_A _) fun x s1 G1 m1 H1 v e1 wd1 rx p1 => ?_⟩
  refine ⟨G1, m1, s1, H₀, r, ⟨wd1, a.2.ext e1⟩, p1.step (good_A _) fun xs s2 G2 m2 H2 vs e2 wd2 rxs p2 => ?_⟩
  exact p2.ret wd2 (.cons (Rep.ext rx e2) rxs)
/-- the number of a written list's values -/
def Few (ds : Fm → M (List PV)) : Prop := ∀ r s vs s', ds r s = .ok vs s' → vs.length ≤ 1000
theorem de_tup {es : List Expr} {x1 : Nat} {pos : Pos} {ds : Fm → M (List PV)} {W : XK} (h : PA X es (tDA (sy X T) W ds)) (hl : Few ds) : PE X (.Tuple es x1 pos) (tD (sy X T) .F W fun r => bnd (ds r) fun vs => ret (.tup vs)) := by
  refine (pe_tup h).imp fun σ H Q ⟨G, m, s, H₀, r, a, p⟩ => ⟨G, m, s, H₀, r, a, ?_⟩
  cases q : ds r s with
  | ok vs s1 =>
    intro G1 m1 H1 v e1 wd1 rx
    have hz := hl _ _ _ _ q
    have hs := sizeLine_eq
    dsimp only [bnd] at p
    rw [q] at p
    have p1 : Post (sy X T) (RepM (sy X T) .F) G1 m1 H1 (ret (.tup vs) s1) Q W := Post.later (good_M _ _) e1 p
    exact ⟨by rw [← Reps.length rx]; omega, fun p hp => post_tup wd1 p1 hp rx⟩
  | exc x s1 =>
    dsimp only [bnd] at p
    rw [q] at p
    exact p
  | stuck =>
    dsimp only [bnd] at p
    rw [q] at p
    exact p
theorem de_lst {es : List Expr} {pos : Pos} {ds : Fm → M (List PV)} {W : XK} (h : PA X es (tDA (sy X T) W ds)) (hl : Few ds) : PE X (.List es pos) (tD (sy X T) .F W fun r => bnd (ds r) fun vs => ret (.lst vs)) := by
  refine (pe_lst h).imp fun σ H Q ⟨G, m, s, H₀, r, a, p⟩ => ⟨G, m, s, H₀, r, a, ?_⟩
  cases q : ds r s with
  | ok vs s1 =>
    intro G1 m1 H1 v e1 wd1 rx
    have hz := hl _ _ _ _ q
    have hs := sizeLine_eq
    dsimp only [bnd] at p
    rw [q] at p
    have p1 : Post (sy X T) (RepM (sy X T) .F) G1 m1 H1 (ret (.lst vs) s1) Q W := Post.later (good_M _ _) e1 p
    exact ⟨by rw [← Reps.length rx]; omega, fun p hp => fin_lst wd1 p1 hp rx⟩
  | exc x s1 =>
    dsimp only [bnd] at p
    rw [q] at p
    exact p
  | stuck =>
    dsimp only [bnd] at p
    rw [q] at p
    exact p
/-- a list as an object -/
theorem wd_obj {S : Sy} {G H : Hp} {m : List Addr} {s : AS} {p : Addr} {xs : List PV} {vs : List V} (wd : Wd S G m s H) (hp : H p = none) (r : Reps S G m xs vs) :
    Wd S G (m ++ [p]) (s ++ [.lst xs]) (upd H p (.lst vs)) ∧ Ext m (m ++ [p]) G G H (upd H p (.lst vs)) ∧ (m ++ [p])[s.length]? = some p := by
  have hm := wd.mnone hp
  have w := wd.new (o := .lst vs) hp
  have e := wd.newExt (o := .lst vs) hp
  refine ⟨⟨fun a o h => ⟨(w.le a o h).1, fun z => ?_, (w.le a o h).2.2⟩, by simp [wd.len], ?_, fun n a o h1 h2 => ?_, w.tab⟩, ⟨e.le, ⟨[p], rfl⟩, fun a z => ?_, e.newG, e.keep, e.dom⟩, by rw [wd.len]; simp⟩
  · rcases List.mem_append.mp z with z | z
    · exact (w.le a o h).2.1 z
    · have : a = p := by simpa using z
      subst this
      rw [wd.Gnone hp] at h; cases h
  · exact List.nodup_append.mpr ⟨wd.nd, by simp, fun a ha b hb => by
      have : b = p := by simpa using hb
      subst this
      exact fun z => hm (z ▸ ha)⟩
  · by_cases hn : n < m.length
    · rw [List.getElem?_append_left hn] at h1
      rw [List.getElem?_append_left (by rw [wd.len]; exact hn)] at h2
      exact (w.obj n a o h1 h2).mono (fun _ _ z => z) ⟨[p], rfl⟩
    · have hn' : n = m.length := by
        have := (List.getElem?_eq_some_iff.mp h1).1
        simp at this; omega
      subst hn'
      simp at h1
      rw [← wd.len] at h2
      simp at h2
      subst h1 h2
      exact .lst upd_same (r.mono (fun _ _ z => z) ⟨[p], rfl⟩)
  · rcases List.mem_append.mp z with z | z
    · exact .inl z
    · have : a = p := by simpa using z
      subst this
      exact .inr hp
theorem de_lstR {es : List Expr} {pos : Pos} {ds : Fm → M (List PV)} {W : XK} (h : PA X es (tDA (sy X T) W ds)) (hl : Few ds) : PE X (.List es pos) (tD (sy X T) .F W fun r => bnd (ds r) fun vs => fun s => .ok (.ref s.length) (s ++ [.lst vs])) := by
  refine (pe_lst h).imp fun σ H Q ⟨G, m, s, H₀, r, a, p⟩ => ⟨G, m, s, H₀, r, a, ?_⟩
  cases q : ds r s with
  | ok vs s1 =>
    intro G1 m1 H1 v e1 wd1 rx
    have hz := hl _ _ _ _ q
    have hs := sizeLine_eq
    dsimp only [bnd] at p
    rw [q] at p
    have p1 : Post (sy X T) (RepM (sy X T) .F) G1 m1 H1 (.ok (.ref s1.length) (s1 ++ [.lst vs])) Q W := Post.later (good_M _ _) e1 p
    refine ⟨by rw [← Reps.length rx]; omega, fun p hp => ?_⟩
    obtain ⟨w2, e2, hi⟩ := wd_obj wd1 hp rx
    exact p1 G1 _ _ (.ref p) e2 w2 (.val rfl (.ref hi))
  | exc x s1 =>
    dsimp only [bnd] at p
    rw [q] at p
    exact p
  | stuck =>
    dsimp only [bnd] at p
    rw [q] at p
    exact p

/-! ### operators -/
/-- two operands, then an operation on values -/
theorem de_op2 {e : Expr} {a b : Expr} {r2 : R2} {da db : Fm → M PV} {f : PV → PV → Option PV} {k : Md} {W : XK} (he : ∀ ta tb, PE X a ta → PE X b tb → PE X e (tOp r2 ta tb)) (ha : PE X a (tD (sy X T) .O W da)) (hb : PE X b (tD (sy X T) .O W db))
    (hi : ∀ (G : Hp) (m : List Addr) (H : Hp) (s : AS) (x y : PV) (v u : V) (Q : VK), Wd (sy X T) G m s H → RepO (sy X T) G m H x v → RepO (sy X T) G m H y u → Post (sy X T) (RepM (sy X T) k) G m H (opt (f x y) s) Q W0 → r2 v u H Q) :
    PE X e (tD (sy X T) k W fun r => bnd (da r) fun x => bnd (db r) fun y => opt (f x y)) := by
  refine (he _ _ ha hb).imp fun σ H Q ⟨G, m, s, H₀, r, a, p⟩ => ?_
  refine ⟨G, m, s, H₀, r, a, p.step (good_M _ _) fun x s1 G1 m1 H1 v e1 wd1 rx p1 => ?_⟩
  refine ⟨G1, m1, s1, H₀, r, ⟨wd1, a.2.ext e1⟩, p1.step (good_M _ _) fun y s2 G2 m2 H2 u e2 wd2 ry p2 => ?_⟩
  refine hi G2 m2 H2 s2 x y v u Q wd2 (RepO.ext rx e2) ry ?_
  cases q : f x y with
  | none => rw [q] at p2; exact p2.elim
  | some z => rw [q] at p2; exact p2
theorem de_bin {a b : Expr} {op : BO} {da db : Fm → M PV} {pos : Pos} {W : XK} (ha : PE X a (tD (sy X T) .O W da)) (hb : PE X b (tD (sy X T) .O W db)) : PE X (.BinOp a (opOf op) b pos) (tD (sy X T) .F W fun r => bnd (da r) fun x => bnd (db r) fun y => opt (binP op x y)) :=
  de_op2 (fun ta tb h1 h2 => pe_op (op_binP (T := T) op) h1 h2) ha hb fun G m H s x y v u Q wd rx ry p => ⟨G, m, s, x, y, wd, rx, ry, p⟩
theorem de_cmp {a b : Expr} {op : CO} {da db : Fm → M PV} {pos : Pos} {W : XK} (hu : X.A.units + 200 < cLine) (ha : PE X a (tD (sy X T) .O W da)) (hb : PE X b (tD (sy X T) .O W db)) (hm : behindInMarks (copOf op) b = false) :
    PE X (.Compare a [copOf op] [b] pos) (tD (sy X T) .F W fun r => bnd (da r) fun x => bnd (db r) fun y => opt ((cmpP op x y).map .bl)) :=
  de_op2 (fun ta tb h1 h2 => pe_cmpR (op_cmpP (T := T) hu op) h1 h2 hm) ha hb fun G m H s x y v u Q wd rx ry p => ⟨G, m, s, x, y, wd, rx, ry, p⟩
theorem de_ix {a b : Expr} {da db : Fm → M PV} {pos : Pos} {W : XK} (hu : X.A.units + 200 < cLine) (ha : PE X a (tD (sy X T) .O W da)) (hb : PE X b (tD (sy X T) .E W db)) (hs : PlainIx b) : PE X (.Subscript a b pos) (tD (sy X T) .E W fun r => bnd (da r) fun x => bnd (db r) fun y => fun s => opt (ixP s x y) s) := by
  refine (pe_ix (ix_P (T := T) hu) ha hb hs).imp fun σ H Q ⟨G, m, s, H₀, r, a, p⟩ => ?_
  refine ⟨G, m, s, H₀, r, a, p.step (good_M _ _) fun x s1 G1 m1 H1 v e1 wd1 rx p1 => ?_⟩
  refine ⟨G1, m1, s1, H₀, r, ⟨wd1, a.2.ext e1⟩, p1.step (good_M _ _) fun y s2 G2 m2 H2 u e2 wd2 ry p2 => ?_⟩
  refine ⟨G2, m2, s2, x, y, wd2, RepO.ext rx e2, .rep ry, ?_⟩
  cases q : ixP s2 x y with
  | none => rw [q] at p2; exact p2.elim
  | some z => rw [q] at p2; exact p2
/-- a test, its ways -/
theorem Post.tb {α β : Type} {S : Sy} {G H : Hp} {m : List Addr} {R : RT α β} (hR : R.Good) {x : M PV} {f : Bool → M α} {s : AS} {Q : β → Hp → Prop} {W : XK} (h : Post S R G m H (tst x f s) Q W) {Q' : Bool → Hp → Prop}
    (k : ∀ b s1 G1 m1 H1, Ext m m1 G G1 H H1 → Wd S G1 m1 s1 H1 → Post S R G1 m1 H1 (f b s1) Q W → Q' b H1) : Post S RepB G m H (tb x s) Q' W :=
  Post.step hR h fun a s1 G1 m1 H1 v e wd r p => by
    have : a = v := r
    subst this
    exact k a s1 G1 m1 H1 e wd p
/-- an expression as a test -/
theorem dt_val {e : Expr} {d : Fm → M PV} {W : XK} (h : PE X e (tD (sy X T) .E W d)) (he : ∀ whole, isTrue e X.env whole = (do let v ← whole; standAt e.pos; holding [v] (truthy v))) : PT X e (tDT (sy X T) W d) := by
  refine (pt_val h he).imp fun σ H Q ⟨G, m, s, H₀, r, a, p⟩ => ⟨G, m, s, H₀, r, a, Post.step good_B p fun x s1 G1 m1 H1 v e1 wd1 rx p1 => ?_⟩
  cases x with
  | bl b =>
    cases rx
    exact ⟨b, rfl, p1.ret wd1 rfl⟩
  | _ => exact p1.elim
theorem dt_cmp {a b : Expr} {op : CO} {da db : Fm → M PV} {pos : Pos} {W : XK} (hu : X.A.units + 200 < cLine) (ha : PE X a (tD (sy X T) .O W da)) (hb : PE X b (tD (sy X T) .O W db)) (hm : behindInMarks (copOf op) b = false) :
    PT X (.Compare a [copOf op] [b] pos) (tDT (sy X T) W fun r => bnd (da r) fun x => bnd (db r) fun y => opt ((cmpP op x y).map .bl)) := by
  refine (pt_cmpR (op_cmpP (T := T) hu op) ha hb hm).imp fun σ H Q ⟨G, m, s, H₀, r, a, p⟩ => ?_
  have key : tD (sy X T) .F W (fun r => bnd (da r) fun x => bnd (db r) fun y => opt ((cmpP op x y).map .bl)) σ H (fun x H1 => ∃ c, x = .bl c ∧ Q c H1) := ⟨G, m, s, H₀, r, a, Post.step good_B p fun x s1 G1 m1 H1 v e1 wd1 rx p1 => by
    cases x with
    | bl b =>
      cases rx with
      | val _ rx =>
      cases rx
      exact ⟨b, rfl, p1.ret wd1 rfl⟩
    | _ => exact p1.elim⟩
  obtain ⟨G, m, s, H₀, r, a, p⟩ := key
  refine ⟨G, m, s, H₀, r, a, p.step (good_M _ _) fun x s1 G1 m1 H1 v e1 wd1 rx p1 => ?_⟩
  refine ⟨G1, m1, s1, H₀, r, ⟨wd1, a.2.ext e1⟩, p1.step (good_M _ _) fun y s2 G2 m2 H2 u e2 wd2 ry p2 => ?_⟩
  refine ⟨G2, m2, s2, x, y, wd2, RepO.ext rx e2, ry, ?_⟩
  cases q : (cmpP op x y).map PV.bl with
  | none => rw [q] at p2; exact p2.elim
  | some z =>
    rw [q] at p2
    show Post _ _ _ _ _ (opt ((cmpP op x y).map PV.bl) s2) _ _
    rw [q]
    exact p2
end
end RP

/-! Fw8: expressions, further. Own work. -/
namespace RP
open PySem PySem.Spec PyProof.Rows L2

theorem bnd_assoc {α β γ : Type} (x : M α) (f : α → M β) (g : β → M γ) : bnd (bnd x f) g = bnd x fun a => bnd (f a) g := by
  funext s
  unfold bnd
  cases x s <;> rfl
section
variable {X : Cx} {T : List (Addr × Str)} {N : List Str} {k : Nat} {W : XK} {G : List Den} {GV : List (Str × Nat × Den)} {C : List PV} {fns : List (Str × Nat × Nat)} {gcs bls : List Str}
/-- a test by its value, in the middle of a chain -/
theorem Post.tv {α β : Type} {S : Sy} {G H : Hp} {m : List Addr} {R : RT α β} (hR : R.Good) {x : M PV} {f : Bool → M α} {s : AS} {Q : β → Hp → Prop} {W : XK} (h : Post S R G m H (tst x f s) Q W) {Q' : VK}
    (k : ∀ b s1 G1 m1 H1, Ext m m1 G G1 H H1 → Wd S G1 m1 s1 H1 → Post S R G1 m1 H1 (f b s1) Q W → Q' (.bl b) H1) : Post S (RepM S .E) G m H (x s) Q' W := by
  unfold tst RP.tb at h
  rw [bnd_assoc] at h
  refine Post.step hR h fun a s1 G1 m1 H1 v e wd r p => ?_
  cases a with
  | bl b =>
    cases r
    exact k b s1 G1 m1 H1 e wd p
  | _ => exact p.elim
theorem tb_tst (x : M PV) (f : Bool → M PV) : tb (tst x f) = tst x fun k => tb (f k) := by
  unfold tst
  conv => lhs; unfold RP.tb
  rw [bnd_assoc]
  rfl
theorem tb_ret (b : Bool) : tb (ret (.bl b)) = ret b := rfl
variable {a b c : Expr} {rest : List Expr} {da db dc : Fm → M PV} {pos : Pos}
theorem de_and (ha : PE X a (tD (sy X T) .E W da)) (hb : PE X (.BoolOp .And (b :: rest) pos) (tD (sy X T) .E W db)) :
    PE X (.BoolOp .And (a :: b :: rest) pos) (tD (sy X T) .E W fun r => tst (da r) fun k => if k then db r else ret (.bl false)) := by
  refine (pe_and ha hb).imp fun σ H Q ⟨G, m, s, H₀, r, a, p⟩ => ?_
  refine ⟨G, m, s, H₀, r, a, p.tv (good_M _ _) fun b s1 G1 m1 H1 e1 wd1 p1 => ⟨b, rfl, ?_⟩⟩
  cases b with
  | true => exact ⟨G1, m1, s1, H₀, r, ⟨wd1, a.2.ext e1⟩, p1⟩
  | false => exact p1.ret wd1 (.bl false)
theorem de_or (ha : PE X a (tD (sy X T) .E W da)) (hb : PE X (.BoolOp .Or (b :: rest) pos) (tD (sy X T) .E W db)) :
    PE X (.BoolOp .Or (a :: b :: rest) pos) (tD (sy X T) .E W fun r => tst (da r) fun k => if k then ret (.bl true) else db r) := by
  refine (pe_or ha hb).imp fun σ H Q ⟨G, m, s, H₀, r, a, p⟩ => ?_
  refine ⟨G, m, s, H₀, r, a, p.tv (good_M _ _) fun b s1 G1 m1 H1 e1 wd1 p1 => ⟨b, rfl, ?_⟩⟩
  cases b with
  | false => exact ⟨G1, m1, s1, H₀, r, ⟨wd1, a.2.ext e1⟩, p1⟩
  | true => exact p1.ret wd1 (.bl true)
theorem de_not (ha : PE X a (tD (sy X T) .E W da)) : PE X (.UnaryOp .Not a pos) (tD (sy X T) .F W fun r => tst (da r) fun k => ret (.bl (!k))) := by
  refine (pe_not ha).imp fun σ H Q ⟨G, m, s, H₀, r, a, p⟩ => ?_
  exact ⟨G, m, s, H₀, r, a, p.tv (good_M _ _) fun b s1 G1 m1 H1 e1 wd1 p1 => ⟨b, rfl, p1.ret wd1 (.val rfl (.bl _))⟩⟩
theorem dt_not (ha : PT X a (tDT (sy X T) W da)) : PT X (.UnaryOp .Not a pos) (tDT (sy X T) W fun r => tst (da r) fun k => ret (.bl (!k))) := by
  refine (pt_not ha).imp fun σ H Q ⟨G, m, s, H₀, r, a, p⟩ => ?_
  dsimp only at p
  rw [tb_tst] at p
  exact ⟨G, m, s, H₀, r, a, p.tb good_B fun b s1 G1 m1 H1 e1 wd1 p1 => p1.ret wd1 rfl⟩
theorem PWimp {e : Expr} {t t' : TT} (h : PW X e t) (hi : ∀ σ H Q, t' σ H Q → t σ H Q) : PW X e t' := ⟨fun wh pins s σ H Q I hw => h.run wh pins s σ H Q I (hi σ H Q hw)⟩
theorem dw_and (ha : PT X a (tDT (sy X T) W da)) (hb : PW X (.BoolOp .And (b :: rest) pos) (tDT (sy X T) W db)) :
    PW X (.BoolOp .And (a :: b :: rest) pos) (tDT (sy X T) W fun r => tst (da r) fun k => if k then db r else ret (.bl false)) := by
  refine PWimp (pw_and ha hb) fun σ H Q ⟨G, m, s, H₀, r, a, p⟩ => ?_
  dsimp only at p
  rw [tb_tst] at p
  refine ⟨G, m, s, H₀, r, a, p.tb good_B fun b s1 G1 m1 H1 e1 wd1 p1 => ?_⟩
  cases b with
  | true => exact ⟨G1, m1, s1, H₀, r, ⟨wd1, a.2.ext e1⟩, p1⟩
  | false => exact p1.ret wd1 rfl
theorem dw_or (ha : PT X a (tDT (sy X T) W da)) (hb : PW X (.BoolOp .Or (b :: rest) pos) (tDT (sy X T) W db)) :
    PW X (.BoolOp .Or (a :: b :: rest) pos) (tDT (sy X T) W fun r => tst (da r) fun k => if k then ret (.bl true) else db r) := by
  refine PWimp (pw_or ha hb) fun σ H Q ⟨G, m, s, H₀, r, a, p⟩ => ?_
  dsimp only at p
  rw [tb_tst] at p
  refine ⟨G, m, s, H₀, r, a, p.tb good_B fun b s1 G1 m1 H1 e1 wd1 p1 => ?_⟩
  cases b with
  | false => exact ⟨G1, m1, s1, H₀, r, ⟨wd1, a.2.ext e1⟩, p1⟩
  | true => exact p1.ret wd1 rfl
theorem de_neg (ha : PE X a (tD (sy X T) .E W da)) : PE X (.UnaryOp .USub a pos) (tD (sy X T) .F W fun r => bnd (da r) fun x => match x with
    | .int i => ret (.int (-i))
    | _ => stk) := by
  refine (pe_un un_neg ha).imp fun σ H Q ⟨G, m, s, H₀, r, a, p⟩ => ?_
  refine ⟨G, m, s, H₀, r, a, p.step (good_M _ _) fun x s1 G1 m1 H1 v e1 wd1 rx p1 => ?_⟩
  cases x with
  | int i =>
    cases rx
    exact ⟨i, rfl, p1.ret wd1 (.val rfl (.int _))⟩
  | _ => exact p1.elim
theorem de_ite (hc : PT X c (tDT (sy X T) W dc)) (ha : PE X a (tD (sy X T) .E W da)) (hb : PE X b (tD (sy X T) .E W db)) :
    PE X (.IfExp c a b pos) (tD (sy X T) .E W fun r => tst (dc r) fun k => if k then da r else db r) := by
  refine (pe_ifExp hc ha hb).imp fun σ H Q ⟨G, m, s, H₀, r, a, p⟩ => ?_
  refine ⟨G, m, s, H₀, r, a, p.tb (good_M _ _) fun b s1 G1 m1 H1 e1 wd1 p1 => ?_⟩
  cases b with
  | true => exact ⟨G1, m1, s1, H₀, r, ⟨wd1, a.2.ext e1⟩, p1⟩
  | false => exact ⟨G1, m1, s1, H₀, r, ⟨wd1, a.2.ext e1⟩, p1⟩
theorem dt_ite (hc : PT X c (tDT (sy X T) W dc)) (ha : PT X a (tDT (sy X T) W da)) (hb : PT X b (tDT (sy X T) W db)) :
    PT X (.IfExp c a b pos) (tDT (sy X T) W fun r => tst (dc r) fun k => if k then da r else db r) := by
  refine ⟨fun pins s σ H Q I ⟨G, m, st, H₀, r, at_, p⟩ => ?_⟩
  dsimp only at p
  rw [tb_tst] at p
  show wpAny _ _ (do if ← isTrue c X.env (eval c X.env) then isTrue a X.env (eval a X.env) else isTrue b X.env (eval b X.env)) _ _ _
  refine wpAny_bind (thn (hc.run pins s σ H _ I ⟨G, m, st, H₀, r, at_, p.tb good_B fun b s1 G1 m1 H1 e1 wd1 p1 => (⟨b, s1, G1, m1, e1, wd1, p1, rfl⟩ : ∃ (b' : Bool) (s1 : AS) (G1 : Hp) (m1 : List Addr), Ext m m1 G G1 H H1 ∧ Wd (sy X T) G1 m1 s1 H1 ∧ Post (sy X T) RepB G1 m1 H1 (tb (if b' then da r else db r) s1) Q W ∧ b = b')⟩) fun d s1 ⟨H1, I1, b', s1', G1, m1, e1, wd1, p1, eb⟩ => ?_)
  subst eb
  cases d with
  | true => exact ha.run pins s1 σ H1 Q I1 ⟨G1, m1, s1', H₀, r, ⟨wd1, at_.2.ext e1⟩, p1⟩
  | false => exact hb.run pins s1 σ H1 Q I1 ⟨G1, m1, s1', H₀, r, ⟨wd1, at_.2.ext e1⟩, p1⟩
theorem non_iff {S : Sy} {G : Hp} {m : List Addr} {x : PV} {v : V} (r : Rep S G m x v) : decide (v = .non) = isNonP x := by
  cases r <;> simp [isNonP]
theorem de_isN {j : Nat} {p1 : Pos} (ha : PE X a (tD (sy X T) .E W da)) : PE X (.Compare a [.Is] [.Constant .none j p1] pos) (tD (sy X T) .F W fun r => bnd (da r) fun x => ret (.bl (isNonP x))) := by
  refine (pe_cmp (pc_isN ha) rfl).imp fun σ H Q ⟨G, m, s, H₀, r, a, p⟩ => ?_
  refine ⟨G, m, s, H₀, r, a, p.step (good_M _ _) fun x s1 G1 m1 H1 v e1 wd1 rx p1 => ?_⟩
  rw [non_iff rx]
  exact p1.ret wd1 (.val rfl (.bl _))
theorem de_notN {j : Nat} {p1 : Pos} (ha : PE X a (tD (sy X T) .E W da)) : PE X (.Compare a [.IsNot] [.Constant .none j p1] pos) (tD (sy X T) .F W fun r => bnd (da r) fun x => ret (.bl (!isNonP x))) := by
  refine (pe_cmp (pc_notN ha) rfl).imp fun σ H Q ⟨G, m, s, H₀, r, a, p⟩ => ?_
  refine ⟨G, m, s, H₀, r, a, p.step (good_M _ _) fun x s1 G1 m1 H1 v e1 wd1 rx p1 => ?_⟩
  rw [non_iff rx]
  exact p1.ret wd1 (.val rfl (.bl _))
theorem dt_isN {j : Nat} {p1 : Pos} (ha : PE X a (tD (sy X T) .E W da)) : PT X (.Compare a [.Is] [.Constant .none j p1] pos) (tDT (sy X T) W fun r => bnd (da r) fun x => ret (.bl (isNonP x))) := by
  refine (pt_cmp (pc_isN ha) rfl).imp fun σ H Q ⟨G, m, s, H₀, r, a, p⟩ => ?_
  dsimp only at p
  unfold RP.tb at p
  rw [bnd_assoc] at p
  refine ⟨G, m, s, H₀, r, a, p.step good_B fun x s1 G1 m1 H1 v e1 wd1 rx p1 => ⟨_, rfl, ?_⟩⟩
  rw [non_iff rx]
  exact p1.ret wd1 rfl
theorem dt_notN {j : Nat} {p1 : Pos} (ha : PE X a (tD (sy X T) .E W da)) : PT X (.Compare a [.IsNot] [.Constant .none j p1] pos) (tDT (sy X T) W fun r => bnd (da r) fun x => ret (.bl (!isNonP x))) := by
  refine (pt_cmp (pc_notN ha) rfl).imp fun σ H Q ⟨G, m, s, H₀, r, a, p⟩ => ?_
  dsimp only at p
  unfold RP.tb at p
  rw [bnd_assoc] at p
  refine ⟨G, m, s, H₀, r, a, p.step good_B fun x s1 G1 m1 H1 v e1 wd1 rx p1 => ⟨_, rfl, ?_⟩⟩
  rw [non_iff rx]
  exact p1.ret wd1 rfl
/-- a op b op' c -/
theorem chain_ok {op op' : CO} {σ : L2.St} {H : Hp} {α β : Type} {R : RT α β} (hR : R.Good) {Q : β → Hp → Prop} {f : PV → M α} {Q' : Bool → Hp → Prop}
    (h : ∃ G m s H₀ r, At (sy X T) G m s H₀ H r σ ∧ Post (sy X T) R G m H (bnd (bnd (da r) fun x => bnd (db r) fun y => bnd (opt (cmpP op x y)) fun k => if k then bnd (dc r) fun z => opt ((cmpP op' y z).map .bl) else ret (.bl false)) f s) Q W)
    (hf : ∀ b s1 G1 m1 H1, Wd (sy X T) G1 m1 s1 H1 → Post (sy X T) R G1 m1 H1 (f (.bl b) s1) Q W → Q' b H1) :
    tD (sy X T) .E W da σ H fun x H1 => tD (sy X T) .E W db σ H1 fun y H2 => rO2 (sy X T) .F (fun a b => (cmpP op a b).map .bl) x y H2 fun z H3 => ∃ k, z = .bl k ∧
      if k = true then tD (sy X T) .E W dc σ H3 fun z' H4 => rO2 (sy X T) .F (fun a b => (cmpP op' a b).map .bl) y z' H4 fun z2 H5 => ∃ k2, z2 = .bl k2 ∧ Q' k2 H5 else Q' false H3 := by
  obtain ⟨G, m, s, H₀, r, a, p⟩ := h
  rw [bnd_assoc] at p
  refine ⟨G, m, s, H₀, r, a, p.step hR fun x s1 G1 m1 H1 v e1 wd1 rx p1 => ?_⟩
  rw [bnd_assoc] at p1
  refine ⟨G1, m1, s1, H₀, r, ⟨wd1, a.2.ext e1⟩, p1.step hR fun y s2 G2 m2 H2 u e2 wd2 ry p2 => ?_⟩
  refine ⟨G2, m2, s2, x, y, wd2, .rep (Rep.ext rx e2), .rep ry, ?_⟩
  dsimp only
  cases q : cmpP op x y with
  | none => rw [q] at p2; exact p2.elim
  | some kk =>
    rw [q] at p2
    intro G3 m3 H3 w e3 wd3 rz
    have p3 := Post.later hR e3 p2
    cases rz with
    | val _ rz =>
    cases rz
    refine ⟨kk, rfl, ?_⟩
    cases kk with
    | false => exact hf false s2 G3 m3 H3 wd3 p3
    | true =>
      rw [if_pos rfl]
      have p3 : Post (sy X T) R G3 m3 H3 (bnd (bnd (dc r) fun z => opt ((cmpP op' y z).map .bl)) f s2) Q W := p3
      rw [bnd_assoc] at p3
      refine ⟨G3, m3, s2, H₀, r, ⟨wd3, (a.2.ext e1).ext (e2.trans e3)⟩, p3.step hR fun z s4 G4 m4 H4 w e4 wd4 rz p4 => ?_⟩
      refine ⟨G4, m4, s4, y, z, wd4, .rep (Rep.ext (Rep.ext ry e3) e4), .rep rz, ?_⟩
      dsimp only
      cases q' : cmpP op' y z with
      | none => rw [q'] at p4; exact p4.elim
      | some k2 =>
        rw [q'] at p4
        intro G5 m5 H5 w5 e5 wd5 r5
        cases r5 with
        | val _ r5 =>
        cases r5
        exact ⟨k2, rfl, hf k2 s4 G5 m5 H5 wd5 (Post.later hR e5 p4)⟩
theorem rO2.mono {S : Sy} {k : Md} {f : PV → PV → Option PV} {x y : V} {H : Hp} {Q Q' : VK} (h : rO2 S k f x y H Q) (hQ : ∀ v H', Q v H' → Q' v H') : rO2 S k f x y H Q' := by
  obtain ⟨G, m, s, a, b, wd, ra, rb, p⟩ := h
  exact ⟨G, m, s, a, b, wd, ra, rb, p.imp (fun G' m' H' x v s' _ e w r => ⟨G', e, w, r⟩) hQ⟩
theorem de_chain {op op' : CO} (hu : X.A.units + 200 < cLine) (ha : PE X a (tD (sy X T) .E W da)) (hb : PE X b (tD (sy X T) .E W db)) (hc : PE X c (tD (sy X T) .E W dc)) (hm : lastMarks [copOf op, copOf op'] [b, c] = false) :
    PE X (.Compare a [copOf op, copOf op'] [b, c] pos) (tD (sy X T) .F W fun r => bnd (da r) fun x => bnd (db r) fun y => bnd (opt (cmpP op x y)) fun k => if k then bnd (dc r) fun z => opt ((cmpP op' y z).map .bl) else ret (.bl false)) := by
  refine (pe_chain (op_cmpP (T := T) hu op) (op_cmpP (T := T) hu op') ha hb hc hm).imp fun σ H Q ⟨G, m, s, H₀, r, a, p⟩ => ?_
  have key := chain_ok (T := T) (W := W) (da := da) (db := db) (dc := dc) (op := op) (op' := op') (σ := σ) (H := H) (R := RepM (sy X T) .F) (good_M _ _) (Q := Q) (f := fun x => ret x) (Q' := fun b H1 => Q (.bl b) H1) ⟨G, m, s, H₀, r, a, by
    have : ∀ x : M PV, bnd x (fun x => ret x) = x := fun x => by
      funext s
      unfold bnd
      cases x s <;> rfl
    rw [this]
    exact p⟩ (fun b s1 G1 m1 H1 wd1 p1 => p1.ret wd1 (.val rfl (.bl b)))
  obtain ⟨G, m, s, H₀, r, a, p⟩ := key
  refine ⟨G, m, s, H₀, r, a, p.imp (fun G' m' H' x v s' _ e w r => ⟨G', e, w, r⟩) fun v H1 h1 => ?_⟩
  obtain ⟨G, m, s, H₀, r, a, p⟩ := h1
  refine ⟨G, m, s, H₀, r, a, p.imp (fun G' m' H' x v s' _ e w r => ⟨G', e, w, r⟩) fun u H2 h2 => h2.mono fun z H3 ⟨k, e, h3⟩ => ⟨k, e, ?_⟩⟩
  cases k with
  | false => exact h3
  | true =>
    rw [if_pos rfl] at h3 ⊢
    obtain ⟨G, m, s, H₀, r, a, p⟩ := h3
    exact ⟨G, m, s, H₀, r, a, p.imp (fun G' m' H' x v s' _ e w r => ⟨G', e, w, r⟩) fun u H2 h2 => h2.mono fun z H3 ⟨k, e, h3⟩ => by rw [e]; exact h3⟩
theorem dt_chain {op op' : CO} (hu : X.A.units + 200 < cLine) (ha : PE X a (tD (sy X T) .E W da)) (hb : PE X b (tD (sy X T) .E W db)) (hc : PE X c (tD (sy X T) .E W dc)) (hm : lastMarks [copOf op, copOf op'] [b, c] = false) :
    PT X (.Compare a [copOf op, copOf op'] [b, c] pos) (tDT (sy X T) W fun r => bnd (da r) fun x => bnd (db r) fun y => bnd (opt (cmpP op x y)) fun k => if k then bnd (dc r) fun z => opt ((cmpP op' y z).map .bl) else ret (.bl false)) := by
  refine (pt_chain (op_cmpP (T := T) hu op) (op_cmpP (T := T) hu op') ha hb hc hm).imp fun σ H Q ⟨G, m, s, H₀, r, a, p⟩ => ?_
  have key := chain_ok (T := T) (W := W) (da := da) (db := db) (dc := dc) (op := op) (op' := op') (σ := σ) (H := H) (R := RepB) good_B (Q := Q) (f := fun x => opt (truth x)) (Q' := fun b H1 => Q b H1) ⟨G, m, s, H₀, r, a, p⟩ (fun b s1 G1 m1 H1 wd1 p1 => p1.ret wd1 rfl)
  obtain ⟨G, m, s, H₀, r, a, p⟩ := key
  refine ⟨G, m, s, H₀, r, a, p.imp (fun G' m' H' x v s' _ e w r => ⟨G', e, w, r⟩) fun v H1 h1 => ?_⟩
  obtain ⟨G, m, s, H₀, r, a, p⟩ := h1
  refine ⟨G, m, s, H₀, r, a, p.imp (fun G' m' H' x v s' _ e w r => ⟨G', e, w, r⟩) fun u H2 h2 => h2.mono fun z H3 ⟨k, e, h3⟩ => ⟨k, e, ?_⟩⟩
  cases k with
  | false => exact ⟨false, rfl, h3⟩
  | true =>
    rw [if_pos rfl] at h3 ⊢
    exact h3

/-! ### slices -/
theorem de_slLo {p2 : Pos} (ha : PE X a (tD (sy X T) .O W da)) (hb : PE X b (tD (sy X T) .E W db)) : PE X (.Subscript a (.Slice (some b) none none p2) pos) (tD (sy X T) .F W fun r => bnd (da r) fun x => bnd (db r) fun y => opt (slLoP x y)) := by
  refine (pe_slice (sl_P (T := T) true) ha (po_some hb) po_none).imp fun σ H Q ⟨G, m, s, H₀, r, a, p⟩ => ?_
  refine ⟨G, m, s, H₀, r, a, p.step (good_M _ _) fun x s1 G1 m1 H1 v e1 wd1 rx p1 => ?_⟩
  refine ⟨G1, m1, s1, H₀, r, ⟨wd1, a.2.ext e1⟩, p1.step (good_M _ _) fun y s2 G2 m2 H2 u e2 wd2 ry p2 => ?_⟩
  cases y with
  | int i =>
    cases ry
    refine ⟨i, rfl, G2, m2, s2, x, i, wd2, RepO.ext rx e2, rfl, rfl, ?_⟩
    show Post _ _ _ _ _ (opt (slLoP x (.int i)) s2) _ _
    cases q : slLoP x (.int i) with
    | none => rw [q] at p2; exact p2.elim
    | some z => rw [q] at p2; exact p2
  | _ => cases x <;> exact p2.elim
theorem de_slHi {p2 : Pos} (ha : PE X a (tD (sy X T) .O W da)) (hb : PE X b (tD (sy X T) .E W db)) : PE X (.Subscript a (.Slice none (some b) none p2) pos) (tD (sy X T) .F W fun r => bnd (da r) fun x => bnd (db r) fun y => opt (slHiP x y)) := by
  refine (pe_slice (sl_P (T := T) false) ha po_none (po_some hb)).imp fun σ H Q ⟨G, m, s, H₀, r, a, p⟩ => ?_
  refine ⟨G, m, s, H₀, r, a, p.step (good_M _ _) fun x s1 G1 m1 H1 v e1 wd1 rx p1 => ?_⟩
  refine ⟨G1, m1, s1, H₀, r, ⟨wd1, a.2.ext e1⟩, p1.step (good_M _ _) fun y s2 G2 m2 H2 u e2 wd2 ry p2 => ?_⟩
  cases y with
  | int i =>
    cases ry
    refine ⟨i, rfl, G2, m2, s2, x, i, wd2, RepO.ext rx e2, rfl, rfl, ?_⟩
    show Post _ _ _ _ _ (opt (slHiP x (.int i)) s2) _ _
    cases q : slHiP x (.int i) with
    | none => rw [q] at p2; exact p2.elim
    | some z => rw [q] at p2; exact p2
  | _ => cases x <;> exact p2.elim

/-! ### calls -/
variable {e : Expr} {es : List Expr} {x : Str} {p pos : Pos} {ds : Fm → M (List PV)}
theorem call_post {S : Sy} {H : Hp} {σ : L2.St} {Q : VK} {ar : Nat} {d : Den} {G : Hp} {m : List Addr} {s : AS} (hl : ∀ r s vs s', ds r s = .ok vs s' → vs.length = ar) {r : Fm} (p : Post S (RepM S .E) G m H (bnd (ds r) d s) Q W) :
    Post S (RepA S) G m H (ds r s) (fun vs H1 => SpD S ar d (vs ++ []) H1 Q W) W := by
  cases q : ds r s with
  | ok vs s1 =>
    intro G1 m1 H1 v e1 wd1 rx
    dsimp only [bnd] at p
    rw [q] at p
    rw [List.append_nil]
    exact ⟨G1, m1, s1, vs, hl _ _ _ _ q, wd1, rx, Post.later (good_M _ _) e1 p⟩
  | exc x s1 =>
    dsimp only [bnd] at p
    rw [q] at p
    exact p
  | stuck =>
    dsimp only [bnd] at p
    rw [q] at p
    exact p
abbrev StarOk (env : Env) (es : List Expr) : Prop := ∀ e0 e1, es = e0 :: e1 → starEach (e0 :: e1) env = (false, eval e0 env) :: starEach e1 env ∧ ∀ pos, (backTo pos (starEach e1 env)).any (·.1) = false
theorem de_call {j ar lv : Nat} (ok : Cok X T N k W G GV C fns gcs bls) (hj : fns[j]? = some (x, ar, lv)) (hg : Gl X x) (hdb : (x == ("__debug__" : Str)) = false) (ha : PA X (e :: es) (tDA (sy X T) W ds)) (hl : ∀ r s vs s', ds r s = .ok vs s' → vs.length = ar)
    (he : StarOk X.env (e :: es)) : PE X (.Call (.Name x p) (e :: es) [] pos) (tD (sy X T) .E W fun r => bnd (ds r) fun vs => getFn G j vs) := by
  obtain ⟨d, hd, ⟨f, fd, ps, hm, hk, hb, hps, F⟩, hlv⟩ := ok.fns j x ar lv hj
  have hgf : getFn G j = d := by unfold getFn; rw [hd]
  have hx : L2.Passes (L2.CX X.prog X.w) X W := passes_call ok.tk fun _ _ _ _ h => h
  have hr := ok.room.mono hlv
  obtain ⟨h1, h2⟩ := he e es rfl
  refine (pe_call F hr hg hm hk hb .nil hx ha hdb h1 (h2 pos)).imp fun σ H Q ⟨G, m, s, H₀, r, a, p⟩ => ?_
  dsimp only at p
  rw [hgf] at p
  exact ⟨G, m, s, H₀, r, a, call_post (σ := σ) hl p⟩
theorem de_call0 {j lv : Nat} (ok : Cok X T N k W G GV C fns gcs bls) (hj : fns[j]? = some (x, 0, lv)) (hg : Gl X x) (hdb : (x == ("__debug__" : Str)) = false) : PE X (.Call (.Name x p) [] [] pos) (tD (sy X T) .E W fun r => bnd (ret []) fun vs => getFn G j vs) := by
  obtain ⟨d, hd, ⟨f, fd, ps, hm, hk, hb, hps, F⟩, hlv⟩ := ok.fns j x 0 lv hj
  have hgf : getFn G j = d := by unfold getFn; rw [hd]
  have hx : L2.Passes (L2.CX X.prog X.w) X W := passes_call ok.tk fun _ _ _ _ h => h
  refine (pe_call0 F (ok.room.mono hlv) hg hm hk hb .nil hx hdb).imp fun σ H Q ⟨G, m, s, H₀, r, a, p⟩ => ?_
  dsimp only at p
  rw [hgf] at p
  exact ⟨G, m, s, [], rfl, a.1, .nil, p⟩
theorem _root_.L2.PE.any {ι : Type} {X : Cx} {e : Expr} {t : ι → TE} (h : ∀ i, PE X e (t i)) : PE X e (fun σ H Q => ∃ i, t i σ H Q) := ⟨fun pins s σ H Q I ⟨i, hw⟩ => (h i).run pins s σ H Q I hw⟩
theorem de_callv {i : Nat} (ok : Cok X T N k W G GV C fns gcs bls) (hN : X.N[i]? = some x) (hv : Vis X.env.scope x) (hd : (x == ("__debug__" : Str)) = false) (hcd : (x == ("__classdict__" : Str)) = false) (ha : PA X (e :: es) (tDA (sy X T) W ds))
    (he : StarOk X.env (e :: es)) : PE X (.Call (.Name x p) (e :: es) [] pos) (tD (sy X T) .E W fun r => match r.get i with
      | .sh (.fn x) => (match callP GV x with
        | some p => bnd (ds r) fun vs => callN p vs
        | none => stk)
      | _ => stk) := by
  have hx : L2.Passes (L2.CX X.prog X.w) X W := passes_call ok.tk fun _ _ _ _ h => h
  obtain ⟨h1, h2⟩ := he e es rfl
  have all : ∀ q : { q : Addr × Nat × Den × Nat // ∃ fd ps, PySem.W.keepIn X.K (.ref q.1) = true ∧ L2.Binds X.K fd ps [] ∧ FnOk X.prog X.w X.K X.mg X.base (L2.CX X.prog X.w) q.2.2.2 q.1 fd ps (SpD (sy X T) q.2.1 q.2.2.1) ∧ q.2.2.2 ≤ k },
      PE X (.Call (.Name x p) (e :: es) [] pos) (tCallL i q.1.1 (SpD (sy X T) q.1.2.1 q.1.2.2.1) [] W (tDA (sy X T) W ds)) := fun ⟨q, fd, ps, hk, hb, F, hlv⟩ =>
    pe_callL F (ok.room.mono hlv) hN hv hk hb .nil hx ha hd hcd h1 (h2 pos)
  refine (PE.any all).imp fun σ H Q ⟨G, m, s, H₀, r, a, p⟩ => ?_
  dsimp only at p
  obtain ⟨oa, hs, _⟩ := a.2.ex
  have h := hs i
  cases eg : r.get i with
  | sh f =>
    rw [eg] at h p
    obtain ⟨v, hv1, hv2⟩ := h
    cases f with
    | fn z =>
      cases hf : callP GV z with
      | none => dsimp only at p; rw [hf] at p; exact p.elim
      | some p0 =>
        dsimp only at p
        rw [hf] at p
        dsimp only at p
        have hm0 : p0 ∈ GV := List.mem_of_find?_eq_some hf
        have hz : p0.1 = z := by
          have := List.find?_some (show GV.find? (fun p => eqS p.1 z) = some p0 from hf)
          simp only [eqS_iff, decide_eq_true_eq] at this
          exact this
        obtain ⟨lv, ⟨fa, fd, ps, hm, hk, hb, hps, F⟩, hlv⟩ := ok.gvs p0 hm0
        cases hv2 with
        | fn hm2 =>
          rw [hz] at hm
          have : X.mg z = some (.ref _) := hm2
          rw [hm] at this
          cases this
          refine ⟨⟨(fa, p0.2.1, p0.2.2, lv), fd, ps, hk, hb, F, hlv⟩, hv1, G, m, s, H₀, r, a, ?_⟩
          cases q : ds r s with
          | ok vs s1 =>
            dsimp only [bnd] at p
            rw [q] at p
            intro G1 m1 H1 v e1' wd1 rx
            have p' : Post (sy X T) (RepM (sy X T) .E) G m H (callN p0 vs s1) Q W := p
            unfold callN at p'
            by_cases hlen : vs.length = p0.2.1
            · rw [if_pos hlen] at p'
              rw [List.append_nil]
              exact ⟨G1, m1, s1, vs, hlen, wd1, rx, Post.later (good_M _ _) e1' p'⟩
            · rw [if_neg hlen] at p'
              exact p'.elim
          | exc y s1 =>
            dsimp only [bnd] at p
            rw [q] at p
            exact p
          | stuck =>
            dsimp only [bnd] at p
            rw [q] at p
            exact p.elim
    | _ => exact p.elim
  | _ => rw [eg] at p; exact p.elim
/-- a built-in of one argument -/
theorem de_b1 {id : String} {kd : Md} {f : PV → Option PV} (hc : CallR X (.builtin id) (rC1 (sy X T) kd f)) (hg : Gl X x) (hm : X.mg x = none) (hv : bootBuiltins x = some (.builtin id)) (ha : PE X a (tD (sy X T) .O W da)) (hn : x ≠ "__name__") (hdb : (x == ("__debug__" : Str)) = false)
    (he : StarOk X.env [a]) : PE X (.Call (.Name x p) [a] [] pos) (tD (sy X T) kd W fun r => bnd (da r) fun v => opt (f v)) := by
  obtain ⟨h1, h2⟩ := he a [] rfl
  refine (pe_callB hc hg hm hv (pa_cons ha pa_nil h1) hn hdb h1 (h2 pos)).imp fun σ H Q ⟨G, m, s, H₀, r, a, p⟩ => ?_
  refine ⟨G, m, s, H₀, r, a, p.step (good_M _ _) fun x s1 G1 m1 H1 v e1 wd1 rx p1 => ⟨G1, m1, s1, x, v, rfl, wd1, rx, ?_⟩⟩
  cases q : f x with
  | none => rw [q] at p1; exact p1.elim
  | some z => rw [q] at p1; exact p1
theorem de_t1 {id : String} {kd : Md} {f : PV → Option PV} (hc : CallR X (.type id) (rC1 (sy X T) kd f)) (hg : Gl X x) (hm : X.mg x = none) (hv : bootBuiltins x = some (.type id)) (ha : PE X a (tD (sy X T) .O W da)) (hn : x ≠ "__name__") (hdb : (x == ("__debug__" : Str)) = false)
    (he : StarOk X.env [a]) : PE X (.Call (.Name x p) [a] [] pos) (tD (sy X T) kd W fun r => bnd (da r) fun v => opt (f v)) := by
  obtain ⟨h1, h2⟩ := he a [] rfl
  refine (pe_callTy hc hg hm hv (pa_cons ha pa_nil h1) hn hdb h1 (h2 pos)).imp fun σ H Q ⟨G, m, s, H₀, r, a, p⟩ => ?_
  refine ⟨G, m, s, H₀, r, a, p.step (good_M _ _) fun x s1 G1 m1 H1 v e1 wd1 rx p1 => ⟨G1, m1, s1, x, v, rfl, wd1, rx, ?_⟩⟩
  cases q : f x with
  | none => rw [q] at p1; exact p1.elim
  | some z => rw [q] at p1; exact p1
/-- isinstance(a, T) -/
theorem de_isinst {t : Ty} {y : Str} {py : Pos} (hg : Gl X x) (hm : X.mg x = none) (hv : bootBuiltins x = some (.builtin "isinstance")) (hgy : Gl X y) (hmy : X.mg y = none) (hvy : bootBuiltins y = some (.type (tyName t))) (ha : PE X a (tD (sy X T) .O W da)) (hn : x ≠ "__name__") (hdb : (x == ("__debug__" : Str)) = false) (hny : y ≠ "__name__") (hdby : (y == ("__debug__" : Str)) = false)
    (he : StarOk X.env [a, .Name y py]) : PE X (.Call (.Name x p) [a, .Name y py] [] pos) (tD (sy X T) .F W fun r => bnd (da r) fun v => opt ((isTyP t v).map .bl)) := by
  obtain ⟨h1, h2⟩ := he a [.Name y py] rfl
  refine (pe_callB (isi_P (T := T) t) hg hm hv (pa_cons ha (pa_cons (pe_bltn (v := .ty (tyName t)) hgy hmy hvy rfl hny hdby) pa_nil rfl) h1) hn hdb h1 (h2 pos)).imp fun σ H Q ⟨G, m, s, H₀, r, a, p⟩ => ?_
  refine ⟨G, m, s, H₀, r, a, p.step (good_M _ _) fun x s1 G1 m1 H1 v e1 wd1 rx p1 => ⟨G1, m1, s1, x, v, rfl, wd1, rx, ?_⟩⟩
  cases q : (isTyP t x).map PV.bl with
  | none => rw [q] at p1; exact p1.elim
  | some z => rw [q] at p1; exact p1
theorem de_min2 (hc : X.calm = true) (hg : Gl X x) (hm : X.mg x = none) (hv : bootBuiltins x = some (.builtin "min")) (ha : PE X a (tD (sy X T) .E W da)) (hb : PE X b (tD (sy X T) .E W db)) (hn : x ≠ "__name__") (hdb : (x == ("__debug__" : Str)) = false)
    (he : StarOk X.env [a, b]) (he2 : StarOk X.env [b]) : PE X (.Call (.Name x p) [a, b] [] pos) (tD (sy X T) .F W fun r => bnd (da r) fun x => bnd (db r) fun y => match x, y with
    | .int i, .int j => ret (.int (if j < i then j else i))
    | _, _ => stk) := by
  obtain ⟨h1, h2⟩ := he a [b] rfl
  refine (pe_callB (call_min2 hc) hg hm hv (pa_cons ha (pa_cons hb pa_nil (he2 b [] rfl).1) h1) hn hdb h1 (h2 pos)).imp fun σ H Q ⟨G, m, s, H₀, r, a, p⟩ => ?_
  refine ⟨G, m, s, H₀, r, a, p.step (good_M _ _) fun x s1 G1 m1 H1 v e1 wd1 rx p1 => ?_⟩
  refine ⟨G1, m1, s1, H₀, r, ⟨wd1, a.2.ext e1⟩, p1.step (good_M _ _) fun y s2 G2 m2 H2 u e2 wd2 ry p2 => ?_⟩
  cases x with
  | int i =>
    cases y with
    | int j =>
      cases rx
      cases ry
      exact ⟨i, j, rfl, p2.ret wd2 (.val rfl (.int _))⟩
    | _ => exact p2.elim
  | _ => exact p2.elim
theorem de_max2 (hc : X.calm = true) (hg : Gl X x) (hm : X.mg x = none) (hv : bootBuiltins x = some (.builtin "max")) (ha : PE X a (tD (sy X T) .E W da)) (hb : PE X b (tD (sy X T) .E W db)) (hn : x ≠ "__name__") (hdb : (x == ("__debug__" : Str)) = false)
    (he : StarOk X.env [a, b]) (he2 : StarOk X.env [b]) : PE X (.Call (.Name x p) [a, b] [] pos) (tD (sy X T) .F W fun r => bnd (da r) fun x => bnd (db r) fun y => match x, y with
    | .int i, .int j => ret (.int (if j > i then j else i))
    | _, _ => stk) := by
  obtain ⟨h1, h2⟩ := he a [b] rfl
  refine (pe_callB (call_max2 hc) hg hm hv (pa_cons ha (pa_cons hb pa_nil (he2 b [] rfl).1) h1) hn hdb h1 (h2 pos)).imp fun σ H Q ⟨G, m, s, H₀, r, a, p⟩ => ?_
  refine ⟨G, m, s, H₀, r, a, p.step (good_M _ _) fun x s1 G1 m1 H1 v e1 wd1 rx p1 => ?_⟩
  refine ⟨G1, m1, s1, H₀, r, ⟨wd1, a.2.ext e1⟩, p1.step (good_M _ _) fun y s2 G2 m2 H2 u e2 wd2 ry p2 => ?_⟩
  cases x with
  | int i =>
    cases y with
    | int j =>
      cases rx
      cases ry
      exact ⟨i, j, rfl, p2.ret wd2 (.val rfl (.int _))⟩
    | _ => exact p2.elim
  | _ => exact p2.elim
end
end RP

/-! Fw9: statements. Own work. -/
namespace RP
open PySem PySem.Spec PyProof.Rows L2

/-- what is frozen and what is mutable only grows -/
structure Lat (m m' : List Addr) (G G' : Hp) : Prop where
  le : ∀ a o, G a = some o → G' a = some o
  pre : ∃ t, m' = m ++ t
theorem Lat.refl {m : List Addr} {G : Hp} : Lat m m G G := ⟨fun _ _ h => h, [], by simp⟩
theorem Lat.trans {m m' m2 : List Addr} {G G' G2 : Hp} (a : Lat m m' G G') (b : Lat m' m2 G' G2) : Lat m m2 G G2 := ⟨fun x o h => b.le x o (a.le x o h), by
  obtain ⟨t, e⟩ := a.pre
  obtain ⟨u, e2⟩ := b.pre
  exact ⟨t ++ u, by rw [e2, e, List.append_assoc]⟩⟩
theorem Ext.lat {m m' : List Addr} {G G' H H' : Hp} (e : Ext m m' G G' H H') : Lat m m' G G' := ⟨e.le, e.pre⟩
/-! ### frames, stored -/
section
variable {S : Sy} {G G' H H' H₀ : Hp} {m m' : List Addr} {s : AS} {r : Fm} {σ : L2.St}
theorem get_set_same (r : Fm) (i : Nat) (x : Sl) (h : i < r.length) : Fm.get (r.set i x) i = x := by
  unfold Fm.get
  rw [List.getElem?_set_self h]
theorem get_set_ne (r : Fm) {i j : Nat} (x : Sl) (h : i ≠ j) : Fm.get (r.set i x) j = Fm.get r j := by
  unfold Fm.get
  rw [List.getElem?_set_ne h]
theorem get_out (r : Fm) {i : Nat} (h : r.length ≤ i) : Fm.get r i = .no := by
  unfold Fm.get
  rw [List.getElem?_eq_none h]
theorem set_out {α : Type} (r : List α) {i : Nat} (x : α) (h : r.length ≤ i) : r.set i x = r := List.set_eq_of_length_le h
/-- the frame with its places -/
structure FmAt (S : Sy) (G : Hp) (m : List Addr) (H₀ H : Hp) (r : Fm) (σ : L2.St) (oa : Nat → Addr) : Prop where
  len : r.length = σ.length
  ok : ∀ i, SlotOk S G m H₀ H (oa i) (Fm.get r i) σ[i]?
  inj : ∀ i j, (Fm.get r i).owns = true → (Fm.get r j).owns = true → oa i = oa j → i = j
theorem FmOk.at (f : FmOk S G m H₀ H r σ) : ∃ oa, FmAt S G m H₀ H r σ oa := let ⟨l, oa, h1, h2⟩ := f; ⟨oa, l, h1, h2⟩
theorem FmAt.fm {oa : Nat → Addr} (f : FmAt S G m H₀ H r σ oa) : FmOk S G m H₀ H r σ := ⟨f.len, oa, f.ok, f.inj⟩
theorem FmAt.ext {oa : Nat → Addr} (h : FmAt S G m H₀ H r σ oa) (e : Ext m m' G G' H H') : FmAt S G' m' H₀ H' r σ oa := ⟨h.len, fun i => (h.ok i).ext e, h.inj⟩
/-- what is owned stands in the heap -/
theorem SlotOk.there {b : Addr} {y : Sl} {o : Option (Option V)} (h : SlotOk S G m H₀ H b y o) (ho : y.owns = true) : ∃ u, H b = some u ∧ Mut (some u) ∧ ntbl u := by
  cases y with
  | ow xs =>
    obtain ⟨_, ⟨vs, e, _⟩, _⟩ := h
    exact ⟨_, e, True.intro, ntbl_lst⟩
  | od xs =>
    obtain ⟨_, ⟨vs, e, _⟩, _⟩ := h
    exact ⟨_, e, True.intro, ntbl_dct⟩
  | _ => cases ho
/-- a slot gets a content, at its own place a -/
theorem FmAt.put {oa : Nat → Addr} (f : FmAt S G m H₀ H r σ oa) (i : Nat) (x : Sl) (v : V) (a : Addr) (hx : SlotOk S G m H₀ H a x (some (some v))) (ha : x.owns = true → ∀ j, j ≠ i → (Fm.get r j).owns = true → a ≠ oa j) :
    FmAt S G m H₀ H (r.set i x) (σ.set i (some v)) (fun j => if j = i ∧ i < r.length then a else oa j) := by
  by_cases hi : i < r.length
  · refine ⟨by simp [f.len], fun j => ?_, fun j k hj hk e => ?_⟩
    · by_cases e : j = i
      · subst e
        rw [get_set_same r j x hi, List.getElem?_set_self (by rw [← f.len]; exact hi)]
        simpa [hi] using hx
      · rw [get_set_ne r x (Ne.symm e), List.getElem?_set_ne (Ne.symm e)]
        simpa [e] using f.ok j
    · by_cases ej : j = i
      · by_cases ek : k = i
        · rw [ej, ek]
        · subst ej
          rw [get_set_same r j x hi] at hj
          rw [get_set_ne r x (Ne.symm ek)] at hk
          simp only [hi, and_self, if_true, ek, false_and, if_false] at e
          exact (ha hj k ek hk e).elim
      · by_cases ek : k = i
        · subst ek
          rw [get_set_same r k x hi] at hk
          rw [get_set_ne r x (Ne.symm ej)] at hj
          simp only [hi, and_self, if_true, ej, false_and, if_false] at e
          exact (ha hk j ej hj e.symm).elim
        · rw [get_set_ne r x (Ne.symm ej)] at hj
          rw [get_set_ne r x (Ne.symm ek)] at hk
          simp only [ej, ek, false_and, if_false] at e
          exact f.inj j k hj hk e
  · rw [set_out r x (by omega), set_out σ _ (by rw [← f.len]; omega)]
    exact ⟨f.len, fun j => by simpa [hi] using f.ok j, fun j k hj hk e => f.inj j k hj hk (by simpa [hi] using e)⟩
theorem FmOk.putSh (f : FmOk S G m H₀ H r σ) (i : Nat) {x : PV} {v : V} (h : Rep S G m x v) : FmOk S G m H₀ H (r.set i (.sh x)) (σ.set i (some v)) := by
  obtain ⟨oa, f⟩ := f.at
  exact (f.put i (.sh x) v 0 ⟨v, rfl, h⟩ fun z => nomatch z).fm
theorem SlotOk.none {a : Addr} {o : Option (Option V)} : SlotOk S G m H₀ H a .no o := trivial
theorem FmOk.putNo (f : FmOk S G m H₀ H r σ) (i : Nat) : FmOk S G m H₀ H (r.set i .no) (σ.set i none) := by
  obtain ⟨oa, f⟩ := f.at
  by_cases hi : i < r.length
  · refine ⟨by simp [f.len], oa, fun j => ?_, fun j k hj hk e => ?_⟩
    · by_cases e : j = i
      · subst e
        show SlotOk S G m H₀ H (oa j) (Fm.get (r.set j .no) j) _
        rw [get_set_same r j _ hi]
        trivial
      · show SlotOk S G m H₀ H (oa j) (Fm.get (r.set i .no) j) _
        rw [get_set_ne r _ (Ne.symm e), List.getElem?_set_ne (Ne.symm e)]
        exact f.ok j
    · have h1 : j ≠ i := fun z => by
        subst z
        have hj : (Fm.get (r.set j .no) j).owns = true := hj
        rw [get_set_same r j _ hi] at hj; cases hj
      have h2 : k ≠ i := fun z => by
        subst z
        have hk : (Fm.get (r.set k .no) k).owns = true := hk
        rw [get_set_same r k _ hi] at hk; cases hk
      have hj : (Fm.get (r.set i .no) j).owns = true := hj
      have hk : (Fm.get (r.set i .no) k).owns = true := hk
      rw [get_set_ne r _ (Ne.symm h1)] at hj
      rw [get_set_ne r _ (Ne.symm h2)] at hk
      exact f.inj j k hj hk e
  · rw [set_out r _ (by omega), set_out σ _ (by rw [← f.len]; omega)]
    exact f.fm
/-- a new value is stored; G1, m1, H1: the moment ahead of its making -/
theorem FmOk.putF {G1 H1 : Hp} {m1 : List Addr} (f : FmOk S G1 m1 H₀ H1 r σ) (e1 : Ext m1 m G1 G H1 H) (h0 : ∀ a, H1 a = none → H₀ a = none) (i : Nat) {x : PV} {v : V} (h : RepF S G m H1 H x v) : FmOk S G m H₀ H (r.set i (ofV x)) (σ.set i (some v)) := by
  obtain ⟨oa, f⟩ := f.at
  have fresh : ∀ {a : Addr}, H1 a = none → ∀ j, j ≠ i → (Fm.get r j).owns = true → a ≠ oa j := fun {a} hn j _ hj e => by
    obtain ⟨u, hu, _⟩ := (f.ok j).there hj
    rw [← e, hn] at hu; cases hu
  cases h with
  | val hx h =>
    have : ofV x = .sh x := by cases x <;> first | rfl | cases hx
    rw [this]
    exact (f.ext e1).fm.putSh i h
  | @lst a xs vs h hm hg hn r' => exact ((f.ext e1).put i (.ow xs) (.ref a) a ⟨rfl, ⟨_, h, r'⟩, hm, hg, h0 _ hn⟩ fun _ => fresh hn).fm
  | @dct a xs es h hm hg hn r' => exact ((f.ext e1).put i (.od xs) (.ref a) a ⟨rfl, ⟨_, h, r'⟩, hm, hg, h0 _ hn⟩ fun _ => fresh hn).fm
/-- an owned object is written -/
theorem write_own {G₀ : Hp} {m₀ : List Addr} {oa : Nat → Addr} {i : Nat} {x : Sl} {o : HO} (e : Ext m₀ m G₀ G H₀ H) (wd : Wd S G m s H) (f : FmAt S G m H₀ H r σ oa) (hi : (Fm.get r i).owns = true) (ho : x.owns = true)
    (hx : SlotOk S G m H₀ (upd H (oa i) o) (oa i) x σ[i]?) (hd : H (oa i) ≠ none) (hm : oa i ∉ m) (hg : G (oa i) = none) (h0 : H₀ (oa i) = none) (hT : ∀ ps, H (oa i) ≠ some (.tbl ps)) (hc : ∀ q, H (oa i) ≠ some (LamX.CodeO (oa i) q)) :
    Ext m₀ m G₀ G H₀ (upd H (oa i) o) ∧ Wd S G m s (upd H (oa i) o) ∧ FmOk S G m H₀ (upd H (oa i) o) (r.set i x) σ := by
  have kp : ∀ b u, b ≠ oa i → H b = some u → upd H (oa i) o b = some u := fun b u hb h => by rw [upd_ne hb]; exact h
  have gne : ∀ b u, G b = some u → b ≠ oa i := fun b u h z => by rw [z, hg] at h; cases h
  have mne : ∀ b, b ∈ m → b ≠ oa i := fun b h z => hm (z ▸ h)
  have hlt : i < r.length := by
    by_cases q : i < r.length
    · exact q
    · rw [get_out r (by omega)] at hi; cases hi
  refine ⟨⟨e.le, e.pre, e.newm, e.newG, fun b u h h1 h2 => ?_, fun b h => ?_⟩, ⟨fun b u h => ⟨kp b u (gne b u h) (wd.le b u h).1, (wd.le b u h).2⟩, wd.len, wd.nd, fun n b u h1 h2 => ?_, fun p hp => ?_⟩, ⟨by simp [f.len], oa, fun j => ?_, fun j k hj hk ee => ?_⟩⟩
  · exact kp b u (fun z => by rw [z, h0] at h; cases h) (e.keep b u h h1 h2)
  · by_cases hb : b = oa i
    · subst hb; rw [upd_same] at h; cases h
    · rw [upd_ne hb] at h; exact e.dom b h
  · have O := wd.obj n b u h1 h2
    have hb := mne b (List.mem_of_getElem? h1)
    cases O with
    | lst h r => exact .lst (kp _ _ hb h) r
    | ins hc h r => exact .ins hc (kp _ _ hb h) r
  · obtain ⟨ps, h1, h2, h3⟩ := wd.tab p hp
    refine ⟨ps, kp _ _ (fun z => hT ps (by rw [← z]; exact h1)) h1, h2, fun pos cv hcv => ?_⟩
    obtain ⟨c, e1, e2⟩ := h3 pos cv hcv
    exact ⟨c, e1, kp _ _ (fun z => hc _ (by rw [← z]; exact e2)) e2⟩
  · show SlotOk S G m H₀ _ (oa j) (Fm.get (r.set i x) j) _
    by_cases hj : j = i
    · subst hj
      rw [get_set_same r j x hlt]
      exact hx
    · rw [get_set_ne r x (Ne.symm hj)]
      have O := f.ok j
      cases q : Fm.get r j with
      | no => trivial
      | sh y => rw [q] at O; exact O
      | ow xs =>
        rw [q] at O
        obtain ⟨h1, ⟨vs, h2, h3⟩, h4⟩ := O
        exact ⟨h1, ⟨vs, kp _ _ (fun z => hj (f.inj j i (by rw [q]; rfl) hi z)) h2, h3⟩, h4⟩
      | od xs =>
        rw [q] at O
        obtain ⟨h1, ⟨vs, h2, h3⟩, h4⟩ := O
        exact ⟨h1, ⟨vs, kp _ _ (fun z => hj (f.inj j i (by rw [q]; rfl) hi z)) h2, h3⟩, h4⟩
  · have hj : (Fm.get (r.set i x) j).owns = true := hj
    have hk : (Fm.get (r.set i x) k).owns = true := hk
    refine f.inj j k ?_ ?_ ee
    · by_cases z : j = i
      · rw [z]; exact hi
      · rw [get_set_ne r x (Ne.symm z)] at hj; exact hj
    · by_cases z : k = i
      · rw [z]; exact hi
      · rw [get_set_ne r x (Ne.symm z)] at hk; exact hk
theorem upd_self {H : Hp} {a : Addr} {o : HO} (h : H a = some o) : upd H a o = H := by
  funext b
  by_cases hb : b = a
  · subst hb; rw [upd_same, h]
  · rw [upd_ne hb]
/-- an owned object is shared from now on (and locked, if it is a dict) -/
theorem freeze_at {G₀ : Hp} {m₀ : List Addr} {oa : Nat → Addr} {i : Nat} {o o' : HO} {y : PV} (e : Ext m₀ m G₀ G H₀ H) (wd : Wd S G m s H) (f : FmAt S G m H₀ H r σ oa) (hlt : i < r.length) (hy : (Fm.get r i).freeze = .sh y) (ho : H (oa i) = some o)
    (no : ntbl o) (no' : ntbl o') (hc : ∀ q, H (oa i) ≠ some (LamX.CodeO (oa i) q)) (hs : σ[i]? = some (some (.ref (oa i)))) (hm : oa i ∉ m) (hg : G (oa i) = none) (h0 : H₀ (oa i) = none) (hi : (Fm.get r i).owns = true)
    (hr : ∀ G', (∀ b u, G b = some u → G' b = some u) → G' (oa i) = some o' → Rep S G' m y (.ref (oa i))) : ∃ G', Lat m m G G' ∧ Ext m₀ m G₀ G' H₀ (upd H (oa i) o') ∧ Wd S G' m s (upd H (oa i) o') ∧ FmOk S G' m H₀ (upd H (oa i) o') (Fm.freeze r i) σ := by
  obtain ⟨le, wd'⟩ := lockG (o' := o') wd ho hm no' no hc hg
  refine ⟨_, ⟨le, [], by simp⟩, e.lock h0 hg, wd', ⟨by simp [Fm.freeze, f.len], oa, fun j => ?_, fun j k hj hk ee => ?_⟩⟩
  · show SlotOk S _ m H₀ _ (oa j) (Fm.get (r.set i (Fm.get r i).freeze) j) _
    by_cases hj : j = i
    · subst hj
      rw [get_set_same r j _ hlt, hy]
      exact ⟨_, hs, hr _ le upd_same⟩
    · rw [get_set_ne r _ (Ne.symm hj)]
      have O := f.ok j
      cases q : Fm.get r j with
      | no => trivial
      | sh y =>
        rw [q] at O
        obtain ⟨v, h1, h2⟩ := O
        exact ⟨v, h1, h2.mono le ⟨[], by simp⟩⟩
      | ow xs =>
        rw [q] at O
        have ne : oa j ≠ oa i := fun z => hj (f.inj j i (by rw [q]; rfl) hi z)
        obtain ⟨h1, ⟨vs, h2, h3⟩, h4, h5, h6⟩ := O
        exact ⟨h1, ⟨vs, by rw [upd_ne ne]; exact h2, h3.mono le ⟨[], by simp⟩⟩, h4, by rw [upd_ne ne]; exact h5, h6⟩
      | od xs =>
        rw [q] at O
        have ne : oa j ≠ oa i := fun z => hj (f.inj j i (by rw [q]; rfl) hi z)
        obtain ⟨h1, ⟨vs, h2, h3⟩, h4, h5, h6⟩ := O
        exact ⟨h1, ⟨vs, by rw [upd_ne ne]; exact h2, h3.mono le ⟨[], by simp⟩⟩, h4, by rw [upd_ne ne]; exact h5, h6⟩
  · have hj : (Fm.get (r.set i (Fm.get r i).freeze) j).owns = true := hj
    have hk : (Fm.get (r.set i (Fm.get r i).freeze) k).owns = true := hk
    refine f.inj j k ?_ ?_ ee
    · by_cases z : j = i
      · rw [z]; exact hi
      · rw [get_set_ne r _ (Ne.symm z)] at hj; exact hj
    · by_cases z : k = i
      · rw [z]; exact hi
      · rw [get_set_ne r _ (Ne.symm z)] at hk; exact hk
theorem freeze_same (h : (Fm.get r i).freeze = Fm.get r i) : Fm.freeze r i = r := by
  unfold Fm.freeze
  by_cases hlt : i < r.length
  · rw [h]
    unfold Fm.get
    rw [List.getElem?_eq_getElem hlt]
    exact List.set_getElem_self hlt
  · exact set_out r _ (by omega)
end

/-! ### the judgement -/
/-- what is wanted behind statements of a def that was entered at (G₀, m₀, H₀), as seen from the moment (Gb, mb) -/
def PostS (S : Sy) (G₀ : Hp) (m₀ : List Addr) (H₀ Gb : Hp) (mb : List Addr) (res : Res Fl) (D : Ends) (W : XK) : Prop := match res with
  | .ok (.nx r) s => ∀ G m H σ, Ext m₀ m G₀ G H₀ H → Lat mb m Gb G → At S G m s H₀ H r σ → D.nx σ H
  | .ok (.bk r) s => ∀ G m H σ, Ext m₀ m G₀ G H₀ H → Lat mb m Gb G → At S G m s H₀ H r σ → D.bk σ H
  | .ok (.ct r) s => ∀ G m H σ, Ext m₀ m G₀ G H₀ H → Lat mb m Gb G → At S G m s H₀ H r σ → D.ct σ H
  | .ok (.rt x) s => ∀ G m H v, Ext m₀ m G₀ G H₀ H → Wd S G m s H → Rep S G m x v → D.rt v H
  | .exc x s => ∀ G m H cls d, Ext m₀ m G₀ G H₀ H → Wd S G m s H → ExcR S G m H x cls d → W cls d H
  | .stuck => False
/-- a moment of a def: its entry, the moment that one looks from, now -/
structure Now (S : Sy) (G₀ : Hp) (m₀ : List Addr) (H₀ Gb : Hp) (mb : List Addr) (G : Hp) (m : List Addr) (s : AS) (H : Hp) (r : Fm) (σ : L2.St) : Prop where
  ext : Ext m₀ m G₀ G H₀ H
  lat : Lat mb m Gb G
  wd : Wd S G m s H
  fm : FmOk S G m H₀ H r σ
def tS (S : Sy) (W : XK) (d : Fm → M Fl) : TS := fun D σ H => ∃ G₀ m₀ H₀ Gb mb G m s r, Now S G₀ m₀ H₀ Gb mb G m s H r σ ∧ PostS S G₀ m₀ H₀ Gb mb (d r s) D W
section
variable {S : Sy} {G G' H H' H₀ G₀ Gb : Hp} {m m' m₀ mb : List Addr} {s : AS} {r : Fm} {σ : L2.St} {W : XK} {D : Ends}
theorem Now.at (a : Now S G₀ m₀ H₀ Gb mb G m s H r σ) : At S G m s H₀ H r σ := ⟨a.wd, a.fm⟩
theorem Now.go {G1 H1 : Hp} {m1 : List Addr} {s1 : AS} (a : Now S G₀ m₀ H₀ Gb mb G m s H r σ) (e : Ext m m1 G G1 H H1) (wd : Wd S G1 m1 s1 H1) : Now S G₀ m₀ H₀ Gb mb G1 m1 s1 H1 r σ := ⟨a.ext.trans e, a.lat.trans e.lat, wd, a.fm.ext e⟩
/-- seen from later on -/
theorem PostS.base {res : Res Fl} (h : PostS S G₀ m₀ H₀ Gb mb res D W) (l : Lat mb m Gb G) : PostS S G₀ m₀ H₀ G m res D W := by
  cases res with
  | ok f s =>
    cases f with
    | nx r => exact fun G' m' H' σ' e l' a => h G' m' H' σ' e (l.trans l') a
    | bk r => exact fun G' m' H' σ' e l' a => h G' m' H' σ' e (l.trans l') a
    | ct r => exact fun G' m' H' σ' e l' a => h G' m' H' σ' e (l.trans l') a
    | rt x => exact h
  | exc x s => exact h
  | stuck => exact h
theorem PostS.nx (h : PostS S G₀ m₀ H₀ Gb mb (ret (.nx r) s) D W) (a : Now S G₀ m₀ H₀ Gb mb G m s H r σ) : D.nx σ H := h G m H σ a.ext a.lat a.at
/-- an expression within a statement -/
theorem PostS.step {γ δ : Type} {R' : RT γ δ} {x : M γ} {f : γ → M Fl} (a : Now S G₀ m₀ H₀ Gb mb G m s H r σ) (h : PostS S G₀ m₀ H₀ Gb mb (bnd x f s) D W) {Q' : δ → Hp → Prop}
    (k : ∀ y s1 G1 m1 H1 v, Ext m m1 G G1 H H1 → Now S G₀ m₀ H₀ Gb mb G1 m1 s1 H1 r σ → R' H G1 m1 H1 y v → PostS S G₀ m₀ H₀ Gb mb (f y s1) D W → Q' v H1) : Post S R' G m H (x s) Q' W := by
  unfold bnd at h
  cases q : x s with
  | ok y s1 =>
    rw [q] at h
    exact fun G1 m1 H1 v e1 wd r => k y s1 G1 m1 H1 v e1 (a.go e1 wd) r h
  | exc x' s1 =>
    rw [q] at h
    exact fun G1 m1 H1 c d e1 wd r => h G1 m1 H1 c d (a.ext.trans e1) wd r
  | stuck =>
    rw [q] at h
    exact h
theorem PostS.tb {x : M PV} {f : Bool → M Fl} (a : Now S G₀ m₀ H₀ Gb mb G m s H r σ) (h : PostS S G₀ m₀ H₀ Gb mb (tst x f s) D W) {Q' : Bool → Hp → Prop}
    (k : ∀ b s1 G1 m1 H1, Ext m m1 G G1 H H1 → Now S G₀ m₀ H₀ Gb mb G1 m1 s1 H1 r σ → PostS S G₀ m₀ H₀ Gb mb (f b s1) D W → Q' b H1) : Post S RepB G m H (tb x s) Q' W :=
  PostS.step a h fun y s1 G1 m1 H1 v e1 e2 r p => by
    have : y = v := r
    subst this
    exact k y s1 G1 m1 H1 e1 e2 p
theorem Now.putSh (a : Now S G₀ m₀ H₀ Gb mb G m s H r σ) (i : Nat) {x : PV} {v : V} (h : Rep S G m x v) : Now S G₀ m₀ H₀ Gb mb G m s H (r.set i (.sh x)) (σ.set i (some v)) := ⟨a.ext, a.lat, a.wd, a.fm.putSh i h⟩
end
end RP

/-! Fw10: statements' rules. Own work. -/
namespace RP
open PySem PySem.Spec PyProof.Rows L2

section
variable {X : Cx} {T : List (Addr × Str)} {N : List Str} {k : Nat} {W : XK} {Gd : List Den} {GV : List (Str × Nat × Den)} {C : List PV} {fns : List (Str × Nat × Nat)} {gcs bls : List Str}
variable {e : Expr} {d : Fm → M PV} {pos py : Pos} {i : Nat} {y : Str}
theorem ds_set (hN : X.N.Nodup) (hi : X.N[i]? = some y) (hx : Loc X.env.scope y) (hf : X.fn y = true ∨ X.env.scope.names.lookup y = some .local) (he : PE X e (tD (sy X T) .E W d)) (hs : swapsWith e (some (.Name y py)) pos.line X.env = pure false) :
    PS X (.Assign [.Name y py] e pos) (tS (sy X T) W fun r => bnd (d r) fun v => ret (.nx (r.set i (.sh v)))) := by
  refine (ps_set hN hi hx he hs hf).imp fun D σ H ⟨G₀, m₀, H₀, Gb, mb, G, m, s, r, a, p⟩ => ?_
  exact ⟨G, m, s, H₀, r, a.at, PostS.step a p fun x s1 G1 m1 H1 v e1 a1 rx p1 => p1.nx (a1.putSh i rx)⟩
theorem ds_setO (hN : X.N.Nodup) (hi : X.N[i]? = some y) (hx : Loc X.env.scope y) (hf : X.fn y = true ∨ X.env.scope.names.lookup y = some .local) (he : PE X e (tD (sy X T) .F W d)) (hs : swapsWith e (some (.Name y py)) pos.line X.env = pure false) :
    PS X (.Assign [.Name y py] e pos) (tS (sy X T) W fun r => bnd (d r) fun v => ret (.nx (r.set i (ofV v)))) := by
  refine (ps_set hN hi hx he hs hf).imp fun D σ H ⟨G₀, m₀, H₀, Gb, mb, G, m, s, r, a, p⟩ => ?_
  exact ⟨G, m, s, H₀, r, a.at, PostS.step a p fun x s1 G1 m1 H1 v e1 a1 rx p1 => p1 G1 m1 H1 _ a1.ext a1.lat ⟨a1.wd, a.fm.putF e1 a.ext.dom i rx⟩⟩
/-- names of a target -/
inductive Tgs (X : Cx) : List Expr → List Nat → Prop
  | nil : Tgs X [] []
  | cons {y : Str} {py : Pos} {i : Nat} {es : List Expr} {is : List Nat} (hi : X.N[i]? = some y) (hx : Loc X.env.scope y) (hf : X.fn y = true ∨ X.env.scope.names.lookup y = some .local) (t : Tgs X es is) : Tgs X (.Name y py :: es) (i :: is)
/-- what binding does -/
def gBind (S : Sy) (is : List Nat) : TGs := fun vs σ H Q => ∃ G m s H₀ r xs r', At S G m s H₀ H r σ ∧ Reps S G m xs vs ∧ bindNs is xs r = some r' ∧ ∀ σ', (∀ H2, FmOk S G m H₀ H2 r σ → FmOk S G m H₀ H2 r' σ') → (∀ ws : List Nat, (∀ i, i ∈ is → i ∈ ws) → wipe σ' ws = wipe σ ws) → Q σ' H
theorem wipe_set {ws : List Nat} {σ : L2.St} {i : Nat} {v : Option V} (h : i ∈ ws) : wipe (σ.set i v) ws = wipe σ ws := by
  induction ws with
  | nil => cases h
  | cons w ws ih =>
    unfold wipe
    by_cases hi : i ∈ ws
    · rw [ih hi]
    · have hw : i = w := by
        rcases List.mem_cons.mp h with q | q
        · exact q
        · exact (hi q).elim
      subst hw
      have : ∀ (us : List Nat) (τ : L2.St), i ∉ us → wipe (τ.set i v) us = (wipe τ us).set i v := by
        intro us
        induction us with
        | nil => intro τ _; rfl
        | cons u us ihu =>
          intro τ hn
          unfold wipe
          rw [ihu τ (fun z => hn (List.mem_cons_of_mem _ z)), List.set_comm _ _ (fun z => hn (by subst z; exact List.mem_cons_self))]
      rw [this ws σ hi, List.set_set]
theorem tgs_ok (hN : X.N.Nodup) : ∀ {es : List Expr} {is : List Nat}, Tgs X es is → PGs X es (gBind (sy X T) is) ∧ (assignEach es X.env).length = is.length ∧ (assignEach es X.env).findIdx? (·.1) = none
  | _, _, .nil => by
    refine ⟨⟨fun pins s σ H vs us Q I r h => ?_⟩, rfl, rfl⟩
    obtain ⟨G, m, st, H₀, fm, xs, r', a, rx, hb, q⟩ := h
    cases xs with
    | nil =>
      cases rx
      simp only [bindNs, Option.some.injEq] at hb
      subst hb
      exact pgs_nil.run pins s σ H _ us Q I r ⟨rfl, q σ (fun _ h => h) fun _ _ => rfl⟩
    | cons x xs => simp [bindNs] at hb
  | _, _, .cons (y := y) (py := py) (i := i) (es := es) (is := is) hi hx hf t => by
    obtain ⟨ih, h1, h2⟩ := tgs_ok hN t
    have ec : (assignEach (.Name y py :: es) X.env) = (false, assign (.Name y py) X.env) :: assignEach es X.env := rfl
    refine ⟨⟨fun pins s σ H vs us Q I r h => ?_⟩, by rw [ec, List.length_cons, h1, List.length_cons], by rw [ec, List.findIdx?_cons, h2]; rfl⟩
    obtain ⟨G, m, st, H₀, fm, xs, r', a, rx, hb, q⟩ := h
    cases xs with
    | nil => simp [bindNs] at hb
    | cons x xs =>
      cases rx with
      | cons rx rxs =>
        refine (pgs_cons (pg_name (i := i) (pos := py) hN hi hx hf) ih rfl).run pins s σ H _ us Q I r ⟨_, _, rfl, ?_⟩
        exact ⟨G, m, st, H₀, _, xs, r', ⟨a.1, a.2.putSh i rx⟩, rxs, hb, fun σ' a' hw => q σ' (fun H2 f2 => a' H2 (f2.putSh i rx)) fun ws hm => (hw ws fun j hj => hm j (List.mem_cons_of_mem _ hj)).trans (wipe_set (hm i List.mem_cons_self))⟩
/-- targets of any form -/
inductive TgOk (X : Cx) : Expr → Tg → Prop
  | nm {y : Str} {py : Pos} {i : Nat} (hi : X.N[i]? = some y) (hx : Loc X.env.scope y) (hf : X.fn y = true ∨ X.env.scope.names.lookup y = some .local) : TgOk X (.Name y py) (.nm i)
  | tup {es : List Expr} {kk : Nat} {p : Pos} {is : List Nat} (t : Tgs X es is) : TgOk X (.Tuple es kk p) (.tup is)
def Tg.is : Tg → List Nat
  | .nm i => [i]
  | .tup is => is
def gTg (S : Sy) (t : Tg) : TG := fun v σ H Q => ∃ G m s H₀ r x r', At S G m s H₀ H r σ ∧ RepO S G m H x v ∧ (∀ i, t = .nm i → Rep S G m x v) ∧ bindT t x r = some r' ∧ ∀ σ', (∀ H2, FmOk S G m H₀ H2 r σ → FmOk S G m H₀ H2 r' σ') → (∀ ws : List Nat, (∀ i, i ∈ t.is → i ∈ ws) → wipe σ' ws = wipe σ ws) → Q σ' H
theorem tg_ok (hN : X.N.Nodup) (hc : X.calm = true) {e : Expr} {t : Tg} (h : TgOk X e t) : PG X e (gTg (sy X T) t) := by
  cases h with
  | @nm y py i hi hx hf =>
    refine ⟨fun pins s σ H v u Q I r h => ?_⟩
    obtain ⟨G, m, st, H₀, fm, x, r', a, rx, rn, hb, q⟩ := h
    simp only [bindT, Option.some.injEq] at hb
    subst hb
    exact (pg_name (i := i) hN hi hx hf).run pins s σ H v u Q I r (q _ (fun H2 f2 => f2.putSh i (rn i rfl)) fun ws hm => wipe_set (hm i (by simp [Tg.is])))
  | @tup es kk p is t =>
    obtain ⟨h1, h2, h3⟩ := tgs_ok (T := T) hN t
    refine ⟨fun pins s σ H v u Q I r h => ?_⟩
    obtain ⟨G, m, st, H₀, fm, x, r', a, rx, rn, hb, q⟩ := h
    cases x with
    | tup xs =>
      obtain ⟨b, vs, rfl, _, hs, rs⟩ := rx.tup' a.1
      have hl : vs.length = is.length := by
        rw [← rs.length]
        clear rs q rx rn h1 h2 h3 t
        have : ∀ (is : List Nat) (xs : List PV) (r : Fm) (r' : Fm), bindNs is xs r = some r' → xs.length = is.length := by
          intro is
          induction is with
          | nil => intro xs r r' h; cases xs with
            | nil => rfl
            | cons _ _ => simp [bindNs] at h
          | cons i is ih => intro xs r r' h; cases xs with
            | nil => simp [bindNs] at h
            | cons x xs => rw [List.length_cons, List.length_cons, ih _ _ _ (show bindNs is xs _ = some r' from h)]
        exact this _ _ _ _ (show bindNs is xs fm = some r' from hb)
      exact (pg_tup hc h1 h2 h3).run pins s σ H _ u Q I r ⟨b, vs, rfl, hs, hl, G, m, st, H₀, fm, xs, r', a, rs, hb, q⟩
    | _ => simp [bindT] at hb
theorem ds_setT {tg : Expr} {is : List Nat} {es : List Expr} {kk : Nat} {p : Pos} (hN : X.N.Nodup) (hc : X.calm = true) (ht : Tgs X es is) (he : PE X e (tD (sy X T) .O W d)) (hs : swapsWithSole [.Tuple es kk p] e pos.line X.env = pure false) (hw : swappedStores [.Tuple es kk p] e X.env = pure none) :
    PS X (.Assign [.Tuple es kk p] e pos) (tS (sy X T) W fun r => bnd (d r) fun v => bnd (opt (bndN is v r)) fun r' => ret (.nx r')) := by
  refine (ps_asg he (tg_ok (T := T) hN hc (.tup (kk := kk) (p := p) ht)) hs hw rfl).imp fun D σ H ⟨G₀, m₀, H₀, Gb, mb, G, m, s, r, a, p⟩ => ?_
  refine ⟨G, m, s, H₀, r, a.at, PostS.step a p fun x s1 G1 m1 H1 v e1 a1 rx p1 => ?_⟩
  have p1 : PostS (sy X T) G₀ m₀ H₀ Gb mb (bnd (opt (bndN is x r)) (fun r' => ret (.nx r')) s1) D W := p1
  cases q : bndN is x r with
  | none => rw [q] at p1; exact p1.elim
  | some r' =>
    rw [q] at p1
    refine ⟨G1, m1, s1, H₀, r, x, r', a1.at, rx, (fun _ z => nomatch z), ?_, fun σ' a' _ => p1 G1 m1 H1 σ' a1.ext a1.lat ⟨a1.wd, a' H1 a1.fm⟩⟩
    cases x with
    | tup xs => exact q
    | _ => simp [bndN] at q
/-- a, b = x, y -/
theorem ds_par2 {i j : Nat} {x y : Str} {a b : Expr} {ds : Fm → M (List PV)} {px py pt pt2 : Pos} {kt k2 : Nat} (hc : X.calm = true) (hN : X.N.Nodup) (hi : X.N[i]? = some x) (hj : X.N[j]? = some y) (hij : i ≠ j)
    (hx : X.env.scope.names.lookup x = some .local) (hy : X.env.scope.names.lookup y = some .local) (ha : PA X [a, b] (tDA (sy X T) W ds))
    (hw : swappedStores [.Tuple [.Name x px, .Name y py] kt pt] (.Tuple [a, b] k2 pt2) X.env = pure (some [x, y])) :
    PS X (.Assign [.Tuple [.Name x px, .Name y py] kt pt] (.Tuple [a, b] k2 pt2) pos) (tS (sy X T) W fun r => bnd (ds r) fun vs => bnd (opt (bindNs [i, j] vs r)) fun r' => ret (.nx r')) := by
  refine (ps_par hc hN hi hj hij hx hy ha hw rfl).imp fun D σ H ⟨G₀, m₀, H₀, Gb, mb, G, m, s, r, a, p⟩ => ?_
  refine ⟨G, m, s, H₀, r, a.at, PostS.step a p fun xs s1 G1 m1 H1 v e1 a1 rx p1 => ?_⟩
  match xs, rx, p1 with
  | [x1, x2], .cons r1 (.cons r2 .nil), p1 => exact ⟨_, _, rfl, p1.nx ((a1.putSh i r1).putSh j r2)⟩
  | [], rx, p1 => exact p1.elim
  | [_], rx, p1 => exact p1.elim
  | _ :: _ :: _ :: _, rx, p1 => exact p1.elim
theorem ds_par3 {i j l : Nat} {x y z : Str} {a b c : Expr} {ds : Fm → M (List PV)} {px py pz pt pt2 : Pos} {kt k2 : Nat} (hc : X.calm = true) (hN : X.N.Nodup) (hi : X.N[i]? = some x) (hj : X.N[j]? = some y) (hl : X.N[l]? = some z) (hij : i ≠ j) (hil : i ≠ l) (hjl : j ≠ l)
    (hx : X.env.scope.names.lookup x = some .local) (hy : X.env.scope.names.lookup y = some .local) (hz : X.env.scope.names.lookup z = some .local) (ha : PA X [a, b, c] (tDA (sy X T) W ds))
    (hw : swappedStores [.Tuple [.Name x px, .Name y py, .Name z pz] kt pt] (.Tuple [a, b, c] k2 pt2) X.env = pure (some [x, y, z])) :
    PS X (.Assign [.Tuple [.Name x px, .Name y py, .Name z pz] kt pt] (.Tuple [a, b, c] k2 pt2) pos) (tS (sy X T) W fun r => bnd (ds r) fun vs => bnd (opt (bindNs [i, j, l] vs r)) fun r' => ret (.nx r')) := by
  refine (ps_par3 hc hN hi hj hl hij hil hjl hx hy hz ha hw rfl).imp fun D σ H ⟨G₀, m₀, H₀, Gb, mb, G, m, s, r, a, p⟩ => ?_
  refine ⟨G, m, s, H₀, r, a.at, PostS.step a p fun xs s1 G1 m1 H1 v e1 a1 rx p1 => ?_⟩
  match xs, rx, p1 with
  | [x1, x2, x3], .cons r1 (.cons r2 (.cons r3 .nil)), p1 => exact ⟨_, _, _, rfl, p1.nx (((a1.putSh i r1).putSh j r2).putSh l r3)⟩
  | [], rx, p1 => exact p1.elim
  | [_], rx, p1 => exact p1.elim
  | [_, _], rx, p1 => exact p1.elim
  | _ :: _ :: _ :: _ :: _, rx, p1 => exact p1.elim
/-- x.append(e) -/
theorem ds_app {x : Str} {px apos cpos : Pos} (hN : X.N[i]? = some x) (hv : Vis X.env.scope x) (hd : (x == ("__debug__" : Str)) = false) (hcd : (x == ("__classdict__" : Str)) = false) (he : PE X e (tD (sy X T) .E W d)) (hl : (apos.endLine == cpos.line) = true) (hs : starEach [e] X.env = [(false, eval e X.env)]) :
    PS X (.Expr (.Call (.Attribute (.Name x px) "append" apos) [e] [] cpos) pos) (tS (sy X T) W fun r => match Fm.get r i with
      | .ow xs => bnd (d r) fun v => if xs.length < LIM then ret (.nx (r.set i (.ow (xs ++ [v])))) else stk
      | _ => stk) := by
  refine (ps_expr (pe_bm PySem.F.plainAttrs_list PySem.F.slot_list_append PySem.F.type_list_append mt_append (pe_var hN hv hd hcd) (pa_cons he pa_nil (by rw [hs]; rfl)) rfl (by rw [hs]; rfl) hl (by rw [hs]; rfl) rfl) rfl).imp fun D σ H ⟨G₀, m₀, H₀, Gb, mb, G, m, s, r, a, p⟩ => ?_
  dsimp only at p
  obtain ⟨oa, f⟩ := a.fm.at
  have O := f.ok i
  cases q : Fm.get r i with
  | ow xs =>
    rw [q] at O p
    obtain ⟨h1, ⟨vs, h2, h3⟩, h4, h5, h6⟩ := O
    refine ⟨_, h1, .inl ⟨rfl, vs, .inl (.inl h2)⟩, G, m, s, H₀, r, a.at, PostS.step a p fun z s1 G1 m1 H1 v e1 a1 rz p1 => ?_⟩
    have f1 := f.ext e1
    have O1 := f1.ok i
    rw [q] at O1
    obtain ⟨_, ⟨ws, g2, g3⟩, g4, g5, g6⟩ := O1
    by_cases c : xs.length < LIM
    · rw [if_pos c] at p1
      have p1 : PostS (sy X T) G₀ m₀ H₀ Gb mb (.ok (.nx (r.set i (.ow (xs ++ [z])))) s1) D W := p1
      refine ⟨oa i, ws, v, rfl, rfl, g2, by rw [← g3.length]; exact Nat.lt_of_lt_of_le c LIM_le, ?_⟩
      obtain ⟨k1, k2, k3⟩ := write_own (i := i) (x := .ow (xs ++ [z])) (o := .lst (ws ++ [v])) a1.ext a1.wd f1 (by rw [q]; rfl) rfl ⟨h1, ⟨_, upd_same, g3.append (.cons rz .nil)⟩, g4, g5, g6⟩ (by rw [g2]; exact fun z => nomatch z) g4 g5 g6 (by rw [g2]; exact fun _ z => nomatch z) (by rw [g2]; exact fun _ z => nomatch z)
      exact p1 _ _ _ _ k1 a1.lat ⟨k2, k3⟩
    · rw [if_neg c] at p1
      exact p1.elim
  | _ => rw [q] at p; exact p.elim
/-- x.extend(e) -/
theorem ds_ext {x : Str} {px apos cpos : Pos} (hN : X.N[i]? = some x) (hv : Vis X.env.scope x) (hd : (x == ("__debug__" : Str)) = false) (hcd : (x == ("__classdict__" : Str)) = false) (he : PE X e (tD (sy X T) .O W d)) (hl : (apos.endLine == cpos.line) = true) (hs : starEach [e] X.env = [(false, eval e X.env)]) :
    PS X (.Expr (.Call (.Attribute (.Name x px) "extend" apos) [e] [] cpos) pos) (tS (sy X T) W fun r => match Fm.get r i with
      | .ow xs => bnd (d r) fun v => match v with
        | .lst ys => if xs.length + ys.length ≤ LIM then ret (.nx (r.set i (.ow (xs ++ ys)))) else stk
        | _ => stk
      | _ => stk) := by
  refine (ps_expr (pe_bm PySem.F.plainAttrs_list PySem.F.slot_list_extend PySem.F.type_list_extend mt_extend (pe_var hN hv hd hcd) (pa_cons he pa_nil (by rw [hs]; rfl)) rfl (by rw [hs]; rfl) hl (by rw [hs]; rfl) rfl) rfl).imp fun D σ H ⟨G₀, m₀, H₀, Gb, mb, G, m, s, r, a, p⟩ => ?_
  dsimp only at p
  obtain ⟨oa, f⟩ := a.fm.at
  have O := f.ok i
  cases q : Fm.get r i with
  | ow xs =>
    rw [q] at O p
    obtain ⟨h1, ⟨vs, h2, h3⟩, h4, h5, h6⟩ := O
    refine ⟨_, h1, .inl ⟨rfl, vs, .inl (.inl h2)⟩, G, m, s, H₀, r, a.at, PostS.step a p fun z s1 G1 m1 H1 v e1 a1 rz p1 => ?_⟩
    have f1 := f.ext e1
    have O1 := f1.ok i
    rw [q] at O1
    obtain ⟨_, ⟨ws, g2, g3⟩, g4, g5, g6⟩ := O1
    cases z with
    | lst ys =>
      obtain ⟨b, zs, rfl, hb, _, rb⟩ := RepO.lst' a1.wd rz
      have p1 : PostS (sy X T) G₀ m₀ H₀ Gb mb ((if xs.length + ys.length ≤ LIM then ret (.nx (r.set i (.ow (xs ++ ys)))) else stk : M Fl) s1) D W := p1
      by_cases c : xs.length + ys.length ≤ LIM
      · rw [if_pos c] at p1
        have p1 : PostS (sy X T) G₀ m₀ H₀ Gb mb (.ok (.nx (r.set i (.ow (xs ++ ys)))) s1) D W := p1
        refine ⟨oa i, b, ws, zs, rfl, rfl, g2, hb, by rw [← g3.length, ← rb.length]; exact Nat.le_trans c LIM_le, ?_⟩
        obtain ⟨k1, k2, k3⟩ := write_own (i := i) (x := .ow (xs ++ ys)) (o := .lst (ws ++ zs)) a1.ext a1.wd f1 (by rw [q]; rfl) rfl ⟨h1, ⟨_, upd_same, g3.append rb⟩, g4, g5, g6⟩ (by rw [g2]; exact fun z => nomatch z) g4 g5 g6 (by rw [g2]; exact fun _ z => nomatch z) (by rw [g2]; exact fun _ z => nomatch z)
        exact p1 _ _ _ _ k1 a1.lat ⟨k2, k3⟩
      · rw [if_neg c] at p1
        exact p1.elim
    | _ => exact p1.elim
  | _ => rw [q] at p; exact p.elim
/-- a mutable object is written -/
theorem write_obj {S : Sy} {G G₀ H H₀ : Hp} {m m₀ : List Addr} {st : AS} {r : Fm} {σ : L2.St} {oa : Nat → Addr} {n : Nat} {a : Addr} {xs : List PV} {vs0 vs : List V} (e : Ext m₀ m G₀ G H₀ H) (wd : Wd S G m st H) (f : FmAt S G m H₀ H r σ oa)
    (hm : m[n]? = some a) (ha : H a = some (.lst vs0)) (rr : Reps S G m xs vs) : Ext m₀ m G₀ G H₀ (upd H a (.lst vs)) ∧ Wd S G m (st.set n (.lst xs)) (upd H a (.lst vs)) ∧ FmAt S G m H₀ (upd H a (.lst vs)) r σ oa := by
  have am : a ∈ m := List.mem_of_getElem? hm
  have kp : ∀ b u, b ≠ a → H b = some u → upd H a (.lst vs) b = some u := fun b u hb h => by rw [upd_ne hb]; exact h
  have gne : ∀ b u, G b = some u → b ≠ a := fun b u h z => (wd.le b u h).2.1 (z ▸ am)
  refine ⟨⟨e.le, e.pre, e.newm, e.newG, fun b u h h1 h2 => ?_, fun b h => ?_⟩, ⟨fun b u h => ⟨kp b u (gne b u h) (wd.le b u h).1, (wd.le b u h).2⟩, by rw [List.length_set]; exact wd.len, wd.nd, fun j b u h1 h2 => ?_, fun p hp => ?_⟩, ⟨f.len, fun j => ?_, f.inj⟩⟩
  · refine kp b u (fun z => ?_) (e.keep b u h h1 h2)
    subst z
    rcases e.newm b am with q | q
    · exact h1 q
    · rw [h] at q; cases q
  · by_cases hb : b = a
    · subst hb; rw [upd_same] at h; cases h
    · rw [upd_ne hb] at h; exact e.dom b h
  · by_cases hj : j = n
    · subst hj
      rw [hm] at h1
      cases h1
      have hl : j < st.length := by rw [wd.len]; exact (List.getElem?_eq_some_iff.mp hm).1
      rw [List.getElem?_set_self hl] at h2
      cases h2
      exact .lst upd_same rr
    · rw [List.getElem?_set_ne (Ne.symm hj)] at h2
      have hb : b ≠ a := fun z => by
        subst z
        exact hj ((List.getElem?_inj (List.getElem?_eq_some_iff.mp h1).1 wd.nd).mp (h1.trans hm.symm))
      have O := wd.obj j b u h1 h2
      cases O with
      | lst h r => exact .lst (kp _ _ hb h) r
      | ins hc h r => exact .ins hc (kp _ _ hb h) r
  · obtain ⟨ps, h1, h2, h3⟩ := wd.tab p hp
    refine ⟨ps, kp _ _ (fun z => by rw [z, ha] at h1; cases h1) h1, h2, fun pos cv hcv => ?_⟩
    obtain ⟨c, e1, e2⟩ := h3 pos cv hcv
    exact ⟨c, e1, kp _ _ (fun z => by rw [z, ha] at e2; cases e2) e2⟩
  · have O := f.ok j
    cases q : Fm.get r j with
    | no => trivial
    | sh y => rw [q] at O; exact O
    | ow xs =>
      rw [q] at O
      obtain ⟨h1, ⟨vs, h2, h3⟩, h4, h5⟩ := O
      exact ⟨h1, ⟨vs, kp _ _ (fun z => h4 (z ▸ am)) h2, h3⟩, h4, h5⟩
    | od xs =>
      rw [q] at O
      obtain ⟨h1, ⟨vs, h2, h3⟩, h4, h5⟩ := O
      exact ⟨h1, ⟨vs, kp _ _ (fun z => h4 (z ▸ am)) h2, h3⟩, h4, h5⟩
theorem setSl_noexc {r : Fm} {i : Nat} {k v : PV} {s s' : AS} {x : Exc} (h : setSl r i k v s = .exc x s') : False := by
  unfold setSl at h
  generalize r.get i = g at h
  cases g with
  | no => cases h
  | ow xs =>
    cases k with
    | int j =>
      dsimp only at h
      cases q : nrm xs.length j with
      | none => rw [q] at h; cases h
      | some n => rw [q] at h; cases h
    | _ => cases h
  | od kvs =>
    dsimp only at h
    split at h <;> cases h
  | sh y =>
    cases y with
    | ref n =>
      cases k with
      | int j =>
        dsimp only at h
        cases q : s[n]? with
        | none => rw [q] at h; cases h
        | some ob =>
          rw [q] at h
          cases ob with
          | lst xs =>
            dsimp only at h
            cases q2 : nrm xs.length j with
            | none => rw [q2] at h; cases h
            | some n => rw [q2] at h; cases h
          | ins _ _ => cases h
      | _ => cases h
    | _ => cases h
/-- x[k] = v, by values -/
def rSetP (S : Sy) (W : XK) (i : Nat) : L2.St → TSet := fun σ o ix v H Q => ∃ G₀ m₀ H₀ Gb mb G m s r x z, Now S G₀ m₀ H₀ Gb mb G m s H r σ ∧ σ[i]? = some (some o) ∧ Rep S G m x ix ∧ Rep S G m z v ∧
  (match setSl r i x z s with
    | .ok r' s' => ∀ G' m' H', Now S G₀ m₀ H₀ Gb mb G' m' s' H' r' σ → Q H'
    | _ => False)
theorem set_P (hu : X.A.units + 200 < cLine) (i : Nat) {pins : List (Addr × Obj)} {s : Shared} {σ : L2.St} {H : Hp} {o ix v : V} {ov iv u : Value} {Q : Hp → Prop} (I : Inv X pins σ H s) (ro : L2.RelV o ov) (ri : L2.RelV ix iv) (rv : L2.RelV v u) (h : rSetP (sy X T) W i σ o ix v H Q) :
    wpAny (model X.prog X.w) X.A (setItem ov iv u) (fun _ s' => ∃ H', Inv X pins σ H' s' ∧ Q H') X.xe s := by
  obtain ⟨G₀, m₀, H₀, Gb, mb, G, m, st, r, x, z, a, hs, rx, rz, p⟩ := h
  obtain ⟨oa, f⟩ := a.fm.at
  have O := f.ok i
  unfold setSl at p
  cases q : Fm.get r i with
  | ow xs =>
    rw [q] at O p
    dsimp only at p
    obtain ⟨h1, ⟨vs, h2, h3⟩, h4, h5, h6⟩ := O
    rw [hs] at h1
    cases h1
    cases x with
    | int j =>
      cases rx
      dsimp only at p
      cases qn : nrm xs.length j with
      | none => rw [qn] at p; exact p.elim
      | some n =>
        rw [qn] at p
        have p : ∀ G' m' H', Now (sy X T) G₀ m₀ H₀ Gb mb G' m' st H' (r.set i (.ow (xs.set n z))) σ → Q H' := p
        refine set_list pins s σ H _ _ v ov iv u Q I ro ri rv ⟨oa i, vs, j, n, rfl, rfl, h2, by rw [← h3.length]; exact qn, ?_⟩
        obtain ⟨k1, k2, k3⟩ := write_own (i := i) (x := .ow (xs.set n z)) (o := .lst (vs.set n v)) a.ext a.wd f (by rw [q]; rfl) rfl ⟨hs, ⟨_, upd_same, h3.set n rz⟩, h4, h5, h6⟩ (by rw [h2]; exact fun z => nomatch z) h4 h5 h6 (by rw [h2]; exact fun _ z => nomatch z) (by rw [h2]; exact fun _ z => nomatch z)
        exact p _ _ _ ⟨k1, a.lat, k2, k3⟩
    | _ => exact p.elim
  | od kvs =>
    rw [q] at O p
    dsimp only at p
    obtain ⟨h1, ⟨es, h2, h3⟩, h4, h5, h6⟩ := O
    rw [hs] at h1
    cases h1
    by_cases c : (keyT x && decide (kvs.length < LIM)) = true
    · rw [if_pos c] at p
      have p : ∀ G' m' H', Now (sy X T) G₀ m₀ H₀ Gb mb G' m' st H' (r.set i (.od (putP kvs x z))) σ → Q H' := p
      rw [Bool.and_eq_true, decide_eq_true_eq] at c
      cases x with
      | tup ys =>
        cases rx with
        | tup g rr =>
          cases ro
          cases ri
          refine dct_put (T := T) (A := X.A) (by omega) I (fun b o q => (a.wd.le b o q).1) h2 (by rw [← h3.length]; exact Nat.lt_of_lt_of_le c.2 LIM_le) h3 c.1 (.tup g rr) rz rv fun es' s' I' r' hl => ⟨_, I', ?_⟩
          obtain ⟨k1, k2, k3⟩ := write_own (i := i) (x := .od (putP kvs (.tup ys) z)) (o := DctO X.prog X.w (oa i) es') a.ext a.wd f (by rw [q]; rfl) rfl ⟨hs, ⟨_, upd_same, r'⟩, h4, h5, h6⟩ (by rw [h2]; exact fun z => nomatch z) h4 h5 h6 (by rw [h2]; exact fun _ z => nomatch z) (fun q' z => by
            exact dct_code I h2 z)
          exact p _ _ _ ⟨k1, a.lat, k2, k3⟩
      | _ => simp [keyT, isTup] at c
    · rw [if_neg c] at p
      exact p.elim
  | sh y =>
    rw [q] at O p
    obtain ⟨w, h1, h2⟩ := O
    rw [hs] at h1
    cases h1
    cases y with
    | ref n =>
      cases x with
      | int j =>
        cases rx
        dsimp only at p
        cases h2 with
        | ref hm =>
          cases qo : st[n]? with
          | none => rw [qo] at p; exact p.elim
          | some ob =>
            rw [qo] at p
            have OB := a.wd.obj n _ ob hm qo
            cases OB with
            | @lst xs vs hp rr =>
              dsimp only at p
              cases qn : nrm xs.length j with
              | none => rw [qn] at p; exact p.elim
              | some nn =>
                rw [qn] at p
                dsimp only at p
                refine set_list pins s σ H _ _ v ov iv u Q I ro ri rv ⟨_, vs, j, nn, rfl, rfl, hp, by rw [← rr.length]; exact qn, ?_⟩
                obtain ⟨k1, k2, k3⟩ := write_obj (xs := xs.set nn z) a.ext a.wd f hm hp (rr.set nn rz)
                exact p _ _ _ ⟨k1, a.lat, k2, k3.fm⟩
            | ins _ _ _ => exact p.elim
      | _ => exact p.elim
    | _ => exact p.elim
  | no => rw [q] at p; exact p.elim
theorem ds_seti {x : Str} {px tpos : Pos} {ke : Expr} {dk : Fm → M PV} (hu : X.A.units + 200 < cLine) (hN : X.N[i]? = some x) (hv : Vis X.env.scope x) (hd : (x == ("__debug__" : Str)) = false) (hcd : (x == ("__classdict__" : Str)) = false) (he : PE X e (tD (sy X T) .E W d)) (hk : PE X ke (tD (sy X T) .E W dk))
    (hs : swapsWith e (some (.Subscript (.Name x px) ke tpos)) pos.line X.env = pure false) : PS X (.Assign [.Subscript (.Name x px) ke tpos] e pos) (tS (sy X T) W fun r => bnd (d r) fun v => if (Fm.get r i).isNo then stk else bnd (dk r) fun y => bnd (setSl r i y v) fun r' => ret (.nx r')) := by
  refine ⟨fun pins s σ H D I ⟨G₀, m₀, H₀, Gb, mb, G, m, st, r, a, p⟩ => ?_⟩
  refine wpAny_Assign_Subscript (thn (he.run pins s σ H (fun v H1 => tVar i σ H1 fun o H2 => tD (sy X T) .E W dk σ H2 fun y H3 => rSetP (sy X T) W i σ o y v H3 fun H4 => D.nx σ H4) I ⟨G, m, st, H₀, r, a.at, PostS.step a p fun z s1 G1 m1 H1 v e1 a1 rz p1 => ?_⟩) fun rv s1 ⟨v, H1, I1, r1, q1⟩ => thn ((pe_var hN hv hd hcd).run pins s1 σ H1 _ I1 q1) fun ov s2 ⟨o, H2, I2, r2, q2⟩ => thn (hk.run pins s2 σ H2 _ I2 q2) fun iv s3 ⟨y, H3, I3, r3, q3⟩ => ?_) hs
  · obtain ⟨oa, f⟩ := a1.fm.at
    have O := f.ok i
    have p1 : PostS (sy X T) G₀ m₀ H₀ Gb mb ((if (Fm.get r i).isNo then stk else bnd (dk r) fun y => bnd (setSl r i y z) fun r' => ret (.nx r') : M Fl) s1) D W := p1
    have go : ∀ o, σ[i]? = some (some o) → (Fm.get r i).isNo = false → tVar i σ H1 fun o H2 => tD (sy X T) .E W dk σ H2 fun y H3 => rSetP (sy X T) W i σ o y v H3 fun H4 => D.nx σ H4 := fun o ho hn => by
      rw [hn] at p1
      refine ⟨o, ho, G1, m1, s1, H₀, r, a1.at, PostS.step a1 p1 fun y s2 G2 m2 H2 w e3 a2 ry p2 => ?_⟩
      refine ⟨G₀, m₀, H₀, Gb, mb, G2, m2, s2, r, y, z, a2, ho, ry, Rep.ext rz e3, ?_⟩
      dsimp only [bnd] at p2
      cases qs : setSl r i y z s2 with
      | ok r' s' =>
        rw [qs] at p2
        exact fun G' m' H' a' => p2 G' m' H' σ a'.ext a'.lat a'.at
      | exc x s' => exact (setSl_noexc qs).elim
      | stuck =>
        rw [qs] at p2
        exact p2
    cases q : Fm.get r i with
    | no =>
      rw [q] at p1
      exact p1.elim
    | sh y =>
      rw [q] at O
      obtain ⟨w, h1, _⟩ := O
      exact go w h1 (by rw [q]; rfl)
    | ow xs => rw [q] at O; exact go _ O.1 (by rw [q]; rfl)
    | od xs => rw [q] at O; exact go _ O.1 (by rw [q]; rfl)
  · exact thn (set_P (T := T) (W := W) hu i I3 r2 r3 r1 q3) fun _ s4 ⟨H4, I4, q4⟩ => ⟨σ, H4, I4, q4⟩
/-! ### small statements, blocks -/
theorem ds_expr (he : PE X e (tD (sy X T) .E W d)) (hs : swapsWith e none pos.line X.env = pure false) : PS X (.Expr e pos) (tS (sy X T) W fun r => bnd (d r) fun _ => ret (.nx r)) := by
  refine (ps_expr he hs).imp fun D σ H ⟨G₀, m₀, H₀, Gb, mb, G, m, s, r, a, p⟩ => ?_
  exact ⟨G, m, s, H₀, r, a.at, PostS.step a p fun x s1 G1 m1 H1 v e1 a1 rx p1 => p1.nx a1⟩
theorem ds_ret (he : PE X e (tD (sy X T) .E W d)) : PS X (.Return (some e) pos) (tS (sy X T) W fun r => bnd (d r) fun v => ret (.rt v)) := by
  refine (ps_ret he).imp fun D σ H ⟨G₀, m₀, H₀, Gb, mb, G, m, s, r, a, p⟩ => ?_
  exact ⟨G, m, s, H₀, r, a.at, PostS.step a p fun x s1 G1 m1 H1 v e1 a1 rx p1 => p1 G1 m1 H1 v a1.ext a1.wd rx⟩
theorem ds_retN : PS X (.Return none pos) (tS (sy X T) W fun r => ret (.rt .non)) := by
  refine ps_retN.imp fun D σ H ⟨G₀, m₀, H₀, Gb, mb, G, m, s, r, a, p⟩ => ?_
  exact p G m H .non a.ext a.wd .non
theorem ds_pass : PS X (.Pass pos) (tS (sy X T) W fun r => ret (.nx r)) := by
  refine ps_pass.imp fun D σ H ⟨G₀, m₀, H₀, Gb, mb, G, m, s, r, a, p⟩ => ?_
  exact p.nx a
theorem dss_nil : PSs X [] (tS (sy X T) W fun r => ret (.nx r)) := by
  refine pss_nil.imp fun D σ H ⟨G₀, m₀, H₀, Gb, mb, G, m, s, r, a, p⟩ => ?_
  exact p.nx a
def seqM (x : M Fl) (f : Fm → M Fl) : M Fl := bnd x fun l => match l with
  | .nx r' => f r'
  | .bk r' => ret (.bk r')
  | .ct r' => ret (.ct r')
  | .rt v => ret (.rt v)
theorem PostS.seq {S : Sy} {G₀ Gb : Hp} {m₀ mb : List Addr} {H₀ : Hp} {x : M Fl} {f : Fm → M Fl} {s : AS} {D : Ends} {W : XK} (h : PostS S G₀ m₀ H₀ Gb mb (seqM x f s) D W) {u : L2.St → Hp → Prop}
    (hu : ∀ r s' G m H σ, Now S G₀ m₀ H₀ Gb mb G m s' H r σ → PostS S G₀ m₀ H₀ Gb mb (f r s') D W → u σ H) : PostS S G₀ m₀ H₀ Gb mb (x s) { D with nx := u } W := by
  unfold seqM bnd at h
  cases q : x s with
  | ok l s1 =>
    rw [q] at h
    cases l with
    | nx r => exact fun G m H σ e l a => hu r s1 G m H σ ⟨e, l, a.1, a.2⟩ h
    | bk r => exact h
    | ct r => exact h
    | rt v => exact h
  | exc y s1 =>
    rw [q] at h
    exact h
  | stuck =>
    rw [q] at h
    exact h
theorem dss_cons {st : Stmt} {rest : List Stmt} {d1 d2 : Fm → M Fl} (h1 : PS X st (tS (sy X T) W d1)) (h2 : PSs X rest (tS (sy X T) W d2)) : PSs X (st :: rest) (tS (sy X T) W fun r => seqM (d1 r) d2) := by
  refine (pss_cons h1 h2).imp fun D σ H ⟨G₀, m₀, H₀, Gb, mb, G, m, s, r, a, p⟩ => ?_
  exact ⟨G₀, m₀, H₀, Gb, mb, G, m, s, r, a, p.seq fun r' s' G' m' H' σ' a' p' => ⟨G₀, m₀, H₀, Gb, mb, G', m', s', r', a', p'⟩⟩
theorem dss_frz {sts : List Stmt} {d2 : Fm → M Fl} (i : Nat) (h : PSs X sts (tS (sy X T) W d2)) : PSs X sts (tS (sy X T) W fun r => d2 (Fm.freeze r i)) := by
  refine ⟨fun pins s σ H D I hw => ?_⟩
  obtain ⟨G₀, m₀, H₀, Gb, mb, G, m, st, r, a, p⟩ := hw
  obtain ⟨oa, f⟩ := a.fm.at
  have O := f.ok i
  have hlt : (Fm.get r i).owns = true → i < r.length := fun z => by
    by_cases q : i < r.length
    · exact q
    · rw [get_out r (by omega)] at z; cases z
  cases q : Fm.get r i with
  | no => exact h.run pins s σ H D I ⟨G₀, m₀, H₀, Gb, mb, G, m, st, r, a, by dsimp only at p; rw [freeze_same (by rw [q]; rfl)] at p; exact p⟩
  | sh y => exact h.run pins s σ H D I ⟨G₀, m₀, H₀, Gb, mb, G, m, st, r, a, by dsimp only at p; rw [freeze_same (by rw [q]; rfl)] at p; exact p⟩
  | ow xs =>
    rw [q] at O
    obtain ⟨h1, ⟨vs, h2, h3⟩, h4, h5, h6⟩ := O
    obtain ⟨G', l', e', wd', f'⟩ := freeze_at (o' := .lst vs) (y := .lst xs) a.ext a.wd f (hlt (by rw [q]; rfl)) (by rw [q]; rfl) h2 ntbl_lst ntbl_lst (fun _ z => by rw [h2] at z; cases z) h1 h4 h5 h6 (by rw [q]; rfl) fun G' le hG => .lst hG (h3.mono le ⟨[], by simp⟩)
    rw [upd_self h2] at e' wd' f'
    exact h.run pins s σ H D I ⟨G₀, m₀, H₀, Gb, mb, G', m, st, _, ⟨e', a.lat.trans l', wd', f'⟩, p⟩
  | od xs =>
    rw [q] at O
    obtain ⟨h1, ⟨vs, h2, h3⟩, h4, h5, h6⟩ := O
    obtain ⟨od, I2⟩ := I.lock h2 True.intro
    obtain ⟨G', l', e', wd', f'⟩ := freeze_at (o' := .frz od (DctO X.prog X.w (oa i) vs)) (y := .dct xs) a.ext a.wd f (hlt (by rw [q]; rfl)) (by rw [q]; rfl) h2 ntbl_dct ntbl_frz (fun _ z => dct_code I h2 z) h1 h4 h5 h6 (by rw [q]; rfl) fun G' le hG => .dct hG (h3.mono le ⟨[], by simp⟩)
    exact h.run pins s σ _ D I2 ⟨G₀, m₀, H₀, Gb, mb, G', m, st, _, ⟨e', a.lat.trans l', wd', f'⟩, p⟩
theorem ds_if {c : Expr} {dc : Fm → M PV} {a b : List Stmt} {da db : Fm → M Fl} (hc : PT X c (tDT (sy X T) W dc)) (ha : PSs X a (tS (sy X T) W da)) (hb : PSs X b (tS (sy X T) W db)) :
    PS X (.If c a b pos) (tS (sy X T) W fun r => tst (dc r) fun k => if k then da r else db r) := by
  refine (ps_if hc ha hb).imp fun D σ H ⟨G₀, m₀, H₀, Gb, mb, G, m, s, r, a, p⟩ => ?_
  refine ⟨G, m, s, H₀, r, a.at, PostS.tb a p fun b s1 G1 m1 H1 e1 a1 p1 => ?_⟩
  cases b with
  | true => exact ⟨G₀, m₀, H₀, Gb, mb, G1, m1, s1, r, a1, p1⟩
  | false => exact ⟨G₀, m₀, H₀, Gb, mb, G1, m1, s1, r, a1, p1⟩

/-! ### loops -/
def stepFl (f : Fm → M Fl) (l : Fl) : M Fl := match l with
  | .nx r' => f r'
  | .ct r' => f r'
  | .bk r' => ret (.nx r')
  | .rt v => ret (.rt v)
/-- a turn of a loop -/
theorem PostS.turn {S : Sy} {G₀ Gb : Hp} {m₀ mb : List Addr} {H₀ : Hp} {x : M Fl} {f : Fm → M Fl} {s : AS} {D : Ends} {W : XK} (h : PostS S G₀ m₀ H₀ Gb mb (bnd x (stepFl f) s) D W) {u : L2.St → Hp → Prop}
    (hu : ∀ r s' G m H σ, Now S G₀ m₀ H₀ Gb mb G m s' H r σ → PostS S G₀ m₀ H₀ Gb mb (f r s') D W → u σ H) : PostS S G₀ m₀ H₀ Gb mb (x s) { D with nx := u, ct := u, bk := D.nx } W := by
  unfold bnd at h
  cases q : x s with
  | ok l s1 =>
    rw [q] at h
    cases l with
    | nx r => exact fun G m H σ e l a => hu r s1 G m H σ ⟨e, l, a.1, a.2⟩ h
    | bk r => exact h
    | ct r => exact fun G m H σ e l a => hu r s1 G m H σ ⟨e, l, a.1, a.2⟩ h
    | rt v => exact h
  | exc y s1 =>
    rw [q] at h
    exact h
  | stuck =>
    rw [q] at h
    exact h
theorem ds_while {c : Expr} {dc : Fm → M PV} {b : List Stmt} {db : Fm → M Fl} (hp : PassesOwn (model X.prog X.w) X.A X.env X.xe) (hc : PT X c (tDT (sy X T) W dc)) (hb : PSs X b (tS (sy X T) W db)) (n : Nat) :
    PS X (.While c b [] pos) (tS (sy X T) W fun r => whGo dc db n r) := by
  refine (ps_while hp hc hb).imp fun D σ H ⟨G₀, m₀, H₀, Gb, mb, G, m, s, r, a, p⟩ => ?_
  refine ⟨fun n σ H => ∃ G m s r, Now (sy X T) G₀ m₀ H₀ Gb mb G m s H r σ ∧ PostS (sy X T) G₀ m₀ H₀ Gb mb (whGo dc db n r s) D W, ⟨n, G, m, s, r, a, p⟩, ?_⟩
  rintro n σ H ⟨G, m, s, r, a, p⟩
  cases n with
  | zero => exact p.elim
  | succ n =>
    refine ⟨G, m, s, H₀, r, a.at, PostS.tb a (show PostS (sy X T) G₀ m₀ H₀ Gb mb (tst (dc r) (fun k => if k then bnd (db r) (stepFl (whGo dc db n)) else ret (.nx r)) s) D W from p) fun b s1 G1 m1 H1 e1 a1 p1 => ?_⟩
    cases b with
    | false => exact p1.nx a1
    | true =>
      rw [if_pos rfl]
      refine ⟨fun σ' H' => ∃ G m s r, Now (sy X T) G₀ m₀ H₀ Gb mb G m s H' r σ' ∧ PostS (sy X T) G₀ m₀ H₀ Gb mb (whGo dc db n r s) D W, fun σ' H' h => ⟨n, Nat.lt_succ_self n, h⟩, ?_⟩
      exact ⟨G₀, m₀, H₀, Gb, mb, G1, m1, s1, r, a1, PostS.turn p1 fun r' s' G' m' H' σ' a' p' => ⟨G', m', s', r', a', p'⟩⟩
end
end RP

/-! Fw11: iterables. Own work. -/
namespace RP
open PySem PySem.Spec PyProof.Rows L2

/-! ### enumerate of a tuple -/
theorem meets_enum1 {v : Value} {o : Obj} {Hh : Heap → Prop} (B : Begins v o Hh) :
    Meets (Builtin.«enumerate.__new__» ⟨[.type "enumerate", v], []⟩) (fun _ R s => Hh s.heap ∧
      R (.ok (.ret (.ref (s.heap.push o).objs.size))) { s with heap := (s.heap.push o).push { cls := .type "enumerate", data := .fields #[.none, .bool false, .ref s.heap.objs.size, rawInt 0, .none, .none] } }) :=
  .of_wp fun prog w A R s h => by
    obtain ⟨hp, g, d, tk, os⟩ := s; obtain ⟨h1, h⟩ := h
    have hsub := sub_enumerate
    have q1 : ∀ {A' : Around} {E : Value → Shared → Prop} {Q : Value → Shared → Prop}, Q (.ref hp.objs.size) ⟨hp.push o, g, d, tk, os⟩ → wpAny (model prog w) A' (pyIter v) Q E ⟨hp, g, d, tk, os⟩ :=
      fun q => B.iter prog w _ _ ⟨hp, g, d, tk, os⟩ _ h1 q
    wp_walk using q1
    refine wpAny_stack_any fun st => wpAny_pure ?_
    split
    · rename_i c _ _ _ _ _
      cases (c == Value.type "enumerate")
      · wp_walk using q1
        exact ⟨_, rfl, h⟩
      · wp_walk using q1
        exact ⟨_, rfl, h⟩
    · wp_walk using q1
      exact ⟨_, rfl, h⟩
theorem enum_of_tuple {prog : Program} {w : World} {A : Around} {E : Value → Shared → Prop} {s : Shared} {l : Addr} {items : Array Value} {Q : Value → Shared → Prop} (hL : s.heap.IsTuple l items)
    (h : ∀ h', IsEnum h' (s.heap.objs.size + 1) s.heap.objs.size 0 .none → h'.IsTupleIter s.heap.objs.size l 0 → h'.objs.size = s.heap.objs.size + 2 →
      (∀ b o, s.heap.get? b = some o → h'.get? b = some o) → Q (.ref (s.heap.objs.size + 1)) { s with heap := h' }) :
    wpAny (model prog w) A (call (.type "enumerate") [.ref l]) Q E s := by
  have B := begins_tuple l items
  refine callType_new F.called_enumerate (by decide) (F.typeCall_enumerate_1 _) (F.newCall_enumerate_1 _) (fun obj => F.args_object_init_2 obj _) F.entry_enumerate_new
    (meets_enum1 B) ⟨hL, ?_⟩
  have hz : (s.heap.push { cls := .type "tuple_iterator", data := .fields #[.ref l, .int 0 0] }).objs.size = s.heap.objs.size + 1 := Heap.size_push ..
  show _ ∧ _
  rw [hz]
  have he : IsEnum ((s.heap.push { cls := .type "tuple_iterator", data := .fields #[.ref l, .int 0 0] }).push
      { cls := .type "enumerate", data := .fields #[.none, .bool false, .ref s.heap.objs.size, rawInt 0, .none, .none] }) (s.heap.objs.size + 1) s.heap.objs.size 0 .none := by
    have := Heap.get?_push_size (s.heap.push { cls := .type "tuple_iterator", data := .fields #[.ref l, .int 0 0] })
      (o := { cls := .type "enumerate", data := .fields #[.none, .bool false, .ref s.heap.objs.size, rawInt 0, .none, .none] }) rfl
    rw [hz] at this; exact this
  refine ⟨⟨_, he, rfl⟩, h _ he ⟨_, Heap.get?_push_of_some _ (Heap.get?_push_size _ rfl), rfl, rfl⟩ (by rw [Heap.size_push, hz]) fun b o x => Heap.get?_push_of_some _ (Heap.get?_push_of_some _ x)⟩
/-- the tuple at a, each item in a new pair -/
def IteT (K : PySem.W.Frag) (a : Addr) : L2.It :=
  ⟨fun i H => ∃ (xs : List V) (x : V), SqT K H a xs ∧ xs[i]? = some x, fun i H v H' => ∃ T x, v = .ref T ∧ H T = none ∧ H' = upd H T (.tup [.int (i : Nat), x]) ∧ ∀ xs, SqT K H a xs → xs[i]? = some x, fun i H => ∃ xs : List V, SqT K H a xs ∧ xs.length ≤ i⟩
theorem turn_enumT {P : Program} {w : World} {K : PySem.W.Frag} {elts : List Expr} {kk : Nat} {tpos : Pos} (a e it : Addr) (hae : a ≠ e) (hai : a ≠ it) :
    Turn P w K (.Tuple elts kk tpos) (IteT K a) [e, it] e (fun i h => (∃ old, IsEnum h e it ((i : Nat) : Int) old) ∧ h.IsTupleIter it a i ∧ e ≠ it) where
  mem := by simp
  obj := fun i h st b hb => by
    obtain ⟨⟨old, he⟩, ⟨o, ho, hc, hd⟩, _⟩ := st
    have e' : b = e ∨ b = it := by simpa using hb
    rcases e' with z | z
    · rw [z]; exact ⟨_, he, fun v q => nomatch q⟩
    · rw [z]; exact ⟨o, ho, fun v q => by rw [hd] at q; cases q⟩
  keep := fun i h h' st k => let ⟨⟨old, he⟩, hi, hne⟩ := st; ⟨⟨old, k e (by simp) _ he⟩, hi.at fun o q => k it (by simp) o q, hne⟩
  item := by
    intro X hP hw hK hc i pins s σ H E I hf st hg
    subst hP hw hK
    obtain ⟨⟨old, he⟩, hit, hne⟩ := st
    obtain ⟨xs, x, hq, hx⟩ := hg
    obtain ⟨its, rv, p, hz⟩ := I.tuple hq
    obtain ⟨u, hu, ru⟩ := rv.get hx
    have hel : e < s.heap.objs.size := Heap.lt_size he
    have hil : it < s.heap.objs.size := by obtain ⟨_, q, _⟩ := hit; exact Heap.lt_size q
    have D := Draws.tuple (prog := X.prog) (w := X.w) (A := X.A.in1) (show X.A.in1.handled = none from I.ok.hd hc) it a hai its.toArray
    have hlt : i < its.toArray.size := by
      have := (List.getElem?_eq_some_iff.mp hu).1
      simpa using this
    refine wpAny_pyNext_enum_itemD D he ⟨hit, p⟩ hlt hne (by simp [hne, Ne.symm hae]) fun x' h' tk hP ho hit' hT hsz hk => ?_
    obtain ⟨hit', _⟩ := hit'
    have hxu : x' = u := by
      have hP : its.toArray[i]? = some x' := hP
      rw [show its.toArray[i]? = its[i]? by simp, hu] at hP
      exact (Option.some.inj hP).symm
    subst hxu
    refine ⟨_, rfl, wpAny_letOwnedTupleGo_enum (s := { s with heap := h', toks := tk + 1 }) ho fun h'' he' sb => ?_⟩
    have hT2 : h''.get? s.heap.objs.size = some { cls := .type "tuple", data := .seq #[.int i tk, x'] } := (sb.2 _ (Nat.ne_of_gt hel)).trans hT
    have new : ObjOk X.prog X.w (upd H s.heap.objs.size (.tup [.int (i : Nat), x])) h'' s.heap.objs.size (.tup [.int (i : Nat), x]) :=
      ⟨by show 2 ≤ sizeLine; decide, [.int i tk, x'], .cons ⟨_, rfl⟩ (.cons ru .nil), ⟨_, hT2, rfl, _, rfl⟩⟩
    have I1 : Inv X pins σ (upd H s.heap.objs.size (.tup [.int (i : Nat), x])) { s with heap := h'', toks := tk + 1 } :=
      I.turnedNew (ch := [e, it]) (fun b ob hb q => (sb.2 b (fun z => hb (by simp [z]))).trans (hk b ob (fun z => hb (by simp [z])) (fun z => hb (by simp [z])) q)) hf (Nat.le_refl _) new
    refine ⟨.ref s.heap.objs.size, _, I1, rfl, ⟨_, x, rfl, I.hok.fresh (Nat.le_refl _), rfl, fun ys hy => by rw [I.tuple_inj hy hq]; exact hx⟩, ⟨⟨x', ?_⟩, hit'.at fun o q => (sb.2 it (Ne.symm hne)).trans q, hne⟩, fun b hb => ?_⟩
    · have e1 : ((i + 1 : Nat) : Int) = (i : Int) + 1 := by omega
      rw [e1]; exact he'
    · have hb' : b < s.heap.objs.size := by
        have e' : b = e ∨ b = it := by simpa using hb
        rcases e' with z | z
        · rw [z]; exact hel
        · rw [z]; exact hil
      rw [upd_ne (Nat.ne_of_lt hb')]
      exact (hf b hb).1
  done := by
    intro X hP hw hK hc i pins s σ H E I hf st hg
    subst hP hw hK
    obtain ⟨⟨old, he⟩, hit, hne⟩ := st
    obtain ⟨xs, hq, hx⟩ := hg
    obtain ⟨its, rv, p, hz⟩ := I.tuple hq
    obtain ⟨f0, f1, f2, f3, f4, f5⟩ := hf it (by simp)
    have hl := rv.length
    have hT : s.TypeIs (.ref e) "enumerate" := ⟨_, he, rfl⟩
    unfold pyNext
    refine wpAny_bind (wpAny_attempt (wpAny_callSpecial?_slot (name := Str.ofString "__next__") hT F.slot_enumerate_next
      (wpAny_call_entry F.slot_enumerate_next hT F.entry_enumerate_next ?_ (F.args_enumerate_next_1 _))))
    show wpAny _ _ (field (.ref e) 2 >>= _) _ _ _
    refine wpAny_bind (wpAny_field he rfl (x := .ref it) rfl ?_)
    refine wpAny_bind (wpAny_nextOf_tuple_end (show X.A.in1.handled = none from I.ok.hd hc) hit p (by simp; omega) fun h' x he' hx' => ?_)
    obtain ⟨o, ho, hc'⟩ := hx'
    refine wpAny_bind (wpAny_isInstance (T := "StopIteration") (b := true) ⟨o, ho, hc'⟩ isSubtype_stop ?_)
    exact wpAny_pure ⟨rfl, I.turned (t' := s.toks) (fun b o hb q => he' b o hb q) f0 f1 f3 f4 f5⟩
  self := fun A i s Q E st h => let ⟨⟨_, he⟩, _⟩ := st; wpAny_pyIter_enum he h
def iEnumA (K : PySem.W.Frag) (ta : TA) : TI := fun σ H R => ta σ H fun vs H1 => ∃ a xs, vs = [.ref a] ∧ ((SqL K H1 a xs ∧ R (Ite K a) H1) ∨ (SqT K H1 a xs ∧ R (IteT K a) H1))
theorem pi_enumA {X : Cx} {e : Expr} {ta : TA} {p pos tpos : Pos} {elts : List Expr} {kk : Nat} (hg : Gl X "enumerate") (hm : X.mg "enumerate" = none) (ha : PA X [e] ta) (hs : starEach [e] X.env = [(false, eval e X.env)]) :
    PI X (.Tuple elts kk tpos) (.Call (.Name "enumerate" p) [e] [] pos) (iEnumA X.K ta) := by
  refine ⟨fun pins s σ H R I h => ?_⟩
  refine Call_ (ld_blt I hg hm boot_enumerate (PyProof.Rows.callWith_type1 (thn (ha.run pos pins s σ H _ I h) fun us s1 ⟨vs, H1, I1, r1, q1⟩ => ?_) hs rfl))
  obtain ⟨a, xs, ex, q⟩ := q1
  subst ex
  cases r1 with
  | cons r rr =>
    cases rr
    cases r
    have fresh : ∀ b, b ∈ [s1.heap.objs.size + 1, s1.heap.objs.size] → FpOk X pins H1 b := fun b hb => by
      have e' : b = s1.heap.objs.size + 1 ∨ b = s1.heap.objs.size := by simpa using hb
      have hle : s1.heap.objs.size ≤ b := by
        rcases e' with z | z
        · rw [z]; exact Nat.le_add_right _ _
        · rw [z]; exact Nat.le_refl _
      exact I1.fpOk hle (I1.hok.fresh hle)
    rcases q with ⟨hq, q⟩ | ⟨hq, q⟩
    · obtain ⟨its, rv, p', hz⟩ := I1.list hq
      refine call_enumerate_list p'.isList fun h' he hit hsz hk => wpAny_pyIter_enum he ?_
      have I2 : Inv X pins σ H1 { s1 with heap := h' } := I1.kept (t' := s1.toks) hk
      exact ⟨s1.heap.objs.size + 1, [s1.heap.objs.size + 1, s1.heap.objs.size], _, _, H1, rfl, I2, turn_enum a (s1.heap.objs.size + 1) s1.heap.objs.size, ⟨⟨.none, he⟩, hit, Nat.succ_ne_self _⟩, fresh, q⟩
    · obtain ⟨its, rv, p', hz⟩ := I1.tuple hq
      have hlt : a < s1.heap.objs.size := by obtain ⟨o, e, _⟩ := id p'; exact Heap.lt_size e
      refine enum_of_tuple (items := its.toArray) p' fun h' he hit hsz hk => wpAny_pyIter_enum he ?_
      have I2 : Inv X pins σ H1 { s1 with heap := h' } := I1.kept (t' := s1.toks) hk
      exact ⟨s1.heap.objs.size + 1, [s1.heap.objs.size + 1, s1.heap.objs.size], _, _, H1, rfl, I2, turn_enumT a (s1.heap.objs.size + 1) s1.heap.objs.size (Nat.ne_of_lt (Nat.lt_succ_of_lt hlt)) (Nat.ne_of_lt hlt), ⟨⟨.none, he⟩, hit, Nat.succ_ne_self _⟩, fresh, q⟩

/-! ### a locked dict's keys, its items -/
section
variable {P : Program} {w : World} {K : PySem.W.Frag} {d : Addr} {od : Obj} {es : List (NestedKey × Addr × V)} {tg : Expr}
def ItkD (P : Program) (w : World) (d : Addr) (od : Obj) (es : List (NestedKey × Addr × V)) : L2.It :=
  ⟨fun i H => H d = some (.frz od (DctO P w d es)) ∧ i < es.length, fun i H x H' => H' = H ∧ ∃ p, es[i]? = some p ∧ x = .ref p.2.1, fun i H => H d = some (.frz od (DctO P w d es)) ∧ es.length ≤ i⟩
def ItiD (P : Program) (w : World) (d : Addr) (od : Obj) (es : List (NestedKey × Addr × V)) : L2.It :=
  ⟨fun i H => H d = some (.frz od (DctO P w d es)) ∧ i < es.length, fun i H x H' => ∃ p T, es[i]? = some p ∧ x = .ref T ∧ H T = none ∧ H' = upd H T (.tup [.ref p.2.1, p.2.2]), fun i H => H d = some (.frz od (DctO P w d es)) ∧ es.length ≤ i⟩
theorem frzD {X : Cx} {pins : List (Addr × Obj)} {σ : L2.St} {H : Hp} {s : Shared} (I : Inv X pins σ H s) (h : H d = some (.frz od (DctO X.prog X.w d es))) :
    (d == sysModules) = false ∧ s.heap.get? d = some od ∧ od.ExactDict ∧ ∃ ds ep, od.data = .dict ds ep ∧ ds.size = es.length ∧ es.length ≤ sizeLine ∧ ∀ (i : Nat) (p : NestedKey × Addr × V), es[i]? = some p → ∃ (en : DictEntry) (u : Value), ds[i]? = some en ∧ en.key = Value.ref p.2.1 ∧ en.val = u ∧ RelV p.2.2 u := by
  obtain ⟨h0, ⟨hl, hs, xs, rx, o, ds, ep, e1, e2, e3, e4, e5⟩, _⟩ := I.hok d _ h
  rw [h0] at e1
  cases e1
  have hlen : es.length = xs.length := Paired.length rx
  refine ⟨hs, h0, e2, ds, ep, e3, ?_, hl, fun i p hp => ?_⟩
  · rw [← Array.length_toList, e4, List.length_map, hlen]
  · have : ∀ {es : List (NestedKey × Addr × V)} {xs : List (NestedKey × Addr × Value)} {i : Nat} {p}, Paired (fun (p : NestedKey × Addr × V) (q : NestedKey × Addr × Value) => p.1 = q.1 ∧ p.2.1 = q.2.1 ∧ RelV p.2.2 q.2.2) es xs → es[i]? = some p → ∃ q, xs[i]? = some q ∧ p.2.1 = q.2.1 ∧ RelV p.2.2 q.2.2 := by
      intro es xs i p r
      induction r generalizing i with
      | nil => intro h; simp at h
      | cons q t ih =>
        intro h
        cases i with
        | zero => simp at h; subst h; exact ⟨_, rfl, q.2.1, q.2.2⟩
        | succ i => exact ih (by simpa using h)
    obtain ⟨q, hq, a1, a2⟩ := this rx hp
    refine ⟨_, q.2.2, (by rw [← Array.getElem?_toList, e4, List.getElem?_map, hq]; rfl), ?_, rfl, a2⟩
    rw [a1]
    rfl
theorem turn_keysD {ds : Array DictEntry} {ep : Nat} (it : Addr) (hod : od.data = .dict ds ep) (hsz : ds.size = es.length) : Turn P w K tg (ItkD P w d od es) [it] it (fun i h => h.IsKeyIter it d i es.length ep) where
  mem := by simp
  obj := fun i h st b hb => by
    have e : b = it := by simpa using hb
    subst e
    obtain ⟨oi, e, c, dd⟩ := st
    exact ⟨oi, e, fun v z => by rw [dd] at z; cases z⟩
  keep := fun i h h' st k => st.at fun oi e => k it (by simp) oi e
  item := by
    intro X hP hw hK hc i pins s σ H E I hf st hg
    subst hP hw hK
    obtain ⟨hd, hi⟩ := hg
    obtain ⟨f0, f1, f2, f3, f4, f5⟩ := hf it (by simp)
    obtain ⟨hs, hgd, hx, ds', ep', hdt, hsz', _, ent⟩ := frzD I hd
    rw [hod] at hdt
    cases hdt
    obtain ⟨en, u, hen, hkey, _, _⟩ := ent i es[i] (List.getElem?_eq_getElem hi)
    refine next_key_item st hgd hod hsz hen fun h' st' sb => ?_
    have I1 : Inv X pins σ H { s with heap := h' } := I.turned (t' := s.toks) (fun b ob hb e => (sb.2 b hb).trans e) f0 f1 f3 f4 f5
    obtain ⟨oi, e, c, dd⟩ := id st'
    exact ⟨en.key, rfl, go_of (s := { s with heap := h' }) e c dd (by decide) ⟨.ref es[i].2.1, H, I1, hkey, ⟨rfl, _, List.getElem?_eq_getElem hi, rfl⟩, st', fun b hb => (hf b hb).1⟩⟩
  done := by
    intro X hP hw hK hc i pins s σ H E I hf st hg
    subst hP hw hK
    obtain ⟨hd, hi⟩ := hg
    obtain ⟨f0, f1, f2, f3, f4, f5⟩ := hf it (by simp)
    obtain ⟨hs, hgd, hx, _⟩ := frzD I hd
    exact next_key_end (I.ok.hd hc) st hgd hod hsz hi fun h' eb => ⟨rfl, I.turned (t' := s.toks) (fun b ob hb e => eb b ob hb e) f0 f1 f3 f4 f5⟩
  self := fun A i s Q E st h => by
    refine wpAny_pyIter_slot st.typeIs F.slot_dict_keyiterator_iter (wpAny_call_entry F.slot_dict_keyiterator_iter st.typeIs F.entry_dict_keyiterator_iter ?_ (F.args_dict_keyiterator_iter_1 _))
    show wpAny _ _ (PySem.ret (.ref it)) _ _ s
    exact wpAny_pure ⟨_, rfl, "dict_keyiterator", _, st.typeIs, F.slot_dict_keyiterator_next.lookup, h⟩
theorem turn_itemsD {ds : Array DictEntry} {ep : Nat} {elts : List Expr} {kk : Nat} {tpos : Pos} (it : Addr) (hdi : d ≠ it) (hod : od.data = .dict ds ep) (hsz : ds.size = es.length) :
    Turn P w K (.Tuple elts kk tpos) (ItiD P w d od es) [it] it (fun i h => ∃ ok ov, IsItemIter h it d i es.length ep ok ov) where
  mem := by simp
  obj := fun i h st b hb => by
    have e : b = it := by simpa using hb
    subst e
    obtain ⟨ok, ov, e⟩ := st
    exact ⟨_, e, fun v z => nomatch z⟩
  keep := fun i h h' st k => let ⟨ok, ov, e⟩ := st; ⟨ok, ov, k it (by simp) _ e⟩
  item := by
    intro X hP hw hK hc i pins s σ H E I hf st hg
    subst hP hw hK
    obtain ⟨hd, hi⟩ := hg
    obtain ⟨hs, hgd, hx, ds', ep', hdt, hsz', _, ent⟩ := frzD I hd
    rw [hod] at hdt
    cases hdt
    obtain ⟨en, u, hen, hkey, hval, ru⟩ := ent i es[i] (List.getElem?_eq_getElem hi)
    obtain ⟨ok, ov, he⟩ := st
    rw [← hsz] at he
    have hlt : it < s.heap.objs.size := Heap.lt_size he
    have hi' : i < ds.size := by rw [hsz]; exact hi
    have hen' : ds[i] = en := by rw [Array.getElem?_eq_getElem hi'] at hen; exact Option.some.inj hen
    refine DT.nextI he ⟨od, hgd, hx, hod⟩ hi' fun h' ho hT hz hk => ?_
    rw [hen', hkey, hval] at ho hT
    refine ⟨_, rfl, wpAny_letOwnedTupleGo_items (s := { s with heap := h' }) ho fun h'' he' sb => ?_⟩
    have hT2 : h''.get? s.heap.objs.size = some { cls := .type "tuple", data := .seq #[.ref es[i].2.1, u] } := (sb.2 _ (Nat.ne_of_gt hlt)).trans hT
    have new : ObjOk X.prog X.w (upd H s.heap.objs.size (.tup [.ref es[i].2.1, es[i].2.2])) h'' s.heap.objs.size (.tup [.ref es[i].2.1, es[i].2.2]) :=
      ⟨by show 2 ≤ sizeLine; decide, [.ref es[i].2.1, u], .cons rfl (.cons ru .nil), ⟨_, hT2, rfl, _, rfl⟩⟩
    have I1 : Inv X pins σ (upd H s.heap.objs.size (.tup [.ref es[i].2.1, es[i].2.2])) { s with heap := h'' } :=
      I.turnedNew (t' := s.toks) (ch := [it]) (fun b ob hb e => (sb.2 b (by simpa using hb)).trans (hk b ob (by simpa using hb) e)) hf (Nat.le_refl _) new
    refine ⟨.ref s.heap.objs.size, _, I1, rfl, ⟨es[i], s.heap.objs.size, List.getElem?_eq_getElem hi, rfl, I.hok.fresh (Nat.le_refl _), rfl⟩, ⟨Value.ref es[i].2.1, u, ?_⟩, fun b hb => ?_⟩
    · rw [← hsz]; exact he'
    · have e : b = it := by simpa using hb
      rw [e, upd_ne (Nat.ne_of_lt hlt)]
      exact (hf it (by simp)).1
  done := by
    intro X hP hw hK hc i pins s σ H E I hf st hg
    subst hP hw hK
    obtain ⟨hd, hi⟩ := hg
    obtain ⟨f0, f1, f2, f3, f4, f5⟩ := hf it (by simp)
    obtain ⟨hs, hgd, hx, _⟩ := frzD I hd
    obtain ⟨ok, ov, he⟩ := st
    rw [← hsz] at he
    exact DT.endI (I.ok.hd hc) he ⟨od, hgd, hx, hod⟩ (by rw [hsz]; exact hi) fun h' eb => ⟨rfl, I.turned (t' := s.toks) (fun b ob hb e => eb b ob hb e) f0 f1 f3 f4 f5⟩
  self := fun A i s Q E st h => let ⟨_, _, e⟩ := st; PySem.W.kcp_self e h
end
section
variable {X : Cx} {tg e : Expr} {td : TE} {apos cpos : Pos}
theorem pi_keysD (he : PE X e td) : PI X tg e (fun σ H R => td σ H fun x H1 => ∃ d od es, x = .ref d ∧ H1 d = some (.frz od (DctO X.prog X.w d es)) ∧ R (ItkD X.prog X.w d od es) H1) := by
  refine ⟨fun pins s σ H R I h => ?_⟩
  refine thn (he.run pins s σ H _ I h) fun u s1 ⟨x, H1, I1, rx, d, od, es, ex, hd, q⟩ => ?_
  subst ex
  obtain rfl : u = Value.ref d := rx
  obtain ⟨hs, hgd, hx, ds, ep, hdt, hsz, _, _⟩ := frzD I1 hd
  refine iter_keys hs hgd hx hdt (pi_one (tk := s1.toks) I1 _ (turn_keysD _ hdt hsz) ⟨_, Heap.get?_push_size _ rfl, rfl, ?_⟩ q)
  rw [hsz] <;> rfl
theorem pi_itemsD {elts : List Expr} {kk : Nat} {tpos : Pos} (he : PE X e td) (hbase : attributeBase e "items" X.env (eval e X.env) = eval e X.env) (hline : (apos.endLine == cpos.line) = true) :
    PI X (.Tuple elts kk tpos) (.Call (.Attribute e "items" apos) [] [] cpos) (fun σ H R => td σ H fun x H1 => ∃ d od es, x = .ref d ∧ H1 d = some (.frz od (DctO X.prog X.w d es)) ∧ R (ItiD X.prog X.w d od es) H1) := by
  refine ⟨fun pins s σ H R I h => ?_⟩
  refine wpAny_Call_method (T := "dict") (id := "dict.items") hbase rfl hline F.plainAttrs_dict F.slot_dict_items F.type_dict_items (thn (he.run pins s σ H _ I h) fun u s1 ⟨x, H1, I1, rx, d, od, es, ex, hd, q⟩ => ?_)
  subst ex
  obtain rfl : u = Value.ref d := rx
  obtain ⟨hs, hgd, hx, ds, ep, hdt, hsz, hle, _⟩ := frzD I1 hd
  have raw : DT.Raw s1.heap d ds ep := ⟨od, hgd, hx, hdt⟩
  have hlt : d < s1.heap.objs.size := raw.lt
  refine ⟨raw.typeIs, fun b hb => by cases hb; exact ⟨od, hgd, hx.2.1⟩, ?_⟩
  have I2 : Inv X pins σ H1 { s1 with heap := s1.heap.push { cls := .type "dict_items", data := .fields #[.ref d] } } := I1.kept (t' := s1.toks) fun b ob q => Heap.get?_push_of_some _ q
  have fin : wpAny (model X.prog X.w) X.A (pyIter (.ref s1.heap.objs.size)) (PIE X pins σ (.Tuple elts kk tpos) R) X.xe { s1 with heap := s1.heap.push { cls := .type "dict_items", data := .fields #[.ref d] } } := by
    refine DT.iterI (d := d) ⟨_, Heap.get?_push_size _ rfl, rfl, rfl⟩ (raw.push _) (pi_one (tk := s1.toks) I2 _ (turn_itemsD _ (by rw [Heap.size_push]; exact Nat.ne_of_lt (Nat.lt_succ_of_lt hlt)) hdt hsz) ⟨.none, .none, ?_⟩ q)
    rw [← hsz]
    exact Heap.get?_push_size _ rfl
  show wpAny _ _ (callWith cpos (.builtin "dict.items") [.ref d] [] []) _ X.xe s1
  exact method_meetsIn F.slot_dict_items F.entry_dict_items rfl (PySem.evalArgs_none ⟨rfl, raw.typeIs, F.args_dict_items_1 _, _, DT.meetsItems hs, ⟨raw, fin⟩⟩)
/-- a list or a tuple -/
theorem pi_seq (hl : PE X e td) : PI X tg e (fun σ H R => td σ H fun x H1 => ∃ a, x = .ref a ∧ (((∃ xs, SqL X.K H1 a xs) ∧ R (Itl X.K a) H1) ∨ ((∃ xs, SqT X.K H1 a xs) ∧ R (Itt X.K a) H1))) := by
  refine ⟨fun pins s σ H R I h => ?_⟩
  refine thn (hl.run pins s σ H _ I h) fun v s1 ⟨x, H1, I1, r1, q1⟩ => ?_
  obtain ⟨a, e, q⟩ := q1
  subst e
  cases r1
  have fresh : ∀ b, b ∈ [s1.heap.objs.size] → FpOk X pins H1 b := fun b hb => by
    have e : b = s1.heap.objs.size := by simpa using hb
    subst e
    exact I1.fpOk (Nat.le_refl _) (I1.hok.fresh (Nat.le_refl _))
  rcases q with ⟨⟨xs, hq⟩, q⟩ | ⟨⟨xs, hq⟩, q⟩
  · obtain ⟨its, rv, p, hz⟩ := I1.list hq
    refine wpAny_pyIter_list p.isList ?_
    exact ⟨s1.heap.objs.size, [s1.heap.objs.size], _, _, H1, rfl, I1.kept (t' := s1.toks) fun b o e => Heap.get?_push_of_some _ e, turn_list a _, ⟨_, Heap.get?_push_size _ rfl, rfl, rfl⟩, fresh, q⟩
  · obtain ⟨its, rv, p, hz⟩ := I1.tuple hq
    refine wpAny_pyIter_tuple (show s1.heap.IsTuple a its.toArray from p) ?_
    exact ⟨s1.heap.objs.size, [s1.heap.objs.size], _, _, H1, rfl, I1.kept (t' := s1.toks) fun b o e => Heap.get?_push_of_some _ e, turn_tuple a _, ⟨_, Heap.get?_push_size _ rfl, rfl, rfl⟩, fresh, q⟩
end
end RP

/-! Fw12: iterables by a denotation, for, comprehensions. Own work. -/
namespace RP
open PySem PySem.Spec PyProof.Rows L2

/-- J goes through xs at any later moment -/
def IterOk (S : Sy) (o : Bool) (G₁ : Hp) (m₁ : List Addr) (H₁ : Hp) (xs : List PV) (J : L2.It) : Prop := ∀ G m s H, Wd S G m s H → Lat m₁ m G₁ G → (o = true → Ext m₁ m G₁ G H₁ H) →
  (∀ i, i < xs.length → J.go i H) ∧ J.stop xs.length H ∧ ∀ i x v H', xs[i]? = some x → J.yld i H v H' → ∃ G', Ext m m G G' H H' ∧ Wd S G' m s H' ∧ Rep S G' m x v
def RepI (S : Sy) (o : Bool) : RT (List PV) L2.It := fun _ G m H xs J => IterOk S o G m H xs J
theorem good_I (S : Sy) (o : Bool) : (RepI S o).Good := fun _ _ _ _ _ _ _ _ h => h
abbrev tDI (S : Sy) (o : Bool) (W : XK) (d : Fm → M (List PV)) : TI := tDen S (RepI S o) W d
abbrev md (o : Bool) : Md := if o then .O else .E
section
variable {S : Sy} {G G' H H' H₀ : Hp} {m m' : List Addr} {s : AS}
theorem md_O {o : Bool} {x : PV} {v : V} (h : RepM S (md o) H₀ G m H x v) : RepO S G m H x v := by
  cases o with
  | true => exact h
  | false => exact .rep h
/-- a list at any later moment -/
theorem lst_later {o : Bool} {xs : List PV} {v : V} (wd : Wd S G m s H) (h : RepM S (md o) H₀ G m H (.lst xs) v) : ∃ a vs, v = .ref a ∧ SqL S.K H a vs ∧ Reps S G m xs vs ∧ ∀ G' m' s' H', Wd S G' m' s' H' → Lat m m' G G' → (o = true → Ext m m' G G' H H') → SqL S.K H' a vs ∧ Reps S G' m' xs vs := by
  cases o with
  | false =>
    cases h with
    | lst g r => exact ⟨_, _, rfl, .inl (.inl (wd.le _ _ g).1), r, fun G' m' s' H' wd' l _ => ⟨.inl (.inl (wd'.le _ _ (l.le _ _ g)).1), r.mono l.le l.pre⟩⟩
  | true =>
    cases h with
    | rep h =>
      cases h with
      | lst g r => exact ⟨_, _, rfl, .inl (.inl (wd.le _ _ g).1), r, fun G' m' s' H' wd' l _ => ⟨.inl (.inl (wd'.le _ _ (l.le _ _ g)).1), r.mono l.le l.pre⟩⟩
    | lst g hm r => exact ⟨_, _, rfl, .inl (.inl g), r, fun G' m' s' H' wd' l e => ⟨.inl (.inl ((e rfl).keep _ _ g hm ntbl_lst)), r.mono l.le l.pre⟩⟩
theorem rol_later {o : Bool} {xs : List PV} {v : V} (wd : Wd S G m s H) (h : RepM S (md o) H₀ G m H (.rol xs) v) : ∃ a vs, v = .ref a ∧ SqL S.K H a vs ∧ Reps S G m xs vs ∧ ∀ G' m' s' H', Wd S G' m' s' H' → Lat m m' G G' → (o = true → Ext m m' G G' H H') → SqL S.K H' a vs ∧ Reps S G' m' xs vs := by
  have h := md_O h
  cases h with
  | rep h =>
    cases h with
    | rol g r => exact ⟨_, _, rfl, sqL_mono (fun b o q => (wd.le b o q).1) g, r, fun G' m' s' H' wd' l _ => ⟨sqL_mono (fun b o q => (wd'.le b o (l.le b o q)).1) g, r.mono l.le l.pre⟩⟩
theorem tup_later {o : Bool} {xs : List PV} {v : V} (wd : Wd S G m s H) (h : RepM S (md o) H₀ G m H (.tup xs) v) : ∃ a vs, v = .ref a ∧ SqT S.K H a vs ∧ Reps S G m xs vs ∧ ∀ G' m' s' H', Wd S G' m' s' H' → Lat m m' G G' → (o = true → Ext m m' G G' H H') → SqT S.K H' a vs ∧ Reps S G' m' xs vs := by
  have h := md_O h
  cases h with
  | rep h =>
    cases h with
    | tup g r => exact ⟨_, _, rfl, sqT_mono (fun b o q => (wd.le b o q).1) g, r, fun G' m' s' H' wd' l _ => ⟨sqT_mono (fun b o q => (wd'.le b o (l.le b o q)).1) g, r.mono l.le l.pre⟩⟩
theorem iter_l {o : Bool} {a : Addr} {xs : List PV} {vs : List V} (h : ∀ G' m' s' H', Wd S G' m' s' H' → Lat m m' G G' → (o = true → Ext m m' G G' H H') → SqL S.K H' a vs ∧ Reps S G' m' xs vs) : IterOk S o G m H xs (Itl S.K a) := by
  intro G' m' s' H' wd' l e
  obtain ⟨q, r⟩ := h G' m' s' H' wd' l e
  have w : Walk (Itl S.K a) vs.length (fun H => SqL S.K H a vs) (YAt vs) := walk_list
  refine ⟨fun i hi => w.goes i H' (by rw [← r.length]; exact hi) q, by rw [r.length]; exact w.stops H' q, fun i x v H2 hx y => ?_⟩
  obtain ⟨rfl, y'⟩ := w.yields i H' v H2 (by rw [← r.length]; exact (List.getElem?_eq_some_iff.mp hx).1) q y
  obtain ⟨v', e1, e2⟩ := r.get hx
  rw [e1] at y'
  cases y'
  exact ⟨G', Ext.refl, wd', e2⟩
theorem iter_t {o : Bool} {a : Addr} {xs : List PV} {vs : List V} (h : ∀ G' m' s' H', Wd S G' m' s' H' → Lat m m' G G' → (o = true → Ext m m' G G' H H') → SqT S.K H' a vs ∧ Reps S G' m' xs vs) : IterOk S o G m H xs (Itt S.K a) := by
  intro G' m' s' H' wd' l e
  obtain ⟨q, r⟩ := h G' m' s' H' wd' l e
  have w : Walk (Itt S.K a) vs.length (fun H => SqT S.K H a vs) (YAt vs) := walk_tup
  refine ⟨fun i hi => w.goes i H' (by rw [← r.length]; exact hi) q, by rw [r.length]; exact w.stops H' q, fun i x v H2 hx y => ?_⟩
  obtain ⟨rfl, y'⟩ := w.yields i H' v H2 (by rw [← r.length]; exact (List.getElem?_eq_some_iff.mp hx).1) q y
  obtain ⟨v', e1, e2⟩ := r.get hx
  rw [e1] at y'
  cases y'
  exact ⟨G', Ext.refl, wd', e2⟩
/-- a new pair -/
theorem pair_new {T : Addr} {x y : PV} {v u : V} (wd : Wd S G m s H) (hT : H T = none) (rx : Rep S G m x v) (ry : Rep S G m y u) : ∃ G', Ext m m G G' H (upd H T (.tup [v, u])) ∧ Wd S G' m s (upd H T (.tup [v, u])) ∧ Rep S G' m (.tup [x, y]) (.ref T) := by
  obtain ⟨_, wd'⟩ := freezeG (o := .tup [v, u]) (wd.new hT) upd_same (wd.mnone hT) ntbl_tup (wd.Gnone hT)
  have le : ∀ b q, G b = some q → upd G T (.tup [v, u]) b = some q := fun b q z => by rw [upd_ne (ne_of_none z (wd.Gnone hT))]; exact z
  exact ⟨_, (wd.newExt hT).freeze hT (wd.Gnone hT), wd', .tup (.inl (.inl upd_same)) (.cons (rx.mono le ⟨[], by simp⟩) (.cons (ry.mono le ⟨[], by simp⟩) .nil))⟩
theorem enumP_len : ∀ (n : Nat) (xs : List PV), (enumP n xs).length = xs.length
  | _, [] => rfl
  | n, x :: xs => by simp [enumP, enumP_len]
theorem enumP_get : ∀ (n i : Nat) (xs : List PV) (y : PV), (enumP n xs)[i]? = some y → ∃ x, xs[i]? = some x ∧ y = .tup [.int ((n + i : Nat) : Int), x]
  | n, i, [], y, h => by simp [enumP] at h
  | n, 0, x :: xs, y, h => by simp [enumP] at h; exact ⟨x, rfl, h.symm⟩
  | n, i + 1, x :: xs, y, h => by
    simp only [enumP, List.getElem?_cons_succ] at h
    obtain ⟨z, h1, h2⟩ := enumP_get (n + 1) i xs y h
    refine ⟨z, by simpa using h1, ?_⟩
    rw [h2, show n + 1 + i = n + (i + 1) by omega]
theorem zipP_len : ∀ (xs ys : List PV), (zipP xs ys).length = min xs.length ys.length
  | [], ys => by simp [zipP]
  | _ :: _, [] => by simp [zipP]
  | x :: xs, y :: ys => by simp only [zipP, List.length_cons, zipP_len]; omega
theorem zipP_get : ∀ (i : Nat) (xs ys : List PV) (z : PV), (zipP xs ys)[i]? = some z → ∃ x y, xs[i]? = some x ∧ ys[i]? = some y ∧ z = .tup [x, y]
  | i, [], ys, z, h => by simp [zipP] at h
  | i, _ :: _, [], z, h => by simp [zipP] at h
  | 0, x :: xs, y :: ys, z, h => by simp [zipP] at h; exact ⟨x, y, rfl, rfl, h.symm⟩
  | i + 1, x :: xs, y :: ys, z, h => by
    simp only [zipP, List.getElem?_cons_succ] at h
    obtain ⟨a, b, h1, h2, h3⟩ := zipP_get i xs ys z h
    exact ⟨a, b, by simpa using h1, by simpa using h2, h3⟩
theorem iter_el {o : Bool} {a : Addr} {xs : List PV} {vs : List V} (h : ∀ G' m' s' H', Wd S G' m' s' H' → Lat m m' G G' → (o = true → Ext m m' G G' H H') → SqL S.K H' a vs ∧ Reps S G' m' xs vs) : IterOk S o G m H (enumP 0 xs) (Ite S.K a) := by
  intro G' m' s' H' wd' l e
  obtain ⟨q, r⟩ := h G' m' s' H' wd' l e
  have w : Walk (Ite S.K a) vs.length (fun H => SqL S.K H a vs) (YPair (fun i => some (.int (i : Nat))) (fun i => vs[i]?)) := walk_enum
  refine ⟨fun i hi => w.goes i H' (by rw [← r.length]; rw [enumP_len] at hi; exact hi) q, by rw [enumP_len, r.length]; exact w.stops H' q, fun i x v H2 hx y => ?_⟩
  obtain ⟨x', hx', rfl⟩ := enumP_get 0 i xs x hx
  obtain ⟨T, a1, b1, rfl, hT, rfl, ha, hb⟩ := w.yields i H' v H2 (by rw [← r.length]; exact (List.getElem?_eq_some_iff.mp hx').1) q y
  obtain ⟨v', e1, e2⟩ := r.get hx'
  cases ha
  have hb : vs[i]? = some b1 := hb
  rw [e1] at hb
  cases hb
  rw [Nat.zero_add]
  exact pair_new wd' hT (.int _) e2
theorem iter_et {o : Bool} {a : Addr} {xs : List PV} {vs : List V} (h : ∀ G' m' s' H', Wd S G' m' s' H' → Lat m m' G G' → (o = true → Ext m m' G G' H H') → SqT S.K H' a vs ∧ Reps S G' m' xs vs) : IterOk S o G m H (enumP 0 xs) (IteT S.K a) := by
  intro G' m' s' H' wd' l e
  obtain ⟨q, r⟩ := h G' m' s' H' wd' l e
  refine ⟨fun i hi => ?_, by rw [enumP_len, r.length]; exact ⟨vs, q, Nat.le_refl _⟩, fun i x v H2 hx y => ?_⟩
  · rw [enumP_len, r.length] at hi
    exact ⟨vs, vs[i], q, by simp [hi]⟩
  · obtain ⟨x', hx', rfl⟩ := enumP_get 0 i xs x hx
    obtain ⟨T, b1, rfl, hT, rfl, hb⟩ := y
    obtain ⟨v', e1, e2⟩ := r.get hx'
    have hb := hb vs q
    rw [e1] at hb
    cases hb
    rw [Nat.zero_add]
    exact pair_new wd' hT (.int _) e2
theorem iter_zl {o : Bool} {a b : Addr} {xs ys : List PV} {vs us : List V} (h : ∀ G' m' s' H', Wd S G' m' s' H' → Lat m m' G G' → (o = true → Ext m m' G G' H H') → (SqL S.K H' a vs ∧ Reps S G' m' xs vs) ∧ SqL S.K H' b us ∧ Reps S G' m' ys us) : IterOk S o G m H (zipP xs ys) (Itz S.K a b) := by
  intro G' m' s' H' wd' l e
  obtain ⟨⟨q, r⟩, q2, r2⟩ := h G' m' s' H' wd' l e
  have w : Walk (Itz S.K a b) (zipP xs ys).length (fun H => SqL S.K H a vs ∧ SqL S.K H b us) (YPair (fun i => vs[i]?) (fun i => us[i]?)) := walk_zip (by rw [zipP_len, r.length, r2.length])
  refine ⟨fun i hi => w.goes i H' hi ⟨q, q2⟩, w.stops H' ⟨q, q2⟩, fun i x v H2 hx y => ?_⟩
  obtain ⟨T, a1, b1, rfl, hT, rfl, ha, hb⟩ := w.yields i H' v H2 (List.getElem?_eq_some_iff.mp hx).1 ⟨q, q2⟩ y
  obtain ⟨x', y', hx', hy', rfl⟩ := zipP_get i xs ys x hx
  obtain ⟨v', e1, e2⟩ := r.get hx'
  obtain ⟨u', e3, e4⟩ := r2.get hy'
  have ha : vs[i]? = some a1 := ha
  have hb : us[i]? = some b1 := hb
  rw [e1] at ha
  rw [e3] at hb
  cases ha
  cases hb
  exact pair_new wd' hT e2 e4
theorem iter_zt {o : Bool} {a b : Addr} {xs ys : List PV} {vs us : List V} (h : ∀ G' m' s' H', Wd S G' m' s' H' → Lat m m' G G' → (o = true → Ext m m' G G' H H') → (SqT S.K H' a vs ∧ Reps S G' m' xs vs) ∧ SqT S.K H' b us ∧ Reps S G' m' ys us) : IterOk S o G m H (zipP xs ys) (RZ.ItzT S.K a b) := by
  intro G' m' s' H' wd' l e
  obtain ⟨⟨q, r⟩, q2, r2⟩ := h G' m' s' H' wd' l e
  refine ⟨fun i hi => ?_, ?_, fun i x v H2 hx y => ?_⟩
  · rw [zipP_len] at hi
    have h1 : i < vs.length := by rw [← r.length]; omega
    have h2 : i < us.length := by rw [← r2.length]; omega
    exact ⟨vs, us, vs[i], us[i], q, q2, by simp [h1], by simp [h2]⟩
  · rw [zipP_len, r.length, r2.length]
    exact ⟨vs, us, q, q2, by omega⟩
  · obtain ⟨T, a1, b1, rfl, hT, rfl, ha, hb⟩ := y
    obtain ⟨x', y', hx', hy', rfl⟩ := zipP_get i xs ys x hx
    obtain ⟨v', e1, e2⟩ := r.get hx'
    obtain ⟨u', e3, e4⟩ := r2.get hy'
    have ha := ha vs q
    have hb := hb us q2
    rw [e1] at ha
    rw [e3] at hb
    cases ha
    cases hb
    exact pair_new wd' hT e2 e4
theorem rangeP_len : ∀ (n : Nat) (lo : Int), (rangeP lo n).length = n
  | 0, _ => rfl
  | n + 1, lo => by simp [rangeP, rangeP_len n]
theorem rangeP_get : ∀ (n i : Nat) (lo : Int) (y : PV), (rangeP lo n)[i]? = some y → y = .int (lo + i)
  | 0, i, lo, y, h => by simp [rangeP] at h
  | n + 1, 0, lo, y, h => by simp [rangeP] at h; simp [← h]
  | n + 1, i + 1, lo, y, h => by
    simp only [rangeP, List.getElem?_cons_succ] at h
    rw [rangeP_get n i (lo + 1) y h]
    congr 1
    omega
theorem iter_r {o : Bool} (n : Nat) : IterOk S o G m H (rangeP 0 n) (Itr 0 n) := by
  intro G' m' s' H' wd' l e
  refine ⟨fun i hi => by rw [rangeP_len] at hi; exact hi, by rw [rangeP_len]; exact Nat.le_refl _, fun i x v H2 hx y => ?_⟩
  obtain ⟨rfl, rfl⟩ := y
  rw [rangeP_get n i 0 x hx]
  exact ⟨G', Ext.refl, wd', .int _⟩
theorem repsD_get : ∀ {kvs : List (PV × PV)} {es : List (NestedKey × Addr × V)} {i : Nat} {p : PV × PV}, RepsD S G m kvs es → kvs[i]? = some p → ∃ q, es[i]? = some q ∧ Rep S G m p.1 (.ref q.2.1) ∧ Rep S G m p.2 q.2.2
  | _, _, _, _, .nil, h => by simp at h
  | _, _, 0, _, .cons _ h1 h2 _, h => by simp at h; subst h; exact ⟨_, rfl, h1, h2⟩
  | _, _, i + 1, p, .cons _ _ _ r, h => by
    obtain ⟨q, h1, h2⟩ := repsD_get r (show _ = some p by simpa using h)
    exact ⟨q, by simpa using h1, h2⟩
theorem iter_k {o : Bool} {a : Addr} {od : Obj} {kvs : List (PV × PV)} {es : List (NestedKey × Addr × V)} (h : G a = some (.frz od (DctO S.P S.w a es))) (r : RepsD S G m kvs es) : IterOk S o G m H (kvs.map (·.1)) (ItkD S.P S.w a od es) := by
  intro G' m' s' H' wd' l e
  have q := (wd'.le _ _ (l.le _ _ h)).1
  refine ⟨fun i hi => ⟨q, by rw [List.length_map, r.length] at hi; exact hi⟩, ⟨q, by rw [List.length_map, r.length]; exact Nat.le_refl _⟩, fun i x v H2 hx y => ?_⟩
  obtain ⟨rfl, p, hp, rfl⟩ := y
  rw [List.getElem?_map] at hx
  cases c : kvs[i]? with
  | none => rw [c] at hx; cases hx
  | some kv =>
    rw [c] at hx
    cases hx
    obtain ⟨p', e1, e2, _⟩ := repsD_get r c
    rw [hp] at e1
    cases e1
    exact ⟨G', Ext.refl, wd', e2.mono l.le l.pre⟩
theorem iter_i {o : Bool} {a : Addr} {od : Obj} {kvs : List (PV × PV)} {es : List (NestedKey × Addr × V)} (h : G a = some (.frz od (DctO S.P S.w a es))) (r : RepsD S G m kvs es) : IterOk S o G m H (kvs.map fun kv => .tup [kv.1, kv.2]) (ItiD S.P S.w a od es) := by
  intro G' m' s' H' wd' l e
  have q := (wd'.le _ _ (l.le _ _ h)).1
  refine ⟨fun i hi => ⟨q, by rw [List.length_map, r.length] at hi; exact hi⟩, ⟨q, by rw [List.length_map, r.length]; exact Nat.le_refl _⟩, fun i x v H2 hx y => ?_⟩
  obtain ⟨p, T, hp, rfl, hT, rfl⟩ := y
  rw [List.getElem?_map] at hx
  cases c : kvs[i]? with
  | none => rw [c] at hx; cases hx
  | some kv =>
    rw [c] at hx
    cases hx
    obtain ⟨p', e1, e2, e3⟩ := repsD_get r c
    rw [hp] at e1
    cases e1
    exact pair_new wd' hT (e2.mono l.le l.pre) (e3.mono l.le l.pre)
end

/-! ### iterables -/
section
variable {X : Cx} {T : List (Addr × Str)} {W : XK} {tg e e2 : Expr} {d d2 : Fm → M PV} {pos p tpos apos cpos : Pos} {elts : List Expr} {kk : Nat} {o : Bool}
theorem di_seq (he : PE X e (tD (sy X T) (md o) W d)) : PI X tg e (tDI (sy X T) o W fun r => bnd (d r) fun x => opt (seqP x)) := by
  refine ⟨fun pins s σ H R I h => (pi_seq he).run pins s σ H R I ?_⟩
  obtain ⟨G, m, s, H₀, r, a, p⟩ := h
  refine ⟨G, m, s, H₀, r, a, p.step (good_I _ _) fun x s1 G1 m1 H1 v e1 wd1 rx p1 => ?_⟩
  cases x with
  | lst xs =>
    obtain ⟨b, vs, rfl, q, _, l⟩ := lst_later wd1 rx
    exact ⟨b, rfl, .inl ⟨⟨vs, q⟩, p1.ret wd1 (iter_l l)⟩⟩
  | rol xs =>
    obtain ⟨b, vs, rfl, q, _, l⟩ := rol_later wd1 rx
    exact ⟨b, rfl, .inl ⟨⟨vs, q⟩, p1.ret wd1 (iter_l l)⟩⟩
  | tup xs =>
    obtain ⟨b, vs, rfl, q, _, l⟩ := tup_later wd1 rx
    exact ⟨b, rfl, .inr ⟨⟨vs, q⟩, p1.ret wd1 (iter_t l)⟩⟩
  | _ => exact p1.elim
theorem da_one (he : PE X e (tD (sy X T) .E W d)) (hn : starEach [e] X.env = [(false, eval e X.env)]) : PA X [e] (tDA (sy X T) W fun r => bnd (d r) fun v => ret [v]) := by
  refine (da_cons he da_nil (by rw [hn]; rfl)).imp fun σ H Q ⟨G, m, s, H₀, r, a, p⟩ => ⟨G, m, s, H₀, r, a, p⟩
theorem di_range1 (hg : Gl X "range") (hm : X.mg "range" = none) (he : PE X e (tD (sy X T) .E W d)) (hs : starEach [e] X.env = [(false, eval e X.env)]) : PI X tg (.Call (.Name "range" p) [e] [] pos) (tDI (sy X T) o W fun r => bnd (d r) fun x => opt (rangeOf x)) := by
  refine ⟨fun pins s σ H R I h => (pi_range1 hg hm (pa_cons he pa_nil (by rw [hs]; rfl)) hs).run pins s σ H R I ?_⟩
  obtain ⟨G, m, s, H₀, r, a, p⟩ := h
  refine ⟨G, m, s, H₀, r, a, p.step (good_I _ _) fun x s1 G1 m1 H1 v e1 wd1 rx p1 => ?_⟩
  cases x with
  | int n =>
    cases rx
    simp only [rangeOf] at p1
    by_cases c : -1000000 ≤ n ∧ n ≤ 1000000
    · rw [if_pos c] at p1
      exact ⟨n, rfl, by omega, by omega, p1.ret wd1 (iter_r _)⟩
    · rw [if_neg c] at p1
      exact p1.elim
  | _ => exact p1.elim
theorem di_enum (hg : Gl X "enumerate") (hm : X.mg "enumerate" = none) (he : PE X e (tD (sy X T) (md o) W d)) (hs : starEach [e] X.env = [(false, eval e X.env)]) : PI X (.Tuple elts kk tpos) (.Call (.Name "enumerate" p) [e] [] pos) (tDI (sy X T) o W fun r => bnd (d r) fun x => opt (enumOf x)) := by
  refine ⟨fun pins s σ H R I h => (pi_enumA hg hm (pa_cons he pa_nil (by rw [hs]; rfl)) hs).run pins s σ H R I ?_⟩
  obtain ⟨G, m, s, H₀, r, a, p⟩ := h
  refine ⟨G, m, s, H₀, r, a, p.step (good_I _ _) fun x s1 G1 m1 H1 v e1 wd1 rx p1 => ?_⟩
  cases x with
  | lst xs =>
    obtain ⟨b, vs, rfl, q, _, l⟩ := lst_later wd1 rx
    exact ⟨b, vs, rfl, .inl ⟨q, p1.ret wd1 (iter_el l)⟩⟩
  | tup xs =>
    obtain ⟨b, vs, rfl, q, _, l⟩ := tup_later wd1 rx
    exact ⟨b, vs, rfl, .inr ⟨q, p1.ret wd1 (iter_et l)⟩⟩
  | _ => exact p1.elim
theorem later_ext {S : Sy} {G G' H H' H₀ : Hp} {m m' : List Addr} {x : PV} {v : V} (h : RepM S (md o) H₀ G m H x v) (e : Ext m m' G G' H H') : RepM S (md o) H₀ G' m' H' x v := by
  cases o with
  | true => exact RepO.ext h e
  | false => exact Rep.ext h e
theorem di_zip {e2 : Expr} {d2 : Fm → M PV} (hg : Gl X "zip") (hm : X.mg "zip" = none) (he : PE X e (tD (sy X T) (md o) W d)) (he2 : PE X e2 (tD (sy X T) (md o) W d2)) (hs : starEach [e, e2] X.env = (false, eval e X.env) :: starEach [e2] X.env) (hs2 : starEach [e2] X.env = [(false, eval e2 X.env)]) :
    PI X (.Tuple elts kk tpos) (.Call (.Name "zip" p) [e, e2] [] pos) (tDI (sy X T) o W fun r => bnd (d r) fun x => bnd (d2 r) fun y => opt (zipOf x y)) := by
  refine ⟨fun pins s σ H R I h => (RZ.pi_zipA hg hm (pa_cons he (pa_cons he2 pa_nil (by rw [hs2]; rfl)) (by rw [hs])) hs (by rw [hs2]; rfl)).run pins s σ H R I ?_⟩
  obtain ⟨G, m, s, H₀, r, a, p⟩ := h
  refine ⟨G, m, s, H₀, r, a, p.step (good_I _ _) fun x s1 G1 m1 H1 v e1 wd1 rx p1 => ?_⟩
  refine ⟨G1, m1, s1, H₀, r, ⟨wd1, a.2.ext e1⟩, p1.step (good_I _ _) fun y s2 G2 m2 H2 u e2 wd2 ry p2 => ?_⟩
  have rx := later_ext rx e2
  cases x with
  | lst xs =>
    cases y with
    | lst ys =>
      obtain ⟨b, vs, rfl, q, _, l⟩ := lst_later wd2 rx
      obtain ⟨b2, vs2, rfl, q2, _, l2⟩ := lst_later wd2 ry
      exact ⟨b, b2, vs, vs2, rfl, .inl ⟨q, q2, p2.ret wd2 (iter_zl fun G' m' s' H' wd' l' e' => ⟨l G' m' s' H' wd' l' e', l2 G' m' s' H' wd' l' e'⟩)⟩⟩
    | _ => exact p2.elim
  | tup xs =>
    cases y with
    | tup ys =>
      obtain ⟨b, vs, rfl, q, _, l⟩ := tup_later wd2 rx
      obtain ⟨b2, vs2, rfl, q2, _, l2⟩ := tup_later wd2 ry
      exact ⟨b, b2, vs, vs2, rfl, .inr ⟨q, q2, p2.ret wd2 (iter_zt fun G' m' s' H' wd' l' e' => ⟨l G' m' s' H' wd' l' e', l2 G' m' s' H' wd' l' e'⟩)⟩⟩
    | _ => exact p2.elim
  | _ => exact p2.elim
theorem di_keys (he : PE X e (tD (sy X T) .E W d)) : PI X tg e (tDI (sy X T) o W fun r => bnd (d r) fun x => opt (keysOfD x)) := by
  refine ⟨fun pins s σ H R I h => (pi_keysD he).run pins s σ H R I ?_⟩
  obtain ⟨G, m, s, H₀, r, a, p⟩ := h
  refine ⟨G, m, s, H₀, r, a, p.step (good_I _ _) fun x s1 G1 m1 H1 v e1 wd1 rx p1 => ?_⟩
  cases x with
  | dct kvs =>
    cases rx with
    | dct h rr => exact ⟨_, _, _, rfl, (wd1.le _ _ h).1, p1.ret wd1 (iter_k h rr)⟩
  | _ => exact p1.elim
theorem di_items (he : PE X e (tD (sy X T) .E W d)) (hb : attributeBase e "items" X.env (eval e X.env) = eval e X.env) (hl : (apos.endLine == cpos.line) = true) : PI X (.Tuple elts kk tpos) (.Call (.Attribute e "items" apos) [] [] cpos) (tDI (sy X T) o W fun r => bnd (d r) fun x => opt (itemsOfD x)) := by
  refine ⟨fun pins s σ H R I h => (pi_itemsD he hb hl).run pins s σ H R I ?_⟩
  obtain ⟨G, m, s, H₀, r, a, p⟩ := h
  refine ⟨G, m, s, H₀, r, a, p.step (good_I _ _) fun x s1 G1 m1 H1 v e1 wd1 rx p1 => ?_⟩
  cases x with
  | dct kvs =>
    cases rx with
    | dct h rr => exact ⟨_, _, _, rfl, (wd1.le _ _ h).1, p1.ret wd1 (iter_i h rr)⟩
  | _ => exact p1.elim

/-! ### for -/
theorem ds_for {iter : Expr} {t : Tg} {body : List Stmt} {di : Fm → M (List PV)} {db : Fm → M Fl} (hp : PassesOwn (model X.prog X.w) X.A X.env X.xe) (hc : X.calm = true) (hN : X.N.Nodup) (hi : PI X tg iter (tDI (sy X T) false W di)) (ht : TgOk X tg t) (hb : PSs X body (tS (sy X T) W db)) (hs : ∀ x, foldedSetIterable iter X.env x = pure x) :
    PS X (.For tg iter body [] pos) (tS (sy X T) W fun r => bnd (di r) fun xs => forGo (fun x r1 => bnd (opt (bindT t x r1)) fun r2 => db r2) xs r) := by
  refine (ps_for hp hc hi (tg_ok (T := T) hN hc ht) hb hs).imp fun D σ H ⟨G₀, m₀, H₀, Gb, mb, G, m, s, r, a, p⟩ => ?_
  refine ⟨G, m, s, H₀, r, a.at, PostS.step a p fun xs s1 G1 m1 H1 J e1 a1 io p1 => ?_⟩
  have io : IterOk (sy X T) false G1 m1 H1 xs J := io
  have p1 : PostS (sy X T) G₀ m₀ H₀ Gb mb (forGo (fun x r1 => bnd (opt (bindT t x r1)) fun r2 => db r2) xs r s1) D W := p1
  have p1 := p1.base a1.lat
  refine ⟨fun i n σ H => n = xs.length - i ∧ i ≤ xs.length ∧ ∃ G m s r, Now (sy X T) G₀ m₀ H₀ G1 m1 G m s H r σ ∧ PostS (sy X T) G₀ m₀ H₀ G1 m1 (forGo (fun x r1 => bnd (opt (bindT t x r1)) fun r2 => db r2) (xs.drop i) r s) D W,
    ⟨xs.length, rfl, Nat.zero_le _, G1, m1, s1, r, ⟨a1.ext, ⟨fun _ _ h => h, [], by simp⟩, a1.wd, a1.fm⟩, p1⟩, ?_⟩
  rintro i n σ' H' ⟨rfl, hle, G2, m2, s2, r2, a2, p2⟩
  obtain ⟨hgo, hstop, hy⟩ := io G2 m2 s2 H' a2.wd a2.lat (fun z => nomatch z)
  by_cases hlt : i < xs.length
  · refine .inr ⟨hgo i hlt, fun σ' H' => ∃ G m s r, Now (sy X T) G₀ m₀ H₀ G1 m1 G m s H' r σ' ∧ PostS (sy X T) G₀ m₀ H₀ G1 m1 (forGo (fun x r1 => bnd (opt (bindT t x r1)) fun r2 => db r2) (xs.drop (i + 1)) r s) D W, fun σ' H' q => ⟨xs.length - (i + 1), by omega, rfl, hlt, q⟩, fun v H3 yl => ?_⟩
    obtain ⟨G3, e3, wd3, rv⟩ := hy i xs[i] v H3 (List.getElem?_eq_getElem hlt) yl
    have a3 : Now (sy X T) G₀ m₀ H₀ G1 m1 G3 m2 s2 H3 r2 σ' := a2.go e3 wd3
    rw [List.drop_eq_getElem_cons hlt] at p2
    have p2 : PostS (sy X T) G₀ m₀ H₀ G1 m1 (bnd (bnd (opt (bindT t xs[i] r2)) fun r3 => db r3) (stepFl fun r' => forGo (fun x r1 => bnd (opt (bindT t x r1)) fun r2 => db r2) (xs.drop (i + 1)) r') s2) D W := p2
    cases q : bindT t xs[i] r2 with
    | none => rw [q] at p2; exact p2.elim
    | some r3 =>
      rw [q] at p2
      have p2 : PostS (sy X T) G₀ m₀ H₀ G1 m1 (bnd (db r3) (stepFl fun r' => forGo (fun x r1 => bnd (opt (bindT t x r1)) fun r2 => db r2) (xs.drop (i + 1)) r') s2) D W := p2
      refine ⟨G3, m2, s2, H₀, r2, xs[i], r3, a3.at, .rep rv, fun _ _ => rv, q, fun σ4 a4 _ => ?_⟩
      exact ⟨G₀, m₀, H₀, G1, m1, G3, m2, s2, r3, ⟨a3.ext, a3.lat, a3.wd, a4 H3 a3.fm⟩, PostS.turn p2 fun r' s' G' m' H' σ' a' p' => ⟨G', m', s', r', a', p'⟩⟩
  · have e : i = xs.length := by omega
    subst e
    rw [List.drop_length] at p2
    exact .inl ⟨hstop, p2.nx a2⟩
end
end RP

/-! Fw13: comprehensions. Own work. -/
namespace RP
open PySem PySem.Spec PyProof.Rows L2

theorem lcGo_acc {α : Type} (f : PV → M (List PV)) (k : List PV → M α) (pre : List PV) : ∀ (xs acc : List PV), bnd (lcGo f xs acc) (fun ys => k (pre ++ ys)) = bnd (lcGo f xs (pre ++ acc)) k
  | [], acc => rfl
  | x :: xs, acc => by
    have ih := fun ys => lcGo_acc f k pre xs (acc ++ ys)
    show bnd (bnd (f x) fun ys => lcGo f xs (acc ++ ys)) _ = bnd (bnd (f x) fun ys => lcGo f xs (pre ++ acc ++ ys)) k
    rw [bnd_assoc, bnd_assoc]
    congr 1
    funext ys
    rw [ih ys, List.append_assoc]
theorem lcGo_pre (f : PV → M (List PV)) : ∀ (xs acc : List PV) (s : AS) (ys : List PV) (s' : AS), lcGo f xs acc s = .ok ys s' → ∃ zs, ys = acc ++ zs
  | [], acc, s, ys, s', h => by cases h; exact ⟨[], by simp⟩
  | x :: xs, acc, s, ys, s', h => by
    have h : bnd (f x) (fun ys => lcGo f xs (acc ++ ys)) s = .ok ys s' := h
    unfold bnd at h
    cases q : f x s with
    | ok a s1 =>
      rw [q] at h
      obtain ⟨zs, e⟩ := lcGo_pre f xs (acc ++ a) s1 ys s' h
      exact ⟨a ++ zs, by rw [e, List.append_assoc]⟩
    | exc e s1 => rw [q] at h; cases h
    | stuck => rw [q] at h; cases h
theorem noExc_stuck {α : Type} {x : M α} {s : AS} (h : ∀ a s', x s ≠ .ok a s') : noExc x s = .stuck := by
  unfold noExc
  cases q : x s with
  | ok a s' => exact (h a s' q).elim
  | exc e s' => rfl
  | stuck => rfl
section
variable {S : Sy} {G G₀ H H₀ Gb Hb : Hp} {m m₀ mb : List Addr} {s : AS} {W : XK}
/-- a step within what may not raise -/
theorem Post.nx {α β γ δ : Type} {R : RT α β} {R' : RT γ δ} {x : M γ} {f : γ → M α} {Q : β → Hp → Prop} {W' : XK} (h : Post S R Gb mb Hb (noExc (bnd x f) s) Q W) {Q' : δ → Hp → Prop}
    (k : ∀ a s1 G1 m1 H1 v, Ext m m1 G G1 H H1 → Wd S G1 m1 s1 H1 → R' H G1 m1 H1 a v → Post S R Gb mb Hb (noExc (f a) s1) Q W → Q' v H1) : Post S R' G m H (x s) Q' W' := by
  cases q : x s with
  | ok a s1 =>
    have e : noExc (bnd x f) s = noExc (f a) s1 := by unfold noExc bnd; rw [q]; rfl
    rw [e] at h
    exact fun G1 m1 H1 v e1 wd r => k a s1 G1 m1 H1 v e1 wd r h
  | exc y s1 =>
    have e : noExc (bnd x f) s = .stuck := by unfold noExc bnd; rw [q]; rfl
    rw [e] at h
    exact h.elim
  | stuck =>
    have e : noExc (bnd x f) s = .stuck := by unfold noExc bnd; rw [q]; rfl
    rw [e] at h
    exact h.elim
theorem Post.acc_le {R : RT PV V} {f : PV → M (List PV)} {xs acc : List PV} {Q : VK} (h : Post S R Gb mb Hb (noExc (bnd (lcGo f xs acc) finL) s) Q W) : acc.length ≤ LIM := by
  by_cases c : acc.length ≤ LIM
  · exact c
  · have : noExc (bnd (lcGo f xs acc) finL) s = .stuck := noExc_stuck fun a s' e => by
      unfold bnd at e
      cases q : lcGo f xs acc s with
      | ok ys s1 =>
        rw [q] at e
        obtain ⟨zs, rfl⟩ := lcGo_pre f xs acc s ys s1 q
        have e : finL (acc ++ zs) s1 = .ok a s' := e
        unfold finL at e
        rw [if_neg (by rw [List.length_append]; omega)] at e
        cases e
      | exc y s1 => rw [q] at e; cases e
      | stuck => rw [q] at e; cases e
    rw [this] at h
    exact h.elim
/-- the new object of a comprehension is written -/
theorem write_new {a : Addr} {o : HO} (e : Ext m₀ m G₀ G H₀ H) (wd : Wd S G m s H) (hd : H a ≠ none) (hm : a ∉ m) (hg : G a = none) (h0 : H₀ a = none) (hT : ∀ ps, H a ≠ some (.tbl ps)) (hc : ∀ q, H a ≠ some (LamX.CodeO a q)) :
    Ext m₀ m G₀ G H₀ (upd H a o) ∧ Wd S G m s (upd H a o) := by
  have kp : ∀ b u, b ≠ a → H b = some u → upd H a o b = some u := fun b u hb h => by rw [upd_ne hb]; exact h
  refine ⟨⟨e.le, e.pre, e.newm, e.newG, fun b u h h1 h2 => ?_, fun b h => ?_⟩, ⟨fun b u h => ⟨kp b u (fun z => by rw [z, hg] at h; cases h) (wd.le b u h).1, (wd.le b u h).2⟩, wd.len, wd.nd, fun n b u h1 h2 => ?_, fun p hp => ?_⟩⟩
  · exact kp b u (fun z => by rw [z, h0] at h; cases h) (e.keep b u h h1 h2)
  · by_cases hb : b = a
    · subst hb; rw [upd_same] at h; cases h
    · rw [upd_ne hb] at h; exact e.dom b h
  · have hb : b ≠ a := fun z => hm (z ▸ List.mem_of_getElem? h1)
    cases wd.obj n b u h1 h2 with
    | lst h r => exact .lst (kp _ _ hb h) r
    | ins hc h r => exact .ins hc (kp _ _ hb h) r
  · obtain ⟨ps, h1, h2, h3⟩ := wd.tab p hp
    refine ⟨ps, kp _ _ (fun z => hT ps (by rw [← z]; exact h1)) h1, h2, fun pos cv hcv => ?_⟩
    obtain ⟨c, e1, e2⟩ := h3 pos cv hcv
    exact ⟨c, e1, kp _ _ (fun z => hc _ (by rw [← z]; exact e2)) e2⟩
theorem wipe_sub {σ : L2.St} {vs : List Nat} : ∀ us : List Nat, (∀ i, i ∈ us → i ∈ vs) → L2.wipe (L2.wipe σ us) vs = L2.wipe σ vs
  | [], _ => rfl
  | u :: us, h => by
    show L2.wipe ((L2.wipe σ us).set u none) vs = _
    rw [wipe_set (h u List.mem_cons_self)]
    exact wipe_sub us fun i hi => h i (List.mem_cons_of_mem _ hi)
theorem wipe_wipe (σ : L2.St) (vs : List Nat) : L2.wipe (L2.wipe σ vs) vs = L2.wipe σ vs := wipe_sub vs fun _ h => h
theorem FmOk.wipe {r : Fm} {σ : L2.St} (f : FmOk S G m H₀ H r σ) : ∀ vs : List Nat, FmOk S G m H₀ H (Fm.wipe r vs) (L2.wipe σ vs)
  | [] => f
  | v :: vs => (FmOk.wipe f vs).putNo v
end
/-! ### [e for t in it if c] -/
section
variable {X : Cx} {T : List (Addr × Str)} {W : XK}
/-- a clause's tests -/
theorem pts_of {Y : Cx} {ifs : List Expr} {dc : Fm → M PV} (h : (ifs = [] ∧ dc = fun _ => ret (.bl true)) ∨ ∃ c, ifs = [c] ∧ PT Y c (tDT (sy Y T) W dc)) : PTs Y ifs (tDT (sy Y T) W dc) := by
  rcases h with ⟨rfl, rfl⟩ | ⟨c, rfl, h⟩
  · refine ⟨fun pins s σ H Q I h => pts_nil.run pins s σ H Q I ?_⟩
    obtain ⟨G, m, s, H₀, r, a, p⟩ := h
    exact Post.ret (v := true) a.1 rfl p
  · exact pts_one h
def lcF (t : Tg) (vs : List Nat) (dc de : Fm → M PV) (r : Fm) : PV → M (List PV) := fun x => bnd (opt (bindT t x (r.wipe vs))) fun r2 => tst (dc r2) fun k => if k then bnd (de r2) fun y => ret [y] else ret []
def lcD (di : Fm → M (List PV)) (t : Tg) (vs : List Nat) (dc de : Fm → M PV) : Fm → M PV := fun r => bnd (di r) fun xs => noExc (bnd (lcGo (lcF t vs dc de r) xs []) finL)
theorem lc_red {S : Sy} {t : Tg} {vs : List Nat} {di : Fm → M (List PV)} {dc de : Fm → M PV} {σ : L2.St} {H : Hp} {Q : VK} (ht : ∀ i, i ∈ t.is → i ∈ vs) (h : tD S .F W (lcD di t vs dc de) σ H Q) :
    tLc (tDI S true W di) (gTg S t) (tDT S W0 dc) (tD S .E W0 de) vs σ H Q := by
  obtain ⟨G, m, s, H₀, r, a, p⟩ := h
  refine ⟨G, m, s, H₀, r, a, p.step (good_M _ _) fun xs s1 G1 m1 H1 J e1 wd1 io p1 => ?_⟩
  intro D hD
  have io : IterOk S true G1 m1 H1 xs J := io
  have p1 : Post S (RepM S .F) G1 m1 H1 (noExc (bnd (lcGo (lcF t vs dc de r) xs []) finL) s1) Q W := p1
  refine ⟨fun i n H => n = xs.length - i ∧ i ≤ xs.length ∧ ∃ G m s acc us, Ext m1 m G1 G H1 H ∧ Wd S G m s H ∧ H D = some (.lst us) ∧ D ∉ m ∧ G D = none ∧ Reps S G m acc us ∧
    Post S (RepM S .F) G1 m1 H1 (noExc (bnd (lcGo (lcF t vs dc de r) (xs.drop i) acc) finL) s) Q W,
    ⟨xs.length, rfl, Nat.zero_le _, G1, m1, s1, [], [], wd1.newExt hD, wd1.new hD, upd_same, wd1.mnone hD, wd1.Gnone hD, .nil, p1⟩, ?_⟩
  rintro i n H' ⟨rfl, hle, G2, m2, s2, acc, us, e2, wd2, hl, hm, hg, racc, p2⟩
  obtain ⟨hgo, hstop, hy⟩ := io G2 m2 s2 H' wd2 e2.lat fun _ => e2
  by_cases hlt : i < xs.length
  · refine .inr ⟨hgo i hlt, fun H' => ∃ G m s acc us, Ext m1 m G1 G H1 H' ∧ Wd S G m s H' ∧ H' D = some (.lst us) ∧ D ∉ m ∧ G D = none ∧ Reps S G m acc us ∧
      Post S (RepM S .F) G1 m1 H1 (noExc (bnd (lcGo (lcF t vs dc de r) (xs.drop (i + 1)) acc) finL) s) Q W, fun H' q => ⟨xs.length - (i + 1), by omega, rfl, hlt, q⟩, fun v H3 yl => ?_⟩
    obtain ⟨G3, e3, wd3, rv⟩ := hy i xs[i] v H3 (List.getElem?_eq_getElem hlt) yl
    rw [List.drop_eq_getElem_cons hlt] at p2
    have p2 : Post S (RepM S .F) G1 m1 H1 (noExc (bnd (bnd (bnd (opt (bindT t xs[i] (r.wipe vs))) fun r2 => tst (dc r2) fun k => if k then bnd (de r2) fun y => ret [y] else ret []) fun ys => lcGo (lcF t vs dc de r) (xs.drop (i + 1)) (acc ++ ys)) finL) s2) Q W := p2
    cases q : bindT t xs[i] (r.wipe vs) with
    | none => rw [q] at p2; exact p2.elim
    | some r3 =>
      rw [q] at p2
      have p2 : Post S (RepM S .F) G1 m1 H1 (noExc (bnd (bnd (tst (dc r3) fun k => if k then bnd (de r3) fun y => ret [y] else ret []) fun ys => lcGo (lcF t vs dc de r) (xs.drop (i + 1)) (acc ++ ys)) finL) s2) Q W := p2
      rw [bnd_assoc] at p2
      have e13 := e2.trans e3
      have fm3 : FmOk S G3 m2 H₀ H3 (r.wipe vs) (L2.wipe σ vs) := FmOk.wipe ((a.2.ext e1).ext e13) vs
      refine ⟨G3, m2, s2, H₀, r.wipe vs, xs[i], r3, ⟨wd3, fm3⟩, .rep rv, fun _ _ => rv, q, fun σ4 a4 hw => ⟨(hw vs ht).trans (wipe_wipe σ vs), ?_⟩⟩
      have hl3 := e3.keep _ _ hl hm ntbl_lst
      have hm3 := e3.notm hl hm
      have hg3 := e3.notG hl hg
      refine ⟨G3, m2, s2, H₀, r3, ⟨wd3, a4 H3 fm3⟩, ?_⟩
      unfold tst at p2
      rw [bnd_assoc] at p2
      refine Post.nx p2 fun k s5 G5 m5 H5 b e5 wd5 rb p5 => ?_
      have rb : k = b := rb
      subst rb
      have hl5 := e5.keep _ _ hl3 hm3 ntbl_lst
      have hm5 := e5.notm hl3 hm3
      have hg5 := e5.notG hl3 hg3
      have e15 := e13.trans e5
      have racc5 := (racc.ext e3).ext e5
      cases k with
      | false =>
        have p5 : Post S (RepM S .F) G1 m1 H1 (noExc (bnd (lcGo (lcF t vs dc de r) (xs.drop (i + 1)) (acc ++ [])) finL) s5) Q W := p5
        rw [List.append_nil] at p5
        exact ⟨G5, m5, s5, acc, us, e15, wd5, hl5, hm5, hg5, racc5, p5⟩
      | true =>
        have p5 : Post S (RepM S .F) G1 m1 H1 (noExc (bnd (bnd (de r3) fun y => ret [y]) fun ys => bnd (lcGo (lcF t vs dc de r) (xs.drop (i + 1)) (acc ++ ys)) finL) s5) Q W := p5
        rw [bnd_assoc] at p5
        rw [if_pos rfl]
        refine ⟨G5, m5, s5, H₀, r3, ⟨wd5, (a4 H3 fm3).ext e5⟩, Post.nx p5 fun y s6 G6 m6 H6 w e6 wd6 ry p6 => ?_⟩
        have ry : Rep S G6 m6 y w := ry
        have p6 : Post S (RepM S .F) G1 m1 H1 (noExc (bnd (lcGo (lcF t vs dc de r) (xs.drop (i + 1)) (acc ++ [y])) finL) s6) Q W := p6
        have hl6 := e6.keep _ _ hl5 hm5 ntbl_lst
        have hm6 := e6.notm hl5 hm5
        have hg6 := e6.notG hl5 hg5
        have racc6 := racc5.ext e6
        have hle6 := p6.acc_le
        obtain ⟨k1, k2⟩ := write_new (o := .lst (us ++ [w])) (e15.trans e6) wd6 (by rw [hl6]; exact fun z => nomatch z) hm6 hg6 hD (by rw [hl6]; exact fun _ z => nomatch z) (by rw [hl6]; exact fun _ z => nomatch z)
        refine ⟨us, hl6, ?_, G6, m6, s6, acc ++ [y], us ++ [w], k1, k2, upd_same, hm6, hg6, racc6.append (.cons ry .nil), p6⟩
        have := LIM_le
        rw [← racc.length]
        rw [List.length_append] at hle6
        simp at hle6
        omega
  · have e : i = xs.length := by omega
    subst e
    rw [List.drop_length] at p2
    have p2 : Post S (RepM S .F) G1 m1 H1 (noExc (finL acc) s2) Q W := p2
    refine .inl ⟨hstop, ?_⟩
    unfold finL at p2
    by_cases c : acc.length ≤ LIM
    · rw [if_pos c] at p2
      exact p2 G2 m2 H' (.ref D) e2 wd2 (.lst hl hm hg hD racc)
    · rw [if_neg c] at p2
      exact p2.elim
/-- a clause in the block's context -/
structure ClOk (X : Cx) (T : List (Addr × Str)) (scope : Scope) (tg : Expr) (t : Tg) (ifs : List Expr) (dc : Fm → M PV) : Prop where
  tg : ∀ (s : Shared) (H : Hp) (C : Addr) (cl : List (Str × Addr)) (fp : List Addr), TgOk (X.blk s H scope (compEnvC scope cl C X.env) fp) tg t
  ifs : ∀ (s : Shared) (H : Hp) (C : Addr) (cl : List (Str × Addr)) (fp : List Addr), (ifs = [] ∧ dc = fun _ => ret (.bl true)) ∨ ∃ c, ifs = [c] ∧ PT (X.blk s H scope (compEnvC scope cl C X.env) fp) c (tDT (sy X T) W0 dc)
section
variable {elt tg iter : Expr} {ifs : List Expr} {scope : Scope} {own : List (Str × Nat)} {pos spos py : Pos} {t : Tg} {di : Fm → M (List PV)} {dc de : Fm → M PV} {i : Nat} {y : Str}
theorem de_lc (hc : X.calm = true) (hN : X.N.Nodup) (hi : PI X tg iter (tDI (sy X T) true W di)) (ok : BlkOk X.N X.env.scope scope own) (cl : ClOk X T scope tg t ifs dc) (ht : ∀ i, i ∈ t.is → i ∈ own.map (·.2))
    (he : ∀ (s : Shared) (H : Hp) (C : Addr) (cl : List (Str × Addr)) (fp : List Addr), PE (X.blk s H scope (compEnvC scope cl C X.env) fp) elt (tD (sy X T) .E W0 de)) (hs : ∀ x, foldedSetIterable iter X.env x = pure x) :
    PE X (.ListComp elt [⟨tg, iter, ifs, 0⟩] scope pos) (tD (sy X T) .F W (lcD di t (own.map (·.2)) dc de)) :=
  (pe_lc (g := gTg (sy X T) t) (tt := tDT (sy X T) W0 dc) hc hN hi ok (fun s H C c fp => tg_ok (X := X.blk s H scope (compEnvC scope c C X.env) fp) (T := T) hN hc (cl.tg s H C c fp)) (fun s H C c fp => pts_of (T := T) (Y := X.blk s H scope (compEnvC scope c C X.env) fp) (cl.ifs s H C c fp)) he hs).imp fun σ H Q h => lc_red ht h
theorem ds_setLc (hc : X.calm = true) (hN : X.N.Nodup) (hy : X.N[i]? = some y) (hyl : X.env.scope.names.lookup y = some .local) (hsw : swapsWith (.ListComp elt [⟨tg, iter, ifs, 0⟩] scope pos) (some (.Name y py)) spos.line X.env = pure true)
    (hi : PI X tg iter (tDI (sy X T) true W di)) (ok : BlkOk X.N X.env.scope scope own) (cl : ClOk X T scope tg t ifs dc) (ht : ∀ i, i ∈ t.is → i ∈ own.map (·.2))
    (he : ∀ (s : Shared) (H : Hp) (C : Addr) (cl : List (Str × Addr)) (fp : List Addr), PE (X.blk s H scope (compEnvC scope cl C X.env) fp) elt (tD (sy X T) .E W0 de)) (hs : ∀ x, foldedSetIterable iter X.env x = pure x) :
    PS X (.Assign [.Name y py] (.ListComp elt [⟨tg, iter, ifs, 0⟩] scope pos) spos) (tS (sy X T) W fun r => bnd (lcD di t (own.map (·.2)) dc de r) fun v => ret (.nx (r.set i (ofV v)))) := by
  refine (ps_setLc (g := gTg (sy X T) t) (tt := tDT (sy X T) W0 dc) hc hN hy hyl hsw hi ok (fun s H C c fp => tg_ok (X := X.blk s H scope (compEnvC scope c C X.env) fp) (T := T) hN hc (cl.tg s H C c fp)) (fun s H C c fp => pts_of (T := T) (Y := X.blk s H scope (compEnvC scope c C X.env) fp) (cl.ifs s H C c fp)) he hs).imp fun D σ H ⟨G₀, m₀, H₀, Gb, mb, G, m, s, r, a, p⟩ => ?_
  refine lc_red ht ⟨G, m, s, H₀, r, a.at, PostS.step a p fun x s1 G1 m1 H1 v e1 a1 rx p1 => ?_⟩
  exact p1 G1 m1 H1 _ a1.ext a1.lat ⟨a1.wd, a.fm.putF e1 a.ext.dom i rx⟩
end

/-! ### [e for t in it if c for t2 in it2 if c2] -/
/-- what asks that the list be not too long -/
def Long (K : List PV → M PV) : Prop := ∀ ys s a s', K ys s = .ok a s' → ys.length ≤ LIM
theorem long_fin : Long finL := fun ys s a s' h => by
  unfold finL at h
  by_cases c : ys.length ≤ LIM
  · exact c
  · rw [if_neg c] at h; cases h
theorem long_lc {K : List PV → M PV} (f : PV → M (List PV)) (xs : List PV) (hK : Long K) : Long fun ys => bnd (lcGo f xs ys) K := fun ys s a s' h => by
  have h : bnd (lcGo f xs ys) K s = .ok a s' := h
  unfold bnd at h
  cases q : lcGo f xs ys s with
  | ok zs s1 =>
    rw [q] at h
    obtain ⟨us, rfl⟩ := lcGo_pre f xs ys s zs s1 q
    have := hK _ _ _ _ h
    rw [List.length_append] at this
    omega
  | exc x s1 => rw [q] at h; cases h
  | stuck => rw [q] at h; cases h
theorem Post.long {S : Sy} {Gb Hb : Hp} {mb : List Addr} {s : AS} {R : RT PV V} {K : List PV → M PV} {ys : List PV} {Q : VK} (h : Post S R Gb mb Hb (noExc (K ys) s) Q W) (hK : Long K) : ys.length ≤ LIM := by
  by_cases c : ys.length ≤ LIM
  · exact c
  · have : noExc (K ys) s = .stuck := noExc_stuck fun a s' e => c (hK _ _ _ _ e)
    rw [this] at h
    exact h.elim
def lcF2 (t : Tg) (vs : List Nat) (dc : Fm → M PV) (di2 : Fm → M (List PV)) (t2 : Tg) (vs2 : List Nat) (dc2 de : Fm → M PV) (r : Fm) : PV → M (List PV) := fun x => bnd (opt (bindT t x (r.wipe vs))) fun r2 => tst (dc r2) fun k => if k then bnd (di2 r2) fun zs => lcGo (lcF t2 vs2 dc2 de r2) zs [] else ret []
def lcD2 (di : Fm → M (List PV)) (t : Tg) (vs : List Nat) (dc : Fm → M PV) (di2 : Fm → M (List PV)) (t2 : Tg) (vs2 : List Nat) (dc2 de : Fm → M PV) : Fm → M PV := fun r => bnd (di r) fun xs => noExc (bnd (lcGo (lcF2 t vs dc di2 t2 vs2 dc2 de r) xs []) finL)
/-- the heap without what stands at D -/
def hide (H : Hp) (D : Addr) : Hp := fun a => if a = D then none else H a
theorem hide_ne {H : Hp} {a D : Addr} (h : a ≠ D) : hide H D a = H a := if_neg h
theorem hide_at {H : Hp} {D : Addr} : hide H D D = none := if_pos rfl
theorem hide_some {H : Hp} {a D : Addr} {o : HO} (h : hide H D a = some o) : a ≠ D ∧ H a = some o := by
  by_cases c : a = D
  · subst c; rw [hide_at] at h; cases h
  · rw [hide_ne c] at h; exact ⟨c, h⟩
theorem hide_none {H : Hp} {a D : Addr} (h : hide H D a = none) : a = D ∨ H a = none := by
  by_cases c : a = D
  · exact .inl c
  · rw [hide_ne c] at h; exact .inr h
theorem none_hide {H : Hp} {a D : Addr} (h : H a = none) : hide H D a = none := by
  unfold hide
  split <;> first | rfl | exact h
theorem hide_upd {H : Hp} {D : Addr} {o : HO} : hide (upd H D o) D = hide H D := by
  funext a
  unfold hide
  by_cases c : a = D
  · rw [if_pos c, if_pos c]
  · rw [if_neg c, if_neg c, upd_ne c]
theorem Ext.hide0 {G G' H H' : Hp} {m m' : List Addr} {D : Addr} (e : Ext m m' G G' H H') (hD : H D = none) : Ext m m' G G' H (hide H' D) :=
  ⟨e.le, e.pre, e.newm, e.newG, fun a o h h1 h2 => by rw [hide_ne (fun z => by rw [z, hD] at h; cases h)]; exact e.keep a o h h1 h2, fun a h => by
    rcases hide_none h with z | z
    · rw [z]; exact hD
    · exact e.dom a z⟩
theorem Ext.hide {G G' H H' : Hp} {m m' : List Addr} {D : Addr} (e : Ext m m' G G' H H') : Ext m m' G G' (hide H D) (hide H' D) :=
  ⟨e.le, e.pre, fun a h => (e.newm a h).imp id none_hide, fun a o h => (e.newG a o h).imp id none_hide, fun a o h h1 h2 => by
    obtain ⟨hn, h⟩ := hide_some h
    rw [hide_ne hn]; exact e.keep a o h h1 h2, fun a h => by
    rcases hide_none h with z | z
    · rw [z]; exact hide_at
    · exact none_hide (e.dom a z)⟩
theorem FmOk.unhide {S : Sy} {G H H₀ : Hp} {m : List Addr} {D : Addr} {r : Fm} {σ : L2.St} (f : FmOk S G m H₀ (RP.hide H D) r σ) : FmOk S G m H₀ H r σ := by
  obtain ⟨oa, f⟩ := f.at
  refine (show FmAt S G m H₀ H r σ oa from ⟨f.len, fun i => ?_, f.inj⟩).fm
  have O := f.ok i
  cases q : Fm.get r i with
  | no => trivial
  | sh y => rw [q] at O; exact O
  | ow xs =>
    rw [q] at O
    obtain ⟨h1, ⟨vs, h2, h3⟩, h4⟩ := O
    exact ⟨h1, ⟨vs, (hide_some h2).2, h3⟩, h4⟩
  | od xs =>
    rw [q] at O
    obtain ⟨h1, ⟨vs, h2, h3⟩, h4⟩ := O
    exact ⟨h1, ⟨vs, (hide_some h2).2, h3⟩, h4⟩
/-- a clause's loop from a moment (G1, m1, H1), the list at D filled by what f gives; K: the rest -/
theorem lc_inner {S : Sy} {t : Tg} {vs : List Nat} {dc de : Fm → M PV} {r : Fm} {σ : L2.St} {Q : VK} {Gb Hb G1 H1 H₀ : Hp} {mb m1 : List Addr} {s1 : AS} {xs acc : List PV} {ws : List V} {J : L2.It} {K : List PV → M PV} {D : Addr} {Nx : Hp → Prop} (ht : ∀ i, i ∈ t.is → i ∈ vs) (hK : Long K)
    (eb : Ext mb m1 Gb G1 Hb H1) (wd1 : Wd S G1 m1 s1 H1) (fm1 : FmOk S G1 m1 H₀ (hide H1 D) r σ) (io : IterOk S false G1 m1 H1 xs J) (hD : Hb D = none) (hl : H1 D = some (.lst ws)) (hm : D ∉ m1) (hg : G1 D = none) (racc : Reps S G1 m1 acc ws)
    (p : Post S (RepM S .F) Gb mb Hb (noExc (bnd (lcGo (lcF t vs dc de r) xs acc) K) s1) Q W)
    (hx : ∀ G m s H acc ws, Ext mb m Gb G Hb H → Lat m1 m G1 G → Wd S G m s H → H D = some (.lst ws) → D ∉ m → G D = none → Reps S G m acc ws → Post S (RepM S .F) Gb mb Hb (noExc (K acc) s) Q W → Nx H) :
    ∃ W1 : Nat → Nat → Hp → Prop, (∃ n, W1 0 n H1) ∧ ∀ i n H, W1 i n H → (J.stop i H ∧ Nx H) ∨ (J.go i H ∧ ∃ Nx1 : Hp → Prop, (∀ H', Nx1 H' → ∃ n', n' < n ∧ W1 (i + 1) n' H') ∧ ∀ x H', J.yld i H x H' → gTg S t x (L2.wipe σ vs) H' fun σ2 H2 => L2.wipe σ2 vs = L2.wipe σ vs ∧ tDT S W0 dc σ2 H2 fun b H3 =>
      if b = true then tD S .E W0 de σ2 H3 fun y H4 => ∃ acc, H4 D = some (.lst acc) ∧ acc.length < sizeLine ∧ Nx1 (upd H4 D (.lst (acc ++ [y]))) else Nx1 H3) := by
  refine ⟨fun i n H => n = xs.length - i ∧ i ≤ xs.length ∧ ∃ G m s acc us, Ext mb m Gb G Hb H ∧ Lat m1 m G1 G ∧ FmOk S G m H₀ (hide H D) r σ ∧ Wd S G m s H ∧ H D = some (.lst us) ∧ D ∉ m ∧ G D = none ∧ Reps S G m acc us ∧
    Post S (RepM S .F) Gb mb Hb (noExc (bnd (lcGo (lcF t vs dc de r) (xs.drop i) acc) K) s) Q W, ⟨xs.length, rfl, Nat.zero_le _, G1, m1, s1, acc, ws, eb, ⟨fun _ _ h => h, [], by simp⟩, fm1, wd1, hl, hm, hg, racc, p⟩, ?_⟩
  rintro i n H' ⟨rfl, hle, G2, m2, s2, acc, us, e2, l2, fm2, wd2, hl, hm, hg, racc, p2⟩
  obtain ⟨hgo, hstop, hy⟩ := io G2 m2 s2 H' wd2 l2 fun z => nomatch z
  by_cases hlt : i < xs.length
  · refine .inr ⟨hgo i hlt, fun H' => ∃ G m s acc us, Ext mb m Gb G Hb H' ∧ Lat m1 m G1 G ∧ FmOk S G m H₀ (hide H' D) r σ ∧ Wd S G m s H' ∧ H' D = some (.lst us) ∧ D ∉ m ∧ G D = none ∧ Reps S G m acc us ∧
      Post S (RepM S .F) Gb mb Hb (noExc (bnd (lcGo (lcF t vs dc de r) (xs.drop (i + 1)) acc) K) s) Q W, fun H' q => ⟨xs.length - (i + 1), by omega, rfl, hlt, q⟩, fun v H3 yl => ?_⟩
    obtain ⟨G3, e3, wd3, rv⟩ := hy i xs[i] v H3 (List.getElem?_eq_getElem hlt) yl
    rw [List.drop_eq_getElem_cons hlt] at p2
    have p2 : Post S (RepM S .F) Gb mb Hb (noExc (bnd (bnd (bnd (opt (bindT t xs[i] (r.wipe vs))) fun r2 => tst (dc r2) fun k => if k then bnd (de r2) fun y => ret [y] else ret []) fun ys => lcGo (lcF t vs dc de r) (xs.drop (i + 1)) (acc ++ ys)) K) s2) Q W := p2
    cases q : bindT t xs[i] (r.wipe vs) with
    | none => rw [q] at p2; exact p2.elim
    | some r3 =>
      rw [q] at p2
      have p2 : Post S (RepM S .F) Gb mb Hb (noExc (bnd (bnd (tst (dc r3) fun k => if k then bnd (de r3) fun y => ret [y] else ret []) fun ys => lcGo (lcF t vs dc de r) (xs.drop (i + 1)) (acc ++ ys)) K) s2) Q W := p2
      rw [bnd_assoc] at p2
      have fmh := fm2.ext e3.hide
      have fm3 : FmOk S G3 m2 H₀ (hide H3 D) (r.wipe vs) (L2.wipe σ vs) := FmOk.wipe fmh vs
      refine ⟨G3, m2, s2, H₀, r.wipe vs, xs[i], r3, ⟨wd3, fm3.unhide⟩, .rep rv, fun _ _ => rv, q, fun σ4 a4 hw => ⟨(hw vs ht).trans (wipe_wipe σ vs), ?_⟩⟩
      have hl3 := e3.keep _ _ hl hm ntbl_lst
      have hm3 := e3.notm hl hm
      have hg3 := e3.notG hl hg
      have fm4 := a4 _ fm3
      refine ⟨G3, m2, s2, H₀, r3, ⟨wd3, fm4.unhide⟩, ?_⟩
      unfold tst at p2
      rw [bnd_assoc] at p2
      refine Post.nx p2 fun k s5 G5 m5 H5 b e5 wd5 rb p5 => ?_
      have rb : k = b := rb
      subst rb
      have hl5 := e5.keep _ _ hl3 hm3 ntbl_lst
      have hm5 := e5.notm hl3 hm3
      have hg5 := e5.notG hl3 hg3
      have e15 := (e2.trans e3).trans e5
      have l5 := (l2.trans e3.lat).trans e5.lat
      have racc5 := (racc.ext e3).ext e5
      have fmh5 := fmh.ext e5.hide
      cases k with
      | false =>
        have p5 : Post S (RepM S .F) Gb mb Hb (noExc (bnd (lcGo (lcF t vs dc de r) (xs.drop (i + 1)) (acc ++ [])) K) s5) Q W := p5
        rw [List.append_nil] at p5
        exact ⟨G5, m5, s5, acc, us, e15, l5, fmh5, wd5, hl5, hm5, hg5, racc5, p5⟩
      | true =>
        have p5 : Post S (RepM S .F) Gb mb Hb (noExc (bnd (bnd (de r3) fun y => ret [y]) fun ys => bnd (lcGo (lcF t vs dc de r) (xs.drop (i + 1)) (acc ++ ys)) K) s5) Q W := p5
        rw [bnd_assoc] at p5
        rw [if_pos rfl]
        refine ⟨G5, m5, s5, H₀, r3, ⟨wd5, (fm4.ext e5.hide).unhide⟩, Post.nx p5 fun y s6 G6 m6 H6 w e6 wd6 ry p6 => ?_⟩
        have ry : Rep S G6 m6 y w := ry
        have p6 : Post S (RepM S .F) Gb mb Hb (noExc ((fun ys => bnd (lcGo (lcF t vs dc de r) (xs.drop (i + 1)) ys) K) (acc ++ [y])) s6) Q W := p6
        have hl6 := e6.keep _ _ hl5 hm5 ntbl_lst
        have hm6 := e6.notm hl5 hm5
        have hg6 := e6.notG hl5 hg5
        have racc6 := racc5.ext e6
        have hle6 := p6.long (long_lc _ _ hK)
        obtain ⟨k1, k2⟩ := write_new (o := .lst (us ++ [w])) (e15.trans e6) wd6 (by rw [hl6]; exact fun z => nomatch z) hm6 hg6 hD (by rw [hl6]; exact fun _ z => nomatch z) (by rw [hl6]; exact fun _ z => nomatch z)
        refine ⟨us, hl6, ?_, G6, m6, s6, acc ++ [y], us ++ [w], k1, l5.trans e6.lat, by rw [hide_upd]; exact fmh5.ext e6.hide, k2, upd_same, hm6, hg6, racc6.append (.cons ry .nil), p6⟩
        have := LIM_le
        rw [← racc.length]
        rw [List.length_append] at hle6
        simp at hle6
        omega
  · have e : i = xs.length := by omega
    subst e
    rw [List.drop_length] at p2
    exact .inl ⟨hstop, hx G2 m2 s2 H' acc us e2 l2 wd2 hl hm hg racc p2⟩
theorem lc_red2 {S : Sy} {t t2 : Tg} {vs vs2 : List Nat} {di di2 : Fm → M (List PV)} {dc dc2 de : Fm → M PV} {σ : L2.St} {H : Hp} {Q : VK} (ht : ∀ i, i ∈ t.is → i ∈ vs) (ht2 : ∀ i, i ∈ t2.is → i ∈ vs2) (h : tD S .F W (lcD2 di t vs dc di2 t2 vs2 dc2 de) σ H Q) :
    tLc2 (tDI S true W di) (gTg S t) (tDT S W0 dc) (tDI S false W0 di2) (gTg S t2) (tDT S W0 dc2) (tD S .E W0 de) vs vs2 σ H Q := by
  obtain ⟨G, m, s, H₀, r, a, p⟩ := h
  refine ⟨G, m, s, H₀, r, a, p.step (good_M _ _) fun xs s1 G1 m1 H1 J e1 wd1 io p1 => ?_⟩
  intro D hD
  have io : IterOk S true G1 m1 H1 xs J := io
  have p1 : Post S (RepM S .F) G1 m1 H1 (noExc (bnd (lcGo (lcF2 t vs dc di2 t2 vs2 dc2 de r) xs []) finL) s1) Q W := p1
  refine ⟨fun i n H => n = xs.length - i ∧ i ≤ xs.length ∧ ∃ G m s acc us, Ext m1 m G1 G H1 (hide H D) ∧ Ext m1 m G1 G H1 H ∧ Wd S G m s H ∧ H D = some (.lst us) ∧ D ∉ m ∧ G D = none ∧ Reps S G m acc us ∧
    Post S (RepM S .F) G1 m1 H1 (noExc (bnd (lcGo (lcF2 t vs dc di2 t2 vs2 dc2 de r) (xs.drop i) acc) finL) s) Q W,
    ⟨xs.length, rfl, Nat.zero_le _, G1, m1, s1, [], [], (wd1.newExt hD).hide0 hD, wd1.newExt hD, wd1.new hD, upd_same, wd1.mnone hD, wd1.Gnone hD, .nil, p1⟩, ?_⟩
  rintro i n H' ⟨rfl, hle, G2, m2, s2, acc, us, eh2, e2, wd2, hl, hm, hg, racc, p2⟩
  obtain ⟨hgo, hstop, hy⟩ := io G2 m2 s2 H' wd2 e2.lat fun _ => e2
  by_cases hlt : i < xs.length
  · refine .inr ⟨hgo i hlt, fun H' => ∃ G m s acc us, Ext m1 m G1 G H1 (hide H' D) ∧ Ext m1 m G1 G H1 H' ∧ Wd S G m s H' ∧ H' D = some (.lst us) ∧ D ∉ m ∧ G D = none ∧ Reps S G m acc us ∧
      Post S (RepM S .F) G1 m1 H1 (noExc (bnd (lcGo (lcF2 t vs dc di2 t2 vs2 dc2 de r) (xs.drop (i + 1)) acc) finL) s) Q W, fun H' q => ⟨xs.length - (i + 1), by omega, rfl, hlt, q⟩, fun v H3 yl => ?_⟩
    obtain ⟨G3, e3, wd3, rv⟩ := hy i xs[i] v H3 (List.getElem?_eq_getElem hlt) yl
    rw [List.drop_eq_getElem_cons hlt] at p2
    have p2 : Post S (RepM S .F) G1 m1 H1 (noExc (bnd (bnd (bnd (opt (bindT t xs[i] (r.wipe vs))) fun r2 => tst (dc r2) fun k => if k then bnd (di2 r2) fun zs => lcGo (lcF t2 vs2 dc2 de r2) zs [] else ret []) fun ys => lcGo (lcF2 t vs dc di2 t2 vs2 dc2 de r) (xs.drop (i + 1)) (acc ++ ys)) finL) s2) Q W := p2
    cases q : bindT t xs[i] (r.wipe vs) with
    | none => rw [q] at p2; exact p2.elim
    | some r3 =>
      rw [q] at p2
      have p2 : Post S (RepM S .F) G1 m1 H1 (noExc (bnd (bnd (tst (dc r3) fun k => if k then bnd (di2 r3) fun zs => lcGo (lcF t2 vs2 dc2 de r3) zs [] else ret []) fun ys => lcGo (lcF2 t vs dc di2 t2 vs2 dc2 de r) (xs.drop (i + 1)) (acc ++ ys)) finL) s2) Q W := p2
      rw [bnd_assoc] at p2
      have e13 := e2.trans e3
      have fm3 : FmOk S G3 m2 H₀ (hide H3 D) (r.wipe vs) (L2.wipe σ vs) := FmOk.wipe ((a.2.ext e1).ext (e13.hide0 hD)) vs
      refine ⟨G3, m2, s2, H₀, r.wipe vs, xs[i], r3, ⟨wd3, fm3.unhide⟩, .rep rv, fun _ _ => rv, q, fun σ4 a4 hw => ⟨(hw vs ht).trans (wipe_wipe σ vs), ?_⟩⟩
      have hl3 := e3.keep _ _ hl hm ntbl_lst
      have hm3 := e3.notm hl hm
      have hg3 := e3.notG hl hg
      have fm4 := a4 _ fm3
      refine ⟨G3, m2, s2, H₀, r3, ⟨wd3, fm4.unhide⟩, ?_⟩
      unfold tst at p2
      rw [bnd_assoc] at p2
      refine Post.nx p2 fun k s5 G5 m5 H5 b e5 wd5 rb p5 => ?_
      have rb : k = b := rb
      subst rb
      have hl5 := e5.keep _ _ hl3 hm3 ntbl_lst
      have hm5 := e5.notm hl3 hm3
      have hg5 := e5.notG hl3 hg3
      have e15 := e13.trans e5
      have racc5 := (racc.ext e3).ext e5
      cases k with
      | false =>
        have p5 : Post S (RepM S .F) G1 m1 H1 (noExc (bnd (lcGo (lcF2 t vs dc di2 t2 vs2 dc2 de r) (xs.drop (i + 1)) (acc ++ [])) finL) s5) Q W := p5
        rw [List.append_nil] at p5
        exact ⟨G5, m5, s5, acc, us, e15.hide0 hD, e15, wd5, hl5, hm5, hg5, racc5, p5⟩
      | true =>
        have p5 : Post S (RepM S .F) G1 m1 H1 (noExc (bnd (bnd (di2 r3) fun zs => lcGo (lcF t2 vs2 dc2 de r3) zs []) fun ys => bnd (lcGo (lcF2 t vs dc di2 t2 vs2 dc2 de r) (xs.drop (i + 1)) (acc ++ ys)) finL) s5) Q W := p5
        rw [bnd_assoc] at p5
        rw [if_pos rfl]
        refine ⟨G5, m5, s5, H₀, r3, ⟨wd5, (fm4.ext e5.hide).unhide⟩, Post.nx p5 fun zs s6 G6 m6 H6 J1 e6 wd6 io6 p6 => ?_⟩
        have io6 : IterOk S false G6 m6 H6 zs J1 := io6
        have p6 : Post S (RepM S .F) G1 m1 H1 (noExc (bnd (lcGo (lcF t2 vs2 dc2 de r3) zs []) fun ys => (fun us => bnd (lcGo (lcF2 t vs dc di2 t2 vs2 dc2 de r) (xs.drop (i + 1)) us) finL) (acc ++ ys)) s6) Q W := p6
        rw [lcGo_acc (lcF t2 vs2 dc2 de r3) (fun us => bnd (lcGo (lcF2 t vs dc di2 t2 vs2 dc2 de r) (xs.drop (i + 1)) us) finL) acc zs [], List.append_nil] at p6
        refine lc_inner ht2 (long_lc _ _ long_fin) (e15.trans e6) wd6 ((fm4.ext e5.hide).ext e6.hide) io6 hD (e6.keep _ _ hl5 hm5 ntbl_lst) (e6.notm hl5 hm5) (e6.notG hl5 hg5) (racc5.ext e6) p6 fun G7 m7 s7 H7 acc7 ws7 e7 l7 wd7 hl7 hm7 hg7 racc7 p7 => ?_
        exact ⟨G7, m7, s7, acc7, ws7, e7.hide0 hD, e7, wd7, hl7, hm7, hg7, racc7, p7⟩
  · have e : i = xs.length := by omega
    subst e
    rw [List.drop_length] at p2
    have p2 : Post S (RepM S .F) G1 m1 H1 (noExc (finL acc) s2) Q W := p2
    refine .inl ⟨hstop, ?_⟩
    unfold finL at p2
    by_cases c : acc.length ≤ LIM
    · rw [if_pos c] at p2
      exact p2 G2 m2 H' (.ref D) e2 wd2 (.lst hl hm hg hD racc)
    · rw [if_neg c] at p2
      exact p2.elim
section
variable {elt tg iter tg2 iter2 : Expr} {ifs ifs2 : List Expr} {scope : Scope} {own : List (Str × Nat)} {vs2 : List Nat} {pos spos py : Pos} {t t2 : Tg} {di di2 : Fm → M (List PV)} {dc dc2 de : Fm → M PV} {i : Nat} {y : Str}
theorem de_lc2 (hc : X.calm = true) (hN : X.N.Nodup) (hi : PI X tg iter (tDI (sy X T) true W di)) (ok : BlkOk X.N X.env.scope scope own) (hv : ∀ i ∈ vs2, i ∈ own.map (·.2)) (cl : ClOk X T scope tg t ifs dc) (cl2 : ClOk X T scope tg2 t2 ifs2 dc2) (ht : ∀ i, i ∈ t.is → i ∈ own.map (·.2)) (ht2 : ∀ i, i ∈ t2.is → i ∈ vs2)
    (hi2 : ∀ (s : Shared) (H : Hp) (C : Addr) (cl : List (Str × Addr)) (fp : List Addr), PI (X.blk s H scope (compEnvC scope cl C X.env) fp) tg2 iter2 (tDI (sy X T) false W0 di2))
    (he : ∀ (s : Shared) (H : Hp) (C : Addr) (cl : List (Str × Addr)) (fp : List Addr), PE (X.blk s H scope (compEnvC scope cl C X.env) fp) elt (tD (sy X T) .E W0 de)) (hs : ∀ x, foldedSetIterable iter X.env x = pure x) (hs2 : ∀ env x, foldedSetIterable iter2 env x = pure x) :
    PE X (.ListComp elt [⟨tg, iter, ifs, 0⟩, ⟨tg2, iter2, ifs2, 0⟩] scope pos) (tD (sy X T) .F W (lcD2 di t (own.map (·.2)) dc di2 t2 vs2 dc2 de)) :=
  (pe_lc2 (g := gTg (sy X T) t) (g1 := gTg (sy X T) t2) (tt := tDT (sy X T) W0 dc) (tt1 := tDT (sy X T) W0 dc2) hc hN hi ok hv (fun s H C c fp => tg_ok (X := X.blk s H scope (compEnvC scope c C X.env) fp) (T := T) hN hc (cl.tg s H C c fp)) (fun s H C c fp => pts_of (T := T) (Y := X.blk s H scope (compEnvC scope c C X.env) fp) (cl.ifs s H C c fp)) hi2
    (fun s H C c fp => tg_ok (X := X.blk s H scope (compEnvC scope c C X.env) fp) (T := T) hN hc (cl2.tg s H C c fp)) (fun s H C c fp => pts_of (T := T) (Y := X.blk s H scope (compEnvC scope c C X.env) fp) (cl2.ifs s H C c fp)) he hs hs2).imp fun σ H Q h => lc_red2 ht ht2 h
theorem ds_setLc2 (hc : X.calm = true) (hN : X.N.Nodup) (hy : X.N[i]? = some y) (hyl : X.env.scope.names.lookup y = some .local) (hsw : swapsWith (.ListComp elt [⟨tg, iter, ifs, 0⟩, ⟨tg2, iter2, ifs2, 0⟩] scope pos) (some (.Name y py)) spos.line X.env = pure true)
    (hi : PI X tg iter (tDI (sy X T) true W di)) (ok : BlkOk X.N X.env.scope scope own) (hv : ∀ i ∈ vs2, i ∈ own.map (·.2)) (cl : ClOk X T scope tg t ifs dc) (cl2 : ClOk X T scope tg2 t2 ifs2 dc2) (ht : ∀ i, i ∈ t.is → i ∈ own.map (·.2)) (ht2 : ∀ i, i ∈ t2.is → i ∈ vs2)
    (hi2 : ∀ (s : Shared) (H : Hp) (C : Addr) (cl : List (Str × Addr)) (fp : List Addr), PI (X.blk s H scope (compEnvC scope cl C X.env) fp) tg2 iter2 (tDI (sy X T) false W0 di2))
    (he : ∀ (s : Shared) (H : Hp) (C : Addr) (cl : List (Str × Addr)) (fp : List Addr), PE (X.blk s H scope (compEnvC scope cl C X.env) fp) elt (tD (sy X T) .E W0 de)) (hs : ∀ x, foldedSetIterable iter X.env x = pure x) (hs2 : ∀ env x, foldedSetIterable iter2 env x = pure x) :
    PS X (.Assign [.Name y py] (.ListComp elt [⟨tg, iter, ifs, 0⟩, ⟨tg2, iter2, ifs2, 0⟩] scope pos) spos) (tS (sy X T) W fun r => bnd (lcD2 di t (own.map (·.2)) dc di2 t2 vs2 dc2 de r) fun v => ret (.nx (r.set i (ofV v)))) := by
  refine (ps_setLc2 (g := gTg (sy X T) t) (g1 := gTg (sy X T) t2) (tt := tDT (sy X T) W0 dc) (tt1 := tDT (sy X T) W0 dc2) hc hN hy hyl hsw hi ok hv (fun s H C c fp => tg_ok (X := X.blk s H scope (compEnvC scope c C X.env) fp) (T := T) hN hc (cl.tg s H C c fp)) (fun s H C c fp => pts_of (T := T) (Y := X.blk s H scope (compEnvC scope c C X.env) fp) (cl.ifs s H C c fp)) hi2
    (fun s H C c fp => tg_ok (X := X.blk s H scope (compEnvC scope c C X.env) fp) (T := T) hN hc (cl2.tg s H C c fp)) (fun s H C c fp => pts_of (T := T) (Y := X.blk s H scope (compEnvC scope c C X.env) fp) (cl2.ifs s H C c fp)) he hs hs2).imp fun D σ H ⟨G₀, m₀, H₀, Gb, mb, G, m, s, r, a, p⟩ => ?_
  refine lc_red2 ht ht2 ⟨G, m, s, H₀, r, a.at, PostS.step a p fun x s1 G1 m1 H1 v e1 a1 rx p1 => ?_⟩
  exact p1 G1 m1 H1 _ a1.ext a1.lat ⟨a1.wd, a.fm.putF e1 a.ext.dom i rx⟩
end
end
end RP

/-! Fw14: dict comprehensions with tuple keys. Own work. -/
namespace RP
open PySem PySem.Spec PyProof.Rows L2

/-- a store into the new dict at D -/
def DPut (S : Sy) (D : Addr) (y z : V) (H : Hp) (Nx : Hp → Prop) : Prop := ∃ G m kvs es k x b, y = .ref b ∧ (∀ c o, G c = some o → H c = some o) ∧ H D = some (DctO S.P S.w D es) ∧ es.length < sizeLine ∧ RepsD S G m kvs es ∧ keyT k = true ∧ Rep S G m k (.ref b) ∧ Rep S G m x z ∧
  ∀ es', RepsD S G m (putP kvs k x) es' → es'.length ≤ es.length + 1 → Nx (upd H D (DctO S.P S.w D es'))
theorem dct_set {X : Cx} {T : List (Addr × Str)} {pins : List (Addr × Obj)} {σ : L2.St} {H : Hp} {s : Shared} {A : Around} {E : Value → Shared → Prop} {Q : Unit → Shared → Prop} (hu : A.units + 9 < cLine) (I : Inv X pins σ H s) {D : Addr} {y z : V} {v u : Value} {Nx : Hp → Prop} (ry : RelV y v) (rz : RelV z u) (h : DPut (sy X T) D y z H Nx)
    (hq : ∀ H' s', Inv X pins σ H' s' → Nx H' → Q () s') : wpAny (model X.prog X.w) A (dictSet D v u) Q E s := by
  obtain ⟨G, m, kvs, es, k, x, b, rfl, le, hD, hz, r, hk, rk, rx, nx⟩ := h
  cases ry
  obtain ⟨hl, hs, xs, ex, hd⟩ := dct_of I le (.inl hD) r
  have hlen : es.length = xs.length := Paired.length ex
  refine wpAny_dictSet_heap (hsz := by omega) (show A.units + 8 < cLine by omega) (key_is I le hk rk) hd fun h' hd' sb => ?_
  obtain ⟨es', r1, r2, r3⟩ := put_of hk rk rx rz r ex
  refine hq (upd H D (DctO X.prog X.w D es')) _ ?_ (nx es' r1 r3)
  obtain ⟨o, ds, ep, e1, e2, e3, e4, e5, e6⟩ := hd'
  refine d_write I (by rw [hD]; exact True.intro) sb ⟨o, e1⟩ ?_
  refine ⟨⟨by omega, hs, _, r2, o, ds, ep, e1, e2, e3, e4, e6⟩, ⟨o, e1⟩, fun h1 h2 q st => ?_⟩
  obtain ⟨q1, q2, ys, q3, o', ds', ep', q4, q5⟩ := q
  exact ⟨q1, q2, ys, q3, o', ds', ep', st _ q4, q5⟩
/-- an empty dict just laid -/
theorem dct_new {X : Cx} {H : Hp} {h : Heap} (hb : (h.objs.size == sysModules) = false) : ObjOk X.prog X.w H (h.push { cls := .type "dict", data := .dict #[] }) h.objs.size (DctO X.prog X.w h.objs.size []) := by
  refine ⟨⟨Nat.zero_le _, hb, [], .nil, _, #[], 0, Heap.get?_push_size _ rfl, ⟨rfl, rfl, rfl⟩, rfl, rfl, List.nodup_nil⟩, ⟨_, Heap.get?_push_size _ rfl⟩, fun h1 h2 q st => ?_⟩
  obtain ⟨q1, q2, ys, q3, o', ds', ep', q4, q5⟩ := q
  exact ⟨q1, q2, ys, q3, o', ds', ep', st _ q4, q5⟩
section
variable {X : Cx} {T : List (Addr × Str)} {W : XK}
def tDcT (S : Sy) (wi : TI) (g : TG) (tt : TT) (tk tv : TE) (vs : List Nat) : TE := fun σ H Q => wi σ H fun J H1 => ∀ D, H1 D = none → ∃ W : Nat → Nat → Hp → Prop, (∃ m, W 0 m (upd H1 D (DctO S.P S.w D []))) ∧ ∀ i m H, W i m H →
  (J.stop i H ∧ Q (.ref D) H) ∨ (J.go i H ∧ ∃ Nx : Hp → Prop, (∀ H', Nx H' → ∃ m', m' < m ∧ W (i + 1) m' H') ∧ ∀ x H', J.yld i H x H' → g x (L2.wipe σ vs) H' fun σ2 H2 => L2.wipe σ2 vs = L2.wipe σ vs ∧ tt σ2 H2 fun b H3 =>
    if b = true then tk σ2 H3 fun y H4 => tv σ2 H4 fun z H5 => DPut S D y z H5 Nx else Nx H3)
variable {pins : List (Addr × Obj)} {s : Shared} {σ : L2.St} {H : Hp} {Q : VK} {kx vx tg iter : Expr} {ifs : List Expr} {scope : Scope} {own : List (Str × Nat)} {pos pos' : Pos} {wi : TI} {g : TG} {tt : TT} {tk tv : TE}
theorem dcT_core {use : Option (Value → Sem Unit)} {Qf : Value → Shared → Prop} (hu : X.A.units + 200 < cLine)
    (hc : X.calm = true) (hN : X.N.Nodup) (I : Inv X pins σ H s) (hi : PI X tg iter wi) (ok : BlkOk X.N X.env.scope scope own)
    (hg : ∀ (s : Shared) (H : Hp) (C : Addr) (cl : List (Str × Addr)) (fp : List Addr), PG (X.blk s H scope (compEnvC scope cl C X.env) fp) tg g) (ht : ∀ (s : Shared) (H : Hp) (C : Addr) (cl : List (Str × Addr)) (fp : List Addr), PTs (X.blk s H scope (compEnvC scope cl C X.env) fp) ifs tt)
    (hk : ∀ (s : Shared) (H : Hp) (C : Addr) (cl : List (Str × Addr)) (fp : List Addr), PE (X.blk s H scope (compEnvC scope cl C X.env) fp) kx tk)
    (he : ∀ (s : Shared) (H : Hp) (C : Addr) (cl : List (Str × Addr)) (fp : List Addr), PE (X.blk s H scope (compEnvC scope cl C X.env) fp) vx tv) (hs : ∀ x, foldedSetIterable iter X.env x = pure x)
    (h : tDcT (sy X T) wi g tt tk tv (own.map (·.2)) σ H Q)
    (hRR : ∀ D C s' m H', Inv X pins σ H' s' → Q (.ref D) H' → s'.heap.Ns C m → FpOk X pins H' C → compPost (model X.prog X.w) X.A X.xe use Qf (.ref D) C (.ok .next) s') :
    wpAny (model X.prog X.w) X.A (comprehension (.DictComp kx vx [⟨tg, iter, ifs, 0⟩] scope pos) scope X.env pos' newDict false (eval iter X.env) use) Qf X.xe s := by
  have hfree : ∀ y ∈ scope.names, y.2 = .free → ∃ c, X.env.cells.lookup y.1 = some c := fun y hy e => (ok.free y hy e).elim (fun k => I.ok.has _ (.inl k)) fun k => I.ok.has _ (.inr k)
  refine wpAny_comprehension_free (use := use) rfl hs (closure_ok hfree) ok.kind (fun y hy e => by rw [ok.uniq y hy, e]) (thn (hi.run pins s σ H _ I h) fun xv s1 hx => thn hx fun itv s2 h2 => ?_)
  obtain ⟨it, fp, tn, J, H2, rfl, I2, Tn, st2, f2, q⟩ := h2
  refine wpAny_newObj_type (newEnv_comp ?_)
  generalize hD : s2.heap.objs.size = D
  have hDn : H2 D = none := I2.hok.fresh (Nat.le_of_eq hD)
  obtain ⟨W, ⟨m0, w0⟩, turn⟩ := q D hDn
  generalize hs3 : ({ s2 with heap := s2.heap.push { cls := .type "dict", data := .dict #[] } } : Shared) = s3
  have I3 : Inv X pins σ (upd H2 D (DctO X.prog X.w D [])) s3 := by
    rw [← hs3]
    refine I2.laid (t' := s2.toks) (fun b o e => Heap.get?_push_of_some _ e) (Nat.le_of_eq hD) ?_
    rw [← hD]
    exact dct_new (beq_eq_false_iff_ne.mpr (Ne.symm (Nat.ne_of_lt I2.big)))
  have h3 : s3.heap = s2.heap.push { cls := .type "dict", data := .dict #[] } := by rw [← hs3]
  have sz : ∀ b ∈ fp, b < s2.heap.objs.size := fun b hb => by
    obtain ⟨o, e, _⟩ := Tn.obj _ _ st2 b hb
    exact Heap.lt_size e
  have f3 : ∀ b ∈ fp, FpOk X pins (upd H2 D (DctO X.prog X.w D [])) b ∧ b < s3.heap.objs.size := fun b hb => by
    have hlt := sz b hb
    refine ⟨⟨?_, (f2 b hb).2⟩, by rw [h3, Heap.size_push]; exact Nat.lt_succ_of_lt hlt⟩
    rw [upd_ne (by rw [← hD]; exact Nat.ne_of_lt hlt)]
    exact (f2 b hb).1
  have st3 : tn 0 s3.heap := Tn.keep _ _ _ st2 fun b _ o e => by rw [h3]; exact Heap.get?_push_of_some _ e
  have I4 := block_start I3 ok hN f3
  have pg := hg s3 (upd H2 D (DctO X.prog X.w D [])) s3.heap.objs.size (cellsFrom (s3.heap.objs.size + 1) scope.names (cloFrom X.env.cells scope.names [])) fp
  have pt := ht s3 (upd H2 D (DctO X.prog X.w D [])) s3.heap.objs.size (cellsFrom (s3.heap.objs.size + 1) scope.names (cloFrom X.env.cells scope.names [])) fp
  have pk := hk s3 (upd H2 D (DctO X.prog X.w D [])) s3.heap.objs.size (cellsFrom (s3.heap.objs.size + 1) scope.names (cloFrom X.env.cells scope.names [])) fp
  have pe := he s3 (upd H2 D (DctO X.prog X.w D [])) s3.heap.objs.size (cellsFrom (s3.heap.objs.size + 1) scope.names (cloFrom X.env.cells scope.names [])) fp
  show codeAny _ _ (.compStart (.DictComp kx vx [⟨tg, iter, ifs, 0⟩] scope pos) 0 (.ref it) (.ref D) (compEnvC scope (cellsFrom (s3.heap.objs.size + 1) scope.names (cloFrom X.env.cells scope.names [])) s3.heap.objs.size X.env)) (compPost (model X.prog X.w) X.A X.xe use Qf (.ref D) s3.heap.objs.size) { s3 with heap := pushCells (s3.heap.push { cls := .type "dict", data := .dict #[] }) scope.names }
  have nfp : ∀ b ∈ fp, (upd H2 D (DctO X.prog X.w D [])) b = none := fun b hb => (f3 b hb).1.1
  generalize hce : compEnvC scope (cellsFrom (s3.heap.objs.size + 1) scope.names (cloFrom X.env.cells scope.names [])) s3.heap.objs.size X.env = ce at I4 pg pt pk pe ⊢
  have cL : ce.locals = s3.heap.objs.size := by subst hce; rfl
  have w0 : W 0 m0 (upd H2 D (DctO X.prog X.w D [])) := w0
  generalize hH3 : upd H2 D (DctO X.prog X.w D []) = H3 at I3 I4 pg pt pk pe w0 nfp f3
  generalize hs4 : ({ s3 with heap := pushCells (s3.heap.push { cls := .type "dict", data := .dict #[] }) scope.names } : Shared) = s4 at I4 ⊢
  have st4 : tn 0 s4.heap := Tn.keep _ _ _ st3 fun b _ o e => by rw [← hs4]; exact pushCells_keeps _ _ _ _ (Heap.get?_push_of_some _ e)
  have stat : ∀ {σ' : L2.St} {H' : Hp} {s' : Shared}, Inv (X.blk s3 H3 scope ce fp) [] σ' H' s' → (∀ b ∈ fp, H' b = none) → ∀ b ∈ fp, FpOk (X.blk s3 H3 scope ce fp) [] H' b := fun {σ' H' s'} I' hn b hb =>
    ⟨hn b hb, (I'.ok.exf b hb).1, I'.ok.exfs b hb, .inl hb, fun x c e => (I'.ok.exf b hb).2 x c e, fun p hp => absurd (show p ∈ ([] : List (Addr × Obj)) ++ [] from hp) (by simp)⟩
  have loop : codeAny (model X.prog X.w) X.A (.compLoop (.DictComp kx vx [⟨tg, iter, ifs, 0⟩] scope pos) 0 (.ref it) (.ref D) ce) (compPost (model X.prog X.w) X.A X.xe use Qf (.ref D) s3.heap.objs.size) s4 := by
    refine compLoop_anyD (fun n s' => ∃ i H', Inv (X.blk s3 H3 scope ce fp) [] (L2.wipe σ (own.map (·.2))) H' s' ∧ tn i s'.heap ∧ (∀ b ∈ fp, H' b = none) ∧ W i n H') ?_ m0 ⟨0, H3, I4, st4, nfp, w0⟩
    rintro n s5 ⟨i, H5, I5, st5, n5, w5⟩
    rcases turn i n H5 w5 with ⟨stop, qq⟩ | ⟨go, Nx, hNx, step⟩
    · refine thnF (Tn.done (X.blk s3 H3 scope ce fp) rfl rfl rfl hc i [] s5 _ H5 (fun _ _ => False) I5 (stat I5 n5) st5 stop) fun r s6 ⟨hr, I6⟩ => ?_
      subst hr
      have I7 : Inv X pins σ H5 s6 := I3.call' (ch := fp) I6.os I6.base I6.hok I6.bare fun b hb => ⟨(f3 b hb).1.2.2.2.1, (f3 b hb).1.2.1, (f3 b hb).1.2.2.2.2.1, (f3 b hb).1.2.2.2.2.2⟩
      have nC : H5 s3.heap.objs.size = none := by
        have z : H5 ce.locals = none := I6.free
        rw [cL] at z
        exact z
      obtain ⟨m, hn, _⟩ := I6.loc
      have hn : s6.heap.Ns ce.locals m := hn
      rw [cL] at hn
      exact hRR D s3.heap.objs.size s6 m H5 I7 qq hn (I3.fpOk (Nat.le_refl _) nC)
    · refine thnF (Tn.item (X.blk s3 H3 scope ce fp) rfl rfl rfl hc i [] s5 _ H5 (fun _ _ => False) I5 (stat I5 n5) st5 go) fun r s6 ⟨u, hr, h6⟩ => ?_
      subst hr
      refine thnF h6 fun _ s7 ⟨x, H7, I7, r7, y7, st7, n7⟩ => ?_
      have I7' := I7.pinned (stat I7 n7) (Tn.obj _ _ st7)
      refine thnF (pg.run _ s7 _ H7 x u _ I7' r7 (step x H7 y7)) fun _ s8 ⟨σ8, H8, I8, hw8, q8⟩ => ?_
      refine thnF (pt.run _ s8 σ8 H8 _ I8 q8) fun b s9 ⟨H9, I9, q9⟩ => ?_
      have fin : ∀ {s' : Shared} {H' : Hp}, Inv (X.blk s3 H3 scope ce fp) ([] ++ pinsAt fp s7.heap) σ8 H' s' → Nx H' → ∃ m, m < n ∧ ∃ i H', Inv (X.blk s3 H3 scope ce fp) [] (L2.wipe σ (own.map (·.2))) H' s' ∧ tn i s'.heap ∧ (∀ b ∈ fp, H' b = none) ∧ W i m H' := fun {s' H'} I' nx => by
        obtain ⟨m', hm, w'⟩ := hNx H' nx
        have pin' : ∀ b ∈ fp, ∀ o, s7.heap.get? b = some o → s'.heap.get? b = some o ∧ H' b = none := fun b hb o e =>
          let z := I'.pin (b, o) (List.mem_append_right _ (List.mem_append_right _ (mem_pinsAt hb e)))
          ⟨z.1, z.2.1⟩
        have hl : (L2.wipe σ (own.map (·.2))).length = σ8.length := by rw [← hw8, wipe_length]
        refine ⟨m', hm, i + 1, H', (I'.unpinned (pins := [])).weak hl (fun j v e => ?_), Tn.keep _ _ _ st7 fun b hb o e => (pin' b hb o e).1, fun b hb => ?_, w'⟩
        · rw [← hw8] at e
          exact (wipe_some e).1
        · obtain ⟨o, e, _⟩ := Tn.obj _ _ st7 b hb
          exact (pin' b hb o e).2
      cases b with
      | false =>
        simp only [Bool.false_eq_true, if_false] at q9 ⊢
        exact fin I9 q9
      | true =>
        simp only [if_true] at q9 ⊢
        refine thnF (pk.run _ s9 σ8 H9 _ I9 q9) fun z s10 ⟨yk, H10, I10, r10, q10⟩ => ?_
        refine thnF (pe.run _ s10 σ8 H10 _ I10 q10) fun z2 s11 ⟨yv, H11, I11, r11, dp⟩ => ?_
        exact dct_set (X := X.blk s3 H3 scope ce fp) (T := T) (by omega) I11 r10 r11 dp fun H12 s12 I12 nx => fin I12 nx
  exact codeAny_compStart_dict loop (Tn.self X.A 0 _ _ _ st4 loop)
theorem pe_dcT (hu : X.A.units + 200 < cLine) (hc : X.calm = true) (hN : X.N.Nodup) (hi : PI X tg iter wi) (ok : BlkOk X.N X.env.scope scope own)
    (hg : ∀ (s : Shared) (H : Hp) (C : Addr) (cl : List (Str × Addr)) (fp : List Addr), PG (X.blk s H scope (compEnvC scope cl C X.env) fp) tg g) (ht : ∀ (s : Shared) (H : Hp) (C : Addr) (cl : List (Str × Addr)) (fp : List Addr), PTs (X.blk s H scope (compEnvC scope cl C X.env) fp) ifs tt)
    (hk : ∀ (s : Shared) (H : Hp) (C : Addr) (cl : List (Str × Addr)) (fp : List Addr), PE (X.blk s H scope (compEnvC scope cl C X.env) fp) kx tk)
    (he : ∀ (s : Shared) (H : Hp) (C : Addr) (cl : List (Str × Addr)) (fp : List Addr), PE (X.blk s H scope (compEnvC scope cl C X.env) fp) vx tv) (hs : ∀ x, foldedSetIterable iter X.env x = pure x) :
    PE X (.DictComp kx vx [⟨tg, iter, ifs, 0⟩] scope pos) (tDcT (sy X T) wi g tt tk tv (own.map (·.2))) := by
  refine ⟨fun pins s σ H Q I h => ?_⟩
  rw [arm_eval_DictComp]
  refine dcT_core hu hc hN I hi ok hg ht hk he hs h fun D C s' m H' I' q hn f => ⟨m, hn, fun h'' sb => ?_⟩
  obtain ⟨f0, f1, f2, f3, f4, f5⟩ := f
  exact ⟨.ref D, H', I'.turned (t' := s'.toks) (fun b o hb e => (sb.2 b hb).trans e) f0 f1 f3 f4 f5, rfl, q⟩
theorem ps_setDcT {i : Nat} {y : Str} {py spos : Pos} (hu : X.A.units + 200 < cLine) (hc : X.calm = true) (hN : X.N.Nodup) (hy : X.N[i]? = some y) (hyl : X.env.scope.names.lookup y = some .local)
    (hsw : swapsWith (.DictComp kx vx [⟨tg, iter, ifs, 0⟩] scope pos) (some (.Name y py)) spos.line X.env = pure true) (hi : PI X tg iter wi) (ok : BlkOk X.N X.env.scope scope own)
    (hg : ∀ (s : Shared) (H : Hp) (C : Addr) (cl : List (Str × Addr)) (fp : List Addr), PG (X.blk s H scope (compEnvC scope cl C X.env) fp) tg g) (ht : ∀ (s : Shared) (H : Hp) (C : Addr) (cl : List (Str × Addr)) (fp : List Addr), PTs (X.blk s H scope (compEnvC scope cl C X.env) fp) ifs tt)
    (hk : ∀ (s : Shared) (H : Hp) (C : Addr) (cl : List (Str × Addr)) (fp : List Addr), PE (X.blk s H scope (compEnvC scope cl C X.env) fp) kx tk)
    (he : ∀ (s : Shared) (H : Hp) (C : Addr) (cl : List (Str × Addr)) (fp : List Addr), PE (X.blk s H scope (compEnvC scope cl C X.env) fp) vx tv) (hs : ∀ x, foldedSetIterable iter X.env x = pure x) :
    PS X (.Assign [.Name y py] (.DictComp kx vx [⟨tg, iter, ifs, 0⟩] scope pos) spos) (tAsg (tDcT (sy X T) wi g tt tk tv (own.map (·.2))) (gName i)) := by
  refine ⟨fun pins s σ H D I h => ?_⟩
  rw [exec_Assign_Name_used _ _ _ _ hsw]
  refine wpAny_bind (wpAny_standAt (wpAny_bind ?_))
  show wpAny _ X.A (do let _ ← comprehension (.DictComp kx vx [⟨tg, iter, ifs, 0⟩] scope pos) scope X.env (firstIterPos [⟨tg, iter, ifs, 0⟩] pos) newDict false (eval iter X.env) (some (assign (.Name y py) X.env))) _ _ s
  have h : tDcT (sy X T) wi g tt tk tv (own.map (·.2)) σ H (fun x H1 => gName i x σ H1 D.nx) := h
  refine wpAny_bind (thn (dcT_core (Qf := fun _ s' => SP X pins D .next s') hu hc hN I hi ok hg ht hk he hs h fun L C s' m H' I' q hn f => ?_) fun _ s' hq => wpAny_pure (wpAny_pure hq))
  show wpAny _ _ (assign (.Name y py) X.env (.ref L)) _ _ _
  refine wpAny_assign_Name (store_ok2 (v := V.ref L) I' hN hy (.inl hyl) rfl (fun s2 I2 ⟨a, sb, ha⟩ => ?_) (.inr hyl))
  obtain ⟨f0, f1, f2, f3, f4, f5⟩ := f
  have haC : C ≠ a := by
    rcases ha with z | z
    · rw [z]; exact f1
    · exact fun e => f4 y a z e.symm
  refine ⟨m, hn.sameBut sb haC, fun h3 sb3 => ?_⟩
  exact ⟨_, H', I2.turned (t' := s2.toks) (fun b o hb e => (sb3.2 b hb).trans e) f0 f1 f3 f4 f5, q⟩

/-! ### by a denotation -/
def dcF (t : Tg) (vs : List Nat) (dc dk dv : Fm → M PV) (r : Fm) : PV → M (Option (PV × PV)) := fun x => bnd (opt (bindT t x (r.wipe vs))) fun r2 => tst (dc r2) fun b => if b then bnd (dk r2) fun y => bnd (dv r2) fun z => RP.ret (some (y, z)) else RP.ret none
def dcD (di : Fm → M (List PV)) (t : Tg) (vs : List Nat) (dc dk dv : Fm → M PV) : Fm → M PV := fun r => bnd (di r) fun xs => noExc (bnd (dcGo (dcF t vs dc dk dv r) xs []) finD)
theorem putP_len (kvs : List (PV × PV)) (k v : PV) : kvs.length ≤ (putP kvs k v).length := by
  unfold putP
  split
  · simp
  · simp
theorem dcGo_len (f : PV → M (Option (PV × PV))) : ∀ (xs : List PV) (acc : List (PV × PV)) (s : AS) (ys : List (PV × PV)) (s' : AS), dcGo f xs acc s = .ok ys s' → acc.length ≤ ys.length
  | [], acc, s, ys, s', h => by cases h; exact Nat.le_refl _
  | x :: xs, acc, s, ys, s', h => by
    simp only [dcGo, bnd] at h
    cases q : f x s with
    | ok a s1 =>
      rw [q] at h
      simp only [Res.andThen] at h
      cases a with
      | none => exact dcGo_len f xs acc s1 ys s' h
      | some kv =>
        obtain ⟨k, v⟩ := kv
        dsimp only at h
        by_cases c : keyT k = true
        · rw [if_pos c] at h
          exact Nat.le_trans (putP_len acc k v) (dcGo_len f xs _ s1 ys s' h)
        · rw [if_neg c] at h; cases h
    | exc e s1 => rw [q] at h; cases h
    | stuck => rw [q] at h; cases h
theorem Post.dacc_le {S : Sy} {Gb Hb : Hp} {mb : List Addr} {st : AS} {R : RT PV V} {f : PV → M (Option (PV × PV))} {xs : List PV} {acc : List (PV × PV)} {Q : VK} (h : Post S R Gb mb Hb (noExc (bnd (dcGo f xs acc) finD) st) Q W) : acc.length ≤ LIM := by
  by_cases c : acc.length ≤ LIM
  · exact c
  · have : noExc (bnd (dcGo f xs acc) finD) st = .stuck := noExc_stuck fun a s' e => by
      unfold bnd at e
      cases q : dcGo f xs acc st with
      | ok ys s1 =>
        rw [q] at e
        have hl := dcGo_len f xs acc st ys s1 q
        have e : finD ys s1 = .ok a s' := e
        unfold finD at e
        rw [if_neg (by omega)] at e
        cases e
      | exc y s1 => rw [q] at e; cases e
      | stuck => rw [q] at e; cases e
    rw [this] at h
    exact h.elim
theorem dct_ne_code {P : Program} {w : World} {a : Addr} {es : List (NestedKey × Addr × V)} {q : Str} : DctO P w a es ≠ LamX.CodeO a q := by
  intro e
  let h0 : Heap := ⟨Array.replicate a { cls := .type "code", data := .fields #[] }, {}⟩
  let o : Obj := { cls := .type "code", data := .fields #[.none, .str q 0] }
  have hs : h0.objs.size = a := by show (Array.replicate a _).size = a; simp
  have hg : (h0.push o).get? a = some o := by
    have := Heap.get?_push_size h0 (o := o) rfl
    rw [hs] at this
    exact this
  unfold DctO LamX.CodeO at e
  have e := HO.ext.inj e
  have f := congrFun e (h0.push o)
  have : ∃ (oc : Obj) (vs : Array Value) (t : Tok), (h0.push o).get? a = some oc ∧ oc.data = .fields vs ∧ vs[1]? = some (.str q t) := ⟨o, _, 0, hg, rfl, rfl⟩
  rw [← f] at this
  obtain ⟨_, _, _, _, o', ds, ep, e1, _, e3, _⟩ := this
  rw [hg] at e1
  cases e1
  exact absurd e3 (fun z => nomatch z)
theorem dc_red {S : Sy} {t : Tg} {vs : List Nat} {di : Fm → M (List PV)} {dc dk dv : Fm → M PV} {σ : L2.St} {H : Hp} {Q : VK} (ht : ∀ i, i ∈ t.is → i ∈ vs) (h : tD S .F W (dcD di t vs dc dk dv) σ H Q) :
    tDcT S (tDI S true W di) (gTg S t) (tDT S W0 dc) (tD S .E W0 dk) (tD S .E W0 dv) vs σ H Q := by
  obtain ⟨G, m, s, H₀, r, a, p⟩ := h
  refine ⟨G, m, s, H₀, r, a, p.step (good_M _ _) fun xs s1 G1 m1 H1 J e1 wd1 io p1 => ?_⟩
  intro D hD
  have io : IterOk S true G1 m1 H1 xs J := io
  have p1 : Post S (RepM S .F) G1 m1 H1 (noExc (bnd (dcGo (dcF t vs dc dk dv r) xs []) finD) s1) Q W := p1
  refine ⟨fun i n H => n = xs.length - i ∧ i ≤ xs.length ∧ ∃ G m s acc us, Ext m1 m G1 G H1 H ∧ Wd S G m s H ∧ H D = some (DctO S.P S.w D us) ∧ D ∉ m ∧ G D = none ∧ RepsD S G m acc us ∧
    Post S (RepM S .F) G1 m1 H1 (noExc (bnd (dcGo (dcF t vs dc dk dv r) (xs.drop i) acc) finD) s) Q W,
    ⟨xs.length, rfl, Nat.zero_le _, G1, m1, s1, [], [], wd1.newExt hD, wd1.new hD, upd_same, wd1.mnone hD, wd1.Gnone hD, .nil, p1⟩, ?_⟩
  rintro i n H' ⟨rfl, hle, G2, m2, s2, acc, us, e2, wd2, hl, hm, hg, racc, p2⟩
  obtain ⟨hgo, hstop, hy⟩ := io G2 m2 s2 H' wd2 e2.lat fun _ => e2
  by_cases hlt : i < xs.length
  · refine .inr ⟨hgo i hlt, fun H' => ∃ G m s acc us, Ext m1 m G1 G H1 H' ∧ Wd S G m s H' ∧ H' D = some (DctO S.P S.w D us) ∧ D ∉ m ∧ G D = none ∧ RepsD S G m acc us ∧
      Post S (RepM S .F) G1 m1 H1 (noExc (bnd (dcGo (dcF t vs dc dk dv r) (xs.drop (i + 1)) acc) finD) s) Q W, fun H' q => ⟨xs.length - (i + 1), by omega, rfl, hlt, q⟩, fun v H3 yl => ?_⟩
    obtain ⟨G3, e3, wd3, rv⟩ := hy i xs[i] v H3 (List.getElem?_eq_getElem hlt) yl
    rw [List.drop_eq_getElem_cons hlt] at p2
    have p2 : Post S (RepM S .F) G1 m1 H1 (noExc (bnd (bnd (bnd (opt (bindT t xs[i] (r.wipe vs))) fun r2 => tst (dc r2) fun b => if b then bnd (dk r2) fun y => bnd (dv r2) fun z => RP.ret (some (y, z)) else RP.ret none) fun o => match o with
      | some (k, v) => if keyT k then dcGo (dcF t vs dc dk dv r) (xs.drop (i + 1)) (putP acc k v) else stk
      | none => dcGo (dcF t vs dc dk dv r) (xs.drop (i + 1)) acc) finD) s2) Q W := p2
    cases q : bindT t xs[i] (r.wipe vs) with
    | none => rw [q] at p2; exact p2.elim
    | some r3 =>
      rw [q] at p2
      have p2 : Post S (RepM S .F) G1 m1 H1 (noExc (bnd (bnd (tst (dc r3) fun b => if b then bnd (dk r3) fun y => bnd (dv r3) fun z => RP.ret (some (y, z)) else RP.ret none) fun o => match o with
        | some (k, v) => if keyT k then dcGo (dcF t vs dc dk dv r) (xs.drop (i + 1)) (putP acc k v) else stk
        | none => dcGo (dcF t vs dc dk dv r) (xs.drop (i + 1)) acc) finD) s2) Q W := p2
      rw [bnd_assoc] at p2
      have e13 := e2.trans e3
      have fm3 : FmOk S G3 m2 H₀ H3 (r.wipe vs) (L2.wipe σ vs) := FmOk.wipe ((a.2.ext e1).ext e13) vs
      refine ⟨G3, m2, s2, H₀, r.wipe vs, xs[i], r3, ⟨wd3, fm3⟩, .rep rv, fun _ _ => rv, q, fun σ4 a4 hw => ⟨(hw vs ht).trans (wipe_wipe σ vs), ?_⟩⟩
      have hl3 := e3.keep _ _ hl hm ntbl_dct
      have hm3 := e3.notm hl hm
      have hg3 := e3.notG hl hg
      refine ⟨G3, m2, s2, H₀, r3, ⟨wd3, a4 H3 fm3⟩, ?_⟩
      unfold tst at p2
      rw [bnd_assoc] at p2
      refine Post.nx p2 fun k s5 G5 m5 H5 b e5 wd5 rb p5 => ?_
      have rb : k = b := rb
      subst rb
      have hl5 := e5.keep _ _ hl3 hm3 ntbl_dct
      have hm5 := e5.notm hl3 hm3
      have hg5 := e5.notG hl3 hg3
      have e15 := e13.trans e5
      have racc5 := (racc.ext e3).ext e5
      cases k with
      | false =>
        have p5 : Post S (RepM S .F) G1 m1 H1 (noExc (bnd (dcGo (dcF t vs dc dk dv r) (xs.drop (i + 1)) acc) finD) s5) Q W := p5
        exact ⟨G5, m5, s5, acc, us, e15, wd5, hl5, hm5, hg5, racc5, p5⟩
      | true =>
        have p5 : Post S (RepM S .F) G1 m1 H1 (noExc (bnd (bnd (dk r3) fun y => bnd (dv r3) fun z => RP.ret (some (y, z))) fun o => bnd (match o with
          | some (k, v) => if keyT k then dcGo (dcF t vs dc dk dv r) (xs.drop (i + 1)) (putP acc k v) else stk
          | none => dcGo (dcF t vs dc dk dv r) (xs.drop (i + 1)) acc) finD) s5) Q W := p5
        rw [bnd_assoc] at p5
        rw [if_pos rfl]
        refine ⟨G5, m5, s5, H₀, r3, ⟨wd5, (a4 H3 fm3).ext e5⟩, Post.nx p5 fun y s6 G6 m6 H6 w e6 wd6 ry p6 => ?_⟩
        rw [bnd_assoc] at p6
        refine ⟨G6, m6, s6, H₀, r3, ⟨wd6, ((a4 H3 fm3).ext e5).ext e6⟩, Post.nx p6 fun z s7 G7 m7 H7 w2 e7 wd7 rz p7 => ?_⟩
        have ry : Rep S G7 m7 y w := Rep.ext ry e7
        have rz : Rep S G7 m7 z w2 := rz
        have p7 : Post S (RepM S .F) G1 m1 H1 (noExc (bnd (if keyT y then dcGo (dcF t vs dc dk dv r) (xs.drop (i + 1)) (putP acc y z) else stk) finD) s7) Q W := p7
        have e57 := e6.trans e7
        have hl7 := e57.keep _ _ hl5 hm5 ntbl_dct
        have hm7 := e57.notm hl5 hm5
        have hg7 := e57.notG hl5 hg5
        have racc7 := racc5.ext e57
        by_cases c : keyT y = true
        · rw [if_pos c] at p7
          cases y with
          | tup zs =>
            cases ry with
            | tup g rr =>
            have hle7 := p7.dacc_le
            have hpl := putP_len acc (.tup zs) z
            refine ⟨G7, m7, acc, us, .tup zs, z, _, rfl, fun b o q => (wd7.le b o q).1, hl7, ?_, racc7, c, .tup g rr, rz, fun es' r' hl' => ?_⟩
            · have hs := sizeLine_eq
              have := LIM_le
              rw [← racc.length]
              unfold LIM at *
              omega
            · obtain ⟨k1, k2⟩ := write_new (o := DctO S.P S.w D es') (e15.trans e57) wd7 (by rw [hl7]; exact fun z => nomatch z) hm7 hg7 hD (by rw [hl7]; exact fun _ z => nomatch z) (fun q z => dct_ne_code (Option.some.inj (hl7.symm.trans z)))
              exact ⟨G7, m7, s7, _, es', k1, k2, upd_same, hm7, hg7, r', p7⟩
          | _ => simp [keyT, isTup] at c
        · rw [if_neg c] at p7
          exact p7.elim
  · have e : i = xs.length := by omega
    subst e
    rw [List.drop_length] at p2
    have p2 : Post S (RepM S .F) G1 m1 H1 (noExc (finD acc) s2) Q W := p2
    refine .inl ⟨hstop, ?_⟩
    unfold finD at p2
    by_cases c : acc.length ≤ LIM
    · rw [if_pos c] at p2
      exact p2 G2 m2 H' (.ref D) e2 wd2 (.dct hl hm hg hD racc)
    · rw [if_neg c] at p2
      exact p2.elim
section
variable {kx vx tg iter : Expr} {ifs : List Expr} {scope : Scope} {own : List (Str × Nat)} {pos spos py : Pos} {t : Tg} {di : Fm → M (List PV)} {dc dk dv : Fm → M PV} {i : Nat} {y : Str}
theorem de_dc (hu : X.A.units + 200 < cLine) (hc : X.calm = true) (hN : X.N.Nodup) (hi : PI X tg iter (tDI (sy X T) true W di)) (ok : BlkOk X.N X.env.scope scope own) (cl : ClOk X T scope tg t ifs dc) (ht : ∀ i, i ∈ t.is → i ∈ own.map (·.2))
    (hk : ∀ (s : Shared) (H : Hp) (C : Addr) (cl : List (Str × Addr)) (fp : List Addr), PE (X.blk s H scope (compEnvC scope cl C X.env) fp) kx (tD (sy X T) .E W0 dk))
    (he : ∀ (s : Shared) (H : Hp) (C : Addr) (cl : List (Str × Addr)) (fp : List Addr), PE (X.blk s H scope (compEnvC scope cl C X.env) fp) vx (tD (sy X T) .E W0 dv)) (hs : ∀ x, foldedSetIterable iter X.env x = pure x) :
    PE X (.DictComp kx vx [⟨tg, iter, ifs, 0⟩] scope pos) (tD (sy X T) .F W (dcD di t (own.map (·.2)) dc dk dv)) :=
  (pe_dcT (T := T) (g := gTg (sy X T) t) (tt := tDT (sy X T) W0 dc) hu hc hN hi ok (fun s H C c fp => tg_ok (X := X.blk s H scope (compEnvC scope c C X.env) fp) (T := T) hN hc (cl.tg s H C c fp)) (fun s H C c fp => pts_of (T := T) (Y := X.blk s H scope (compEnvC scope c C X.env) fp) (cl.ifs s H C c fp)) hk he hs).imp fun σ H Q h => dc_red ht h
theorem ds_setDc (hu : X.A.units + 200 < cLine) (hc : X.calm = true) (hN : X.N.Nodup) (hy : X.N[i]? = some y) (hyl : X.env.scope.names.lookup y = some .local) (hsw : swapsWith (.DictComp kx vx [⟨tg, iter, ifs, 0⟩] scope pos) (some (.Name y py)) spos.line X.env = pure true)
    (hi : PI X tg iter (tDI (sy X T) true W di)) (ok : BlkOk X.N X.env.scope scope own) (cl : ClOk X T scope tg t ifs dc) (ht : ∀ i, i ∈ t.is → i ∈ own.map (·.2))
    (hk : ∀ (s : Shared) (H : Hp) (C : Addr) (cl : List (Str × Addr)) (fp : List Addr), PE (X.blk s H scope (compEnvC scope cl C X.env) fp) kx (tD (sy X T) .E W0 dk))
    (he : ∀ (s : Shared) (H : Hp) (C : Addr) (cl : List (Str × Addr)) (fp : List Addr), PE (X.blk s H scope (compEnvC scope cl C X.env) fp) vx (tD (sy X T) .E W0 dv)) (hs : ∀ x, foldedSetIterable iter X.env x = pure x) :
    PS X (.Assign [.Name y py] (.DictComp kx vx [⟨tg, iter, ifs, 0⟩] scope pos) spos) (tS (sy X T) W fun r => bnd (dcD di t (own.map (·.2)) dc dk dv r) fun v => RP.ret (.nx (r.set i (ofV v)))) := by
  refine (ps_setDcT (T := T) (g := gTg (sy X T) t) (tt := tDT (sy X T) W0 dc) hu hc hN hy hyl hsw hi ok (fun s H C c fp => tg_ok (X := X.blk s H scope (compEnvC scope c C X.env) fp) (T := T) hN hc (cl.tg s H C c fp)) (fun s H C c fp => pts_of (T := T) (Y := X.blk s H scope (compEnvC scope c C X.env) fp) (cl.ifs s H C c fp)) hk he hs).imp fun D σ H ⟨G₀, m₀, H₀, Gb, mb, G, m, s, r, a, p⟩ => ?_
  refine dc_red ht ⟨G, m, s, H₀, r, a.at, PostS.step a p fun x s1 G1 m1 H1 v e1 a1 rx p1 => ?_⟩
  exact p1 G1 m1 H1 _ a1.ext a1.lat ⟨a1.wd, a.fm.putF e1 a.ext.dom i rx⟩
end
end
end RP

/-! Fw15: order, sorting, least and greatest. Own work. -/
namespace RP
open PySem PySem.Spec PyProof.Rows L2

/-! ### the order -/
mutual
theorem alike_toD : ∀ (n : Nat) (x y : PV), dat n x = true → dat n y = true → PySem.W.alike (toD x) (toD y) = alikeP x y
  | n, .non, y, _, hy => by cases y <;> simp_all [toD, PySem.W.alike, alikeP, dat]
  | n, .bl a, y, _, hy => by cases y <;> simp_all [toD, PySem.W.alike, alikeP, dat]
  | n, .int a, y, _, hy => by cases y <;> simp_all [toD, PySem.W.alike, alikeP, dat]
  | n, .str a, y, _, hy => by cases y <;> simp_all [toD, PySem.W.alike, alikeP, dat]
  | 0, .tup a, y, hx, hy => by simp [dat] at hx
  | 0, .lst a, y, hx, hy => by simp [dat] at hx
  | n + 1, .tup a, .tup b, hx, hy => by
    simp only [toD, PySem.W.alike, alikeP, dat] at *
    exact alike_toDs n a b hx hy
  | n + 1, .lst a, .lst b, hx, hy => by
    simp only [toD, PySem.W.alike, alikeP, dat] at *
    exact alike_toDs n a b hx hy
  | n + 1, .tup a, .non, hx, hy | n + 1, .tup a, .bl _, hx, hy | n + 1, .tup a, .int _, hx, hy | n + 1, .tup a, .str _, hx, hy | n + 1, .tup a, .lst _, hx, hy => by simp [toD, PySem.W.alike, alikeP]
  | n + 1, .lst a, .non, hx, hy | n + 1, .lst a, .bl _, hx, hy | n + 1, .lst a, .int _, hx, hy | n + 1, .lst a, .str _, hx, hy | n + 1, .lst a, .tup _, hx, hy => by simp [toD, PySem.W.alike, alikeP]
  | n + 1, .tup a, .dct _, hx, hy | n + 1, .tup a, .ref _, hx, hy | n + 1, .tup a, .fn _, hx, hy | n + 1, .tup a, .rol _, hx, hy | n + 1, .tup a, .tpx _, hx, hy => by simp [dat] at hy
  | n + 1, .lst a, .dct _, hx, hy | n + 1, .lst a, .ref _, hx, hy | n + 1, .lst a, .fn _, hx, hy | n + 1, .lst a, .rol _, hx, hy | n + 1, .lst a, .tpx _, hx, hy => by simp [dat] at hy
  | n, .dct _, y, hx, _ | n, .ref _, y, hx, _ | n, .fn _, y, hx, _ | n, .rol _, y, hx, _ | n, .tpx _, y, hx, _ => by simp [dat] at hx
theorem alike_toDs : ∀ (n : Nat) (x y : List PV), dats n x = true → dats n y = true → PySem.W.alikeAll (toD.toDs x) (toD.toDs y) = alikePs x y
  | n, [], y, _, _ => by simp [toD.toDs, PySem.W.alikeAll, alikePs]
  | n, _ :: _, [], _, _ => by simp [toD.toDs, PySem.W.alikeAll, alikePs]
  | n, a :: as, b :: bs, hx, hy => by
    simp only [toD.toDs, PySem.W.alikeAll, alikePs, dats, Bool.and_eq_true] at *
    rw [alike_toD n a b hx.1 hy.1, alike_toDs n as bs hx.2 hy.2]
end
mutual
theorem lt_toD : ∀ (n : Nat) (x y : PV) (k : Bool), dat n x = true → dat n y = true → alikeP x y = true → ltP x y = some k → PySem.W.dataLt (toD x) (toD y) = k
  | n, .int i, y, k, hx, hy, ha, h => by
    cases y with
    | int j =>
      simp [ltP] at h
      subst h
      exact PySem.W.dataLt_int i j
    | _ => simp [ltP] at h
  | n, .str i, y, k, hx, hy, ha, h => by
    cases y with
    | str j =>
      simp only [ltP, Option.some.injEq] at h
      subst h
      rw [ltCps_iff]
      exact PySem.W.dataLt_str i j
    | _ => simp [ltP] at h
  | 0, .tup xs, y, k, hx, hy, ha, h => by simp [dat] at hx
  | n + 1, .tup xs, y, k, hx, hy, ha, h => by
    cases y with
    | tup ys =>
      simp only [ltP, dat, alikeP] at *
      show PySem.W.dataLt (.tuple (toD.toDs xs)) (.tuple (toD.toDs ys)) = k
      rw [PySem.W.dataLt_tuple]
      exact lt_toDs n xs ys k hx hy ha h
    | _ => simp [ltP] at h
  | n, .non, y, k, hx, hy, ha, h | n, .bl _, y, k, hx, hy, ha, h | n, .lst _, y, k, hx, hy, ha, h | n, .rol _, y, k, hx, hy, ha, h | n, .tpx _, y, k, hx, hy, ha, h | n, .dct _, y, k, hx, hy, ha, h | n, .ref _, y, k, hx, hy, ha, h | n, .fn _, y, k, hx, hy, ha, h => by simp [ltP] at h
theorem lt_toDs : ∀ (n : Nat) (x y : List PV) (k : Bool), dats n x = true → dats n y = true → alikePs x y = true → ltPs x y = some k → PyProof.Rows.lexLt itemOrd (PySem.W.keyToksAll (toD.toDs x)) (PySem.W.keyToksAll (toD.toDs y)) = k
  | n, [], [], k, _, _, _, h => by simp [ltPs] at h; subst h; rfl
  | n, [], y :: ys, k, _, _, _, h => by simp [ltPs] at h; subst h; rfl
  | n, x :: xs, [], k, _, _, _, h => by simp [ltPs] at h; subst h; rfl
  | n, x :: xs, y :: ys, k, hx, hy, ha, h => by
    unfold ltPs at h
    simp only [dats, alikePs, Bool.and_eq_true] at hx hy ha
    cases q : ltPs xs ys with
    | none => rw [q] at h; cases h
    | some k' =>
      rw [q] at h
      simp only at h
      show PyProof.Rows.lexLt itemOrd (PySem.W.keyToksAll (toD x :: toD.toDs xs)) (PySem.W.keyToksAll (toD y :: toD.toDs ys)) = k
      rw [PySem.W.dataLt_cons (by rw [alike_toD n x y hx.1 hy.1]; exact ha.1), eqv_toD n x y hx.1 hy.1, lt_toDs n xs ys k' hx.2 hy.2 ha.2 q]
      by_cases c : eqP x y = true
      · rw [if_pos c] at h ⊢
        cases h; rfl
      · rw [if_neg c] at h ⊢
        exact lt_toD n x y k hx.1 hy.1 ha.1 h
end

/-! ### sorting -/
theorem sortP_spec {β : Type} (f : β → PV) (le : β → β → Bool) (tr : ∀ a b c, le a b = true → le b c = true → le a c = true) (tot : ∀ a b, (le a b || le b a) = true) (bs0 : List β) (hR : ∀ x y k, x ∈ bs0 → y ∈ bs0 → ltP (f y) (f x) = some k → le x y = !k) :
    ∀ (bs : List β), (∀ b, b ∈ bs → b ∈ bs0) → ∀ ys, sortP (bs.map f) = some ys → ys = (bs.mergeSort le).map f
  | [], _, ys, h => by simp [sortP] at h; subst h; simp
  | b :: bs, hm, ys, h => by
    rw [List.map_cons] at h
    unfold sortP at h
    cases q : sortP (bs.map f) with
    | none => rw [q] at h; cases h
    | some zs =>
      rw [q] at h
      have ih := sortP_spec f le tr tot bs0 hR bs (fun c hc => hm c (List.mem_cons_of_mem _ hc)) zs q
      obtain ⟨l₁, l₂, e1, e2, e3⟩ := List.mergeSort_cons tr tot b bs
      have srt := List.pairwise_mergeSort tr tot (b :: bs)
      rw [e1] at srt
      rw [e2] at ih
      have mem : ∀ c, c ∈ l₁ ++ l₂ → c ∈ bs0 := fun c hc => hm c (List.mem_cons_of_mem _ ((List.mergeSort_perm bs le).mem_iff.mp (by rw [e2]; exact hc)))
      rw [e1]
      have h : insP (f b) zs = some ys := h
      rw [ih] at h
      have h2 : ∀ c, c ∈ l₂ → le b c = true := fun c hc => (List.pairwise_cons.mp (List.pairwise_append.mp srt).2.1).1 c hc
      -- the relation on these members
      have key : ∀ (m₁ m₂ : List β), (∀ c, c ∈ m₁ → c ∈ l₁) → (∀ c, c ∈ m₂ → c ∈ l₂) → ∀ ys, insP (f b) ((m₁ ++ m₂).map f) = some ys → ys = (m₁ ++ b :: m₂).map f := by
        intro m₁
        induction m₁ with
        | nil =>
          intro m₂ _ h2' ys h
          cases m₂ with
          | nil => simp [insP] at h; simp [← h]
          | cons c m₂ =>
            simp only [List.nil_append, List.map_cons, insP] at h
            cases q : ltP (f c) (f b) with
            | none => rw [q] at h; cases h
            | some k =>
              have e := hR b c k (hm b List.mem_cons_self) (mem c (List.mem_append_right _ (h2' c List.mem_cons_self))) q
              rw [h2 c (h2' c List.mem_cons_self)] at e
              have : k = false := by
                cases k with
                | false => rfl
                | true => exact absurd e (by decide)
              subst this
              rw [q] at h
              simp only [Option.some.injEq] at h
              simp [← h]
        | cons c m₁ ih1 =>
          intro m₂ h1' h2' ys h
          simp only [List.cons_append, List.map_cons, insP] at h
          cases q : ltP (f c) (f b) with
          | none => rw [q] at h; cases h
          | some k =>
            have hc1 := h1' c List.mem_cons_self
            have e := hR b c k (hm b List.mem_cons_self) (mem c (List.mem_append_left _ hc1)) q
            have e' := e3 c hc1
            rw [e] at e'
            have : k = true := by
              cases k with
              | true => rfl
              | false => exact absurd e' (by decide)
            subst this
            rw [q] at h
            simp only [Option.map_eq_some_iff] at h
            obtain ⟨us, h3, rfl⟩ := h
            rw [ih1 m₂ (fun d hd => h1' d (List.mem_cons_of_mem _ hd)) h2' us h3]
            rfl
      exact key l₁ l₂ (fun _ h => h) (fun _ h => h) ys h
end RP

/-! Fw16: sorted, min, max, list(d). Own work. -/
namespace RP
open PySem PySem.Spec PyProof.Rows L2

/-! ### a dict's keys in a row -/
section
variable {prog : Program} {w : World}
theorem walks_raw {A : Around} (hh : A.handled = none) (I d : Addr) (hne : d ≠ I) (ds : Array DictEntry) (ep : Nat) :
    Walks prog w A I [I, d] [I] ds.size (fun i v => ∃ en, ds[i]? = some en ∧ v = en.key) (fun i h => h.IsKeyIter I d i ds.size ep ∧ DT.Raw h d ds ep) where
  sub := fun b hb => by simp at hb; simp [hb]
  frame := fun i h h' st k => ⟨st.1.at fun o e => k I (by simp) o e, st.2.at' fun o e => k d (by simp) o e⟩
  item := fun i s Q E hi st hQ => by
    obtain ⟨o, ho, hx, hd⟩ := id st.2
    refine next_key_item st.1 ho hd rfl (Array.getElem?_eq_getElem hi) fun h' st' sb => ?_
    exact hQ _ h' s.toks ⟨_, Array.getElem?_eq_getElem hi, rfl⟩ ⟨st', st.2.at' fun o e => (sb.2 d hne).trans e⟩ fun b o hb e => (sb.2 b (by simpa using hb)).trans e
  done := fun s Q E st hQ => by
    obtain ⟨o, ho, hx, hd⟩ := id st.2
    exact next_key_end hh st.1 ho hd rfl (Nat.le_refl _) fun h' eb => hQ h' s.toks fun b o hb e => eb b o (by simpa using hb) e
  self := fun i s Q E st hQ => by
    refine wpAny_pyIter_slot st.1.typeIs F.slot_dict_keyiterator_iter (wpAny_call_entry F.slot_dict_keyiterator_iter st.1.typeIs F.entry_dict_keyiterator_iter ?_ (F.args_dict_keyiterator_iter_1 _))
    show wpAny _ _ (PySem.ret (.ref I)) _ _ s
    exact wpAny_pure ⟨_, rfl, "dict_keyiterator", _, st.1.typeIs, F.slot_dict_keyiterator_next.lookup, hQ⟩
theorem kdl_raw {d : Addr} {ds : Array DictEntry} {ep : Nat} (lo : (d == sysModules) = false) : PySem.W.KdlSrc prog w "dict" d d ds.size (fun i v => ∃ en, ds[i]? = some en ∧ v = en.key) (fun h => DT.Raw h d ds ep) where
  type := fun _ hm => hm.typeIs
  there := fun _ hm => ⟨hm.lt, hm.lt⟩
  keep := fun _ _ hm hk => hm.at' fun o e => hk d (.inl rfl) o e
  notList := by decide
  notTuple := by decide
  hint := fun _ _ _ _ hm hq => PySem.W.kdl_hint_dict hm.typeIs hq
  iter := fun A s hh hm => ⟨_, _, (fun _ _ hq => by
    obtain ⟨o, ho, hx, hd⟩ := id hm
    exact iter_keys lo ho hx hd hq), walks_raw hh _ d (Nat.ne_of_lt hm.lt) ds ep, ⟨⟨_, Heap.get?_push_size _ rfl, rfl, rfl⟩, hm.push _⟩⟩
end
section
variable {X : Cx} {T : List (Addr × Str)} {pins : List (Addr × Obj)} {σ : L2.St} {H G : Hp} {m : List Addr} {s : Shared} {st : AS}
/-- a dict's entries, owned or shared -/
theorem raw_of (I : Inv X pins σ H s) {d : Addr} {es : List (NestedKey × Addr × V)} (h : Rd H d (DctO X.prog X.w d es)) : (d == sysModules) = false ∧ es.length ≤ sizeLine ∧ ∃ ds ep, DT.Raw s.heap d ds ep ∧ ds.size = es.length ∧
    ∀ (i : Nat) (p : NestedKey × Addr × V), es[i]? = some p → ∃ en : DictEntry, ds[i]? = some en ∧ en.key = Value.ref p.2.1 := by
  rcases h with h | ⟨o, h⟩
  · obtain ⟨od, I'⟩ := I.lock h True.intro
    obtain ⟨h1, h2, h3, ds, ep, h4, h5, h6, h7⟩ := frzD I' upd_same
    exact ⟨h1, h6, ds, ep, ⟨od, h2, h3, h4⟩, h5, fun i p hp => let ⟨en, u, e1, e2, _⟩ := h7 i p hp; ⟨en, e1, e2⟩⟩
  · obtain ⟨h1, h2, h3, ds, ep, h4, h5, h6, h7⟩ := frzD I h
    exact ⟨h1, h6, ds, ep, ⟨o, h2, h3, h4⟩, h5, fun i p hp => let ⟨en, u, e1, e2, _⟩ := h7 i p hp; ⟨en, e1, e2⟩⟩
theorem repsD_keys {S : Sy} : ∀ {kvs : List (PV × PV)} {es : List (NestedKey × Addr × V)}, RepsD S G m kvs es → Reps S G m (kvs.map (·.1)) (es.map fun p => .ref p.2.1)
  | _, _, .nil => .nil
  | _, _, .cons _ h1 _ r => .cons h1 (repsD_keys r)
theorem keys_vals : ∀ {es : List (NestedKey × Addr × V)} {l : List Value}, l.length = es.length → (∀ (i : Nat) (v : Value), l[i]? = some v → ∃ p, es[i]? = some p ∧ v = .ref p.2.1) → Vals (es.map fun p => V.ref p.2.1) l
  | [], [], _, _ => .nil
  | p :: es, v :: l, hl, h => by
    obtain ⟨q, e1, e2⟩ := h 0 v rfl
    cases e1
    exact .cons e2 (keys_vals (by simpa using hl) fun i v e => h (i + 1) v (by simpa using e))
  | [], _ :: _, hl, _ => by simp at hl
  | _ :: _, [], hl, _ => by simp at hl
theorem keys_acc {es : List (NestedKey × Addr × V)} {ds : Array DictEntry} {acc : Array Value} (hs : ds.size = es.length) (he : ∀ (i : Nat) (p : NestedKey × Addr × V), es[i]? = some p → ∃ en : DictEntry, ds[i]? = some en ∧ en.key = Value.ref p.2.1)
    (h : ItemsOf (fun i v => ∃ en, ds[i]? = some en ∧ v = en.key) acc ds.size) : Vals (es.map fun p => V.ref p.2.1) acc.toList := by
  refine keys_vals (by rw [Array.length_toList, h.1, hs]) fun i v e => ?_
  rw [Array.getElem?_toList] at e
  obtain ⟨en, e1, rfl⟩ := h.2 i v e
  have hi : i < es.length := by
    have := (Array.getElem?_eq_some_iff.mp e).1
    rw [h.1, hs] at this
    exact this
  obtain ⟨en', e3, e4⟩ := he i es[i] (List.getElem?_eq_getElem hi)
  rw [e1] at e3
  cases e3
  exact ⟨es[i], List.getElem?_eq_getElem hi, e4⟩
theorem listD_P (hc : X.calm = true) : CallR X (.type "list") (rC1 (sy X T) .F (b1P .list)) := by
  intro pins s σ H xs us Q I r h
  obtain ⟨G, m, st, a, x, rfl, wd, ra, h⟩ := h
  cases a with
  | dct kvs =>
    obtain ⟨p, es, rfl, hp, _, rr⟩ := ra.dct' wd
    obtain ⟨u, rfl, ru⟩ := vals1 r
    cases ru
    obtain ⟨lo, hl, ds, ep, raw, hs, he⟩ := raw_of I hp
    refine PySem.W.kdl_call (kdl_raw lo) (I.ok.hd hc) raw (by rw [hs]; exact hl) fun h' tk acc c kp hL hacc => ?_
    have hn : H s.heap.objs.size = none := I.hok.fresh (Nat.le_refl _)
    have hv := keys_acc hs he hacc
    refine ⟨.ref s.heap.objs.size, upd H s.heap.objs.size (.lst (es.map fun p => .ref p.2.1)), I.laid (t' := tk) kp (Nat.le_refl _) ⟨by rw [List.length_map]; exact hl, acc.toList, c, hv, by rw [Array.toArray_toList]; exact hL⟩, rfl, ?_⟩
    exact fin_lst wd h hn (repsD_keys rr)
  | lst ys => exact list_P (T := T) pins s σ H _ us Q I r ⟨G, m, st, .lst ys, x, rfl, wd, ra, h⟩
  | tup ys => exact list_P (T := T) pins s σ H _ us Q I r ⟨G, m, st, .tup ys, x, rfl, wd, ra, h⟩
  | _ => exact h.elim

/-! ### sorted -/
mutual
theorem reads_lt {h : Heap} : ∀ {v : Value} {d : PyData} {as : List Addr}, Reads h v d as → ∀ a, a ∈ as → a < h.objs.size
  | _, _, _, .none, a, ha => by simp at ha
  | _, _, _, .bool _, a, ha => by simp at ha
  | _, _, _, .int _ _, a, ha => by simp at ha
  | _, _, _, .str _ _, a, ha => by simp at ha
  | _, _, _, .list h1 _ _ r, a, ha => by
    rcases List.mem_cons.mp ha with e | ha
    · subst e; exact Heap.lt_size h1
    · exact reads_lts r a ha
  | _, _, _, .tuple _ _ _ r, a, ha => reads_lts r a ha
  | _, _, _, .dict h1 _ _ r1 r2, a, ha => by
    rcases List.mem_append.mp ha with ha | ha
    · rcases List.mem_cons.mp ha with e | ha
      · subst e; exact Heap.lt_size h1
      · exact reads_lts r1 a ha
    · exact reads_lts r2 a ha
theorem reads_lts {h : Heap} : ∀ {v : List Value} {d : List PyData} {as : List Addr}, ReadsAll h v d as → ∀ a, a ∈ as → a < h.objs.size
  | _, _, _, .nil, a, ha => by simp at ha
  | _, _, _, .cons r1 r2, a, ha => by
    rcases List.mem_append.mp ha with e | e
    · exact reads_lt r1 a e
    · exact reads_lts r2 a e
end
theorem readsE (I : Inv X pins σ H s) (wd : Wd (sy X T) G m st H) : ∀ {xs : List PV} {ws : List V} {vs : List Value}, Reps (sy X T) G m xs ws → Vals ws vs → dats DEP xs = true → W.EachIs (fun v (b : PV × V) => RelV b.2 v) vs (xs.zip ws) ∧ W.EachIs (fun v (b : PV × V) => ∃ as, Reads s.heap v (toD b.1) as) vs (xs.zip ws)
  | _, _, _, .nil, .nil, _ => ⟨.nil, .nil⟩
  | _, _, _, .cons r1 rr, .cons v1 vv, d => by
    simp only [dats, Bool.and_eq_true] at d
    obtain ⟨h1, h2⟩ := readsE I wd rr vv d.2
    exact ⟨.cons v1 h1, .cons (Dp.reads I _ _ _ (r1.dp wd DEP _ _ d.1) v1) h2⟩
theorem zip_mem {S : Sy} : ∀ {xs : List PV} {ws : List V}, Reps S G m xs ws → ∀ b, b ∈ xs.zip ws → Rep S G m b.1 b.2 ∧ b.1 ∈ xs
  | _, _, .nil, b, h => by simp at h
  | _, _, .cons r rr, b, h => by
    rw [List.zip_cons_cons] at h
    rcases List.mem_cons.mp h with e | h
    · subst e; exact ⟨r, List.mem_cons_self⟩
    · obtain ⟨h1, h2⟩ := zip_mem rr b h
      exact ⟨h1, List.mem_cons_of_mem _ h2⟩
theorem zip_fst {S : Sy} : ∀ {xs : List PV} {ws : List V}, Reps S G m xs ws → (xs.zip ws).map (·.1) = xs
  | _, _, .nil => rfl
  | _, _, .cons r rr => by rw [List.zip_cons_cons, List.map_cons, zip_fst rr]
theorem zip_len {S : Sy} {xs : List PV} {ws : List V} (r : Reps S G m xs ws) : (xs.zip ws).length = ws.length := by rw [List.length_zip, r.length, Nat.min_self]
theorem reps_of {S : Sy} : ∀ (l : List (PV × V)), (∀ b, b ∈ l → Rep S G m b.1 b.2) → Reps S G m (l.map (·.1)) (l.map (·.2))
  | [], _ => .nil
  | b :: l, h => .cons (h b List.mem_cons_self) (reps_of l fun c hc => h c (List.mem_cons_of_mem _ hc))
theorem each_vals : ∀ {l : List (PV × V)} {vs : List Value}, W.EachIs (fun v (b : PV × V) => RelV b.2 v) vs l → Vals (l.map (·.2)) vs
  | _, _, .nil => .nil
  | _, _, .cons h t => .cons h (each_vals t)
theorem dats_mem : ∀ {n : Nat} {xs : List PV} {x : PV}, dats n xs = true → x ∈ xs → dat n x = true
  | _, _ :: _, _, h, hx => by
    simp only [dats, Bool.and_eq_true] at h
    rcases List.mem_cons.mp hx with e | e
    · subst e; exact h.1
    · exact dats_mem h.2 e
/-- what the library asks of items to be sorted -/
structure Ord (bs : List (PV × V)) : Prop where
  dat : ∀ b, b ∈ bs → dat DEP b.1 = true
  alk : ∀ b, b ∈ bs → ∀ c, c ∈ bs → alikeP b.1 c.1 = true
theorem ord_of {S : Sy} {xs : List PV} {ws : List V} (r : Reps S G m xs ws) (h : ordOk xs = true) : Ord (xs.zip ws) := by
  unfold ordOk datS alkAll at h
  rw [Bool.and_eq_true, Bool.and_eq_true] at h
  refine ⟨fun b hb => dats_mem h.1 (zip_mem r b hb).2, fun b hb c hc => ?_⟩
  exact List.all_eq_true.mp (List.all_eq_true.mp h.2.1 _ (zip_mem r b hb).2) _ (zip_mem r c hc).2
theorem Ord.allAlike {bs : List (PV × V)} (o : Ord bs) : W.AllAlike (bs.map fun b => toD b.1) := by
  intro d hd d' hd'
  obtain ⟨b, hb, rfl⟩ := List.mem_map.mp hd
  obtain ⟨c, hc, rfl⟩ := List.mem_map.mp hd'
  show W.alike (toD b.1) (toD c.1) = true
  rw [alike_toD DEP _ _ (o.dat b hb) (o.dat c hc)]
  exact o.alk b hb c hc
theorem sortable_of {bs : List (PV × V)} (h : ((bs.map (·.1)).all neTup || (bs.map (·.1)).all noTup) = true) : W.Sortable (bs.map fun b => toD b.1) := by
  rw [Bool.or_eq_true] at h
  rcases h with h | h
  · refine .inl fun d hd => ?_
    obtain ⟨b, hb, rfl⟩ := List.mem_map.mp hd
    have := List.all_eq_true.mp h b.1 (List.mem_map.mpr ⟨b, hb, rfl⟩)
    cases q : b.1 with
    | tup xs =>
      cases xs with
      | nil => rw [q] at this; cases this
      | cons x xs => exact ⟨toD x, toD.toDs xs, rfl⟩
    | _ => rw [q] at this; cases this
  · refine .inr fun d hd => ?_
    obtain ⟨b, hb, rfl⟩ := List.mem_map.mp hd
    have := List.all_eq_true.mp h b.1 (List.mem_map.mpr ⟨b, hb, rfl⟩)
    cases q : b.1 with
    | non => rw [q] at this; cases this
    | tup xs => rw [q] at this; cases this
    | rol _ => rw [q] at this; cases this
    | tpx _ => rw [q] at this; cases this
    | dct _ => rw [q] at this; cases this
    | ref _ => rw [q] at this; cases this
    | fn _ => rw [q] at this; cases this
    | _ => exact ⟨fun z => (nomatch z), fun xs z => (nomatch z)⟩
theorem sorted_fst {bs : List (PV × V)} (o : Ord bs) {ys : List PV} (h : sortP (bs.map (·.1)) = some ys) : ys = (bs.mergeSort (W.dataLe false fun b => toD b.1)).map (·.1) := by
  have tot := W.sortLe_total (listOrd itemOrd) false fun b : PV × V => W.keyToks (toD b.1)
  refine sortP_spec (fun b : PV × V => b.1) (W.dataLe false fun b => toD b.1) tot.trans (fun a b => by rw [Bool.or_eq_true]; exact tot.total a b) bs (fun x y k hx hy q => ?_) bs (fun _ h => h) ys h
  show (!W.dataLt (toD y.1) (toD x.1)) = !k
  rw [lt_toD DEP _ _ k (o.dat y hy) (o.dat x hx) (o.alk y hy x hx) q]
theorem room_of (hu : X.A.units + 200 < cLine) {bs : List (PV × V)} (o : Ord bs) (A : Around) (hA : A.units ≤ X.A.units + 2) : ∀ b, b ∈ bs → A.units + 2 + (toD b.1).depth < cLine := fun b hb => by
  have := (shaped_toD DEP b.1 (o.dat b hb)).2
  unfold DEP at this
  omega
/-- what is sorted -/
theorem sort_fin {S : Sy} {xs ys : List PV} {ws : List V} {out : List Value} (r : Reps S G m xs ws) (o : Ord (xs.zip ws)) (hy : sortP xs = some ys) (e : W.EachIs (fun v (b : PV × V) => RelV b.2 v) out ((xs.zip ws).mergeSort (W.dataLe false fun b => toD b.1))) :
    ∃ us, Reps S G m ys us ∧ Vals us out ∧ us.length = ws.length := by
  have e1 := sorted_fst o (by rw [zip_fst r]; exact hy)
  refine ⟨((xs.zip ws).mergeSort (W.dataLe false fun b => toD b.1)).map (·.2), ?_, each_vals e, by rw [List.length_map, (List.mergeSort_perm _ _).length_eq, zip_len r]⟩
  rw [e1]
  exact reps_of _ fun b hb => (zip_mem r b ((List.mergeSort_perm _ _).mem_iff.mp hb)).1
theorem sorted_P (hu : X.A.units + 200 < cLine) (hc : X.calm = true) : CallR X (.builtin "sorted") (rC1 (sy X T) .F (b1P .sorted)) := by
  intro pins s σ H xs us Q I r h
  obtain ⟨G, m, st, a, x, rfl, wd, ra, h⟩ := h
  cases a with
  | lst ys =>
    obtain ⟨p, ws, rfl, hp, _, rr⟩ := ra.lst' wd
    obtain ⟨u, rfl, ru⟩ := vals1 r
    cases ru
    by_cases c : (ordOk ys && (ys.all neTup || ys.all noTup)) = true
    · have hb : b1P .sorted (.lst ys) = (sortP ys).map .lst := by simp only [b1P]; rw [if_pos c]
      cases q : sortP ys with
      | none => rw [hb, q] at h; exact h.elim
      | some zs =>
        rw [hb, q] at h
        rw [Bool.and_eq_true] at c
        obtain ⟨its, rv, pl, hz⟩ := I.list (.inl (.inl hp))
        have o := ord_of rr c.1
        have dd : dats DEP ys = true := by
          have := c.1
          unfold ordOk datS at this
          rw [Bool.and_eq_true] at this
          exact this.1
        obtain ⟨E1, E2⟩ := readsE I wd rr rv dd
        refine W.sorted_data (bs := ys.zip ws) (enc := fun b => toD b.1) (R := fun v (b : PV × V) => RelV b.2 v) pl.isList E1 E2 o.allAlike (sortable_of (by rw [zip_fst rr]; exact c.2)) (by rw [zip_len rr]; exact hz) (room_of hu o X.A (by omega)) fun out hl eo => ?_
        obtain ⟨vs', r1, r2, r3⟩ := sort_fin rr o q eo
        have hn : H (s.heap.objs.size + 1) = none := I.hok.fresh (Nat.le_succ _)
        obtain ⟨n, hat⟩ := sortedAll_at s.heap its out.toArray
        refine ⟨.ref (s.heap.objs.size + 1), upd H (s.heap.objs.size + 1) (.lst vs'), I.laid (t' := s.toks) (fun b u e => sortedAll_old e) (Nat.le_succ _) ⟨by rw [r3]; exact hz, out, n, r2, hat⟩, rfl, ?_⟩
        exact fin_lst wd h hn r1
    · rw [show b1P .sorted (.lst ys) = none by simp only [b1P]; rw [if_neg c]] at h
      exact h.elim
  | dct kvs =>
    obtain ⟨p, es, rfl, hp, _, rr⟩ := ra.dct' wd
    obtain ⟨u, rfl, ru⟩ := vals1 r
    cases ru
    by_cases c : (ordOk (kvs.map (·.1)) && (kvs.map (·.1)).all neTup) = true
    · have hb : b1P .sorted (.dct kvs) = (sortP (kvs.map (·.1))).map .lst := by simp only [b1P]; rw [if_pos c]
      cases q : sortP (kvs.map (·.1)) with
      | none => rw [hb, q] at h; exact h.elim
      | some zs =>
        rw [hb, q] at h
        rw [Bool.and_eq_true] at c
        obtain ⟨lo, hl, ds, ep, raw, hs, he⟩ := raw_of I hp
        refine Calls.call_function_entry PyProof.Rows.kind_sorted PyProof.Rows.plain_sorted PyProof.Rows.entry_sorted (PyProof.Rows.args_sorted1 _) ?_
        unfold Builtin.«sorted»
        refine wpAny_bind (m := checkCount "sorted" 1 1 _) (wpAny_pure ?_)
        refine wpAny_bind (PySem.W.kdu_collect (A := X.A.in1) (kdl_raw lo) (I.ok.hd hc) raw (by rw [hs]; exact hl) fun h' tk acc hk hacc => ?_)
        have hv := keys_acc hs he hacc
        have hal : acc.toList.length = es.length := by rw [Array.length_toList, hacc.1, hs]
        have I1 : Inv X pins σ H { s with heap := h', toks := tk } := I.kept hk
        refine wpAny_bind (wpAny_newList ?_ (by rw [hal]; exact hl))
        have hoL : (h'.push (seqObj "list" acc.toList.toArray 0)).get? h'.objs.size = some (seqObj "list" acc.toList.toArray 0) := Heap.get?_push_size _ rfl
        show wpAny _ _ _ _ _ { s with heap := h'.push (seqObj "list" acc.toList.toArray 0), toks := tk }
        have rk := repsD_keys rr
        have o := ord_of rk c.1
        have dd : dats DEP (kvs.map (·.1)) = true := by
          have := c.1
          unfold ordOk datS at this
          rw [Bool.and_eq_true] at this
          exact this.1
        obtain ⟨E1, E2⟩ := readsE I1 wd rk hv dd
        have kp : ∀ b u, h'.get? b = some u → (h'.push (seqObj "list" acc.toList.toArray 0)).get? b = some u := fun b u e => Heap.get?_push_of_some _ e
        have E3 : W.EachIs (fun v (b : PV × V) => ∃ as, Reads (h'.push (seqObj "list" acc.toList.toArray 0)) v (toD b.1) as ∧ h'.objs.size ∉ as) acc.toList ((kvs.map (·.1)).zip (es.map fun p => V.ref p.2.1)) :=
          E2.mono fun v b ⟨as, r⟩ => ⟨as, PyProof.Rows.Reads.keeps kp r, fun z => Nat.lt_irrefl _ (reads_lt r _ z)⟩
        refine wpAny_bind (wpAny_holding (W.list_sort_data (s := { s with heap := h'.push (seqObj "list" acc.toList.toArray 0), toks := tk }) hoL E1 E3 o.allAlike (sortable_of (by rw [zip_fst rk]; rw [c.2]; rfl)) (by rw [zip_len rk, List.length_map]; exact hl) (fun b hb => ?_) fun out ho eo => ?_))
        · have := room_of hu o X.A (by omega) b hb
          show X.A.units + 1 + 1 + _ < _
          omega
        · obtain ⟨vs', r1, r2, r3⟩ := sort_fin rk o q eo
          obtain ⟨e', he'⟩ := PyProof.Rows.sortedHeap_at (vs := acc.toList) (out := out.toArray) hoL
          have hn : H h'.objs.size = none := I1.hok.fresh (Nat.le_refl _)
          refine wpAny_pure ⟨_, rfl, .ref h'.objs.size, upd H h'.objs.size (.lst vs'), I1.laid (t' := tk) (fun b u e => ?_) (Nat.le_refl _) ⟨by rw [r3, List.length_map]; exact hl, out, e', r2, he'⟩, rfl, ?_⟩
          · have hb : b < h'.objs.size := Heap.lt_size e
            rw [PyProof.Rows.sortedHeap_old (Nat.ne_of_lt hb) (by rw [size_push']; exact Nat.lt_succ_of_lt hb)]
            exact Heap.get?_push_of_some _ e
          · exact fin_lst wd h hn r1
    · rw [show b1P .sorted (.dct kvs) = none by simp only [b1P]; rw [if_neg c]] at h
      exact h.elim
  | _ => exact h.elim
end
end RP
namespace RP
open PySem PySem.Spec PyProof.Rows L2
mutual
theorem toD_inj : ∀ (n : Nat) (x y : PV), dat n x = true → dat n y = true → toD x = toD y → x = y
  | n, .non, y, _, hy, e => by cases y <;> simp_all [toD, dat]
  | n, .bl a, y, _, hy, e => by cases y <;> simp_all [toD, dat]
  | n, .int a, y, _, hy, e => by cases y <;> simp_all [toD, dat]
  | n, .str a, y, _, hy, e => by cases y <;> simp_all [toD, dat]
  | 0, .tup a, y, hx, hy, e => by simp [dat] at hx
  | 0, .lst a, y, hx, hy, e => by simp [dat] at hx
  | n + 1, .tup a, y, hx, hy, e => by
    cases y with
    | tup b =>
      simp only [toD, PyData.tuple.injEq, dat] at *
      rw [toDs_inj n a b hx hy e]
    | _ => simp [toD] at e
  | n + 1, .lst a, y, hx, hy, e => by
    cases y with
    | lst b =>
      simp only [toD, PyData.list.injEq, dat] at *
      rw [toDs_inj n a b hx hy e]
    | _ => simp [toD] at e
  | n, .dct _, y, hx, _, _ | n, .ref _, y, hx, _, _ | n, .fn _, y, hx, _, _ | n, .rol _, y, hx, _, _ | n, .tpx _, y, hx, _, _ => by simp [dat] at hx
theorem toDs_inj : ∀ (n : Nat) (x y : List PV), dats n x = true → dats n y = true → toD.toDs x = toD.toDs y → x = y
  | n, [], [], _, _, _ => rfl
  | n, [], _ :: _, _, _, e => by simp [toD.toDs] at e
  | n, _ :: _, [], _, _, e => by simp [toD.toDs] at e
  | n, a :: as, b :: bs, hx, hy, e => by
    simp only [toD.toDs, List.cons.injEq, dats, Bool.and_eq_true] at *
    rw [toD_inj n a b hx.1 hy.1 e.1, toDs_inj n as bs hx.2 hy.2 e.2]
    exact ⟨rfl, rfl⟩
end
theorem minP_toD : ∀ (xs : List PV) (x z : PV), (∀ a, a ∈ x :: xs → dat DEP a = true) → (∀ a, a ∈ x :: xs → ∀ b, b ∈ x :: xs → alikeP a b = true) → minP x xs = some z → W.minD (toD x) (toD.toDs xs) = toD z ∧ z ∈ x :: xs
  | [], x, z, _, _, h => by simp [minP] at h; subst h; exact ⟨rfl, List.mem_cons_self⟩
  | y :: xs, x, z, hd, ha, h => by
    unfold minP at h
    cases q : ltP y x with
    | none => rw [q] at h; cases h
    | some k =>
      rw [q] at h
      have e := lt_toD DEP y x k (hd y (by simp)) (hd x (by simp)) (ha y (by simp) x (by simp)) q
      have step : W.minD (toD x) (toD.toDs (y :: xs)) = W.minD (if k = true then toD y else toD x) (toD.toDs xs) := by
        show W.minD (toD x) (toD y :: toD.toDs xs) = _
        unfold W.minD
        rw [List.foldl_cons, e]
      cases k with
      | true =>
        obtain ⟨h1, h2⟩ := minP_toD xs y z (fun a m => hd a (List.mem_cons_of_mem _ m)) (fun a m b m' => ha a (List.mem_cons_of_mem _ m) b (List.mem_cons_of_mem _ m')) h
        exact ⟨by rw [step, if_pos rfl, h1], List.mem_cons_of_mem _ h2⟩
      | false =>
        have sub : ∀ a, a ∈ x :: xs → a ∈ x :: y :: xs := fun a m => by
          rcases List.mem_cons.mp m with e | m
          · subst e; simp
          · simp [m]
        obtain ⟨h1, h2⟩ := minP_toD xs x z (fun a m => hd a (sub a m)) (fun a m b m' => ha a (sub a m) b (sub b m')) h
        exact ⟨by rw [step, if_neg (by decide), h1], sub z h2⟩
theorem maxP_toD : ∀ (xs : List PV) (x z : PV), (∀ a, a ∈ x :: xs → dat DEP a = true) → (∀ a, a ∈ x :: xs → ∀ b, b ∈ x :: xs → alikeP a b = true) → maxP x xs = some z → W.maxD (toD x) (toD.toDs xs) = toD z ∧ z ∈ x :: xs
  | [], x, z, _, _, h => by simp [maxP] at h; subst h; exact ⟨rfl, List.mem_cons_self⟩
  | y :: xs, x, z, hd, ha, h => by
    unfold maxP at h
    cases q : ltP x y with
    | none => rw [q] at h; cases h
    | some k =>
      rw [q] at h
      have e := lt_toD DEP x y k (hd x (by simp)) (hd y (by simp)) (ha x (by simp) y (by simp)) q
      have step : W.maxD (toD x) (toD.toDs (y :: xs)) = W.maxD (if k = true then toD y else toD x) (toD.toDs xs) := by
        show W.maxD (toD x) (toD y :: toD.toDs xs) = _
        unfold W.maxD
        rw [List.foldl_cons, e]
      cases k with
      | true =>
        obtain ⟨h1, h2⟩ := maxP_toD xs y z (fun a m => hd a (List.mem_cons_of_mem _ m)) (fun a m b m' => ha a (List.mem_cons_of_mem _ m) b (List.mem_cons_of_mem _ m')) h
        exact ⟨by rw [step, if_pos rfl, h1], List.mem_cons_of_mem _ h2⟩
      | false =>
        have sub : ∀ a, a ∈ x :: xs → a ∈ x :: y :: xs := fun a m => by
          rcases List.mem_cons.mp m with e | m
          · subst e; simp
          · simp [m]
        obtain ⟨h1, h2⟩ := maxP_toD xs x z (fun a m => hd a (sub a m)) (fun a m b m' => ha a (sub a m) b (sub b m')) h
        exact ⟨by rw [step, if_neg (by decide), h1], sub z h2⟩
section
variable {X : Cx} {T : List (Addr × Str)} {pins : List (Addr × Obj)} {σ : L2.St} {H G : Hp} {m : List Addr} {s : Shared} {st : AS}
theorem read_one {h : Heap} {v : Value} {x y : PV} {as bs : List Addr} (hx : dat DEP x = true) (hy : dat DEP y = true) (r1 : Reads h v (toD x) as) (r2 : Reads h v (toD y) bs) : x = y := by
  refine toD_inj DEP x y hx hy ?_
  rw [← SeqAt.readOf_eq (shaped_toD DEP x hx).1 r1, ← SeqAt.readOf_eq (shaped_toD DEP y hy).1 r2]
theorem ord_parts {xs : List PV} (h : ordOk xs = true) : dats DEP xs = true ∧ (∀ a, a ∈ xs → dat DEP a = true) ∧ (∀ a, a ∈ xs → ∀ b, b ∈ xs → alikeP a b = true) ∧ ∀ x, x ∈ xs → isNonP x = false := by
  unfold ordOk datS alkAll at h
  rw [Bool.and_eq_true, Bool.and_eq_true] at h
  exact ⟨h.1, fun a ha => dats_mem h.1 ha, fun a ha b hb => List.all_eq_true.mp (List.all_eq_true.mp h.2.1 a ha) b hb, fun x hx => by
    have := List.all_eq_true.mp h.2.2 x hx
    simpa using this⟩
theorem vals_back : ∀ {xs : List V} {us : List Value} {i : Nat} {u : Value}, Vals xs us → us[i]? = some u → ∃ x, xs[i]? = some x ∧ RelV x u
  | _, _, _, _, .nil, e => by simp at e
  | _, _, 0, _, .cons r _, e => by simp at e; subst e; exact ⟨_, rfl, r⟩
  | _, _, i + 1, u, .cons _ t, e => by
    obtain ⟨x, h1, h2⟩ := vals_back (i := i) (u := u) t (by simpa using e)
    exact ⟨x, by simpa using h1, h2⟩
theorem alikeAll_of {xs : List PV} (h : ordOk xs = true) : W.AlikeAll (toD.toDs xs) := by
  obtain ⟨_, h1, h2, hn⟩ := ord_parts h
  have mem : ∀ {xs : List PV} {d : PyData}, d ∈ toD.toDs xs → ∃ x, x ∈ xs ∧ d = toD x := by
    intro xs
    induction xs with
    | nil => intro d h; simp [toD.toDs] at h
    | cons x xs ih =>
      intro d h
      simp only [toD.toDs, List.mem_cons] at h
      rcases h with e | h
      · exact ⟨x, List.mem_cons_self, e⟩
      · obtain ⟨y, hy, e⟩ := ih h
        exact ⟨y, List.mem_cons_of_mem _ hy, e⟩
  refine ⟨fun d hd d' hd' => ?_, fun d hd => ?_⟩
  · obtain ⟨x, hx, rfl⟩ := mem hd
    obtain ⟨y, hy, rfl⟩ := mem hd'
    rw [alike_toD DEP _ _ (h1 x hx) (h1 y hy)]
    exact h2 x hx y hy
  · obtain ⟨x, hx, rfl⟩ := mem hd
    have a := hn x hx
    have b := h1 x hx
    cases x <;> simp_all [toD, isNonP, dat]
theorem depth_toDs {xs : List PV} (h : dats DEP xs = true) : PyData.depthAll (toD.toDs xs) ≤ DEP := (shaped_toDs DEP xs h).2
/-- an item found by what it reads as -/
theorem item_of (I : Inv X pins σ H s) (wd : Wd (sy X T) G m st H) {xs : List PV} {ws : List V} {its : List Value} {z : PV} {i : Nat} {v : Value} {h' : Heap} {bs : List Addr} (rr : Reps (sy X T) G m xs ws) (rv : Vals ws its) (hd : ∀ a, a ∈ xs → dat DEP a = true) (hz : dat DEP z = true) (hv : its[i]? = some v)
    (kp : ∀ b o, s.heap.get? b = some o → h'.get? b = some o) (r : Reads h' v (toD z) bs) : ∃ w, Rep (sy X T) G m z w ∧ RelV w v := by
  obtain ⟨w, hw, rw'⟩ := vals_back rv hv
  obtain ⟨x, hx, rx⟩ := rr.get' hw
  have dx := hd x (List.mem_of_getElem? hx)
  obtain ⟨as, r1⟩ := Dp.reads I _ _ _ (rx.dp wd DEP _ _ dx) rw'
  have := read_one dx hz (PyProof.Rows.Reads.keeps kp r1) r
  subst this
  exact ⟨w, rx, rw'⟩
/-- an argument's items, as data -/
theorem reads_items (I : Inv X pins σ H s) (wd : Wd (sy X T) G m st H) {xs : List PV} {ws : List V} {its : List Value} (rr : Reps (sy X T) G m xs ws) (rv : Vals ws its) (hd : dats DEP xs = true) : ∃ as, ReadsAll s.heap its (toD.toDs xs) as := Dp.readsAll I _ _ _ (Reps.dp wd DEP _ _ hd rr) rv
theorem min_P (hu : X.A.units + 200 < cLine) (hc : X.calm = true) : CallR X (.builtin "min") (rC1 (sy X T) .E (b1P .min)) := by
  intro pins s σ H xs us Q I r h
  obtain ⟨G, m, st, a, x, rfl, wd, ra, h⟩ := h
  have go : ∀ (y : PV) (ys : List PV) (ws : List V) (its : List Value) (z : PV), ordOk (y :: ys) = true → minP y ys = some z → Reps (sy X T) G m (y :: ys) ws → Vals ws its → Post (sy X T) (RepM (sy X T) .E) G m H (opt (some z) st) Q W0 → X.A.units + 1 + PyData.depthAll (toD y :: toD.toDs ys) < cLine ∧ W.AlikeAll (toD y :: toD.toDs ys) ∧ (∃ as, ReadsAll s.heap its (toD y :: toD.toDs ys) as) ∧
      ∀ (i : Nat) v h' tk bs, its[i]? = some v → Reads h' v (W.minD (toD y) (toD.toDs ys)) bs → (∀ b o, s.heap.get? b = some o → h'.get? b = some o) → EP X pins σ Q v { s with heap := h', toks := tk } := by
    intro y ys ws its z ho hz rr rv hp
    obtain ⟨d1, d2, d3, d4⟩ := ord_parts ho
    have hdep := depth_toDs d1
    unfold DEP at hdep
    obtain ⟨e1, e2⟩ := minP_toD ys y z d2 d3 hz
    refine ⟨by show X.A.units + 1 + PyData.depthAll (toD.toDs (y :: ys)) < _; omega, alikeAll_of ho, reads_items I wd rr rv d1, fun i v h' tk bs hv hr kp => ?_⟩
    rw [e1] at hr
    obtain ⟨w, rw1, rw2⟩ := item_of I wd rr rv d2 (d2 z e2) hv kp hr
    exact ⟨w, H, I.kept kp, rw2, hp.ret wd rw1⟩
  cases a with
  | lst zs =>
    obtain ⟨p, ws, rfl, hp, _, rr⟩ := ra.lst' wd
    obtain ⟨u, rfl, ru⟩ := vals1 r
    cases ru
    cases zs with
    | nil => exact h.elim
    | cons y ys =>
      by_cases c : ordOk (y :: ys) = true
      · have hb : b1P .min (.lst (y :: ys)) = minP y ys := by simp only [b1P]; rw [if_pos c]
        cases q : minP y ys with
        | none => rw [hb, q] at h; exact h.elim
        | some z =>
          rw [hb, q] at h
          obtain ⟨its, rv, pl, hz⟩ := I.list (.inl (.inl hp))
          obtain ⟨g1, g2, ⟨as, g3⟩, g4⟩ := go y ys ws its z c q rr rv h
          exact W.min_list_data (I.ok.hd hc) pl.isList (by simpa using g3) g2 g1 fun i v h' tk bs hv hr kp => g4 i v h' tk bs (by simpa using hv) hr kp
      · rw [show b1P .min (.lst (y :: ys)) = none by simp only [b1P]; rw [if_neg c]] at h
        exact h.elim
  | tup zs =>
    obtain ⟨p, ws, rfl, _, hp, rr⟩ := ra.tup' wd
    obtain ⟨u, rfl, ru⟩ := vals1 r
    cases ru
    cases zs with
    | nil => exact h.elim
    | cons y ys =>
      by_cases c : ordOk (y :: ys) = true
      · have hb : b1P .min (.tup (y :: ys)) = minP y ys := by simp only [b1P]; rw [if_pos c]
        cases q : minP y ys with
        | none => rw [hb, q] at h; exact h.elim
        | some z =>
          rw [hb, q] at h
          obtain ⟨its, rv, pl, hz⟩ := I.tuple hp
          obtain ⟨g1, g2, ⟨as, g3⟩, g4⟩ := go y ys ws its z c q rr rv h
          exact W.min_tuple_data (vs := its.toArray) (I.ok.hd hc) pl (by simpa using g3) g2 g1 fun i v h' tk bs hv hr kp => g4 i v h' tk bs (by simpa using hv) hr kp
      · rw [show b1P .min (.tup (y :: ys)) = none by simp only [b1P]; rw [if_neg c]] at h
        exact h.elim
  | tpx zs =>
    obtain ⟨p, ws, o, rfl, _, _, _, hp, rr⟩ := ra.tpx' wd
    obtain ⟨u, rfl, ru⟩ := vals1 r
    cases ru
    cases zs with
    | nil => exact h.elim
    | cons y ys =>
      by_cases c : ordOk (y :: ys) = true
      · have hb : b1P .min (.tpx (y :: ys)) = minP y ys := by simp only [b1P]; rw [if_pos c]
        cases q : minP y ys with
        | none => rw [hb, q] at h; exact h.elim
        | some z =>
          rw [hb, q] at h
          obtain ⟨its, rv, pl, hz⟩ := I.tuple hp
          obtain ⟨g1, g2, ⟨as, g3⟩, g4⟩ := go y ys ws its z c q rr rv h
          exact W.min_tuple_data (vs := its.toArray) (I.ok.hd hc) pl (by simpa using g3) g2 g1 fun i v h' tk bs hv hr kp => g4 i v h' tk bs (by simpa using hv) hr kp
      · rw [show b1P .min (.tpx (y :: ys)) = none by simp only [b1P]; rw [if_neg c]] at h
        exact h.elim
  | _ => exact h.elim
theorem max_P (hu : X.A.units + 200 < cLine) (hc : X.calm = true) : CallR X (.builtin "max") (rC1 (sy X T) .E (b1P .max)) := by
  intro pins s σ H xs us Q I r h
  obtain ⟨G, m, st, a, x, rfl, wd, ra, h⟩ := h
  cases a with
  | lst zs =>
    obtain ⟨p, ws, rfl, hp, _, rr⟩ := ra.lst' wd
    obtain ⟨u, rfl, ru⟩ := vals1 r
    cases ru
    cases zs with
    | nil => exact h.elim
    | cons y ys =>
      by_cases c : ordOk (y :: ys) = true
      · have hb : b1P .max (.lst (y :: ys)) = maxP y ys := by simp only [b1P]; rw [if_pos c]
        cases q : maxP y ys with
        | none => rw [hb, q] at h; exact h.elim
        | some z =>
          rw [hb, q] at h
          obtain ⟨its, rv, pl, hz⟩ := I.list (.inl (.inl hp))
          obtain ⟨d1, d2, d3, d4⟩ := ord_parts c
          have hdep := depth_toDs d1
          unfold DEP at hdep
          obtain ⟨e1, e2⟩ := maxP_toD ys y z d2 d3 q
          obtain ⟨as, g3⟩ := reads_items I wd rr rv d1
          have g3 : ReadsAll s.heap its (toD y :: toD.toDs ys) as := g3
          refine W.max_list_data (x := toD y) (xs := toD.toDs ys) (I.ok.hd hc) pl.isList (by simpa using g3) (alikeAll_of c) (by show X.A.units + 1 + PyData.depthAll (toD.toDs (y :: ys)) < _; omega) fun i v h' tk bs hv hr kp => ?_
          rw [e1] at hr
          obtain ⟨w, rw1, rw2⟩ := item_of I wd rr rv d2 (d2 z e2) (by simpa using hv) kp hr
          exact ⟨w, H, I.kept kp, rw2, h.ret wd rw1⟩
      · rw [show b1P .max (.lst (y :: ys)) = none by simp only [b1P]; rw [if_neg c]] at h
        exact h.elim
  | _ => exact h.elim
/-- a new tuple whose object is known -/
theorem tuplex_P : CallR X (.type "tuple") (rC1 (sy X T) .E (b1P .tuplex)) := by
  intro pins s σ H xs us Q I r h
  obtain ⟨G, m, st, a, x, rfl, wd, ra, h⟩ := h
  cases a with
  | lst ys =>
    obtain ⟨p, vs, rfl, hp, _, rr⟩ := ra.lst' wd
    obtain ⟨u, rfl, rx⟩ := vals1 r
    cases rx
    obtain ⟨its, r', pl, hz⟩ := I.list (.inl (.inl hp))
    have hlen := r'.length
    refine call_tuple_list pl.isList (fun h' kp => ?_) (by simp only [List.size_toArray] <;> omega)
    have I1 : Inv X pins σ H { s with heap := h' } := I.kept (t' := s.toks) kp
    have hn : H h'.objs.size = none := I1.hok.fresh (Nat.le_refl _)
    have hg := Heap.get?_push_size h' (o := { cls := .type "tuple", data := .seq its.toArray }) rfl
    have I2 : Inv X pins σ (upd H h'.objs.size (.frz { cls := .type "tuple", data := .seq its.toArray } (.tup vs))) { s with heap := h'.push { cls := .type "tuple", data := .seq its.toArray } } :=
      I1.laid (t' := s.toks) (fun b o e => Heap.get?_push_of_some _ e) (Nat.le_refl _) ⟨hg, hz, its, r', IsTup.new _ _⟩
    refine ⟨.ref h'.objs.size, _, I2, rfl, fin_frz wd h hn ntbl_frz (.tpx upd_same rfl (rr.mono (fun b u q => by rw [upd_ne (ne_of_none q (wd.Gnone hn))]; exact q) ⟨[], by simp⟩))⟩
  | _ => exact h.elim
end
end RP

/-! Fw17: index, dict displays, dict(..), {..}.get, sorted(set(..)). Own work. -/
namespace RP
open PySem PySem.Spec PyProof.Rows L2

/-- one step of a chain whose beginning lies further back -/
theorem Post.stepB {α β γ δ : Type} {S : Sy} {R : RT α β} {R' : RT γ δ} {Gb Hb G H : Hp} {mb m : List Addr} {x : M γ} {f : γ → M α} {s : AS} {Q : β → Hp → Prop} {W : XK} (h : Post S R Gb mb Hb (bnd x f s) Q W) (e : Ext mb m Gb G Hb H)
    {Q' : δ → Hp → Prop} (k : ∀ a s1 G1 m1 H1 v, Ext m m1 G G1 H H1 → Wd S G1 m1 s1 H1 → R' H G1 m1 H1 a v → Post S R Gb mb Hb (f a s1) Q W → Q' v H1) : Post S R' G m H (x s) Q' W := by
  unfold bnd at h
  cases q : x s with
  | ok a s1 =>
    rw [q] at h
    exact fun G1 m1 H1 v e1 wd r => k a s1 G1 m1 H1 v e1 wd r h
  | exc x' s1 =>
    rw [q] at h
    exact fun G1 m1 H1 c d e1 wd r => h G1 m1 H1 c d (e.trans e1) wd r
  | stuck =>
    rw [q] at h
    exact h
section
variable {X : Cx} {T : List (Addr × Str)} {W : XK} {pos : Pos}
/-! ### dict displays -/
theorem de_dnew : PE X (.Dict [] [] pos) (tD (sy X T) .F W fun _ => RP.ret (.dct [])) := by
  refine ⟨fun pins s σ H Q I h => ?_⟩
  obtain ⟨G, m, st, H₀, r, a, p⟩ := h
  have hn : H s.heap.objs.size = none := I.hok.fresh (Nat.le_refl _)
  refine wpAny_Dict_empty ⟨.ref s.heap.objs.size, upd H s.heap.objs.size (DctO X.prog X.w s.heap.objs.size []), I.laid (t' := s.toks) (fun _ _ q => Heap.get?_push_of_some _ q) (Nat.le_refl _) (dct_new (beq_eq_false_iff_ne.mpr (Ne.symm (Nat.ne_of_lt I.big)))), rfl, ?_⟩
  exact fin_new (k := .F) a.1 p hn (.dct upd_same (a.1.mnone hn) (a.1.Gnone hn) hn .nil)
/-- the one pair of a display goes into the new dict at D -/
def D1Put (S : Sy) (D : Addr) (y z : V) (H : Hp) (Nx : Hp → Prop) : Prop := ∃ G m k x b, y = .ref b ∧ (∀ c o, G c = some o → H c = some o) ∧ H D = some (DctO S.P S.w D []) ∧ keyT k = true ∧ Rep S G m k (.ref b) ∧ Rep S G m x z ∧
  ∀ es', RepsD S G m [(k, x)] es' → Nx (upd H D (DctO S.P S.w D es'))
def tD1 (S : Sy) (tk tv : TE) : TE := fun σ H Q => ∀ p, H p = none → tk σ (upd H p (DctO S.P S.w p [])) fun y H2 => tv σ H2 fun z H3 => D1Put S p y z H3 (Q (.ref p))
theorem pe_d1 {k v : Expr} {tk tv : TE} (hu : X.A.units + 200 < cLine) (hk : PE X k tk) (hv : PE X v tv) : PE X (.Dict [some k] [v] pos) (tD1 (sy X T) tk tv) := by
  refine ⟨fun pins s σ H Q I h => ?_⟩
  have hn : H s.heap.objs.size = none := I.hok.fresh (Nat.le_refl _)
  have I1 : Inv X pins σ (upd H s.heap.objs.size (DctO X.prog X.w s.heap.objs.size [])) { s with heap := s.heap.push { cls := .type "dict", data := .dict #[] } } :=
    I.laid (t' := s.toks) (fun _ _ q => Heap.get?_push_of_some _ q) (Nat.le_refl _) (dct_new (beq_eq_false_iff_ne.mpr (Ne.symm (Nat.ne_of_lt I.big))))
  rw [arm_eval_Dict, zip_pairTrees _ _ _ _ rfl rfl, dictDisplay_pairs (pairTrees [some k] [v] X.env pos) (by simp [pairTrees]) (by simp [pairTrees])]
  refine wpAny_bind (wpAny_standAt (wpAny_bind (wpAny_subDictH (knd := nestedKind X.prog X.w) (Q := fun d s' => wpAny (model X.prog X.w) X.A (pure (Value.ref d)) (EP X pins σ Q) X.xe s') (show X.A.units + 8 < cLine by omega) (by simp [pairTrees]) ?_)))
  refine thn ((pps_cons hk hv pps_nil).run pins _ σ _ (fun ps H3 => match ps with | [(y, z)] => D1Put (sy X T) s.heap.objs.size y z H3 (Q (.ref s.heap.objs.size)) | _ => False) I1 (h s.heap.objs.size hn)) fun ws s2 ⟨ps, H2, I2, rel, dp⟩ => ?_
  · obtain ⟨y, z, e, dp⟩ : ∃ y z, ps = [(y, z)] ∧ D1Put (sy X T) s.heap.objs.size y z H2 (Q (.ref s.heap.objs.size)) := by
      match ps, dp with
      | [(y, z)], dp => exact ⟨y, z, rfl, dp⟩
    subst e
    obtain ⟨G, m, k', x, b, rfl, le, hD, hk', rk, rx, nx⟩ := dp
    cases rel with
    | @cons p q ps qs h1 t =>
      cases t
      obtain ⟨v1, u1⟩ := q
      obtain ⟨r1, r2⟩ := h1
      have r1 : RelV (.ref b) v1 := r1
      cases r1
      have r2 : RelV z u1 := r2
      obtain ⟨hl, hs, xs, ex, hd⟩ := dct_of I2 le (.inl hD) (T := T) (m := m) (kvs := []) .nil
      cases ex
      refine ⟨[(nkey k', b, u1)], ⟨rfl, rfl, key_is I2 le hk' rk, True.intro⟩, hd, fun h' tk' hd' sb => ?_⟩
      have hd' : h'.DictOfH (nestedKind X.prog X.w) s.heap.objs.size [(nkey k', b, u1)] := hd'
      have r' : RepsD (sy X T) G m [(k', x)] [(nkey k', b, z)] := .cons hk' rk rx .nil
      refine wpAny_pure ⟨.ref s.heap.objs.size, upd H2 s.heap.objs.size (DctO X.prog X.w s.heap.objs.size [(nkey k', b, z)]), ?_, rfl, nx _ r'⟩
      obtain ⟨o, ds, ep, e1, e2, e3, e4, e5, e6⟩ := hd'
      refine d_write I2 (by rw [hD]; exact True.intro) sb ⟨o, e1⟩ ?_
      refine ⟨⟨by show 1 ≤ sizeLine; rw [sizeLine_eq]; decide, hs, _, .cons ⟨rfl, rfl, r2⟩ .nil, o, ds, ep, e1, e2, e3, e4, e6⟩, ⟨o, e1⟩, fun h1 h2 q st => ?_⟩
      obtain ⟨q1, q2, ys, q3, o', ds', ep', q4, q5⟩ := q
      exact ⟨q1, q2, ys, q3, o', ds', ep', st _ q4, q5⟩
theorem de_d1 {k v : Expr} {dk dv : Fm → M PV} (hu : X.A.units + 200 < cLine) (hk : PE X k (tD (sy X T) .E W dk)) (hv : PE X v (tD (sy X T) .E W dv)) :
    PE X (.Dict [some k] [v] pos) (tD (sy X T) .F W fun r => bnd (dk r) fun x => bnd (dv r) fun y => if keyT x then RP.ret (.dct [(x, y)]) else stk) := by
  refine (pe_d1 (T := T) hu hk hv).imp fun σ H Q ⟨G, m, st, H₀, r, a, p⟩ => fun d hn => ?_
  have e1 := a.1.newExt (o := DctO X.prog X.w d []) hn
  refine ⟨G, m, st, H₀, r, ⟨a.1.new hn, a.2.ext e1⟩, Post.stepB p e1 fun x s2 G2 m2 H2 u e2 wd2 rx p2 => ?_⟩
  have e12 := e1.trans e2
  refine ⟨G2, m2, s2, H₀, r, ⟨wd2, a.2.ext e12⟩, Post.stepB p2 e12 fun y s3 G3 m3 H3 u3 e3 wd3 ry p3 => ?_⟩
  have e13 := e12.trans e3
  have rx : Rep (sy X T) G3 m3 x u := Rep.ext rx e3
  have ry : Rep (sy X T) G3 m3 y u3 := ry
  have h2 : H2 d = some (DctO X.prog X.w d []) := e2.keep _ _ upd_same (a.1.mnone hn) ntbl_dct
  have m2' := e2.notm (show upd H d (DctO X.prog X.w d []) d = _ from upd_same) (a.1.mnone hn)
  have g2' := e2.notG (show upd H d (DctO X.prog X.w d []) d = _ from upd_same) (a.1.Gnone hn)
  have h3 := e3.keep _ _ h2 m2' ntbl_dct
  have m3' := e3.notm h2 m2'
  have g3' := e3.notG h2 g2'
  by_cases c : keyT x = true
  · rw [if_pos c] at p3
    cases x with
    | tup zs =>
      cases rx with
      | tup g rr =>
      refine ⟨G3, m3, .tup zs, y, _, rfl, fun b o q => (wd3.le b o q).1, h3, c, .tup g rr, ry, fun es' r' => ?_⟩
      obtain ⟨k1, k2⟩ := write_new (o := DctO X.prog X.w d es') e13 wd3 (by rw [h3]; exact fun z => nomatch z) m3' g3' hn (by rw [h3]; exact fun _ z => nomatch z) (fun q z => dct_ne_code (Option.some.inj (h3.symm.trans z)))
      exact p3 G3 m3 _ _ k1 k2 (.dct upd_same m3' g3' hn r')
    | _ => simp [keyT, isTup] at c
  · rw [if_neg c] at p3
    exact p3.elim
/-- a, b = {}, e -/
theorem ds_parD {i j : Nat} {x y : Str} {b : Expr} {db : Fm → M PV} {px py pt pt2 dp : Pos} {kt k2 : Nat} (hc : X.calm = true) (hN : X.N.Nodup) (hi : X.N[i]? = some x) (hj : X.N[j]? = some y) (hij : i ≠ j)
    (hx : X.env.scope.names.lookup x = some .local) (hy : X.env.scope.names.lookup y = some .local) (hb : PE X b (tD (sy X T) .E W db)) (hsb : starEach [b] X.env = [(false, eval b X.env)])
    (hw : swappedStores [.Tuple [.Name x px, .Name y py] kt pt] (.Tuple [.Dict [] [] dp, b] k2 pt2) X.env = pure (some [x, y])) :
    PS X (.Assign [.Tuple [.Name x px, .Name y py] kt pt] (.Tuple [.Dict [] [] dp, b] k2 pt2) pos) (tS (sy X T) W fun r => bnd (db r) fun v => RP.ret (.nx ((r.set i (.od [])).set j (.sh v)))) := by
  have hd : PE X (.Dict [] [] dp) (fun σ H Q => ∀ p, H p = none → Q (.ref p) (upd H p (DctO X.prog X.w p []))) := by
    refine ⟨fun pins s σ H Q I h => ?_⟩
    have hn : H s.heap.objs.size = none := I.hok.fresh (Nat.le_refl _)
    exact wpAny_Dict_empty ⟨.ref s.heap.objs.size, _, I.laid (t' := s.toks) (fun _ _ q => Heap.get?_push_of_some _ q) (Nat.le_refl _) (dct_new (beq_eq_false_iff_ne.mpr (Ne.symm (Nat.ne_of_lt I.big)))), rfl, h _ hn⟩
  refine (ps_par hc hN hi hj hij hx hy (pa_cons hd (pa_cons hb pa_nil (by rw [hsb]; rfl)) rfl) hw rfl).imp fun D σ H ⟨G₀, m₀, H₀, Gb, mb, G, m, s, r, a, p⟩ => ?_
  intro d hn
  have e1 := a.wd.newExt (o := DctO X.prog X.w d []) hn
  have a1 := a.go e1 (a.wd.new hn)
  refine ⟨G, m, s, H₀, r, a1.at, PostS.step a1 p fun v s2 G2 m2 H2 u e2 a2 rv p2 => ⟨_, _, rfl, ?_⟩⟩
  have h2 : H2 d = some (DctO X.prog X.w d []) := e2.keep _ _ upd_same (a.wd.mnone hn) ntbl_dct
  have m2' := e2.notm (show upd H d (DctO X.prog X.w d []) d = _ from upd_same) (a.wd.mnone hn)
  have g2' := e2.notG (show upd H d (DctO X.prog X.w d []) d = _ from upd_same) (a.wd.Gnone hn)
  have f : FmOk (sy X T) G2 m2 H₀ H2 (r.set i (ofV (.dct []))) (σ.set i (some (.ref d))) := a.fm.putF (e1.trans e2) a.ext.dom i (.dct h2 m2' g2' hn .nil)
  exact p2 G2 m2 H2 _ a2.ext a2.lat ⟨a2.wd, f.putSh j rv⟩
/-! ### index -/
theorem idxP_spec : ∀ (xs : List PV) (y : PV) (j : Nat), idxP y xs = some j → ∃ x, xs[j]? = some x ∧ eqP x y = true ∧ ∀ k z, k < j → xs[k]? = some z → eqP z y = false
  | [], y, j, h => by simp [idxP] at h
  | x :: xs, y, j, h => by
    unfold idxP at h
    by_cases c : eqP x y = true
    · rw [if_pos c] at h
      cases h
      exact ⟨x, rfl, c, fun k z hk _ => absurd hk (Nat.not_lt_zero k)⟩
    · rw [if_neg c] at h
      cases q : idxP y xs with
      | none => rw [q] at h; cases h
      | some i =>
        rw [q] at h
        simp only [Option.map_some, Option.some.injEq] at h
        subst h
        obtain ⟨z, h1, h2, h3⟩ := idxP_spec xs y i q
        refine ⟨z, by simpa using h1, h2, fun k u hk hu => ?_⟩
        cases k with
        | zero =>
          have e : x = u := Option.some.inj hu
          subst e
          simpa using c
        | succ k => exact h3 k u (by omega) (by simpa using hu)
theorem idx_tuple (hu : X.A.units + 200 < cLine) {pins : List (Addr × Obj)} {σ : L2.St} {H G : Hp} {m : List Addr} {s : Shared} {st : AS} {xs : List PV} {ws : List V} {its : List Value} {y : PV} {w : V} {u : Value} {l : Addr} {j : Nat} {E : Value → Shared → Prop} {Q : Value → Shared → Prop} (I : Inv X pins σ H s) (wd : Wd (sy X T) G m st H)
    (rr : Reps (sy X T) G m xs ws) (rv : Vals ws its) (hl : s.heap.IsTuple l its.toArray) (dx : dats DEP xs = true) (dy : dat DEP y = true) (ry : Rep (sy X T) G m y w) (rw' : RelV w u) (hj : idxP y xs = some j)
    (hq : Q (.int j s.toks) { s with toks := s.toks + 1 }) : wpAny (model X.prog X.w) X.A (call (.builtin "tuple.index") [.ref l, u]) Q E s := by
  obtain ⟨x0, h1, h2, h3⟩ := idxP_spec xs y j hj
  obtain ⟨⟨cls, dd, data, sl⟩, ho, hc, n, hd⟩ := id hl
  simp only at hc hd
  subst hc hd
  have hlen : its.length = xs.length := by rw [← rv.length, ← rr.length]
  have hjl : j < xs.length := (List.getElem?_eq_some_iff.mp h1).1
  have hjs : j < its.toArray.size := by simpa [hlen] using hjl
  refine call_meets F.slot_tuple_index ⟨_, ho, rfl⟩ F.entry_tuple_index (F.args_tuple_index_2 _ _)
    (SeqAt.tuple_index2_found l its.toArray n dd sl u (fun i => eqP (xs.getD i .non) y) j hjs (Nat.zero_le _) hjs ?_ ?_) ⟨ho, fun i hi => ?_, hq⟩
  · show eqP (xs.getD j .non) y = true
    rw [List.getD_eq_getElem?_getD, h1]
    exact h2
  · intro k hk _ hkj
    have hk' : k < xs.length := by rw [← hlen]; simpa using hk
    show eqP (xs.getD k .non) y = false
    rw [List.getD_eq_getElem?_getD, List.getElem?_eq_getElem hk']
    exact h3 k _ hkj (List.getElem?_eq_getElem hk')
  · have hi' : i < its.length := by simpa using hi
    have hix : i < xs.length := by rw [← hlen]; exact hi'
    obtain ⟨w1, hw1, r1⟩ := vals_back rv (List.getElem?_eq_getElem hi')
    obtain ⟨x1, hx1, rx1⟩ := rr.get' hw1
    have dx1 := dats_get dx hx1
    obtain ⟨as, q1⟩ := Dp.reads I _ _ _ (rx1.dp wd DEP _ _ dx1) r1
    obtain ⟨bs, q2⟩ := Dp.reads I _ _ _ (ry.dp wd DEP _ _ dy) rw'
    obtain ⟨c1, p1⟩ := shaped_toD DEP x1 dx1
    obtain ⟨c2, p2⟩ := shaped_toD DEP y dy
    have z := SeqAt.eqAt_reads (toD x1) (toD y) X.A.in1 s _ _ _ _ q1 q2 c1 c2 (by
      have : min (toD x1).depth (toD y).depth ≤ DEP := Nat.le_trans (Nat.min_le_left _ _) p1
      unfold DEP at this
      show X.A.units + 1 + _ < _
      omega)
    rw [eqv_toD DEP x1 y dx1 dy] at z
    have e : xs.getD i .non = x1 := by rw [List.getD_eq_getElem?_getD, hx1]; rfl
    rw [e]
    simpa using z
theorem idx_list (hu : X.A.units + 200 < cLine) {pins : List (Addr × Obj)} {σ : L2.St} {H G : Hp} {m : List Addr} {s : Shared} {st : AS} {xs : List PV} {ws : List V} {y : PV} {w : V} {u : Value} {l : Addr} {j : Nat} {Q : VK} (I : Inv X pins σ H s) (wd : Wd (sy X T) G m st H)
    (hl : H l = some (.lst ws)) (rr : Reps (sy X T) G m xs ws) (dx : dats DEP xs = true) (dy : dat DEP y = true) (ry : Rep (sy X T) G m y w) (rw' : RelV w u) (hj : idxP y xs = some j)
    (hq : Q (.int (j : Nat)) H) : wpAny (model X.prog X.w) X.A (call (.builtin "list.index") [.ref l, u]) (EP X pins σ Q) X.xe s := by
  obtain ⟨x0, h1, h2, h3⟩ := idxP_spec xs y j hj
  have dx0 := dats_get dx h1
  have hz : (toD.toDs xs)[j]? = some (toD x0) := by
    have : ∀ (xs : List PV) (j : Nat) (x : PV), xs[j]? = some x → (toD.toDs xs)[j]? = some (toD x) := by
      intro xs
      induction xs with
      | nil => intro j x h; simp at h
      | cons a as ih =>
        intro j x h
        cases j with
        | zero => simp at h; subst h; rfl
        | succ j => exact ih j x (by simpa using h)
    exact this xs j x0 h1
  refine mt_indexD (by omega) pins s σ H (.ref l) [w] (.ref l) [u] Q I rfl (.cons rw' .nil) ⟨l, w, toD y, toD.toDs xs, j, toD x0, rfl, rfl, .lst (.inl (.inl hl)) (rr.dp wd DEP _ _ dx), ry.dp wd DEP _ _ dy, ?_, shaped_of dy, hz, ?_, fun k z hk hz' => ?_, hq⟩
  · unfold SeqAt.shaped
    obtain ⟨a1, a2⟩ := shaped_toDs DEP xs dx
    unfold DEP at a2
    rw [show (PyData.list (toD.toDs xs)).canLay0 = PyData.canLayAll0 (toD.toDs xs) from rfl, a1, decide_eq_true (show (PyData.list (toD.toDs xs)).depth ≤ 64 by simp only [PyData.depth]; omega)]
    rfl
  · rw [eqv_toD DEP x0 y dx0 dy]; exact h2
  · obtain ⟨x1, hx1, rfl⟩ := toDs_get hz'
    rw [eqv_toD DEP x1 y (dats_get dx hx1) dy]
    exact h3 k x1 hk hx1
theorem de_idx {a b : Expr} {da db : Fm → M PV} {apos cpos : Pos} (hu : X.A.units + 200 < cLine) (ha : PE X a (tD (sy X T) .O W da)) (hb : PE X b (tD (sy X T) .E W db)) (hbase : attributeBase a "index" X.env (eval a X.env) = eval a X.env) (hl : (apos.endLine == cpos.line) = true) (hs : starEach [b] X.env = [(false, eval b X.env)]) :
    PE X (.Call (.Attribute a "index" apos) [b] [] cpos) (tD (sy X T) .F W fun r => bnd (da r) fun x => if seqX x then bnd (db r) fun y => opt (ixOf x y) else stk) := by
  refine ⟨fun pins s σ H Q I h => ?_⟩
  obtain ⟨G, m, st, H₀, r, at0, p⟩ := h
  refine wpAny_Call_method_late hbase (by rw [hs]; rfl) hl rfl (thn (ha.run pins s σ H (fun v H1 => ∃ G1 m1 s1 x, Ext m m1 G G1 H H1 ∧ Wd (sy X T) G1 m1 s1 H1 ∧ RepO (sy X T) G1 m1 H1 x v ∧ Post (sy X T) (RepM (sy X T) .F) G1 m1 H1 ((if seqX x then bnd (db r) (fun y => opt (ixOf x y)) else stk) s1) Q W) I ⟨G, m, st, H₀, r, at0, p.step (good_M _ _) fun x s1 G1 m1 H1 v e1 wd1 rx p1 => ⟨G1, m1, s1, x, e1, wd1, rx, p1⟩⟩) fun v s1 ⟨xv, H1, I1, r1, G1, m1, st1, x, e1, wd1, rx, p1⟩ => ?_)
  have hx : seqX x = true := by
    cases c : seqX x with
    | true => rfl
    | false => rw [if_neg (by rw [c]; decide)] at p1; exact p1.elim
  rw [if_pos hx] at p1
  have arg : ∀ (id : String), (∀ y s2 G2 m2 H2 w u sh, Ext m1 m2 G1 G2 H1 H2 → Wd (sy X T) G2 m2 s2 H2 → Rep (sy X T) G2 m2 y w → RelV w u → Inv X pins σ H2 sh → Post (sy X T) (RepM (sy X T) .F) G2 m2 H2 (opt (ixOf x y) s2) Q W → wpAny (model X.prog X.w) X.A (call (.builtin id) [v, u]) (EP X pins σ Q) X.xe sh) →
      wpAny (model X.prog X.w) X.A (callWith cpos (.builtin id) [v] (backTo cpos (starEach [b] X.env)) []) (EP X pins σ Q) X.xe s1 := by
    intro id hk
    rw [hs]
    refine Calls.callWith_builtin rfl (Calls.evalArgs_plain (Calls.spliced_cons (thn (hb.run pins s1 σ H1 (fun w H2 => ∃ G2 m2 s2 y, Ext m1 m2 G1 G2 H1 H2 ∧ Wd (sy X T) G2 m2 s2 H2 ∧ Rep (sy X T) G2 m2 y w ∧ Post (sy X T) (RepM (sy X T) .F) G2 m2 H2 (opt (ixOf x y) s2) Q W) I1 ⟨G1, m1, st1, H₀, r, ⟨wd1, at0.2.ext e1⟩, p1.step (good_M _ _) fun y s2 G2 m2 H2 w e2 wd2 ry p2 => ⟨G2, m2, s2, y, e2, wd2, ry, p2⟩⟩) fun u s2 ⟨w, H2, I2, r2, G2, m2, st2, y, e2, wd2, ry, p2⟩ => ?_)))
    exact Calls.spliced_nil (hk y st2 G2 m2 H2 w u s2 e2 wd2 ry r2 I2 p2)
  cases x with
  | lst xs =>
    obtain ⟨l, ws, rfl, hl1, hm1, rr1⟩ := rx.lst' wd1
    cases r1
    obtain ⟨its, rv, pl, hz⟩ := I1.list (.inl (.inl hl1))
    obtain ⟨h1, h2⟩ := tyV_is I1 (x := .ref l) (v := .ref l) (T := "list") rfl (.inl ⟨rfl, ws, .inl (.inl hl1)⟩)
    refine ⟨"list", "list.index", F.plainAttrs_list, F.slot_list_index, F.type_list_index, h1, h2, arg "list.index" fun y s2 G2 m2 H2 w u sh e2 wd2 ry ru I2 p2 => ?_⟩
    have rx2 := RepO.ext rx e2
    obtain ⟨l', ws', e, hl2, _, rr2⟩ := rx2.lst' wd2
    cases e
    simp only [ixOf] at p2
    by_cases c : (datS xs && dat DEP y) = true
    · rw [if_pos c] at p2
      cases q : idxP y xs with
      | none => rw [q] at p2; exact p2.elim
      | some j =>
        rw [q] at p2
        rw [Bool.and_eq_true] at c
        exact idx_list hu I2 wd2 hl2 rr2 c.1 c.2 ry ru q (Post.ret wd2 (.val rfl (.int _)) p2)
    · rw [if_neg c] at p2
      exact p2.elim
  | tpx xs =>
    obtain ⟨l, ws, o, rfl, hl1, ho, _, hq1, rr1⟩ := rx.tpx' wd1
    cases r1
    obtain ⟨hg, hz, its, rv, pl⟩ := I1.hok l _ hl1
    have hty : s1.TypeIs (.ref l) "tuple" := IsTup.typeIs pl
    refine ⟨"tuple", "tuple.index", F.plainAttrs_tuple, F.slot_tuple_index, F.type_tuple_index, hty, fun b hb => by cases hb; exact ⟨o, hg, ho⟩, arg "tuple.index" fun y s2 G2 m2 H2 w u sh e2 wd2 ry ru I2 p2 => ?_⟩
    have rx2 := RepO.ext rx e2
    obtain ⟨l', ws', o', e, hl2, _, _, hq2, rr2⟩ := rx2.tpx' wd2
    cases e
    simp only [ixOf] at p2
    by_cases c : (datS xs && dat DEP y) = true
    · rw [if_pos c] at p2
      cases q : idxP y xs with
      | none => rw [q] at p2; exact p2.elim
      | some j =>
        rw [q] at p2
        rw [Bool.and_eq_true] at c
        obtain ⟨its2, rv2, pl2, _⟩ := I2.tuple hq2
        exact idx_tuple hu I2 wd2 rr2 rv2 pl2 c.1 c.2 ry ru q ⟨.int (j : Nat), H2, I2.tok _, ⟨_, rfl⟩, Post.ret wd2 (.val rfl (.int _)) p2⟩
    · rw [if_neg c] at p2
      exact p2.elim
  | _ => cases hx
/-! ### dict(pairs) -/
/-- the pairs of a list, as the library asks for them -/
abbrev QK (S : Sy) (G : Hp) (m : List Addr) : List (PV × PV) → List (NestedKey × Addr × Value) → Prop := Paired fun kv p => p.1 = nkey kv.1 ∧ keyT kv.1 = true ∧ Rep S G m kv.1 (.ref p.2.1) ∧ ∃ v, Rep S G m kv.2 v ∧ RelV v p.2.2
theorem pairs_spec {pins : List (Addr × Obj)} {σ : L2.St} {H G : Hp} {m : List Addr} {s : Shared} (I : Inv X pins σ H s) (le : ∀ b o, G b = some o → H b = some o) : ∀ {xs : List PV} {ws : List V} {its : List Value} {kvs : List (PV × PV)}, Reps (sy X T) G m xs ws → Vals ws its → pairsOf xs = some kvs → (∀ kv, kv ∈ kvs → keyT kv.1 = true) →
    ∃ (ts : List Addr) (q : List (NestedKey × Addr × Value)), its = ts.map Value.ref ∧ QK (sy X T) G m kvs q ∧ ts.length = q.length ∧ ∀ (j : Nat) (Tj : Addr) (p : NestedKey × Addr × Value), ts[j]? = some Tj → q[j]? = some p → s.heap.IsTuple Tj #[.ref p.2.1, p.2.2]
  | _, _, _, _, .nil, .nil, h, _ => by simp [pairsOf] at h; subst h; exact ⟨[], [], rfl, .nil, rfl, fun j _ _ e => by simp at e⟩
  | x :: xs, _, _, kvs, .cons r rr, .cons rv vv, h, hk => by
    cases x with
    | tup ys =>
      match ys, h, r with
      | [a, b], h, r =>
        simp only [pairsOf, Option.map_eq_some_iff] at h
        obtain ⟨kvs', h1, rfl⟩ := h
        obtain ⟨ts, q, e1, e2, e3, e4⟩ := pairs_spec I le rr vv h1 fun kv hkv => hk kv (List.mem_cons_of_mem _ hkv)
        have ka := hk (a, b) List.mem_cons_self
        cases r with
        | @tup ad _ vs g rs =>
          cases rv
          obtain ⟨its2, rv2, pl, _⟩ := I.tuple (sqT_mono le g)
          cases rs with
          | @cons _ _ v1 _ r1 rs =>
            cases rs with
            | @cons _ _ v2 _ r2 rs =>
              cases rs
              cases rv2 with
              | @cons _ u1 _ _ a1 rv2 =>
                cases rv2 with
                | @cons _ u2 _ _ a2 rv2 =>
                  cases rv2
                  cases a with
                  | tup zs =>
                    cases r1 with
                    | @tup kad _ _ g1 rz =>
                    cases a1
                    refine ⟨ad :: ts, (nkey (.tup zs), kad, u2) :: q, by rw [List.map_cons, ← e1], .cons ⟨rfl, ka, .tup g1 rz, _, r2, a2⟩ e2, by simp [e3], fun j Tj p e5 e6 => ?_⟩
                    cases j with
                    | zero =>
                      simp at e5 e6
                      subst e5 e6
                      exact pl
                    | succ j => exact e4 j Tj p (by simpa using e5) (by simpa using e6)
                  | _ => simp [keyT, isTup] at ka
      | [], h, _ => simp [pairsOf] at h
      | [_], h, _ => simp [pairsOf] at h
      | _ :: _ :: _ :: _, h, _ => simp [pairsOf] at h
    | _ => simp [pairsOf] at h
theorem QK.mem {S : Sy} {G : Hp} {m : List Addr} {kvs : List (PV × PV)} {q : List (NestedKey × Addr × Value)} (h : QK S G m kvs q) : ∀ p, p ∈ q → ∃ k, p.1 = nkey k ∧ keyT k = true ∧ Rep S G m k (.ref p.2.1) := by
  induction h with
  | nil => intro p hp; simp at hp
  | cons h t ih =>
    intro p hp
    rcases List.mem_cons.mp hp with e | hp
    · subst e; exact ⟨_, h.1, h.2.1, h.2.2.1⟩
    · exact ih p hp
theorem fold_put {S : Sy} {G : Hp} {m : List Addr} {kvs : List (PV × PV)} {q : List (NestedKey × Addr × Value)} (h : QK S G m kvs q) : ∀ {acc : List (PV × PV)} {es : List (NestedKey × Addr × V)} {xs : List (NestedKey × Addr × Value)}, RepsD S G m acc es → EsAre es xs →
    ∃ es', RepsD S G m (kvs.foldl (fun acc kv => putP acc kv.1 kv.2) acc) es' ∧ EsAre es' (storedAllH xs q) ∧ es'.length ≤ es.length + q.length := by
  induction h with
  | nil => intro acc es xs r e; exact ⟨es, r, e, by simp⟩
  | @cons kv p kvs q h t ih =>
    intro acc es xs r e
    obtain ⟨h1, h2, h3, v, h4, h5⟩ := h
    obtain ⟨es1, r1, e1, l1⟩ := put_of h2 h3 h4 h5 r e
    obtain ⟨es2, r2, e2, l2⟩ := ih r1 e1
    refine ⟨es2, r2, ?_, by rw [List.length_cons]; omega⟩
    unfold storedAllH
    rw [List.foldl_cons, h1]
    exact e2
theorem dict_P (hu : X.A.units + 200 < cLine) (hc : X.calm = true) : CallR X (.type "dict") (rC1 (sy X T) .F (b1P .dict)) := by
  intro pins s σ H xs us Q I r h
  obtain ⟨G, m, st, a, x, rfl, wd, ra, h⟩ := h
  cases a with
  | lst ys =>
    obtain ⟨l, ws, rfl, hl1, _, rr⟩ := ra.lst' wd
    obtain ⟨u, rfl, ru⟩ := vals1 r
    cases ru
    cases q : pairsOf ys with
    | none => rw [show b1P .dict (.lst ys) = none by simp only [b1P]; rw [q]; rfl] at h; exact h.elim
    | some kvs =>
      by_cases c : kvs.all (fun kv => keyT kv.1) = true
      · rw [show b1P .dict (.lst ys) = some (.dct (kvs.foldl (fun acc kv => putP acc kv.1 kv.2) [])) by simp only [b1P]; rw [q]; exact if_pos c] at h
        have hk : ∀ kv, kv ∈ kvs → keyT kv.1 = true := fun kv hkv => List.all_eq_true.mp c kv hkv
        obtain ⟨its, rv, pl, hz⟩ := I.list (.inl (.inl hl1))
        have le : ∀ b o, G b = some o → H b = some o := fun b o q => (wd.le b o q).1
        obtain ⟨ts, ps, e1, e2, e3, e4⟩ := pairs_spec I le rr rv q hk
        subst e1
        have hlen : ps.length ≤ sizeLine := by
          rw [← e3]
          have := rv.length
          rw [List.length_map] at this
          omega
        obtain ⟨o, n, ho, hcl, hd, hdat⟩ := pl
        have hn : H s.heap.objs.size = none := I.hok.fresh (Nat.le_refl _)
        have P := PairArg.list (prog := X.prog) (w := X.w) l (ts.map Value.ref).toArray (fun j => ts.getD j 0) (ps.map fun p => (Value.ref p.2.1, p.2.2))
        refine call_dict_pairsH (knd := nestedKind X.prog X.w) (ps := ps) P (I.ok.hd hc) (show X.A.units + 1 + 1 + 8 < cLine by omega) ⟨⟨o, n, ho, hcl, hd, hdat⟩, by simp [e3], fun j k v hj => ?_⟩ ⟨by simp, fun i key v hr => ?_⟩ (fun h' kp p hp => ?_) (by simpa using hlen) fun h' tk hd' kp => ?_
        · rw [List.getElem?_map] at hj
          cases hp : ps[j]? with
          | none => rw [hp] at hj; cases hj
          | some p =>
            rw [hp] at hj
            cases hj
            have hjt : j < ts.length := by rw [e3]; exact (List.getElem?_eq_some_iff.mp hp).1
            have ht : ts[j]? = some ts[j] := List.getElem?_eq_getElem hjt
            refine ⟨by simp [List.getD_eq_getElem?_getD, ht], .inl ?_⟩
            have := e4 j ts[j] p ht hp
            simpa [List.getD_eq_getElem?_getD, ht] using this
        · have hr : (ps.map fun p => (Value.ref p.2.1, p.2.2))[i]? = some (key, v) := hr
          rw [List.getElem?_map] at hr
          cases hp : ps[i]? with
          | none => rw [hp] at hr; cases hr
          | some p =>
            rw [hp] at hr
            cases hr
            exact ⟨p.1, p.2.1, rfl, rfl⟩
        · obtain ⟨k, k1, k2, k3⟩ := e2.mem p hp
          rw [k1]
          have I2 : Inv X pins σ H { s with heap := h' } := I.kept (t' := s.toks) fun b o e => kp b o (Nat.ne_of_lt (Heap.lt_size e)) (by simp) e
          exact key_is I2 le k2 k3
        · obtain ⟨es', r1, r2, r3⟩ := fold_put e2 (.nil : RepsD (sy X T) G m [] []) (.nil : EsAre [] [])
          have hlo : (s.heap.objs.size == sysModules) = false := beq_eq_false_iff_ne.mpr (Ne.symm (Nat.ne_of_lt I.big))
          obtain ⟨o', ds, ep, f1, f2, f3, f4, f5, f6⟩ := hd'
          refine ⟨.ref s.heap.objs.size, upd H s.heap.objs.size (DctO X.prog X.w s.heap.objs.size es'), I.laid (t' := tk) (fun b o e => kp b o (by simp) e) (Nat.le_refl _) ⟨⟨by simp at r3; omega, hlo, _, r2, o', ds, ep, f1, f2, f3, f4, f6⟩, ⟨o', f1⟩, fun h1 h2 q st => ?_⟩, rfl, ?_⟩
          · obtain ⟨q1, q2, ys, q3, o', ds', ep', q4, q5⟩ := q
            exact ⟨q1, q2, ys, q3, o', ds', ep', st _ q4, q5⟩
          · exact fin_new (k := .F) wd h hn (.dct upd_same (wd.mnone hn) (wd.Gnone hn) hn r1)
      · rw [show b1P .dict (.lst ys) = none by simp only [b1P]; rw [q]; exact if_neg c] at h
        exact h.elim
  | _ => exact h.elim
end
end RP

/-! Fw18: {..}.get, sorted(set(..)). Own work. -/
namespace RP
open PySem PySem.Spec PyProof.Rows L2
section
variable {X : Cx} {T : List (Addr × Str)} {W : XK} {pos : Pos}
theorem de_litget {k1 k2 v1 v2 d : Str} {j1 j2 j3 j4 j5 : Nat} {p1 p2 p3 p4 p5 dp apos cpos : Pos} {a : Expr} {da : Fm → M PV} (hu : X.A.units + 200 < cLine) (ha : PE X a (tD (sy X T) .E W da)) (hne : eqS k1 k2 = false)
    (m : M2 X (.Dict [some (.Constant (.str k1) j1 p1), some (.Constant (.str k2) j2 p2)] [.Constant (.str v1) j3 p3, .Constant (.str v2) j4 p4] dp) "get" apos a (.Constant (.str d) j5 p5) cpos) :
    PE X (.Call (.Attribute (.Dict [some (.Constant (.str k1) j1 p1), some (.Constant (.str k2) j2 p2)] [.Constant (.str v1) j3 p3, .Constant (.str v2) j4 p4] dp) "get" apos) [a, .Constant (.str d) j5 p5] [] cpos)
      (tD (sy X T) .F W fun r => bnd (da r) fun x => opt (litP [(k1, v1), (k2, v2)] d x)) := by
  have hk : k1 ≠ k2 := fun e => by rw [e, eqS_iff] at hne; simp at hne
  refine (pe_dget2 (by omega) (pe_disp (pps_cons pe_str pe_str (pps_cons pe_str pe_str pps_nil)) rfl rfl (by simp) (by simp)) ha pe_str m).imp fun σ H Q ⟨G, mm, st, H₀, r, at0, p⟩ => ?_
  intro d0 hn
  have hl : upd H d0 (.dK []) d0 = some (.dK []) := upd_same
  refine ⟨hl, [(.inr k1, .str v1), (.inr k2, .str v2)], rfl, by simp, ?_⟩
  have e0 : mergeK [] [((.inr k1 : Key), V.str v1), (.inr k2, .str v2)] = [((.inr k1 : Key), V.str v1), (.inr k2, .str v2)] := by
    simp [mergeK, putK, hk]
  rw [e0, upd_upd]
  have e1 := at0.1.newExt (o := .dK [((.inr k1 : Key), V.str v1), (.inr k2, .str v2)]) hn
  have hd : upd H d0 (.dK [((.inr k1 : Key), V.str v1), (.inr k2, .str v2)]) d0 = some (.dK [((.inr k1 : Key), V.str v1), (.inr k2, .str v2)]) := upd_same
  refine ⟨d0, rfl, .inl ⟨_, .inl hd⟩, G, mm, st, H₀, r, ⟨at0.1.new hn, at0.2.ext e1⟩, Post.stepB p e1 fun x s2 G2 m2 H2 u e2 wd2 rx p2 => ?_⟩
  have h2 : H2 d0 = some (.dK [((.inr k1 : Key), V.str v1), (.inr k2, .str v2)]) := e2.keep _ _ hd (at0.1.mnone hn) (fun _ z => nomatch z)
  cases x with
  | str z =>
    cases rx
    refine ⟨_, .inl ⟨_, .inr z, .inl h2, rfl, rfl⟩, ?_⟩
    have e12 := e1.trans e2
    have p2 : Post (sy X T) (RepM (sy X T) .F) G mm H (RP.ret (.str (litF d [(k1, v1), (k2, v2)] z)) s2) Q W := p2
    have p3 := p2 G2 m2 H2 _ e12 wd2 (.val rfl (.str _))
    have e : valV [((.inr k1 : Key), V.str v1), (.inr k2, .str v2)] (.inr z) = if k1 = z then some (.str v1) else if k2 = z then some (.str v2) else none := by
      by_cases c1 : k1 = z
      · rw [valV_pos (by simp [c1]), if_pos c1]
      · rw [valV_neg (by simp [c1]), if_neg c1]
        by_cases c2 : k2 = z
        · rw [valV_pos (by simp [c2]), if_pos c2]
        · rw [valV_neg (by simp [c2]), valV_nil, if_neg c2]
    have e2 : litF d [(k1, v1), (k2, v2)] z = if k1 = z then v1 else if k2 = z then v2 else d := by
      simp only [litF, eqS_iff, decide_eq_true_eq]
    rw [e]
    rw [e2] at p3
    by_cases c1 : k1 = z
    · rw [if_pos c1] at p3 ⊢; exact p3
    · rw [if_neg c1] at p3 ⊢
      by_cases c2 : k2 = z
      · rw [if_pos c2] at p3 ⊢; exact p3
      · rw [if_neg c2] at p3 ⊢; exact p3
  | _ => exact p2.elim
end

end RP

/-! Fw19: sorted(set(..)). Own work. -/
namespace RP
open PySem PySem.Spec PyProof.Rows L2
/-! ### sorted(set(..)) -/
section
variable {P : Program} {w : World} {A : Around} {E : Value → Shared → Prop} {s : Shared}
open PySem.W in
set_option maxHeartbeats 3200000 in
theorem call_set_lstI {l : Addr} {items : Array Value} (ns : List Int) {Q : Value → Shared → Prop} (hh : A.handled = none) (hl : s.heap.IsList l items) (hit : IntsAre items.toList ns) (hb : ns.length + 1 < scanBound)
    (h : ∀ (h' : Heap) (tk c : Nat), SetR w h' s.heap.objs.size (fun j => decide (j ∈ ns)) c → c ≤ ns.length → (∀ b o, s.heap.get? b = some o → h'.get? b = some o) → Q (.ref s.heap.objs.size) { s with heap := h', toks := tk }) :
    wpAny (model P w) A (call (.type "set") [.ref l]) Q E s := by
  have hisz : items.size = ns.length := by
    have q := IntsAre.length hit
    rw [Array.length_toList] at q
    exact q
  obtain ⟨c, tl, hmro⟩ := F.called_set.mro
  have hmade := F.called_set.made
  have hsub := F.called_set.sub
  refine wpAny_call (codeAny_of_tree ?_)
  show wpAny _ _ (callAny (.type "set") _) _ _ _
  refine wpAny_pure ⟨Code.quiet_builtin _ (by decide +kernel), codeAny_builtin F.entry_type_call ?_⟩
  rw [Around.under_plain (weight_type_call_type "set" [.ref l] []) rfl]
  have h1 := F.called_set.notType
  have h2 := F.called_set.canCreate
  have hct := F.typeCall_set_1 (.ref l)
  repeat (any_goals (first | assumption | wp_step))
  refine codeAny_mono (code_set_led1 (.ref l) (E := E) (Q₁ := fun obj s₁ => obj = .ref s.heap.objs.size ∧ s₁ = { s with heap := s.heap.push { cls := .type "set", dict := none, data := .set #[] 0 (.fresh 0 0 (!w.params.followText "set-order")) } }) ⟨rfl, rfl⟩) fun r s₁ hr => ?_
  cases r with
  | error e => exact hr
  | ok fl =>
    cases fl with
    | ret obj =>
      obtain ⟨rfl, rfl⟩ := hr
      have hS : (s.heap.push { cls := .type "set", dict := none, data := .set #[] 0 (.fresh 0 0 (!w.params.followText "set-order")) }).get? s.heap.objs.size = some { cls := .type "set", dict := none, data := .set #[] 0 (.fresh 0 0 (!w.params.followText "set-order")) } := Heap.get?_push_size _ rfl
      have hT : Shared.TypeIs { s with heap := s.heap.push { cls := .type "set", dict := none, data := .set #[] 0 (.fresh 0 0 (!w.params.followText "set-order")) } } (.ref s.heap.objs.size) "set" := ⟨_, hS, rfl⟩
      have hli := F.called_set.init.lookup
      have hbi := F.called_set.init.bind (.ref s.heap.objs.size)
      repeat (any_goals (first | assumption | wp_step))
      refine codeAny_mono (codeAny_call_builtin (R := wants (fun r s₂ => r = .none ∧ ∃ h' tk c, s₂ = { s with heap := h', toks := tk } ∧ SetR w h' s.heap.objs.size (fun j => decide (j ∈ ns)) c ∧ c ≤ ns.length ∧
          (∀ b o, s.heap.get? b = some o → h'.get? b = some o)) E) F.called_set.init.plain F.entry_set_init (check_set_init_1 hT ?_)) fun r₂ s₂ hr₂ => ?_
      · obtain ⟨ol, hol, hcl, nl, hdl⟩ := hl
        obtain ⟨ocls, odict, odata, oslots⟩ := ol
        simp only at hcl hdl
        subst hcl; subst hdl
        have hol' : (s.heap.push { cls := .type "set", dict := none, data := .set #[] 0 (.fresh 0 0 (!w.params.followText "set-order")) }).get? l = some { cls := .type "list", dict := odict, data := .seq items nl, slots := oslots } := Heap.get?_push_of_some _ hol
        have hsls := F.sub_list_set
        have hslf := F.sub_list_frozenset
        have hne : (Value.type "list" == Value.type "dict") = false := by decide
        have hl1 : (s.heap.push { cls := .type "set", dict := none, data := .set #[] 0 (.fresh 0 0 (!w.params.followText "set-order")) }).IsList l items := ⟨_, hol', rfl, nl, rfl⟩
        unfold Builtin.«set.__init__» noKeywords Builtin.Frozenset.updateFrom
        generalize hPI : pyIter = PI
        wp_walk
        subst hPI
        refine wpAny_pyIter_list hl1 ?_
        refine wpAny_bind (wpAny_runValue ?_)
        have hlS : l < s.heap.objs.size := Heap.lt_size hol
        have hh3 : A.in1.in1.in1.handled = none := by simp [hh]
        have hneI : l ≠ (s.heap.push { cls := .type "set", dict := none, data := .set #[] 0 (.fresh 0 0 (!w.params.followText "set-order")) }).objs.size := by
          rw [Heap.size_push]; exact Nat.ne_of_lt (Nat.lt_succ_of_lt hlS)
        have hSf : s.heap.objs.size ∉ [(s.heap.push { cls := .type "set", dict := none, data := .set #[] 0 (.fresh 0 0 (!w.params.followText "set-order")) }).objs.size, l] := by
          rw [Heap.size_push]; simp only [List.mem_cons, List.mem_singleton, List.not_mem_nil, or_false, not_or]
          exact ⟨Nat.ne_of_lt (Nat.lt_succ_self _), Nat.ne_of_gt hlS⟩
        have hval : ∀ (i : Nat) (v : Value), items[i]? = some v → ∃ k t, ns[i]? = some k ∧ v = .int k t := fun i v hv => by
          have hi : i < ns.length := by rw [← hisz]; exact (Array.getElem?_eq_some_iff.mp hv).1
          obtain ⟨t, e⟩ := PyProof.Rows.IntsAre.int_at hit i v (by rw [Array.getElem?_toList]; exact hv)
          refine ⟨ns[i], t, List.getElem?_eq_getElem hi, ?_⟩
          rw [e, List.getD_eq_getElem?_getD, List.getElem?_eq_getElem hi] <;> rfl
        refine set_update_ints ((Walks.list hh3 _ l hneI items).toS) s.heap.objs.size
          hSf ns hisz hb hval (items.size - 0) 0 _ (by omega) (Nat.zero_le _)
          ⟨⟨_, Heap.get?_push_size _ rfl, rfl, rfl⟩, (hl1.push _)⟩ ?hS0 ?hR
        case hS0 =>
          have hget : ((s.heap.push { cls := .type "set", dict := none, data := .set #[] 0 (.fresh 0 0 (!w.params.followText "set-order")) }).push { cls := .type "list_iterator", data := .fields #[.ref l, .int 0 0] }).get? s.heap.objs.size
              = some { cls := .type "set", dict := none, data := .set #[] 0 (.fresh 0 0 (!w.params.followText "set-order")) } := Heap.get?_push_of_some _ hS
          exact ⟨0, Nat.le_refl 0, setR_new_at hget⟩
        case hR =>
          intro s' c' hm hc' hS'
          obtain ⟨h', g2, d', tk', os'⟩ := s'
          have eg : g2 = s.gens := hm.gens
          have ed : d' = s.drawn := hm.drawn
          have eo : os' = s.os := hm.os
          subst eg; subst ed; subst eo
          show wpAny _ _ _ _ _ _
          refine wpAny_pure ?_
          show wpAny _ _ (PySem.ret Value.none) _ _ _
          rw [hisz] at hc'
          refine wpAny_pure ⟨rfl, h', tk', c', rfl, hS', hc', fun b o e => ?_⟩
          have hb0 : b < s.heap.objs.size := Heap.lt_size e
          have hb1 : b ≠ s.heap.objs.size := Nat.ne_of_lt hb0
          have hb2 : b ≠ (s.heap.push { cls := .type "set", dict := none, data := .set #[] 0 (.fresh 0 0 (!w.params.followText "set-order")) }).objs.size := by
            rw [Heap.size_push]; exact Nat.ne_of_lt (Nat.lt_succ_of_lt hb0)
          exact hm.heap b o (by simp only [List.mem_cons, List.mem_singleton, List.not_mem_nil, or_false, not_or]; exact ⟨hb1, hb2⟩) (Heap.get?_push_of_some _ (Heap.get?_push_of_some _ e))
      · cases r₂ with
        | error e => exact hr₂
        | ok fl₂ =>
          cases fl₂ with
          | ret r =>
            obtain ⟨rfl, h', tk, c', rfl, hS', hc', hk'⟩ := hr₂
            repeat (any_goals (first | assumption | wp_step))
            exact h _ _ _ hS' hc' hk'
          | _ => exact hr₂.elim
    | _ => exact hr.elim
end
end RP

/-! Fw20: sorted(set(..)). Own work. -/
namespace RP
open PySem PySem.Spec PyProof.Rows L2
/-! ### what such a list is -/
theorem insU_mem (k : Int) : ∀ (l : List Int) (j : Int), j ∈ insU k l ↔ j = k ∨ j ∈ l
  | [], j => by simp [insU]
  | y :: ys, j => by
    unfold insU
    by_cases c : k < y
    · rw [if_pos c]; simp
    · rw [if_neg c]
      by_cases c2 : k = y
      · rw [if_pos c2]; subst c2; simp
      · rw [if_neg c2, List.mem_cons, insU_mem k ys j, List.mem_cons]
        constructor
        · rintro (h | h | h)
          · exact .inr (.inl h)
          · exact .inl h
          · exact .inr (.inr h)
        · rintro (h | h | h)
          · exact .inr (.inl h)
          · exact .inl h
          · exact .inr (.inr h)
theorem insU_pw (k : Int) : ∀ (l : List Int), l.Pairwise (· < ·) → (insU k l).Pairwise (· < ·)
  | [], _ => by simp [insU]
  | y :: ys, h => by
    obtain ⟨h1, h2⟩ := List.pairwise_cons.mp h
    unfold insU
    by_cases c : k < y
    · rw [if_pos c]
      refine List.pairwise_cons.mpr ⟨fun j hj => ?_, h⟩
      rcases List.mem_cons.mp hj with e | e
      · omega
      · have := h1 j e; omega
    · rw [if_neg c]
      by_cases c2 : k = y
      · rw [if_pos c2]; exact h
      · rw [if_neg c2]
        refine List.pairwise_cons.mpr ⟨fun j hj => ?_, insU_pw k ys h2⟩
        rcases (insU_mem k ys j).mp hj with e | e
        · omega
        · exact h1 j e
theorem setI_spec : ∀ ns : List Int, (setI ns).Pairwise (· < ·) ∧ ∀ k, k ∈ setI ns ↔ k ∈ ns
  | [] => ⟨List.Pairwise.nil, fun k => by simp [setI]⟩
  | n :: ns => by
    obtain ⟨h1, h2⟩ := setI_spec ns
    refine ⟨insU_pw n _ h1, fun k => ?_⟩
    show k ∈ insU n (setI ns) ↔ _
    rw [insU_mem, h2, List.mem_cons]
theorem pw_uniq : ∀ {a b : List Int}, a.Pairwise (· < ·) → b.Pairwise (· < ·) → (∀ k, k ∈ a ↔ k ∈ b) → a = b
  | [], [], _, _, _ => rfl
  | [], y :: b, _, _, h => absurd ((h y).mpr List.mem_cons_self) (by simp)
  | x :: a, [], _, _, h => absurd ((h x).mp List.mem_cons_self) (by simp)
  | x :: a, y :: b, ha, hb, h => by
    obtain ⟨a1, a2⟩ := List.pairwise_cons.mp ha
    obtain ⟨b1, b2⟩ := List.pairwise_cons.mp hb
    have e : x = y := by
      rcases List.mem_cons.mp ((h x).mp List.mem_cons_self) with e | e
      · exact e
      · rcases List.mem_cons.mp ((h y).mpr List.mem_cons_self) with e2 | e2
        · exact e2.symm
        · have := b1 x e; have := a1 y e2; omega
    subst e
    rw [pw_uniq a2 b2 fun k => ?_]
    constructor
    · intro hk
      rcases List.mem_cons.mp ((h k).mp (List.mem_cons_of_mem _ hk)) with e | e
      · have := a1 k hk; omega
      · exact e
    · intro hk
      rcases List.mem_cons.mp ((h k).mpr (List.mem_cons_of_mem _ hk)) with e | e
      · have := b1 k hk; omega
      · exact e
theorem nodup_len {a b : List Int} (ha : a.Nodup) (hb : b.Nodup) (h : ∀ k, k ∈ a ↔ k ∈ b) : a.length = b.length :=
  ((List.perm_ext_iff_of_nodup ha hb).mpr h).length_eq
theorem setR_count {w : World} {h : Heap} {a : Addr} {ns : List Int} {c : Nat} (R : SetR w h a (fun j => decide (j ∈ ns)) c) : c = (setI ns).length := by
  obtain ⟨o, es, ep, t, _, _, _, _, nd, hm, _, _, hn, _⟩ := R
  obtain ⟨p1, p2⟩ := setI_spec ns
  have e := nodup_len nd (p1.imp fun {a b} h => (show a ≠ b by omega)) fun k => by
    rw [← hm k, p2 k]
    simp
  rw [← e, List.length_map, Array.length_toList, hn]
theorem ints_spec {S : Sy} {G : Hp} {m : List Addr} : ∀ {xs : List PV} {ws : List V} {ns : List Int}, Reps S G m xs ws → intsOf xs = some ns → ws = ns.map V.int
  | _, _, _, .nil, h => by simp [intsOf] at h; subst h; rfl
  | x :: xs, _, ns, .cons r rr, h => by
    cases x with
    | int i =>
      simp only [intsOf, Option.map_eq_some_iff] at h
      obtain ⟨ns', h1, rfl⟩ := h
      cases r
      rw [List.map_cons, ints_spec rr h1]
    | _ => simp [intsOf] at h
theorem reps_ints {S : Sy} {G : Hp} {m : List Addr} : ∀ ns : List Int, Reps S G m (ns.map .int) (ns.map V.int)
  | [] => .nil
  | n :: ns => .cons (.int n) (reps_ints ns)
section
variable {X : Cx} {T : List (Addr × Str)} {W : XK} {pos : Pos}
def rSetI (X : Cx) : List V → Hp → VK → Prop := fun vs H Q => ∃ (l : Addr) (ns : List Int), vs = [.ref l] ∧ SqL X.K H l (ns.map V.int) ∧ ns.length + 1 < scanBound ∧ ∀ p, H p = none → Q (.ref p) (upd H p (SetO X.w p (fun j => decide (j ∈ ns)) (setI ns).length))
theorem setC_P (hc : X.calm = true) : CallR X (.type "set") (rSetI X) := by
  intro pins s σ H vs us Q I r h
  obtain ⟨l, ns, rfl, hq, hb, q⟩ := h
  obtain ⟨u, rfl, ru⟩ := vals1 r
  cases ru
  obtain ⟨its, rv, pl, hz⟩ := I.list hq
  refine call_set_lstI ns (I.ok.hd hc) pl.isList (by simpa using RZ.intsAre_vals rv) hb fun h' tk c R hc' kp => ?_
  rw [setR_count R] at R
  exact ⟨.ref s.heap.objs.size, _, I.laid (t' := tk) kp (Nat.le_refl _) (setO_new R), rfl, q _ (I.hok.fresh (Nat.le_refl _))⟩
theorem de_sset {a : Expr} {da : Fm → M PV} {p1 p2 q1 : Pos} (hc : X.calm = true) (hg : Gl X "sorted") (hm : X.mg "sorted" = none) (hg2 : Gl X "set") (hm2 : X.mg "set" = none) (ha : PE X a (tD (sy X T) .O W da)) (he : StarOk X.env [a]) :
    PE X (.Call (.Name "sorted" p1) [.Call (.Name "set" p2) [a] [] q1] [] pos) (tD (sy X T) .F W fun r => bnd (da r) fun x => opt (b1P .sortedSet x)) := by
  obtain ⟨h1, h2⟩ := he a [] rfl
  refine (pe_callB (cr_sortedSet hc) hg hm PyProof.Rows.boot_sorted (pa_cons (pe_callTy (pos := q1) (setC_P hc) hg2 hm2 PyProof.Rows.boot_set (pa_cons ha pa_nil h1) (by decide) (by decide) h1 (h2 q1)) pa_nil rfl) (by decide) (by decide) rfl rfl).imp fun σ H Q ⟨G, m, s, H₀, r, at0, p⟩ => ?_
  refine ⟨G, m, s, H₀, r, at0, p.step (good_M _ _) fun x s1 G1 m1 H1 v e1 wd1 rx p1 => ?_⟩
  cases x with
  | lst xs =>
    obtain ⟨l, ws, rfl, hl1, _, rr⟩ := RepO.lst' wd1 rx
    cases q : intsOf xs with
    | none => rw [show b1P .sortedSet (.lst xs) = none by simp only [b1P]; rw [q]; rfl] at p1; exact p1.elim
    | some ns =>
      by_cases c : ((setI ns).length < 64 && decide (xs.length < 4000)) = true
      · rw [show b1P .sortedSet (.lst xs) = some (.lst ((setI ns).map .int)) by simp only [b1P]; rw [q]; exact if_pos (by simpa using c)] at p1
        have hws := ints_spec rr q
        subst hws
        rw [Bool.and_eq_true, decide_eq_true_eq, decide_eq_true_eq] at c
        have hlen : xs.length = ns.length := by rw [rr.length, List.length_map]
        refine ⟨l, ns, rfl, .inl (.inl hl1), by unfold scanBound; omega, fun d hd => ?_⟩
        refine ⟨d, _, _, rfl, upd_same, c.1, fun ns' e hpw hmem hlen' he => ?_⟩
        obtain ⟨k1, k2⟩ := setI_spec ns
        have heq : ns' = setI ns := pw_uniq hpw k1 fun k => by rw [hmem k, k2 k]; simp
        subst heq
        have w1 := wd1.newExt (o := SetO X.w d (fun j => decide (j ∈ ns)) (setI ns).length) hd
        have w2 : Wd (sy X T) G1 m1 s1 (upd H1 d (SetO X.w d (fun j => decide (j ∈ ns)) (setI ns).length)) := wd1.new hd
        have hne : H1 e = none := w1.dom e he
        exact p1 G1 m1 _ (.ref e) (w1.trans (w2.newExt he)) (w2.new he) (.lst upd_same (w2.mnone he) (w2.Gnone he) hne (reps_ints _))
      · rw [show b1P .sortedSet (.lst xs) = none by simp only [b1P]; rw [q]; exact if_neg (by simpa using c)] at p1
        exact p1.elim
  | _ => exact p1.elim
end
end RP

/-! Fw21: the check of an IR against the text. Own work. -/
namespace RP
open PySem PySem.Spec PyProof.Rows L2

/-- what the check leans on: the scope as it is (within a block: relabelled), as it is written, the slots' names, the defs, the module's constants, the built-ins -/
structure Ctx where
  sc : Scope
  sc0 : Scope
  N : List Str
  fns : List (Str × Nat × Nat)
  gcs : List Str
  bls : List Str
def Ctx.blk (c : Ctx) (scope : Scope) : Ctx := { c with sc := relS scope c.sc, sc0 := scope }
def glB (c : Ctx) (x : Str) : Bool := decide (c.sc.names.lookup x = some .globalImplicit)
def visB (c : Ctx) (x : Str) : Bool := match c.sc.names.lookup x with
  | some .local => true
  | some .cell => true
  | some .free => true
  | _ => false
def tgB (c : Ctx) (x : Str) : Bool := match c.sc.names.lookup x with
  | some .local => true
  | some .cell => c.sc0.names.lookup x == some .cell
  | _ => false
def plainN (x : Str) : Bool := !(x == ("__debug__" : Str)) && !(x == ("__classdict__" : Str)) && decide (x ≠ "__name__")
def bltB (c : Ctx) (x y : Str) : Bool := decide (x = y) && glB c x && c.bls.contains x
def noStar : Expr → Bool
  | .Starred _ _ => false
  | _ => true
def attrB : Expr → Bool
  | .Call _ _ _ _ => false
  | _ => true
def ixB : Expr → Bool
  | .Slice _ _ _ _ => false
  | _ => true
def noSet : Expr → Bool
  | .Set _ _ _ => false
  | _ => true
def noComp : Expr → Bool
  | .ListComp _ _ _ _ => false
  | .SetComp _ _ _ _ => false
  | .DictComp _ _ _ _ _ => false
  | _ => true
def E.isVar : E → Bool
  | .var _ => true
  | _ => false
/-- results that are new -/
def fresh : E → Bool
  | .dead => true
  | .int _ => true
  | .str _ => true
  | .bl _ => true
  | .non => true
  | .tup _ => true
  | .lst _ => true
  | .lstR _ => true
  | .dnew => true
  | .d1 _ _ => true
  | .bin _ _ _ => true
  | .cmp _ _ _ => true
  | .chain _ _ _ _ _ => true
  | .isN _ => true
  | .notN _ => true
  | .not _ => true
  | .neg _ => true
  | .slLo _ _ => true
  | .slHi _ _ => true
  | .b1 op _ => match op with
    | .min => false
    | .max => false
    | .tuplex => false
    | _ => true
  | .isinst _ _ => true
  | .idx _ _ => true
  | .litget _ _ _ => true
  | .lc _ _ _ _ _ => true
  | .lc2 _ _ _ _ _ _ _ _ _ => true
  | .dc _ _ _ _ _ _ => true
  | _ => false
/-- a reading told by d, in all its ways -/
structure Snd (X : Cx) (T : List (Addr × Str)) (W : XK) (fr : Bool) (d : Bool → Fm → M PV) (a : Expr) : Prop where
  o : PE X a (tD (sy X T) .O W (d true))
  e : PE X a (tD (sy X T) .E W (d false))
  f : fr = true → PE X a (tD (sy X T) .F W (d false))
  t : PT X a (tDT (sy X T) W (d false))
  w : (∃ op vs p, a = .BoolOp op vs p) → PW X a (tDT (sy X T) W (d false))
  ns : noStar a = true
structure CkX (X : Cx) (T : List (Addr × Str)) (c : Ctx) (k : Nat) (W : XK) (G : List Den) (GV : List (Str × Nat × Den)) (C : List PV) : Prop where
  ok : Cok X T c.N k W G GV C c.fns c.gcs c.bls
  sc : X.env.scope = c.sc
  fn : ∀ x, (c.sc0.names.lookup x == some .cell) = true → X.fn x = true
  fk : c.sc.kind = .function
section
variable {X : Cx} {T : List (Addr × Str)} {c : Ctx} {k : Nat} {W : XK} {G : List Den} {GV : List (Str × Nat × Den)} {C : List PV} {a b t : Expr} {d : Fm → M PV}
theorem CkX.gl (K : CkX X T c k W G GV C) {x : Str} (h : glB c x = true) : Gl X x := by
  unfold Gl Env.kindOf
  rw [K.sc]
  exact of_decide_eq_true h
theorem CkX.vis (K : CkX X T c k W G GV C) {x : Str} (h : visB c x = true) : Vis X.env.scope x := by
  unfold Vis
  rw [K.sc]
  unfold visB at h
  split at h
  · exact .inl (by assumption)
  · exact .inr (.inl (by assumption))
  · exact .inr (.inr (by assumption))
  · cases h
theorem CkX.tg (K : CkX X T c k W G GV C) {x : Str} (h : tgB c x = true) : L2.Loc X.env.scope x ∧ (X.fn x = true ∨ X.env.scope.names.lookup x = some .local) := by
  unfold L2.Loc
  rw [K.sc]
  unfold tgB at h
  split at h
  · exact ⟨.inl (by assumption), .inr (by assumption)⟩
  · exact ⟨.inr (by assumption), .inl (K.fn _ h)⟩
  · cases h
theorem plain_parts {x : Str} (h : plainN x = true) : (x == ("__debug__" : Str)) = false ∧ (x == ("__classdict__" : Str)) = false ∧ x ≠ "__name__" := by
  unfold plainN at h
  simp only [Bool.and_eq_true, Bool.not_eq_true', decide_eq_true_eq] at h
  exact ⟨h.1.1, h.1.2, h.2⟩
theorem CkX.blt (K : CkX X T c k W G GV C) {x y : Str} (h : bltB c x y = true) : x = y ∧ Gl X y ∧ X.mg y = none := by
  unfold bltB at h
  simp only [Bool.and_eq_true, decide_eq_true_eq] at h
  obtain ⟨⟨rfl, h2⟩, h3⟩ := h
  exact ⟨rfl, K.gl h2, K.ok.bls x (List.contains_iff_mem.mp h3)⟩
theorem CkX.name (K : CkX X T c k W G GV C) {i : Nat} {x : Str} (h : c.N[i]? = some x) : X.N[i]? = some x := by rw [K.ok.eN]; exact h
theorem CkX.nd (K : CkX X T c k W G GV C) : X.N.Nodup := by rw [K.ok.eN]; exact K.ok.nd
theorem star_one {env : Env} (h : noStar a = true) : starEach [a] env = [(false, eval a env)] := by
  cases a <;> first | rfl | cases h
theorem star_cons {env : Env} {es : List Expr} (h : noStar a = true) : starEach (a :: es) env = (false, eval a env) :: starEach es env := by
  cases a <;> first | rfl | cases h
theorem starOk_one {env : Env} (h : noStar a = true) : StarOk env [a] := fun e0 e1 e => by
  cases e
  exact ⟨star_cons h, fun _ => rfl⟩
/-- within a block -/
theorem CkX.blk (K : CkX X T c k W G GV C) {scope : Scope} (hk : scope.kind = .function) (s : Shared) (H : Hp) (Ca : Addr) (cl : List (Str × Addr)) (fp : List Addr) : CkX (X.blk s H scope (compEnvC scope cl Ca X.env) fp) T (c.blk scope) k W0 G GV C := by
  have sc : (compEnvC scope cl Ca X.env).scope = relS scope c.sc := by rw [← K.sc]; rfl
  refine ⟨⟨K.ok.calm, K.ok.eN, K.ok.nd, K.ok.room, takes0, fun j x ar lv h => let ⟨d, e, cc⟩ := K.ok.fns j x ar lv h; ⟨d, e, ⟨cc.ex, cc.le⟩⟩, fun p hp => let ⟨lv, cc⟩ := K.ok.gvs p hp; ⟨lv, ⟨cc.ex, cc.le⟩⟩, K.ok.gcs, K.ok.bls, ?_⟩, sc, fun x h => h, hk⟩
  exact PassesOwn.never
/-- a value that is made anew -/
theorem Snd.ofF (h : PE X a (tD (sy X T) .F W d)) (ht : ∀ whole, isTrue a X.env whole = (do let v ← whole; standAt a.pos; holding [v] (truthy v))) (hw : ∀ op vs p, a ≠ .BoolOp op vs p) (hn : noStar a = true) : Snd X T W true (fun _ => d) a :=
  ⟨toO (toE h), toE h, fun _ => h, dt_val (toE h) ht, fun ⟨op, vs, p, e⟩ => (hw op vs p e).elim, hn⟩
theorem Snd.ofE (h : PE X a (tD (sy X T) .E W d)) (ht : ∀ whole, isTrue a X.env whole = (do let v ← whole; standAt a.pos; holding [v] (truthy v))) (hw : ∀ op vs p, a ≠ .BoolOp op vs p) (hn : noStar a = true) : Snd X T W false (fun _ => d) a :=
  ⟨toO h, h, (fun z => nomatch z), dt_val h ht, fun ⟨op, vs, p, e⟩ => (hw op vs p e).elim, hn⟩
theorem Snd.ofFT (h : PE X a (tD (sy X T) .F W d)) (ht : PT X a (tDT (sy X T) W d)) (hw : ∀ op vs p, a ≠ .BoolOp op vs p) (hn : noStar a = true) : Snd X T W true (fun _ => d) a :=
  ⟨toO (toE h), toE h, fun _ => h, ht, fun ⟨op, vs, p, e⟩ => (hw op vs p e).elim, hn⟩
theorem Snd.ofET (h : PE X a (tD (sy X T) .E W d)) (ht : PT X a (tDT (sy X T) W d)) (hw : ∀ op vs p, a ≠ .BoolOp op vs p) (hn : noStar a = true) : Snd X T W false (fun _ => d) a :=
  ⟨toO h, h, (fun z => nomatch z), ht, fun ⟨op, vs, p, e⟩ => (hw op vs p e).elim, hn⟩
theorem Snd.weak {fr : Bool} {d : Bool → Fm → M PV} (h : Snd X T W true d a) : Snd X T W fr d a := ⟨h.o, h.e, fun _ => h.f rfl, h.t, h.w, h.ns⟩
theorem snd_dead (hn : noStar a = true) : Snd X T W true (fun _ _ => stk) a := by
  have h : ∀ md, PE X a (tD (sy X T) md W fun _ => stk) := fun md => ⟨fun pins s σ H Q I h => by
    obtain ⟨G, m, s, H₀, r, _, p⟩ := h
    exact p.elim⟩
  refine ⟨h _, h _, fun _ => h _, ⟨fun pins s σ H Q I h => ?_⟩, fun _ => ⟨fun wh pins s σ H Q I h => ?_⟩, hn⟩
  · obtain ⟨G, m, s, H₀, r, _, p⟩ := h
    exact p.elim
  · obtain ⟨G, m, s, H₀, r, _, p⟩ := h
    exact p.elim
end
end RP

/-! Fw22: the check of expressions. Own work. -/
namespace RP
open PySem PySem.Spec PyProof.Rows L2

def Es.len : Es → Nat
  | .nil => 0
  | .cons _ es => es.len + 1
def chkTgs : List Nat → Ctx → List Expr → Bool
  | [], _, ts => (match ts with | [] => true | _ => false)
  | i :: is, c, ts => (match ts with
    | t :: ts => (match t with
      | .Name y _ => decide (c.N[i]? = some y) && tgB c y && chkTgs is c ts
      | _ => false)
    | [] => false)
def chkTg (t : Tg) (c : Ctx) (x : Expr) : Bool := match t with
  | .nm i => (match x with
    | .Name y _ => decide (c.N[i]? = some y) && tgB c y
    | _ => false)
  | .tup is => (match x with
    | .Tuple es _ _ => chkTgs is c es
    | _ => false)
def isTupE : Expr → Bool
  | .Tuple _ _ _ => true
  | _ => false
def ownOf (c : Ctx) (vs : List Nat) : List (Str × Nat) := vs.map fun i => (c.N.getD i "", i)
def subB (a b : List Nat) : Bool := a.all fun i => b.contains i
def b1N : B1 → Str
  | .len => "len"
  | .list => "list"
  | .tuple => "tuple"
  | .tuplex => "tuple"
  | .sorted => "sorted"
  | .dict => "dict"
  | .sum => "sum"
  | .min => "min"
  | .max => "max"
  | .all => "all"
  | .any => "any"
  | .int => "int"
  | .bool => "bool"
  | .abs => "abs"
  | _ => ""
def isTrueE : E → Bool
  | .bl true => true
  | _ => false
/-- a check of an expression -/
abbrev CE := Ctx → Expr → Bool
abbrev CEs := Ctx → List Expr → Bool
abbrev CI := Ctx → Expr → Expr → Bool
def ckVar (i : Nat) (c : Ctx) (t : Expr) : Bool := (match t with
    | .Name x _ => decide (c.N[i]? = some x) && visB c x && plainN x
    | _ => false)
def ckInt (i : Int) (c : Ctx) (t : Expr) : Bool := (match t with
    | .Constant v _ _ => (match v with | .int j => decide (i = j) | _ => false)
    | _ => false)
def ckStr (x : Str) (c : Ctx) (t : Expr) : Bool := (match t with
    | .Constant v _ _ => (match v with | .str y => decide (x = y) | _ => false)
    | _ => false)
def ckBl (b : Bool) (c : Ctx) (t : Expr) : Bool := (match t with
    | .Constant v _ _ => (match v with | .bool d => decide (b = d) | _ => false)
    | _ => false)
def ckNon  (c : Ctx) (t : Expr) : Bool := (match t with
    | .Constant v _ _ => (match v with | .none => true | _ => false)
    | _ => false)
def ckGc (j : Nat) (c : Ctx) (t : Expr) : Bool := (match t with
    | .Name x _ => decide (c.gcs[j]? = some x) && glB c x && plainN x
    | _ => false)
def ckTup (es : CEs) (n : Nat) (c : Ctx) (t : Expr) : Bool := (match t with
    | .Tuple xs _ _ => decide (n ≤ 1000) && es c xs
    | _ => false)
def ckLst (es : CEs) (n : Nat) (c : Ctx) (t : Expr) : Bool := (match t with
    | .List xs _ => decide (n ≤ 1000) && es c xs
    | _ => false)
def ckLstR (es : CEs) (n : Nat) (c : Ctx) (t : Expr) : Bool := (match t with
    | .List xs _ => decide (n ≤ 1000) && es c xs
    | _ => false)
def ckDnew  (c : Ctx) (t : Expr) : Bool := (match t with
    | .Dict ks vs _ => ks.isEmpty && vs.isEmpty
    | _ => false)
def ckD1 (k : CE) (v : CE) (c : Ctx) (t : Expr) : Bool := (match t with
    | .Dict ks vs _ => (match ks, vs with
      | [some x], [y] => k c x && v c y
      | _, _ => false)
    | _ => false)
def ckBin (op : BO) (a : CE) (b : CE) (c : Ctx) (t : Expr) : Bool := (match t with
    | .BinOp x o y _ => decide (o = opOf op) && a c x && b c y
    | _ => false)
def ckCmp (op : CO) (a : CE) (b : CE) (c : Ctx) (t : Expr) : Bool := (match t with
    | .Compare x os ys _ => (match os, ys with
      | [o], [y] => decide (o = copOf op) && !behindInMarks o y && a c x && b c y
      | _, _ => false)
    | _ => false)
def ckChain (op : CO) (op' : CO) (a : CE) (b : CE) (d : CE) (c : Ctx) (t : Expr) : Bool := (match t with
    | .Compare x os ys _ => (match os, ys with
      | [o, o'], [y, z] => decide (o = copOf op) && decide (o' = copOf op') && !lastMarks [o, o'] [y, z] && a c x && b c y && d c z
      | _, _ => false)
    | _ => false)
def ckIsN (a : CE) (c : Ctx) (t : Expr) : Bool := (match t with
    | .Compare x os ys _ => (match os, ys with
      | [.Is], [.Constant .none _ _] => a c x
      | _, _ => false)
    | _ => false)
def ckNotN (a : CE) (c : Ctx) (t : Expr) : Bool := (match t with
    | .Compare x os ys _ => (match os, ys with
      | [.IsNot], [.Constant .none _ _] => a c x
      | _, _ => false)
    | _ => false)
def ckAnd (a : CE) (b : CE) (c : Ctx) (t : Expr) : Bool := (match t with
    | .BoolOp op vs pos => (match op, vs with
      | .And, x :: y :: r => a c x && (match r with
        | [] => b c y
        | _ :: _ => b c (.BoolOp .And (y :: r) pos))
      | _, _ => false)
    | _ => false)
def ckOr (a : CE) (b : CE) (c : Ctx) (t : Expr) : Bool := (match t with
    | .BoolOp op vs pos => (match op, vs with
      | .Or, x :: y :: r => a c x && (match r with
        | [] => b c y
        | _ :: _ => b c (.BoolOp .Or (y :: r) pos))
      | _, _ => false)
    | _ => false)
def ckNot (a : CE) (c : Ctx) (t : Expr) : Bool := (match t with
    | .UnaryOp op x _ => (match op with | .Not => a c x | _ => false)
    | _ => false)
def ckNeg (a : CE) (c : Ctx) (t : Expr) : Bool := (match t with
    | .UnaryOp op x _ => (match op with | .USub => a c x | _ => false)
    | _ => false)
def ckIte (d : CE) (a : CE) (b : CE) (c : Ctx) (t : Expr) : Bool := (match t with
    | .IfExp x y z _ => d c x && a c y && b c z
    | _ => false)
def ckIx (a : CE) (b : CE) (c : Ctx) (t : Expr) : Bool := (match t with
    | .Subscript x y _ => ixB y && a c x && b c y
    | _ => false)
def ckSlLo (a : CE) (b : CE) (c : Ctx) (t : Expr) : Bool := (match t with
    | .Subscript x s _ => (match s with
      | .Slice lo hi st _ => (match lo, hi, st with
        | some y, none, none => a c x && b c y
        | _, _, _ => false)
      | _ => false)
    | _ => false)
def ckSlHi (a : CE) (b : CE) (c : Ctx) (t : Expr) : Bool := (match t with
    | .Subscript x s _ => (match s with
      | .Slice lo hi st _ => (match lo, hi, st with
        | none, some y, none => a c x && b c y
        | _, _, _ => false)
      | _ => false)
    | _ => false)
def ckCall (j : Nat) (es : CEs) (n : Nat) (c : Ctx) (t : Expr) : Bool := (match t with
    | .Call f as ks _ => (match f, ks, c.fns[j]? with
      | .Name x _, [], some (y, ar, _) => decide (x = y) && glB c x && plainN x && decide (n = ar) && es c as
      | _, _, _ => false)
    | _ => false)
def ckB1 (op : B1) (a : CE) (c : Ctx) (t : Expr) : Bool := (match t with
    | .Call f as ks _ => (match f, as, ks with
      | .Name x _, [y], [] => (match op with
        | .sortedSet => (match y with
          | .Call f2 as2 ks2 _ => (match f2, as2, ks2 with
            | .Name x2 _, [z], [] => bltB c x "sorted" && bltB c x2 "set" && a c z
            | _, _, _ => false)
          | _ => false)
        | .lenSet => false
        | _ => bltB c x (b1N op) && a c y)
      | _, _, _ => false)
    | _ => false)
def ckMin2 (a : CE) (b : CE) (c : Ctx) (t : Expr) : Bool := (match t with
    | .Call f as ks _ => (match f, as, ks with
      | .Name x _, [y, z], [] => bltB c x "min" && a c y && b c z
      | _, _, _ => false)
    | _ => false)
def ckMax2 (a : CE) (b : CE) (c : Ctx) (t : Expr) : Bool := (match t with
    | .Call f as ks _ => (match f, as, ks with
      | .Name x _, [y, z], [] => bltB c x "max" && a c y && b c z
      | _, _, _ => false)
    | _ => false)
def ckIsinst (ty : Ty) (a : CE) (c : Ctx) (t : Expr) : Bool := (match t with
    | .Call f as ks _ => (match f, as, ks with
      | .Name x _, [y, .Name z _], [] => bltB c x "isinstance" && bltB c z (tyName ty) && a c y
      | _, _, _ => false)
    | _ => false)
def ckIdx (a : CE) (b : CE) (c : Ctx) (t : Expr) : Bool := (match t with
    | .Call f as ks cp => (match f, as, ks with
      | .Attribute x m ap, [y], [] => decide (m = "index") && (ap.endLine == cp.line) && attrB x && a c x && b c y
      | _, _, _ => false)
    | _ => false)
def ckLitget (ps : List (Str × Str)) (a : CE) (d : Str) (c : Ctx) (t : Expr) : Bool := (match t with
    | .Call f as ks cp => (match f, as, ks, ps with
      | .Attribute (.Dict [some (.Constant (.str k1) _ _), some (.Constant (.str k2) _ _)] [.Constant (.str v1) _ _, .Constant (.str v2) _ _] _) m ap, [y, .Constant (.str d') _ _], [], [(k1', v1'), (k2', v2')] =>
        decide (m = "get") && (ap.endLine == cp.line) && decide (k1 = k1') && decide (k2 = k2') && decide (v1 = v1') && decide (v2 = v2') && decide (d = d') && !eqS k1 k2 && a c y
      | _, _, _, _ => false)
    | _ => false)
def ckLc (e : CE) (tg : Tg) (it : CI) (cd : CE) (cdT : Bool) (vs : List Nat) (c : Ctx) (t : Expr) : Bool := (match t with
    | .ListComp elt gs scope _ => (match gs with
      | [g] => (match g with
        | ⟨tx, iter, ifs, 0⟩ => blkC c.N c.sc scope (ownOf c vs) && subB tg.is vs && noSet iter && it c tx iter && chkTg tg (c.blk scope) tx && e (c.blk scope) elt && (match ifs with
          | [] => cdT
          | [x] => cd (c.blk scope) x
          | _ => false)
        | _ => false)
      | _ => false)
    | _ => false)
def ckLc2 (e : CE) (tg : Tg) (it : CI) (cd : CE) (cdT : Bool) (tg2 : Tg) (it2 : CI) (cd2 : CE) (cd2T : Bool) (vs : List Nat) (vs2 : List Nat) (c : Ctx) (t : Expr) : Bool := (match t with
    | .ListComp elt gs scope _ => (match gs with
      | [g, g2] => (match g, g2 with
        | ⟨tx, iter, ifs, 0⟩, ⟨tx2, iter2, ifs2, 0⟩ => blkC c.N c.sc scope (ownOf c vs) && subB tg.is vs && subB tg2.is vs2 && subB vs2 vs && noSet iter && noSet iter2 && it c tx iter && it2 (c.blk scope) tx2 iter2 && chkTg tg (c.blk scope) tx && chkTg tg2 (c.blk scope) tx2 && e (c.blk scope) elt && (match ifs with
          | [] => cdT
          | [x] => cd (c.blk scope) x
          | _ => false) && (match ifs2 with
          | [] => cd2T
          | [x] => cd2 (c.blk scope) x
          | _ => false)
        | _, _ => false)
      | _ => false)
    | _ => false)
def ckDc (ek : CE) (ev : CE) (tg : Tg) (it : CI) (cd : CE) (cdT : Bool) (vs : List Nat) (c : Ctx) (t : Expr) : Bool := (match t with
    | .DictComp kx vx gs scope _ => (match gs with
      | [g] => (match g with
        | ⟨tx, iter, ifs, 0⟩ => blkC c.N c.sc scope (ownOf c vs) && subB tg.is vs && noSet iter && it c tx iter && chkTg tg (c.blk scope) tx && ek (c.blk scope) kx && ev (c.blk scope) vx && (match ifs with
          | [] => cdT
          | [x] => cd (c.blk scope) x
          | _ => false)
        | _ => false)
      | _ => false)
    | _ => false)
def ckRange1 (a : CE) (c : Ctx) (tx t : Expr) : Bool := (match t with
    | .Call f as ks _ => (match f, as, ks with
      | .Name x _, [y], [] => bltB c x "range" && a c y
      | _, _, _ => false)
    | _ => false)
def ckEnum (a : CE) (c : Ctx) (tx t : Expr) : Bool := (match t with
    | .Call f as ks _ => (match f, as, ks with
      | .Name x _, [y], [] => isTupE tx && bltB c x "enumerate" && a c y
      | _, _, _ => false)
    | _ => false)
def ckZip (a : CE) (b : CE) (c : Ctx) (tx t : Expr) : Bool := (match t with
    | .Call f as ks _ => (match f, as, ks with
      | .Name x _, [y, z], [] => isTupE tx && bltB c x "zip" && a c y && b c z
      | _, _, _ => false)
    | _ => false)
def ckItems (a : CE) (c : Ctx) (tx t : Expr) : Bool := (match t with
    | .Call f as ks cp => (match f, as, ks with
      | .Attribute y m ap, [], [] => isTupE tx && decide (m = "items") && (ap.endLine == cp.line) && attrB y && a c y
      | _, _, _ => false)
    | _ => false)
mutual
def chkE : E → Ctx → Expr → Bool
  | .dead, _, t => noStar t
  | .var i, c, t => ckVar i c t
  | .int i, c, t => ckInt i c t
  | .str x, c, t => ckStr x c t
  | .bl b, c, t => ckBl b c t
  | .non, c, t => ckNon  c t
  | .gc j, c, t => ckGc j c t
  | .fnv _, _, _ => false
  | .tup es, c, t => ckTup (chkEs es) es.len c t
  | .lst es, c, t => ckLst (chkEs es) es.len c t
  | .lstR es, c, t => ckLstR (chkEs es) es.len c t
  | .dnew, c, t => ckDnew  c t
  | .d1 k v, c, t => ckD1 (chkE k) (chkE v) c t
  | .bin op a b, c, t => ckBin op (chkE a) (chkE b) c t
  | .cmp op a b, c, t => ckCmp op (chkE a) (chkE b) c t
  | .chain op op' a b d, c, t => ckChain op op' (chkE a) (chkE b) (chkE d) c t
  | .isN a, c, t => ckIsN (chkE a) c t
  | .notN a, c, t => ckNotN (chkE a) c t
  | .and a b, c, t => ckAnd (chkE a) (chkE b) c t
  | .or a b, c, t => ckOr (chkE a) (chkE b) c t
  | .not a, c, t => ckNot (chkE a) c t
  | .neg a, c, t => ckNeg (chkE a) c t
  | .ite d a b, c, t => ckIte (chkE d) (chkE a) (chkE b) c t
  | .ix a b, c, t => ckIx (chkE a) (chkE b) c t
  | .slLo a b, c, t => ckSlLo (chkE a) (chkE b) c t
  | .slHi a b, c, t => ckSlHi (chkE a) (chkE b) c t
  | .call j es, c, t => ckCall j (chkEs es) es.len c t
  | .callv _ _, _, _ => false
  | .b1 op a, c, t => ckB1 op (chkE a) c t
  | .min2 a b, c, t => ckMin2 (chkE a) (chkE b) c t
  | .max2 a b, c, t => ckMax2 (chkE a) (chkE b) c t
  | .isinst ty a, c, t => ckIsinst ty (chkE a) c t
  | .idx a b, c, t => ckIdx (chkE a) (chkE b) c t
  | .litget ps a d, c, t => ckLitget ps (chkE a) d c t
  | .lrange _, _, _ => false
  | .lc e tg it cd vs, c, t => ckLc (chkE e) tg (chkI it) (chkE cd) (isTrueE cd) vs c t
  | .lc2 e tg it cd tg2 it2 cd2 vs vs2, c, t => ckLc2 (chkE e) tg (chkI it) (chkE cd) (isTrueE cd) tg2 (chkI it2) (chkE cd2) (isTrueE cd2) vs vs2 c t
  | .dc ek ev tg it cd vs, c, t => ckDc (chkE ek) (chkE ev) tg (chkI it) (chkE cd) (isTrueE cd) vs c t
def chkEs : Es → Ctx → List Expr → Bool
  | .nil, _, ts => ts.isEmpty
  | .cons e es, c, ts => (match ts with
    | x :: xs => chkE e c x && chkEs es c xs
    | [] => false)
def chkI : It → Ctx → Expr → Expr → Bool
  | .seq e, c, _, t => chkE e c t
  | .keys e, c, _, t => chkE e c t
  | .range1 a, c, tx, t => ckRange1 (chkE a) c tx t
  | .enum a, c, tx, t => ckEnum (chkE a) c tx t
  | .zip a b, c, tx, t => ckZip (chkE a) (chkE b) c tx t
  | .items a, c, tx, t => ckItems (chkE a) c tx t
end
end RP

/-! Fw23: the check of expressions is sound. Own work. -/
namespace RP
open PySem PySem.Spec PyProof.Rows L2

theorem ix_plain {b : Expr} (h : ixB b = true) : PlainIx b := by
  intro o i
  cases b <;> first | rfl | cases h
theorem attr_plain {a : Expr} {m : Str} {env : Env} (h : attrB a = true) : attributeBase a m env (eval a env) = eval a env := by
  cases a <;> first | rfl | cases h
theorem set_plain {a : Expr} {env : Env} (h : noSet a = true) (x : Value) : foldedSetIterable a env x = pure x := by
  cases a <;> first | rfl | cases h
theorem sub_mem {a b : List Nat} (h : subB a b = true) : ∀ i, i ∈ a → i ∈ b := fun i hi => List.contains_iff_mem.mp (List.all_eq_true.mp h i hi)
theorem ownOf_snd (c : Ctx) (vs : List Nat) : (ownOf c vs).map (·.2) = vs := by
  unfold ownOf
  rw [List.map_map]
  exact List.map_id' vs
section
variable {T : List (Addr × Str)} {k : Nat} {G : List Den} {GV : List (Str × Nat × Den)} {C : List PV}
theorem denEs_len : ∀ (es : Es) (r : Fm) (s : AS) (vs : List PV) (s' : AS), denEs G GV C es r s = .ok vs s' → vs.length = es.len
  | .nil, r, s, vs, s', h => by cases h; rfl
  | .cons e es, r, s, vs, s', h => by
    have h : bnd (den G GV C e false r) (fun v => bnd (denEs G GV C es r) fun vs => ret (v :: vs)) s = .ok vs s' := h
    unfold bnd at h
    cases q : den G GV C e false r s with
    | ok v s1 =>
      rw [q] at h
      simp only [Res.andThen] at h
      cases q2 : denEs G GV C es r s1 with
      | ok us s2 =>
        rw [q2] at h
        simp only [Res.andThen, ret] at h
        cases h
        rw [List.length_cons, denEs_len es r s1 us _ q2]
        rfl
      | exc x s2 => rw [q2] at h; cases h
      | stuck => rw [q2] at h; cases h
    | exc x s1 => rw [q] at h; cases h
    | stuck => rw [q] at h; cases h
theorem few_of {es : Es} (h : es.len ≤ 1000) : Few (denEs G GV C es) := fun r s vs s' e => by rw [denEs_len es r s vs s' e]; exact h
theorem tgs_of {X : Cx} {W : XK} {c : Ctx} (K : CkX X T c k W G GV C) : ∀ (is : List Nat) (ts : List Expr), chkTgs is c ts = true → Tgs X ts is
  | [], [], _ => .nil
  | [], _ :: _, h => by simp [chkTgs] at h
  | i :: is, [], h => by simp [chkTgs] at h
  | i :: is, t :: ts, h => by
    cases t with
    | Name y p =>
      simp only [chkTgs, Bool.and_eq_true, decide_eq_true_eq] at h
      obtain ⟨⟨h1, h2⟩, h3⟩ := h
      exact .cons (K.name h1) (K.tg h2).1 (K.tg h2).2 (tgs_of K is ts h3)
    | _ => simp [chkTgs] at h
theorem tg_of {X : Cx} {W : XK} {c : Ctx} (K : CkX X T c k W G GV C) {t : Tg} {x : Expr} (h : chkTg t c x = true) : TgOk X x t := by
  cases t with
  | nm i =>
    cases x with
    | Name y p =>
      simp only [chkTg, Bool.and_eq_true, decide_eq_true_eq] at h
      exact .nm (K.name h.1) (K.tg h.2).1 (K.tg h.2).2
    | _ => simp [chkTg] at h
  | tup is =>
    cases x with
    | Tuple es kk p => exact .tup (tgs_of K is es h)
    | _ => simp [chkTg] at h
theorem Snd.md {X : Cx} {W : XK} {fr : Bool} {d : Bool → Fm → M PV} {a : Expr} (h : Snd X T W fr d a) (o : Bool) : PE X a (tD (sy X T) (RP.md o) W (d o)) := by
  cases o with
  | true => exact h.o
  | false => exact h.e
/-- a check is sound -/
def SA (T : List (Addr × Str)) (k : Nat) (G : List Den) (GV : List (Str × Nat × Den)) (C : List PV) (fa : CE) (fr : Bool) (d : Bool → Fm → M PV) : Prop := ∀ (X : Cx) (c : Ctx) (W : XK) (t : Expr), CkX X T c k W G GV C → fa c t = true → Snd X T W fr d t
def SAs (T : List (Addr × Str)) (k : Nat) (G : List Den) (GV : List (Str × Nat × Den)) (C : List PV) (fs : CEs) (ds : Fm → M (List PV)) : Prop := ∀ (X : Cx) (c : Ctx) (W : XK) (ts : List Expr), CkX X T c k W G GV C → fs c ts = true → PA X ts (tDA (sy X T) W ds) ∧ ∀ x, x ∈ ts → noStar x = true
def SAI (T : List (Addr × Str)) (k : Nat) (G : List Den) (GV : List (Str × Nat × Den)) (C : List PV) (fi : CI) (di : Bool → Fm → M (List PV)) : Prop := ∀ (X : Cx) (c : Ctx) (W : XK) (tx t : Expr), CkX X T c k W G GV C → fi c tx t = true → ∀ o, PI X tx t (tDI (sy X T) o W (di o))
variable {fa fb fd : CE} {ra rb rd : Bool} {da db dd : Bool → Fm → M PV} {fs : CEs} {ds : Fm → M (List PV)}
theorem sa_var (i : Nat) : SA T k G GV C (ckVar i) false (fun o r => match r.get i with
      | .sh v => ret v
      | .ow xs => if o then ret (.lst xs) else stk
      | .od kvs => if o then ret (.dct kvs) else stk
      | .no => stk) := by
  intro X c W t K h
  cases t with
  | Name x p =>
    simp only [ckVar, Bool.and_eq_true, decide_eq_true_eq] at h
    obtain ⟨⟨h1, h2⟩, h3⟩ := h
    obtain ⟨p1, p2, _⟩ := plain_parts h3
    have key := fun o => de_var (T := T) (W := W) (pos := p) (K.name h1) (K.vis h2) p1 p2 o
    exact ⟨key true, key false, (fun z => nomatch z), dt_val (key false) (fun _ => rfl), (fun ⟨_, _, _, e⟩ => nomatch e), rfl⟩
  | _ => simp [ckVar] at h
theorem sa_int (i : Int) : SA T k G GV C (ckInt i) true (fun _ _ => ret (.int i)) := by
  intro X c W t K h
  unfold ckInt at h
  split at h
  · split at h
    · simp only [decide_eq_true_eq] at h
      subst h
      exact Snd.ofF de_int (fun _ => rfl) (fun _ _ _ z => nomatch z) rfl
    · cases h
  · cases h
theorem sa_str (i : Str) : SA T k G GV C (ckStr i) true (fun _ _ => ret (.str i)) := by
  intro X c W t K h
  unfold ckStr at h
  split at h
  · split at h
    · simp only [decide_eq_true_eq] at h
      subst h
      exact Snd.ofF de_str (fun _ => rfl) (fun _ _ _ z => nomatch z) rfl
    · cases h
  · cases h
theorem sa_bl (i : Bool) : SA T k G GV C (ckBl i) true (fun _ _ => ret (.bl i)) := by
  intro X c W t K h
  unfold ckBl at h
  split at h
  · split at h
    · simp only [decide_eq_true_eq] at h
      subst h
      exact Snd.ofF de_bl (fun _ => rfl) (fun _ _ _ z => nomatch z) rfl
    · cases h
  · cases h
theorem sa_non : SA T k G GV C ckNon true (fun _ _ => ret .non) := by
  intro X c W t K h
  unfold ckNon at h
  split at h
  · split at h
    · exact Snd.ofF de_non (fun _ => rfl) (fun _ _ _ z => nomatch z) rfl
    · cases h
  · cases h
theorem sa_gc (j : Nat) : SA T k G GV C (ckGc j) false (fun _ _ => opt C[j]?) := by
  intro X c W t K h
  unfold ckGc at h
  split at h
  · simp only [Bool.and_eq_true, decide_eq_true_eq] at h
    obtain ⟨⟨h1, h2⟩, h3⟩ := h
    obtain ⟨p1, p2, _⟩ := plain_parts h3
    exact Snd.ofE (de_gc K.ok h1 (K.gl h2) p1) (fun _ => rfl) (fun _ _ _ z => nomatch z) rfl
  · cases h
theorem sa_tup {n : Nat} (hs : SAs T k G GV C fs ds) (hl : n ≤ 1000 → Few ds) : SA T k G GV C (ckTup fs n) true (fun _ r => bnd (ds r) fun vs => ret (.tup vs)) := by
  intro X c W t K h
  unfold ckTup at h
  split at h
  · simp only [Bool.and_eq_true, decide_eq_true_eq] at h
    exact Snd.ofF (de_tup (hs X c W _ K h.2).1 (hl h.1)) (fun _ => rfl) (fun _ _ _ z => nomatch z) rfl
  · cases h
theorem sa_lst {n : Nat} (hs : SAs T k G GV C fs ds) (hl : n ≤ 1000 → Few ds) : SA T k G GV C (ckLst fs n) true (fun _ r => bnd (ds r) fun vs => ret (.lst vs)) := by
  intro X c W t K h
  unfold ckLst at h
  split at h
  · simp only [Bool.and_eq_true, decide_eq_true_eq] at h
    exact Snd.ofF (de_lst (hs X c W _ K h.2).1 (hl h.1)) (fun _ => rfl) (fun _ _ _ z => nomatch z) rfl
  · cases h
theorem sa_lstR {n : Nat} (hs : SAs T k G GV C fs ds) (hl : n ≤ 1000 → Few ds) : SA T k G GV C (ckLstR fs n) true (fun _ r => bnd (ds r) fun vs => fun s => .ok (.ref s.length) (s ++ [.lst vs])) := by
  intro X c W t K h
  unfold ckLstR at h
  split at h
  · simp only [Bool.and_eq_true, decide_eq_true_eq] at h
    exact Snd.ofF (de_lstR (hs X c W _ K h.2).1 (hl h.1)) (fun _ => rfl) (fun _ _ _ z => nomatch z) rfl
  · cases h
theorem sa_dnew : SA T k G GV C ckDnew true (fun _ _ => ret (.dct [])) := by
  intro X c W t K h
  unfold ckDnew at h
  split at h
  · simp only [Bool.and_eq_true, List.isEmpty_iff] at h
    obtain ⟨rfl, rfl⟩ := h
    exact Snd.ofF de_dnew (fun _ => rfl) (fun _ _ _ z => nomatch z) rfl
  · cases h
theorem sa_d1 (ha : SA T k G GV C fa ra da) (hb : SA T k G GV C fb rb db) : SA T k G GV C (ckD1 fa fb) true (fun _ r => bnd (da false r) fun x => bnd (db false r) fun y => if keyT x then ret (.dct [(x, y)]) else stk) := by
  intro X c W t K h
  unfold ckD1 at h
  split at h
  · split at h
    · simp only [Bool.and_eq_true] at h
      exact Snd.ofF (de_d1 K.ok.un (ha X c W _ K h.1).e (hb X c W _ K h.2).e) (fun _ => rfl) (fun _ _ _ z => nomatch z) rfl
    · cases h
  · cases h
theorem sa_bin (op : BO) (ha : SA T k G GV C fa ra da) (hb : SA T k G GV C fb rb db) : SA T k G GV C (ckBin op fa fb) true (fun _ r => bnd (da true r) fun x => bnd (db true r) fun y => opt (binP op x y)) := by
  intro X c W t K h
  unfold ckBin at h
  split at h
  · simp only [Bool.and_eq_true, decide_eq_true_eq] at h
    obtain ⟨⟨rfl, h1⟩, h2⟩ := h
    exact Snd.ofF (de_bin (ha X c W _ K h1).o (hb X c W _ K h2).o) (fun _ => rfl) (fun _ _ _ z => nomatch z) rfl
  · cases h
theorem sa_cmp (op : CO) (ha : SA T k G GV C fa ra da) (hb : SA T k G GV C fb rb db) : SA T k G GV C (ckCmp op fa fb) true (fun _ r => bnd (da true r) fun x => bnd (db true r) fun y => opt ((cmpP op x y).map .bl)) := by
  intro X c W t K h
  unfold ckCmp at h
  split at h
  · split at h
    · simp only [Bool.and_eq_true, decide_eq_true_eq, Bool.not_eq_true'] at h
      obtain ⟨⟨⟨rfl, h0⟩, h1⟩, h2⟩ := h
      exact Snd.ofFT (de_cmp K.ok.un (ha X c W _ K h1).o (hb X c W _ K h2).o h0) (dt_cmp K.ok.un (ha X c W _ K h1).o (hb X c W _ K h2).o h0) (fun _ _ _ z => nomatch z) rfl
    · cases h
  · cases h
theorem sa_chain (op op' : CO) (ha : SA T k G GV C fa ra da) (hb : SA T k G GV C fb rb db) (hd : SA T k G GV C fd rd dd) : SA T k G GV C (ckChain op op' fa fb fd) true (fun _ r => bnd (da false r) fun x => bnd (db false r) fun y => bnd (opt (cmpP op x y)) fun k =>
      if k then bnd (dd false r) fun z => opt ((cmpP op' y z).map .bl) else ret (.bl false)) := by
  intro X c W t K h
  unfold ckChain at h
  split at h
  · split at h
    · simp only [Bool.and_eq_true, decide_eq_true_eq, Bool.not_eq_true'] at h
      obtain ⟨⟨⟨⟨⟨rfl, rfl⟩, h0⟩, h1⟩, h2⟩, h3⟩ := h
      exact Snd.ofFT (de_chain K.ok.un (ha X c W _ K h1).e (hb X c W _ K h2).e (hd X c W _ K h3).e h0) (dt_chain K.ok.un (ha X c W _ K h1).e (hb X c W _ K h2).e (hd X c W _ K h3).e h0) (fun _ _ _ z => nomatch z) rfl
    · cases h
  · cases h
theorem sa_isN (ha : SA T k G GV C fa ra da) : SA T k G GV C (ckIsN fa) true (fun _ r => bnd (da false r) fun x => ret (.bl (isNonP x))) := by
  intro X c W t K h
  unfold ckIsN at h
  split at h
  · split at h
    · exact Snd.ofFT (de_isN (ha X c W _ K h).e) (dt_isN (ha X c W _ K h).e) (fun _ _ _ z => nomatch z) rfl
    · cases h
  · cases h
theorem sa_notN (ha : SA T k G GV C fa ra da) : SA T k G GV C (ckNotN fa) true (fun _ r => bnd (da false r) fun x => ret (.bl (!isNonP x))) := by
  intro X c W t K h
  unfold ckNotN at h
  split at h
  · split at h
    · exact Snd.ofFT (de_notN (ha X c W _ K h).e) (dt_notN (ha X c W _ K h).e) (fun _ _ _ z => nomatch z) rfl
    · cases h
  · cases h
theorem sa_and (ha : SA T k G GV C fa ra da) (hb : SA T k G GV C fb rb db) : SA T k G GV C (ckAnd fa fb) false (fun _ r => tst (da false r) fun k => if k then db false r else ret (.bl false)) := by
  intro X c W t K h
  unfold ckAnd at h
  split at h
  · split at h
    · rename_i pos op vs x y rr
      simp only [Bool.and_eq_true] at h
      obtain ⟨h1, h2⟩ := h
      have sa := ha X c W _ K h1
      cases rr with
      | nil =>
        have sb := hb X c W _ K h2
        have e := de_and (pos := pos) (rest := []) sa.e (pe_one sb.e)
        have w := dw_and (pos := pos) (rest := []) sa.t (pw_and1 sb.t)
        exact ⟨toO e, e, (fun z => nomatch z), w.pt, fun _ => w, rfl⟩
      | cons z rr =>
        have sb := hb X c W _ K h2
        have e := de_and sa.e sb.e
        have w := dw_and sa.t (sb.w ⟨_, _, _, rfl⟩)
        exact ⟨toO e, e, (fun z => nomatch z), w.pt, fun _ => w, rfl⟩
    · cases h
  · cases h
theorem sa_or (ha : SA T k G GV C fa ra da) (hb : SA T k G GV C fb rb db) : SA T k G GV C (ckOr fa fb) false (fun _ r => tst (da false r) fun k => if k then ret (.bl true) else db false r) := by
  intro X c W t K h
  unfold ckOr at h
  split at h
  · split at h
    · rename_i pos op vs x y rr
      simp only [Bool.and_eq_true] at h
      obtain ⟨h1, h2⟩ := h
      have sa := ha X c W _ K h1
      cases rr with
      | nil =>
        have sb := hb X c W _ K h2
        have e := de_or (pos := pos) (rest := []) sa.e (pe_one sb.e)
        have w := dw_or (pos := pos) (rest := []) sa.t (pw_or1 sb.t)
        exact ⟨toO e, e, (fun z => nomatch z), w.pt, fun _ => w, rfl⟩
      | cons z rr =>
        have sb := hb X c W _ K h2
        have e := de_or sa.e sb.e
        have w := dw_or sa.t (sb.w ⟨_, _, _, rfl⟩)
        exact ⟨toO e, e, (fun z => nomatch z), w.pt, fun _ => w, rfl⟩
    · cases h
  · cases h
theorem sa_not (ha : SA T k G GV C fa ra da) : SA T k G GV C (ckNot fa) true (fun _ r => tst (da false r) fun k => ret (.bl (!k))) := by
  intro X c W t K h
  unfold ckNot at h
  split at h
  · split at h
    · exact Snd.ofFT (de_not (ha X c W _ K h).e) (dt_not (ha X c W _ K h).t) (fun _ _ _ z => nomatch z) rfl
    · cases h
  · cases h
theorem sa_neg (ha : SA T k G GV C fa ra da) : SA T k G GV C (ckNeg fa) true (fun _ r => bnd (da false r) fun x => match x with
    | .int i => ret (.int (-i))
    | _ => stk) := by
  intro X c W t K h
  unfold ckNeg at h
  split at h
  · split at h
    · exact Snd.ofF (de_neg (ha X c W _ K h).e) (fun _ => rfl) (fun _ _ _ z => nomatch z) rfl
    · cases h
  · cases h
theorem sa_ite (hd : SA T k G GV C fd rd dd) (ha : SA T k G GV C fa ra da) (hb : SA T k G GV C fb rb db) : SA T k G GV C (ckIte fd fa fb) false (fun _ r => tst (dd false r) fun k => if k then da false r else db false r) := by
  intro X c W t K h
  unfold ckIte at h
  split at h
  · simp only [Bool.and_eq_true] at h
    obtain ⟨⟨h1, h2⟩, h3⟩ := h
    have s1 := hd X c W _ K h1
    have s2 := ha X c W _ K h2
    have s3 := hb X c W _ K h3
    exact Snd.ofET (de_ite s1.t s2.e s3.e) (dt_ite s1.t s2.t s3.t) (fun _ _ _ z => nomatch z) rfl
  · cases h
theorem sa_ix (ha : SA T k G GV C fa ra da) (hb : SA T k G GV C fb rb db) : SA T k G GV C (ckIx fa fb) false (fun _ r => bnd (da true r) fun x => bnd (db false r) fun y => fun s => opt (ixP s x y) s) := by
  intro X c W t K h
  unfold ckIx at h
  split at h
  · simp only [Bool.and_eq_true] at h
    obtain ⟨⟨h1, h2⟩, h3⟩ := h
    exact Snd.ofE (de_ix K.ok.un (ha X c W _ K h2).o (hb X c W _ K h3).e (ix_plain h1)) (fun _ => rfl) (fun _ _ _ z => nomatch z) rfl
  · cases h
theorem sa_slLo (ha : SA T k G GV C fa ra da) (hb : SA T k G GV C fb rb db) : SA T k G GV C (ckSlLo fa fb) true (fun _ r => bnd (da true r) fun x => bnd (db false r) fun y => opt (slLoP x y)) := by
  intro X c W t K h
  unfold ckSlLo at h
  split at h
  · split at h
    · split at h
      · simp only [Bool.and_eq_true] at h
        exact Snd.ofF (de_slLo (ha X c W _ K h.1).o (hb X c W _ K h.2).e) (fun _ => rfl) (fun _ _ _ z => nomatch z) rfl
      · cases h
    · cases h
  · cases h
theorem sa_slHi (ha : SA T k G GV C fa ra da) (hb : SA T k G GV C fb rb db) : SA T k G GV C (ckSlHi fa fb) true (fun _ r => bnd (da true r) fun x => bnd (db false r) fun y => opt (slHiP x y)) := by
  intro X c W t K h
  unfold ckSlHi at h
  split at h
  · split at h
    · split at h
      · simp only [Bool.and_eq_true] at h
        exact Snd.ofF (de_slHi (ha X c W _ K h.1).o (hb X c W _ K h.2).e) (fun _ => rfl) (fun _ _ _ z => nomatch z) rfl
      · cases h
    · cases h
  · cases h
end
end RP

/-! Fw24: the check of expressions is sound, second half. Own work. -/
namespace RP
open PySem PySem.Spec PyProof.Rows L2
section
variable {T : List (Addr × Str)} {k : Nat} {G : List Den} {GV : List (Str × Nat × Den)} {C : List PV}
variable {fa fb fd : CE} {ra rb rd : Bool} {da db dd : Bool → Fm → M PV} {fs : CEs} {ds : Fm → M (List PV)}
theorem starEach_all {env : Env} : ∀ (ts : List Expr), (∀ x, x ∈ ts → noStar x = true) → ∀ pos, (backTo pos (starEach ts env)).any (·.1) = false := by
  intro ts
  induction ts with
  | nil => intro _ pos; rfl
  | cons t ts ih =>
    intro h pos
    rw [star_cons (h t List.mem_cons_self)]
    cases ts with
    | nil => rfl
    | cons u us =>
      have := ih (fun x hx => h x (List.mem_cons_of_mem _ hx)) pos
      rw [star_cons (h u (List.mem_cons_of_mem _ List.mem_cons_self))] at this ⊢
      simpa [backTo] using this
theorem starOk_all {env : Env} {ts : List Expr} (h : ∀ x, x ∈ ts → noStar x = true) : StarOk env ts := fun e0 e1 e => by
  subst e
  exact ⟨star_cons (h e0 List.mem_cons_self), starEach_all e1 fun x hx => h x (List.mem_cons_of_mem _ hx)⟩
theorem sa_call (j n : Nat) (hs : SAs T k G GV C fs ds) (h0 : ∀ c, fs c [] = false) (hl : ∀ r s vs s', ds r s = .ok vs s' → vs.length = n) : SA T k G GV C (ckCall j fs n) false (fun _ r => bnd (ds r) fun vs => getFn G j vs) := by
  intro X c W t K h
  cases t with
  | Call f as ks pos =>
    cases f with
    | Name x p =>
      cases ks with
      | nil =>
        cases hj : c.fns[j]? with
        | none => simp [ckCall, hj] at h
        | some q =>
          obtain ⟨y, ar, lv⟩ := q
          simp only [ckCall, hj, Bool.and_eq_true, decide_eq_true_eq] at h
          obtain ⟨⟨⟨⟨rfl, h1⟩, h2⟩, rfl⟩, h3⟩ := h
          obtain ⟨p1, p2, p3⟩ := plain_parts h2
          obtain ⟨hp, hn⟩ := hs X c W _ K h3
          cases as with
          | nil => rw [h0] at h3; cases h3
          | cons e es => exact Snd.ofE (de_call K.ok hj (K.gl h1) p1 hp hl (starOk_all hn)) (fun _ => rfl) (fun _ _ _ z => nomatch z) rfl
      | cons _ _ => simp [ckCall] at h
    | _ => simp [ckCall] at h
  | _ => simp [ckCall] at h
theorem sa_call0 (j : Nat) (h0 : ∀ c ts, fs c ts = true → ts = []) : SA T k G GV C (ckCall j fs 0) false (fun _ r => bnd (ret []) fun vs => getFn G j vs) := by
  intro X c W t K h
  cases t with
  | Call f as ks pos =>
    cases f with
    | Name x p =>
      cases ks with
      | nil =>
        cases hj : c.fns[j]? with
        | none => simp [ckCall, hj] at h
        | some q =>
          obtain ⟨y, ar, lv⟩ := q
          simp only [ckCall, hj, Bool.and_eq_true, decide_eq_true_eq] at h
          obtain ⟨⟨⟨⟨rfl, h1⟩, h2⟩, rfl⟩, h3⟩ := h
          obtain ⟨p1, p2, p3⟩ := plain_parts h2
          have := h0 c as h3
          subst this
          exact Snd.ofE (de_call0 K.ok hj (K.gl h1) p1) (fun _ => rfl) (fun _ _ _ z => nomatch z) rfl
      | cons _ _ => simp [ckCall] at h
    | _ => simp [ckCall] at h
  | _ => simp [ckCall] at h
def b1F : B1 → Bool
  | .min => false
  | .max => false
  | .tuplex => false
  | _ => true
theorem sa_b1 (op : B1) (ha : SA T k G GV C fa ra da) : SA T k G GV C (ckB1 op fa) (b1F op) (fun _ r => bnd (da true r) fun x => opt (b1P op x)) := by
  intro X c W t K h
  unfold ckB1 at h
  split at h
  · split at h
    · have hn : ∀ {s : String} {x : Str}, bltB c x (Str.ofString s) = true → x = Str.ofString s ∧ Gl X (Str.ofString s) ∧ X.mg (Str.ofString s) = none := fun hb => K.blt hb
      cases op with
      | sortedSet =>
        dsimp only at h
        split at h
        · split at h
          · simp only [Bool.and_eq_true] at h
            obtain ⟨⟨h1, h2⟩, h3⟩ := h
            obtain ⟨rfl, g1, m1⟩ := hn h1
            obtain ⟨rfl, g2, m2⟩ := hn h2
            have s1 := ha X c W _ K h3
            exact Snd.ofF (de_sset K.ok.calm g1 m1 g2 m2 s1.o (starOk_one s1.ns)) (fun _ => rfl) (fun _ _ _ z => nomatch z) rfl
          · cases h
        · cases h
      | lenSet => cases h
      | len =>
        simp only [Bool.and_eq_true, b1N] at h
        obtain ⟨rfl, g1, m1⟩ := hn h.1
        have s1 := ha X c W _ K h.2
        exact Snd.ofF (de_b1 len_P g1 m1 boot_len s1.o (by decide) (by decide) (starOk_one s1.ns)) (fun _ => rfl) (fun _ _ _ z => nomatch z) rfl
      | list =>
        simp only [Bool.and_eq_true, b1N] at h
        obtain ⟨rfl, g1, m1⟩ := hn h.1
        have s1 := ha X c W _ K h.2
        exact Snd.ofF (de_t1 (listD_P K.ok.calm) g1 m1 PyProof.Rows.boot_list s1.o (by decide) (by decide) (starOk_one s1.ns)) (fun _ => rfl) (fun _ _ _ z => nomatch z) rfl
      | tuple =>
        simp only [Bool.and_eq_true, b1N] at h
        obtain ⟨rfl, g1, m1⟩ := hn h.1
        have s1 := ha X c W _ K h.2
        exact Snd.ofF (de_t1 tuple_P g1 m1 PyProof.Rows.boot_tuple s1.o (by decide) (by decide) (starOk_one s1.ns)) (fun _ => rfl) (fun _ _ _ z => nomatch z) rfl
      | tuplex =>
        simp only [Bool.and_eq_true, b1N] at h
        obtain ⟨rfl, g1, m1⟩ := hn h.1
        have s1 := ha X c W _ K h.2
        exact Snd.ofE (de_t1 tuplex_P g1 m1 PyProof.Rows.boot_tuple s1.o (by decide) (by decide) (starOk_one s1.ns)) (fun _ => rfl) (fun _ _ _ z => nomatch z) rfl
      | sorted =>
        simp only [Bool.and_eq_true, b1N] at h
        obtain ⟨rfl, g1, m1⟩ := hn h.1
        have s1 := ha X c W _ K h.2
        exact Snd.ofF (de_b1 (sorted_P K.ok.un K.ok.calm) g1 m1 PyProof.Rows.boot_sorted s1.o (by decide) (by decide) (starOk_one s1.ns)) (fun _ => rfl) (fun _ _ _ z => nomatch z) rfl
      | dict =>
        simp only [Bool.and_eq_true, b1N] at h
        obtain ⟨rfl, g1, m1⟩ := hn h.1
        have s1 := ha X c W _ K h.2
        exact Snd.ofF (de_t1 (dict_P K.ok.un K.ok.calm) g1 m1 PyProof.Rows.boot_dict s1.o (by decide) (by decide) (starOk_one s1.ns)) (fun _ => rfl) (fun _ _ _ z => nomatch z) rfl
      | sum =>
        simp only [Bool.and_eq_true, b1N] at h
        obtain ⟨rfl, g1, m1⟩ := hn h.1
        have s1 := ha X c W _ K h.2
        exact Snd.ofF (de_b1 (sum_P K.ok.calm) g1 m1 boot_sum s1.o (by decide) (by decide) (starOk_one s1.ns)) (fun _ => rfl) (fun _ _ _ z => nomatch z) rfl
      | min =>
        simp only [Bool.and_eq_true, b1N] at h
        obtain ⟨rfl, g1, m1⟩ := hn h.1
        have s1 := ha X c W _ K h.2
        exact Snd.ofE (de_b1 (min_P K.ok.un K.ok.calm) g1 m1 boot_min s1.o (by decide) (by decide) (starOk_one s1.ns)) (fun _ => rfl) (fun _ _ _ z => nomatch z) rfl
      | max =>
        simp only [Bool.and_eq_true, b1N] at h
        obtain ⟨rfl, g1, m1⟩ := hn h.1
        have s1 := ha X c W _ K h.2
        exact Snd.ofE (de_b1 (max_P K.ok.un K.ok.calm) g1 m1 boot_max s1.o (by decide) (by decide) (starOk_one s1.ns)) (fun _ => rfl) (fun _ _ _ z => nomatch z) rfl
      | all =>
        simp only [Bool.and_eq_true, b1N] at h
        obtain ⟨rfl, g1, m1⟩ := hn h.1
        have s1 := ha X c W _ K h.2
        exact Snd.ofF (de_b1 (all_P K.ok.calm) g1 m1 boot_all s1.o (by decide) (by decide) (starOk_one s1.ns)) (fun _ => rfl) (fun _ _ _ z => nomatch z) rfl
      | any =>
        simp only [Bool.and_eq_true, b1N] at h
        obtain ⟨rfl, g1, m1⟩ := hn h.1
        have s1 := ha X c W _ K h.2
        exact Snd.ofF (de_b1 (any_P K.ok.calm) g1 m1 boot_any s1.o (by decide) (by decide) (starOk_one s1.ns)) (fun _ => rfl) (fun _ _ _ z => nomatch z) rfl
      | int =>
        simp only [Bool.and_eq_true, b1N] at h
        obtain ⟨rfl, g1, m1⟩ := hn h.1
        have s1 := ha X c W _ K h.2
        exact Snd.ofF (de_t1 int_P g1 m1 PyProof.Rows.boot_int s1.o (by decide) (by decide) (starOk_one s1.ns)) (fun _ => rfl) (fun _ _ _ z => nomatch z) rfl
      | bool =>
        simp only [Bool.and_eq_true, b1N] at h
        obtain ⟨rfl, g1, m1⟩ := hn h.1
        have s1 := ha X c W _ K h.2
        exact Snd.ofF (de_t1 bool_P g1 m1 PyProof.Rows.boot_bool s1.o (by decide) (by decide) (starOk_one s1.ns)) (fun _ => rfl) (fun _ _ _ z => nomatch z) rfl
      | abs =>
        simp only [Bool.and_eq_true, b1N] at h
        obtain ⟨rfl, g1, m1⟩ := hn h.1
        have s1 := ha X c W _ K h.2
        exact Snd.ofF (de_b1 abs_P g1 m1 PyProof.Rows.boot_abs s1.o (by decide) (by decide) (starOk_one s1.ns)) (fun _ => rfl) (fun _ _ _ z => nomatch z) rfl
    · cases h
  · cases h
theorem sa_min2 (ha : SA T k G GV C fa ra da) (hb : SA T k G GV C fb rb db) : SA T k G GV C (ckMin2 fa fb) false (fun _ r => bnd (da false r) fun x => bnd (db false r) fun y => match x, y with
    | .int i, .int j => ret (.int (if j < i then j else i))
    | _, _ => stk) := by
  intro X c W t K h
  unfold ckMin2 at h
  split at h
  · split at h
    · simp only [Bool.and_eq_true] at h
      obtain ⟨⟨h1, h2⟩, h3⟩ := h
      obtain ⟨rfl, g1, m1⟩ := K.blt h1
      have s1 := ha X c W _ K h2
      have s2 := hb X c W _ K h3
      exact (Snd.ofF (de_min2 K.ok.calm g1 m1 boot_min s1.e s2.e (by decide) (by decide) (starOk_all (by intro x hx; simp at hx; rcases hx with rfl | rfl; exact s1.ns; exact s2.ns)) (starOk_one s2.ns)) (fun _ => rfl) (fun _ _ _ z => nomatch z) rfl).weak
    · cases h
  · cases h
theorem sa_max2 (ha : SA T k G GV C fa ra da) (hb : SA T k G GV C fb rb db) : SA T k G GV C (ckMax2 fa fb) false (fun _ r => bnd (da false r) fun x => bnd (db false r) fun y => match x, y with
    | .int i, .int j => ret (.int (if j > i then j else i))
    | _, _ => stk) := by
  intro X c W t K h
  unfold ckMax2 at h
  split at h
  · split at h
    · simp only [Bool.and_eq_true] at h
      obtain ⟨⟨h1, h2⟩, h3⟩ := h
      obtain ⟨rfl, g1, m1⟩ := K.blt h1
      have s1 := ha X c W _ K h2
      have s2 := hb X c W _ K h3
      exact (Snd.ofF (de_max2 K.ok.calm g1 m1 boot_max s1.e s2.e (by decide) (by decide) (starOk_all (by intro x hx; simp at hx; rcases hx with rfl | rfl; exact s1.ns; exact s2.ns)) (starOk_one s2.ns)) (fun _ => rfl) (fun _ _ _ z => nomatch z) rfl).weak
    · cases h
  · cases h
theorem boot_ty (t : Ty) : bootBuiltins (Str.ofString (tyName t)) = some (.type (tyName t)) ∧ Str.ofString (tyName t) ≠ "__name__" ∧ ((Str.ofString (tyName t)) == ("__debug__" : Str)) = false := by
  cases t <;> exact ⟨by decide +kernel, by decide +kernel, by decide +kernel⟩
theorem sa_isinst (ty : Ty) (ha : SA T k G GV C fa ra da) : SA T k G GV C (ckIsinst ty fa) true (fun _ r => bnd (da true r) fun x => opt ((isTyP ty x).map .bl)) := by
  intro X c W t K h
  unfold ckIsinst at h
  split at h
  · split at h
    · simp only [Bool.and_eq_true] at h
      obtain ⟨⟨h1, h2⟩, h3⟩ := h
      obtain ⟨rfl, g1, m1⟩ := K.blt h1
      obtain ⟨rfl, g2, m2⟩ := K.blt h2
      have s1 := ha X c W _ K h3
      obtain ⟨b1, b2, b3⟩ := boot_ty ty
      exact Snd.ofF (de_isinst g1 m1 boot_isinstance g2 m2 b1 s1.o (by decide) (by decide) b2 b3 (starOk_all (by intro x hx; simp at hx; rcases hx with rfl | rfl; exact s1.ns; rfl))) (fun _ => rfl) (fun _ _ _ z => nomatch z) rfl
    · cases h
  · cases h
theorem sa_idx (ha : SA T k G GV C fa ra da) (hb : SA T k G GV C fb rb db) : SA T k G GV C (ckIdx fa fb) true (fun _ r => bnd (da true r) fun x => if seqX x then bnd (db false r) fun y => opt (ixOf x y) else stk) := by
  intro X c W t K h
  unfold ckIdx at h
  split at h
  · split at h
    · simp only [Bool.and_eq_true, decide_eq_true_eq] at h
      obtain ⟨⟨⟨⟨rfl, h1⟩, h2⟩, h3⟩, h4⟩ := h
      have s2 := hb X c W _ K h4
      exact Snd.ofF (de_idx K.ok.un (ha X c W _ K h3).o s2.e (attr_plain h2) h1 (star_one s2.ns)) (fun _ => rfl) (fun _ _ _ z => nomatch z) rfl
    · cases h
  · cases h
theorem sa_litget (ps : List (Str × Str)) (d : Str) (ha : SA T k G GV C fa ra da) : SA T k G GV C (ckLitget ps fa d) true (fun _ r => bnd (da false r) fun x => opt (litP ps d x)) := by
  intro X c W t K h
  unfold ckLitget at h
  split at h
  · split at h
    · simp only [Bool.and_eq_true, decide_eq_true_eq, Bool.not_eq_true'] at h
      obtain ⟨⟨⟨⟨⟨⟨⟨⟨rfl, h1⟩, rfl⟩, rfl⟩, rfl⟩, rfl⟩, rfl⟩, h2⟩, h3⟩ := h
      have s1 := ha X c W _ K h3
      refine Snd.ofF (de_litget K.ok.un s1.e h2 ⟨rfl, ?_, h1, ?_⟩) (fun _ => rfl) (fun _ _ _ z => nomatch z) rfl
      · rw [star_cons s1.ns]; rfl
      · rw [star_cons s1.ns]; rfl
    · cases h
  · cases h
end
end RP

/-! Fw25: the check of expressions is sound: comprehensions, the whole. Own work. -/
namespace RP
open PySem PySem.Spec PyProof.Rows L2
section
variable {T : List (Addr × Str)} {k : Nat} {G : List Den} {GV : List (Str × Nat × Den)} {C : List PV}
variable {fa fb fd fe : CE} {ra rb rd re : Bool} {da db dd de : Bool → Fm → M PV} {fi fi2 : CI} {di di2 : Bool → Fm → M (List PV)}
theorem blkB {N : List Str} {sc scope : Scope} {own : List (Str × Nat)} (h : blkC N sc scope own = true) : BlkOk N sc scope own ∧ scope.kind = .function := ⟨blkOk_by h, (blkOk_by h).kind⟩
/-- a clause's tests -/
def cdB (ifs : List Expr) (fd : CE) (dT : Bool) (c : Ctx) : Bool := match ifs with
  | [] => dT
  | [x] => fd c x
  | _ => false
theorem cl_of {X : Cx} {c : Ctx} {W : XK} {scope : Scope} {tx : Expr} {tg : Tg} {ifs : List Expr} {dT : Bool} (K : CkX X T c k W G GV C) (hk : scope.kind = .function) (ht : chkTg tg (c.blk scope) tx = true) (hd : SA T k G GV C fd rd dd) (hT : dT = true → dd false = fun _ => ret (.bl true)) (h : cdB ifs fd dT (c.blk scope) = true) : ClOk X T scope tx tg ifs (dd false) := by
  refine ⟨fun s H Ca cl fp => tg_of (K.blk hk s H Ca cl fp) ht, fun s H Ca cl fp => ?_⟩
  match ifs, h with
  | [], h => exact .inl ⟨rfl, hT h⟩
  | [x], h => exact .inr ⟨x, rfl, (hd _ _ W0 x (K.blk hk s H Ca cl fp) h).t⟩
theorem sa_lc (tg : Tg) (vs : List Nat) (dT : Bool) (he : SA T k G GV C fe re de) (hi : SAI T k G GV C fi di) (hd : SA T k G GV C fd rd dd) (hT : dT = true → dd false = fun _ => ret (.bl true)) :
    SA T k G GV C (ckLc fe tg fi fd dT vs) true (fun _ => lcD (di true) tg vs (dd false) (de false)) := by
  intro X c W t K h
  unfold ckLc at h
  split at h
  · split at h
    · split at h
      · rename_i elt scope pos gs g tx iter ifs
        simp only [Bool.and_eq_true] at h
        obtain ⟨⟨⟨⟨⟨⟨h1, h2⟩, h3⟩, h4⟩, h5⟩, h6⟩, h7⟩ := h
        obtain ⟨b1, hk⟩ := blkB h1
        have b2 : BlkOk X.N X.env.scope scope (ownOf c vs) := by rw [K.ok.eN, K.sc]; exact b1
        have key := de_lc (T := T) (W := W) (pos := pos) K.ok.calm K.nd (hi X c W tx iter K h4 true) b2 (cl_of K hk h5 hd hT h7) (fun i hi => by rw [ownOf_snd]; exact sub_mem h2 i hi)
          (fun s H Ca cl fp => (he _ _ W0 elt (K.blk hk s H Ca cl fp) h6).e) (set_plain h3)
        rw [ownOf_snd] at key
        exact Snd.ofF key (fun _ => rfl) (fun _ _ _ z => nomatch z) rfl
      · cases h
    · cases h
  · cases h
theorem sa_lc2 (tg tg2 : Tg) (vs vs2 : List Nat) (dT bT : Bool) (he : SA T k G GV C fe re de) (hi : SAI T k G GV C fi di) (hd : SA T k G GV C fd rd dd) (hT : dT = true → dd false = fun _ => ret (.bl true)) (hi2 : SAI T k G GV C fi2 di2) (hb : SA T k G GV C fb rb db) (hbT : bT = true → db false = fun _ => ret (.bl true)) :
    SA T k G GV C (ckLc2 fe tg fi fd dT tg2 fi2 fb bT vs vs2) true (fun _ => lcD2 (di true) tg vs (dd false) (di2 false) tg2 vs2 (db false) (de false)) := by
  intro X c W t K h
  unfold ckLc2 at h
  split at h
  · split at h
    · split at h
      · rename_i elt scope pos gs g g2 tx iter ifs tx2 iter2 ifs2
        simp only [Bool.and_eq_true] at h
        obtain ⟨⟨⟨⟨⟨⟨⟨⟨⟨⟨⟨⟨h1, h2⟩, h2'⟩, h2''⟩, h3⟩, h3'⟩, h4⟩, h4'⟩, h5⟩, h5'⟩, h6⟩, h7⟩, h8⟩ := h
        obtain ⟨b1, hk⟩ := blkB h1
        have b2 : BlkOk X.N X.env.scope scope (ownOf c vs) := by rw [K.ok.eN, K.sc]; exact b1
        have key := de_lc2 (T := T) (W := W) (pos := pos) (vs2 := vs2) K.ok.calm K.nd (hi X c W tx iter K h4 true) b2 (fun i hi => by rw [ownOf_snd]; exact sub_mem h2'' i hi) (cl_of K hk h5 hd hT h7) (cl_of K hk h5' hb hbT h8) (fun i hi => by rw [ownOf_snd]; exact sub_mem h2 i hi) (sub_mem h2')
          (fun s H Ca cl fp => hi2 _ _ W0 tx2 iter2 (K.blk hk s H Ca cl fp) h4' false) (fun s H Ca cl fp => (he _ _ W0 elt (K.blk hk s H Ca cl fp) h6).e) (set_plain h3) (fun env x => set_plain h3' x)
        rw [ownOf_snd] at key
        exact Snd.ofF key (fun _ => rfl) (fun _ _ _ z => nomatch z) rfl
      · cases h
    · cases h
  · cases h
theorem sa_dc (tg : Tg) (vs : List Nat) (dT : Bool) (ha : SA T k G GV C fa ra da) (he : SA T k G GV C fe re de) (hi : SAI T k G GV C fi di) (hd : SA T k G GV C fd rd dd) (hT : dT = true → dd false = fun _ => ret (.bl true)) :
    SA T k G GV C (ckDc fa fe tg fi fd dT vs) true (fun _ => dcD (di true) tg vs (dd false) (da false) (de false)) := by
  intro X c W t K h
  unfold ckDc at h
  split at h
  · split at h
    · split at h
      · rename_i kx vx scope pos gs g tx iter ifs
        simp only [Bool.and_eq_true] at h
        obtain ⟨⟨⟨⟨⟨⟨⟨h1, h2⟩, h3⟩, h4⟩, h5⟩, h6⟩, h6'⟩, h7⟩ := h
        obtain ⟨b1, hk⟩ := blkB h1
        have b2 : BlkOk X.N X.env.scope scope (ownOf c vs) := by rw [K.ok.eN, K.sc]; exact b1
        have key := de_dc (T := T) (W := W) (pos := pos) K.ok.un K.ok.calm K.nd (hi X c W tx iter K h4 true) b2 (cl_of K hk h5 hd hT h7) (fun i hi => by rw [ownOf_snd]; exact sub_mem h2 i hi)
          (fun s H Ca cl fp => (ha _ _ W0 kx (K.blk hk s H Ca cl fp) h6).e) (fun s H Ca cl fp => (he _ _ W0 vx (K.blk hk s H Ca cl fp) h6').e) (set_plain h3)
        rw [ownOf_snd] at key
        exact Snd.ofF key (fun _ => rfl) (fun _ _ _ z => nomatch z) rfl
      · cases h
    · cases h
  · cases h
/-! ### lists of expressions, iterables -/
theorem sas_nil : SAs T k G GV C (fun _ ts => ts.isEmpty) (fun _ => ret []) := by
  intro X c W ts K h
  have h := List.isEmpty_iff.mp h
  subst h
  exact ⟨da_nil, fun x hx => by simp at hx⟩
variable {fs : CEs} {ds : Fm → M (List PV)}
theorem sas_cons (ha : SA T k G GV C fa ra da) (hs : SAs T k G GV C fs ds) : SAs T k G GV C (fun c ts => match ts with
    | x :: xs => fa c x && fs c xs
    | [] => false) (fun r => bnd (da false r) fun v => bnd (ds r) fun vs => ret (v :: vs)) := by
  intro X c W ts K h
  cases ts with
  | nil => cases h
  | cons x xs =>
    simp only [Bool.and_eq_true] at h
    have s1 := ha X c W _ K h.1
    obtain ⟨s2, n2⟩ := hs X c W _ K h.2
    refine ⟨da_cons s1.e s2 (star_cons s1.ns), fun y hy => ?_⟩
    rcases List.mem_cons.mp hy with e | e
    · subst e; exact s1.ns
    · exact n2 y e
theorem sai_seq (ha : SA T k G GV C fa ra da) : SAI T k G GV C (fun c _ t => fa c t) (fun o r => bnd (da o r) fun x => opt (seqP x)) :=
  fun X c W tx t K h o => di_seq ((ha X c W _ K h).md o)
theorem sai_keys (ha : SA T k G GV C fa ra da) : SAI T k G GV C (fun c _ t => fa c t) (fun _ r => bnd (da false r) fun x => opt (keysOfD x)) :=
  fun X c W tx t K h o => di_keys (ha X c W _ K h).e
theorem sai_range1 (ha : SA T k G GV C fa ra da) : SAI T k G GV C (ckRange1 fa) (fun _ r => bnd (da false r) fun x => opt (rangeOf x)) := by
  intro X c W tx t K h o
  unfold ckRange1 at h
  split at h
  · split at h
    · simp only [Bool.and_eq_true] at h
      obtain ⟨rfl, g1, m1⟩ := K.blt h.1
      have s1 := ha X c W _ K h.2
      exact di_range1 g1 m1 s1.e (star_one s1.ns)
    · cases h
  · cases h
theorem tupE {tx : Expr} (h : isTupE tx = true) : ∃ es kk p, tx = .Tuple es kk p := by
  cases tx with
  | Tuple es kk p => exact ⟨es, kk, p, rfl⟩
  | _ => cases h
theorem sai_enum (ha : SA T k G GV C fa ra da) : SAI T k G GV C (ckEnum fa) (fun o r => bnd (da o r) fun x => opt (enumOf x)) := by
  intro X c W tx t K h o
  unfold ckEnum at h
  split at h
  · split at h
    · simp only [Bool.and_eq_true] at h
      obtain ⟨⟨h0, h1⟩, h2⟩ := h
      obtain ⟨rfl, g1, m1⟩ := K.blt h1
      obtain ⟨es, kk, p, rfl⟩ := tupE h0
      have s1 := ha X c W _ K h2
      exact di_enum g1 m1 (s1.md o) (star_one s1.ns)
    · cases h
  · cases h
theorem sai_zip (ha : SA T k G GV C fa ra da) (hb : SA T k G GV C fb rb db) : SAI T k G GV C (ckZip fa fb) (fun o r => bnd (da o r) fun x => bnd (db o r) fun y => opt (zipOf x y)) := by
  intro X c W tx t K h o
  unfold ckZip at h
  split at h
  · split at h
    · simp only [Bool.and_eq_true] at h
      obtain ⟨⟨⟨h0, h1⟩, h2⟩, h3⟩ := h
      obtain ⟨rfl, g1, m1⟩ := K.blt h1
      obtain ⟨es, kk, p, rfl⟩ := tupE h0
      have s1 := ha X c W _ K h2
      have s2 := hb X c W _ K h3
      exact di_zip g1 m1 (s1.md o) (s2.md o) (star_cons s1.ns) (star_one s2.ns)
    · cases h
  · cases h
theorem sai_items (ha : SA T k G GV C fa ra da) : SAI T k G GV C (ckItems fa) (fun _ r => bnd (da false r) fun x => opt (itemsOfD x)) := by
  intro X c W tx t K h o
  unfold ckItems at h
  split at h
  · split at h
    · simp only [Bool.and_eq_true, decide_eq_true_eq] at h
      obtain ⟨⟨⟨⟨h0, rfl⟩, h1⟩, h2⟩, h3⟩ := h
      obtain ⟨es, kk, p, rfl⟩ := tupE h0
      exact di_items (ha X c W _ K h3).e (attr_plain h2) h1
    · cases h
  · cases h
theorem isTrue_den {e : E} (h : isTrueE e = true) : den G GV C e false = fun _ => ret (.bl true) := by
  unfold isTrueE at h
  split at h
  · rfl
  · cases h
end
end RP

/-! Fw26: the check of expressions is sound. Own work. -/
namespace RP
open PySem PySem.Spec PyProof.Rows L2
section
variable (T : List (Addr × Str)) (k : Nat) (G : List Den) (GV : List (Str × Nat × Den)) (C : List PV)
mutual
theorem sndE : ∀ e : E, SA T k G GV C (chkE e) (fresh e) (fun o => den G GV C e o)
  | .dead => fun X c W t K h => snd_dead h
  | .var i => sa_var i
  | .int i => sa_int i
  | .str x => sa_str x
  | .bl b => sa_bl b
  | .non => sa_non
  | .gc j => sa_gc j
  | .fnv _ => fun X c W t K h => nomatch (show false = true from h)
  | .tup es => sa_tup (sndEs es) few_of
  | .lst es => sa_lst (sndEs es) few_of
  | .lstR es => sa_lstR (sndEs es) few_of
  | .dnew => sa_dnew
  | .d1 k v => sa_d1 (sndE k) (sndE v)
  | .bin op a b => sa_bin op (sndE a) (sndE b)
  | .cmp op a b => sa_cmp op (sndE a) (sndE b)
  | .chain op op' a b d => sa_chain op op' (sndE a) (sndE b) (sndE d)
  | .isN a => sa_isN (sndE a)
  | .notN a => sa_notN (sndE a)
  | .and a b => sa_and (sndE a) (sndE b)
  | .or a b => sa_or (sndE a) (sndE b)
  | .not a => sa_not (sndE a)
  | .neg a => sa_neg (sndE a)
  | .ite d a b => sa_ite (sndE d) (sndE a) (sndE b)
  | .ix a b => sa_ix (sndE a) (sndE b)
  | .slLo a b => sa_slLo (sndE a) (sndE b)
  | .slHi a b => sa_slHi (sndE a) (sndE b)
  | .call j .nil => sa_call0 j fun c ts h => List.isEmpty_iff.mp h
  | .call j (.cons e es) => sa_call j _ (sndEs (.cons e es)) (fun _ => rfl) fun r s vs s' h => denEs_len (.cons e es) r s vs s' h
  | .callv _ _ => fun X c W t K h => nomatch (show false = true from h)
  | .b1 op a => fun X c W t K h => by
    have := sa_b1 op (sndE a) X c W t K h
    cases op <;> exact this
  | .min2 a b => sa_min2 (sndE a) (sndE b)
  | .max2 a b => sa_max2 (sndE a) (sndE b)
  | .isinst ty a => sa_isinst ty (sndE a)
  | .idx a b => sa_idx (sndE a) (sndE b)
  | .litget ps a d => sa_litget ps d (sndE a)
  | .lrange _ => fun X c W t K h => nomatch (show false = true from h)
  | .lc e tg it cd vs => sa_lc tg vs (isTrueE cd) (sndE e) (sndI it) (sndE cd) isTrue_den
  | .lc2 e tg it cd tg2 it2 cd2 vs vs2 => sa_lc2 tg tg2 vs vs2 (isTrueE cd) (isTrueE cd2) (sndE e) (sndI it) (sndE cd) isTrue_den (sndI it2) (sndE cd2) isTrue_den
  | .dc ek ev tg it cd vs => sa_dc tg vs (isTrueE cd) (sndE ek) (sndE ev) (sndI it) (sndE cd) isTrue_den
theorem sndEs : ∀ es : Es, SAs T k G GV C (chkEs es) (denEs G GV C es)
  | .nil => sas_nil
  | .cons e es => sas_cons (sndE e) (sndEs es)
theorem sndI : ∀ it : It, SAI T k G GV C (chkI it) (fun o => denIt G GV C it o)
  | .seq e => sai_seq (sndE e)
  | .keys e => sai_keys (sndE e)
  | .range1 a => sai_range1 (sndE a)
  | .enum a => sai_enum (sndE a)
  | .zip a b => sai_zip (sndE a) (sndE b)
  | .items a => sai_items (sndE a)
end
end
end RP

/-! Fw27: what is seen of assignments. Own work. -/
namespace RP
open PySem PySem.Spec PyProof.Rows L2

theorem blockK {env : Env} (h : env.scope.kind = .function) : env.blockKind = .function := by
  unfold Env.blockKind
  rw [h]
  rfl
theorem swaps_plain {v : Expr} {o : Option Expr} {l : Nat} {env : Env} (h : noComp v = true) : swapsWith v o l env = pure false := by
  cases v <;> first | rfl | cases h
theorem sole_tuple {v : Expr} {ts : List Expr} {kk : Nat} {p : Pos} {l : Nat} {env : Env} : swapsWithSole [.Tuple ts kk p] v l env = pure false := by
  cases v <;> rfl
def notTupE : Expr → Bool
  | .Tuple _ _ _ => false
  | _ => true
theorem stores_plain {v : Expr} {ts : List Expr} {kk : Nat} {p : Pos} {env : Env} (h : notTupE v = true) : swappedStores [.Tuple ts kk p] v env = pure none := by
  cases v <;> first | rfl | cases h
theorem stores_const {ts vs : List Expr} {kk kk2 : Nat} {p p2 : Pos} {env : Env} (h : vs.all (foldedForSure 8) = true) : swappedStores [.Tuple ts kk p] (.Tuple vs kk2 p2) env = pure none := by
  unfold swappedStores
  dsimp only
  split
  · rfl
  · split
    · rfl
    · split
      · rfl
      · rfl
def isStar : Expr → Bool
  | .Starred _ _ => true
  | _ => false
theorem star_f {a : Expr} (h : noStar a = true) : (match a with | .Starred .. => true | _ => false) = false := by
  cases a <;> first | rfl | cases h
theorem dups2 {x y : Str} (h : x ≠ y) : [x, y].eraseDups.length = 2 := by
  have h1 : (y == x) = false := by simpa using fun e : y = x => h e.symm
  have h2 : (x == y) = false := by simpa using h
  simp [List.eraseDups, List.eraseDupsBy, List.eraseDupsBy.loop, h1, h2]
theorem dups3 {x y z : Str} (h : x ≠ y) (h' : x ≠ z) (h'' : y ≠ z) : [x, y, z].eraseDups.length = 3 := by
  have h1 : (y == x) = false := by simpa using fun e : y = x => h e.symm
  have h2 : (x == y) = false := by simpa using h
  have h3 : (z == x) = false := by simpa using fun e : z = x => h' e.symm
  have h4 : (x == z) = false := by simpa using h'
  have h5 : (z == y) = false := by simpa using fun e : z = y => h'' e.symm
  have h6 : (y == z) = false := by simpa using h''
  simp [List.eraseDups, List.eraseDupsBy, List.eraseDupsBy.loop, h1, h2, h3, h4, h5, h6]
theorem stores_2 {x y : Str} {px py : Pos} {a b : Expr} {kk kk2 : Nat} {p p2 : Pos} {env : Env} (hk : env.scope.kind = .function) (hx : env.scope.names.lookup x = some .local) (hy : env.scope.names.lookup y = some .local) (hl : (py.line == px.line) = true) (hne : x ≠ y)
    (na : noStar a = true) (nb : noStar b = true) (hf : [a, b].all (foldedForSure 8) = false) (hc : [a, b].all (constantsAlone 8) = false) :
    swappedStores [.Tuple [.Name x px, .Name y py] kk p] (.Tuple [a, b] kk2 p2) env = pure (some [x, y]) := by
  have kx : env.kindOf x = some .local := hx
  have ky : env.kindOf y = some .local := hy
  have hl : py.line = px.line := by simpa using hl
  have d1 := dups2 hne
  unfold swappedStores
  simp only [List.length_cons, List.length_nil, blockK hk, List.any_cons, List.any_nil, star_f na, star_f nb, Option.map, Option.getD, List.head?_cons, Expr.pos, List.filterMap_cons, List.filterMap_nil, kx, ky, hl, hf, hc]
  simp [d1]
  rintro (hh | hh)
  · cases a <;> first | exact Bool.noConfusion (show false = true from hh) | exact Bool.noConfusion (show false = true from na)
  · cases b <;> first | exact Bool.noConfusion (show false = true from hh) | exact Bool.noConfusion (show false = true from nb)
theorem stores_3 {x y z : Str} {px py pz : Pos} {a b c : Expr} {kk kk2 : Nat} {p p2 : Pos} {env : Env} (hk : env.scope.kind = .function) (hx : env.scope.names.lookup x = some .local) (hy : env.scope.names.lookup y = some .local) (hz : env.scope.names.lookup z = some .local) (hl : (py.line == px.line) = true) (hl' : (pz.line == px.line) = true) (hne : x ≠ y) (hne' : x ≠ z) (hne'' : y ≠ z)
    (na : noStar a = true) (nb : noStar b = true) (nc : noStar c = true) (hf : [a, b, c].all (foldedForSure 8) = false) (hc : [a, b, c].all (constantsAlone 8) = false) :
    swappedStores [.Tuple [.Name x px, .Name y py, .Name z pz] kk p] (.Tuple [a, b, c] kk2 p2) env = pure (some [x, y, z]) := by
  have kx : env.kindOf x = some .local := hx
  have ky : env.kindOf y = some .local := hy
  have kz : env.kindOf z = some .local := hz
  have hl : py.line = px.line := by simpa using hl
  have hl' : pz.line = px.line := by simpa using hl'
  have d1 := dups3 hne hne' hne''
  unfold swappedStores
  simp only [List.length_cons, List.length_nil, blockK hk, List.any_cons, List.any_nil, star_f na, star_f nb, star_f nc, Option.map, Option.getD, List.head?_cons, Expr.pos, List.filterMap_cons, List.filterMap_nil, kx, ky, kz, hl, hl', hf, hc]
  simp [d1]
  rintro (hh | hh | hh)
  · cases a <;> first | exact Bool.noConfusion (show false = true from hh) | exact Bool.noConfusion (show false = true from na)
  · cases b <;> first | exact Bool.noConfusion (show false = true from hh) | exact Bool.noConfusion (show false = true from nb)
  · cases c <;> first | exact Bool.noConfusion (show false = true from hh) | exact Bool.noConfusion (show false = true from nc)
end RP

/-! Fw28: the check of statements, and that it is sound. Own work. -/
namespace RP
open PySem PySem.Spec PyProof.Rows L2
abbrev CS := Ctx → Stmt → Bool
abbrev CSs := Ctx → List Stmt → Bool
def locB (c : Ctx) (x : Str) : Bool := decide (c.sc.names.lookup x = some .local)
def ckSet (f : CE) (i : Nat) (c : Ctx) (st : Stmt) : Bool := match st with
  | .Assign ts v _ => (match ts with
    | [.Name y _] => decide (c.N[i]? = some y) && tgB c y && noComp v && f c v
    | _ => false)
  | _ => false
def ckSetT (f : CE) (is : List Nat) (c : Ctx) (st : Stmt) : Bool := match st with
  | .Assign ts v _ => (match ts with
    | [.Tuple es _ _] => chkTgs is c es && notTupE v && f c v
    | _ => false)
  | _ => false
def ckSetC (f : CE) (is : List Nat) (c : Ctx) (st : Stmt) : Bool := match st with
  | .Assign ts v _ => (match ts with
    | [.Tuple es _ _] => (match v with
      | .Tuple vs _ _ => chkTgs is c es && vs.all (foldedForSure 8) && f c v
      | _ => false)
    | _ => false)
  | _ => false
def ckPar2 (fs : CEs) (i j : Nat) (c : Ctx) (st : Stmt) : Bool := match st with
  | .Assign ts v _ => (match ts with
    | [.Tuple [.Name x px, .Name y py] _ _] => (match v with
      | .Tuple [a, b] _ _ => decide (c.N[i]? = some x) && decide (c.N[j]? = some y) && decide (x ≠ y) && locB c x && locB c y && (py.line == px.line) && !([a, b].all (foldedForSure 8)) && !([a, b].all (constantsAlone 8)) && fs c [a, b]
      | _ => false)
    | _ => false)
  | _ => false
def ckPar3 (fs : CEs) (i j l : Nat) (c : Ctx) (st : Stmt) : Bool := match st with
  | .Assign ts v _ => (match ts with
    | [.Tuple [.Name x px, .Name y py, .Name z pz] _ _] => (match v with
      | .Tuple [a, b, d] _ _ => decide (c.N[i]? = some x) && decide (c.N[j]? = some y) && decide (c.N[l]? = some z) && decide (x ≠ y) && decide (x ≠ z) && decide (y ≠ z) && locB c x && locB c y && locB c z && (py.line == px.line) && (pz.line == px.line) && !([a, b, d].all (foldedForSure 8)) && !([a, b, d].all (constantsAlone 8)) && fs c [a, b, d]
      | _ => false)
    | _ => false)
  | _ => false
def ckParD (f : CE) (i j : Nat) (c : Ctx) (st : Stmt) : Bool := match st with
  | .Assign ts v _ => (match ts with
    | [.Tuple [.Name x px, .Name y py] _ _] => (match v with
      | .Tuple [.Dict [] [] dp, b] _ _ => decide (c.N[i]? = some x) && decide (c.N[j]? = some y) && decide (x ≠ y) && locB c x && locB c y && (py.line == px.line) && !([.Dict [] [] dp, b].all (foldedForSure 8)) && !([.Dict [] [] dp, b].all (constantsAlone 8)) && f c b
      | _ => false)
    | _ => false)
  | _ => false
def ckMeth (nm : Str) (f : CE) (i : Nat) (c : Ctx) (st : Stmt) : Bool := match st with
  | .Expr v _ => (match v with
    | .Call (.Attribute (.Name x _) m apos) [e] [] cpos => decide (m = nm) && decide (c.N[i]? = some x) && visB c x && plainN x && (apos.endLine == cpos.line) && f c e
    | _ => false)
  | _ => false
def ckSeti (fk f : CE) (i : Nat) (c : Ctx) (st : Stmt) : Bool := match st with
  | .Assign ts v _ => (match ts with
    | [.Subscript (.Name x _) ke _] => decide (c.N[i]? = some x) && visB c x && plainN x && noComp v && fk c ke && f c v
    | _ => false)
  | _ => false
def ckExpr (f : CE) (c : Ctx) (st : Stmt) : Bool := match st with
  | .Expr v _ => noComp v && f c v
  | _ => false
def ckRet (f : CE) (c : Ctx) (st : Stmt) : Bool := match st with
  | .Return (some v) _ => f c v
  | _ => false
def ckRetN (c : Ctx) (st : Stmt) : Bool := match st with
  | .Return none _ => true
  | _ => false
def ckIf (f : CE) (fa fb : CSs) (c : Ctx) (st : Stmt) : Bool := match st with
  | .If t a b _ => f c t && fa c a && fb c b
  | _ => false
def ckFor (t : Tg) (fi : CI) (fb : CSs) (c : Ctx) (st : Stmt) : Bool := match st with
  | .For tg iter body [] _ => noSet iter && fi c tg iter && chkTg t c tg && fb c body
  | _ => false
def ckWhile (f : CE) (fb : CSs) (c : Ctx) (st : Stmt) : Bool := match st with
  | .While t body [] _ => f c t && fb c body
  | _ => false
def ckPass (c : Ctx) (st : Stmt) : Bool := match st with
  | .Pass _ => true
  | _ => false
section
variable {T : List (Addr × Str)} {k : Nat} {G : List Den} {GV : List (Str × Nat × Den)} {C : List PV}
variable {fa fb fd fe : CE} {ra rb rd re : Bool} {da db dd de : Bool → Fm → M PV} {fi fi2 : CI} {di di2 : Bool → Fm → M (List PV)} {fs : CEs} {ds : Fm → M (List PV)}
def SaS (T : List (Addr × Str)) (k : Nat) (G : List Den) (GV : List (Str × Nat × Den)) (C : List PV) (f : CS) (d : Fm → M Fl) : Prop := ∀ (X : Cx) (c : Ctx) (W : XK) (st : Stmt), CkX X T c k W G GV C → f c st = true → PS X st (tS (sy X T) W d)
def SaSs (T : List (Addr × Str)) (k : Nat) (G : List Den) (GV : List (Str × Nat × Den)) (C : List PV) (f : CSs) (d : Fm → M Fl) : Prop := ∀ (X : Cx) (c : Ctx) (W : XK) (sts : List Stmt), CkX X T c k W G GV C → f c sts = true → PSs X sts (tS (sy X T) W d)
variable {ga gb : CSs} {ma mb : Fm → M Fl}
theorem ss_dead : SaS T k G GV C (fun _ _ => true) (fun _ => stk) := by
  intro X c W st K h
  refine ⟨fun pins s σ H D I ⟨G₀, m₀, H₀, Gb, mb, G, m, s1, r, a, p⟩ => ?_⟩
  exact p.elim
theorem ss_set (i : Nat) (he : SA T k G GV C fe re de) : SaS T k G GV C (ckSet fe i) (fun r => bnd (de false r) fun v => ret (.nx (r.set i (.sh v)))) := by
  intro X c W st K h
  unfold ckSet at h
  split at h
  · split at h
    · simp only [Bool.and_eq_true, decide_eq_true_eq] at h
      obtain ⟨⟨⟨h1, h2⟩, h3⟩, h4⟩ := h
      exact ds_set K.nd (K.name h1) (K.tg h2).1 (K.tg h2).2 (he X c W _ K h4).e (swaps_plain h3)
    · cases h
  · cases h
theorem ss_setO (i : Nat) (he : SA T k G GV C fe re de) : SaS T k G GV C (fun c st => re && ckSet fe i c st) (fun r => bnd (de false r) fun v => ret (.nx (r.set i (ofV v)))) := by
  intro X c W st K h
  simp only [Bool.and_eq_true] at h
  obtain ⟨h0, h⟩ := h
  unfold ckSet at h
  split at h
  · split at h
    · simp only [Bool.and_eq_true, decide_eq_true_eq] at h
      obtain ⟨⟨⟨h1, h2⟩, h3⟩, h4⟩ := h
      exact ds_setO K.nd (K.name h1) (K.tg h2).1 (K.tg h2).2 ((he X c W _ K h4).f h0) (swaps_plain h3)
    · cases h
  · cases h
theorem ss_setT (is : List Nat) (he : SA T k G GV C fe re de) : SaS T k G GV C (fun c st => ckSetT fe is c st || ckSetC fe is c st) (fun r => bnd (de true r) fun v => bnd (opt (bndN is v r)) fun r' => ret (.nx r')) := by
  intro X c W st K h
  simp only [Bool.or_eq_true] at h
  rcases h with h | h
  · unfold ckSetT at h
    split at h
    · split at h
      · simp only [Bool.and_eq_true] at h
        obtain ⟨⟨h1, h2⟩, h3⟩ := h
        exact ds_setT (tg := (by assumption)) K.nd K.ok.calm (tgs_of K _ _ h1) (he X c W _ K h3).o sole_tuple (stores_plain h2)
      · cases h
    · cases h
  · unfold ckSetC at h
    split at h
    · split at h
      · split at h
        · simp only [Bool.and_eq_true] at h
          obtain ⟨⟨h1, h2⟩, h3⟩ := h
          exact ds_setT (tg := (by assumption)) K.nd K.ok.calm (tgs_of K _ _ h1) (he X c W _ K h3).o sole_tuple (stores_const h2)
        · cases h
      · cases h
    · cases h
theorem locOk {X : Cx} {c : Ctx} {W : XK} (K : CkX X T c k W G GV C) {x : Str} (h : locB c x = true) : X.env.scope.names.lookup x = some .local := by
  rw [K.sc]
  exact of_decide_eq_true h
theorem kindOk {X : Cx} {c : Ctx} {W : XK} (K : CkX X T c k W G GV C) : X.env.scope.kind = .function := by rw [K.sc]; exact K.fk
theorem ne_ix {N : List Str} {i j : Nat} {x y : Str} (h : N[i]? = some x) (h' : N[j]? = some y) (hne : x ≠ y) : i ≠ j := fun e => by
  subst e
  rw [h] at h'
  exact hne (Option.some.inj h')
theorem ss_par2 (i j : Nat) (hs : SAs T k G GV C fs ds) : SaS T k G GV C (ckPar2 fs i j) (fun r => bnd (ds r) fun vs => bnd (opt (bindNs [i, j] vs r)) fun r' => ret (.nx r')) := by
  intro X c W st K h
  unfold ckPar2 at h
  split at h
  · split at h
    · split at h
      · simp only [Bool.and_eq_true, decide_eq_true_eq, Bool.not_eq_true'] at h
        obtain ⟨⟨⟨⟨⟨⟨⟨⟨h1, h2⟩, h3⟩, h4⟩, h5⟩, h6⟩, h7⟩, h8⟩, h9⟩ := h
        obtain ⟨pa, pn⟩ := hs X c W _ K h9
        exact ds_par2 K.ok.calm K.nd (K.name h1) (K.name h2) (ne_ix h1 h2 h3) (locOk K h4) (locOk K h5) pa (stores_2 (kindOk K) (locOk K h4) (locOk K h5) h6 h3 (pn _ (by simp)) (pn _ (by simp)) h7 h8)
      · cases h
    · cases h
  · cases h
theorem ss_par3 (i j l : Nat) (hs : SAs T k G GV C fs ds) : SaS T k G GV C (ckPar3 fs i j l) (fun r => bnd (ds r) fun vs => bnd (opt (bindNs [i, j, l] vs r)) fun r' => ret (.nx r')) := by
  intro X c W st K h
  unfold ckPar3 at h
  split at h
  · split at h
    · split at h
      · simp only [Bool.and_eq_true, decide_eq_true_eq, Bool.not_eq_true'] at h
        obtain ⟨⟨⟨⟨⟨⟨⟨⟨⟨⟨⟨⟨⟨h1, h2⟩, h3⟩, n1⟩, n2⟩, n3⟩, h4⟩, h5⟩, h5'⟩, h6⟩, h6'⟩, h7⟩, h8⟩, h9⟩ := h
        obtain ⟨pa, pn⟩ := hs X c W _ K h9
        exact ds_par3 K.ok.calm K.nd (K.name h1) (K.name h2) (K.name h3) (ne_ix h1 h2 n1) (ne_ix h1 h3 n2) (ne_ix h2 h3 n3) (locOk K h4) (locOk K h5) (locOk K h5') pa (stores_3 (kindOk K) (locOk K h4) (locOk K h5) (locOk K h5') h6 h6' n1 n2 n3 (pn _ (by simp)) (pn _ (by simp)) (pn _ (by simp)) h7 h8)
      · cases h
    · cases h
  · cases h
theorem ss_parD (i j : Nat) (he : SA T k G GV C fe re de) : SaS T k G GV C (ckParD fe i j) (fun r => bnd (de false r) fun v => ret (.nx ((r.set i (.od [])).set j (.sh v)))) := by
  intro X c W st K h
  unfold ckParD at h
  split at h
  · split at h
    · split at h
      · simp only [Bool.and_eq_true, decide_eq_true_eq, Bool.not_eq_true'] at h
        obtain ⟨⟨⟨⟨⟨⟨⟨⟨h1, h2⟩, h3⟩, h4⟩, h5⟩, h6⟩, h7⟩, h8⟩, h9⟩ := h
        have S := he X c W _ K h9
        exact ds_parD K.ok.calm K.nd (K.name h1) (K.name h2) (ne_ix h1 h2 h3) (locOk K h4) (locOk K h5) S.e (star_one S.ns) (stores_2 (kindOk K) (locOk K h4) (locOk K h5) h6 h3 rfl S.ns h7 h8)
      · cases h
    · cases h
  · cases h
theorem ss_app (i : Nat) (he : SA T k G GV C fe re de) : SaS T k G GV C (ckMeth "append" fe i) (fun r => match Fm.get r i with
      | .ow xs => bnd (de false r) fun v => if xs.length < LIM then ret (.nx (r.set i (.ow (xs ++ [v])))) else stk
      | _ => stk) := by
  intro X c W st K h
  unfold ckMeth at h
  split at h
  · split at h
    · simp only [Bool.and_eq_true, decide_eq_true_eq] at h
      obtain ⟨⟨⟨⟨⟨rfl, h1⟩, h2⟩, h3⟩, h4⟩, h5⟩ := h
      have S := he X c W _ K h5
      exact ds_app (K.name h1) (K.vis h2) (plain_parts h3).1 (plain_parts h3).2.1 S.e h4 (star_one S.ns)
    · cases h
  · cases h
theorem ss_ext (i : Nat) (he : SA T k G GV C fe re de) : SaS T k G GV C (ckMeth "extend" fe i) (fun r => match Fm.get r i with
      | .ow xs => bnd (de true r) fun v => match v with
        | .lst ys => if xs.length + ys.length ≤ LIM then ret (.nx (r.set i (.ow (xs ++ ys)))) else stk
        | _ => stk
      | _ => stk) := by
  intro X c W st K h
  unfold ckMeth at h
  split at h
  · split at h
    · simp only [Bool.and_eq_true, decide_eq_true_eq] at h
      obtain ⟨⟨⟨⟨⟨rfl, h1⟩, h2⟩, h3⟩, h4⟩, h5⟩ := h
      have S := he X c W _ K h5
      exact ds_ext (K.name h1) (K.vis h2) (plain_parts h3).1 (plain_parts h3).2.1 S.o h4 (star_one S.ns)
    · cases h
  · cases h
theorem ss_seti (i : Nat) (hk : SA T k G GV C fd rd dd) (he : SA T k G GV C fe re de) : SaS T k G GV C (ckSeti fd fe i) (fun r => bnd (de false r) fun v => if (Fm.get r i).isNo then stk else bnd (dd false r) fun y => bnd (setSl r i y v) fun r' => ret (.nx r')) := by
  intro X c W st K h
  unfold ckSeti at h
  split at h
  · split at h
    · simp only [Bool.and_eq_true, decide_eq_true_eq] at h
      obtain ⟨⟨⟨⟨⟨h1, h2⟩, h3⟩, h4⟩, h5⟩, h6⟩ := h
      exact ds_seti K.ok.un (K.name h1) (K.vis h2) (plain_parts h3).1 (plain_parts h3).2.1 (he X c W _ K h6).e (hk X c W _ K h5).e (swaps_plain h4)
    · cases h
  · cases h
theorem ss_expr (he : SA T k G GV C fe re de) : SaS T k G GV C (ckExpr fe) (fun r => bnd (de false r) fun _ => ret (.nx r)) := by
  intro X c W st K h
  unfold ckExpr at h
  split at h
  · simp only [Bool.and_eq_true] at h
    exact ds_expr (he X c W _ K h.2).e (swaps_plain h.1)
  · cases h
theorem ss_ret (he : SA T k G GV C fe re de) : SaS T k G GV C (ckRet fe) (fun r => bnd (de false r) fun v => ret (.rt v)) := by
  intro X c W st K h
  unfold ckRet at h
  split at h
  · exact ds_ret (he X c W _ K h).e
  · cases h
theorem ss_retN : SaS T k G GV C ckRetN (fun _ => ret (.rt .non)) := by
  intro X c W st K h
  unfold ckRetN at h
  split at h
  · exact ds_retN
  · cases h
theorem ss_if (he : SA T k G GV C fe re de) (ha : SaSs T k G GV C ga ma) (hb : SaSs T k G GV C gb mb) : SaS T k G GV C (ckIf fe ga gb) (fun r => tst (de false r) fun k => if k then ma r else mb r) := by
  intro X c W st K h
  unfold ckIf at h
  split at h
  · simp only [Bool.and_eq_true] at h
    exact ds_if (he X c W _ K h.1.1).t (ha X c W _ K h.1.2) (hb X c W _ K h.2)
  · cases h
theorem ss_for (t : Tg) (hi : SAI T k G GV C fi di) (hb : SaSs T k G GV C gb mb) : SaS T k G GV C (ckFor t fi gb) (fun r => bnd (di false r) fun xs => forGo (fun x r1 => bnd (opt (bindT t x r1)) fun r2 => mb r2) xs r) := by
  intro X c W st K h
  unfold ckFor at h
  split at h
  · simp only [Bool.and_eq_true] at h
    obtain ⟨⟨⟨h1, h2⟩, h3⟩, h4⟩ := h
    exact ds_for K.ok.pas K.ok.calm K.nd (hi X c W _ _ K h2 false) (tg_of K h3) (hb X c W _ K h4) (set_plain h1)
  · cases h
theorem ss_while (n : Nat) (he : SA T k G GV C fe re de) (hb : SaSs T k G GV C gb mb) : SaS T k G GV C (ckWhile fe gb) (fun r => whGo (fun r1 => de false r1) (fun r1 => mb r1) n r) := by
  intro X c W st K h
  unfold ckWhile at h
  split at h
  · simp only [Bool.and_eq_true] at h
    exact ds_while K.ok.pas (he X c W _ K h.1).t (hb X c W _ K h.2) n
  · cases h
theorem ss_pass : SaS T k G GV C ckPass (fun r => ret (.nx r)) := by
  intro X c W st K h
  unfold ckPass at h
  split at h
  · exact ds_pass
  · cases h
/-! ### a display's comprehension, stored straight -/
def anyB (v : Expr) (y : Str) : Bool := match v with
  | .ListComp _ _ s _ => s.names.any fun (n, k) => n == y && (k == .local || k == .cell)
  | .DictComp _ _ _ s _ => s.names.any fun (n, k) => n == y && (k == .local || k == .cell)
  | _ => true
def ckSetK (f : CE) (i : Nat) (c : Ctx) (st : Stmt) : Bool := match st with
  | .Assign ts v _ => (match ts with
    | [.Name y py] => decide (c.N[i]? = some y) && locB c y && (py.line == v.pos.line) && !(anyB v y) && f c v
    | _ => false)
  | _ => false
def celB (c : Ctx) (x : Str) : Bool := decide (c.sc.names.lookup x = some .cell)
/-- a comprehension in a cell -/
def ckSetQ (f : CE) (i : Nat) (c : Ctx) (st : Stmt) : Bool := match st with
  | .Assign ts v _ => (match ts with
    | [.Name y py] => decide (c.N[i]? = some y) && celB c y && tgB c y && f c v
    | _ => false)
  | _ => false
theorem sw_trueD {kx vx : Expr} {gs : List Comprehension} {scope : Scope} {pos py : Pos} {y : Str} {l : Nat} {env : Env} (hk : env.scope.kind = .function) (hy : env.scope.names.lookup y = some .local) (hl : (py.line == pos.line) = true)
    (ha : (scope.names.any fun (n, k) => n == y && (k == .local || k == .cell)) = false) : swapsWith (.DictComp kx vx gs scope pos) (some (.Name y py)) l env = pure true := by
  have ky : env.kindOf y = some .local := hy
  have hb : env.blockKind = .function := by unfold Env.blockKind; rw [hk]; rfl
  unfold swapsWith
  simp only [hb, ky, ha, Expr.pos, hl]
  rfl
theorem sw_cell {v : Expr} {py : Pos} {y : Str} {l : Nat} {env : Env} (hy : env.scope.names.lookup y = some .cell) : swapsWith v (some (.Name y py)) l env = pure false := by
  have ky : (env.kindOf y == some .local) = false := by
    rw [show env.kindOf y = some .cell from hy]
    rfl
  cases v <;> first | rfl | (unfold swapsWith; simp only [ky, Bool.and_false, Bool.false_and])
theorem ss_setQ (i : Nat) (he : SA T k G GV C fe re de) : SaS T k G GV C (fun c st => re && ckSetQ fe i c st) (fun r => bnd (de false r) fun v => ret (.nx (r.set i (ofV v)))) := by
  intro X c W st K h
  simp only [Bool.and_eq_true] at h
  obtain ⟨h0, h⟩ := h
  unfold ckSetQ at h
  split at h
  · split at h
    · simp only [Bool.and_eq_true, decide_eq_true_eq] at h
      obtain ⟨⟨⟨h1, h2⟩, h3⟩, h4⟩ := h
      exact ds_setO K.nd (K.name h1) (K.tg h3).1 (K.tg h3).2 ((he X c W _ K h4).f h0) (sw_cell (by rw [K.sc]; exact of_decide_eq_true h2))
    · cases h
  · cases h
theorem ss_setLc (i : Nat) (tg : Tg) (vs : List Nat) (dT : Bool) (he : SA T k G GV C fe re de) (hi : SAI T k G GV C fi di) (hd : SA T k G GV C fd rd dd) (hT : dT = true → dd false = fun _ => ret (.bl true)) :
    SaS T k G GV C (ckSetK (ckLc fe tg fi fd dT vs) i) (fun r => bnd (lcD (di true) tg vs (dd false) (de false) r) fun v => ret (.nx (r.set i (ofV v)))) := by
  intro X c W st K h
  unfold ckSetK at h
  split at h
  · rename_i ts v spos
    split at h
    · rename_i y py
      simp only [Bool.and_eq_true, decide_eq_true_eq, Bool.not_eq_true'] at h
      obtain ⟨⟨⟨⟨n1, n2⟩, n3⟩, n4⟩, h⟩ := h
      unfold ckLc at h
      split at h
      · split at h
        · split at h
          · rename_i elt scope pos gs g tx iter ifs
            simp only [Bool.and_eq_true] at h
            obtain ⟨⟨⟨⟨⟨⟨h1, h2⟩, h3⟩, h4⟩, h5⟩, h6⟩, h7⟩ := h
            obtain ⟨b1, hk⟩ := blkB h1
            have b2 : BlkOk X.N X.env.scope scope (ownOf c vs) := by rw [K.ok.eN, K.sc]; exact b1
            have key := ds_setLc (T := T) (W := W) (pos := pos) (spos := spos) K.ok.calm K.nd (K.name n1) (locOk K n2) (sw_true (kindOk K) (locOk K n2) n3 n4) (hi X c W tx iter K h4 true) b2 (cl_of K hk h5 hd hT h7) (fun i hi => by rw [ownOf_snd]; exact sub_mem h2 i hi)
              (fun s H Ca cl fp => (he _ _ W0 elt (K.blk hk s H Ca cl fp) h6).e) (set_plain h3)
            rw [ownOf_snd] at key
            exact key
          · cases h
        · cases h
      · cases h
    · cases h
  · cases h
theorem ss_setLc2 (i : Nat) (tg tg2 : Tg) (vs vs2 : List Nat) (dT bT : Bool) (he : SA T k G GV C fe re de) (hi : SAI T k G GV C fi di) (hd : SA T k G GV C fd rd dd) (hT : dT = true → dd false = fun _ => ret (.bl true)) (hi2 : SAI T k G GV C fi2 di2) (hb : SA T k G GV C fb rb db) (hbT : bT = true → db false = fun _ => ret (.bl true)) :
    SaS T k G GV C (ckSetK (ckLc2 fe tg fi fd dT tg2 fi2 fb bT vs vs2) i) (fun r => bnd (lcD2 (di true) tg vs (dd false) (di2 false) tg2 vs2 (db false) (de false) r) fun v => ret (.nx (r.set i (ofV v)))) := by
  intro X c W st K h
  unfold ckSetK at h
  split at h
  · rename_i ts v spos
    split at h
    · rename_i y py
      simp only [Bool.and_eq_true, decide_eq_true_eq, Bool.not_eq_true'] at h
      obtain ⟨⟨⟨⟨n1, n2⟩, n3⟩, n4⟩, h⟩ := h
      unfold ckLc2 at h
      split at h
      · split at h
        · split at h
          · rename_i elt scope pos gs g g2 tx iter ifs tx2 iter2 ifs2
            simp only [Bool.and_eq_true] at h
            obtain ⟨⟨⟨⟨⟨⟨⟨⟨⟨⟨⟨⟨h1, h2⟩, h2'⟩, h2''⟩, h3⟩, h3'⟩, h4⟩, h4'⟩, h5⟩, h5'⟩, h6⟩, h7⟩, h8⟩ := h
            obtain ⟨b1, hk⟩ := blkB h1
            have b2 : BlkOk X.N X.env.scope scope (ownOf c vs) := by rw [K.ok.eN, K.sc]; exact b1
            have key := ds_setLc2 (T := T) (W := W) (pos := pos) (spos := spos) (vs2 := vs2) K.ok.calm K.nd (K.name n1) (locOk K n2) (sw_true (kindOk K) (locOk K n2) n3 n4) (hi X c W tx iter K h4 true) b2 (fun i hi => by rw [ownOf_snd]; exact sub_mem h2'' i hi) (cl_of K hk h5 hd hT h7) (cl_of K hk h5' hb hbT h8) (fun i hi => by rw [ownOf_snd]; exact sub_mem h2 i hi) (sub_mem h2')
              (fun s H Ca cl fp => hi2 _ _ W0 tx2 iter2 (K.blk hk s H Ca cl fp) h4' false) (fun s H Ca cl fp => (he _ _ W0 elt (K.blk hk s H Ca cl fp) h6).e) (set_plain h3) (fun env x => set_plain h3' x)
            rw [ownOf_snd] at key
            exact key
          · cases h
        · cases h
      · cases h
    · cases h
  · cases h
theorem ss_setDc (i : Nat) (tg : Tg) (vs : List Nat) (dT : Bool) (ha : SA T k G GV C fa ra da) (he : SA T k G GV C fe re de) (hi : SAI T k G GV C fi di) (hd : SA T k G GV C fd rd dd) (hT : dT = true → dd false = fun _ => ret (.bl true)) :
    SaS T k G GV C (ckSetK (ckDc fa fe tg fi fd dT vs) i) (fun r => bnd (dcD (di true) tg vs (dd false) (da false) (de false) r) fun v => ret (.nx (r.set i (ofV v)))) := by
  intro X c W st K h
  unfold ckSetK at h
  split at h
  · rename_i ts v spos
    split at h
    · rename_i y py
      simp only [Bool.and_eq_true, decide_eq_true_eq, Bool.not_eq_true'] at h
      obtain ⟨⟨⟨⟨n1, n2⟩, n3⟩, n4⟩, h⟩ := h
      unfold ckDc at h
      split at h
      · split at h
        · split at h
          · rename_i kx vx scope pos gs g tx iter ifs
            simp only [Bool.and_eq_true] at h
            obtain ⟨⟨⟨⟨⟨⟨⟨h1, h2⟩, h3⟩, h4⟩, h5⟩, h6⟩, h6'⟩, h7⟩ := h
            obtain ⟨b1, hk⟩ := blkB h1
            have b2 : BlkOk X.N X.env.scope scope (ownOf c vs) := by rw [K.ok.eN, K.sc]; exact b1
            have key := ds_setDc (T := T) (W := W) (pos := pos) (spos := spos) K.ok.un K.ok.calm K.nd (K.name n1) (locOk K n2) (sw_trueD (kindOk K) (locOk K n2) n3 n4) (hi X c W tx iter K h4 true) b2 (cl_of K hk h5 hd hT h7) (fun i hi => by rw [ownOf_snd]; exact sub_mem h2 i hi)
              (fun s H Ca cl fp => (ha _ _ W0 kx (K.blk hk s H Ca cl fp) h6).e) (fun s H Ca cl fp => (he _ _ W0 vx (K.blk hk s H Ca cl fp) h6').e) (set_plain h3)
            rw [ownOf_snd] at key
            exact key
          · cases h
        · cases h
      · cases h
    · cases h
  · cases h
end
end RP

/-! Fw31: an owned dict that is read by an iterator, locked for the statement alone. Own work. -/
namespace RP
open PySem PySem.Spec PyProof.Rows L2
section
variable {S : Sy} {G G' H H' H₀ : Hp} {m m' : List Addr} {s : AS} {r : Fm} {σ : L2.St}
theorem ext_nil : Ext [] m (fun _ => none) G (fun _ => none) H :=
  ⟨fun _ _ h => (nomatch h), ⟨m, by simp⟩, fun _ _ => .inr rfl, fun _ _ _ => .inr rfl, fun _ _ h => (nomatch h), fun _ _ => rfl⟩
theorem Wd.put {b : Addr} {o o' : HO} (wd : Wd S G m s H) (hd : H b = some o) (nt : ntbl o) (hc : ∀ q, o ≠ LamX.CodeO b q) (hm : b ∉ m) (hg : G b = none) : Wd S G m s (upd H b o') :=
  (write_new ext_nil wd (by rw [hd]; exact fun z => nomatch z) hm hg rfl (fun ps z => by rw [hd] at z; cases z; exact nt ps rfl) (fun q z => by rw [hd] at z; cases z; exact hc q rfl)).2
theorem lock_sec {i : Nat} {kvs : List (PV × PV)} (a : At S G m s H₀ H r σ) (q : Fm.get r i = .od kvs) : ∃ b es, σ[i]? = some (some (.ref b)) ∧ H b = some (DctO S.P S.w b es) ∧ RepsD S G m kvs es ∧ b ∉ m ∧ ∀ od,
    At S G m s H₀ (upd H b (.frz od (DctO S.P S.w b es))) (r.set i .no) σ ∧ ∀ G' m' H' s', Ext m m' G G' (upd H b (.frz od (DctO S.P S.w b es))) H' → Wd S G' m' s' H' →
      H' b = some (.frz od (DctO S.P S.w b es)) ∧ Ext m m' G G' H (upd H' b (DctO S.P S.w b es)) ∧ Wd S G' m' s' (upd H' b (DctO S.P S.w b es)) ∧ ∀ x v, RepF S G' m' (upd H b (.frz od (DctO S.P S.w b es))) H' x v → RepF S G' m' H (upd H' b (DctO S.P S.w b es)) x v := by
  obtain ⟨wd, fm⟩ := a
  obtain ⟨oa, f⟩ := fm.at
  have O := f.ok i
  rw [q] at O
  obtain ⟨h1, ⟨es, h2, h3⟩, h4, h5, h6⟩ := O
  have hlt : i < r.length := by
    by_cases z : i < r.length
    · exact z
    · rw [get_out r (by omega)] at q; cases q
  refine ⟨oa i, es, h1, h2, h3, h4, fun od => ⟨⟨wd.put h2 ntbl_dct (fun _ => dct_ne_code) h4 h5, ?_⟩, fun G' m' H' s' e wd' => ?_⟩⟩
  · refine ⟨by simp [f.len], oa, fun j => ?_, fun j k hj hk ee => ?_⟩
    · by_cases hj : j = i
      · subst hj
        rw [get_set_same r j _ hlt]
        trivial
      · rw [get_set_ne r _ (Ne.symm hj)]
        have O := f.ok j
        cases p : Fm.get r j with
        | no => trivial
        | sh y =>
          rw [p] at O
          exact O
        | ow xs =>
          rw [p] at O
          have ne : oa j ≠ oa i := fun z => hj (f.inj j i (by rw [p]; rfl) (by rw [q]; rfl) z)
          obtain ⟨g1, ⟨vs, g2, g3⟩, g4, g5, g6⟩ := O
          exact ⟨g1, ⟨vs, by rw [upd_ne ne]; exact g2, g3⟩, g4, g5, g6⟩
        | od xs =>
          rw [p] at O
          have ne : oa j ≠ oa i := fun z => hj (f.inj j i (by rw [p]; rfl) (by rw [q]; rfl) z)
          obtain ⟨g1, ⟨vs, g2, g3⟩, g4, g5, g6⟩ := O
          exact ⟨g1, ⟨vs, by rw [upd_ne ne]; exact g2, g3⟩, g4, g5, g6⟩
    · have nj : j ≠ i := fun z => by rw [z, get_set_same r i _ hlt] at hj; cases hj
      have nk : k ≠ i := fun z => by rw [z, get_set_same r i _ hlt] at hk; cases hk
      rw [get_set_ne r _ (Ne.symm nj)] at hj
      rw [get_set_ne r _ (Ne.symm nk)] at hk
      exact f.inj j k hj hk ee
  · have hb : H' (oa i) = some (.frz od (DctO S.P S.w (oa i) es)) := e.keep _ _ upd_same h4 ntbl_frz
    have hm' : oa i ∉ m' := fun z => (e.newm _ z).elim h4 fun z => by rw [upd_same] at z; cases z
    have hg' : G' (oa i) = none := by
      cases p : G' (oa i) with
      | none => rfl
      | some o => exact ((e.newG _ _ p).elim (fun z => by rw [h5] at z; cases z) fun z => by rw [upd_same] at z; cases z)
    have back : ∀ c, upd H (oa i) (.frz od (DctO S.P S.w (oa i) es)) c = none → H c = none := fun c z => by
      by_cases hc : c = oa i
      · rw [hc, upd_same] at z; cases z
      · rw [upd_ne hc] at z; exact z
    have ne : ∀ c, H' c ≠ some (.frz od (DctO S.P S.w (oa i) es)) → c ≠ oa i := fun c z zz => z (by rw [zz]; exact hb)
    refine ⟨hb, ⟨e.le, e.pre, fun c h => (e.newm c h).imp id (back c), fun c o h => (e.newG c o h).imp id (back c), fun c o h g n => ?_, fun c h => ?_⟩, wd'.put hb ntbl_frz (fun q z => by exact nomatch (show HO.frz od (DctO S.P S.w (oa i) es) = LamX.CodeO (oa i) q from z)) hm' hg', fun x v rx => ?_⟩
    · by_cases hc : c = oa i
      · subst hc
        rw [h2] at h
        cases h
        exact upd_same
      · rw [upd_ne hc]
        exact e.keep c o (by rw [upd_ne hc]; exact h) g n
    · have hc : c ≠ oa i := fun z => by rw [z, upd_same] at h; cases h
      rw [upd_ne hc] at h
      exact back c (e.dom c h)
    · cases rx with
      | val hx h => exact .val hx h
      | lst h hm hg hn r => exact .lst (by rw [upd_ne (ne _ (fun z => by rw [h] at z; cases z))]; exact h) hm hg (back _ hn) r
      | dct h hm hg hn r => exact .dct (by rw [upd_ne (ne _ (fun z => by rw [h] at z; exact nomatch (Option.some.inj z)))]; exact h) hm hg (back _ hn) r
theorem iter_iO {a : Addr} {od : Obj} {kvs : List (PV × PV)} {es : List (NestedKey × Addr × V)} (h : H a = some (.frz od (DctO S.P S.w a es))) (hm : a ∉ m) (r : RepsD S G m kvs es) : IterOk S true G m H (kvs.map fun kv => .tup [kv.1, kv.2]) (ItiD S.P S.w a od es) := by
  intro G' m' s' H' wd' l e
  have q : H' a = some (.frz od (DctO S.P S.w a es)) := (e rfl).keep _ _ h hm ntbl_frz
  refine ⟨fun i hi => ⟨q, by rw [List.length_map, r.length] at hi; exact hi⟩, ⟨q, by rw [List.length_map, r.length]; exact Nat.le_refl _⟩, fun i x v H2 hx y => ?_⟩
  obtain ⟨p, T, hp, rfl, hT, rfl⟩ := y
  rw [List.getElem?_map] at hx
  cases c : kvs[i]? with
  | none => rw [c] at hx; cases hx
  | some kv =>
    rw [c] at hx
    cases hx
    obtain ⟨p', e1, e2, e3⟩ := repsD_get r c
    rw [hp] at e1
    cases e1
    exact pair_new wd' hT (e2.mono l.le l.pre) (e3.mono l.le l.pre)
end
end RP

/-! Fw32: name = [e for t in d.items() if c], d an owned dict that stays owned. Own work. -/
namespace RP
open PySem PySem.Spec PyProof.Rows L2
theorem lc_body {S : Sy} {t : Tg} {vs : List Nat} {dc de : Fm → M PV} {r : Fm} {σ : L2.St} {G1 H1 H₀ : Hp} {m1 : List Addr} {s1 : AS} {xs : List PV} {J : L2.It} {Q : VK} {W : XK} (ht : ∀ i, i ∈ t.is → i ∈ vs) (wd1 : Wd S G1 m1 s1 H1) (fm1 : FmOk S G1 m1 H₀ H1 r σ)
    (io : IterOk S true G1 m1 H1 xs J) (p1 : Post S (RepM S .F) G1 m1 H1 (noExc (bnd (lcGo (lcF t vs dc de r) xs []) finL) s1) Q W) : tLc (fun _ H R => R J H) (gTg S t) (tDT S W0 dc) (tD S .E W0 de) vs σ H1 Q := by
  intro D hD
  refine ⟨fun i n H => n = xs.length - i ∧ i ≤ xs.length ∧ ∃ G m s acc us, Ext m1 m G1 G H1 H ∧ Wd S G m s H ∧ H D = some (.lst us) ∧ D ∉ m ∧ G D = none ∧ Reps S G m acc us ∧
    Post S (RepM S .F) G1 m1 H1 (noExc (bnd (lcGo (lcF t vs dc de r) (xs.drop i) acc) finL) s) Q W,
    ⟨xs.length, rfl, Nat.zero_le _, G1, m1, s1, [], [], wd1.newExt hD, wd1.new hD, upd_same, wd1.mnone hD, wd1.Gnone hD, .nil, p1⟩, ?_⟩
  rintro i n H' ⟨rfl, hle, G2, m2, s2, acc, us, e2, wd2, hl, hm, hg, racc, p2⟩
  obtain ⟨hgo, hstop, hy⟩ := io G2 m2 s2 H' wd2 e2.lat fun _ => e2
  by_cases hlt : i < xs.length
  · refine .inr ⟨hgo i hlt, fun H' => ∃ G m s acc us, Ext m1 m G1 G H1 H' ∧ Wd S G m s H' ∧ H' D = some (.lst us) ∧ D ∉ m ∧ G D = none ∧ Reps S G m acc us ∧
      Post S (RepM S .F) G1 m1 H1 (noExc (bnd (lcGo (lcF t vs dc de r) (xs.drop (i + 1)) acc) finL) s) Q W, fun H' q => ⟨xs.length - (i + 1), by omega, rfl, hlt, q⟩, fun v H3 yl => ?_⟩
    obtain ⟨G3, e3, wd3, rv⟩ := hy i xs[i] v H3 (List.getElem?_eq_getElem hlt) yl
    rw [List.drop_eq_getElem_cons hlt] at p2
    have p2 : Post S (RepM S .F) G1 m1 H1 (noExc (bnd (bnd (bnd (opt (bindT t xs[i] (r.wipe vs))) fun r2 => tst (dc r2) fun k => if k then bnd (de r2) fun y => ret [y] else ret []) fun ys => lcGo (lcF t vs dc de r) (xs.drop (i + 1)) (acc ++ ys)) finL) s2) Q W := p2
    cases q : bindT t xs[i] (r.wipe vs) with
    | none => rw [q] at p2; exact p2.elim
    | some r3 =>
      rw [q] at p2
      have p2 : Post S (RepM S .F) G1 m1 H1 (noExc (bnd (bnd (tst (dc r3) fun k => if k then bnd (de r3) fun y => ret [y] else ret []) fun ys => lcGo (lcF t vs dc de r) (xs.drop (i + 1)) (acc ++ ys)) finL) s2) Q W := p2
      rw [bnd_assoc] at p2
      have e13 := e2.trans e3
      have fm3 : FmOk S G3 m2 H₀ H3 (r.wipe vs) (L2.wipe σ vs) := FmOk.wipe (fm1.ext e13) vs
      refine ⟨G3, m2, s2, H₀, r.wipe vs, xs[i], r3, ⟨wd3, fm3⟩, .rep rv, fun _ _ => rv, q, fun σ4 a4 hw => ⟨(hw vs ht).trans (wipe_wipe σ vs), ?_⟩⟩
      have hl3 := e3.keep _ _ hl hm ntbl_lst
      have hm3 := e3.notm hl hm
      have hg3 := e3.notG hl hg
      refine ⟨G3, m2, s2, H₀, r3, ⟨wd3, a4 H3 fm3⟩, ?_⟩
      unfold tst at p2
      rw [bnd_assoc] at p2
      refine Post.nx p2 fun k s5 G5 m5 H5 b e5 wd5 rb p5 => ?_
      have rb : k = b := rb
      subst rb
      have hl5 := e5.keep _ _ hl3 hm3 ntbl_lst
      have hm5 := e5.notm hl3 hm3
      have hg5 := e5.notG hl3 hg3
      have e15 := e13.trans e5
      have racc5 := (racc.ext e3).ext e5
      cases k with
      | false =>
        have p5 : Post S (RepM S .F) G1 m1 H1 (noExc (bnd (lcGo (lcF t vs dc de r) (xs.drop (i + 1)) (acc ++ [])) finL) s5) Q W := p5
        rw [List.append_nil] at p5
        exact ⟨G5, m5, s5, acc, us, e15, wd5, hl5, hm5, hg5, racc5, p5⟩
      | true =>
        have p5 : Post S (RepM S .F) G1 m1 H1 (noExc (bnd (bnd (de r3) fun y => ret [y]) fun ys => bnd (lcGo (lcF t vs dc de r) (xs.drop (i + 1)) (acc ++ ys)) finL) s5) Q W := p5
        rw [bnd_assoc] at p5
        rw [if_pos rfl]
        refine ⟨G5, m5, s5, H₀, r3, ⟨wd5, (a4 H3 fm3).ext e5⟩, Post.nx p5 fun y s6 G6 m6 H6 w e6 wd6 ry p6 => ?_⟩
        have ry : Rep S G6 m6 y w := ry
        have p6 : Post S (RepM S .F) G1 m1 H1 (noExc (bnd (lcGo (lcF t vs dc de r) (xs.drop (i + 1)) (acc ++ [y])) finL) s6) Q W := p6
        have hl6 := e6.keep _ _ hl5 hm5 ntbl_lst
        have hm6 := e6.notm hl5 hm5
        have hg6 := e6.notG hl5 hg5
        have racc6 := racc5.ext e6
        have hle6 := p6.acc_le
        obtain ⟨k1, k2⟩ := write_new (o := .lst (us ++ [w])) (e15.trans e6) wd6 (by rw [hl6]; exact fun z => nomatch z) hm6 hg6 hD (by rw [hl6]; exact fun _ z => nomatch z) (by rw [hl6]; exact fun _ z => nomatch z)
        refine ⟨us, hl6, ?_, G6, m6, s6, acc ++ [y], us ++ [w], k1, k2, upd_same, hm6, hg6, racc6.append (.cons ry .nil), p6⟩
        have := LIM_le
        rw [← racc.length]
        rw [List.length_append] at hle6
        simp at hle6
        omega
  · have e : i = xs.length := by omega
    subst e
    rw [List.drop_length] at p2
    have p2 : Post S (RepM S .F) G1 m1 H1 (noExc (finL acc) s2) Q W := p2
    refine .inl ⟨hstop, ?_⟩
    unfold finL at p2
    by_cases c : acc.length ≤ LIM
    · rw [if_pos c] at p2
      exact p2 G2 m2 H' (.ref D) e2 wd2 (.lst hl hm hg hD racc)
    · rw [if_neg c] at p2
      exact p2.elim
theorem noExc_exc {α : Type} {x : M α} {s s' : AS} {e : Exc} : noExc x s ≠ .exc e s' := fun h => by
  unfold noExc at h
  cases q : x s with
  | ok a b => rw [q] at h; cases h
  | exc a b => rw [q] at h; cases h
  | stuck => rw [q] at h; cases h
section
variable {X : Cx} {T : List (Addr × Str)} {W : XK}
variable {elt : Expr} {elts : List Expr} {kk : Nat} {ifs : List Expr} {scope : Scope} {own : List (Str × Nat)} {pos spos py px tpos apos cpos : Pos} {t : Tg} {dc de : Fm → M PV} {i j : Nat} {x y : Str}
def itemsX (kvs : List (PV × PV)) : List PV := kvs.map fun kv => .tup [kv.1, kv.2]
theorem ds_setLcO (hc : X.calm = true) (hN : X.N.Nodup) (hy : X.N[j]? = some y) (hyl : X.env.scope.names.lookup y = some .local) (hx : X.N[i]? = some x) (hv : Vis X.env.scope x) (hd : (x == ("__debug__" : Str)) = false) (hcd : (x == ("__classdict__" : Str)) = false) (hl : (apos.endLine == cpos.line) = true)
    (hsw : swapsWith (.ListComp elt [⟨.Tuple elts kk tpos, .Call (.Attribute (.Name x px) "items" apos) [] [] cpos, ifs, 0⟩] scope pos) (some (.Name y py)) spos.line X.env = pure true)
    (ok : BlkOk X.N X.env.scope scope own) (cl : ClOk X T scope (.Tuple elts kk tpos) t ifs dc) (ht : ∀ i, i ∈ t.is → i ∈ own.map (·.2))
    (he : ∀ (s : Shared) (H : Hp) (C : Addr) (cl : List (Str × Addr)) (fp : List Addr), PE (X.blk s H scope (compEnvC scope cl C X.env) fp) elt (tD (sy X T) .E W0 de)) :
    PS X (.Assign [.Name y py] (.ListComp elt [⟨.Tuple elts kk tpos, .Call (.Attribute (.Name x px) "items" apos) [] [] cpos, ifs, 0⟩] scope pos) spos) (tS (sy X T) W fun r => match Fm.get r i with
      | .od kvs => bnd (noExc (bnd (lcGo (lcF t (own.map (·.2)) dc de (r.set i .no)) (itemsX kvs) []) finL)) fun v => ret (.nx (r.set j (ofV v)))
      | _ => stk) := by
  refine (ps_lock (ps_setLc (g := gTg (sy X T) t) (tt := tDT (sy X T) W0 dc) hc hN hy hyl hsw (pi_itemsD (pe_var hx hv hd hcd) rfl hl) ok (fun s H C c fp => tg_ok (X := X.blk s H scope (compEnvC scope c C X.env) fp) (T := T) hN hc (cl.tg s H C c fp)) (fun s H C c fp => pts_of (T := T) (Y := X.blk s H scope (compEnvC scope c C X.env) fp) (cl.ifs s H C c fp)) he (fun _ => rfl))).imp fun D σ H ⟨G₀, m₀, H₀, Gb, mb, G, m, s, r, a, p⟩ => ?_
  dsimp only at p
  cases q : Fm.get r i with
  | no => rw [q] at p; exact p.elim
  | sh z => rw [q] at p; exact p.elim
  | ow z => rw [q] at p; exact p.elim
  | od kvs =>
    rw [q] at p
    obtain ⟨b, es, h1, h2, h3, h4, K⟩ := lock_sec a.at q
    refine ⟨b, _, h2, True.intro, fun od => ?_⟩
    obtain ⟨aL, back⟩ := K od
    have pp : Post (sy X T) (RepM (sy X T) .F) G m H (noExc (bnd (lcGo (lcF t (own.map (·.2)) dc de (r.set i .no)) (itemsX kvs) []) finL) s) (fun v H' => D.nx (σ.set j (some v)) H') W :=
      PostS.step a p fun x s1 G1 m1 H1 v e1 a1 rx p1 => p1 G1 m1 H1 _ a1.ext a1.lat ⟨a1.wd, a.fm.putF e1 a.ext.dom j rx⟩
    refine ⟨.ref b, h1, b, od, es, rfl, upd_same, ?_⟩
    refine lc_body (xs := itemsX kvs) (Q := fun x H' => H' b = some (.frz od (DctO (sy X T).P (sy X T).w b es)) ∧ D.nx (σ.set j (some x)) (upd H' b (DctO (sy X T).P (sy X T).w b es))) ht aL.1 aL.2 (iter_iO upd_same h4 h3) (?_ : Post (sy X T) (RepM (sy X T) .F) G m _ (noExc (bnd (lcGo (lcF t (own.map (·.2)) dc de (r.set i .no)) (itemsX kvs) []) finL) s) _ W)
    cases z : noExc (bnd (lcGo (lcF t (own.map (·.2)) dc de (r.set i .no)) (itemsX kvs) []) finL) s with
    | ok w s1 =>
      rw [z] at pp
      intro G' m' H' v e wd rv
      obtain ⟨k1, k2, k3, k4⟩ := back G' m' H' s1 e wd
      exact ⟨k1, pp G' m' _ v k2 k3 (k4 _ _ rv)⟩
    | exc w s1 => exact (noExc_exc z).elim
    | stuck =>
      rw [z] at pp
      exact pp.elim
end
end RP

/-! Fw29: the check of blocks, and that it is sound. Own work. -/
namespace RP
open PySem PySem.Spec PyProof.Rows L2
def chkK (e : E) (i : Nat) (c : Ctx) (t : Stmt) : Bool := match e with
  | .lc el tg it cd vs => ckSetK (ckLc (chkE el) tg (chkI it) (chkE cd) (isTrueE cd) vs) i c t
  | .lc2 el tg it cd tg2 it2 cd2 vs vs2 => ckSetK (ckLc2 (chkE el) tg (chkI it) (chkE cd) (isTrueE cd) tg2 (chkI it2) (chkE cd2) (isTrueE cd2) vs vs2) i c t
  | .dc ek ev tg it cd vs => ckSetK (ckDc (chkE ek) (chkE ev) tg (chkI it) (chkE cd) (isTrueE cd) vs) i c t
  | _ => false
def chkO (e : E) (i : Nat) (c : Ctx) (t : Stmt) : Bool := (fresh e && ckSet (chkE e) i c t) || ((fresh e && ckSetQ (chkE e) i c t) || chkK e i c t)
def chkPar (is : List Nat) (es : Es) (c : Ctx) (t : Stmt) : Bool := match is with
  | [i, j] => ckPar2 (chkEs es) i j c t
  | [i, j, l] => ckPar3 (chkEs es) i j l c t
  | _ => false
def ckSetLcO (fe fd : CE) (dT : Bool) (tg : Tg) (vs : List Nat) (j i : Nat) (c : Ctx) (st : Stmt) : Bool := match st with
  | .Assign ts v _ => (match ts with
    | [.Name y py] => (match v with
      | .ListComp elt gs scope pos => (match gs with
        | [⟨.Tuple elts kk tpos, .Call (.Attribute (.Name x px) m apos) [] [] cpos, ifs, 0⟩] => decide (m = "items") && decide (c.N[j]? = some y) && locB c y && (py.line == pos.line) && !(scope.names.any fun (n, k) => n == y && (k == .local || k == .cell)) && decide (c.N[i]? = some x) && visB c x && plainN x && (apos.endLine == cpos.line) &&
          blkC c.N c.sc scope (ownOf c vs) && subB tg.is vs && chkTg tg (c.blk scope) (.Tuple elts kk tpos) && fe (c.blk scope) elt && cdB ifs fd dT (c.blk scope)
        | _ => false)
      | _ => false)
    | _ => false)
  | _ => false
mutual
def chkS : S → Ctx → Stmt → Bool
  | .dead, _, _ => true
  | .set i e, c, t => ckSet (chkE e) i c t
  | .setO i e, c, t => chkO e i c t
  | .setT is e, c, t => ckSetT (chkE e) is c t || ckSetC (chkE e) is c t
  | .setLcO j i e g d vs, c, t => ckSetLcO (chkE e) (chkE d) (isTrueE d) g vs j i c t
  | .par is es, c, t => chkPar is es c t
  | .parD i j e, c, t => ckParD (chkE e) i j c t
  | .app i e, c, t => ckMeth "append" (chkE e) i c t
  | .ext i e, c, t => ckMeth "extend" (chkE e) i c t
  | .seti i k e, c, t => ckSeti (chkE k) (chkE e) i c t
  | .expr e, c, t => ckExpr (chkE e) c t
  | .retE e, c, t => ckRet (chkE e) c t
  | .retN, c, t => ckRetN c t
  | .ife d a b, c, t => ckIf (chkE d) (chkSs a) (chkSs b) c t
  | .for_ g it b, c, t => ckFor g (chkI it) (chkSs b) c t
  | .while_ _ d b, c, t => ckWhile (chkE d) (chkSs b) c t
  | .raise_ _, _, _ => false
  | .pass, c, t => ckPass c t
def chkSs : Ss → Ctx → List Stmt → Bool
  | .nil, _, ts => ts.isEmpty
  | .cons s ss, c, ts => (match ts with
    | t :: ts => chkS s c t && chkSs ss c ts
    | [] => false)
  | .frz _ ss, c, ts => chkSs ss c ts
end
section
variable {T : List (Addr × Str)} {k : Nat} {G : List Den} {GV : List (Str × Nat × Den)} {C : List PV}
theorem isTrueE_ok {e : E} (h : isTrueE e = true) : den G GV C e false = fun _ => ret (.bl true) := by
  cases e with
  | bl b => cases b with
    | true => rfl
    | false => cases h
  | _ => cases h
theorem ss_or {f g : CS} {d : Fm → M Fl} (hf : SaS T k G GV C f d) (hg : SaS T k G GV C g d) : SaS T k G GV C (fun c t => f c t || g c t) d := by
  intro X c W st K h
  simp only [Bool.or_eq_true] at h
  rcases h with h | h
  · exact hf X c W st K h
  · exact hg X c W st K h
theorem ss_false {d : Fm → M Fl} : SaS T k G GV C (fun _ _ => false) d := fun _ _ _ _ _ h => nomatch h
theorem ss_K (e : E) (i : Nat) : SaS T k G GV C (chkK e i) (fun r => bnd (den G GV C e false r) fun v => ret (.nx (r.set i (ofV v)))) := by
  cases e with
  | lc el tg it cd vs => exact ss_setLc i tg vs (isTrueE cd) (sndE T k G GV C el) (sndI T k G GV C it) (sndE T k G GV C cd) isTrueE_ok
  | lc2 el tg it cd tg2 it2 cd2 vs vs2 => exact ss_setLc2 i tg tg2 vs vs2 (isTrueE cd) (isTrueE cd2) (sndE T k G GV C el) (sndI T k G GV C it) (sndE T k G GV C cd) isTrueE_ok (sndI T k G GV C it2) (sndE T k G GV C cd2) isTrueE_ok
  | dc ek ev tg it cd vs => exact ss_setDc i tg vs (isTrueE cd) (sndE T k G GV C ek) (sndE T k G GV C ev) (sndI T k G GV C it) (sndE T k G GV C cd) isTrueE_ok
  | _ => exact ss_false
theorem ss_O (e : E) (i : Nat) : SaS T k G GV C (chkO e i) (fun r => bnd (den G GV C e false r) fun v => ret (.nx (r.set i (ofV v)))) :=
  ss_or (ss_setO i (sndE T k G GV C e)) (ss_or (ss_setQ i (sndE T k G GV C e)) (ss_K e i))
theorem ss_Par (is : List Nat) (es : Es) : SaS T k G GV C (chkPar is es) (fun r => bnd (denEs G GV C es r) fun vs => bnd (opt (bindNs is vs r)) fun r' => ret (.nx r')) := by
  match is with
  | [] => exact ss_false
  | [_] => exact ss_false
  | [i, j] => exact ss_par2 i j (sndEs T k G GV C es)
  | [i, j, l] => exact ss_par3 i j l (sndEs T k G GV C es)
  | _ :: _ :: _ :: _ :: _ => exact ss_false
theorem ss_setLcO {fd fe : CE} {rd re : Bool} {dd de : Bool → Fm → M PV} (j i : Nat) (tg : Tg) (vs : List Nat) (dT : Bool) (he : SA T k G GV C fe re de) (hd : SA T k G GV C fd rd dd) (hT : dT = true → dd false = fun _ => ret (.bl true)) :
    SaS T k G GV C (ckSetLcO fe fd dT tg vs j i) (fun r => match Fm.get r i with
      | .od kvs => bnd (noExc (bnd (lcGo (lcF tg vs (dd false) (de false) (r.set i .no)) (itemsX kvs) []) finL)) fun v => ret (.nx (r.set j (ofV v)))
      | _ => stk) := by
  intro X c W st K h
  unfold ckSetLcO at h
  split at h
  · split at h
    · split at h
      · split at h
        · rename_i spos ts y py v elt scope pos gs elts kk tpos x px m apos cpos ifs
          simp only [Bool.and_eq_true, decide_eq_true_eq, Bool.not_eq_true'] at h
          obtain ⟨⟨⟨⟨⟨⟨⟨⟨⟨⟨⟨⟨⟨rfl, n1⟩, n2⟩, n3⟩, n4⟩, x1⟩, x2⟩, x3⟩, x4⟩, h1⟩, h2⟩, h5⟩, h6⟩, h7⟩ := h
          obtain ⟨b1, hk⟩ := blkB h1
          have b2 : BlkOk X.N X.env.scope scope (ownOf c vs) := by rw [K.ok.eN, K.sc]; exact b1
          have key := ds_setLcO (T := T) (W := W) (spos := spos) (pos := pos) (tpos := tpos) (px := px) (kk := kk) K.ok.calm K.nd (K.name n1) (locOk K n2) (K.name x1) (K.vis x2) (plain_parts x3).1 (plain_parts x3).2.1 x4 (sw_true (kindOk K) (locOk K n2) n3 n4) b2 (cl_of K hk h5 hd hT h7) (fun i hi => by rw [ownOf_snd]; exact sub_mem h2 i hi)
            (fun s H Ca cl fp => (he _ _ W0 _ (K.blk hk s H Ca cl fp) h6).e)
          rw [ownOf_snd] at key
          exact key
        · cases h
      · cases h
    · cases h
  · cases h
mutual
theorem sndS : ∀ s : S, SaS T k G GV C (chkS s) (denS G GV C s)
  | .dead => ss_dead
  | .set i e => ss_set i (sndE T k G GV C e)
  | .setO i e => ss_O e i
  | .setT is e => ss_setT is (sndE T k G GV C e)
  | .setLcO j i e g d vs => ss_setLcO j i g vs (isTrueE d) (sndE T k G GV C e) (sndE T k G GV C d) isTrueE_ok
  | .par is es => ss_Par is es
  | .parD i j e => ss_parD i j (sndE T k G GV C e)
  | .app i e => ss_app i (sndE T k G GV C e)
  | .ext i e => ss_ext i (sndE T k G GV C e)
  | .seti i kk e => ss_seti i (sndE T k G GV C kk) (sndE T k G GV C e)
  | .expr e => ss_expr (sndE T k G GV C e)
  | .retE e => ss_ret (sndE T k G GV C e)
  | .retN => ss_retN
  | .ife d a b => ss_if (sndE T k G GV C d) (sndSs a) (sndSs b)
  | .for_ g it b => ss_for g (sndI T k G GV C it) (sndSs b)
  | .while_ n d b => ss_while n (sndE T k G GV C d) (sndSs b)
  | .raise_ _ => ss_false
  | .pass => ss_pass
theorem sndSs : ∀ ss : Ss, SaSs T k G GV C (chkSs ss) (denSs G GV C ss)
  | .nil => by
    intro X c W ts K h
    have h : ts.isEmpty = true := h
    rw [List.isEmpty_iff.mp h]
    exact dss_nil
  | .cons s ss => by
    intro X c W ts K h
    match ts, h with
    | t :: ts, h =>
      have h : (chkS s c t && chkSs ss c ts) = true := h
      simp only [Bool.and_eq_true] at h
      exact dss_cons (sndS s X c W t K h.1) (sndSs ss X c W ts K h.2)
  | .frz i ss => fun X c W ts K h => dss_frz i (sndSs ss X c W ts K h)
end
end
end RP

/-! Fw30: a def that is checked holds its promise. Own work. -/
namespace RP
open PySem PySem.Spec PyProof.Rows L2
section
variable {S : Sy} {G H H₀ : Hp} {m : List Addr}
theorem reps_get : ∀ {xs : List PV} {vs : List V} {i : Nat} {x : PV}, Reps S G m xs vs → xs[i]? = some x → ∃ v, vs[i]? = some v ∧ Rep S G m x v
  | _, _, 0, x, .cons h r, e => ⟨_, rfl, by
    have e : some _ = some x := e
    cases e
    exact h⟩
  | _, _, i + 1, x, .cons h r, e => reps_get (i := i) r e
theorem start_fm {args : List PV} {vs : List V} {N : List Str} (r : Reps S G m args vs) (hl : args.length ≤ N.length) : FmOk S G m H₀ H (args.map .sh ++ List.replicate (N.length - args.length) .no) (L2.start N vs) := by
  have e : args.length = vs.length := r.length
  have key : ∀ i, Fm.get (args.map .sh ++ List.replicate (N.length - args.length) .no) i = .no ∨ ∃ x, args[i]? = some x ∧ Fm.get (args.map .sh ++ List.replicate (N.length - args.length) .no) i = .sh x := by
    intro i
    unfold Fm.get
    by_cases hi : i < args.length
    · rw [List.getElem?_append_left (by simpa using hi)]
      simp only [List.getElem?_map, List.getElem?_eq_getElem hi, Option.map]
      exact .inr ⟨_, rfl, rfl⟩
    · rw [List.getElem?_append_right (by simpa using hi)]
      by_cases hj : i - (args.map Sl.sh).length < N.length - args.length
      · rw [List.getElem?_replicate, if_pos hj]
        exact .inl rfl
      · rw [List.getElem?_replicate, if_neg hj]
        exact .inl rfl
  refine ⟨?_, fun _ => 0, fun i => ?_, fun i j hi _ _ => ?_⟩
  · unfold L2.start
    simp only [List.length_append, List.length_map, List.length_replicate]
    omega
  · rcases key i with h | ⟨x, hx, h⟩
    · rw [h]
      exact True.intro
    · rw [h]
      obtain ⟨v, hv, rv⟩ := reps_get r hx
      refine ⟨v, ?_, rv⟩
      unfold L2.start
      have hi : i < vs.length := (List.getElem?_eq_some_iff.mp hv).1
      rw [List.getElem?_append_left (by simpa using hi)]
      simp [hv]
  · rcases key i with h | ⟨x, hx, h⟩
    · rw [h] at hi
      cases hi
    · rw [h] at hi
      cases hi
end
section
variable {P : Program} {w : World} {K : PySem.W.Frag} {mg : Str → Option Value} {base : Heap} {T : List (Addr × Str)}
/-- a def that may be called, with no context in sight -/
structure CalleeM (P : Program) (w : World) (K : PySem.W.Frag) (mg : Str → Option Value) (base : Heap) (T : List (Addr × Str)) (k : Nat) (x : Str) (ar lv : Nat) (d : Den) : Prop where
  ex : ∃ f fd ps, mg x = some (.ref f) ∧ PySem.W.keepIn K (.ref f) = true ∧ L2.Binds K fd ps [] ∧ ps.length = ar ∧ FnOk P w K mg base (L2.CX P w) lv f fd ps (SpD ⟨P, w, K, mg, T⟩ ar d)
  le : lv ≤ k
structure ModOk (P : Program) (w : World) (K : PySem.W.Frag) (mg : Str → Option Value) (base : Heap) (T : List (Addr × Str)) (k : Nat) (c : Ctx) (G : List Den) (C : List PV) : Prop where
  fns : ∀ (j : Nat) (x : Str) (ar lv : Nat), c.fns[j]? = some (x, ar, lv) → ∃ d, G[j]? = some d ∧ CalleeM P w K mg base T k x ar lv d
  gcs : ∀ (j : Nat) (x : Str), c.gcs[j]? = some x → ∃ p u v, C[j]? = some p ∧ mg x = some u ∧ L2.RelV v u ∧ ∀ G m, Rep ⟨P, w, K, mg, T⟩ G m p v
  bls : ∀ x, x ∈ c.bls → mg x = none
theorem def_ok {x qual : Str} {params : Arguments} {body : List Stmt} {scope : Scope} {dvs : List V} {kws : List (Str × V)} {f : Addr} {fd : FuncData} {N ps : List Str} {k : Nat} {c : Ctx} {G : List Den} {C : List PV} {b : Ss} (F : FunD K x qual params body scope dvs kws f fd) (hS : FnScope N ps scope) (M : ModOk P w K mg base T k c G C)
    (h1 : c.sc = scope) (h2 : c.sc0 = scope) (h3 : c.N = N) (h : chkSs b c body = true) :
    FnOk P w K mg base (L2.CX P w) (k + 1) f fd ps (SpD ⟨P, w, K, mg, T⟩ ps.length (run G [] C N.length b)) := by
  have hpl : ps.length ≤ N.length := by have := congrArg List.length hS.pre; rw [List.length_take] at this; omega
  refine F.ok hS (fun vs H Q E h => h.len) fun cdv A outer s H vs Q E hr ⟨G0, m0, s0, args, hl, wd, r, p⟩ => ?_
  refine ⟨_, sndSs (T := T) (k := k) (G := G) (GV := []) (C := C) b _ c E _ ⟨⟨rfl, h3.symm, by rw [h3]; exact hS.nd, hr, takes_of rfl rfl rfl rfl, fun j x ar lv hj => ?_, fun p hp => (nomatch hp), fun j x hj => M.gcs j x hj, M.bls, passes_of rfl⟩, h1.symm, fun _ _ => rfl, ?_⟩ h, ?_⟩
  · obtain ⟨d, e, cc⟩ := M.fns j x ar lv hj
    exact ⟨d, e, ⟨cc.ex, cc.le⟩⟩
  · rw [h1]
    exact hS.kind
  · refine ⟨G0, m0, H, G0, m0, G0, m0, s0, _, ⟨Ext.refl, Lat.refl, wd, start_fm r (by omega)⟩, ?_⟩
    have p : Post ⟨P, w, K, mg, T⟩ (RepM ⟨P, w, K, mg, T⟩ .E) G0 m0 H (bnd (denSs G [] C b (args.map .sh ++ List.replicate (N.length - args.length) .no)) endOf s0) Q E := p
    unfold bnd at p
    cases q : denSs G [] C b (args.map .sh ++ List.replicate (N.length - args.length) .no) s0 with
    | ok l s1 =>
      rw [q] at p
      cases l with
      | nx r1 => exact fun G' m' H' σ' e l a => p G' m' H' .non e a.1 .non
      | bk r1 => exact p.elim
      | ct r1 => exact p.elim
      | rt v => exact fun G' m' H' u e wd' rv => p G' m' H' u e wd' rv
    | exc y s1 =>
      rw [q] at p
      exact p
    | stuck =>
      rw [q] at p
      exact p
end
end RP

/-! IR, printed by gen.py. Own work. -/
namespace RP
open PySem PySem.Spec PyProof.Rows L2
def top (i : Nat) : Stmt := PySem.Challenge.pw_railpoints_k19_whole_written_tracks.main.body.getD i (.Pass ⟨0, 0, 0, 0⟩)
abbrev st_sorted_joints : Stmt := top 26
def ir_sorted_joints : Ss := (.cons (.setO 1 (.lst .nil)) (.cons (.for_ (.tup [2, 3, 4]) (.seq (.var 0)) (.cons (.app 1 (.ite (.or (.isN (.var 3)) (.cmp .lt (.var 2) (.var 3))) (.tup (.cons (.var 2) (.cons (.var 3) (.cons (.var 4) .nil)))) (.tup (.cons (.var 3) (.cons (.var 2) (.cons (.var 4) .nil)))))) .nil)) (.cons (.retE (.b1 .tuple (.lc (.ix (.b1 .dict (.lc (.tup (.cons (.ix (.var 5) (.int 0)) (.cons (.var 5) .nil))) (.nm 5) (.seq (.var 1)) (.bl true) [5])) (.var 2)) (.nm 2) (.seq (.b1 .sorted (.lc (.ix (.var 5) (.int 0)) (.nm 5) (.seq (.var 1)) (.bl true) [5]))) (.bl true) [2]))) .nil)))
def cx_sorted_joints : Ctx := ⟨defScope st_sorted_joints, defScope st_sorted_joints, ["joints", "found", "end", "other", "length", "joint"], [], [], ["tuple", "dict", "sorted"]⟩
theorem ck_sorted_joints : chkSs ir_sorted_joints cx_sorted_joints (defBody st_sorted_joints) = true := by decide +kernel
def d_sorted_joints : Den := run [] [] [] 6 ir_sorted_joints
abbrev st_other_leg : Stmt := top 27
def ir_other_leg : Ss := (.cons (.retE (.litget [("b", "c"), ("c", "b")] (.var 0) "a")) .nil)
def cx_other_leg : Ctx := ⟨defScope st_other_leg, defScope st_other_leg, ["leg"], [], [], []⟩
theorem ck_other_leg : chkSs ir_other_leg cx_other_leg (defBody st_other_leg) = true := by decide +kernel
def d_other_leg : Den := run [] [] [] 1 ir_other_leg
abbrev st_mirror : Stmt := top 28
def ir_mirror : Ss := (.cons (.setO 1 (.lst .nil)) (.cons (.for_ (.tup [2, 3, 4]) (.seq (.ix (.var 0) (.int 1))) (.cons (.set 5 (.ite (.isN (.var 3)) .non (.tup (.cons (.ix (.var 3) (.int 0)) (.cons (.call 1 (.cons (.ix (.var 3) (.int 1)) .nil)) .nil))))) (.cons (.app 1 (.tup (.cons (.tup (.cons (.ix (.var 2) (.int 0)) (.cons (.call 1 (.cons (.ix (.var 2) (.int 1)) .nil)) .nil))) (.cons (.var 5) (.cons (.var 4) .nil))))) .nil))) (.frz 1 (.cons (.retE (.tup (.cons (.ix (.var 0) (.int 0)) (.cons (.call 0 (.cons (.var 1) .nil)) .nil)))) .nil))))
def cx_mirror : Ctx := ⟨defScope st_mirror, defScope st_mirror, ["track", "joints", "end", "other", "length", "late"], [("sorted_joints", 1, 1), ("other_leg", 1, 1)], [], []⟩
theorem ck_mirror : chkSs ir_mirror cx_mirror (defBody st_mirror) = true := by decide +kernel
def d_mirror : Den := run [d_sorted_joints, d_other_leg] [] [] 6 ir_mirror
abbrev st_ends_in : Stmt := top 19
def ir_ends_in : Ss := (.cons (.retE (.lc2 (.var 2) (.nm 1) (.seq (.var 0)) (.bl true) (.nm 2) (.seq (.slHi (.var 1) (.int 2))) (.notN (.var 2)) [1, 2] [2])) .nil)
def cx_ends_in : Ctx := ⟨defScope st_ends_in, defScope st_ends_in, ["joints", "joint", "end"], [], [], []⟩
theorem ck_ends_in : chkSs ir_ends_in cx_ends_in (defBody st_ends_in) = true := by decide +kernel
def d_ends_in : Den := run [] [] [] 3 ir_ends_in
abbrev st_all_ends : Stmt := top 21
def ir_all_ends : Ss := (.cons (.retE (.lc2 (.tup (.cons (.var 1) (.cons (.var 2) .nil))) (.nm 1) (.range1 (.var 0)) (.bl true) (.nm 2) (.seq (.tup (.cons (.str "a") (.cons (.str "b") (.cons (.str "c") .nil))))) (.bl true) [1, 2] [2])) .nil)
def cx_all_ends : Ctx := ⟨defScope st_all_ends, defScope st_all_ends, ["many", "point", "leg"], [], [], ["range"]⟩
theorem ck_all_ends : chkSs ir_all_ends cx_all_ends (defBody st_all_ends) = true := by decide +kernel
def d_all_ends : Den := run [] [] [] 3 ir_all_ends
abbrev st_is_int : Stmt := top 15
def ir_is_int : Ss := (.cons (.retE (.and (.isinst .int (.var 0)) (.and (.not (.isinst .bool (.var 0))) (.chain .le .le (.var 1) (.var 0) (.var 2))))) .nil)
def cx_is_int : Ctx := ⟨defScope st_is_int, defScope st_is_int, ["value", "low", "high"], [], [], ["isinstance", "int", "bool"]⟩
theorem ck_is_int : chkSs ir_is_int cx_is_int (defBody st_is_int) = true := by decide +kernel
def d_is_int : Den := run [] [] [] 3 ir_is_int
abbrev st_is_word : Stmt := top 16
def ir_is_word : Ss := (.cons (.retE (.and (.isinst .str (.var 0)) (.cmp .isin (.var 0) (.var 1)))) .nil)
def cx_is_word : Ctx := ⟨defScope st_is_word, defScope st_is_word, ["value", "words"], [], [], ["isinstance", "str"]⟩
theorem ck_is_word : chkSs ir_is_word cx_is_word (defBody st_is_word) = true := by decide +kernel
def d_is_word : Den := run [] [] [] 2 ir_is_word
abbrev st_is_end_of : Stmt := top 17
def ir_is_end_of : Ss := (.cons (.ife (.or (.not (.isinst .tuple (.var 1))) (.cmp .ne (.b1 .len (.var 1)) (.int 2))) (.cons (.retE (.bl false)) .nil) .nil) (.cons (.retE (.and (.call 0 (.cons (.ix (.var 1) (.int 0)) (.cons (.int 0) (.cons (.bin .sub (.var 0) (.int 1)) .nil)))) (.call 1 (.cons (.ix (.var 1) (.int 1)) (.cons (.tup (.cons (.str "a") (.cons (.str "b") (.cons (.str "c") .nil)))) .nil))))) .nil))
def cx_is_end_of : Ctx := ⟨defScope st_is_end_of, defScope st_is_end_of, ["many", "value"], [("is_int", 3, 1), ("is_word", 2, 1)], [], ["isinstance", "tuple", "len"]⟩
theorem ck_is_end_of : chkSs ir_is_end_of cx_is_end_of (defBody st_is_end_of) = true := by decide +kernel
def d_is_end_of : Den := run [d_is_int, d_is_word] [] [] 2 ir_is_end_of
abbrev st_is_stretch : Stmt := top 18
def ir_is_stretch : Ss := (.cons (.ife (.or (.not (.isinst .tuple (.var 1))) (.or (.cmp .ne (.b1 .len (.var 1)) (.int 3)) (.or (.not (.call 0 (.cons (.var 0) (.cons (.ix (.var 1) (.int 0)) .nil)))) (.not (.call 1 (.cons (.ix (.var 1) (.int 2)) (.cons (.int 1) (.cons (.int 2) .nil)))))))) (.cons (.retE (.bl false)) .nil) .nil) (.cons (.retE (.or (.isN (.ix (.var 1) (.int 1))) (.and (.call 0 (.cons (.var 0) (.cons (.ix (.var 1) (.int 1)) .nil))) (.cmp .lt (.ix (.var 1) (.int 0)) (.ix (.var 1) (.int 1)))))) .nil))
def cx_is_stretch : Ctx := ⟨defScope st_is_stretch, defScope st_is_stretch, ["many", "value"], [("is_end_of", 2, 2), ("is_int", 3, 1)], [], ["isinstance", "tuple", "len"]⟩
theorem ck_is_stretch : chkSs ir_is_stretch cx_is_stretch (defBody st_is_stretch) = true := by decide +kernel
def d_is_stretch : Den := run [d_is_end_of, d_is_int] [] [] 2 ir_is_stretch
abbrev st_is_track : Stmt := top 20
def ir_is_track : Ss := (.cons (.ife (.or (.not (.isinst .tuple (.var 0))) (.or (.cmp .ne (.b1 .len (.var 0)) (.int 2)) (.not (.b1 .all (.lc (.isinst .tuple (.var 4)) (.nm 4) (.seq (.var 0)) (.bl true) [4]))))) (.cons (.retE (.bl false)) .nil) .nil) (.cons (.setT [1, 2] (.var 0)) (.cons (.ife (.or (.not (.chain .le .le (.int 1) (.b1 .len (.var 1)) (.gc 0))) (.not (.b1 .all (.lc (.call 3 (.cons (.var 5) (.cons (.gc 1) .nil))) (.nm 5) (.seq (.var 1)) (.bl true) [5])))) (.cons (.retE (.bl false)) .nil) .nil) (.cons (.ife (.not (.b1 .all (.lc (.call 2 (.cons (.b1 .len (.var 1)) (.cons (.var 3) .nil))) (.nm 3) (.seq (.var 2)) (.bl true) [3]))) (.cons (.retE (.bl false)) .nil) .nil) (.cons (.ife (.not (.b1 .all (.lc (.cmp .lt (.ix (.var 3) (.int 0)) (.ix (.var 6) (.int 0))) (.tup [3, 6]) (.zip (.var 2) (.slLo (.var 2) (.int 1))) (.bl true) [3, 6]))) (.cons (.retE (.bl false)) .nil) .nil) (.cons (.retE (.cmp .eq (.b1 .sorted (.call 0 (.cons (.var 2) .nil))) (.call 1 (.cons (.b1 .len (.var 1)) .nil)))) .nil))))))
def cx_is_track : Ctx := ⟨defScope st_is_track, defScope st_is_track, ["value", "kinds", "joints", "joint", "part", "kind", "later"], [("ends_in", 1, 1), ("all_ends", 1, 1), ("is_stretch", 2, 3), ("is_word", 2, 1)], ["MOST_POINTS", "KINDS"], ["sorted", "len", "all", "zip", "isinstance", "tuple"]⟩
theorem ck_is_track : chkSs ir_is_track cx_is_track (defBody st_is_track) = true := by decide +kernel
def d_is_track : Den := run [d_ends_in, d_all_ends, d_is_stretch, d_is_word] [] [(.int 3), (.tup [(.str "lazy"), (.str "sprung"), (.str "turning")])] 7 ir_is_track
abbrev st_need_track : Stmt := top 29
def ir_need_track : Ss := (.cons (.ife (.not (.call 0 (.cons (.var 0) .nil))) (.cons .dead .nil) .nil) .nil)
def cx_need_track : Ctx := ⟨defScope st_need_track, defScope st_need_track, ["track"], [("is_track", 1, 4)], [], []⟩
theorem ck_need_track : chkSs ir_need_track cx_need_track (defBody st_need_track) = true := by decide +kernel
def d_need_track : Den := run [d_is_track] [] [] 1 ir_need_track
abbrev st_mirrored : Stmt := top 35
def ir_mirrored : Ss := (.cons (.expr (.call 1 (.cons (.var 0) .nil))) (.cons (.retE (.call 0 (.cons (.var 0) .nil))) .nil))
def cx_mirrored : Ctx := ⟨defScope st_mirrored, defScope st_mirrored, ["track"], [("mirror", 1, 2), ("need_track", 1, 5)], [], []⟩
theorem ck_mirrored : chkSs ir_mirrored cx_mirrored (defBody st_mirrored) = true := by decide +kernel
def d_mirrored : Den := run [d_mirror, d_need_track] [] [] 1 ir_mirrored
abbrev st_all_standings : Stmt := top 22
def ir_all_standings : Ss := (.cons (.setO 1 (.lst (.cons (.tup .nil) .nil))) (.cons (.for_ (.nm 2) (.seq (.ix (.var 0) (.int 0))) (.cons (.setO 1 (.lc2 (.bin .add (.var 3) (.tup (.cons (.var 4) .nil))) (.nm 3) (.seq (.var 1)) (.bl true) (.nm 4) (.seq (.gc 0)) (.bl true) [3, 4] [4])) .nil)) (.frz 1 (.cons (.retE (.var 1)) .nil))))
def cx_all_standings : Ctx := ⟨defScope st_all_standings, defScope st_all_standings, ["track", "found", "kind", "standing", "leg"], [], ["LEGS"], []⟩
theorem ck_all_standings : chkSs ir_all_standings cx_all_standings (defBody st_all_standings) = true := by decide +kernel
def d_all_standings : Den := run [] [] [(.tup [(.str "b"), (.str "c")])] 5 ir_all_standings
abbrev st_all_places : Stmt := top 23
def ir_all_places : Ss := (.cons (.retE (.lc2 (.tup (.cons (.var 1) (.cons (.var 2) .nil))) (.nm 1) (.seq (.call 0 (.cons (.b1 .len (.ix (.var 0) (.int 0))) .nil))) (.bl true) (.nm 2) (.seq (.call 1 (.cons (.var 0) .nil))) (.bl true) [1, 2] [2])) .nil)
def cx_all_places : Ctx := ⟨defScope st_all_places, defScope st_all_places, ["track", "end", "standing"], [("all_ends", 1, 1), ("all_standings", 1, 1)], [], ["len"]⟩
theorem ck_all_places : chkSs ir_all_places cx_all_places (defBody st_all_places) = true := by decide +kernel
def d_all_places : Den := run [d_all_ends, d_all_standings] [] [] 3 ir_all_places
abbrev st_index_of : Stmt := top 25
def ir_index_of : Ss := (.cons (.retE (.ix (.lc (.var 2) (.tup [2, 3]) (.enum (.ix (.var 0) (.int 1))) (.cmp .isin (.var 1) (.slHi (.var 3) (.int 2))) [2, 3]) (.int 0))) .nil)
def cx_index_of : Ctx := ⟨defScope st_index_of, defScope st_index_of, ["track", "end", "index", "joint"], [], [], ["enumerate"]⟩
theorem ck_index_of : chkSs ir_index_of cx_index_of (defBody st_index_of) = true := by decide +kernel
def d_index_of : Den := run [] [] [] 4 ir_index_of
abbrev st_along : Stmt := top 40
def ir_along : Ss := (.cons (.set 2 (.call 0 (.cons (.var 0) (.cons (.var 1) .nil)))) (.cons (.setT [3, 4, 5] (.ix (.ix (.var 0) (.int 1)) (.var 2))) (.cons (.ife (.isN (.var 4)) (.cons (.retE (.tup (.cons (.var 2) (.cons (.var 1) (.cons (.bin .mul (.int 2) (.var 5)) .nil))))) .nil) .nil) (.cons (.retE (.tup (.cons (.var 2) (.cons (.ite (.cmp .eq (.var 1) (.var 3)) (.var 4) (.var 3)) (.cons (.var 5) .nil))))) .nil))))
def cx_along : Ctx := ⟨defScope st_along, defScope st_along, ["track", "left", "index", "end", "other", "length"], [("index_of", 2, 1)], [], []⟩
theorem ck_along : chkSs ir_along cx_along (defBody st_along) = true := by decide +kernel
def d_along : Den := run [d_index_of] [] [] 6 ir_along
abbrev st_put : Stmt := top 38
def ir_put : Ss := (.cons (.retE (.bin .add (.bin .add (.slHi (.var 0) (.var 1)) (.tup (.cons (.var 2) .nil))) (.slLo (.var 0) (.bin .add (.var 1) (.int 1))))) .nil)
def cx_put : Ctx := ⟨defScope st_put, defScope st_put, ["standing", "point", "leg"], [], [], []⟩
theorem ck_put : chkSs ir_put cx_put (defBody st_put) = true := by decide +kernel
def d_put : Den := run [] [] [] 3 ir_put
abbrev st_over : Stmt := top 39
def ir_over : Ss := (.cons (.setT [4, 5] (.var 1)) (.cons (.set 3 (.ite (.cmp .eq (.var 5) (.str "a")) (.ix (.var 2) (.var 4)) (.var 5))) (.cons (.ife (.cmp .eq (.ix (.ix (.var 0) (.int 0)) (.var 4)) (.str "lazy")) (.cons (.set 2 (.call 0 (.cons (.var 2) (.cons (.var 4) (.cons (.var 3) .nil))))) .nil) (.cons (.ife (.cmp .eq (.ix (.ix (.var 0) (.int 0)) (.var 4)) (.str "turning")) (.cons (.set 2 (.call 0 (.cons (.var 2) (.cons (.var 4) (.cons (.call 1 (.cons (.var 3) .nil)) .nil))))) .nil) .nil) .nil)) (.cons (.retE (.tup (.cons (.tup (.cons (.var 4) (.cons (.ite (.cmp .eq (.var 5) (.str "a")) (.var 3) (.str "a")) .nil))) (.cons (.var 2) .nil)))) .nil))))
def cx_over : Ctx := ⟨defScope st_over, defScope st_over, ["track", "end", "standing", "used", "point", "leg"], [("put", 3, 1), ("other_leg", 1, 1)], [], []⟩
theorem ck_over : chkSs ir_over cx_over (defBody st_over) = true := by decide +kernel
def d_over : Den := run [d_put, d_other_leg] [] [] 6 ir_over
abbrev st_step : Stmt := top 41
def ir_step : Ss := (.cons (.setT [2, 3] (.call 1 (.cons (.var 0) (.cons (.ix (.var 1) (.int 0)) (.cons (.ix (.var 1) (.int 1)) .nil))))) (.cons (.setT [4, 5, 6] (.call 0 (.cons (.var 0) (.cons (.var 2) .nil)))) (.cons (.retE (.tup (.cons (.tup (.cons (.var 5) (.cons (.var 3) .nil))) (.cons (.var 4) (.cons (.var 6) .nil))))) .nil)))
def cx_step : Ctx := ⟨defScope st_step, defScope st_step, ["track", "place", "left", "standing", "index", "end", "ticks"], [("along", 2, 2), ("over", 3, 2)], [], []⟩
theorem ck_step : chkSs ir_step cx_step (defBody st_step) = true := by decide +kernel
def d_step : Den := run [d_along, d_over] [] [] 7 ir_step
abbrev st_passes_apart : Stmt := top 77
def ir_passes_apart : Ss := (.cons (.par [4, 5] (.cons (.var 2) (.cons (.var 2) .nil))) (.cons (.setO 3 .dnew) (.cons (.while_ 600 (.cmp .notin (.tup (.cons (.var 4) (.cons (.var 5) .nil))) (.var 3)) (.cons (.seti 3 (.tup (.cons (.var 4) (.cons (.var 5) .nil))) (.bl true)) (.cons (.setT [4, 6, 7] (.call 0 (.cons (.var 0) (.cons (.var 4) .nil)))) (.cons (.setT [5, 8, 9] (.call 0 (.cons (.var 1) (.cons (.var 5) .nil)))) (.cons (.ife (.or (.cmp .ne (.ix (.var 4) (.int 0)) (.ix (.var 5) (.int 0))) (.cmp .ne (.var 7) (.var 9))) (.cons (.retE (.b1 .len (.var 3))) .nil) .nil) .nil))))) (.cons (.retE .non) .nil))))
def cx_passes_apart : Ctx := ⟨defScope st_passes_apart, defScope st_passes_apart, ["one", "other", "place", "met", "mine", "their", "index", "ticks", "at", "chimes"], [("step", 2, 3)], [], ["len"]⟩
theorem ck_passes_apart : chkSs ir_passes_apart cx_passes_apart (defBody st_passes_apart) = true := by decide +kernel
def d_passes_apart : Den := run [d_step] [] [] 10 ir_passes_apart
abbrev st_parted_by : Stmt := top 78
def ir_parted_by : Ss := (.cons (.setO 2 (.lst .nil)) (.cons (.for_ (.tup [3, 4]) (.seq (.call 0 (.cons (.var 0) .nil))) (.cons (.set 5 (.call 1 (.cons (.var 0) (.cons (.var 1) (.cons (.tup (.cons (.var 3) (.cons (.var 4) .nil))) .nil))))) (.cons (.ife (.notN (.var 5)) (.cons (.app 2 (.tup (.cons (.var 5) (.cons (.var 3) (.cons (.var 4) .nil))))) .nil) .nil) .nil))) (.cons (.ife (.cmp .eq (.var 2) (.lst .nil)) (.cons (.retE .non) .nil) .nil) (.cons (.setT [5, 3, 4] (.b1 .min (.var 2))) (.cons (.retE (.tup (.cons (.var 3) (.cons (.var 4) (.cons (.var 5) .nil))))) .nil)))))
def cx_parted_by : Ctx := ⟨defScope st_parted_by, defScope st_parted_by, ["one", "other", "found", "end", "standing", "passes"], [("all_places", 1, 2), ("passes_apart", 3, 4)], [], ["min"]⟩
theorem ck_parted_by : chkSs ir_parted_by cx_parted_by (defBody st_parted_by) = true := by decide +kernel
def d_parted_by : Den := run [d_all_places, d_passes_apart] [] [] 6 ir_parted_by
abbrev st_need_two : Stmt := top 79
def ir_need_two : Ss := (.cons (.expr (.call 0 (.cons (.var 0) .nil))) (.cons (.expr (.call 0 (.cons (.var 1) .nil))) (.cons (.ife (.cmp .ne (.b1 .len (.ix (.var 0) (.int 0))) (.b1 .len (.ix (.var 1) (.int 0)))) (.cons .dead .nil) .nil) .nil)))
def cx_need_two : Ctx := ⟨defScope st_need_two, defScope st_need_two, ["one", "other"], [("need_track", 1, 5)], [], ["len"]⟩
theorem ck_need_two : chkSs ir_need_two cx_need_two (defBody st_need_two) = true := by decide +kernel
def d_need_two : Den := run [d_need_track] [] [] 2 ir_need_two
abbrev st_alike : Stmt := top 80
def ir_alike : Ss := (.cons (.expr (.call 1 (.cons (.var 0) (.cons (.var 1) .nil)))) (.cons (.retE (.isN (.call 0 (.cons (.var 0) (.cons (.var 1) .nil))))) .nil))
def cx_alike : Ctx := ⟨defScope st_alike, defScope st_alike, ["one", "other"], [("parted_by", 2, 5), ("need_two", 2, 6)], [], []⟩
theorem ck_alike : chkSs ir_alike cx_alike (defBody st_alike) = true := by decide +kernel
def d_alike : Den := run [d_parted_by, d_need_two] [] [] 2 ir_alike
abbrev st_turned : Stmt := top 64
def ir_turned : Ss := (.cons (.setT [2, 3] (.var 0)) (.cons (.retE (.tup (.cons (.var 2) (.cons (.call 0 (.cons (.var 3) (.cons (.var 1) (.cons (.call 1 (.cons (.ix (.var 3) (.var 1)) .nil)) .nil)))) .nil)))) .nil))
def cx_turned : Ctx := ⟨defScope st_turned, defScope st_turned, ["place", "point", "end", "standing"], [("put", 3, 1), ("other_leg", 1, 1)], [], []⟩
theorem ck_turned : chkSs ir_turned cx_turned (defBody st_turned) = true := by decide +kernel
def d_turned : Den := run [d_put, d_other_leg] [] [] 4 ir_turned
abbrev st_choices : Stmt := top 65
def ir_choices : Ss := (.cons (.setO 3 (.lst .nil)) (.cons (.for_ (.nm 4) (.seq (.bin .add (.tup (.cons (.neg (.int 1)) .nil)) (.var 1))) (.cons (.set 5 (.ite (.cmp .eq (.var 4) (.neg (.int 1))) (.var 2) (.call 1 (.cons (.var 2) (.cons (.var 4) .nil))))) (.cons (.setT [6, 7, 8] (.call 0 (.cons (.var 0) (.cons (.var 5) .nil)))) (.cons (.app 3 (.tup (.cons (.var 4) (.cons (.var 6) (.cons (.var 7) .nil))))) .nil)))) (.frz 3 (.cons (.retE (.var 3)) .nil))))
def cx_choices : Ctx := ⟨defScope st_choices, defScope st_choices, ["track", "hands", "place", "found", "point", "here", "there", "index", "ticks"], [("step", 2, 3), ("turned", 2, 2)], [], []⟩
theorem ck_choices : chkSs ir_choices cx_choices (defBody st_choices) = true := by decide +kernel
def d_choices : Den := run [d_step, d_turned] [] [] 9 ir_choices
abbrev st_can_stay : Stmt := top 68
def ir_can_stay : Ss := (.cons (.retE (.b1 .any (.lc (.and (.cmp .ne (.var 7) (.var 3)) (.cmp .isin (.var 6) (.var 4))) (.tup [5, 6, 7]) (.seq (.call 0 (.cons (.var 0) (.cons (.var 1) (.cons (.var 2) .nil))))) (.bl true) [5, 6, 7]))) .nil)
def cx_can_stay : Ctx := ⟨defScope st_can_stay, defScope st_can_stay, ["track", "hands", "place", "stretch", "good", "point", "there", "index"], [("choices", 3, 4)], [], ["any"]⟩
theorem ck_can_stay : chkSs ir_can_stay cx_can_stay (defBody st_can_stay) = true := by decide +kernel
def d_can_stay : Den := run [d_choices] [] [] 8 ir_can_stay
abbrev st_avoiding : Stmt := top 67
def ir_avoiding : Ss := (.cons (.setO 3 (.dc (.var 6) (.bl true) (.nm 6) (.seq (.call 1 (.cons (.var 0) .nil))) (.bl true) [6])) (.cons (.set 4 (.bl true)) (.cons (.while_ 100 (.var 4) (.frz 3 (.cons (.setO 5 (.lc (.var 6) (.nm 6) (.keys (.var 3)) (.not (.call 0 (.cons (.var 0) (.cons (.var 1) (.cons (.var 6) (.cons (.var 2) (.cons (.var 3) .nil))))))) [6])) (.cons (.set 4 (.cmp .ne (.var 5) (.lst .nil))) (.cons (.setO 3 (.dc (.var 6) (.bl true) (.nm 6) (.keys (.var 3)) (.cmp .notin (.var 6) (.var 5)) [6])) .nil))))) (.frz 3 (.cons (.retE (.var 3)) .nil)))))
def cx_avoiding : Ctx := ⟨defScope st_avoiding, defScope st_avoiding, ["track", "hands", "stretch", "found", "going", "bad", "place"], [("can_stay", 5, 5), ("all_places", 1, 2)], [], []⟩
theorem ck_avoiding : chkSs ir_avoiding cx_avoiding (defBody st_avoiding) = true := by decide +kernel
def d_avoiding : Den := run [d_can_stay, d_all_places] [] [] 7 ir_avoiding
abbrev st_need_stretch : Stmt := top 33
def ir_need_stretch : Ss := (.cons (.ife (.not (.call 0 (.cons (.var 1) (.cons (.int 0) (.cons (.bin .sub (.b1 .len (.ix (.var 0) (.int 1))) (.int 1)) .nil))))) (.cons .dead .nil) .nil) .nil)
def cx_need_stretch : Ctx := ⟨defScope st_need_stretch, defScope st_need_stretch, ["track", "stretch"], [("is_int", 3, 1)], [], ["len"]⟩
theorem ck_need_stretch : chkSs ir_need_stretch cx_need_stretch (defBody st_need_stretch) = true := by decide +kernel
def d_need_stretch : Den := run [d_is_int] [] [] 2 ir_need_stretch
abbrev st_need_hands : Stmt := top 70
def ir_need_hands : Ss := (.cons (.ife (.or (.not (.isinst .tuple (.var 1))) (.not (.b1 .all (.lc (.call 0 (.cons (.var 2) (.cons (.int 0) (.cons (.bin .sub (.b1 .len (.ix (.var 0) (.int 0))) (.int 1)) .nil)))) (.nm 2) (.seq (.var 1)) (.bl true) [2])))) (.cons .dead .nil) .nil) (.cons (.ife (.not (.b1 .all (.lc (.cmp .lt (.var 2) (.var 3)) (.tup [2, 3]) (.zip (.var 1) (.slLo (.var 1) (.int 1))) (.bl true) [2, 3]))) (.cons .dead .nil) .nil) .nil))
def cx_need_hands : Ctx := ⟨defScope st_need_hands, defScope st_need_hands, ["track", "hands", "point", "later"], [("is_int", 3, 1)], [], ["all", "zip", "isinstance", "tuple", "len"]⟩
theorem ck_need_hands : chkSs ir_need_hands cx_need_hands (defBody st_need_hands) = true := by decide +kernel
def d_need_hands : Den := run [d_is_int] [] [] 4 ir_need_hands
abbrev st_can_avoid : Stmt := top 74
def ir_can_avoid : Ss := (.cons (.expr (.call 3 (.cons (.var 0) .nil))) (.cons (.expr (.call 2 (.cons (.var 0) (.cons (.var 1) .nil)))) (.cons (.expr (.call 1 (.cons (.var 0) (.cons (.var 2) .nil)))) (.cons (.retE (.b1 .sorted (.call 0 (.cons (.var 0) (.cons (.var 1) (.cons (.var 2) .nil)))))) .nil))))
def cx_can_avoid : Ctx := ⟨defScope st_can_avoid, defScope st_can_avoid, ["track", "hands", "stretch"], [("avoiding", 3, 6), ("need_stretch", 2, 2), ("need_hands", 2, 2), ("need_track", 1, 5)], [], ["sorted"]⟩
theorem ck_can_avoid : chkSs ir_can_avoid cx_can_avoid (defBody st_can_avoid) = true := by decide +kernel
def d_can_avoid : Den := run [d_avoiding, d_need_stretch, d_need_hands, d_need_track] [] [] 3 ir_can_avoid
abbrev st_lots_of : Stmt := top 69
def ir_lots_of : Ss := (.cons (.setO 2 (.lst (.cons (.tup .nil) .nil))) (.cons (.for_ (.nm 3) (.range1 (.var 1)) (.cons (.setO 2 (.lc2 (.bin .add (.var 4) (.tup (.cons (.var 5) .nil))) (.nm 4) (.seq (.var 2)) (.bl true) (.nm 5) (.range1 (.var 0)) (.or (.cmp .eq (.var 4) (.tup .nil)) (.cmp .lt (.ix (.var 4) (.neg (.int 1))) (.var 5))) [4, 5] [5])) .nil)) (.frz 2 (.cons (.retE (.var 2)) .nil))))
def cx_lots_of : Ctx := ⟨defScope st_lots_of, defScope st_lots_of, ["many", "size", "found", "turn", "lot", "point"], [], [], ["range"]⟩
theorem ck_lots_of : chkSs ir_lots_of cx_lots_of (defBody st_lots_of) = true := by decide +kernel
def d_lots_of : Den := run [] [] [] 6 ir_lots_of
abbrev st_row_to : Stmt := top 66
def ir_row_to : Ss := (.cons (.setO 4 (.d1 (.var 2) (.tup (.cons (.int 0) (.cons (.int 0) (.cons (.tup .nil) .nil)))))) (.cons (.setO 5 .dnew) (.cons (.setO 6 (.lst .nil)) (.cons (.while_ 400 (.bl true) (.cons (.setLcO 7 4 (.bin .add (.var 15) (.tup (.cons (.var 11) .nil))) (.tup [11, 15]) (.cmp .notin (.var 11) (.var 5)) [11, 15]) (.cons (.ife (.cmp .eq (.var 7) (.lst .nil)) (.cons (.retE (.ite (.cmp .ne (.var 6) (.lst .nil)) (.ix (.b1 .min (.var 6)) (.int 2)) .non)) .nil) .nil) (.cons (.setT [8, 9, 10, 11] (.b1 .min (.var 7))) (.cons (.seti 5 (.var 11) (.bl true)) (.cons (.for_ (.tup [12, 13, 14]) (.seq (.call 0 (.cons (.var 0) (.cons (.var 1) (.cons (.var 11) .nil))))) (.cons (.set 15 (.tup (.cons (.bin .add (.var 8) (.b1 .int (.cmp .ne (.var 12) (.neg (.int 1))))) (.cons (.bin .add (.var 9) (.int 1)) (.cons (.bin .add (.var 10) (.tup (.cons (.var 12) .nil))) .nil))))) (.cons (.ife (.cmp .eq (.var 14) (.var 3)) (.cons (.app 6 (.var 15)) .nil) (.cons (.ife (.or (.cmp .notin (.var 13) (.var 4)) (.cmp .lt (.slHi (.var 15) (.int 2)) (.slHi (.ix (.var 4) (.var 13)) (.int 2)))) (.cons (.seti 4 (.var 13) (.var 15)) .nil) .nil) .nil)) .nil))) .nil)))))) .nil))))
def cx_row_to : Ctx := ⟨defScope st_row_to, defScope st_row_to, ["track", "hands", "place", "stretch", "best", "done", "goals", "left", "turnings", "items", "row", "here", "point", "there", "index", "worth"], [("choices", 3, 4)], [], ["int", "min"]⟩
theorem ck_row_to : chkSs ir_row_to cx_row_to (defBody st_row_to) = true := by decide +kernel
def d_row_to : Den := run [d_choices] [] [] 16 ir_row_to
abbrev st_least_hands : Stmt := top 75
def ir_least_hands : Ss := (.cons (.expr (.call 4 (.cons (.var 0) .nil))) (.cons (.expr (.call 3 (.cons (.var 0) (.cons (.var 1) .nil)))) (.cons (.set 2 (.b1 .len (.ix (.var 0) (.int 0)))) (.cons (.for_ (.nm 3) (.range1 (.bin .add (.var 2) (.int 1))) (.cons (.setO 4 (.lst .nil)) (.cons (.for_ (.nm 5) (.seq (.call 0 (.cons (.var 2) (.cons (.var 3) .nil)))) (.cons (.ife (.b1 .all (.lc (.notN (.call 1 (.cons (.var 0) (.cons (.var 5) (.cons (.var 6) (.cons (.var 1) .nil)))))) (.nm 6) (.seq (.call 2 (.cons (.var 0) .nil))) (.bl true) [6])) (.cons (.app 4 (.var 5)) .nil) .nil) .nil)) (.cons (.ife (.cmp .ne (.var 4) (.lst .nil)) (.frz 4 (.cons (.retE (.var 4)) .nil)) .nil) .nil)))) (.cons (.retE (.lst .nil)) .nil)))))
def cx_least_hands : Ctx := ⟨defScope st_least_hands, defScope st_least_hands, ["track", "stretch", "many", "size", "found", "hands", "place"], [("lots_of", 2, 1), ("row_to", 4, 5), ("all_places", 1, 2), ("need_stretch", 2, 2), ("need_track", 1, 5)], [], ["range", "all", "len"]⟩
theorem ck_least_hands : chkSs ir_least_hands cx_least_hands (defBody st_least_hands) = true := by decide +kernel
def d_least_hands : Den := run [d_lots_of, d_row_to, d_all_places, d_need_stretch, d_need_track] [] [] 7 ir_least_hands
abbrev st_course : Stmt := top 47
def ir_course : Ss := (.cons (.setO 2 .dnew) (.cons (.setO 3 (.lst .nil)) (.cons (.while_ 200 (.cmp .notin (.var 1) (.var 2)) (.cons (.seti 2 (.var 1) (.b1 .len (.var 3))) (.cons (.setT [4, 5, 6] (.call 0 (.cons (.var 0) (.cons (.var 1) .nil)))) (.cons (.app 3 (.tup (.cons (.var 1) (.cons (.var 5) (.cons (.var 6) .nil))))) (.cons (.set 1 (.var 4)) .nil))))) (.frz 3 (.cons (.retE (.tup (.cons (.var 3) (.cons (.ix (.var 2) (.var 1)) .nil)))) .nil)))))
def cx_course : Ctx := ⟨defScope st_course, defScope st_course, ["track", "place", "met", "rows", "there", "index", "ticks"], [("step", 2, 3)], [], ["len"]⟩
theorem ck_course : chkSs ir_course cx_course (defBody st_course) = true := by decide +kernel
def d_course : Den := run [d_step] [] [] 7 ir_course
abbrev st_gone_for_ever : Stmt := top 48
def ir_gone_for_ever : Ss := (.cons (.setT [2, 3] (.call 0 (.cons (.var 0) (.cons (.var 1) .nil)))) (.cons (.retE (.b1 .sortedSet (.lc (.var 5) (.tup [4, 5, 6]) (.seq (.slLo (.var 2) (.var 3))) (.bl true) [4, 5, 6]))) .nil))
def cx_gone_for_ever : Ctx := ⟨defScope st_gone_for_ever, defScope st_gone_for_ever, ["track", "place", "rows", "ahead", "here", "index", "ticks"], [("course", 2, 4)], [], ["sorted", "set"]⟩
theorem ck_gone_for_ever : chkSs ir_gone_for_ever cx_gone_for_ever (defBody st_gone_for_ever) = true := by decide +kernel
def d_gone_for_ever : Den := run [d_course] [] [] 7 ir_gone_for_ever
abbrev st_gone_ever : Stmt := top 49
def ir_gone_ever : Ss := (.cons (.retE (.b1 .sortedSet (.lc (.var 3) (.tup [2, 3, 4]) (.seq (.ix (.call 0 (.cons (.var 0) (.cons (.var 1) .nil))) (.int 0))) (.bl true) [2, 3, 4]))) .nil)
def cx_gone_ever : Ctx := ⟨defScope st_gone_ever, defScope st_gone_ever, ["track", "place", "here", "index", "ticks"], [("course", 2, 4)], [], ["sorted", "set"]⟩
theorem ck_gone_ever : chkSs ir_gone_ever cx_gone_ever (defBody st_gone_ever) = true := by decide +kernel
def d_gone_ever : Den := run [d_course] [] [] 5 ir_gone_ever
abbrev st_is_so : Stmt := top 84
def ir_is_so : Ss := (.cons (.ife (.cmp .eq (.var 2) (.str "comes")) (.cons (.retE (.b1 .all (.lc (.cmp .isin (.var 1) (.call 2 (.cons (.var 0) (.cons (.var 4) .nil)))) (.nm 4) (.seq (.call 1 (.cons (.var 0) .nil))) (.bl true) [4]))) .nil) .nil) (.cons (.setO 3 (.lc (.cmp .isin (.var 1) (.call 0 (.cons (.var 0) (.cons (.var 4) .nil)))) (.nm 4) (.seq (.call 1 (.cons (.var 0) .nil))) (.bl true) [4])) (.cons (.retE (.ite (.cmp .eq (.var 2) (.str "ever")) (.b1 .all (.var 3)) (.not (.b1 .any (.var 3))))) .nil)))
def cx_is_so : Ctx := ⟨defScope st_is_so, defScope st_is_so, ["track", "stretch", "word", "late", "place"], [("gone_for_ever", 2, 5), ("all_places", 1, 2), ("gone_ever", 2, 5)], [], ["all", "any"]⟩
theorem ck_is_so : chkSs ir_is_so cx_is_so (defBody st_is_so) = true := by decide +kernel
def d_is_so : Den := run [d_gone_for_ever, d_all_places, d_gone_ever] [] [] 5 ir_is_so
abbrev st_need_wish : Stmt := top 85
def ir_need_wish : Ss := (.cons (.expr (.call 2 (.cons (.var 0) .nil))) (.cons (.expr (.call 1 (.cons (.var 0) (.cons (.var 1) .nil)))) (.cons (.ife (.not (.call 0 (.cons (.var 2) (.cons (.gc 0) .nil)))) (.cons .dead .nil) .nil) .nil)))
def cx_need_wish : Ctx := ⟨defScope st_need_wish, defScope st_need_wish, ["track", "stretch", "word"], [("is_word", 2, 1), ("need_stretch", 2, 2), ("need_track", 1, 5)], ["WORDS"], []⟩
theorem ck_need_wish : chkSs ir_need_wish cx_need_wish (defBody st_need_wish) = true := by decide +kernel
def d_need_wish : Den := run [d_is_word, d_need_stretch, d_need_track] [] [(.tup [(.str "comes"), (.str "ever"), (.str "rests")])] 3 ir_need_wish
abbrev st_holds : Stmt := top 86
def ir_holds : Ss := (.cons (.expr (.call 1 (.cons (.var 0) (.cons (.var 1) (.cons (.var 2) .nil))))) (.cons (.retE (.call 0 (.cons (.var 0) (.cons (.var 1) (.cons (.var 2) .nil))))) .nil))
def cx_holds : Ctx := ⟨defScope st_holds, defScope st_holds, ["track", "stretch", "word"], [("is_so", 3, 6), ("need_wish", 3, 6)], [], []⟩
theorem ck_holds : chkSs ir_holds cx_holds (defBody st_holds) = true := by decide +kernel
def d_holds : Den := run [d_is_so, d_need_wish] [] [] 3 ir_holds
abbrev st_parting : Stmt := top 81
def ir_parting : Ss := (.cons (.expr (.call 1 (.cons (.var 0) (.cons (.var 1) .nil)))) (.cons (.retE (.call 0 (.cons (.var 0) (.cons (.var 1) .nil)))) .nil))
def cx_parting : Ctx := ⟨defScope st_parting, defScope st_parting, ["one", "other"], [("parted_by", 2, 5), ("need_two", 2, 6)], [], []⟩
theorem ck_parting : chkSs ir_parting cx_parting (defBody st_parting) = true := by decide +kernel
def d_parting : Den := run [d_parted_by, d_need_two] [] [] 2 ir_parting
abbrev st_passes_to : Stmt := top 58
def ir_passes_to : Ss := (.cons (.setO 3 (.lc (.var 5) (.tup [4, 5, 6]) (.seq (.ix (.call 0 (.cons (.var 0) (.cons (.var 1) .nil))) (.int 0))) (.bl true) [4, 5, 6])) (.cons (.retE (.ite (.cmp .isin (.var 2) (.var 3)) (.bin .add (.idx (.var 3) (.var 2)) (.int 1)) .non)) .nil))
def cx_passes_to : Ctx := ⟨defScope st_passes_to, defScope st_passes_to, ["track", "place", "stretch", "found", "here", "index", "ticks"], [("course", 2, 4)], [], []⟩
theorem ck_passes_to : chkSs ir_passes_to cx_passes_to (defBody st_passes_to) = true := by decide +kernel
def d_passes_to : Den := run [d_course] [] [] 7 ir_passes_to
abbrev st_need_end : Stmt := top 30
def ir_need_end : Ss := (.cons (.ife (.not (.call 0 (.cons (.b1 .len (.ix (.var 0) (.int 0))) (.cons (.var 1) .nil)))) (.cons .dead .nil) .nil) .nil)
def cx_need_end : Ctx := ⟨defScope st_need_end, defScope st_need_end, ["track", "end"], [("is_end_of", 2, 2)], [], ["len"]⟩
theorem ck_need_end : chkSs ir_need_end cx_need_end (defBody st_need_end) = true := by decide +kernel
def d_need_end : Den := run [d_is_end_of] [] [] 2 ir_need_end
abbrev st_need_both : Stmt := top 59
def ir_need_both : Ss := (.cons (.expr (.call 1 (.cons (.var 0) .nil))) (.cons (.expr (.call 0 (.cons (.var 0) (.cons (.var 1) .nil)))) .nil))
def cx_need_both : Ctx := ⟨defScope st_need_both, defScope st_need_both, ["track", "end"], [("need_end", 2, 3), ("need_track", 1, 5)], [], []⟩
theorem ck_need_both : chkSs ir_need_both cx_need_both (defBody st_need_both) = true := by decide +kernel
def d_need_both : Den := run [d_need_end, d_need_track] [] [] 2 ir_need_both
abbrev st_latest : Stmt := top 62
def ir_latest : Ss := (.cons (.expr (.call 3 (.cons (.var 0) (.cons (.var 1) .nil)))) (.cons (.expr (.call 2 (.cons (.var 0) (.cons (.var 2) .nil)))) (.cons (.setO 3 (.lc (.call 0 (.cons (.var 0) (.cons (.tup (.cons (.var 1) (.cons (.var 4) .nil))) (.cons (.var 2) .nil)))) (.nm 4) (.seq (.call 1 (.cons (.var 0) .nil))) (.bl true) [4])) (.cons (.retE (.ite (.cmp .isin .non (.var 3)) .non (.b1 .max (.var 3)))) .nil))))
def cx_latest : Ctx := ⟨defScope st_latest, defScope st_latest, ["track", "end", "stretch", "found", "standing"], [("passes_to", 3, 5), ("all_standings", 1, 1), ("need_stretch", 2, 2), ("need_both", 2, 6)], [], ["max"]⟩
theorem ck_latest : chkSs ir_latest cx_latest (defBody st_latest) = true := by decide +kernel
def d_latest : Den := run [d_passes_to, d_all_standings, d_need_stretch, d_need_both] [] [] 5 ir_latest
abbrev st_common : Stmt := top 57
def ir_common : Ss := (.cons (.retE (.lc (.var 3) (.nm 3) (.range1 (.b1 .len (.ix (.var 0) (.int 1)))) (.b1 .all (.lc (.cmp .isin (.var 3) (.var 4)) (.nm 4) (.seq (.var 2)) (.bl true) [4])) [3])) .nil)
def cx_common : Ctx := ⟨defScope st_common, defScope st_common, ["track", "end", "rows", "index", "row"], [], [], ["range", "len", "all"]⟩
theorem ck_common : chkSs ir_common cx_common (defBody st_common) = true := by decide +kernel
def d_common : Den := run [] [] [] 5 ir_common
abbrev st_sure_ever : Stmt := top 61
def ir_sure_ever : Ss := (.cons (.expr (.call 3 (.cons (.var 0) (.cons (.var 1) .nil)))) (.cons (.retE (.call 0 (.cons (.var 0) (.cons (.var 1) (.cons (.lc (.call 1 (.cons (.var 0) (.cons (.tup (.cons (.var 1) (.cons (.var 2) .nil))) .nil))) (.nm 2) (.seq (.call 2 (.cons (.var 0) .nil))) (.bl true) [2]) .nil))))) .nil))
def cx_sure_ever : Ctx := ⟨defScope st_sure_ever, defScope st_sure_ever, ["track", "end", "standing"], [("common", 3, 1), ("gone_for_ever", 2, 5), ("all_standings", 1, 1), ("need_both", 2, 6)], [], []⟩
theorem ck_sure_ever : chkSs ir_sure_ever cx_sure_ever (defBody st_sure_ever) = true := by decide +kernel
def d_sure_ever : Den := run [d_common, d_gone_for_ever, d_all_standings, d_need_both] [] [] 3 ir_sure_ever
abbrev st_are_apart : Stmt := top 91
def ir_are_apart : Ss := (.cons (.set 3 (.call 0 (.cons (.var 0) (.cons (.ix (.var 1) (.int 0)) .nil)))) (.cons (.ife (.cmp .ne (.var 3) (.call 0 (.cons (.var 0) (.cons (.ix (.var 2) (.int 0)) .nil)))) (.cons (.retE (.bl true)) .nil) .nil) (.cons (.retE (.and (.notN (.ix (.ix (.ix (.var 0) (.int 1)) (.var 3)) (.int 1))) (.cmp .eq (.ix (.var 1) (.int 0)) (.ix (.var 2) (.int 0))))) .nil)))
def cx_are_apart : Ctx := ⟨defScope st_are_apart, defScope st_are_apart, ["track", "one", "other", "index"], [("index_of", 2, 1)], [], []⟩
theorem ck_are_apart : chkSs ir_are_apart cx_are_apart (defBody st_are_apart) = true := by decide +kernel
def d_are_apart : Den := run [d_index_of] [] [] 4 ir_are_apart
abbrev st_moved : Stmt := top 92
def ir_moved : Ss := (.cons (.ife (.cmp .gt (.ix (.var 1) (.int 1)) (.int 0)) (.cons (.retE (.tup (.cons (.var 1) (.cons (.var 2) .nil)))) .nil) .nil) (.cons (.setT [3, 2] (.call 1 (.cons (.var 0) (.cons (.ix (.var 1) (.int 0)) (.cons (.var 2) .nil))))) (.cons (.setT [4, 5, 6] (.call 0 (.cons (.var 0) (.cons (.var 3) .nil)))) (.cons (.retE (.tup (.cons (.tup (.cons (.var 5) (.cons (.var 6) .nil))) (.cons (.var 2) .nil)))) .nil))))
def cx_moved : Ctx := ⟨defScope st_moved, defScope st_moved, ["track", "train", "standing", "left", "index", "end", "ticks"], [("along", 2, 2), ("over", 3, 2)], [], []⟩
theorem ck_moved : chkSs ir_moved cx_moved (defBody st_moved) = true := by decide +kernel
def d_moved : Den := run [d_along, d_over] [] [] 7 ir_moved
abbrev st_first_tick : Stmt := top 93
def ir_first_tick : Ss := (.cons (.parD 4 5 (.int 0)) (.cons (.while_ 4000 (.cmp .notin (.tup (.cons (.var 1) (.cons (.var 2) (.cons (.var 3) .nil)))) (.var 4)) (.cons (.seti 4 (.tup (.cons (.var 1) (.cons (.var 2) (.cons (.var 3) .nil)))) (.bl true)) (.cons (.ife (.or (.not (.call 0 (.cons (.var 0) (.cons (.var 1) (.cons (.var 2) .nil))))) (.and (.cmp .eq (.ix (.var 1) (.int 1)) (.int 0)) (.and (.cmp .eq (.ix (.var 2) (.int 1)) (.int 0)) (.cmp .eq (.ix (.ix (.var 1) (.int 0)) (.int 0)) (.ix (.ix (.var 2) (.int 0)) (.int 0)))))) (.cons (.retE (.var 5)) .nil) .nil) (.cons (.setT [1, 3] (.call 1 (.cons (.var 0) (.cons (.var 1) (.cons (.var 3) .nil))))) (.cons (.setT [2, 3] (.call 1 (.cons (.var 0) (.cons (.var 2) (.cons (.var 3) .nil))))) (.cons (.ife (.not (.call 0 (.cons (.var 0) (.cons (.var 1) (.cons (.var 2) .nil))))) (.cons (.retE (.var 5)) .nil) .nil) (.cons (.par [1, 2, 5] (.cons (.tup (.cons (.ix (.var 1) (.int 0)) (.cons (.bin .sub (.ix (.var 1) (.int 1)) (.int 1)) .nil))) (.cons (.tup (.cons (.ix (.var 2) (.int 0)) (.cons (.bin .sub (.ix (.var 2) (.int 1)) (.int 1)) .nil))) (.cons (.bin .add (.var 5) (.int 1)) .nil)))) .nil))))))) (.cons (.retE .non) .nil)))
def cx_first_tick : Ctx := ⟨defScope st_first_tick, defScope st_first_tick, ["track", "one", "other", "standing", "met", "tick"], [("are_apart", 3, 2), ("moved", 3, 3)], [], []⟩
theorem ck_first_tick : chkSs ir_first_tick cx_first_tick (defBody st_first_tick) = true := by decide +kernel
def d_first_tick : Den := run [d_are_apart, d_moved] [] [] 6 ir_first_tick
abbrev st_all_safe : Stmt := top 96
def ir_all_safe : Ss := (.cons (.retE (.lc (.var 3) (.nm 3) (.seq (.call 0 (.cons (.var 0) .nil))) (.isN (.call 1 (.cons (.var 0) (.cons (.var 1) (.cons (.var 2) (.cons (.var 3) .nil)))))) [3])) .nil)
def cx_all_safe : Ctx := ⟨defScope st_all_safe, defScope st_all_safe, ["track", "one", "other", "standing"], [("all_standings", 1, 1), ("first_tick", 4, 4)], [], []⟩
theorem ck_all_safe : chkSs ir_all_safe cx_all_safe (defBody st_all_safe) = true := by decide +kernel
def d_all_safe : Den := run [d_all_standings, d_first_tick] [] [] 4 ir_all_safe
abbrev st_safe_pairs : Stmt := top 98
def ir_safe_pairs : Ss := (.cons (.expr (.call 3 (.cons (.var 0) .nil))) (.cons (.par [2, 3] (.cons (.call 2 (.cons (.b1 .len (.ix (.var 0) (.int 0))) .nil)) (.cons (.b1 .len (.call 1 (.cons (.var 0) .nil))) .nil))) (.cons (.setO 1 (.lst .nil)) (.cons (.for_ (.tup [4, 5]) (.enum (.var 2)) (.cons (.for_ (.nm 6) (.seq (.slLo (.var 2) (.bin .add (.var 4) (.int 1)))) (.cons (.ife (.cmp .eq (.b1 .len (.call 0 (.cons (.var 0) (.cons (.tup (.cons (.var 5) (.cons (.int 0) .nil))) (.cons (.tup (.cons (.var 6) (.cons (.int 0) .nil))) .nil))))) (.var 3)) (.cons (.app 1 (.tup (.cons (.var 5) (.cons (.var 6) .nil)))) .nil) .nil) .nil)) .nil)) (.frz 1 (.cons (.retE (.var 1)) .nil))))))
def cx_safe_pairs : Ctx := ⟨defScope st_safe_pairs, defScope st_safe_pairs, ["track", "found", "ends", "many", "at", "end", "other"], [("all_safe", 3, 5), ("all_standings", 1, 1), ("all_ends", 1, 1), ("need_track", 1, 5)], [], ["enumerate", "len"]⟩
theorem ck_safe_pairs : chkSs ir_safe_pairs cx_safe_pairs (defBody st_safe_pairs) = true := by decide +kernel
def d_safe_pairs : Den := run [d_all_safe, d_all_standings, d_all_ends, d_need_track] [] [] 7 ir_safe_pairs
abbrev st_gardens : Stmt := top 55
def ir_gardens : Ss := (.cons (.expr (.call 2 (.cons (.var 0) .nil))) (.cons (.setO 1 (.dc (.ix (.call 1 (.cons (.var 0) (.cons (.var 2) .nil))) (.int 0)) (.bl true) (.nm 2) (.seq (.call 0 (.cons (.var 0) .nil))) (.bl true) [2])) (.cons (.retE (.lc (.var 2) (.nm 2) (.seq (.call 0 (.cons (.var 0) .nil))) (.cmp .notin (.var 2) (.var 1)) [2])) .nil)))
def cx_gardens : Ctx := ⟨defScope st_gardens, defScope st_gardens, ["track", "come", "place"], [("all_places", 1, 2), ("step", 2, 3), ("need_track", 1, 5)], [], []⟩
theorem ck_gardens : chkSs ir_gardens cx_gardens (defBody st_gardens) = true := by decide +kernel
def d_gardens : Den := run [d_all_places, d_step, d_need_track] [] [] 3 ir_gardens
abbrev st_rings : Stmt := top 54
def ir_rings : Ss := (.cons (.expr (.call 2 (.cons (.var 0) .nil))) (.cons (.setO 1 .dnew) (.cons (.for_ (.nm 2) (.seq (.call 0 (.cons (.var 0) .nil))) (.cons (.setT [5, 6] (.call 1 (.cons (.var 0) (.cons (.var 2) .nil)))) (.cons (.set 3 (.b1 .tuplex (.lc (.ix (.var 7) (.int 0)) (.nm 7) (.seq (.slLo (.var 5) (.var 6))) (.bl true) [7]))) (.cons (.set 4 (.idx (.var 3) (.b1 .min (.var 3)))) (.cons (.seti 1 (.bin .add (.slLo (.var 3) (.var 4)) (.slHi (.var 3) (.var 4))) (.bl true)) .nil))))) (.cons (.retE (.b1 .sorted (.var 1))) .nil))))
def cx_rings : Ctx := ⟨defScope st_rings, defScope st_rings, ["track", "found", "place", "places", "at", "rows", "ahead", "row"], [("all_places", 1, 2), ("course", 2, 4), ("need_track", 1, 5)], [], ["sorted", "min", "tuple"]⟩
theorem ck_rings : chkSs ir_rings cx_rings (defBody st_rings) = true := by decide +kernel
def d_rings : Den := run [d_all_places, d_course, d_need_track] [] [] 8 ir_rings
abbrev st_steps : Stmt := top 42
def ir_steps : Ss := (.cons (.setO 3 (.lst .nil)) (.cons (.for_ (.nm 4) (.range1 (.var 2)) (.cons (.set 5 (.call 0 (.cons (.var 0) (.cons (.var 1) .nil)))) (.cons (.app 3 (.var 5)) (.cons (.set 1 (.ix (.var 5) (.int 0))) .nil)))) (.frz 3 (.cons (.retE (.var 3)) .nil))))
def cx_steps : Ctx := ⟨defScope st_steps, defScope st_steps, ["track", "place", "many", "found", "turn", "there"], [("step", 2, 3)], [], ["range"]⟩
theorem ck_steps : chkSs ir_steps cx_steps (defBody st_steps) = true := by decide +kernel
def d_steps : Den := run [d_step] [] [] 6 ir_steps
abbrev st_need_number : Stmt := top 34
def ir_need_number : Ss := (.cons (.ife (.not (.call 0 (.cons (.var 0) (.cons (.var 1) (.cons (.var 2) .nil))))) (.cons .dead .nil) .nil) .nil)
def cx_need_number : Ctx := ⟨defScope st_need_number, defScope st_need_number, ["number", "low", "high"], [("is_int", 3, 1)], [], []⟩
theorem ck_need_number : chkSs ir_need_number cx_need_number (defBody st_need_number) = true := by decide +kernel
def d_need_number : Den := run [d_is_int] [] [] 3 ir_need_number
abbrev st_is_standing_of : Stmt := top 24
def ir_is_standing_of : Ss := (.cons (.retE (.and (.isinst .tuple (.var 1)) (.and (.cmp .eq (.b1 .len (.var 1)) (.b1 .len (.ix (.var 0) (.int 0)))) (.b1 .all (.lc (.call 0 (.cons (.var 2) (.cons (.gc 0) .nil))) (.nm 2) (.seq (.var 1)) (.bl true) [2]))))) .nil)
def cx_is_standing_of : Ctx := ⟨defScope st_is_standing_of, defScope st_is_standing_of, ["track", "value", "leg"], [("is_word", 2, 1)], ["LEGS"], ["isinstance", "tuple", "len", "all"]⟩
theorem ck_is_standing_of : chkSs ir_is_standing_of cx_is_standing_of (defBody st_is_standing_of) = true := by decide +kernel
def d_is_standing_of : Den := run [d_is_word] [] [(.tup [(.str "b"), (.str "c")])] 3 ir_is_standing_of
abbrev st_need_standing : Stmt := top 31
def ir_need_standing : Ss := (.cons (.ife (.not (.call 0 (.cons (.var 0) (.cons (.var 1) .nil)))) (.cons .dead .nil) .nil) .nil)
def cx_need_standing : Ctx := ⟨defScope st_need_standing, defScope st_need_standing, ["track", "standing"], [("is_standing_of", 2, 2)], [], []⟩
theorem ck_need_standing : chkSs ir_need_standing cx_need_standing (defBody st_need_standing) = true := by decide +kernel
def d_need_standing : Den := run [d_is_standing_of] [] [] 2 ir_need_standing
abbrev st_need_place : Stmt := top 32
def ir_need_place : Ss := (.cons (.expr (.call 2 (.cons (.var 0) .nil))) (.cons (.expr (.call 1 (.cons (.var 0) (.cons (.var 1) .nil)))) (.cons (.expr (.call 0 (.cons (.var 0) (.cons (.var 2) .nil)))) .nil)))
def cx_need_place : Ctx := ⟨defScope st_need_place, defScope st_need_place, ["track", "end", "standing"], [("need_standing", 2, 3), ("need_end", 2, 3), ("need_track", 1, 5)], [], []⟩
theorem ck_need_place : chkSs ir_need_place cx_need_place (defBody st_need_place) = true := by decide +kernel
def d_need_place : Den := run [d_need_standing, d_need_end, d_need_track] [] [] 3 ir_need_place
abbrev st_ends_of : Stmt := top 44
def ir_ends_of : Ss := (.cons (.expr (.call 2 (.cons (.var 0) (.cons (.var 1) (.cons (.var 2) .nil))))) (.cons (.expr (.call 1 (.cons (.var 3) (.cons (.int 0) (.cons (.gc 0) .nil))))) (.cons (.retE (.slHi (.bin .add (.lst (.cons (.var 1) .nil)) (.lc (.ix (.var 4) (.int 0)) (.tup [4, 5, 6]) (.seq (.call 0 (.cons (.var 0) (.cons (.tup (.cons (.var 1) (.cons (.var 2) .nil))) (.cons (.var 3) .nil))))) (.bl true) [4, 5, 6])) (.var 3))) .nil)))
def cx_ends_of : Ctx := ⟨defScope st_ends_of, defScope st_ends_of, ["track", "end", "standing", "many", "there", "index", "ticks"], [("steps", 3, 4), ("need_number", 3, 2), ("need_place", 3, 6)], ["MOST_PASSES"], []⟩
theorem ck_ends_of : chkSs ir_ends_of cx_ends_of (defBody st_ends_of) = true := by decide +kernel
def d_ends_of : Den := run [d_steps, d_need_number, d_need_place] [] [(.int 60)] 7 ir_ends_of
abbrev st_gone : Stmt := top 45
def ir_gone : Ss := (.cons (.expr (.call 2 (.cons (.var 0) (.cons (.var 1) (.cons (.var 2) .nil))))) (.cons (.expr (.call 1 (.cons (.var 3) (.cons (.int 0) (.cons (.gc 0) .nil))))) (.cons (.retE (.lc (.var 5) (.tup [4, 5, 6]) (.seq (.call 0 (.cons (.var 0) (.cons (.tup (.cons (.var 1) (.cons (.var 2) .nil))) (.cons (.var 3) .nil))))) (.bl true) [4, 5, 6])) .nil)))
def cx_gone : Ctx := ⟨defScope st_gone, defScope st_gone, ["track", "end", "standing", "many", "there", "index", "ticks"], [("steps", 3, 4), ("need_number", 3, 2), ("need_place", 3, 6)], ["MOST_PASSES"], []⟩
theorem ck_gone : chkSs ir_gone cx_gone (defBody st_gone) = true := by decide +kernel
def d_gone : Den := run [d_steps, d_need_number, d_need_place] [] [(.int 60)] 7 ir_gone
abbrev st_passed : Stmt := top 43
def ir_passed : Ss := (.cons (.expr (.call 1 (.cons (.var 0) (.cons (.var 1) (.cons (.var 2) .nil))))) (.cons (.setT [3, 4, 5] (.call 0 (.cons (.var 0) (.cons (.tup (.cons (.var 1) (.cons (.var 2) .nil))) .nil)))) (.cons (.retE (.tup (.cons (.ix (.var 3) (.int 0)) (.cons (.ix (.var 3) (.int 1)) (.cons (.var 5) .nil))))) .nil)))
def cx_passed : Ctx := ⟨defScope st_passed, defScope st_passed, ["track", "end", "standing", "there", "index", "ticks"], [("step", 2, 3), ("need_place", 3, 6)], [], []⟩
theorem ck_passed : chkSs ir_passed cx_passed (defBody st_passed) = true := by decide +kernel
def d_passed : Den := run [d_step, d_need_place] [] [] 6 ir_passed
abbrev st_ring : Stmt := top 50
def ir_ring : Ss := (.cons (.expr (.call 1 (.cons (.var 0) (.cons (.var 1) (.cons (.var 2) .nil))))) (.cons (.setT [3, 4] (.call 0 (.cons (.var 0) (.cons (.tup (.cons (.var 1) (.cons (.var 2) .nil))) .nil)))) (.cons (.retE (.tup (.cons (.var 4) (.cons (.bin .sub (.b1 .len (.var 3)) (.var 4)) (.cons (.b1 .sum (.lc (.var 7) (.tup [5, 6, 7]) (.seq (.slLo (.var 3) (.var 4))) (.bl true) [5, 6, 7])) .nil))))) .nil)))
def cx_ring : Ctx := ⟨defScope st_ring, defScope st_ring, ["track", "end", "standing", "rows", "ahead", "here", "index", "ticks"], [("course", 2, 4), ("need_place", 3, 6)], [], ["sum", "len"]⟩
theorem ck_ring : chkSs ir_ring cx_ring (defBody st_ring) = true := by decide +kernel
def d_ring : Den := run [d_course, d_need_place] [] [] 8 ir_ring
abbrev st__law_loop_so : Stmt := top 102
def ir__law_loop_so : Ss := (.cons (.set 2 (.tup (.cons (.tup (.cons (.tup (.cons (.int 0) (.cons (.str "a") .nil))) (.cons .non (.cons (.var 0) .nil)))) (.cons (.tup (.cons (.tup (.cons (.int 0) (.cons (.str "b") .nil))) (.cons (.tup (.cons (.int 0) (.cons (.str "c") .nil))) (.cons (.var 1) .nil)))) .nil)))) (.cons (.par [5, 6, 7] (.cons (.tup (.cons (.tup (.cons (.str "lazy") .nil)) (.cons (.var 2) .nil))) (.cons (.tup (.cons (.tup (.cons (.str "sprung") .nil)) (.cons (.var 2) .nil))) (.cons (.tup (.cons (.tup (.cons (.str "turning") .nil)) (.cons (.var 2) .nil))) .nil)))) (.cons (.set 3 (.bin .add (.bin .mul (.int 2) (.var 0)) (.var 1))) (.cons (.setO 4 (.lst (.cons (.cmp .eq (.call 14 (.cons (.var 5) (.cons (.tup (.cons (.int 0) (.cons (.str "a") .nil))) (.cons (.tup (.cons (.str "b") .nil)) .nil)))) (.tup (.cons (.int 0) (.cons (.int 4) (.cons (.bin .mul (.int 2) (.var 3)) .nil))))) (.cons (.cmp .eq (.call 14 (.cons (.var 5) (.cons (.tup (.cons (.int 0) (.cons (.str "b") .nil))) (.cons (.tup (.cons (.str "b") .nil)) .nil)))) (.tup (.cons (.int 1) (.cons (.int 4) (.cons (.bin .mul (.int 2) (.var 3)) .nil))))) .nil)))) (.cons (.app 4 (.and (.cmp .eq (.call 14 (.cons (.var 6) (.cons (.tup (.cons (.int 0) (.cons (.str "a") .nil))) (.cons (.tup (.cons (.str "b") .nil)) .nil)))) (.tup (.cons (.int 0) (.cons (.int 2) (.cons (.var 3) .nil))))) (.cmp .eq (.call 14 (.cons (.var 7) (.cons (.tup (.cons (.int 0) (.cons (.str "a") .nil))) (.cons (.tup (.cons (.str "b") .nil)) .nil)))) (.tup (.cons (.int 0) (.cons (.int 2) (.cons (.var 3) .nil))))))) (.cons (.app 4 (.cmp .eq (.call 13 (.cons (.var 5) (.cons (.tup (.cons (.int 0) (.cons (.str "c") .nil))) (.cons (.tup (.cons (.str "b") .nil)) .nil)))) (.tup (.cons (.tup (.cons (.int 0) (.cons (.str "a") .nil))) (.cons (.tup (.cons (.str "c") .nil)) (.cons (.bin .mul (.int 2) (.var 0)) .nil)))))) (.cons (.app 4 (.cmp .eq (.call 12 (.cons (.var 5) (.cons (.tup (.cons (.int 0) (.cons (.str "a") .nil))) (.cons (.tup (.cons (.str "b") .nil)) (.cons (.int 4) .nil))))) (.lst (.cons (.int 1) (.cons (.int 0) (.cons (.int 1) (.cons (.int 0) .nil))))))) (.cons (.app 4 (.cmp .eq (.call 11 (.cons (.var 5) (.cons (.tup (.cons (.int 0) (.cons (.str "a") .nil))) (.cons (.tup (.cons (.str "b") .nil)) (.cons (.int 5) .nil))))) (.lst (.cons (.tup (.cons (.int 0) (.cons (.str "a") .nil))) (.cons (.tup (.cons (.int 0) (.cons (.str "c") .nil))) (.cons (.tup (.cons (.int 0) (.cons (.str "a") .nil))) (.cons (.tup (.cons (.int 0) (.cons (.str "b") .nil))) (.cons (.tup (.cons (.int 0) (.cons (.str "a") .nil))) .nil)))))))) (.cons (.app 4 (.and (.cmp .eq (.call 9 (.cons (.var 5) .nil)) (.lst (.cons (.tup (.cons (.tup (.cons (.int 0) (.cons (.str "b") .nil))) (.cons (.tup (.cons (.str "b") .nil)) .nil))) (.cons (.tup (.cons (.tup (.cons (.int 0) (.cons (.str "c") .nil))) (.cons (.tup (.cons (.str "c") .nil)) .nil))) .nil)))) (.cmp .eq (.b1 .len (.call 10 (.cons (.var 6) .nil))) (.int 2)))) (.cons (.app 4 (.and (.cmp .eq (.call 6 (.cons (.var 5) (.cons (.tup (.cons (.int 0) (.cons (.str "b") .nil))) (.cons (.int 1) .nil)))) (.int 2)) (.and (.cmp .eq (.call 7 (.cons (.var 5) (.cons (.tup (.cons (.int 0) (.cons (.str "b") .nil))) .nil))) (.lst (.cons (.int 0) (.cons (.int 1) .nil)))) (.cmp .eq (.call 8 (.cons (.var 5) .nil)) (.lst .nil))))) (.cons (.app 4 (.and (.cmp .eq (.call 5 (.cons (.var 5) (.cons (.var 6) .nil))) (.tup (.cons (.tup (.cons (.int 0) (.cons (.str "b") .nil))) (.cons (.tup (.cons (.str "c") .nil)) (.cons (.int 2) .nil))))) (.cmp .eq (.call 5 (.cons (.var 6) (.cons (.var 7) .nil))) (.tup (.cons (.tup (.cons (.int 0) (.cons (.str "b") .nil))) (.cons (.tup (.cons (.str "b") .nil)) (.cons (.int 2) .nil))))))) (.cons (.app 4 (.and (.cmp .eq (.call 2 (.cons (.var 5) (.cons (.tup (.cons (.int 0) .nil)) (.cons (.int 1) .nil)))) (.lst .nil)) (.and (.cmp .eq (.call 3 (.cons (.var 5) (.cons (.int 1) .nil))) (.lst (.cons (.tup .nil) .nil))) (.call 4 (.cons (.var 5) (.cons (.int 1) (.cons (.str "ever") .nil))))))) (.cons (.retE (.bin .add (.var 4) (.lst (.cons (.call 1 (.cons (.var 5) (.cons (.call 0 (.cons (.var 5) .nil)) .nil))) (.cons (.cmp .eq (.call 0 (.cons (.var 5) .nil)) (.var 5)) .nil))))) .nil)))))))))))))
def cx__law_loop_so : Ctx := ⟨defScope st__law_loop_so, defScope st__law_loop_so, ["_law_stem", "_law_wide", "_law_joints", "_law_size", "_law_found", "_law_lazy", "_law_still", "_law_turning"], [("mirrored", 1, 6), ("alike", 2, 7), ("can_avoid", 3, 7), ("least_hands", 2, 6), ("holds", 3, 7), ("parting", 2, 7), ("latest", 3, 7), ("sure_ever", 2, 7), ("safe_pairs", 1, 6), ("gardens", 1, 6), ("rings", 1, 6), ("ends_of", 4, 7), ("gone", 4, 7), ("passed", 3, 7), ("ring", 3, 7)], [], ["len"]⟩
theorem ck__law_loop_so : chkSs ir__law_loop_so cx__law_loop_so (defBody st__law_loop_so) = true := by decide +kernel
def d__law_loop_so : Den := run [d_mirrored, d_alike, d_can_avoid, d_least_hands, d_holds, d_parting, d_latest, d_sure_ever, d_safe_pairs, d_gardens, d_rings, d_ends_of, d_gone, d_passed, d_ring] [] [] 8 ir__law_loop_so
abbrev st_kind_changes : Stmt := top 87
def ir_kind_changes : Ss := (.cons (.expr (.call 1 (.cons (.var 0) (.cons (.var 1) (.cons (.var 2) .nil))))) (.cons (.setT [5, 6] (.var 0)) (.cons (.setO 3 (.lst .nil)) (.cons (.for_ (.nm 4) (.range1 (.b1 .len (.var 5))) (.cons (.ext 3 (.lc (.bin .add (.bin .add (.slHi (.var 5) (.var 4)) (.tup (.cons (.var 8) .nil))) (.slLo (.var 5) (.bin .add (.var 4) (.int 1)))) (.nm 8) (.seq (.gc 0)) (.cmp .ne (.var 8) (.ix (.var 5) (.var 4))) [8])) .nil)) (.cons (.retE (.lc (.tup (.cons (.var 7) (.cons (.var 6) .nil))) (.nm 7) (.seq (.b1 .sorted (.var 3))) (.call 0 (.cons (.tup (.cons (.var 7) (.cons (.var 6) .nil))) (.cons (.var 1) (.cons (.var 2) .nil)))) [7])) .nil)))))
def cx_kind_changes : Ctx := ⟨defScope st_kind_changes, defScope st_kind_changes, ["track", "stretch", "word", "found", "point", "kinds", "joints", "some", "kind"], [("is_so", 3, 6), ("need_wish", 3, 6)], ["KINDS"], ["sorted", "range", "len"]⟩
theorem ck_kind_changes : chkSs ir_kind_changes cx_kind_changes (defBody st_kind_changes) = true := by decide +kernel
def d_kind_changes : Den := run [d_is_so, d_need_wish] [] [(.tup [(.str "lazy"), (.str "sprung"), (.str "turning")])] 9 ir_kind_changes
abbrev st_need_lever : Stmt := top 71
def ir_need_lever : Ss := (.cons (.expr (.call 3 (.cons (.var 0) .nil))) (.cons (.expr (.call 2 (.cons (.var 0) (.cons (.var 1) .nil)))) (.cons (.expr (.call 1 (.cons (.var 0) (.cons (.var 2) (.cons (.var 3) .nil))))) (.cons (.expr (.call 0 (.cons (.var 0) (.cons (.var 4) .nil)))) .nil))))
def cx_need_lever : Ctx := ⟨defScope st_need_lever, defScope st_need_lever, ["track", "hands", "end", "standing", "stretch"], [("need_stretch", 2, 2), ("need_place", 3, 6), ("need_hands", 2, 2), ("need_track", 1, 5)], [], []⟩
theorem ck_need_lever : chkSs ir_need_lever cx_need_lever (defBody st_need_lever) = true := by decide +kernel
def d_need_lever : Den := run [d_need_stretch, d_need_place, d_need_hands, d_need_track] [] [] 5 ir_need_lever
abbrev st_bring_row : Stmt := top 73
def ir_bring_row : Ss := (.cons (.expr (.call 1 (.cons (.var 0) (.cons (.var 1) (.cons (.var 2) (.cons (.var 3) (.cons (.var 4) .nil))))))) (.cons (.retE (.call 0 (.cons (.var 0) (.cons (.var 1) (.cons (.tup (.cons (.var 2) (.cons (.var 3) .nil))) (.cons (.var 4) .nil)))))) .nil))
def cx_bring_row : Ctx := ⟨defScope st_bring_row, defScope st_bring_row, ["track", "hands", "end", "standing", "stretch"], [("row_to", 4, 5), ("need_lever", 5, 7)], [], []⟩
theorem ck_bring_row : chkSs ir_bring_row cx_bring_row (defBody st_bring_row) = true := by decide +kernel
def d_bring_row : Den := run [d_row_to, d_need_lever] [] [] 5 ir_bring_row
abbrev st_bring : Stmt := top 72
def ir_bring : Ss := (.cons (.expr (.call 1 (.cons (.var 0) (.cons (.var 1) (.cons (.var 2) (.cons (.var 3) (.cons (.var 4) .nil))))))) (.cons (.set 5 (.call 0 (.cons (.var 0) (.cons (.var 1) (.cons (.tup (.cons (.var 2) (.cons (.var 3) .nil))) (.cons (.var 4) .nil)))))) (.cons (.retE (.ite (.isN (.var 5)) .non (.b1 .len (.lc (.var 6) (.nm 6) (.seq (.var 5)) (.cmp .ne (.var 6) (.neg (.int 1))) [6])))) .nil)))
def cx_bring : Ctx := ⟨defScope st_bring, defScope st_bring, ["track", "hands", "end", "standing", "stretch", "row", "point"], [("row_to", 4, 5), ("need_lever", 5, 7)], [], ["len"]⟩
theorem ck_bring : chkSs ir_bring cx_bring (defBody st_bring) = true := by decide +kernel
def d_bring : Den := run [d_row_to, d_need_lever] [] [] 7 ir_bring
abbrev st_ticks_of : Stmt := top 89
def ir_ticks_of : Ss := (.cons (.setT [2, 3, 4] (.ix (.ix (.var 0) (.int 1)) (.call 0 (.cons (.var 0) (.cons (.var 1) .nil))))) (.cons (.retE (.ite (.isN (.var 3)) (.bin .mul (.int 2) (.var 4)) (.var 4))) .nil))
def cx_ticks_of : Ctx := ⟨defScope st_ticks_of, defScope st_ticks_of, ["track", "end", "end_so", "other", "length"], [("index_of", 2, 1)], [], []⟩
theorem ck_ticks_of : chkSs ir_ticks_of cx_ticks_of (defBody st_ticks_of) = true := by decide +kernel
def d_ticks_of : Den := run [d_index_of] [] [] 5 ir_ticks_of
abbrev st_is_train : Stmt := top 90
def ir_is_train : Ss := (.cons (.ife (.or (.not (.isinst .tuple (.var 1))) (.or (.cmp .ne (.b1 .len (.var 1)) (.int 2)) (.not (.call 2 (.cons (.b1 .len (.ix (.var 0) (.int 0))) (.cons (.ix (.var 1) (.int 0)) .nil)))))) (.cons (.retE (.bl false)) .nil) .nil) (.cons (.retE (.call 0 (.cons (.ix (.var 1) (.int 1)) (.cons (.int 0) (.cons (.bin .sub (.call 1 (.cons (.var 0) (.cons (.ix (.var 1) (.int 0)) .nil))) (.int 1)) .nil))))) .nil))
def cx_is_train : Ctx := ⟨defScope st_is_train, defScope st_is_train, ["track", "value"], [("is_int", 3, 1), ("ticks_of", 2, 2), ("is_end_of", 2, 2)], [], ["isinstance", "tuple", "len"]⟩
theorem ck_is_train : chkSs ir_is_train cx_is_train (defBody st_is_train) = true := by decide +kernel
def d_is_train : Den := run [d_is_int, d_ticks_of, d_is_end_of] [] [] 2 ir_is_train
abbrev st_need_trains : Stmt := top 94
def ir_need_trains : Ss := (.cons (.expr (.call 1 (.cons (.var 0) .nil))) (.cons (.for_ (.nm 3) (.seq (.tup (.cons (.var 1) (.cons (.var 2) .nil)))) (.cons (.ife (.not (.call 0 (.cons (.var 0) (.cons (.var 3) .nil)))) (.cons .dead .nil) .nil) .nil)) .nil))
def cx_need_trains : Ctx := ⟨defScope st_need_trains, defScope st_need_trains, ["track", "one_train", "other_train", "train"], [("is_train", 2, 3), ("need_track", 1, 5)], [], []⟩
theorem ck_need_trains : chkSs ir_need_trains cx_need_trains (defBody st_need_trains) = true := by decide +kernel
def d_need_trains : Den := run [d_is_train, d_need_track] [] [] 4 ir_need_trains
abbrev st_meeting : Stmt := top 95
def ir_meeting : Ss := (.cons (.expr (.call 2 (.cons (.var 0) (.cons (.var 1) (.cons (.var 2) .nil))))) (.cons (.expr (.call 1 (.cons (.var 0) (.cons (.var 3) .nil)))) (.cons (.retE (.call 0 (.cons (.var 0) (.cons (.var 1) (.cons (.var 2) (.cons (.var 3) .nil)))))) .nil)))
def cx_meeting : Ctx := ⟨defScope st_meeting, defScope st_meeting, ["track", "one_train", "other_train", "standing"], [("first_tick", 4, 4), ("need_standing", 2, 3), ("need_trains", 3, 6)], [], []⟩
theorem ck_meeting : chkSs ir_meeting cx_meeting (defBody st_meeting) = true := by decide +kernel
def d_meeting : Den := run [d_first_tick, d_need_standing, d_need_trains] [] [] 4 ir_meeting
abbrev st_safe_standings : Stmt := top 97
def ir_safe_standings : Ss := (.cons (.expr (.call 1 (.cons (.var 0) (.cons (.var 1) (.cons (.var 2) .nil))))) (.cons (.retE (.call 0 (.cons (.var 0) (.cons (.var 1) (.cons (.var 2) .nil))))) .nil))
def cx_safe_standings : Ctx := ⟨defScope st_safe_standings, defScope st_safe_standings, ["track", "one_train", "other_train"], [("all_safe", 3, 5), ("need_trains", 3, 6)], [], []⟩
theorem ck_safe_standings : chkSs ir_safe_standings cx_safe_standings (defBody st_safe_standings) = true := by decide +kernel
def d_safe_standings : Den := run [d_all_safe, d_need_trains] [] [] 3 ir_safe_standings
abbrev st_sure : Stmt := top 60
def ir_sure : Ss := (.cons (.expr (.call 3 (.cons (.var 0) (.cons (.var 1) .nil)))) (.cons (.retE (.call 0 (.cons (.var 0) (.cons (.var 1) (.cons (.lc (.call 1 (.cons (.var 0) (.cons (.tup (.cons (.var 1) (.cons (.var 2) .nil))) .nil))) (.nm 2) (.seq (.call 2 (.cons (.var 0) .nil))) (.bl true) [2]) .nil))))) .nil))
def cx_sure : Ctx := ⟨defScope st_sure, defScope st_sure, ["track", "end", "standing"], [("common", 3, 1), ("gone_ever", 2, 5), ("all_standings", 1, 1), ("need_both", 2, 6)], [], []⟩
theorem ck_sure : chkSs ir_sure cx_sure (defBody st_sure) = true := by decide +kernel
def d_sure : Den := run [d_common, d_gone_ever, d_all_standings, d_need_both] [] [] 3 ir_sure
abbrev st_once : Stmt := top 52
def ir_once : Ss := (.cons (.expr (.call 2 (.cons (.var 0) (.cons (.var 1) (.cons (.var 2) .nil))))) (.cons (.set 3 (.call 1 (.cons (.var 0) (.cons (.tup (.cons (.var 1) (.cons (.var 2) .nil))) .nil)))) (.cons (.retE (.lc (.var 4) (.nm 4) (.seq (.call 0 (.cons (.var 0) (.cons (.tup (.cons (.var 1) (.cons (.var 2) .nil))) .nil)))) (.cmp .notin (.var 4) (.var 3)) [4])) .nil)))
def cx_once : Ctx := ⟨defScope st_once, defScope st_once, ["track", "end", "standing", "late", "index"], [("gone_ever", 2, 5), ("gone_for_ever", 2, 5), ("need_place", 3, 6)], [], []⟩
theorem ck_once : chkSs ir_once cx_once (defBody st_once) = true := by decide +kernel
def d_once : Den := run [d_gone_ever, d_gone_for_ever, d_need_place] [] [] 5 ir_once
abbrev st_never : Stmt := top 53
def ir_never : Ss := (.cons (.expr (.call 1 (.cons (.var 0) (.cons (.var 1) (.cons (.var 2) .nil))))) (.cons (.set 3 (.call 0 (.cons (.var 0) (.cons (.tup (.cons (.var 1) (.cons (.var 2) .nil))) .nil)))) (.cons (.retE (.lc (.var 4) (.nm 4) (.range1 (.b1 .len (.ix (.var 0) (.int 1)))) (.cmp .notin (.var 4) (.var 3)) [4])) .nil)))
def cx_never : Ctx := ⟨defScope st_never, defScope st_never, ["track", "end", "standing", "some", "index"], [("gone_ever", 2, 5), ("need_place", 3, 6)], [], ["range", "len"]⟩
theorem ck_never : chkSs ir_never cx_never (defBody st_never) = true := by decide +kernel
def d_never : Den := run [d_gone_ever, d_need_place] [] [] 5 ir_never
abbrev st_for_ever : Stmt := top 51
def ir_for_ever : Ss := (.cons (.expr (.call 1 (.cons (.var 0) (.cons (.var 1) (.cons (.var 2) .nil))))) (.cons (.retE (.call 0 (.cons (.var 0) (.cons (.tup (.cons (.var 1) (.cons (.var 2) .nil))) .nil)))) .nil))
def cx_for_ever : Ctx := ⟨defScope st_for_ever, defScope st_for_ever, ["track", "end", "standing"], [("gone_for_ever", 2, 5), ("need_place", 3, 6)], [], []⟩
theorem ck_for_ever : chkSs ir_for_ever cx_for_ever (defBody st_for_ever) = true := by decide +kernel
def d_for_ever : Den := run [d_gone_for_ever, d_need_place] [] [] 3 ir_for_ever
abbrev st__law_oval_so : Stmt := top 103
def ir__law_oval_so : Ss := (.cons (.set 0 (.tup (.cons (.tup (.cons (.tup (.cons (.int 0) (.cons (.str "a") .nil))) (.cons (.tup (.cons (.int 1) (.cons (.str "a") .nil))) (.cons (.int 1) .nil)))) (.cons (.tup (.cons (.tup (.cons (.int 0) (.cons (.str "b") .nil))) (.cons (.tup (.cons (.int 1) (.cons (.str "b") .nil))) (.cons (.int 2) .nil)))) (.cons (.tup (.cons (.tup (.cons (.int 0) (.cons (.str "c") .nil))) (.cons (.tup (.cons (.int 1) (.cons (.str "c") .nil))) (.cons (.int 1) .nil)))) .nil))))) (.cons (.set 1 (.tup (.cons (.tup (.cons (.str "lazy") (.cons (.str "lazy") .nil))) (.cons (.var 0) .nil)))) (.cons (.setO 2 (.lst (.cons (.cmp .eq (.call 16 (.cons (.var 1) (.cons (.tup (.cons (.int 0) (.cons (.str "a") .nil))) (.cons (.tup (.cons (.str "b") (.cons (.str "c") .nil))) .nil)))) (.tup (.cons (.int 2) (.cons (.int 2) (.cons (.int 3) .nil))))) (.cons (.cmp .eq (.call 15 (.cons (.var 1) (.cons (.tup (.cons (.int 0) (.cons (.str "a") .nil))) (.cons (.tup (.cons (.str "b") (.cons (.str "c") .nil))) .nil)))) (.lst (.cons (.int 0) (.cons (.int 1) .nil)))) .nil)))) (.cons (.app 2 (.and (.cmp .eq (.call 13 (.cons (.var 1) (.cons (.tup (.cons (.int 0) (.cons (.str "a") .nil))) (.cons (.tup (.cons (.str "b") (.cons (.str "c") .nil))) .nil)))) (.lst .nil)) (.cmp .eq (.call 14 (.cons (.var 1) (.cons (.tup (.cons (.int 0) (.cons (.str "a") .nil))) (.cons (.tup (.cons (.str "b") (.cons (.str "c") .nil))) .nil)))) (.lst (.cons (.int 2) .nil))))) (.cons (.app 2 (.and (.cmp .eq (.call 12 (.cons (.var 1) (.cons (.tup (.cons (.int 0) (.cons (.str "a") .nil))) .nil))) (.lst (.cons (.int 0) .nil))) (.cmp .eq (.call 11 (.cons (.var 1) (.cons (.tup (.cons (.int 0) (.cons (.str "a") .nil))) (.cons (.int 0) .nil)))) (.int 2)))) (.cons (.app 2 (.isN (.call 11 (.cons (.var 1) (.cons (.tup (.cons (.int 0) (.cons (.str "a") .nil))) (.cons (.int 1) .nil)))))) (.cons (.setT [4, 5] (.tup (.cons (.tup (.cons (.tup (.cons (.int 0) (.cons (.str "a") .nil))) (.cons (.int 0) .nil))) (.cons (.tup (.cons (.tup (.cons (.int 0) (.cons (.str "b") .nil))) (.cons (.int 1) .nil))) .nil)))) (.cons (.app 2 (.isN (.call 9 (.cons (.var 1) (.cons (.var 4) (.cons (.tup (.cons (.tup (.cons (.int 1) (.cons (.str "b") .nil))) (.cons (.int 0) .nil))) (.cons (.tup (.cons (.str "b") (.cons (.str "b") .nil))) .nil))))))) (.cons (.app 2 (.cmp .eq (.call 9 (.cons (.var 1) (.cons (.var 4) (.cons (.tup (.cons (.tup (.cons (.int 1) (.cons (.str "a") .nil))) (.cons (.int 0) .nil))) (.cons (.tup (.cons (.str "b") (.cons (.str "b") .nil))) .nil))))) (.int 0))) (.cons (.app 2 (.and (.cmp .eq (.call 9 (.cons (.var 1) (.cons (.var 4) (.cons (.var 5) (.cons (.tup (.cons (.str "c") (.cons (.str "b") .nil))) .nil))))) (.int 1)) (.cmp .eq (.call 10 (.cons (.var 1) (.cons (.var 4) (.cons (.var 5) .nil)))) (.lst .nil)))) (.cons (.set 3 (.lst (.cons (.tup (.cons (.tup (.cons (.int 0) (.cons (.str "a") .nil))) (.cons (.tup (.cons (.int 1) (.cons (.str "b") .nil))) .nil))) (.cons (.tup (.cons (.tup (.cons (.int 0) (.cons (.str "a") .nil))) (.cons (.tup (.cons (.int 1) (.cons (.str "c") .nil))) .nil))) (.cons (.tup (.cons (.tup (.cons (.int 0) (.cons (.str "b") .nil))) (.cons (.tup (.cons (.int 1) (.cons (.str "a") .nil))) .nil))) (.cons (.tup (.cons (.tup (.cons (.int 0) (.cons (.str "c") .nil))) (.cons (.tup (.cons (.int 1) (.cons (.str "a") .nil))) .nil))) .nil)))))) (.cons (.app 2 (.and (.cmp .eq (.call 8 (.cons (.var 1) .nil)) (.var 3)) (.cmp .eq (.b1 .len (.call 3 (.cons (.var 1) (.cons (.tup .nil) (.cons (.int 2) .nil))))) (.int 12)))) (.cons (.app 2 (.cmp .eq (.call 7 (.cons (.var 1) (.cons (.tup (.cons (.int 0) .nil)) (.cons (.tup (.cons (.int 0) (.cons (.str "a") .nil))) (.cons (.tup (.cons (.str "b") (.cons (.str "b") .nil))) (.cons (.int 2) .nil)))))) (.int 1))) (.cons (.app 2 (.isN (.call 7 (.cons (.var 1) (.cons (.tup (.cons (.int 1) .nil)) (.cons (.tup (.cons (.int 0) (.cons (.str "a") .nil))) (.cons (.tup (.cons (.str "b") (.cons (.str "b") .nil))) (.cons (.int 2) .nil)))))))) (.cons (.app 2 (.and (.cmp .eq (.call 5 (.cons (.var 1) (.cons (.tup (.cons (.int 0) .nil)) (.cons (.tup (.cons (.int 0) (.cons (.str "a") .nil))) (.cons (.tup (.cons (.str "b") (.cons (.str "b") .nil))) (.cons (.int 2) .nil)))))) (.tup (.cons (.int 0) .nil))) (.cmp .eq (.call 6 (.cons (.var 1) (.cons (.int 2) .nil))) (.lst (.cons (.tup (.cons (.int 0) (.cons (.int 1) .nil))) .nil))))) (.cons (.app 2 (.and (.cmp .eq (.b1 .len (.call 3 (.cons (.var 1) (.cons (.tup (.cons (.int 0) (.cons (.int 1) .nil))) (.cons (.int 2) .nil))))) (.int 24)) (.call 4 (.cons (.var 1) (.cons (.int 0) (.cons (.str "ever") .nil)))))) (.cons (.app 2 (.cmp .eq (.call 2 (.cons (.var 1) (.cons (.int 2) (.cons (.str "ever") .nil)))) (.lst .nil))) (.cons (.retE (.bin .add (.var 2) (.lst (.cons (.cmp .eq (.call 0 (.cons (.var 1) (.cons (.call 1 (.cons (.var 1) .nil)) .nil))) (.tup (.cons (.tup (.cons (.int 0) (.cons (.str "a") .nil))) (.cons (.tup (.cons (.str "b") (.cons (.str "b") .nil))) (.cons (.int 1) .nil))))) .nil)))) .nil))))))))))))))))))
def cx__law_oval_so : Ctx := ⟨defScope st__law_oval_so, defScope st__law_oval_so, ["_law_joints", "_law_track", "_law_found", "_law_due", "_law_one", "_law_other"], [("parting", 2, 7), ("mirrored", 1, 6), ("kind_changes", 3, 7), ("can_avoid", 3, 7), ("holds", 3, 7), ("bring_row", 5, 8), ("least_hands", 2, 6), ("bring", 5, 8), ("safe_pairs", 1, 6), ("meeting", 4, 7), ("safe_standings", 3, 7), ("latest", 3, 7), ("sure", 2, 7), ("once", 3, 7), ("never", 3, 7), ("for_ever", 3, 7), ("ring", 3, 7)], [], ["len"]⟩
theorem ck__law_oval_so : chkSs ir__law_oval_so cx__law_oval_so (defBody st__law_oval_so) = true := by decide +kernel
def d__law_oval_so : Den := run [d_parting, d_mirrored, d_kind_changes, d_can_avoid, d_holds, d_bring_row, d_least_hands, d_bring, d_safe_pairs, d_meeting, d_safe_standings, d_latest, d_sure, d_once, d_never, d_for_ever, d_ring] [] [] 6 ir__law_oval_so
abbrev st__law_star_so : Stmt := top 104
def ir__law_star_so : Ss := (.cons (.set 3 (.tup (.cons (.tup (.cons (.tup (.cons (.int 0) (.cons (.str "a") .nil))) (.cons .non (.cons (.var 0) .nil)))) (.cons (.tup (.cons (.tup (.cons (.int 0) (.cons (.str "b") .nil))) (.cons .non (.cons (.var 1) .nil)))) (.cons (.tup (.cons (.tup (.cons (.int 0) (.cons (.str "c") .nil))) (.cons .non (.cons (.var 2) .nil)))) .nil))))) (.cons (.set 4 (.tup (.cons (.tup (.cons (.str "lazy") .nil)) (.cons (.var 3) .nil)))) (.cons (.setO 5 (.lst (.cons (.cmp .eq (.call 7 (.cons (.var 4) (.cons (.tup (.cons (.int 0) (.cons (.str "c") .nil))) (.cons (.tup (.cons (.str "b") .nil)) .nil)))) (.lst (.cons (.int 0) (.cons (.int 2) .nil)))) (.cons (.cmp .eq (.call 6 (.cons (.var 4) (.cons (.tup (.cons (.int 0) (.cons (.str "a") .nil))) (.cons (.tup (.cons (.str "b") .nil)) .nil)))) (.lst (.cons (.int 2) .nil))) .nil)))) (.cons (.app 5 (.and (.cmp .eq (.call 2 (.cons (.var 4) (.cons (.tup (.cons (.int 0) (.cons (.str "a") .nil))) (.cons (.tup (.cons (.str "b") .nil)) .nil)))) (.tup (.cons (.int 0) (.cons (.int 2) (.cons (.bin .add (.bin .mul (.int 2) (.var 0)) (.bin .mul (.int 2) (.var 1))) .nil))))) (.cmp .eq (.call 5 (.cons (.var 4) (.cons (.tup (.cons (.int 0) (.cons (.str "b") .nil))) .nil))) (.lst (.cons (.int 0) (.cons (.int 1) .nil)))))) (.cons (.app 5 (.and (.cmp .eq (.call 3 (.cons (.var 4) (.cons (.int 2) (.cons (.str "ever") .nil)))) (.lst (.cons (.tup (.cons (.tup (.cons (.str "turning") .nil)) (.cons (.var 3) .nil))) .nil))) (.not (.call 4 (.cons (.var 4) (.cons (.int 2) (.cons (.str "comes") .nil))))))) (.cons (.set 6 (.bin .add (.bin .add (.bin .mul (.int 4) (.var 0)) (.bin .mul (.int 2) (.var 1))) (.bin .mul (.int 2) (.var 2)))) (.cons (.app 5 (.cmp .eq (.call 2 (.cons (.tup (.cons (.tup (.cons (.str "turning") .nil)) (.cons (.var 3) .nil))) (.cons (.tup (.cons (.int 0) (.cons (.str "a") .nil))) (.cons (.tup (.cons (.str "b") .nil)) .nil)))) (.tup (.cons (.int 0) (.cons (.int 4) (.cons (.var 6) .nil)))))) (.cons (.retE (.bin .add (.var 5) (.lst (.cons (.cmp .eq (.call 1 (.cons (.var 4) (.cons (.int 2) .nil))) (.lst (.cons (.tup (.cons (.int 0) .nil)) .nil))) (.cons (.cmp .eq (.ix (.ix (.call 0 (.cons (.var 4) .nil)) (.int 0)) (.int 0)) (.tup (.cons (.tup (.cons (.int 0) (.cons (.str "a") .nil))) (.cons (.tup (.cons (.str "b") .nil)) .nil)))) .nil))))) .nil))))))))
def cx__law_star_so : Ctx := ⟨defScope st__law_star_so, defScope st__law_star_so, ["_law_first_so", "_law_second", "_law_third", "_law_joints", "_law_track", "_law_found", "_law_size"], [("rings", 1, 6), ("least_hands", 2, 6), ("ring", 3, 7), ("kind_changes", 3, 7), ("holds", 3, 7), ("sure", 2, 7), ("never", 3, 7), ("for_ever", 3, 7)], [], []⟩
theorem ck__law_star_so : chkSs ir__law_star_so cx__law_star_so (defBody st__law_star_so) = true := by decide +kernel
def d__law_star_so : Den := run [d_rings, d_least_hands, d_ring, d_kind_changes, d_holds, d_sure, d_never, d_for_ever] [] [] 7 ir__law_star_so
abbrev st__law_tap : Stmt := top 101
def ir__law_tap : Ss := (.cons (.ife (.cmp .gt (.ix (.var 0) (.int 0)) (.int 0)) (.cons (.set 2 (.bin .mod (.b1 .int (.ix (.var 0) (.int 0))) (.var 1))) (.cons (.seti 0 (.int 0) (.bin .fdiv (.ix (.var 0) (.int 0)) (.var 1))) (.cons (.retE (.var 2)) .nil))) .nil) (.cons (.setT [2, 3] (.tup (.cons (.int 0) (.cons (.int 1) .nil)))) (.cons (.while_ 40 (.or (.cmp .lt (.var 3) (.var 1)) (.cmp .eq (.var 3) (.int 1))) (.cons (.seti 0 (.int 1) (.bin .mod (.b1 .int (.bin .add (.bin .mul (.ix (.var 0) (.int 1)) (.int 31337)) (.int 53))) (.int 2147483311))) (.cons (.set 2 (.bin .add (.bin .mul (.var 2) (.int 8192)) (.bin .mod (.b1 .int (.bin .fdiv (.ix (.var 0) (.int 1)) (.int 65563))) (.int 8192)))) (.cons (.set 3 (.bin .mul (.var 3) (.int 8192))) .nil)))) (.cons (.retE (.bin .mod (.b1 .int (.var 2)) (.var 1))) .nil))))
def cx__law_tap : Ctx := ⟨defScope st__law_tap, defScope st__law_tap, ["_law_churn_here", "_law_many", "_law_found", "_law_wide"], [], [], ["int"]⟩
theorem ck__law_tap : chkSs ir__law_tap cx__law_tap (defBody st__law_tap) = true := by decide +kernel
def d__law_tap : Den := run [] [] [] 4 ir__law_tap
abbrev st__law_churn : Stmt := top 100
def ir__law_churn : Ss := (.cons (.set 2 (.bin .add (.bin .mul (.int 77773) (.var 1)) (.int 37))) (.cons (.ife (.cmp .lt (.var 1) (.b1 .len (.var 0))) (.cons (.set 2 (.bin .mod (.b1 .abs (.b1 .int (.ix (.var 0) (.var 1)))) (.bin .mul (.bin .mul (.bin .mul (.bin .pow (.int 10) (.int 60)) (.bin .pow (.int 10) (.int 60))) (.bin .pow (.int 10) (.int 60))) (.bin .pow (.int 10) (.int 58))))) .nil) (.cons (.ife (.cmp .gt (.b1 .len (.var 0)) (.int 0)) (.cons (.set 2 (.bin .add (.var 2) (.bin .mod (.b1 .abs (.b1 .int (.ix (.var 0) (.int 0)))) (.int 1000231)))) .nil) .nil) .nil)) (.cons (.retE (.lstR (.cons (.ite (.cmp .ge (.var 2) (.bin .pow (.int 10) (.int 18))) (.var 2) (.int 0)) (.cons (.bin .add (.bin .mod (.b1 .int (.bin .add (.bin .add (.bin .mul (.bin .mod (.var 2) (.int 2147483311)) (.int 9)) (.bin .mul (.int 43) (.var 1))) (.int 9))) (.int 2147483311)) (.int 1)) .nil)))) .nil)))
def cx__law_churn : Ctx := ⟨defScope st__law_churn, defScope st__law_churn, ["_law_script", "_law_k", "_law_cell"], [], [], ["int", "len", "abs"]⟩
theorem ck__law_churn : chkSs ir__law_churn cx__law_churn (defBody st__law_churn) = true := by decide +kernel
def d__law_churn : Den := run [] [] [] 3 ir__law_churn
abbrev st_law : Stmt := top 105
def ir_law : Ss := (.cons (.for_ (.nm 1) (.range1 (.max2 (.int 1) (.min2 (.int 5) (.b1 .len (.var 0))))) (.cons (.set 2 (.call 4 (.cons (.var 0) (.cons (.var 1) .nil)))) (.cons (.par [3, 4, 5] (.cons (.bin .add (.int 1) (.call 3 (.cons (.var 2) (.cons (.int 2) .nil)))) (.cons (.bin .add (.int 1) (.call 3 (.cons (.var 2) (.cons (.int 2) .nil)))) (.cons (.bin .add (.int 1) (.call 3 (.cons (.var 2) (.cons (.int 2) .nil)))) .nil)))) (.cons (.ife (.or (.cmp .isin (.bl false) (.call 0 (.cons (.var 3) (.cons (.var 4) .nil)))) (.or (.cmp .isin (.bl false) (.call 1 .nil)) (.cmp .isin (.bl false) (.call 2 (.cons (.var 3) (.cons (.var 4) (.cons (.var 5) .nil))))))) (.cons (.retE (.bl false)) .nil) .nil) .nil)))) (.cons (.retE (.bl true)) .nil))
def cx_law : Ctx := ⟨defScope st_law, defScope st_law, ["_law_script", "_law_k", "_law_churn_here", "_law_one", "_law_two", "_law_three"], [("_law_loop_so", 2, 8), ("_law_oval_so", 0, 9), ("_law_star_so", 3, 8), ("_law_tap", 2, 1), ("_law_churn", 2, 1)], [], ["range", "max", "min", "len"]⟩
theorem ck_law : chkSs ir_law cx_law (defBody st_law) = true := by decide +kernel
def d_law : Den := run [d__law_loop_so, d__law_oval_so, d__law_star_so, d__law_tap, d__law_churn] [] [] 6 ir_law
end RP

/-! Mono: more callees, more answers; tables of known answers. Own work. -/
namespace RP
open PySem
def MLe {α : Type} (x y : M α) : Prop := ∀ s a s', x s = .ok a s' → y s = .ok a s'
theorem ml {α : Type} (x : M α) : MLe x x := fun _ _ _ h => h
theorem mb {α β : Type} {x x' : M α} {f f' : α → M β} (h : MLe x x') (k : ∀ a, MLe (f a) (f' a)) : MLe (bnd x f) (bnd x' f') := by
  intro s b s' e
  unfold bnd at e ⊢
  cases q : x s with
  | ok a s1 =>
    rw [q] at e
    rw [h s a s1 q]
    exact k a s1 b s' e
  | exc y s1 => rw [q] at e; cases e
  | stuck => rw [q] at e; cases e
theorem mt {α : Type} {x x' : M PV} {f f' : Bool → M α} (h : MLe x x') (k : ∀ a, MLe (f a) (f' a)) : MLe (tst x f) (tst x' f') := mb (mb h fun _ => ml _) k
theorem mn {α : Type} {x x' : M α} (h : MLe x x') : MLe (noExc x) (noExc x') := by
  intro s b s' e
  unfold noExc at e ⊢
  cases q : x s with
  | ok a s1 =>
    rw [q] at e
    rw [h s a s1 q]
    exact e
  | exc y s1 => rw [q] at e; cases e
  | stuck => rw [q] at e; cases e
theorem mlc {f f' : PV → M (List PV)} (h : ∀ x, MLe (f x) (f' x)) : ∀ xs acc, MLe (lcGo f xs acc) (lcGo f' xs acc)
  | [], acc => ml _
  | x :: xs, acc => mb (h x) fun ys => mlc h xs _
theorem mdc {f f' : PV → M (Option (PV × PV))} (h : ∀ x, MLe (f x) (f' x)) : ∀ xs acc, MLe (dcGo f xs acc) (dcGo f' xs acc)
  | [], acc => ml _
  | x :: xs, acc => mb (h x) fun o => by
    cases o with
    | none => exact mdc h xs _
    | some p =>
      obtain ⟨k, v⟩ := p
      show MLe (if keyT k then dcGo f xs (putP acc k v) else stk) (if keyT k then dcGo f' xs (putP acc k v) else stk)
      by_cases q : keyT k = true
      · rw [if_pos q, if_pos q]; exact mdc h xs _
      · rw [if_neg q, if_neg q]; exact ml _
theorem mfor {f f' : PV → Fm → M Fl} (h : ∀ x r, MLe (f x r) (f' x r)) : ∀ xs r, MLe (forGo f xs r) (forGo f' xs r)
  | [], r => ml _
  | x :: xs, r => mb (h x r) fun l => by
    cases l with
    | nx r' => exact mfor h xs r'
    | ct r' => exact mfor h xs r'
    | bk r' => exact ml _
    | rt v => exact ml _
theorem mwh {c c' : Fm → M PV} {f f' : Fm → M Fl} (hc : ∀ r, MLe (c r) (c' r)) (h : ∀ r, MLe (f r) (f' r)) : ∀ n r, MLe (whGo c f n r) (whGo c' f' n r)
  | 0, r => ml _
  | n + 1, r => mt (hc r) fun k => by
    cases k with
    | false => exact ml _
    | true =>
      refine mb (h r) fun l => ?_
      cases l with
      | nx r' => exact mwh hc h n r'
      | ct r' => exact mwh hc h n r'
      | bk r' => exact ml _
      | rt v => exact ml _
theorem mif {α : Type} {k : Bool} {x x' y y' : M α} (h : MLe x x') (g : MLe y y') : MLe (if k then x else y) (if k then x' else y') := by
  cases k
  · exact g
  · exact h
def GLe (G G' : List Den) : Prop := ∀ j args, MLe (getFn G j args) (getFn G' j args)
section
variable {G G' : List Den} {GV : List (Str × Nat × Den)} {C : List PV} (hG : GLe G G')
include hG
mutual
theorem den_mono : ∀ (e : E) (o : Bool) (r : Fm), MLe (den G GV C e o r) (den G' GV C e o r)
  | .dead, o, r => ml _
  | .var i, o, r => ml _
  | .int i, o, r => ml _
  | .str x, o, r => ml _
  | .bl b, o, r => ml _
  | .non, o, r => ml _
  | .gc j, o, r => ml _
  | .fnv x, o, r => ml _
  | .tup es, o, r => mb (denEs_mono es r) fun _ => ml _
  | .lst es, o, r => mb (denEs_mono es r) fun _ => ml _
  | .lstR es, o, r => mb (denEs_mono es r) fun _ => ml _
  | .dnew, o, r => ml _
  | .d1 k v, o, r => mb (den_mono k _ r) fun _ => mb (den_mono v _ r) fun _ => ml _
  | .bin op a b, o, r => mb (den_mono a _ r) fun _ => mb (den_mono b _ r) fun _ => ml _
  | .cmp op a b, o, r => mb (den_mono a _ r) fun _ => mb (den_mono b _ r) fun _ => ml _
  | .chain op op' a b c, o, r => mb (den_mono a _ r) fun _ => mb (den_mono b _ r) fun _ => mb (ml _) fun k => mif (mb (den_mono c _ r) fun _ => ml _) (ml _)
  | .isN a, o, r => mb (den_mono a _ r) fun _ => ml _
  | .notN a, o, r => mb (den_mono a _ r) fun _ => ml _
  | .and a b, o, r => mt (den_mono a _ r) fun k => mif (den_mono b _ r) (ml _)
  | .or a b, o, r => mt (den_mono a _ r) fun k => mif (ml _) (den_mono b _ r)
  | .not a, o, r => mt (den_mono a _ r) fun k => ml _
  | .neg a, o, r => mb (den_mono a _ r) fun _ => ml _
  | .ite c a b, o, r => mt (den_mono c _ r) fun k => mif (den_mono a _ r) (den_mono b _ r)
  | .ix a b, o, r => mb (den_mono a _ r) fun _ => mb (den_mono b _ r) fun _ => ml _
  | .slLo a b, o, r => mb (den_mono a _ r) fun _ => mb (den_mono b _ r) fun _ => ml _
  | .slHi a b, o, r => mb (den_mono a _ r) fun _ => mb (den_mono b _ r) fun _ => ml _
  | .call j es, o, r => mb (denEs_mono es r) fun vs => hG j vs
  | .callv i es, o, r => by
    unfold den
    split
    · rename_i x _
      cases callP GV x with
      | none => exact ml _
      | some p => exact mb (denEs_mono es r) fun _ => ml _
    · exact ml _
  | .b1 op a, o, r => mb (den_mono a _ r) fun _ => ml _
  | .min2 a b, o, r => mb (den_mono a _ r) fun _ => mb (den_mono b _ r) fun _ => ml _
  | .max2 a b, o, r => mb (den_mono a _ r) fun _ => mb (den_mono b _ r) fun _ => ml _
  | .isinst t a, o, r => mb (den_mono a _ r) fun _ => ml _
  | .idx a b, o, r => mb (den_mono a _ r) fun x => mif (mb (den_mono b _ r) fun _ => ml _) (ml _)
  | .litget ps a d, o, r => mb (den_mono a _ r) fun _ => ml _
  | .lrange a, o, r => mb (den_mono a _ r) fun _ => ml _
  | .lc e t it c vs, o, r => mb (denIt_mono it _ r) fun xs => mn (mb (mlc (fun x => mb (ml _) fun r2 => mt (den_mono c _ r2) fun k => mif (mb (den_mono e _ r2) fun _ => ml _) (ml _)) xs []) fun _ => ml _)
  | .lc2 e t it c t2 it2 c2 vs vs2, o, r => mb (denIt_mono it _ r) fun xs => mn (mb (mlc (fun x => mb (ml _) fun r2 => mt (den_mono c _ r2) fun k => mif (mb (denIt_mono it2 _ r2) fun zs => mlc (fun z => mb (ml _) fun r3 => mt (den_mono c2 _ r3) fun k => mif (mb (den_mono e _ r3) fun _ => ml _) (ml _)) zs []) (ml _)) xs []) fun _ => ml _)
  | .dc k v t it c vs, o, r => mb (denIt_mono it _ r) fun xs => mn (mb (mdc (fun x => mb (ml _) fun r2 => mt (den_mono c _ r2) fun b => mif (mb (den_mono k _ r2) fun _ => mb (den_mono v _ r2) fun _ => ml _) (ml _)) xs []) fun _ => ml _)
theorem denEs_mono : ∀ (es : Es) (r : Fm), MLe (denEs G GV C es r) (denEs G' GV C es r)
  | .nil, r => ml _
  | .cons e es, r => mb (den_mono e _ r) fun _ => mb (denEs_mono es r) fun _ => ml _
theorem denIt_mono : ∀ (it : It) (o : Bool) (r : Fm), MLe (denIt G GV C it o r) (denIt G' GV C it o r)
  | .seq e, o, r => mb (den_mono e _ r) fun _ => ml _
  | .range1 a, o, r => mb (den_mono a _ r) fun _ => ml _
  | .enum a, o, r => mb (den_mono a _ r) fun _ => ml _
  | .zip a b, o, r => mb (den_mono a _ r) fun _ => mb (den_mono b _ r) fun _ => ml _
  | .items a, o, r => mb (den_mono a _ r) fun _ => ml _
  | .keys a, o, r => mb (den_mono a _ r) fun _ => ml _
end
mutual
theorem denS_mono : ∀ (s : S) (r : Fm), MLe (denS G GV C s r) (denS G' GV C s r)
  | .dead, r => ml _
  | .set i e, r => mb (den_mono hG e _ r) fun _ => ml _
  | .setO i e, r => mb (den_mono hG e _ r) fun _ => ml _
  | .setT is e, r => mb (den_mono hG e _ r) fun _ => ml _
  | .setLcO j i e t c vs, r => by
    unfold denS
    split
    · exact mb (mn (mb (mlc (fun x => mb (ml _) fun r2 => mt (den_mono hG c _ r2) fun k => mif (mb (den_mono hG e _ r2) fun _ => ml _) (ml _)) _ []) fun _ => ml _)) fun _ => ml _
    · exact ml _
  | .par is es, r => mb (denEs_mono hG es r) fun _ => ml _
  | .parD i j e, r => mb (den_mono hG e _ r) fun _ => ml _
  | .app i e, r => by
    unfold denS
    split
    · exact mb (den_mono hG e _ r) fun _ => ml _
    · exact ml _
  | .ext i e, r => by
    unfold denS
    split
    · exact mb (den_mono hG e _ r) fun _ => ml _
    · exact ml _
  | .seti i k e, r => mb (den_mono hG e _ r) fun v => mif (ml _) (mb (den_mono hG k _ r) fun _ => ml _)
  | .expr e, r => mb (den_mono hG e _ r) fun _ => ml _
  | .retE e, r => mb (den_mono hG e _ r) fun _ => ml _
  | .retN, r => ml _
  | .ife c a b, r => mt (den_mono hG c _ r) fun k => mif (denSs_mono a r) (denSs_mono b r)
  | .for_ t it b, r => mb (denIt_mono hG it _ r) fun xs => mfor (fun x r1 => mb (ml _) fun r2 => denSs_mono b r2) xs r
  | .while_ n c b, r => mwh (fun r1 => den_mono hG c _ r1) (fun r1 => denSs_mono b r1) n r
  | .raise_ c, r => ml _
  | .pass, r => ml _
theorem denSs_mono : ∀ (ss : Ss) (r : Fm), MLe (denSs G GV C ss r) (denSs G' GV C ss r)
  | .nil, r => ml _
  | .cons s ss, r => mb (denS_mono s r) fun l => by
    cases l with
    | nx r' => exact denSs_mono ss r'
    | bk r' => exact ml _
    | ct r' => exact ml _
    | rt v => exact ml _
  | .frz i ss, r => denSs_mono ss _
end
theorem run_mono (n : Nat) (b : Ss) (args : List PV) : MLe (run G GV C n b args) (run G' GV C n b args) := mb (denSs_mono hG b _) fun _ => ml _
end
/-! tables -/
theorem eqS_eq {x y : Str} (h : eqS x y = true) : x = y := by
  obtain ⟨a⟩ := x
  obtain ⟨b⟩ := y
  have e : a.toList = b.toList := eq_of_beq h
  rw [Array.toList_inj.mp e]
mutual
theorem beq_eq : ∀ (x y : PV), PV.beq x y = true → x = y
  | .non, y, h => by cases y <;> first | rfl | cases h
  | .bl a, y, h => by
    cases y with
    | bl b => rw [eq_of_beq (show (a == b) = true from h)]
    | _ => cases h
  | .int a, y, h => by
    cases y with
    | int b => rw [eq_of_beq (show (a == b) = true from h)]
    | _ => cases h
  | .str a, y, h => by
    cases y with
    | str b => rw [eqS_eq (show eqS a b = true from h)]
    | _ => cases h
  | .tup a, y, h => by
    cases y with
    | tup b => rw [beqs_eq a b (show PV.beqs a b = true from h)]
    | _ => cases h
  | .lst a, y, h => by
    cases y with
    | lst b => rw [beqs_eq a b (show PV.beqs a b = true from h)]
    | _ => cases h
  | .rol a, y, h => by cases y <;> cases h
  | .tpx a, y, h => by cases y <;> cases h
  | .dct a, y, h => by cases y <;> cases h
  | .ref a, y, h => by cases y <;> cases h
  | .fn a, y, h => by cases y <;> cases h
theorem beqs_eq : ∀ (x y : List PV), PV.beqs x y = true → x = y
  | [], y, h => by cases y <;> first | rfl | cases h
  | a :: as, y, h => by
    cases y with
    | nil => cases h
    | cons b bs =>
      have h : (PV.beq a b && PV.beqs as bs) = true := h
      rw [Bool.and_eq_true] at h
      rw [beq_eq a b h.1, beqs_eq as bs h.2]
end
/-- answers that are known -/
def orc : List (List PV × PV) → Den
  | [], _ => stk
  | p :: t, args => if PV.beqs p.1.tail args.tail && PV.beqs p.1 args then ret p.2 else orc t args
def Knows (d : Den) (t : List (List PV × PV)) : Prop := ∀ p ∈ t, ∀ s, d p.1 s = .ok p.2 s
theorem orc_le {d : Den} : ∀ {t : List (List PV × PV)}, Knows d t → ∀ args, MLe (orc t args) (d args)
  | [], _, args => fun s a s' e => by cases e
  | p :: t, h, args => by
    intro s a s' e
    unfold orc at e
    by_cases q : (PV.beqs p.1.tail args.tail && PV.beqs p.1 args) = true
    · rw [if_pos q] at e
      cases e
      rw [← beqs_eq _ _ (Bool.and_eq_true_iff.mp q).2]
      exact h p (by simp) s
    · rw [if_neg q] at e
      exact orc_le (fun x hx => h x (by simp [hx])) args s a s' e
/-- lists of callees, place by place -/
inductive GL2 : List Den → List Den → Prop
  | nil : GL2 [] []
  | cons {a b : Den} {G G' : List Den} (h : ∀ args, MLe (a args) (b args)) (r : GL2 G G') : GL2 (a :: G) (b :: G')
theorem GL2.le : ∀ {G G' : List Den}, GL2 G G' → GLe G G'
  | _, _, .nil, j, args => ml _
  | _, _, .cons h r, 0, args => h args
  | _, _, .cons h r, j + 1, args => r.le j args
/-- an answer by callees that know less -/
theorem by_less {G G' : List Den} {C : List PV} {n : Nat} {b : Ss} {args : List PV} {v : PV} {s s' : AS} (h : GL2 G G') (e : run G [] C n b args s = .ok v s') : run G' [] C n b args s = .ok v s' := run_mono h.le n b args s v s' e
theorem knows_cons {d : Den} {a : List PV} {v : PV} {t : List (List PV × PV)} (h : ∀ s, d a s = .ok v s) (r : Knows d t) : Knows d ((a, v) :: t) := by
  intro p hp
  rcases List.mem_cons.mp hp with e | e
  · rw [e]; exact h
  · exact r p e
theorem knows_nil {d : Den} : Knows d [] := fun p hp => by simp at hp
end RP

namespace RP
theorem bnd_ok {α β : Type} {x : M α} {f : α → M β} {s s' : AS} {a : α} (h : x s = .ok a s') : bnd x f s = f a s' := by
  unfold bnd
  rw [h]
  rfl
theorem wide_of {i : Int} (h0 : 0 ≤ i) (h : i < 4294967296) : wide i = true := by
  have h1 : i.natAbs < 4294967296 := by omega
  have h2 : (4294967296 : Nat) < 2 ^ 4096 := by decide +kernel
  exact decide_eq_true (Nat.lt_trans h1 h2)
/-! the churn's statements -/
def chS1 : S := .set 2 (.bin .add (.bin .mul (.int 77773) (.var 1)) (.int 37))
def chBig : E := .bin .mul (.bin .mul (.bin .mul (.bin .pow (.int 10) (.int 60)) (.bin .pow (.int 10) (.int 60))) (.bin .pow (.int 10) (.int 60))) (.bin .pow (.int 10) (.int 58))
def chA : S := .set 2 (.bin .mod (.b1 .abs (.b1 .int (.ix (.var 0) (.var 1)))) chBig)
def chB : S := .set 2 (.bin .add (.var 2) (.bin .mod (.b1 .abs (.b1 .int (.ix (.var 0) (.int 0)))) (.int 1000231)))
def chI2 : S := .ife (.cmp .gt (.b1 .len (.var 0)) (.int 0)) (.cons chB .nil) .nil
def chI1 : S := .ife (.cmp .lt (.var 1) (.b1 .len (.var 0))) (.cons chA .nil) (.cons chI2 .nil)
def chR : S := .retE (.lstR (.cons (.ite (.cmp .ge (.var 2) (.bin .pow (.int 10) (.int 18))) (.var 2) (.int 0)) (.cons (.bin .add (.bin .mod (.b1 .int (.bin .add (.bin .add (.bin .mul (.bin .mod (.var 2) (.int 2147483311)) (.int 9)) (.bin .mul (.int 43) (.var 1))) (.int 9))) (.int 2147483311)) (.int 1)) .nil)))
theorem ch_ir : ir__law_churn = .cons chS1 (.cons chI1 (.cons chR .nil)) := rfl
def BIG : Int := 10 ^ 60 * 10 ^ 60 * 10 ^ 60 * 10 ^ 58
theorem ch_big (r : Fm) (s : AS) : den [] [] [] chBig true r s = .ok (.int BIG) s := by kernel_rfl
abbrev rr (xs : List PV) (k : Int) (c : Int) : Fm := [.sh (.rol xs), .sh (.int k), .sh (.int c)]
theorem ch_s1 (xs : List PV) (s : AS) : ∀ k : Nat, k < 10 → ∃ c, denS [] [] [] chS1 [.sh (.rol xs), .sh (.int k), .no] s = .ok (.nx (rr xs k c)) s
  | 0, _ => ⟨37, by kernel_rfl⟩
  | 1, _ => ⟨77773 + 37, by kernel_rfl⟩
  | 2, _ => ⟨77773 * 2 + 37, by kernel_rfl⟩
  | 3, _ => ⟨77773 * 3 + 37, by kernel_rfl⟩
  | 4, _ => ⟨77773 * 4 + 37, by kernel_rfl⟩
  | 5, _ => ⟨77773 * 5 + 37, by kernel_rfl⟩
  | 6, _ => ⟨77773 * 6 + 37, by kernel_rfl⟩
  | 7, _ => ⟨77773 * 7 + 37, by kernel_rfl⟩
  | 8, _ => ⟨77773 * 8 + 37, by kernel_rfl⟩
  | 9, _ => ⟨77773 * 9 + 37, by kernel_rfl⟩
  | n + 10, h => absurd h (by omega)
theorem at_lt {xs : List PV} {k : Nat} (h : k < xs.length) : at' xs (k : Int) = xs[k]? := by
  unfold at' nrm
  rw [if_pos (by omega), if_pos (by omega)]
  rfl
theorem ch_a {ns : List Int} {k : Nat} (hk : k < ns.length) (c : Int) (s : AS) : ∃ c', denS [] [] [] chA (rr (ns.map .int) k c) s = .ok (.nx (rr (ns.map .int) k c')) s := by
  have e : at' (ns.map PV.int) (k : Int) = some (.int (ns[k])) := by
    rw [at_lt (by simpa using hk)]
    simp [hk]
  unfold chA
  unfold denS
  have e1 : den [] [] [] (.b1 .abs (.b1 .int (.ix (.var 0) (.var 1)))) true (rr (ns.map .int) k c) s = .ok (.int (if ns[k] < 0 then -ns[k] else ns[k])) s := by
    simp [den, rr, Fm.get, bnd, ret, opt, Res.andThen, ixP, e, b1P]
  have e2 : den [] [] [] (.bin .mod (.b1 .abs (.b1 .int (.ix (.var 0) (.var 1)))) chBig) false (rr (ns.map .int) k c) s = .ok (.int ((if ns[k] < 0 then -ns[k] else ns[k]) % BIG)) s := by
    rw [den, bnd_ok e1, bnd_ok (ch_big _ _)]
    simp only [binP]
    rw [if_pos (by decide +kernel)]
    rfl
  exact ⟨_, by rw [bnd_ok e2]; rfl⟩
theorem ch_b {ns : List Int} {k : Nat} (hk : 0 < ns.length) (c : Int) (s : AS) : ∃ c', denS [] [] [] chB (rr (ns.map .int) k c) s = .ok (.nx (rr (ns.map .int) k c')) s := by
  have e : at' (ns.map PV.int) (0 : Int) = some (.int (ns[0])) := by
    rw [show ((0 : Int) = ((0 : Nat) : Int)) from rfl, at_lt (by simpa using hk)]
    simp [hk]
  unfold chB
  refine ⟨c + (if ns[0] < 0 then -ns[0] else ns[0]) % 1000231, ?_⟩
  simp [denS, den, rr, Fm.get, bnd, ret, opt, Res.andThen, ixP, e, b1P, binP]
theorem ch_i1 {ns : List Int} {k : Nat} (c : Int) (s : AS) : ∃ c', denS [] [] [] chI1 (rr (ns.map .int) k c) s = .ok (.nx (rr (ns.map .int) k c')) s := by
  have t : tb (den [] [] [] (.cmp .lt (.var 1) (.b1 .len (.var 0))) false (rr (ns.map .int) k c)) s = .ok (decide ((k : Int) < ns.length)) s := by
    simp [tb, den, rr, Fm.get, bnd, ret, opt, Res.andThen, b1P, cmpP, dat, ltP, truth]
  unfold chI1
  rw [denS, tst, bnd_ok t]
  by_cases h : k < ns.length
  · rw [if_pos (decide_eq_true (by omega))]
    obtain ⟨c', e⟩ := ch_a h c s
    exact ⟨c', by rw [denSs, bnd_ok e]; simp only [denSs]; rfl⟩
  · rw [if_neg (fun z => h (by have := of_decide_eq_true z; omega))]
    have t2 : tb (den [] [] [] (.cmp .gt (.b1 .len (.var 0)) (.int 0)) false (rr (ns.map .int) k c)) s = .ok (decide ((0 : Int) < ns.length)) s := by
      simp [tb, den, rr, Fm.get, bnd, ret, opt, Res.andThen, b1P, cmpP, truth]
    have key : ∃ c', denS [] [] [] chI2 (rr (ns.map .int) k c) s = .ok (.nx (rr (ns.map .int) k c')) s := by
      unfold chI2
      rw [denS, tst, bnd_ok t2]
      by_cases h2 : 0 < ns.length
      · rw [if_pos (decide_eq_true (by omega))]
        obtain ⟨c', e⟩ := ch_b (k := k) h2 c s
        exact ⟨c', by rw [denSs, bnd_ok e]; simp only [denSs]; rfl⟩
      · rw [if_neg (fun z => h2 (by have := of_decide_eq_true z; omega))]
        exact ⟨c, by rw [denSs]; rfl⟩
    obtain ⟨c', e⟩ := key
    exact ⟨c', by rw [denSs, bnd_ok e]; simp only [denSs]; rfl⟩
theorem ch_r (xs : List PV) (k : Nat) (hk : k < 10) (c : Int) (s : AS) : ∃ u t : Int, 0 ≤ t ∧ t < 4294967296 ∧ denS [] [] [] chR (rr xs k c) s = .ok (.rt (.ref s.length)) (s ++ [.lst [.int u, .int t]]) := by
  have w1 : wide (c % 2147483311) = true := wide_of (by omega) (by omega)
  have w2 : wide 9 = true := wide_of (by omega) (by omega)
  have w3 : wide 43 = true := wide_of (by omega) (by omega)
  have w4 : wide (k : Int) = true := wide_of (by omega) (by omega)
  refine ⟨if 10 ^ 18 ≤ c then c else 0, (c % 2147483311 * 9 + 43 * k + 9) % 2147483311 + 1, by omega, by omega, ?_⟩
  unfold chR
  by_cases h : (10 : Int) ^ 18 ≤ c
  · rw [if_pos h]
    simp [denS, den, denEs, rr, Fm.get, bnd, ret, opt, Res.andThen, b1P, binP, cmpP, tst, tb, truth, w1, w2, w3, w4]
    simp only [show (1000000000000000000 : Int) ≤ c from h, if_true]
    rfl
  · rw [if_neg h]
    simp [denS, den, denEs, rr, Fm.get, bnd, ret, opt, Res.andThen, b1P, binP, cmpP, tst, tb, truth, w1, w2, w3, w4]
    simp only [show ¬ (1000000000000000000 : Int) ≤ c from h, if_false]
    rfl
theorem churn_ok (ns : List Int) (k : Nat) (hk : k < 10) (s : AS) : ∃ u t : Int, 0 ≤ t ∧ t < 4294967296 ∧ d__law_churn [.rol (ns.map .int), .int k] s = .ok (.ref s.length) (s ++ [.lst [.int u, .int t]]) := by
  obtain ⟨c1, e1⟩ := ch_s1 (ns.map .int) s k hk
  obtain ⟨c2, e2⟩ := ch_i1 (ns := ns) (k := k) c1 s
  obtain ⟨u, t, h1, h2, e3⟩ := ch_r (ns.map .int) k hk c2 s
  refine ⟨u, t, h1, h2, ?_⟩
  have e : denSs [] [] [] ir__law_churn [.sh (.rol (ns.map .int)), .sh (.int k), .no] s = .ok (.rt (.ref s.length)) (s ++ [.lst [.int u, .int t]]) := by
    rw [ch_ir, denSs, bnd_ok e1]
    simp only
    rw [denSs, bnd_ok e2]
    simp only
    rw [denSs, bnd_ok e3]
    rfl
  unfold d__law_churn run
  exact (bnd_ok e)
/-! the tap -/
def tpI : S := .ife (.cmp .gt (.ix (.var 0) (.int 0)) (.int 0)) (.cons (.set 2 (.bin .mod (.b1 .int (.ix (.var 0) (.int 0))) (.var 1))) (.cons (.seti 0 (.int 0) (.bin .fdiv (.ix (.var 0) (.int 0)) (.var 1))) (.cons (.retE (.var 2)) .nil))) .nil
def tpT : S := .setT [2, 3] (.tup (.cons (.int 0) (.cons (.int 1) .nil)))
def tpC : E := .or (.cmp .lt (.var 3) (.var 1)) (.cmp .eq (.var 3) (.int 1))
def tpB1 : S := .seti 0 (.int 1) (.bin .mod (.b1 .int (.bin .add (.bin .mul (.ix (.var 0) (.int 1)) (.int 31337)) (.int 53))) (.int 2147483311))
def tpB2 : S := .set 2 (.bin .add (.bin .mul (.var 2) (.int 8192)) (.bin .mod (.b1 .int (.bin .fdiv (.ix (.var 0) (.int 1)) (.int 65563))) (.int 8192)))
def tpB3 : S := .set 3 (.bin .mul (.var 3) (.int 8192))
def tpB : Ss := .cons tpB1 (.cons tpB2 (.cons tpB3 .nil))
def tpR : S := .retE (.bin .mod (.b1 .int (.var 2)) (.var 1))
theorem tp_ir : ir__law_tap = .cons tpI (.cons tpT (.cons (.while_ 40 tpC tpB) (.cons tpR .nil))) := rfl
theorem set_same {s : AS} {n : Nat} {a b : AObj} : (s.set n a).set n b = s.set n b := by simp
theorem get_set {s : AS} {n : Nat} {a b : AObj} (h : s[n]? = some a) : (s.set n b)[n]? = some b := by
  have := (List.getElem?_eq_some_iff.mp h).1
  simp [this]
abbrev tf (n : Nat) (m : Int) (a b : Sl) : Fm := [.sh (.ref n), .sh (.int m), a, b]
theorem tap_pos {s : AS} {n : Nat} {u t m : Int} (h : s[n]? = some (.lst [.int u, .int t])) (hm : 0 < m) (hm2 : m < 8192) (hu : 0 < u) : denS [] [] [] tpI (tf n m .no .no) s = .ok (.rt (.int (u % m))) (s.set n (.lst [.int (u / m), .int t])) := by
  have a0 : at' [PV.int u, .int t] 0 = some (.int u) := rfl
  have n0 : nrm 2 0 = some 0 := rfl
  have h2 : m < 1073741824 := by omega
  simp [tpI, denS, denSs, den, tf, Fm.get, bnd, ret, opt, Res.andThen, b1P, binP, cmpP, tst, tb, truth, ixP, h, a0, hu, hm, h2, setSl, n0, Sl.isNo]
theorem tap_neg {s : AS} {n : Nat} {u t m : Int} (h : s[n]? = some (.lst [.int u, .int t])) (hu : ¬ 0 < u) : denS [] [] [] tpI (tf n m .no .no) s = .ok (.nx (tf n m .no .no)) s := by
  have a0 : at' [PV.int u, .int t] 0 = some (.int u) := rfl
  simp [tpI, denS, denSs, den, tf, Fm.get, bnd, ret, opt, Res.andThen, b1P, binP, cmpP, tst, tb, truth, ixP, h, a0, hu]
theorem tap_b1 {s : AS} {n : Nat} {u t m : Int} {a b : Sl} (h : s[n]? = some (.lst [.int u, .int t])) (h0 : 0 ≤ t) (h1 : t < 4294967296) : denS [] [] [] tpB1 (tf n m a b) s = .ok (.nx (tf n m a b)) (s.set n (.lst [.int u, .int ((t * 31337 + 53) % 2147483311)])) := by
  have a1 : at' [PV.int u, .int t] 1 = some (.int t) := rfl
  have n1 : nrm 2 1 = some 1 := rfl
  have w1 := wide_of h0 h1
  have w2 : wide 31337 = true := wide_of (by omega) (by omega)
  simp [tpB1, denS, den, tf, Fm.get, bnd, ret, opt, Res.andThen, b1P, binP, ixP, h, a1, w1, w2, setSl, n1, Sl.isNo]
theorem tap_b2 {s : AS} {n : Nat} {u t m : Int} {b : Sl} (h : s[n]? = some (.lst [.int u, .int t])) : denS [] [] [] tpB2 (tf n m (.sh (.int 0)) b) s = .ok (.nx (tf n m (.sh (.int (t / 65563 % 8192))) b)) s := by
  have a1 : at' [PV.int u, .int t] 1 = some (.int t) := rfl
  have w1 : wide 0 = true := wide_of (by omega) (by omega)
  have w2 : wide 8192 = true := wide_of (by omega) (by omega)
  simp [tpB2, denS, den, tf, Fm.get, bnd, ret, opt, Res.andThen, b1P, binP, ixP, h, a1, w1, w2]
theorem tap_b3 {s : AS} {n : Nat} {m f : Int} : denS [] [] [] tpB3 (tf n m (.sh (.int f)) (.sh (.int 1))) s = .ok (.nx (tf n m (.sh (.int f)) (.sh (.int 8192)))) s := by
  have w1 : wide 1 = true := wide_of (by omega) (by omega)
  have w2 : wide 8192 = true := wide_of (by omega) (by omega)
  simp [tpB3, denS, den, tf, Fm.get, bnd, ret, opt, Res.andThen, binP, w1, w2]
theorem tap_c1 {s : AS} {n : Nat} {m : Int} {a : Sl} : tb (den [] [] [] tpC false (tf n m a (.sh (.int 1)))) s = .ok true s := by
  by_cases h : (1 : Int) < m
  · simp [tpC, den, tf, Fm.get, bnd, ret, opt, Res.andThen, cmpP, tst, tb, truth, dat, ltP, h]
  · simp [tpC, den, tf, Fm.get, bnd, ret, opt, Res.andThen, cmpP, tst, tb, truth, dat, ltP, eqP, h]
theorem tap_c2 {s : AS} {n : Nat} {m : Int} {a : Sl} (hm : m < 8192) : tb (den [] [] [] tpC false (tf n m a (.sh (.int 8192)))) s = .ok false s := by
  have h : ¬ (8192 : Int) < m := by omega
  simp [tpC, den, tf, Fm.get, bnd, ret, opt, Res.andThen, cmpP, tst, tb, truth, dat, ltP, eqP, h]
theorem tap_b {s : AS} {n : Nat} {u t m : Int} (h : s[n]? = some (.lst [.int u, .int t])) (h0 : 0 ≤ t) (h1 : t < 4294967296) : ∃ f t' : Int, 0 ≤ t' ∧ t' < 4294967296 ∧ denSs [] [] [] tpB (tf n m (.sh (.int 0)) (.sh (.int 1))) s = .ok (.nx (tf n m (.sh (.int f)) (.sh (.int 8192)))) (s.set n (.lst [.int u, .int t'])) := by
  have g := get_set (b := .lst [.int u, .int ((t * 31337 + 53) % 2147483311)]) h
  refine ⟨(t * 31337 + 53) % 2147483311 / 65563 % 8192, (t * 31337 + 53) % 2147483311, by omega, by omega, ?_⟩
  unfold tpB
  rw [denSs, bnd_ok (tap_b1 h h0 h1)]
  simp only
  rw [denSs, bnd_ok (tap_b2 g)]
  simp only
  rw [denSs, bnd_ok tap_b3]
  simp only [denSs]
  rfl
theorem tap_ok {s : AS} {n : Nat} {u t : Int} {m : Int} (h : s[n]? = some (.lst [.int u, .int t])) (h0 : 0 ≤ t) (h1 : t < 4294967296) (hm : 0 < m) (hm2 : m < 8192) : ∃ v u' t' : Int, 0 ≤ v ∧ v < m ∧ 0 ≤ t' ∧ t' < 4294967296 ∧ d__law_tap [.ref n, .int m] s = .ok (.int v) (s.set n (.lst [.int u', .int t'])) := by
  by_cases hu : 0 < u
  · refine ⟨u % m, u / m, t, Int.emod_nonneg _ (by omega), Int.emod_lt_of_pos _ hm, h0, h1, ?_⟩
    have e : denSs [] [] [] ir__law_tap (tf n m .no .no) s = .ok (.rt (.int (u % m))) (s.set n (.lst [.int (u / m), .int t])) := by
      rw [tp_ir, denSs, bnd_ok (tap_pos h hm hm2 hu)]
      rfl
    unfold d__law_tap run
    exact bnd_ok e
  · obtain ⟨f, t', k0, k1, eb⟩ := tap_b (m := m) h h0 h1
    refine ⟨f % m, u, t', Int.emod_nonneg _ (by omega), Int.emod_lt_of_pos _ hm, k0, k1, ?_⟩
    have e : denSs [] [] [] ir__law_tap (tf n m .no .no) s = .ok (.rt (.int (f % m))) (s.set n (.lst [.int u, .int t'])) := by
      have et : denS [] [] [] tpT (tf n m .no .no) s = .ok (.nx (tf n m (.sh (.int 0)) (.sh (.int 1)))) s := by kernel_rfl
      have ew : denS [] [] [] (.while_ 40 tpC tpB) (tf n m (.sh (.int 0)) (.sh (.int 1))) s = .ok (.nx (tf n m (.sh (.int f)) (.sh (.int 8192)))) (s.set n (.lst [.int u, .int t'])) := by
        rw [denS, whGo, tst, bnd_ok tap_c1, if_pos rfl, bnd_ok eb]
        simp only
        rw [whGo, tst, bnd_ok (tap_c2 hm2)]
        rfl
      have er : denS [] [] [] tpR (tf n m (.sh (.int f)) (.sh (.int 8192))) (s.set n (.lst [.int u, .int t'])) = .ok (.rt (.int (f % m))) (s.set n (.lst [.int u, .int t'])) := by
        simp [tpR, denS, den, tf, Fm.get, bnd, ret, opt, Res.andThen, b1P, binP, hm]
      rw [tp_ir, denSs, bnd_ok (tap_neg h hu)]
      simp only
      rw [denSs, bnd_ok et]
      simp only
      rw [denSs, bnd_ok ew]
      simp only
      rw [denSs, bnd_ok er]
      rfl
    unfold d__law_tap run
    exact bnd_ok e
end RP

namespace RP
def isT (x : PV) : Bool := match x with
  | .bl b => b
  | _ => false
def allTrue (r : Res PV) : Option AS := match r with
  | .ok (.lst xs) s => if xs.all isT then some s else none
  | _ => none
theorem datT {xs : List PV} (h : xs.all isT = true) : dats DEP xs = true ∧ (xs.any fun y => eqP y (.bl false)) = false := by
  induction xs with
  | nil => exact ⟨rfl, rfl⟩
  | cons x xs ih =>
    rw [List.all_cons, Bool.and_eq_true] at h
    obtain ⟨h1, h2⟩ := h
    obtain ⟨i1, i2⟩ := ih h2
    cases x with
    | bl b =>
      have e : b = true := h1
      subst e
      exact ⟨by rw [dats, i1]; rfl, by rw [List.any_cons, i2]; rfl⟩
    | _ => cases h1
theorem allTrue_ok {r : Res PV} {s : AS} (h : allTrue r = some s) : ∃ xs, r = .ok (.lst xs) s ∧ isinP (.bl false) (.lst xs) = some false := by
  unfold allTrue at h
  split at h
  · rename_i xs s1
    split at h
    · rename_i ha
      cases h
      refine ⟨xs, rfl, ?_⟩
      obtain ⟨h1, h2⟩ := datT ha
      show (if dat DEP (.bl false) && dats DEP xs then some (xs.any fun y => eqP y (.bl false)) else none) = some false
      rw [h1, h2]
      rfl
    · cases h
  · cases h
/-! the law -/
def lwCh : S := .set 2 (.call 4 (.cons (.var 0) (.cons (.var 1) .nil)))
def lwT : E := .bin .add (.int 1) (.call 3 (.cons (.var 2) (.cons (.int 2) .nil)))
def lwTs : S := .par [3, 4, 5] (.cons lwT (.cons lwT (.cons lwT .nil)))
def lwC1 : E := .cmp .isin (.bl false) (.call 0 (.cons (.var 3) (.cons (.var 4) .nil)))
def lwC2 : E := .cmp .isin (.bl false) (.call 1 .nil)
def lwC3 : E := .cmp .isin (.bl false) (.call 2 (.cons (.var 3) (.cons (.var 4) (.cons (.var 5) .nil))))
def lwI : S := .ife (.or lwC1 (.or lwC2 lwC3)) (.cons (.retE (.bl false)) .nil) .nil
def lwB : Ss := .cons lwCh (.cons lwTs (.cons lwI .nil))
def lwIt : It := .range1 (.max2 (.int 1) (.min2 (.int 5) (.b1 .len (.var 0))))
theorem lw_ir : ir_law = .cons (.for_ (.nm 1) lwIt lwB) (.cons (.retE (.bl true)) .nil) := rfl
abbrev GL : List Den := [d__law_loop_so, d__law_oval_so, d__law_star_so, d__law_tap, d__law_churn]
abbrev lf (ns : List Int) (a b c d e : Sl) : Fm := [.sh (.rol (ns.map .int)), a, b, c, d, e]
theorem isin_call {j : Nat} {es : Es} {vs : List PV} {r : Fm} {s : AS} {d : Den} (hg : getFn GL j = d) (he : denEs GL [] [] es r s = .ok vs s) (h : allTrue (d vs s) = some s) : tb (den GL [] [] (.cmp .isin (.bl false) (.call j es)) false r) s = .ok false s := by
  obtain ⟨xs, e, k⟩ := allTrue_ok h
  have e1 : den GL [] [] (.call j es) true r s = .ok (.lst xs) s := by
    rw [den, bnd_ok he, hg, e]
  have e2 : den GL [] [] (.cmp .isin (.bl false) (.call j es)) false r s = .ok (.bl false) s := by
    rw [den]
    have : den GL [] [] (.bl false) true r s = .ok (.bl false) s := rfl
    rw [bnd_ok this, bnd_ok e1]
    show opt ((isinP (.bl false) (.lst xs)).map PV.bl) s = _
    rw [k]
    rfl
  unfold tb
  rw [bnd_ok e2]
  rfl
structure Good : Prop where
  loop : ∀ a b : Int, 1 ≤ a → a ≤ 2 → 1 ≤ b → b ≤ 2 → ∀ s, allTrue (d__law_loop_so [.int a, .int b] s) = some s
  oval : ∀ s, allTrue (d__law_oval_so [] s) = some s
  star : ∀ a b c : Int, 1 ≤ a → a ≤ 2 → 1 ≤ b → b ≤ 2 → 1 ≤ c → c ≤ 2 → ∀ s, allTrue (d__law_star_so [.int a, .int b, .int c] s) = some s
theorem lw_body (gd : Good) (ns : List Int) (k : Nat) (hk : k < 10) (a b c d e : Sl) (s : AS) : ∃ a' b' c' d' e' s', denSs GL [] [] lwB (lf ns (.sh (.int k)) b c d e) s = .ok (.nx (lf ns a' b' c' d' e')) s' := by
  obtain ⟨u, t, h0, h1, ec⟩ := churn_ok ns k hk s
  have g0 : (s ++ [AObj.lst [.int u, .int t]])[s.length]? = some (.lst [.int u, .int t]) := by simp
  obtain ⟨v1, u1, t1, p1, q1, k0, k1, e1⟩ := tap_ok (m := 2) g0 h0 h1 (by omega) (by omega)
  have g1 := get_set (b := .lst [.int u1, .int t1]) g0
  obtain ⟨v2, u2, t2, p2, q2, k2, k3, e2⟩ := tap_ok (m := 2) g1 k0 k1 (by omega) (by omega)
  have g2 := get_set (b := .lst [.int u2, .int t2]) g1
  obtain ⟨v3, u3, t3, p3, q3, k4, k5, e3⟩ := tap_ok (m := 2) g2 k2 k3 (by omega) (by omega)
  have c1 : denS GL [] [] lwCh (lf ns (.sh (.int k)) b c d e) s = .ok (.nx (lf ns (.sh (.int k)) (.sh (.ref s.length)) c d e)) (s ++ [AObj.lst [.int u, .int t]]) := by
    unfold lwCh
    rw [denS]
    have : den GL [] [] (.call 4 (.cons (.var 0) (.cons (.var 1) .nil))) false (lf ns (.sh (.int k)) b c d e) s = .ok (.ref s.length) (s ++ [AObj.lst [.int u, .int t]]) := by
      rw [den]
      have : denEs GL [] [] (.cons (.var 0) (.cons (.var 1) .nil)) (lf ns (.sh (.int k)) b c d e) s = .ok [.rol (ns.map .int), .int k] s := rfl
      rw [bnd_ok this]
      exact ec
    rw [bnd_ok this]
    rfl
  have tt : ∀ (s0 s1 : AS) (v : Int) (cd : Sl), d__law_tap [.ref s.length, .int 2] s0 = .ok (.int v) s1 → den GL [] [] lwT false (lf ns (.sh (.int k)) (.sh (.ref s.length)) c d e) s0 = .ok (.int (1 + v)) s1 := by
    intro s0 s1 v cd h
    unfold lwT
    rw [den]
    have a1 : den GL [] [] (.int 1) true (lf ns (.sh (.int k)) (.sh (.ref s.length)) c d e) s0 = .ok (.int 1) s0 := rfl
    rw [bnd_ok a1]
    have a2 : den GL [] [] (.call 3 (.cons (.var 2) (.cons (.int 2) .nil))) true (lf ns (.sh (.int k)) (.sh (.ref s.length)) c d e) s0 = .ok (.int v) s1 := by
      rw [den]
      have : denEs GL [] [] (.cons (.var 2) (.cons (.int 2) .nil)) (lf ns (.sh (.int k)) (.sh (.ref s.length)) c d e) s0 = .ok [.ref s.length, .int 2] s0 := rfl
      rw [bnd_ok this]
      exact h
    rw [bnd_ok a2]
    rfl
  have c2 : denS GL [] [] lwTs (lf ns (.sh (.int k)) (.sh (.ref s.length)) c d e) (s ++ [AObj.lst [.int u, .int t]]) = .ok (.nx (lf ns (.sh (.int k)) (.sh (.ref s.length)) (.sh (.int (1 + v1))) (.sh (.int (1 + v2))) (.sh (.int (1 + v3))))) ((((s ++ [AObj.lst [.int u, .int t]]).set s.length (.lst [.int u1, .int t1])).set s.length (.lst [.int u2, .int t2])).set s.length (.lst [.int u3, .int t3])) := by
    unfold lwTs
    rw [denS]
    have : denEs GL [] [] (.cons lwT (.cons lwT (.cons lwT .nil))) (lf ns (.sh (.int k)) (.sh (.ref s.length)) c d e) (s ++ [AObj.lst [.int u, .int t]]) = .ok [.int (1 + v1), .int (1 + v2), .int (1 + v3)] ((((s ++ [AObj.lst [.int u, .int t]]).set s.length (.lst [.int u1, .int t1])).set s.length (.lst [.int u2, .int t2])).set s.length (.lst [.int u3, .int t3])) := by
      rw [denEs, bnd_ok (tt _ _ _ .no e1)]
      have r2 : denEs GL [] [] (.cons lwT (.cons lwT .nil)) (lf ns (.sh (.int k)) (.sh (.ref s.length)) c d e) ((s ++ [AObj.lst [.int u, .int t]]).set s.length (.lst [.int u1, .int t1])) = .ok [.int (1 + v2), .int (1 + v3)] ((((s ++ [AObj.lst [.int u, .int t]]).set s.length (.lst [.int u1, .int t1])).set s.length (.lst [.int u2, .int t2])).set s.length (.lst [.int u3, .int t3])) := by
        rw [denEs, bnd_ok (tt _ _ _ .no e2)]
        have r3 : denEs GL [] [] (.cons lwT .nil) (lf ns (.sh (.int k)) (.sh (.ref s.length)) c d e) (((s ++ [AObj.lst [.int u, .int t]]).set s.length (.lst [.int u1, .int t1])).set s.length (.lst [.int u2, .int t2])) = .ok [.int (1 + v3)] ((((s ++ [AObj.lst [.int u, .int t]]).set s.length (.lst [.int u1, .int t1])).set s.length (.lst [.int u2, .int t2])).set s.length (.lst [.int u3, .int t3])) := by
          rw [denEs, bnd_ok (tt _ _ _ .no e3)]
          rfl
        rw [bnd_ok r3]
        rfl
      rw [bnd_ok r2]
      rfl
    rw [bnd_ok this]
    rfl
  have c3 : ∀ s3 : AS, denS GL [] [] lwI (lf ns (.sh (.int k)) (.sh (.ref s.length)) (.sh (.int (1 + v1))) (.sh (.int (1 + v2))) (.sh (.int (1 + v3)))) s3 = .ok (.nx (lf ns (.sh (.int k)) (.sh (.ref s.length)) (.sh (.int (1 + v1))) (.sh (.int (1 + v2))) (.sh (.int (1 + v3))))) s3 := by
    intro s3
    have z1 := isin_call (j := 0) (es := .cons (.var 3) (.cons (.var 4) .nil)) (r := lf ns (.sh (.int k)) (.sh (.ref s.length)) (.sh (.int (1 + v1))) (.sh (.int (1 + v2))) (.sh (.int (1 + v3)))) rfl rfl (gd.loop (1 + v1) (1 + v2) (by omega) (by omega) (by omega) (by omega) s3)
    have z2 := isin_call (j := 1) (es := .nil) (r := lf ns (.sh (.int k)) (.sh (.ref s.length)) (.sh (.int (1 + v1))) (.sh (.int (1 + v2))) (.sh (.int (1 + v3)))) rfl rfl (gd.oval s3)
    have z3 := isin_call (j := 2) (es := .cons (.var 3) (.cons (.var 4) (.cons (.var 5) .nil))) (r := lf ns (.sh (.int k)) (.sh (.ref s.length)) (.sh (.int (1 + v1))) (.sh (.int (1 + v2))) (.sh (.int (1 + v3)))) rfl rfl (gd.star (1 + v1) (1 + v2) (1 + v3) (by omega) (by omega) (by omega) (by omega) (by omega) (by omega) s3)
    have tb_den : ∀ (x : M PV) (b : Bool), tb x s3 = .ok b s3 → x s3 = .ok (.bl b) s3 := by
      intro x b h
      unfold tb bnd at h
      cases q : x s3 with
      | ok v s4 =>
        rw [q] at h
        cases v with
        | bl b2 => cases h; rfl
        | _ => cases h
      | exc e s4 => rw [q] at h; cases h
      | stuck => rw [q] at h; cases h
    have y3 := tb_den _ _ z3
    have y23 : den GL [] [] (.or lwC2 lwC3) false (lf ns (.sh (.int k)) (.sh (.ref s.length)) (.sh (.int (1 + v1))) (.sh (.int (1 + v2))) (.sh (.int (1 + v3)))) s3 = .ok (.bl false) s3 := by
      rw [den, tst, bnd_ok (f := _) (by exact z2)]
      exact y3
    have y : tb (den GL [] [] (.or lwC1 (.or lwC2 lwC3)) false (lf ns (.sh (.int k)) (.sh (.ref s.length)) (.sh (.int (1 + v1))) (.sh (.int (1 + v2))) (.sh (.int (1 + v3))))) s3 = .ok false s3 := by
      have : den GL [] [] (.or lwC1 (.or lwC2 lwC3)) false (lf ns (.sh (.int k)) (.sh (.ref s.length)) (.sh (.int (1 + v1))) (.sh (.int (1 + v2))) (.sh (.int (1 + v3)))) s3 = .ok (.bl false) s3 := by
        rw [den, tst, bnd_ok (f := _) (by exact z1)]
        exact y23
      unfold tb
      rw [bnd_ok this]
      rfl
    unfold lwI
    rw [denS, tst, bnd_ok y]
    rfl
  have fin : denSs GL [] [] lwB (lf ns (.sh (.int k)) b c d e) s = .ok (.nx (lf ns (.sh (.int k)) (.sh (.ref s.length)) (.sh (.int (1 + v1))) (.sh (.int (1 + v2))) (.sh (.int (1 + v3))))) ((((s ++ [AObj.lst [.int u, .int t]]).set s.length (.lst [.int u1, .int t1])).set s.length (.lst [.int u2, .int t2])).set s.length (.lst [.int u3, .int t3])) := by
    unfold lwB
    rw [denSs, bnd_ok c1]
    simp only
    rw [denSs, bnd_ok c2]
    simp only
    rw [denSs, bnd_ok (c3 _)]
    rfl
  exact ⟨_, _, _, _, _, _, fin⟩
theorem lw_for (gd : Good) (ns : List Int) : ∀ (xs : List PV), (∀ x ∈ xs, ∃ k : Nat, k < 10 ∧ x = .int k) → ∀ (a b c d e : Sl) (s : AS), ∃ a' b' c' d' e' s', forGo (fun x r1 => bnd (opt (bindT (.nm 1) x r1)) fun r2 => denSs GL [] [] lwB r2) xs (lf ns a b c d e) s = .ok (.nx (lf ns a' b' c' d' e')) s'
  | [], _, a, b, c, d, e, s => ⟨a, b, c, d, e, s, rfl⟩
  | x :: xs, h, a, b, c, d, e, s => by
    obtain ⟨k, hk, rfl⟩ := h x (by simp)
    obtain ⟨a1, b1, c1, d1, e1, s1, z⟩ := lw_body gd ns k hk a b c d e s
    obtain ⟨a2, b2, c2, d2, e2, s2, y⟩ := lw_for gd ns xs (fun x hx => h x (by simp [hx])) a1 b1 c1 d1 e1 s1
    refine ⟨a2, b2, c2, d2, e2, s2, ?_⟩
    rw [forGo]
    have t : bnd (opt (bindT (.nm 1) (.int k) (lf ns a b c d e))) (fun r2 => denSs GL [] [] lwB r2) s = .ok (.nx (lf ns a1 b1 c1 d1 e1)) s1 := z
    rw [bnd_ok t]
    exact y
theorem rangeP_mem : ∀ (n : Nat) (lo : Nat) (x : PV), x ∈ rangeP lo n → ∃ k : Nat, k < lo + n ∧ x = .int k
  | 0, lo, x, h => by simp [rangeP] at h
  | n + 1, lo, x, h => by
    rw [rangeP] at h
    rcases List.mem_cons.mp h with h | h
    · exact ⟨lo, by omega, h⟩
    · obtain ⟨k, h1, h2⟩ := rangeP_mem n (lo + 1) x (by simpa using h)
      exact ⟨k, by omega, h2⟩
theorem lw_it (ns : List Int) (s : AS) : ∃ xs, (∀ x ∈ xs, ∃ k : Nat, k < 10 ∧ x = .int k) ∧ denIt GL [] [] lwIt false (lf ns .no .no .no .no .no) s = .ok xs s := by
  have key : ∃ n : Int, n ≤ 5 ∧ 1 ≤ n ∧ den GL [] [] (.max2 (.int 1) (.min2 (.int 5) (.b1 .len (.var 0)))) false (lf ns .no .no .no .no .no) s = .ok (.int n) s := by
    refine ⟨if (if (ns.length : Int) < 5 then (ns.length : Int) else 5) > 1 then (if (ns.length : Int) < 5 then (ns.length : Int) else 5) else 1, by split <;> (try split) <;> omega, by split <;> omega, ?_⟩
    simp [den, lf, Fm.get, bnd, ret, opt, Res.andThen, b1P]
  obtain ⟨n, h1, h2, e⟩ := key
  refine ⟨rangeP 0 n.toNat, fun x hx => ?_, ?_⟩
  · obtain ⟨k, q1, q2⟩ := rangeP_mem n.toNat 0 x (by simpa using hx)
    exact ⟨k, by omega, q2⟩
  · unfold lwIt
    rw [denIt, bnd_ok e]
    simp only [rangeOf]
    rw [if_pos (by omega)]
    rfl
theorem law_true' (gd : Good) (ns : List Int) : ∃ s, d_law [.rol (ns.map .int)] [] = .ok (.bl true) s := by
  obtain ⟨xs, hx, e1⟩ := lw_it ns []
  obtain ⟨a, b, c, d, e, s, e2⟩ := lw_for gd ns xs hx .no .no .no .no .no []
  refine ⟨s, ?_⟩
  have z : denSs GL [] [] ir_law (lf ns .no .no .no .no .no) [] = .ok (.rt (.bl true)) s := by
    have z1 : denS GL [] [] (.for_ (.nm 1) lwIt lwB) (lf ns .no .no .no .no .no) [] = .ok (.nx (lf ns a b c d e)) s := by
      rw [denS, bnd_ok e1]
      exact e2
    rw [lw_ir, denSs, bnd_ok z1]
    rfl
  unfold d_law run
  exact bnd_ok z
end RP

namespace RP
open PySem
/-! the oval, statement by statement, printed by oval.py. Own work. -/
def ovJ : PV := .tup [.tup [.tup [.int 0, .str "a"], .tup [.int 1, .str "a"], .int 1], .tup [.tup [.int 0, .str "b"], .tup [.int 1, .str "b"], .int 2], .tup [.tup [.int 0, .str "c"], .tup [.int 1, .str "c"], .int 1]]
def ovT : PV := .tup [.tup [.str "lazy", .str "lazy"], ovJ]
def ovP (i j : Int) (x y : Str) : PV := .tup [.tup [.int i, .str x], .tup [.int j, .str y]]
def ovD : PV := .lst [ovP 0 1 "a" "b", ovP 0 1 "a" "c", ovP 0 1 "b" "a", ovP 0 1 "c" "a"]
def ovE (x : Str) (i : Int) : PV := .tup [.tup [.int 0, .str x], .int i]
abbrev GO : List Den := [d_parting, d_mirrored, d_kind_changes, d_can_avoid, d_holds, d_bring_row, d_least_hands, d_bring, d_safe_pairs, d_meeting, d_safe_standings, d_latest, d_sure, d_once, d_never, d_for_ever, d_ring]
def ov0 : S := (.set 0 (.tup (.cons (.tup (.cons (.tup (.cons (.int 0) (.cons (.str "a") .nil))) (.cons (.tup (.cons (.int 1) (.cons (.str "a") .nil))) (.cons (.int 1) .nil)))) (.cons (.tup (.cons (.tup (.cons (.int 0) (.cons (.str "b") .nil))) (.cons (.tup (.cons (.int 1) (.cons (.str "b") .nil))) (.cons (.int 2) .nil)))) (.cons (.tup (.cons (.tup (.cons (.int 0) (.cons (.str "c") .nil))) (.cons (.tup (.cons (.int 1) (.cons (.str "c") .nil))) (.cons (.int 1) .nil)))) .nil)))))
def ov1 : S := (.set 1 (.tup (.cons (.tup (.cons (.str "lazy") (.cons (.str "lazy") .nil))) (.cons (.var 0) .nil))))
def ov2 : S := (.setO 2 (.lst (.cons (.cmp .eq (.call 16 (.cons (.var 1) (.cons (.tup (.cons (.int 0) (.cons (.str "a") .nil))) (.cons (.tup (.cons (.str "b") (.cons (.str "c") .nil))) .nil)))) (.tup (.cons (.int 2) (.cons (.int 2) (.cons (.int 3) .nil))))) (.cons (.cmp .eq (.call 15 (.cons (.var 1) (.cons (.tup (.cons (.int 0) (.cons (.str "a") .nil))) (.cons (.tup (.cons (.str "b") (.cons (.str "c") .nil))) .nil)))) (.lst (.cons (.int 0) (.cons (.int 1) .nil)))) .nil))))
def ov3 : S := (.app 2 (.and (.cmp .eq (.call 13 (.cons (.var 1) (.cons (.tup (.cons (.int 0) (.cons (.str "a") .nil))) (.cons (.tup (.cons (.str "b") (.cons (.str "c") .nil))) .nil)))) (.lst .nil)) (.cmp .eq (.call 14 (.cons (.var 1) (.cons (.tup (.cons (.int 0) (.cons (.str "a") .nil))) (.cons (.tup (.cons (.str "b") (.cons (.str "c") .nil))) .nil)))) (.lst (.cons (.int 2) .nil)))))
def ov4 : S := (.app 2 (.and (.cmp .eq (.call 12 (.cons (.var 1) (.cons (.tup (.cons (.int 0) (.cons (.str "a") .nil))) .nil))) (.lst (.cons (.int 0) .nil))) (.cmp .eq (.call 11 (.cons (.var 1) (.cons (.tup (.cons (.int 0) (.cons (.str "a") .nil))) (.cons (.int 0) .nil)))) (.int 2))))
def ov5 : S := (.app 2 (.isN (.call 11 (.cons (.var 1) (.cons (.tup (.cons (.int 0) (.cons (.str "a") .nil))) (.cons (.int 1) .nil))))))
def ov6 : S := (.setT [4, 5] (.tup (.cons (.tup (.cons (.tup (.cons (.int 0) (.cons (.str "a") .nil))) (.cons (.int 0) .nil))) (.cons (.tup (.cons (.tup (.cons (.int 0) (.cons (.str "b") .nil))) (.cons (.int 1) .nil))) .nil))))
def ov7 : S := (.app 2 (.isN (.call 9 (.cons (.var 1) (.cons (.var 4) (.cons (.tup (.cons (.tup (.cons (.int 1) (.cons (.str "b") .nil))) (.cons (.int 0) .nil))) (.cons (.tup (.cons (.str "b") (.cons (.str "b") .nil))) .nil)))))))
def ov8 : S := (.app 2 (.cmp .eq (.call 9 (.cons (.var 1) (.cons (.var 4) (.cons (.tup (.cons (.tup (.cons (.int 1) (.cons (.str "a") .nil))) (.cons (.int 0) .nil))) (.cons (.tup (.cons (.str "b") (.cons (.str "b") .nil))) .nil))))) (.int 0)))
def ov9 : S := (.app 2 (.and (.cmp .eq (.call 9 (.cons (.var 1) (.cons (.var 4) (.cons (.var 5) (.cons (.tup (.cons (.str "c") (.cons (.str "b") .nil))) .nil))))) (.int 1)) (.cmp .eq (.call 10 (.cons (.var 1) (.cons (.var 4) (.cons (.var 5) .nil)))) (.lst .nil))))
def ov10 : S := (.set 3 (.lst (.cons (.tup (.cons (.tup (.cons (.int 0) (.cons (.str "a") .nil))) (.cons (.tup (.cons (.int 1) (.cons (.str "b") .nil))) .nil))) (.cons (.tup (.cons (.tup (.cons (.int 0) (.cons (.str "a") .nil))) (.cons (.tup (.cons (.int 1) (.cons (.str "c") .nil))) .nil))) (.cons (.tup (.cons (.tup (.cons (.int 0) (.cons (.str "b") .nil))) (.cons (.tup (.cons (.int 1) (.cons (.str "a") .nil))) .nil))) (.cons (.tup (.cons (.tup (.cons (.int 0) (.cons (.str "c") .nil))) (.cons (.tup (.cons (.int 1) (.cons (.str "a") .nil))) .nil))) .nil))))))
def ov11 : S := (.app 2 (.and (.cmp .eq (.call 8 (.cons (.var 1) .nil)) (.var 3)) (.cmp .eq (.b1 .len (.call 3 (.cons (.var 1) (.cons (.tup .nil) (.cons (.int 2) .nil))))) (.int 12))))
def ov12 : S := (.app 2 (.cmp .eq (.call 7 (.cons (.var 1) (.cons (.tup (.cons (.int 0) .nil)) (.cons (.tup (.cons (.int 0) (.cons (.str "a") .nil))) (.cons (.tup (.cons (.str "b") (.cons (.str "b") .nil))) (.cons (.int 2) .nil)))))) (.int 1)))
def ov13 : S := (.app 2 (.isN (.call 7 (.cons (.var 1) (.cons (.tup (.cons (.int 1) .nil)) (.cons (.tup (.cons (.int 0) (.cons (.str "a") .nil))) (.cons (.tup (.cons (.str "b") (.cons (.str "b") .nil))) (.cons (.int 2) .nil))))))))
def ov14 : S := (.app 2 (.and (.cmp .eq (.call 5 (.cons (.var 1) (.cons (.tup (.cons (.int 0) .nil)) (.cons (.tup (.cons (.int 0) (.cons (.str "a") .nil))) (.cons (.tup (.cons (.str "b") (.cons (.str "b") .nil))) (.cons (.int 2) .nil)))))) (.tup (.cons (.int 0) .nil))) (.cmp .eq (.call 6 (.cons (.var 1) (.cons (.int 2) .nil))) (.lst (.cons (.tup (.cons (.int 0) (.cons (.int 1) .nil))) .nil)))))
def ov15 : S := (.app 2 (.and (.cmp .eq (.b1 .len (.call 3 (.cons (.var 1) (.cons (.tup (.cons (.int 0) (.cons (.int 1) .nil))) (.cons (.int 2) .nil))))) (.int 24)) (.call 4 (.cons (.var 1) (.cons (.int 0) (.cons (.str "ever") .nil))))))
def ov16 : S := (.app 2 (.cmp .eq (.call 2 (.cons (.var 1) (.cons (.int 2) (.cons (.str "ever") .nil)))) (.lst .nil)))
def ov17 : S := (.retE (.bin .add (.var 2) (.lst (.cons (.cmp .eq (.call 0 (.cons (.var 1) (.cons (.call 1 (.cons (.var 1) .nil)) .nil))) (.tup (.cons (.tup (.cons (.int 0) (.cons (.str "a") .nil))) (.cons (.tup (.cons (.str "b") (.cons (.str "b") .nil))) (.cons (.int 1) .nil))))) .nil))))
abbrev G_st : List Den := [d_along, d_over]
theorem gl_st : GL2 G_st [d_along, d_over] := (GL2.cons (fun _ => ml _) (GL2.cons (fun _ => ml _) GL2.nil))
def a_st_0 : List PV := [ovT, .tup [.tup [.int 0, .str "a"], .tup [.str "b", .str "b"]]]
def v_st_0 : PV := .tup [.tup [.tup [.int 1, .str "b"], .tup [.str "b", .str "b"]], .int 1, .int 2]
theorem e_st_0 : ∀ s, d_step a_st_0 s = .ok v_st_0 s := fun s => by_less gl_st (by kernel_rfl)
def a_st_1 : List PV := [ovT, .tup [.tup [.int 0, .str "a"], .tup [.str "b", .str "c"]]]
def v_st_1 : PV := .tup [.tup [.tup [.int 1, .str "b"], .tup [.str "b", .str "c"]], .int 1, .int 2]
theorem e_st_1 : ∀ s, d_step a_st_1 s = .ok v_st_1 s := fun s => by_less gl_st (by kernel_rfl)
def a_st_2 : List PV := [ovT, .tup [.tup [.int 0, .str "a"], .tup [.str "c", .str "b"]]]
def v_st_2 : PV := .tup [.tup [.tup [.int 1, .str "c"], .tup [.str "c", .str "b"]], .int 2, .int 1]
theorem e_st_2 : ∀ s, d_step a_st_2 s = .ok v_st_2 s := fun s => by_less gl_st (by kernel_rfl)
def a_st_3 : List PV := [ovT, .tup [.tup [.int 0, .str "a"], .tup [.str "c", .str "c"]]]
def v_st_3 : PV := .tup [.tup [.tup [.int 1, .str "c"], .tup [.str "c", .str "c"]], .int 2, .int 1]
theorem e_st_3 : ∀ s, d_step a_st_3 s = .ok v_st_3 s := fun s => by_less gl_st (by kernel_rfl)
def a_st_4 : List PV := [ovT, .tup [.tup [.int 0, .str "b"], .tup [.str "b", .str "b"]]]
def v_st_4 : PV := .tup [.tup [.tup [.int 1, .str "a"], .tup [.str "b", .str "b"]], .int 0, .int 1]
theorem e_st_4 : ∀ s, d_step a_st_4 s = .ok v_st_4 s := fun s => by_less gl_st (by kernel_rfl)
def a_st_5 : List PV := [ovT, .tup [.tup [.int 0, .str "b"], .tup [.str "b", .str "c"]]]
def v_st_5 : PV := .tup [.tup [.tup [.int 1, .str "a"], .tup [.str "b", .str "c"]], .int 0, .int 1]
theorem e_st_5 : ∀ s, d_step a_st_5 s = .ok v_st_5 s := fun s => by_less gl_st (by kernel_rfl)
def a_st_6 : List PV := [ovT, .tup [.tup [.int 0, .str "b"], .tup [.str "c", .str "b"]]]
def v_st_6 : PV := .tup [.tup [.tup [.int 1, .str "a"], .tup [.str "b", .str "b"]], .int 0, .int 1]
theorem e_st_6 : ∀ s, d_step a_st_6 s = .ok v_st_6 s := fun s => by_less gl_st (by kernel_rfl)
def a_st_7 : List PV := [ovT, .tup [.tup [.int 0, .str "b"], .tup [.str "c", .str "c"]]]
def v_st_7 : PV := .tup [.tup [.tup [.int 1, .str "a"], .tup [.str "b", .str "c"]], .int 0, .int 1]
theorem e_st_7 : ∀ s, d_step a_st_7 s = .ok v_st_7 s := fun s => by_less gl_st (by kernel_rfl)
def a_st_8 : List PV := [ovT, .tup [.tup [.int 0, .str "c"], .tup [.str "b", .str "b"]]]
def v_st_8 : PV := .tup [.tup [.tup [.int 1, .str "a"], .tup [.str "c", .str "b"]], .int 0, .int 1]
theorem e_st_8 : ∀ s, d_step a_st_8 s = .ok v_st_8 s := fun s => by_less gl_st (by kernel_rfl)
def a_st_9 : List PV := [ovT, .tup [.tup [.int 0, .str "c"], .tup [.str "b", .str "c"]]]
def v_st_9 : PV := .tup [.tup [.tup [.int 1, .str "a"], .tup [.str "c", .str "c"]], .int 0, .int 1]
theorem e_st_9 : ∀ s, d_step a_st_9 s = .ok v_st_9 s := fun s => by_less gl_st (by kernel_rfl)
def a_st_10 : List PV := [ovT, .tup [.tup [.int 0, .str "c"], .tup [.str "c", .str "b"]]]
def v_st_10 : PV := .tup [.tup [.tup [.int 1, .str "a"], .tup [.str "c", .str "b"]], .int 0, .int 1]
theorem e_st_10 : ∀ s, d_step a_st_10 s = .ok v_st_10 s := fun s => by_less gl_st (by kernel_rfl)
def a_st_11 : List PV := [ovT, .tup [.tup [.int 0, .str "c"], .tup [.str "c", .str "c"]]]
def v_st_11 : PV := .tup [.tup [.tup [.int 1, .str "a"], .tup [.str "c", .str "c"]], .int 0, .int 1]
theorem e_st_11 : ∀ s, d_step a_st_11 s = .ok v_st_11 s := fun s => by_less gl_st (by kernel_rfl)
def a_st_12 : List PV := [ovT, .tup [.tup [.int 1, .str "a"], .tup [.str "b", .str "b"]]]
def v_st_12 : PV := .tup [.tup [.tup [.int 0, .str "b"], .tup [.str "b", .str "b"]], .int 1, .int 2]
theorem e_st_12 : ∀ s, d_step a_st_12 s = .ok v_st_12 s := fun s => by_less gl_st (by kernel_rfl)
def a_st_13 : List PV := [ovT, .tup [.tup [.int 1, .str "a"], .tup [.str "b", .str "c"]]]
def v_st_13 : PV := .tup [.tup [.tup [.int 0, .str "c"], .tup [.str "b", .str "c"]], .int 2, .int 1]
theorem e_st_13 : ∀ s, d_step a_st_13 s = .ok v_st_13 s := fun s => by_less gl_st (by kernel_rfl)
def a_st_14 : List PV := [ovT, .tup [.tup [.int 1, .str "a"], .tup [.str "c", .str "b"]]]
def v_st_14 : PV := .tup [.tup [.tup [.int 0, .str "b"], .tup [.str "c", .str "b"]], .int 1, .int 2]
theorem e_st_14 : ∀ s, d_step a_st_14 s = .ok v_st_14 s := fun s => by_less gl_st (by kernel_rfl)
def a_st_15 : List PV := [ovT, .tup [.tup [.int 1, .str "a"], .tup [.str "c", .str "c"]]]
def v_st_15 : PV := .tup [.tup [.tup [.int 0, .str "c"], .tup [.str "c", .str "c"]], .int 2, .int 1]
theorem e_st_15 : ∀ s, d_step a_st_15 s = .ok v_st_15 s := fun s => by_less gl_st (by kernel_rfl)
def a_st_16 : List PV := [ovT, .tup [.tup [.int 1, .str "b"], .tup [.str "b", .str "b"]]]
def v_st_16 : PV := .tup [.tup [.tup [.int 0, .str "a"], .tup [.str "b", .str "b"]], .int 0, .int 1]
theorem e_st_16 : ∀ s, d_step a_st_16 s = .ok v_st_16 s := fun s => by_less gl_st (by kernel_rfl)
def a_st_17 : List PV := [ovT, .tup [.tup [.int 1, .str "b"], .tup [.str "b", .str "c"]]]
def v_st_17 : PV := .tup [.tup [.tup [.int 0, .str "a"], .tup [.str "b", .str "b"]], .int 0, .int 1]
theorem e_st_17 : ∀ s, d_step a_st_17 s = .ok v_st_17 s := fun s => by_less gl_st (by kernel_rfl)
def a_st_18 : List PV := [ovT, .tup [.tup [.int 1, .str "b"], .tup [.str "c", .str "b"]]]
def v_st_18 : PV := .tup [.tup [.tup [.int 0, .str "a"], .tup [.str "c", .str "b"]], .int 0, .int 1]
theorem e_st_18 : ∀ s, d_step a_st_18 s = .ok v_st_18 s := fun s => by_less gl_st (by kernel_rfl)
def a_st_19 : List PV := [ovT, .tup [.tup [.int 1, .str "b"], .tup [.str "c", .str "c"]]]
def v_st_19 : PV := .tup [.tup [.tup [.int 0, .str "a"], .tup [.str "c", .str "b"]], .int 0, .int 1]
theorem e_st_19 : ∀ s, d_step a_st_19 s = .ok v_st_19 s := fun s => by_less gl_st (by kernel_rfl)
def a_st_20 : List PV := [ovT, .tup [.tup [.int 1, .str "c"], .tup [.str "b", .str "b"]]]
def v_st_20 : PV := .tup [.tup [.tup [.int 0, .str "a"], .tup [.str "b", .str "c"]], .int 0, .int 1]
theorem e_st_20 : ∀ s, d_step a_st_20 s = .ok v_st_20 s := fun s => by_less gl_st (by kernel_rfl)
def a_st_21 : List PV := [ovT, .tup [.tup [.int 1, .str "c"], .tup [.str "b", .str "c"]]]
def v_st_21 : PV := .tup [.tup [.tup [.int 0, .str "a"], .tup [.str "b", .str "c"]], .int 0, .int 1]
theorem e_st_21 : ∀ s, d_step a_st_21 s = .ok v_st_21 s := fun s => by_less gl_st (by kernel_rfl)
def a_st_22 : List PV := [ovT, .tup [.tup [.int 1, .str "c"], .tup [.str "c", .str "b"]]]
def v_st_22 : PV := .tup [.tup [.tup [.int 0, .str "a"], .tup [.str "c", .str "c"]], .int 0, .int 1]
theorem e_st_22 : ∀ s, d_step a_st_22 s = .ok v_st_22 s := fun s => by_less gl_st (by kernel_rfl)
def a_st_23 : List PV := [ovT, .tup [.tup [.int 1, .str "c"], .tup [.str "c", .str "c"]]]
def v_st_23 : PV := .tup [.tup [.tup [.int 0, .str "a"], .tup [.str "c", .str "c"]], .int 0, .int 1]
theorem e_st_23 : ∀ s, d_step a_st_23 s = .ok v_st_23 s := fun s => by_less gl_st (by kernel_rfl)
def t_st : List (List PV × PV) := [(a_st_0, v_st_0), (a_st_1, v_st_1), (a_st_2, v_st_2), (a_st_3, v_st_3), (a_st_4, v_st_4), (a_st_5, v_st_5), (a_st_6, v_st_6), (a_st_7, v_st_7), (a_st_8, v_st_8), (a_st_9, v_st_9), (a_st_10, v_st_10), (a_st_11, v_st_11), (a_st_12, v_st_12), (a_st_13, v_st_13), (a_st_14, v_st_14), (a_st_15, v_st_15), (a_st_16, v_st_16), (a_st_17, v_st_17), (a_st_18, v_st_18), (a_st_19, v_st_19), (a_st_20, v_st_20), (a_st_21, v_st_21), (a_st_22, v_st_22), (a_st_23, v_st_23)]
theorem k_st : Knows d_step t_st := (knows_cons e_st_0 (knows_cons e_st_1 (knows_cons e_st_2 (knows_cons e_st_3 (knows_cons e_st_4 (knows_cons e_st_5 (knows_cons e_st_6 (knows_cons e_st_7 (knows_cons e_st_8 (knows_cons e_st_9 (knows_cons e_st_10 (knows_cons e_st_11 (knows_cons e_st_12 (knows_cons e_st_13 (knows_cons e_st_14 (knows_cons e_st_15 (knows_cons e_st_16 (knows_cons e_st_17 (knows_cons e_st_18 (knows_cons e_st_19 (knows_cons e_st_20 (knows_cons e_st_21 (knows_cons e_st_22 (knows_cons e_st_23 knows_nil))))))))))))))))))))))))
abbrev G_ch0 : List Den := [(orc t_st), d_turned]
theorem gl_ch0 : GL2 G_ch0 [d_step, d_turned] := (GL2.cons (orc_le k_st) (GL2.cons (fun _ => ml _) GL2.nil))
def a_ch0_0 : List PV := [ovT, .tup [], .tup [.tup [.int 0, .str "a"], .tup [.str "b", .str "b"]]]
def v_ch0_0 : PV := .lst [.tup [.int (-1), .tup [.tup [.int 1, .str "b"], .tup [.str "b", .str "b"]], .int 1]]
theorem e_ch0_0 : ∀ s, d_choices a_ch0_0 s = .ok v_ch0_0 s := fun s => by_less gl_ch0 (by kernel_rfl)
def a_ch0_1 : List PV := [ovT, .tup [], .tup [.tup [.int 0, .str "a"], .tup [.str "b", .str "c"]]]
def v_ch0_1 : PV := .lst [.tup [.int (-1), .tup [.tup [.int 1, .str "b"], .tup [.str "b", .str "c"]], .int 1]]
theorem e_ch0_1 : ∀ s, d_choices a_ch0_1 s = .ok v_ch0_1 s := fun s => by_less gl_ch0 (by kernel_rfl)
def a_ch0_2 : List PV := [ovT, .tup [], .tup [.tup [.int 0, .str "a"], .tup [.str "c", .str "b"]]]
def v_ch0_2 : PV := .lst [.tup [.int (-1), .tup [.tup [.int 1, .str "c"], .tup [.str "c", .str "b"]], .int 2]]
theorem e_ch0_2 : ∀ s, d_choices a_ch0_2 s = .ok v_ch0_2 s := fun s => by_less gl_ch0 (by kernel_rfl)
def a_ch0_3 : List PV := [ovT, .tup [], .tup [.tup [.int 0, .str "a"], .tup [.str "c", .str "c"]]]
def v_ch0_3 : PV := .lst [.tup [.int (-1), .tup [.tup [.int 1, .str "c"], .tup [.str "c", .str "c"]], .int 2]]
theorem e_ch0_3 : ∀ s, d_choices a_ch0_3 s = .ok v_ch0_3 s := fun s => by_less gl_ch0 (by kernel_rfl)
def a_ch0_4 : List PV := [ovT, .tup [], .tup [.tup [.int 0, .str "b"], .tup [.str "b", .str "b"]]]
def v_ch0_4 : PV := .lst [.tup [.int (-1), .tup [.tup [.int 1, .str "a"], .tup [.str "b", .str "b"]], .int 0]]
theorem e_ch0_4 : ∀ s, d_choices a_ch0_4 s = .ok v_ch0_4 s := fun s => by_less gl_ch0 (by kernel_rfl)
def a_ch0_5 : List PV := [ovT, .tup [], .tup [.tup [.int 0, .str "b"], .tup [.str "b", .str "c"]]]
def v_ch0_5 : PV := .lst [.tup [.int (-1), .tup [.tup [.int 1, .str "a"], .tup [.str "b", .str "c"]], .int 0]]
theorem e_ch0_5 : ∀ s, d_choices a_ch0_5 s = .ok v_ch0_5 s := fun s => by_less gl_ch0 (by kernel_rfl)
def a_ch0_6 : List PV := [ovT, .tup [], .tup [.tup [.int 0, .str "b"], .tup [.str "c", .str "b"]]]
def v_ch0_6 : PV := .lst [.tup [.int (-1), .tup [.tup [.int 1, .str "a"], .tup [.str "b", .str "b"]], .int 0]]
theorem e_ch0_6 : ∀ s, d_choices a_ch0_6 s = .ok v_ch0_6 s := fun s => by_less gl_ch0 (by kernel_rfl)
def a_ch0_7 : List PV := [ovT, .tup [], .tup [.tup [.int 0, .str "b"], .tup [.str "c", .str "c"]]]
def v_ch0_7 : PV := .lst [.tup [.int (-1), .tup [.tup [.int 1, .str "a"], .tup [.str "b", .str "c"]], .int 0]]
theorem e_ch0_7 : ∀ s, d_choices a_ch0_7 s = .ok v_ch0_7 s := fun s => by_less gl_ch0 (by kernel_rfl)
def a_ch0_8 : List PV := [ovT, .tup [], .tup [.tup [.int 0, .str "c"], .tup [.str "b", .str "b"]]]
def v_ch0_8 : PV := .lst [.tup [.int (-1), .tup [.tup [.int 1, .str "a"], .tup [.str "c", .str "b"]], .int 0]]
theorem e_ch0_8 : ∀ s, d_choices a_ch0_8 s = .ok v_ch0_8 s := fun s => by_less gl_ch0 (by kernel_rfl)
def a_ch0_9 : List PV := [ovT, .tup [], .tup [.tup [.int 0, .str "c"], .tup [.str "b", .str "c"]]]
def v_ch0_9 : PV := .lst [.tup [.int (-1), .tup [.tup [.int 1, .str "a"], .tup [.str "c", .str "c"]], .int 0]]
theorem e_ch0_9 : ∀ s, d_choices a_ch0_9 s = .ok v_ch0_9 s := fun s => by_less gl_ch0 (by kernel_rfl)
def a_ch0_10 : List PV := [ovT, .tup [], .tup [.tup [.int 0, .str "c"], .tup [.str "c", .str "b"]]]
def v_ch0_10 : PV := .lst [.tup [.int (-1), .tup [.tup [.int 1, .str "a"], .tup [.str "c", .str "b"]], .int 0]]
theorem e_ch0_10 : ∀ s, d_choices a_ch0_10 s = .ok v_ch0_10 s := fun s => by_less gl_ch0 (by kernel_rfl)
def a_ch0_11 : List PV := [ovT, .tup [], .tup [.tup [.int 0, .str "c"], .tup [.str "c", .str "c"]]]
def v_ch0_11 : PV := .lst [.tup [.int (-1), .tup [.tup [.int 1, .str "a"], .tup [.str "c", .str "c"]], .int 0]]
theorem e_ch0_11 : ∀ s, d_choices a_ch0_11 s = .ok v_ch0_11 s := fun s => by_less gl_ch0 (by kernel_rfl)
def a_ch0_12 : List PV := [ovT, .tup [], .tup [.tup [.int 1, .str "a"], .tup [.str "b", .str "b"]]]
def v_ch0_12 : PV := .lst [.tup [.int (-1), .tup [.tup [.int 0, .str "b"], .tup [.str "b", .str "b"]], .int 1]]
theorem e_ch0_12 : ∀ s, d_choices a_ch0_12 s = .ok v_ch0_12 s := fun s => by_less gl_ch0 (by kernel_rfl)
def a_ch0_13 : List PV := [ovT, .tup [], .tup [.tup [.int 1, .str "a"], .tup [.str "b", .str "c"]]]
def v_ch0_13 : PV := .lst [.tup [.int (-1), .tup [.tup [.int 0, .str "c"], .tup [.str "b", .str "c"]], .int 2]]
theorem e_ch0_13 : ∀ s, d_choices a_ch0_13 s = .ok v_ch0_13 s := fun s => by_less gl_ch0 (by kernel_rfl)
def a_ch0_14 : List PV := [ovT, .tup [], .tup [.tup [.int 1, .str "a"], .tup [.str "c", .str "b"]]]
def v_ch0_14 : PV := .lst [.tup [.int (-1), .tup [.tup [.int 0, .str "b"], .tup [.str "c", .str "b"]], .int 1]]
theorem e_ch0_14 : ∀ s, d_choices a_ch0_14 s = .ok v_ch0_14 s := fun s => by_less gl_ch0 (by kernel_rfl)
def a_ch0_15 : List PV := [ovT, .tup [], .tup [.tup [.int 1, .str "a"], .tup [.str "c", .str "c"]]]
def v_ch0_15 : PV := .lst [.tup [.int (-1), .tup [.tup [.int 0, .str "c"], .tup [.str "c", .str "c"]], .int 2]]
theorem e_ch0_15 : ∀ s, d_choices a_ch0_15 s = .ok v_ch0_15 s := fun s => by_less gl_ch0 (by kernel_rfl)
def a_ch0_16 : List PV := [ovT, .tup [], .tup [.tup [.int 1, .str "b"], .tup [.str "b", .str "b"]]]
def v_ch0_16 : PV := .lst [.tup [.int (-1), .tup [.tup [.int 0, .str "a"], .tup [.str "b", .str "b"]], .int 0]]
theorem e_ch0_16 : ∀ s, d_choices a_ch0_16 s = .ok v_ch0_16 s := fun s => by_less gl_ch0 (by kernel_rfl)
def a_ch0_17 : List PV := [ovT, .tup [], .tup [.tup [.int 1, .str "b"], .tup [.str "b", .str "c"]]]
def v_ch0_17 : PV := .lst [.tup [.int (-1), .tup [.tup [.int 0, .str "a"], .tup [.str "b", .str "b"]], .int 0]]
theorem e_ch0_17 : ∀ s, d_choices a_ch0_17 s = .ok v_ch0_17 s := fun s => by_less gl_ch0 (by kernel_rfl)
def a_ch0_18 : List PV := [ovT, .tup [], .tup [.tup [.int 1, .str "b"], .tup [.str "c", .str "b"]]]
def v_ch0_18 : PV := .lst [.tup [.int (-1), .tup [.tup [.int 0, .str "a"], .tup [.str "c", .str "b"]], .int 0]]
theorem e_ch0_18 : ∀ s, d_choices a_ch0_18 s = .ok v_ch0_18 s := fun s => by_less gl_ch0 (by kernel_rfl)
def a_ch0_19 : List PV := [ovT, .tup [], .tup [.tup [.int 1, .str "b"], .tup [.str "c", .str "c"]]]
def v_ch0_19 : PV := .lst [.tup [.int (-1), .tup [.tup [.int 0, .str "a"], .tup [.str "c", .str "b"]], .int 0]]
theorem e_ch0_19 : ∀ s, d_choices a_ch0_19 s = .ok v_ch0_19 s := fun s => by_less gl_ch0 (by kernel_rfl)
def a_ch0_20 : List PV := [ovT, .tup [], .tup [.tup [.int 1, .str "c"], .tup [.str "b", .str "b"]]]
def v_ch0_20 : PV := .lst [.tup [.int (-1), .tup [.tup [.int 0, .str "a"], .tup [.str "b", .str "c"]], .int 0]]
theorem e_ch0_20 : ∀ s, d_choices a_ch0_20 s = .ok v_ch0_20 s := fun s => by_less gl_ch0 (by kernel_rfl)
def a_ch0_21 : List PV := [ovT, .tup [], .tup [.tup [.int 1, .str "c"], .tup [.str "b", .str "c"]]]
def v_ch0_21 : PV := .lst [.tup [.int (-1), .tup [.tup [.int 0, .str "a"], .tup [.str "b", .str "c"]], .int 0]]
theorem e_ch0_21 : ∀ s, d_choices a_ch0_21 s = .ok v_ch0_21 s := fun s => by_less gl_ch0 (by kernel_rfl)
def a_ch0_22 : List PV := [ovT, .tup [], .tup [.tup [.int 1, .str "c"], .tup [.str "c", .str "b"]]]
def v_ch0_22 : PV := .lst [.tup [.int (-1), .tup [.tup [.int 0, .str "a"], .tup [.str "c", .str "c"]], .int 0]]
theorem e_ch0_22 : ∀ s, d_choices a_ch0_22 s = .ok v_ch0_22 s := fun s => by_less gl_ch0 (by kernel_rfl)
def a_ch0_23 : List PV := [ovT, .tup [], .tup [.tup [.int 1, .str "c"], .tup [.str "c", .str "c"]]]
def v_ch0_23 : PV := .lst [.tup [.int (-1), .tup [.tup [.int 0, .str "a"], .tup [.str "c", .str "c"]], .int 0]]
theorem e_ch0_23 : ∀ s, d_choices a_ch0_23 s = .ok v_ch0_23 s := fun s => by_less gl_ch0 (by kernel_rfl)
def t_ch0 : List (List PV × PV) := [(a_ch0_0, v_ch0_0), (a_ch0_1, v_ch0_1), (a_ch0_2, v_ch0_2), (a_ch0_3, v_ch0_3), (a_ch0_4, v_ch0_4), (a_ch0_5, v_ch0_5), (a_ch0_6, v_ch0_6), (a_ch0_7, v_ch0_7), (a_ch0_8, v_ch0_8), (a_ch0_9, v_ch0_9), (a_ch0_10, v_ch0_10), (a_ch0_11, v_ch0_11), (a_ch0_12, v_ch0_12), (a_ch0_13, v_ch0_13), (a_ch0_14, v_ch0_14), (a_ch0_15, v_ch0_15), (a_ch0_16, v_ch0_16), (a_ch0_17, v_ch0_17), (a_ch0_18, v_ch0_18), (a_ch0_19, v_ch0_19), (a_ch0_20, v_ch0_20), (a_ch0_21, v_ch0_21), (a_ch0_22, v_ch0_22), (a_ch0_23, v_ch0_23)]
theorem k_ch0 : Knows d_choices t_ch0 := (knows_cons e_ch0_0 (knows_cons e_ch0_1 (knows_cons e_ch0_2 (knows_cons e_ch0_3 (knows_cons e_ch0_4 (knows_cons e_ch0_5 (knows_cons e_ch0_6 (knows_cons e_ch0_7 (knows_cons e_ch0_8 (knows_cons e_ch0_9 (knows_cons e_ch0_10 (knows_cons e_ch0_11 (knows_cons e_ch0_12 (knows_cons e_ch0_13 (knows_cons e_ch0_14 (knows_cons e_ch0_15 (knows_cons e_ch0_16 (knows_cons e_ch0_17 (knows_cons e_ch0_18 (knows_cons e_ch0_19 (knows_cons e_ch0_20 (knows_cons e_ch0_21 (knows_cons e_ch0_22 (knows_cons e_ch0_23 knows_nil))))))))))))))))))))))))
abbrev G_ch1 : List Den := [(orc t_st), d_turned]
theorem gl_ch1 : GL2 G_ch1 [d_step, d_turned] := (GL2.cons (orc_le k_st) (GL2.cons (fun _ => ml _) GL2.nil))
def a_ch1_0 : List PV := [ovT, .tup [.int 0], .tup [.tup [.int 0, .str "a"], .tup [.str "b", .str "b"]]]
def v_ch1_0 : PV := .lst [.tup [.int (-1), .tup [.tup [.int 1, .str "b"], .tup [.str "b", .str "b"]], .int 1], .tup [.int 0, .tup [.tup [.int 1, .str "c"], .tup [.str "c", .str "b"]], .int 2]]
theorem e_ch1_0 : ∀ s, d_choices a_ch1_0 s = .ok v_ch1_0 s := fun s => by_less gl_ch1 (by kernel_rfl)
def a_ch1_1 : List PV := [ovT, .tup [.int 0], .tup [.tup [.int 0, .str "a"], .tup [.str "b", .str "c"]]]
def v_ch1_1 : PV := .lst [.tup [.int (-1), .tup [.tup [.int 1, .str "b"], .tup [.str "b", .str "c"]], .int 1], .tup [.int 0, .tup [.tup [.int 1, .str "c"], .tup [.str "c", .str "c"]], .int 2]]
theorem e_ch1_1 : ∀ s, d_choices a_ch1_1 s = .ok v_ch1_1 s := fun s => by_less gl_ch1 (by kernel_rfl)
def a_ch1_2 : List PV := [ovT, .tup [.int 0], .tup [.tup [.int 0, .str "a"], .tup [.str "c", .str "b"]]]
def v_ch1_2 : PV := .lst [.tup [.int (-1), .tup [.tup [.int 1, .str "c"], .tup [.str "c", .str "b"]], .int 2], .tup [.int 0, .tup [.tup [.int 1, .str "b"], .tup [.str "b", .str "b"]], .int 1]]
theorem e_ch1_2 : ∀ s, d_choices a_ch1_2 s = .ok v_ch1_2 s := fun s => by_less gl_ch1 (by kernel_rfl)
def a_ch1_3 : List PV := [ovT, .tup [.int 0], .tup [.tup [.int 0, .str "a"], .tup [.str "c", .str "c"]]]
def v_ch1_3 : PV := .lst [.tup [.int (-1), .tup [.tup [.int 1, .str "c"], .tup [.str "c", .str "c"]], .int 2], .tup [.int 0, .tup [.tup [.int 1, .str "b"], .tup [.str "b", .str "c"]], .int 1]]
theorem e_ch1_3 : ∀ s, d_choices a_ch1_3 s = .ok v_ch1_3 s := fun s => by_less gl_ch1 (by kernel_rfl)
def a_ch1_4 : List PV := [ovT, .tup [.int 0], .tup [.tup [.int 0, .str "b"], .tup [.str "b", .str "b"]]]
def v_ch1_4 : PV := .lst [.tup [.int (-1), .tup [.tup [.int 1, .str "a"], .tup [.str "b", .str "b"]], .int 0], .tup [.int 0, .tup [.tup [.int 1, .str "a"], .tup [.str "b", .str "b"]], .int 0]]
theorem e_ch1_4 : ∀ s, d_choices a_ch1_4 s = .ok v_ch1_4 s := fun s => by_less gl_ch1 (by kernel_rfl)
def a_ch1_5 : List PV := [ovT, .tup [.int 0], .tup [.tup [.int 0, .str "b"], .tup [.str "b", .str "c"]]]
def v_ch1_5 : PV := .lst [.tup [.int (-1), .tup [.tup [.int 1, .str "a"], .tup [.str "b", .str "c"]], .int 0], .tup [.int 0, .tup [.tup [.int 1, .str "a"], .tup [.str "b", .str "c"]], .int 0]]
theorem e_ch1_5 : ∀ s, d_choices a_ch1_5 s = .ok v_ch1_5 s := fun s => by_less gl_ch1 (by kernel_rfl)
def a_ch1_6 : List PV := [ovT, .tup [.int 0], .tup [.tup [.int 0, .str "b"], .tup [.str "c", .str "b"]]]
def v_ch1_6 : PV := .lst [.tup [.int (-1), .tup [.tup [.int 1, .str "a"], .tup [.str "b", .str "b"]], .int 0], .tup [.int 0, .tup [.tup [.int 1, .str "a"], .tup [.str "b", .str "b"]], .int 0]]
theorem e_ch1_6 : ∀ s, d_choices a_ch1_6 s = .ok v_ch1_6 s := fun s => by_less gl_ch1 (by kernel_rfl)
def a_ch1_7 : List PV := [ovT, .tup [.int 0], .tup [.tup [.int 0, .str "b"], .tup [.str "c", .str "c"]]]
def v_ch1_7 : PV := .lst [.tup [.int (-1), .tup [.tup [.int 1, .str "a"], .tup [.str "b", .str "c"]], .int 0], .tup [.int 0, .tup [.tup [.int 1, .str "a"], .tup [.str "b", .str "c"]], .int 0]]
theorem e_ch1_7 : ∀ s, d_choices a_ch1_7 s = .ok v_ch1_7 s := fun s => by_less gl_ch1 (by kernel_rfl)
def a_ch1_8 : List PV := [ovT, .tup [.int 0], .tup [.tup [.int 0, .str "c"], .tup [.str "b", .str "b"]]]
def v_ch1_8 : PV := .lst [.tup [.int (-1), .tup [.tup [.int 1, .str "a"], .tup [.str "c", .str "b"]], .int 0], .tup [.int 0, .tup [.tup [.int 1, .str "a"], .tup [.str "c", .str "b"]], .int 0]]
theorem e_ch1_8 : ∀ s, d_choices a_ch1_8 s = .ok v_ch1_8 s := fun s => by_less gl_ch1 (by kernel_rfl)
def a_ch1_9 : List PV := [ovT, .tup [.int 0], .tup [.tup [.int 0, .str "c"], .tup [.str "b", .str "c"]]]
def v_ch1_9 : PV := .lst [.tup [.int (-1), .tup [.tup [.int 1, .str "a"], .tup [.str "c", .str "c"]], .int 0], .tup [.int 0, .tup [.tup [.int 1, .str "a"], .tup [.str "c", .str "c"]], .int 0]]
theorem e_ch1_9 : ∀ s, d_choices a_ch1_9 s = .ok v_ch1_9 s := fun s => by_less gl_ch1 (by kernel_rfl)
def a_ch1_10 : List PV := [ovT, .tup [.int 0], .tup [.tup [.int 0, .str "c"], .tup [.str "c", .str "b"]]]
def v_ch1_10 : PV := .lst [.tup [.int (-1), .tup [.tup [.int 1, .str "a"], .tup [.str "c", .str "b"]], .int 0], .tup [.int 0, .tup [.tup [.int 1, .str "a"], .tup [.str "c", .str "b"]], .int 0]]
theorem e_ch1_10 : ∀ s, d_choices a_ch1_10 s = .ok v_ch1_10 s := fun s => by_less gl_ch1 (by kernel_rfl)
def a_ch1_11 : List PV := [ovT, .tup [.int 0], .tup [.tup [.int 0, .str "c"], .tup [.str "c", .str "c"]]]
def v_ch1_11 : PV := .lst [.tup [.int (-1), .tup [.tup [.int 1, .str "a"], .tup [.str "c", .str "c"]], .int 0], .tup [.int 0, .tup [.tup [.int 1, .str "a"], .tup [.str "c", .str "c"]], .int 0]]
theorem e_ch1_11 : ∀ s, d_choices a_ch1_11 s = .ok v_ch1_11 s := fun s => by_less gl_ch1 (by kernel_rfl)
def a_ch1_12 : List PV := [ovT, .tup [.int 0], .tup [.tup [.int 1, .str "a"], .tup [.str "b", .str "b"]]]
def v_ch1_12 : PV := .lst [.tup [.int (-1), .tup [.tup [.int 0, .str "b"], .tup [.str "b", .str "b"]], .int 1], .tup [.int 0, .tup [.tup [.int 0, .str "b"], .tup [.str "c", .str "b"]], .int 1]]
theorem e_ch1_12 : ∀ s, d_choices a_ch1_12 s = .ok v_ch1_12 s := fun s => by_less gl_ch1 (by kernel_rfl)
def a_ch1_13 : List PV := [ovT, .tup [.int 0], .tup [.tup [.int 1, .str "a"], .tup [.str "b", .str "c"]]]
def v_ch1_13 : PV := .lst [.tup [.int (-1), .tup [.tup [.int 0, .str "c"], .tup [.str "b", .str "c"]], .int 2], .tup [.int 0, .tup [.tup [.int 0, .str "c"], .tup [.str "c", .str "c"]], .int 2]]
theorem e_ch1_13 : ∀ s, d_choices a_ch1_13 s = .ok v_ch1_13 s := fun s => by_less gl_ch1 (by kernel_rfl)
def a_ch1_14 : List PV := [ovT, .tup [.int 0], .tup [.tup [.int 1, .str "a"], .tup [.str "c", .str "b"]]]
def v_ch1_14 : PV := .lst [.tup [.int (-1), .tup [.tup [.int 0, .str "b"], .tup [.str "c", .str "b"]], .int 1], .tup [.int 0, .tup [.tup [.int 0, .str "b"], .tup [.str "b", .str "b"]], .int 1]]
theorem e_ch1_14 : ∀ s, d_choices a_ch1_14 s = .ok v_ch1_14 s := fun s => by_less gl_ch1 (by kernel_rfl)
def a_ch1_15 : List PV := [ovT, .tup [.int 0], .tup [.tup [.int 1, .str "a"], .tup [.str "c", .str "c"]]]
def v_ch1_15 : PV := .lst [.tup [.int (-1), .tup [.tup [.int 0, .str "c"], .tup [.str "c", .str "c"]], .int 2], .tup [.int 0, .tup [.tup [.int 0, .str "c"], .tup [.str "b", .str "c"]], .int 2]]
theorem e_ch1_15 : ∀ s, d_choices a_ch1_15 s = .ok v_ch1_15 s := fun s => by_less gl_ch1 (by kernel_rfl)
def a_ch1_16 : List PV := [ovT, .tup [.int 0], .tup [.tup [.int 1, .str "b"], .tup [.str "b", .str "b"]]]
def v_ch1_16 : PV := .lst [.tup [.int (-1), .tup [.tup [.int 0, .str "a"], .tup [.str "b", .str "b"]], .int 0], .tup [.int 0, .tup [.tup [.int 0, .str "a"], .tup [.str "c", .str "b"]], .int 0]]
theorem e_ch1_16 : ∀ s, d_choices a_ch1_16 s = .ok v_ch1_16 s := fun s => by_less gl_ch1 (by kernel_rfl)
def a_ch1_17 : List PV := [ovT, .tup [.int 0], .tup [.tup [.int 1, .str "b"], .tup [.str "b", .str "c"]]]
def v_ch1_17 : PV := .lst [.tup [.int (-1), .tup [.tup [.int 0, .str "a"], .tup [.str "b", .str "b"]], .int 0], .tup [.int 0, .tup [.tup [.int 0, .str "a"], .tup [.str "c", .str "b"]], .int 0]]
theorem e_ch1_17 : ∀ s, d_choices a_ch1_17 s = .ok v_ch1_17 s := fun s => by_less gl_ch1 (by kernel_rfl)
def a_ch1_18 : List PV := [ovT, .tup [.int 0], .tup [.tup [.int 1, .str "b"], .tup [.str "c", .str "b"]]]
def v_ch1_18 : PV := .lst [.tup [.int (-1), .tup [.tup [.int 0, .str "a"], .tup [.str "c", .str "b"]], .int 0], .tup [.int 0, .tup [.tup [.int 0, .str "a"], .tup [.str "b", .str "b"]], .int 0]]
theorem e_ch1_18 : ∀ s, d_choices a_ch1_18 s = .ok v_ch1_18 s := fun s => by_less gl_ch1 (by kernel_rfl)
def a_ch1_19 : List PV := [ovT, .tup [.int 0], .tup [.tup [.int 1, .str "b"], .tup [.str "c", .str "c"]]]
def v_ch1_19 : PV := .lst [.tup [.int (-1), .tup [.tup [.int 0, .str "a"], .tup [.str "c", .str "b"]], .int 0], .tup [.int 0, .tup [.tup [.int 0, .str "a"], .tup [.str "b", .str "b"]], .int 0]]
theorem e_ch1_19 : ∀ s, d_choices a_ch1_19 s = .ok v_ch1_19 s := fun s => by_less gl_ch1 (by kernel_rfl)
def a_ch1_20 : List PV := [ovT, .tup [.int 0], .tup [.tup [.int 1, .str "c"], .tup [.str "b", .str "b"]]]
def v_ch1_20 : PV := .lst [.tup [.int (-1), .tup [.tup [.int 0, .str "a"], .tup [.str "b", .str "c"]], .int 0], .tup [.int 0, .tup [.tup [.int 0, .str "a"], .tup [.str "c", .str "c"]], .int 0]]
theorem e_ch1_20 : ∀ s, d_choices a_ch1_20 s = .ok v_ch1_20 s := fun s => by_less gl_ch1 (by kernel_rfl)
def a_ch1_21 : List PV := [ovT, .tup [.int 0], .tup [.tup [.int 1, .str "c"], .tup [.str "b", .str "c"]]]
def v_ch1_21 : PV := .lst [.tup [.int (-1), .tup [.tup [.int 0, .str "a"], .tup [.str "b", .str "c"]], .int 0], .tup [.int 0, .tup [.tup [.int 0, .str "a"], .tup [.str "c", .str "c"]], .int 0]]
theorem e_ch1_21 : ∀ s, d_choices a_ch1_21 s = .ok v_ch1_21 s := fun s => by_less gl_ch1 (by kernel_rfl)
def a_ch1_22 : List PV := [ovT, .tup [.int 0], .tup [.tup [.int 1, .str "c"], .tup [.str "c", .str "b"]]]
def v_ch1_22 : PV := .lst [.tup [.int (-1), .tup [.tup [.int 0, .str "a"], .tup [.str "c", .str "c"]], .int 0], .tup [.int 0, .tup [.tup [.int 0, .str "a"], .tup [.str "b", .str "c"]], .int 0]]
theorem e_ch1_22 : ∀ s, d_choices a_ch1_22 s = .ok v_ch1_22 s := fun s => by_less gl_ch1 (by kernel_rfl)
def a_ch1_23 : List PV := [ovT, .tup [.int 0], .tup [.tup [.int 1, .str "c"], .tup [.str "c", .str "c"]]]
def v_ch1_23 : PV := .lst [.tup [.int (-1), .tup [.tup [.int 0, .str "a"], .tup [.str "c", .str "c"]], .int 0], .tup [.int 0, .tup [.tup [.int 0, .str "a"], .tup [.str "b", .str "c"]], .int 0]]
theorem e_ch1_23 : ∀ s, d_choices a_ch1_23 s = .ok v_ch1_23 s := fun s => by_less gl_ch1 (by kernel_rfl)
def t_ch1 : List (List PV × PV) := [(a_ch1_0, v_ch1_0), (a_ch1_1, v_ch1_1), (a_ch1_2, v_ch1_2), (a_ch1_3, v_ch1_3), (a_ch1_4, v_ch1_4), (a_ch1_5, v_ch1_5), (a_ch1_6, v_ch1_6), (a_ch1_7, v_ch1_7), (a_ch1_8, v_ch1_8), (a_ch1_9, v_ch1_9), (a_ch1_10, v_ch1_10), (a_ch1_11, v_ch1_11), (a_ch1_12, v_ch1_12), (a_ch1_13, v_ch1_13), (a_ch1_14, v_ch1_14), (a_ch1_15, v_ch1_15), (a_ch1_16, v_ch1_16), (a_ch1_17, v_ch1_17), (a_ch1_18, v_ch1_18), (a_ch1_19, v_ch1_19), (a_ch1_20, v_ch1_20), (a_ch1_21, v_ch1_21), (a_ch1_22, v_ch1_22), (a_ch1_23, v_ch1_23)]
theorem k_ch1 : Knows d_choices t_ch1 := (knows_cons e_ch1_0 (knows_cons e_ch1_1 (knows_cons e_ch1_2 (knows_cons e_ch1_3 (knows_cons e_ch1_4 (knows_cons e_ch1_5 (knows_cons e_ch1_6 (knows_cons e_ch1_7 (knows_cons e_ch1_8 (knows_cons e_ch1_9 (knows_cons e_ch1_10 (knows_cons e_ch1_11 (knows_cons e_ch1_12 (knows_cons e_ch1_13 (knows_cons e_ch1_14 (knows_cons e_ch1_15 (knows_cons e_ch1_16 (knows_cons e_ch1_17 (knows_cons e_ch1_18 (knows_cons e_ch1_19 (knows_cons e_ch1_20 (knows_cons e_ch1_21 (knows_cons e_ch1_22 (knows_cons e_ch1_23 knows_nil))))))))))))))))))))))))
abbrev G_ch2 : List Den := [(orc t_st), d_turned]
theorem gl_ch2 : GL2 G_ch2 [d_step, d_turned] := (GL2.cons (orc_le k_st) (GL2.cons (fun _ => ml _) GL2.nil))
def a_ch2_0 : List PV := [ovT, .tup [.int 1], .tup [.tup [.int 0, .str "a"], .tup [.str "b", .str "b"]]]
def v_ch2_0 : PV := .lst [.tup [.int (-1), .tup [.tup [.int 1, .str "b"], .tup [.str "b", .str "b"]], .int 1], .tup [.int 1, .tup [.tup [.int 1, .str "b"], .tup [.str "b", .str "c"]], .int 1]]
theorem e_ch2_0 : ∀ s, d_choices a_ch2_0 s = .ok v_ch2_0 s := fun s => by_less gl_ch2 (by kernel_rfl)
def a_ch2_1 : List PV := [ovT, .tup [.int 1], .tup [.tup [.int 0, .str "a"], .tup [.str "b", .str "c"]]]
def v_ch2_1 : PV := .lst [.tup [.int (-1), .tup [.tup [.int 1, .str "b"], .tup [.str "b", .str "c"]], .int 1], .tup [.int 1, .tup [.tup [.int 1, .str "b"], .tup [.str "b", .str "b"]], .int 1]]
theorem e_ch2_1 : ∀ s, d_choices a_ch2_1 s = .ok v_ch2_1 s := fun s => by_less gl_ch2 (by kernel_rfl)
def a_ch2_2 : List PV := [ovT, .tup [.int 1], .tup [.tup [.int 0, .str "a"], .tup [.str "c", .str "b"]]]
def v_ch2_2 : PV := .lst [.tup [.int (-1), .tup [.tup [.int 1, .str "c"], .tup [.str "c", .str "b"]], .int 2], .tup [.int 1, .tup [.tup [.int 1, .str "c"], .tup [.str "c", .str "c"]], .int 2]]
theorem e_ch2_2 : ∀ s, d_choices a_ch2_2 s = .ok v_ch2_2 s := fun s => by_less gl_ch2 (by kernel_rfl)
def a_ch2_3 : List PV := [ovT, .tup [.int 1], .tup [.tup [.int 0, .str "a"], .tup [.str "c", .str "c"]]]
def v_ch2_3 : PV := .lst [.tup [.int (-1), .tup [.tup [.int 1, .str "c"], .tup [.str "c", .str "c"]], .int 2], .tup [.int 1, .tup [.tup [.int 1, .str "c"], .tup [.str "c", .str "b"]], .int 2]]
theorem e_ch2_3 : ∀ s, d_choices a_ch2_3 s = .ok v_ch2_3 s := fun s => by_less gl_ch2 (by kernel_rfl)
def a_ch2_4 : List PV := [ovT, .tup [.int 1], .tup [.tup [.int 0, .str "b"], .tup [.str "b", .str "b"]]]
def v_ch2_4 : PV := .lst [.tup [.int (-1), .tup [.tup [.int 1, .str "a"], .tup [.str "b", .str "b"]], .int 0], .tup [.int 1, .tup [.tup [.int 1, .str "a"], .tup [.str "b", .str "c"]], .int 0]]
theorem e_ch2_4 : ∀ s, d_choices a_ch2_4 s = .ok v_ch2_4 s := fun s => by_less gl_ch2 (by kernel_rfl)
def a_ch2_5 : List PV := [ovT, .tup [.int 1], .tup [.tup [.int 0, .str "b"], .tup [.str "b", .str "c"]]]
def v_ch2_5 : PV := .lst [.tup [.int (-1), .tup [.tup [.int 1, .str "a"], .tup [.str "b", .str "c"]], .int 0], .tup [.int 1, .tup [.tup [.int 1, .str "a"], .tup [.str "b", .str "b"]], .int 0]]
theorem e_ch2_5 : ∀ s, d_choices a_ch2_5 s = .ok v_ch2_5 s := fun s => by_less gl_ch2 (by kernel_rfl)
def a_ch2_6 : List PV := [ovT, .tup [.int 1], .tup [.tup [.int 0, .str "b"], .tup [.str "c", .str "b"]]]
def v_ch2_6 : PV := .lst [.tup [.int (-1), .tup [.tup [.int 1, .str "a"], .tup [.str "b", .str "b"]], .int 0], .tup [.int 1, .tup [.tup [.int 1, .str "a"], .tup [.str "b", .str "c"]], .int 0]]
theorem e_ch2_6 : ∀ s, d_choices a_ch2_6 s = .ok v_ch2_6 s := fun s => by_less gl_ch2 (by kernel_rfl)
def a_ch2_7 : List PV := [ovT, .tup [.int 1], .tup [.tup [.int 0, .str "b"], .tup [.str "c", .str "c"]]]
def v_ch2_7 : PV := .lst [.tup [.int (-1), .tup [.tup [.int 1, .str "a"], .tup [.str "b", .str "c"]], .int 0], .tup [.int 1, .tup [.tup [.int 1, .str "a"], .tup [.str "b", .str "b"]], .int 0]]
theorem e_ch2_7 : ∀ s, d_choices a_ch2_7 s = .ok v_ch2_7 s := fun s => by_less gl_ch2 (by kernel_rfl)
def a_ch2_8 : List PV := [ovT, .tup [.int 1], .tup [.tup [.int 0, .str "c"], .tup [.str "b", .str "b"]]]
def v_ch2_8 : PV := .lst [.tup [.int (-1), .tup [.tup [.int 1, .str "a"], .tup [.str "c", .str "b"]], .int 0], .tup [.int 1, .tup [.tup [.int 1, .str "a"], .tup [.str "c", .str "c"]], .int 0]]
theorem e_ch2_8 : ∀ s, d_choices a_ch2_8 s = .ok v_ch2_8 s := fun s => by_less gl_ch2 (by kernel_rfl)
def a_ch2_9 : List PV := [ovT, .tup [.int 1], .tup [.tup [.int 0, .str "c"], .tup [.str "b", .str "c"]]]
def v_ch2_9 : PV := .lst [.tup [.int (-1), .tup [.tup [.int 1, .str "a"], .tup [.str "c", .str "c"]], .int 0], .tup [.int 1, .tup [.tup [.int 1, .str "a"], .tup [.str "c", .str "b"]], .int 0]]
theorem e_ch2_9 : ∀ s, d_choices a_ch2_9 s = .ok v_ch2_9 s := fun s => by_less gl_ch2 (by kernel_rfl)
def a_ch2_10 : List PV := [ovT, .tup [.int 1], .tup [.tup [.int 0, .str "c"], .tup [.str "c", .str "b"]]]
def v_ch2_10 : PV := .lst [.tup [.int (-1), .tup [.tup [.int 1, .str "a"], .tup [.str "c", .str "b"]], .int 0], .tup [.int 1, .tup [.tup [.int 1, .str "a"], .tup [.str "c", .str "c"]], .int 0]]
theorem e_ch2_10 : ∀ s, d_choices a_ch2_10 s = .ok v_ch2_10 s := fun s => by_less gl_ch2 (by kernel_rfl)
def a_ch2_11 : List PV := [ovT, .tup [.int 1], .tup [.tup [.int 0, .str "c"], .tup [.str "c", .str "c"]]]
def v_ch2_11 : PV := .lst [.tup [.int (-1), .tup [.tup [.int 1, .str "a"], .tup [.str "c", .str "c"]], .int 0], .tup [.int 1, .tup [.tup [.int 1, .str "a"], .tup [.str "c", .str "b"]], .int 0]]
theorem e_ch2_11 : ∀ s, d_choices a_ch2_11 s = .ok v_ch2_11 s := fun s => by_less gl_ch2 (by kernel_rfl)
def a_ch2_12 : List PV := [ovT, .tup [.int 1], .tup [.tup [.int 1, .str "a"], .tup [.str "b", .str "b"]]]
def v_ch2_12 : PV := .lst [.tup [.int (-1), .tup [.tup [.int 0, .str "b"], .tup [.str "b", .str "b"]], .int 1], .tup [.int 1, .tup [.tup [.int 0, .str "c"], .tup [.str "b", .str "c"]], .int 2]]
theorem e_ch2_12 : ∀ s, d_choices a_ch2_12 s = .ok v_ch2_12 s := fun s => by_less gl_ch2 (by kernel_rfl)
def a_ch2_13 : List PV := [ovT, .tup [.int 1], .tup [.tup [.int 1, .str "a"], .tup [.str "b", .str "c"]]]
def v_ch2_13 : PV := .lst [.tup [.int (-1), .tup [.tup [.int 0, .str "c"], .tup [.str "b", .str "c"]], .int 2], .tup [.int 1, .tup [.tup [.int 0, .str "b"], .tup [.str "b", .str "b"]], .int 1]]
theorem e_ch2_13 : ∀ s, d_choices a_ch2_13 s = .ok v_ch2_13 s := fun s => by_less gl_ch2 (by kernel_rfl)
def a_ch2_14 : List PV := [ovT, .tup [.int 1], .tup [.tup [.int 1, .str "a"], .tup [.str "c", .str "b"]]]
def v_ch2_14 : PV := .lst [.tup [.int (-1), .tup [.tup [.int 0, .str "b"], .tup [.str "c", .str "b"]], .int 1], .tup [.int 1, .tup [.tup [.int 0, .str "c"], .tup [.str "c", .str "c"]], .int 2]]
theorem e_ch2_14 : ∀ s, d_choices a_ch2_14 s = .ok v_ch2_14 s := fun s => by_less gl_ch2 (by kernel_rfl)
def a_ch2_15 : List PV := [ovT, .tup [.int 1], .tup [.tup [.int 1, .str "a"], .tup [.str "c", .str "c"]]]
def v_ch2_15 : PV := .lst [.tup [.int (-1), .tup [.tup [.int 0, .str "c"], .tup [.str "c", .str "c"]], .int 2], .tup [.int 1, .tup [.tup [.int 0, .str "b"], .tup [.str "c", .str "b"]], .int 1]]
theorem e_ch2_15 : ∀ s, d_choices a_ch2_15 s = .ok v_ch2_15 s := fun s => by_less gl_ch2 (by kernel_rfl)
def a_ch2_16 : List PV := [ovT, .tup [.int 1], .tup [.tup [.int 1, .str "b"], .tup [.str "b", .str "b"]]]
def v_ch2_16 : PV := .lst [.tup [.int (-1), .tup [.tup [.int 0, .str "a"], .tup [.str "b", .str "b"]], .int 0], .tup [.int 1, .tup [.tup [.int 0, .str "a"], .tup [.str "b", .str "b"]], .int 0]]
theorem e_ch2_16 : ∀ s, d_choices a_ch2_16 s = .ok v_ch2_16 s := fun s => by_less gl_ch2 (by kernel_rfl)
def a_ch2_17 : List PV := [ovT, .tup [.int 1], .tup [.tup [.int 1, .str "b"], .tup [.str "b", .str "c"]]]
def v_ch2_17 : PV := .lst [.tup [.int (-1), .tup [.tup [.int 0, .str "a"], .tup [.str "b", .str "b"]], .int 0], .tup [.int 1, .tup [.tup [.int 0, .str "a"], .tup [.str "b", .str "b"]], .int 0]]
theorem e_ch2_17 : ∀ s, d_choices a_ch2_17 s = .ok v_ch2_17 s := fun s => by_less gl_ch2 (by kernel_rfl)
def a_ch2_18 : List PV := [ovT, .tup [.int 1], .tup [.tup [.int 1, .str "b"], .tup [.str "c", .str "b"]]]
def v_ch2_18 : PV := .lst [.tup [.int (-1), .tup [.tup [.int 0, .str "a"], .tup [.str "c", .str "b"]], .int 0], .tup [.int 1, .tup [.tup [.int 0, .str "a"], .tup [.str "c", .str "b"]], .int 0]]
theorem e_ch2_18 : ∀ s, d_choices a_ch2_18 s = .ok v_ch2_18 s := fun s => by_less gl_ch2 (by kernel_rfl)
def a_ch2_19 : List PV := [ovT, .tup [.int 1], .tup [.tup [.int 1, .str "b"], .tup [.str "c", .str "c"]]]
def v_ch2_19 : PV := .lst [.tup [.int (-1), .tup [.tup [.int 0, .str "a"], .tup [.str "c", .str "b"]], .int 0], .tup [.int 1, .tup [.tup [.int 0, .str "a"], .tup [.str "c", .str "b"]], .int 0]]
theorem e_ch2_19 : ∀ s, d_choices a_ch2_19 s = .ok v_ch2_19 s := fun s => by_less gl_ch2 (by kernel_rfl)
def a_ch2_20 : List PV := [ovT, .tup [.int 1], .tup [.tup [.int 1, .str "c"], .tup [.str "b", .str "b"]]]
def v_ch2_20 : PV := .lst [.tup [.int (-1), .tup [.tup [.int 0, .str "a"], .tup [.str "b", .str "c"]], .int 0], .tup [.int 1, .tup [.tup [.int 0, .str "a"], .tup [.str "b", .str "c"]], .int 0]]
theorem e_ch2_20 : ∀ s, d_choices a_ch2_20 s = .ok v_ch2_20 s := fun s => by_less gl_ch2 (by kernel_rfl)
def a_ch2_21 : List PV := [ovT, .tup [.int 1], .tup [.tup [.int 1, .str "c"], .tup [.str "b", .str "c"]]]
def v_ch2_21 : PV := .lst [.tup [.int (-1), .tup [.tup [.int 0, .str "a"], .tup [.str "b", .str "c"]], .int 0], .tup [.int 1, .tup [.tup [.int 0, .str "a"], .tup [.str "b", .str "c"]], .int 0]]
theorem e_ch2_21 : ∀ s, d_choices a_ch2_21 s = .ok v_ch2_21 s := fun s => by_less gl_ch2 (by kernel_rfl)
def a_ch2_22 : List PV := [ovT, .tup [.int 1], .tup [.tup [.int 1, .str "c"], .tup [.str "c", .str "b"]]]
def v_ch2_22 : PV := .lst [.tup [.int (-1), .tup [.tup [.int 0, .str "a"], .tup [.str "c", .str "c"]], .int 0], .tup [.int 1, .tup [.tup [.int 0, .str "a"], .tup [.str "c", .str "c"]], .int 0]]
theorem e_ch2_22 : ∀ s, d_choices a_ch2_22 s = .ok v_ch2_22 s := fun s => by_less gl_ch2 (by kernel_rfl)
def a_ch2_23 : List PV := [ovT, .tup [.int 1], .tup [.tup [.int 1, .str "c"], .tup [.str "c", .str "c"]]]
def v_ch2_23 : PV := .lst [.tup [.int (-1), .tup [.tup [.int 0, .str "a"], .tup [.str "c", .str "c"]], .int 0], .tup [.int 1, .tup [.tup [.int 0, .str "a"], .tup [.str "c", .str "c"]], .int 0]]
theorem e_ch2_23 : ∀ s, d_choices a_ch2_23 s = .ok v_ch2_23 s := fun s => by_less gl_ch2 (by kernel_rfl)
def t_ch2 : List (List PV × PV) := [(a_ch2_0, v_ch2_0), (a_ch2_1, v_ch2_1), (a_ch2_2, v_ch2_2), (a_ch2_3, v_ch2_3), (a_ch2_4, v_ch2_4), (a_ch2_5, v_ch2_5), (a_ch2_6, v_ch2_6), (a_ch2_7, v_ch2_7), (a_ch2_8, v_ch2_8), (a_ch2_9, v_ch2_9), (a_ch2_10, v_ch2_10), (a_ch2_11, v_ch2_11), (a_ch2_12, v_ch2_12), (a_ch2_13, v_ch2_13), (a_ch2_14, v_ch2_14), (a_ch2_15, v_ch2_15), (a_ch2_16, v_ch2_16), (a_ch2_17, v_ch2_17), (a_ch2_18, v_ch2_18), (a_ch2_19, v_ch2_19), (a_ch2_20, v_ch2_20), (a_ch2_21, v_ch2_21), (a_ch2_22, v_ch2_22), (a_ch2_23, v_ch2_23)]
theorem k_ch2 : Knows d_choices t_ch2 := (knows_cons e_ch2_0 (knows_cons e_ch2_1 (knows_cons e_ch2_2 (knows_cons e_ch2_3 (knows_cons e_ch2_4 (knows_cons e_ch2_5 (knows_cons e_ch2_6 (knows_cons e_ch2_7 (knows_cons e_ch2_8 (knows_cons e_ch2_9 (knows_cons e_ch2_10 (knows_cons e_ch2_11 (knows_cons e_ch2_12 (knows_cons e_ch2_13 (knows_cons e_ch2_14 (knows_cons e_ch2_15 (knows_cons e_ch2_16 (knows_cons e_ch2_17 (knows_cons e_ch2_18 (knows_cons e_ch2_19 (knows_cons e_ch2_20 (knows_cons e_ch2_21 (knows_cons e_ch2_22 (knows_cons e_ch2_23 knows_nil))))))))))))))))))))))))
abbrev G_ch3 : List Den := [(orc t_st), d_turned]
theorem gl_ch3 : GL2 G_ch3 [d_step, d_turned] := (GL2.cons (orc_le k_st) (GL2.cons (fun _ => ml _) GL2.nil))
def a_ch3_0 : List PV := [ovT, .tup [.int 0, .int 1], .tup [.tup [.int 0, .str "a"], .tup [.str "b", .str "b"]]]
def v_ch3_0 : PV := .lst [.tup [.int (-1), .tup [.tup [.int 1, .str "b"], .tup [.str "b", .str "b"]], .int 1], .tup [.int 0, .tup [.tup [.int 1, .str "c"], .tup [.str "c", .str "b"]], .int 2], .tup [.int 1, .tup [.tup [.int 1, .str "b"], .tup [.str "b", .str "c"]], .int 1]]
theorem e_ch3_0 : ∀ s, d_choices a_ch3_0 s = .ok v_ch3_0 s := fun s => by_less gl_ch3 (by kernel_rfl)
def a_ch3_1 : List PV := [ovT, .tup [.int 0, .int 1], .tup [.tup [.int 0, .str "a"], .tup [.str "b", .str "c"]]]
def v_ch3_1 : PV := .lst [.tup [.int (-1), .tup [.tup [.int 1, .str "b"], .tup [.str "b", .str "c"]], .int 1], .tup [.int 0, .tup [.tup [.int 1, .str "c"], .tup [.str "c", .str "c"]], .int 2], .tup [.int 1, .tup [.tup [.int 1, .str "b"], .tup [.str "b", .str "b"]], .int 1]]
theorem e_ch3_1 : ∀ s, d_choices a_ch3_1 s = .ok v_ch3_1 s := fun s => by_less gl_ch3 (by kernel_rfl)
def a_ch3_2 : List PV := [ovT, .tup [.int 0, .int 1], .tup [.tup [.int 0, .str "a"], .tup [.str "c", .str "b"]]]
def v_ch3_2 : PV := .lst [.tup [.int (-1), .tup [.tup [.int 1, .str "c"], .tup [.str "c", .str "b"]], .int 2], .tup [.int 0, .tup [.tup [.int 1, .str "b"], .tup [.str "b", .str "b"]], .int 1], .tup [.int 1, .tup [.tup [.int 1, .str "c"], .tup [.str "c", .str "c"]], .int 2]]
theorem e_ch3_2 : ∀ s, d_choices a_ch3_2 s = .ok v_ch3_2 s := fun s => by_less gl_ch3 (by kernel_rfl)
def a_ch3_3 : List PV := [ovT, .tup [.int 0, .int 1], .tup [.tup [.int 0, .str "a"], .tup [.str "c", .str "c"]]]
def v_ch3_3 : PV := .lst [.tup [.int (-1), .tup [.tup [.int 1, .str "c"], .tup [.str "c", .str "c"]], .int 2], .tup [.int 0, .tup [.tup [.int 1, .str "b"], .tup [.str "b", .str "c"]], .int 1], .tup [.int 1, .tup [.tup [.int 1, .str "c"], .tup [.str "c", .str "b"]], .int 2]]
theorem e_ch3_3 : ∀ s, d_choices a_ch3_3 s = .ok v_ch3_3 s := fun s => by_less gl_ch3 (by kernel_rfl)
def a_ch3_4 : List PV := [ovT, .tup [.int 0, .int 1], .tup [.tup [.int 0, .str "b"], .tup [.str "b", .str "b"]]]
def v_ch3_4 : PV := .lst [.tup [.int (-1), .tup [.tup [.int 1, .str "a"], .tup [.str "b", .str "b"]], .int 0], .tup [.int 0, .tup [.tup [.int 1, .str "a"], .tup [.str "b", .str "b"]], .int 0], .tup [.int 1, .tup [.tup [.int 1, .str "a"], .tup [.str "b", .str "c"]], .int 0]]
theorem e_ch3_4 : ∀ s, d_choices a_ch3_4 s = .ok v_ch3_4 s := fun s => by_less gl_ch3 (by kernel_rfl)
def a_ch3_5 : List PV := [ovT, .tup [.int 0, .int 1], .tup [.tup [.int 0, .str "b"], .tup [.str "b", .str "c"]]]
def v_ch3_5 : PV := .lst [.tup [.int (-1), .tup [.tup [.int 1, .str "a"], .tup [.str "b", .str "c"]], .int 0], .tup [.int 0, .tup [.tup [.int 1, .str "a"], .tup [.str "b", .str "c"]], .int 0], .tup [.int 1, .tup [.tup [.int 1, .str "a"], .tup [.str "b", .str "b"]], .int 0]]
theorem e_ch3_5 : ∀ s, d_choices a_ch3_5 s = .ok v_ch3_5 s := fun s => by_less gl_ch3 (by kernel_rfl)
def a_ch3_6 : List PV := [ovT, .tup [.int 0, .int 1], .tup [.tup [.int 0, .str "b"], .tup [.str "c", .str "b"]]]
def v_ch3_6 : PV := .lst [.tup [.int (-1), .tup [.tup [.int 1, .str "a"], .tup [.str "b", .str "b"]], .int 0], .tup [.int 0, .tup [.tup [.int 1, .str "a"], .tup [.str "b", .str "b"]], .int 0], .tup [.int 1, .tup [.tup [.int 1, .str "a"], .tup [.str "b", .str "c"]], .int 0]]
theorem e_ch3_6 : ∀ s, d_choices a_ch3_6 s = .ok v_ch3_6 s := fun s => by_less gl_ch3 (by kernel_rfl)
def a_ch3_7 : List PV := [ovT, .tup [.int 0, .int 1], .tup [.tup [.int 0, .str "b"], .tup [.str "c", .str "c"]]]
def v_ch3_7 : PV := .lst [.tup [.int (-1), .tup [.tup [.int 1, .str "a"], .tup [.str "b", .str "c"]], .int 0], .tup [.int 0, .tup [.tup [.int 1, .str "a"], .tup [.str "b", .str "c"]], .int 0], .tup [.int 1, .tup [.tup [.int 1, .str "a"], .tup [.str "b", .str "b"]], .int 0]]
theorem e_ch3_7 : ∀ s, d_choices a_ch3_7 s = .ok v_ch3_7 s := fun s => by_less gl_ch3 (by kernel_rfl)
def a_ch3_8 : List PV := [ovT, .tup [.int 0, .int 1], .tup [.tup [.int 0, .str "c"], .tup [.str "b", .str "b"]]]
def v_ch3_8 : PV := .lst [.tup [.int (-1), .tup [.tup [.int 1, .str "a"], .tup [.str "c", .str "b"]], .int 0], .tup [.int 0, .tup [.tup [.int 1, .str "a"], .tup [.str "c", .str "b"]], .int 0], .tup [.int 1, .tup [.tup [.int 1, .str "a"], .tup [.str "c", .str "c"]], .int 0]]
theorem e_ch3_8 : ∀ s, d_choices a_ch3_8 s = .ok v_ch3_8 s := fun s => by_less gl_ch3 (by kernel_rfl)
def a_ch3_9 : List PV := [ovT, .tup [.int 0, .int 1], .tup [.tup [.int 0, .str "c"], .tup [.str "b", .str "c"]]]
def v_ch3_9 : PV := .lst [.tup [.int (-1), .tup [.tup [.int 1, .str "a"], .tup [.str "c", .str "c"]], .int 0], .tup [.int 0, .tup [.tup [.int 1, .str "a"], .tup [.str "c", .str "c"]], .int 0], .tup [.int 1, .tup [.tup [.int 1, .str "a"], .tup [.str "c", .str "b"]], .int 0]]
theorem e_ch3_9 : ∀ s, d_choices a_ch3_9 s = .ok v_ch3_9 s := fun s => by_less gl_ch3 (by kernel_rfl)
def a_ch3_10 : List PV := [ovT, .tup [.int 0, .int 1], .tup [.tup [.int 0, .str "c"], .tup [.str "c", .str "b"]]]
def v_ch3_10 : PV := .lst [.tup [.int (-1), .tup [.tup [.int 1, .str "a"], .tup [.str "c", .str "b"]], .int 0], .tup [.int 0, .tup [.tup [.int 1, .str "a"], .tup [.str "c", .str "b"]], .int 0], .tup [.int 1, .tup [.tup [.int 1, .str "a"], .tup [.str "c", .str "c"]], .int 0]]
theorem e_ch3_10 : ∀ s, d_choices a_ch3_10 s = .ok v_ch3_10 s := fun s => by_less gl_ch3 (by kernel_rfl)
def a_ch3_11 : List PV := [ovT, .tup [.int 0, .int 1], .tup [.tup [.int 0, .str "c"], .tup [.str "c", .str "c"]]]
def v_ch3_11 : PV := .lst [.tup [.int (-1), .tup [.tup [.int 1, .str "a"], .tup [.str "c", .str "c"]], .int 0], .tup [.int 0, .tup [.tup [.int 1, .str "a"], .tup [.str "c", .str "c"]], .int 0], .tup [.int 1, .tup [.tup [.int 1, .str "a"], .tup [.str "c", .str "b"]], .int 0]]
theorem e_ch3_11 : ∀ s, d_choices a_ch3_11 s = .ok v_ch3_11 s := fun s => by_less gl_ch3 (by kernel_rfl)
def a_ch3_12 : List PV := [ovT, .tup [.int 0, .int 1], .tup [.tup [.int 1, .str "a"], .tup [.str "b", .str "b"]]]
def v_ch3_12 : PV := .lst [.tup [.int (-1), .tup [.tup [.int 0, .str "b"], .tup [.str "b", .str "b"]], .int 1], .tup [.int 0, .tup [.tup [.int 0, .str "b"], .tup [.str "c", .str "b"]], .int 1], .tup [.int 1, .tup [.tup [.int 0, .str "c"], .tup [.str "b", .str "c"]], .int 2]]
theorem e_ch3_12 : ∀ s, d_choices a_ch3_12 s = .ok v_ch3_12 s := fun s => by_less gl_ch3 (by kernel_rfl)
def a_ch3_13 : List PV := [ovT, .tup [.int 0, .int 1], .tup [.tup [.int 1, .str "a"], .tup [.str "b", .str "c"]]]
def v_ch3_13 : PV := .lst [.tup [.int (-1), .tup [.tup [.int 0, .str "c"], .tup [.str "b", .str "c"]], .int 2], .tup [.int 0, .tup [.tup [.int 0, .str "c"], .tup [.str "c", .str "c"]], .int 2], .tup [.int 1, .tup [.tup [.int 0, .str "b"], .tup [.str "b", .str "b"]], .int 1]]
theorem e_ch3_13 : ∀ s, d_choices a_ch3_13 s = .ok v_ch3_13 s := fun s => by_less gl_ch3 (by kernel_rfl)
def a_ch3_14 : List PV := [ovT, .tup [.int 0, .int 1], .tup [.tup [.int 1, .str "a"], .tup [.str "c", .str "b"]]]
def v_ch3_14 : PV := .lst [.tup [.int (-1), .tup [.tup [.int 0, .str "b"], .tup [.str "c", .str "b"]], .int 1], .tup [.int 0, .tup [.tup [.int 0, .str "b"], .tup [.str "b", .str "b"]], .int 1], .tup [.int 1, .tup [.tup [.int 0, .str "c"], .tup [.str "c", .str "c"]], .int 2]]
theorem e_ch3_14 : ∀ s, d_choices a_ch3_14 s = .ok v_ch3_14 s := fun s => by_less gl_ch3 (by kernel_rfl)
def a_ch3_15 : List PV := [ovT, .tup [.int 0, .int 1], .tup [.tup [.int 1, .str "a"], .tup [.str "c", .str "c"]]]
def v_ch3_15 : PV := .lst [.tup [.int (-1), .tup [.tup [.int 0, .str "c"], .tup [.str "c", .str "c"]], .int 2], .tup [.int 0, .tup [.tup [.int 0, .str "c"], .tup [.str "b", .str "c"]], .int 2], .tup [.int 1, .tup [.tup [.int 0, .str "b"], .tup [.str "c", .str "b"]], .int 1]]
theorem e_ch3_15 : ∀ s, d_choices a_ch3_15 s = .ok v_ch3_15 s := fun s => by_less gl_ch3 (by kernel_rfl)
def a_ch3_16 : List PV := [ovT, .tup [.int 0, .int 1], .tup [.tup [.int 1, .str "b"], .tup [.str "b", .str "b"]]]
def v_ch3_16 : PV := .lst [.tup [.int (-1), .tup [.tup [.int 0, .str "a"], .tup [.str "b", .str "b"]], .int 0], .tup [.int 0, .tup [.tup [.int 0, .str "a"], .tup [.str "c", .str "b"]], .int 0], .tup [.int 1, .tup [.tup [.int 0, .str "a"], .tup [.str "b", .str "b"]], .int 0]]
theorem e_ch3_16 : ∀ s, d_choices a_ch3_16 s = .ok v_ch3_16 s := fun s => by_less gl_ch3 (by kernel_rfl)
def a_ch3_17 : List PV := [ovT, .tup [.int 0, .int 1], .tup [.tup [.int 1, .str "b"], .tup [.str "b", .str "c"]]]
def v_ch3_17 : PV := .lst [.tup [.int (-1), .tup [.tup [.int 0, .str "a"], .tup [.str "b", .str "b"]], .int 0], .tup [.int 0, .tup [.tup [.int 0, .str "a"], .tup [.str "c", .str "b"]], .int 0], .tup [.int 1, .tup [.tup [.int 0, .str "a"], .tup [.str "b", .str "b"]], .int 0]]
theorem e_ch3_17 : ∀ s, d_choices a_ch3_17 s = .ok v_ch3_17 s := fun s => by_less gl_ch3 (by kernel_rfl)
def a_ch3_18 : List PV := [ovT, .tup [.int 0, .int 1], .tup [.tup [.int 1, .str "b"], .tup [.str "c", .str "b"]]]
def v_ch3_18 : PV := .lst [.tup [.int (-1), .tup [.tup [.int 0, .str "a"], .tup [.str "c", .str "b"]], .int 0], .tup [.int 0, .tup [.tup [.int 0, .str "a"], .tup [.str "b", .str "b"]], .int 0], .tup [.int 1, .tup [.tup [.int 0, .str "a"], .tup [.str "c", .str "b"]], .int 0]]
theorem e_ch3_18 : ∀ s, d_choices a_ch3_18 s = .ok v_ch3_18 s := fun s => by_less gl_ch3 (by kernel_rfl)
def a_ch3_19 : List PV := [ovT, .tup [.int 0, .int 1], .tup [.tup [.int 1, .str "b"], .tup [.str "c", .str "c"]]]
def v_ch3_19 : PV := .lst [.tup [.int (-1), .tup [.tup [.int 0, .str "a"], .tup [.str "c", .str "b"]], .int 0], .tup [.int 0, .tup [.tup [.int 0, .str "a"], .tup [.str "b", .str "b"]], .int 0], .tup [.int 1, .tup [.tup [.int 0, .str "a"], .tup [.str "c", .str "b"]], .int 0]]
theorem e_ch3_19 : ∀ s, d_choices a_ch3_19 s = .ok v_ch3_19 s := fun s => by_less gl_ch3 (by kernel_rfl)
def a_ch3_20 : List PV := [ovT, .tup [.int 0, .int 1], .tup [.tup [.int 1, .str "c"], .tup [.str "b", .str "b"]]]
def v_ch3_20 : PV := .lst [.tup [.int (-1), .tup [.tup [.int 0, .str "a"], .tup [.str "b", .str "c"]], .int 0], .tup [.int 0, .tup [.tup [.int 0, .str "a"], .tup [.str "c", .str "c"]], .int 0], .tup [.int 1, .tup [.tup [.int 0, .str "a"], .tup [.str "b", .str "c"]], .int 0]]
theorem e_ch3_20 : ∀ s, d_choices a_ch3_20 s = .ok v_ch3_20 s := fun s => by_less gl_ch3 (by kernel_rfl)
def a_ch3_21 : List PV := [ovT, .tup [.int 0, .int 1], .tup [.tup [.int 1, .str "c"], .tup [.str "b", .str "c"]]]
def v_ch3_21 : PV := .lst [.tup [.int (-1), .tup [.tup [.int 0, .str "a"], .tup [.str "b", .str "c"]], .int 0], .tup [.int 0, .tup [.tup [.int 0, .str "a"], .tup [.str "c", .str "c"]], .int 0], .tup [.int 1, .tup [.tup [.int 0, .str "a"], .tup [.str "b", .str "c"]], .int 0]]
theorem e_ch3_21 : ∀ s, d_choices a_ch3_21 s = .ok v_ch3_21 s := fun s => by_less gl_ch3 (by kernel_rfl)
def a_ch3_22 : List PV := [ovT, .tup [.int 0, .int 1], .tup [.tup [.int 1, .str "c"], .tup [.str "c", .str "b"]]]
def v_ch3_22 : PV := .lst [.tup [.int (-1), .tup [.tup [.int 0, .str "a"], .tup [.str "c", .str "c"]], .int 0], .tup [.int 0, .tup [.tup [.int 0, .str "a"], .tup [.str "b", .str "c"]], .int 0], .tup [.int 1, .tup [.tup [.int 0, .str "a"], .tup [.str "c", .str "c"]], .int 0]]
theorem e_ch3_22 : ∀ s, d_choices a_ch3_22 s = .ok v_ch3_22 s := fun s => by_less gl_ch3 (by kernel_rfl)
def a_ch3_23 : List PV := [ovT, .tup [.int 0, .int 1], .tup [.tup [.int 1, .str "c"], .tup [.str "c", .str "c"]]]
def v_ch3_23 : PV := .lst [.tup [.int (-1), .tup [.tup [.int 0, .str "a"], .tup [.str "c", .str "c"]], .int 0], .tup [.int 0, .tup [.tup [.int 0, .str "a"], .tup [.str "b", .str "c"]], .int 0], .tup [.int 1, .tup [.tup [.int 0, .str "a"], .tup [.str "c", .str "c"]], .int 0]]
theorem e_ch3_23 : ∀ s, d_choices a_ch3_23 s = .ok v_ch3_23 s := fun s => by_less gl_ch3 (by kernel_rfl)
def t_ch3 : List (List PV × PV) := [(a_ch3_0, v_ch3_0), (a_ch3_1, v_ch3_1), (a_ch3_2, v_ch3_2), (a_ch3_3, v_ch3_3), (a_ch3_4, v_ch3_4), (a_ch3_5, v_ch3_5), (a_ch3_6, v_ch3_6), (a_ch3_7, v_ch3_7), (a_ch3_8, v_ch3_8), (a_ch3_9, v_ch3_9), (a_ch3_10, v_ch3_10), (a_ch3_11, v_ch3_11), (a_ch3_12, v_ch3_12), (a_ch3_13, v_ch3_13), (a_ch3_14, v_ch3_14), (a_ch3_15, v_ch3_15), (a_ch3_16, v_ch3_16), (a_ch3_17, v_ch3_17), (a_ch3_18, v_ch3_18), (a_ch3_19, v_ch3_19), (a_ch3_20, v_ch3_20), (a_ch3_21, v_ch3_21), (a_ch3_22, v_ch3_22), (a_ch3_23, v_ch3_23)]
theorem k_ch3 : Knows d_choices t_ch3 := (knows_cons e_ch3_0 (knows_cons e_ch3_1 (knows_cons e_ch3_2 (knows_cons e_ch3_3 (knows_cons e_ch3_4 (knows_cons e_ch3_5 (knows_cons e_ch3_6 (knows_cons e_ch3_7 (knows_cons e_ch3_8 (knows_cons e_ch3_9 (knows_cons e_ch3_10 (knows_cons e_ch3_11 (knows_cons e_ch3_12 (knows_cons e_ch3_13 (knows_cons e_ch3_14 (knows_cons e_ch3_15 (knows_cons e_ch3_16 (knows_cons e_ch3_17 (knows_cons e_ch3_18 (knows_cons e_ch3_19 (knows_cons e_ch3_20 (knows_cons e_ch3_21 (knows_cons e_ch3_22 (knows_cons e_ch3_23 knows_nil))))))))))))))))))))))))
abbrev G_rw0 : List Den := [(orc t_ch0)]
theorem gl_rw0 : GL2 G_rw0 [d_choices] := (GL2.cons (orc_le k_ch0) GL2.nil)
def a_rw0_0 : List PV := [ovT, .tup [], .tup [.tup [.int 0, .str "a"], .tup [.str "b", .str "b"]], .int 2]
def v_rw0_0 : PV := .non
theorem e_rw0_0 : ∀ s, d_row_to a_rw0_0 s = .ok v_rw0_0 s := fun s => by_less gl_rw0 (by kernel_rfl)
def a_rw0_1 : List PV := [ovT, .tup [], .tup [.tup [.int 0, .str "a"], .tup [.str "b", .str "c"]], .int 2]
def v_rw0_1 : PV := .non
theorem e_rw0_1 : ∀ s, d_row_to a_rw0_1 s = .ok v_rw0_1 s := fun s => by_less gl_rw0 (by kernel_rfl)
def a_rw0_2 : List PV := [ovT, .tup [], .tup [.tup [.int 0, .str "a"], .tup [.str "c", .str "b"]], .int 2]
def v_rw0_2 : PV := .tup [.int (-1)]
theorem e_rw0_2 : ∀ s, d_row_to a_rw0_2 s = .ok v_rw0_2 s := fun s => by_less gl_rw0 (by kernel_rfl)
def a_rw0_3 : List PV := [ovT, .tup [], .tup [.tup [.int 0, .str "a"], .tup [.str "c", .str "c"]], .int 2]
def v_rw0_3 : PV := .tup [.int (-1)]
theorem e_rw0_3 : ∀ s, d_row_to a_rw0_3 s = .ok v_rw0_3 s := fun s => by_less gl_rw0 (by kernel_rfl)
def a_rw0_4 : List PV := [ovT, .tup [], .tup [.tup [.int 0, .str "b"], .tup [.str "b", .str "b"]], .int 2]
def v_rw0_4 : PV := .non
theorem e_rw0_4 : ∀ s, d_row_to a_rw0_4 s = .ok v_rw0_4 s := fun s => by_less gl_rw0 (by kernel_rfl)
def a_rw0_5 : List PV := [ovT, .tup [], .tup [.tup [.int 0, .str "b"], .tup [.str "b", .str "c"]], .int 2]
def v_rw0_5 : PV := .tup [.int (-1), .int (-1)]
theorem e_rw0_5 : ∀ s, d_row_to a_rw0_5 s = .ok v_rw0_5 s := fun s => by_less gl_rw0 (by kernel_rfl)
def a_rw0_6 : List PV := [ovT, .tup [], .tup [.tup [.int 0, .str "b"], .tup [.str "c", .str "b"]], .int 2]
def v_rw0_6 : PV := .non
theorem e_rw0_6 : ∀ s, d_row_to a_rw0_6 s = .ok v_rw0_6 s := fun s => by_less gl_rw0 (by kernel_rfl)
def a_rw0_7 : List PV := [ovT, .tup [], .tup [.tup [.int 0, .str "b"], .tup [.str "c", .str "c"]], .int 2]
def v_rw0_7 : PV := .tup [.int (-1), .int (-1)]
theorem e_rw0_7 : ∀ s, d_row_to a_rw0_7 s = .ok v_rw0_7 s := fun s => by_less gl_rw0 (by kernel_rfl)
def a_rw0_8 : List PV := [ovT, .tup [], .tup [.tup [.int 0, .str "c"], .tup [.str "b", .str "b"]], .int 2]
def v_rw0_8 : PV := .non
theorem e_rw0_8 : ∀ s, d_row_to a_rw0_8 s = .ok v_rw0_8 s := fun s => by_less gl_rw0 (by kernel_rfl)
def a_rw0_9 : List PV := [ovT, .tup [], .tup [.tup [.int 0, .str "c"], .tup [.str "b", .str "c"]], .int 2]
def v_rw0_9 : PV := .tup [.int (-1), .int (-1)]
theorem e_rw0_9 : ∀ s, d_row_to a_rw0_9 s = .ok v_rw0_9 s := fun s => by_less gl_rw0 (by kernel_rfl)
def a_rw0_10 : List PV := [ovT, .tup [], .tup [.tup [.int 0, .str "c"], .tup [.str "c", .str "b"]], .int 2]
def v_rw0_10 : PV := .non
theorem e_rw0_10 : ∀ s, d_row_to a_rw0_10 s = .ok v_rw0_10 s := fun s => by_less gl_rw0 (by kernel_rfl)
def a_rw0_11 : List PV := [ovT, .tup [], .tup [.tup [.int 0, .str "c"], .tup [.str "c", .str "c"]], .int 2]
def v_rw0_11 : PV := .tup [.int (-1), .int (-1)]
theorem e_rw0_11 : ∀ s, d_row_to a_rw0_11 s = .ok v_rw0_11 s := fun s => by_less gl_rw0 (by kernel_rfl)
def a_rw0_12 : List PV := [ovT, .tup [], .tup [.tup [.int 1, .str "a"], .tup [.str "b", .str "b"]], .int 2]
def v_rw0_12 : PV := .non
theorem e_rw0_12 : ∀ s, d_row_to a_rw0_12 s = .ok v_rw0_12 s := fun s => by_less gl_rw0 (by kernel_rfl)
def a_rw0_13 : List PV := [ovT, .tup [], .tup [.tup [.int 1, .str "a"], .tup [.str "b", .str "c"]], .int 2]
def v_rw0_13 : PV := .tup [.int (-1)]
theorem e_rw0_13 : ∀ s, d_row_to a_rw0_13 s = .ok v_rw0_13 s := fun s => by_less gl_rw0 (by kernel_rfl)
def a_rw0_14 : List PV := [ovT, .tup [], .tup [.tup [.int 1, .str "a"], .tup [.str "c", .str "b"]], .int 2]
def v_rw0_14 : PV := .non
theorem e_rw0_14 : ∀ s, d_row_to a_rw0_14 s = .ok v_rw0_14 s := fun s => by_less gl_rw0 (by kernel_rfl)
def a_rw0_15 : List PV := [ovT, .tup [], .tup [.tup [.int 1, .str "a"], .tup [.str "c", .str "c"]], .int 2]
def v_rw0_15 : PV := .tup [.int (-1)]
theorem e_rw0_15 : ∀ s, d_row_to a_rw0_15 s = .ok v_rw0_15 s := fun s => by_less gl_rw0 (by kernel_rfl)
def a_rw0_16 : List PV := [ovT, .tup [], .tup [.tup [.int 1, .str "b"], .tup [.str "b", .str "b"]], .int 2]
def v_rw0_16 : PV := .non
theorem e_rw0_16 : ∀ s, d_row_to a_rw0_16 s = .ok v_rw0_16 s := fun s => by_less gl_rw0 (by kernel_rfl)
def a_rw0_17 : List PV := [ovT, .tup [], .tup [.tup [.int 1, .str "b"], .tup [.str "b", .str "c"]], .int 2]
def v_rw0_17 : PV := .non
theorem e_rw0_17 : ∀ s, d_row_to a_rw0_17 s = .ok v_rw0_17 s := fun s => by_less gl_rw0 (by kernel_rfl)
def a_rw0_18 : List PV := [ovT, .tup [], .tup [.tup [.int 1, .str "b"], .tup [.str "c", .str "b"]], .int 2]
def v_rw0_18 : PV := .tup [.int (-1), .int (-1)]
theorem e_rw0_18 : ∀ s, d_row_to a_rw0_18 s = .ok v_rw0_18 s := fun s => by_less gl_rw0 (by kernel_rfl)
def a_rw0_19 : List PV := [ovT, .tup [], .tup [.tup [.int 1, .str "b"], .tup [.str "c", .str "c"]], .int 2]
def v_rw0_19 : PV := .tup [.int (-1), .int (-1)]
theorem e_rw0_19 : ∀ s, d_row_to a_rw0_19 s = .ok v_rw0_19 s := fun s => by_less gl_rw0 (by kernel_rfl)
def a_rw0_20 : List PV := [ovT, .tup [], .tup [.tup [.int 1, .str "c"], .tup [.str "b", .str "b"]], .int 2]
def v_rw0_20 : PV := .non
theorem e_rw0_20 : ∀ s, d_row_to a_rw0_20 s = .ok v_rw0_20 s := fun s => by_less gl_rw0 (by kernel_rfl)
def a_rw0_21 : List PV := [ovT, .tup [], .tup [.tup [.int 1, .str "c"], .tup [.str "b", .str "c"]], .int 2]
def v_rw0_21 : PV := .non
theorem e_rw0_21 : ∀ s, d_row_to a_rw0_21 s = .ok v_rw0_21 s := fun s => by_less gl_rw0 (by kernel_rfl)
def a_rw0_22 : List PV := [ovT, .tup [], .tup [.tup [.int 1, .str "c"], .tup [.str "c", .str "b"]], .int 2]
def v_rw0_22 : PV := .tup [.int (-1), .int (-1)]
theorem e_rw0_22 : ∀ s, d_row_to a_rw0_22 s = .ok v_rw0_22 s := fun s => by_less gl_rw0 (by kernel_rfl)
def a_rw0_23 : List PV := [ovT, .tup [], .tup [.tup [.int 1, .str "c"], .tup [.str "c", .str "c"]], .int 2]
def v_rw0_23 : PV := .tup [.int (-1), .int (-1)]
theorem e_rw0_23 : ∀ s, d_row_to a_rw0_23 s = .ok v_rw0_23 s := fun s => by_less gl_rw0 (by kernel_rfl)
def t_rw0 : List (List PV × PV) := [(a_rw0_0, v_rw0_0), (a_rw0_1, v_rw0_1), (a_rw0_2, v_rw0_2), (a_rw0_3, v_rw0_3), (a_rw0_4, v_rw0_4), (a_rw0_5, v_rw0_5), (a_rw0_6, v_rw0_6), (a_rw0_7, v_rw0_7), (a_rw0_8, v_rw0_8), (a_rw0_9, v_rw0_9), (a_rw0_10, v_rw0_10), (a_rw0_11, v_rw0_11), (a_rw0_12, v_rw0_12), (a_rw0_13, v_rw0_13), (a_rw0_14, v_rw0_14), (a_rw0_15, v_rw0_15), (a_rw0_16, v_rw0_16), (a_rw0_17, v_rw0_17), (a_rw0_18, v_rw0_18), (a_rw0_19, v_rw0_19), (a_rw0_20, v_rw0_20), (a_rw0_21, v_rw0_21), (a_rw0_22, v_rw0_22), (a_rw0_23, v_rw0_23)]
theorem k_rw0 : Knows d_row_to t_rw0 := (knows_cons e_rw0_0 (knows_cons e_rw0_1 (knows_cons e_rw0_2 (knows_cons e_rw0_3 (knows_cons e_rw0_4 (knows_cons e_rw0_5 (knows_cons e_rw0_6 (knows_cons e_rw0_7 (knows_cons e_rw0_8 (knows_cons e_rw0_9 (knows_cons e_rw0_10 (knows_cons e_rw0_11 (knows_cons e_rw0_12 (knows_cons e_rw0_13 (knows_cons e_rw0_14 (knows_cons e_rw0_15 (knows_cons e_rw0_16 (knows_cons e_rw0_17 (knows_cons e_rw0_18 (knows_cons e_rw0_19 (knows_cons e_rw0_20 (knows_cons e_rw0_21 (knows_cons e_rw0_22 (knows_cons e_rw0_23 knows_nil))))))))))))))))))))))))
abbrev G_rw1 : List Den := [(orc t_ch1)]
theorem gl_rw1 : GL2 G_rw1 [d_choices] := (GL2.cons (orc_le k_ch1) GL2.nil)
def a_rw1_0 : List PV := [ovT, .tup [.int 0], .tup [.tup [.int 0, .str "a"], .tup [.str "b", .str "b"]], .int 2]
def v_rw1_0 : PV := .tup [.int 0]
theorem e_rw1_0 : ∀ s, d_row_to a_rw1_0 s = .ok v_rw1_0 s := fun s => by_less gl_rw1 (by kernel_rfl)
def a_rw1_1 : List PV := [ovT, .tup [.int 0], .tup [.tup [.int 0, .str "a"], .tup [.str "b", .str "c"]], .int 2]
def v_rw1_1 : PV := .tup [.int 0]
theorem e_rw1_1 : ∀ s, d_row_to a_rw1_1 s = .ok v_rw1_1 s := fun s => by_less gl_rw1 (by kernel_rfl)
def a_rw1_2 : List PV := [ovT, .tup [.int 0], .tup [.tup [.int 0, .str "a"], .tup [.str "c", .str "b"]], .int 2]
def v_rw1_2 : PV := .tup [.int (-1)]
theorem e_rw1_2 : ∀ s, d_row_to a_rw1_2 s = .ok v_rw1_2 s := fun s => by_less gl_rw1 (by kernel_rfl)
def a_rw1_3 : List PV := [ovT, .tup [.int 0], .tup [.tup [.int 0, .str "a"], .tup [.str "c", .str "c"]], .int 2]
def v_rw1_3 : PV := .tup [.int (-1)]
theorem e_rw1_3 : ∀ s, d_row_to a_rw1_3 s = .ok v_rw1_3 s := fun s => by_less gl_rw1 (by kernel_rfl)
def a_rw1_4 : List PV := [ovT, .tup [.int 0], .tup [.tup [.int 0, .str "b"], .tup [.str "b", .str "b"]], .int 2]
def v_rw1_4 : PV := .non
theorem e_rw1_4 : ∀ s, d_row_to a_rw1_4 s = .ok v_rw1_4 s := fun s => by_less gl_rw1 (by kernel_rfl)
def a_rw1_5 : List PV := [ovT, .tup [.int 0], .tup [.tup [.int 0, .str "b"], .tup [.str "b", .str "c"]], .int 2]
def v_rw1_5 : PV := .tup [.int (-1), .int (-1)]
theorem e_rw1_5 : ∀ s, d_row_to a_rw1_5 s = .ok v_rw1_5 s := fun s => by_less gl_rw1 (by kernel_rfl)
def a_rw1_6 : List PV := [ovT, .tup [.int 0], .tup [.tup [.int 0, .str "b"], .tup [.str "c", .str "b"]], .int 2]
def v_rw1_6 : PV := .non
theorem e_rw1_6 : ∀ s, d_row_to a_rw1_6 s = .ok v_rw1_6 s := fun s => by_less gl_rw1 (by kernel_rfl)
def a_rw1_7 : List PV := [ovT, .tup [.int 0], .tup [.tup [.int 0, .str "b"], .tup [.str "c", .str "c"]], .int 2]
def v_rw1_7 : PV := .tup [.int (-1), .int (-1)]
theorem e_rw1_7 : ∀ s, d_row_to a_rw1_7 s = .ok v_rw1_7 s := fun s => by_less gl_rw1 (by kernel_rfl)
def a_rw1_8 : List PV := [ovT, .tup [.int 0], .tup [.tup [.int 0, .str "c"], .tup [.str "b", .str "b"]], .int 2]
def v_rw1_8 : PV := .non
theorem e_rw1_8 : ∀ s, d_row_to a_rw1_8 s = .ok v_rw1_8 s := fun s => by_less gl_rw1 (by kernel_rfl)
def a_rw1_9 : List PV := [ovT, .tup [.int 0], .tup [.tup [.int 0, .str "c"], .tup [.str "b", .str "c"]], .int 2]
def v_rw1_9 : PV := .tup [.int (-1), .int (-1)]
theorem e_rw1_9 : ∀ s, d_row_to a_rw1_9 s = .ok v_rw1_9 s := fun s => by_less gl_rw1 (by kernel_rfl)
def a_rw1_10 : List PV := [ovT, .tup [.int 0], .tup [.tup [.int 0, .str "c"], .tup [.str "c", .str "b"]], .int 2]
def v_rw1_10 : PV := .non
theorem e_rw1_10 : ∀ s, d_row_to a_rw1_10 s = .ok v_rw1_10 s := fun s => by_less gl_rw1 (by kernel_rfl)
def a_rw1_11 : List PV := [ovT, .tup [.int 0], .tup [.tup [.int 0, .str "c"], .tup [.str "c", .str "c"]], .int 2]
def v_rw1_11 : PV := .tup [.int (-1), .int (-1)]
theorem e_rw1_11 : ∀ s, d_row_to a_rw1_11 s = .ok v_rw1_11 s := fun s => by_less gl_rw1 (by kernel_rfl)
def a_rw1_12 : List PV := [ovT, .tup [.int 0], .tup [.tup [.int 1, .str "a"], .tup [.str "b", .str "b"]], .int 2]
def v_rw1_12 : PV := .non
theorem e_rw1_12 : ∀ s, d_row_to a_rw1_12 s = .ok v_rw1_12 s := fun s => by_less gl_rw1 (by kernel_rfl)
def a_rw1_13 : List PV := [ovT, .tup [.int 0], .tup [.tup [.int 1, .str "a"], .tup [.str "b", .str "c"]], .int 2]
def v_rw1_13 : PV := .tup [.int (-1)]
theorem e_rw1_13 : ∀ s, d_row_to a_rw1_13 s = .ok v_rw1_13 s := fun s => by_less gl_rw1 (by kernel_rfl)
def a_rw1_14 : List PV := [ovT, .tup [.int 0], .tup [.tup [.int 1, .str "a"], .tup [.str "c", .str "b"]], .int 2]
def v_rw1_14 : PV := .non
theorem e_rw1_14 : ∀ s, d_row_to a_rw1_14 s = .ok v_rw1_14 s := fun s => by_less gl_rw1 (by kernel_rfl)
def a_rw1_15 : List PV := [ovT, .tup [.int 0], .tup [.tup [.int 1, .str "a"], .tup [.str "c", .str "c"]], .int 2]
def v_rw1_15 : PV := .tup [.int (-1)]
theorem e_rw1_15 : ∀ s, d_row_to a_rw1_15 s = .ok v_rw1_15 s := fun s => by_less gl_rw1 (by kernel_rfl)
def a_rw1_16 : List PV := [ovT, .tup [.int 0], .tup [.tup [.int 1, .str "b"], .tup [.str "b", .str "b"]], .int 2]
def v_rw1_16 : PV := .tup [.int (-1), .int 0]
theorem e_rw1_16 : ∀ s, d_row_to a_rw1_16 s = .ok v_rw1_16 s := fun s => by_less gl_rw1 (by kernel_rfl)
def a_rw1_17 : List PV := [ovT, .tup [.int 0], .tup [.tup [.int 1, .str "b"], .tup [.str "b", .str "c"]], .int 2]
def v_rw1_17 : PV := .tup [.int (-1), .int 0]
theorem e_rw1_17 : ∀ s, d_row_to a_rw1_17 s = .ok v_rw1_17 s := fun s => by_less gl_rw1 (by kernel_rfl)
def a_rw1_18 : List PV := [ovT, .tup [.int 0], .tup [.tup [.int 1, .str "b"], .tup [.str "c", .str "b"]], .int 2]
def v_rw1_18 : PV := .tup [.int (-1), .int (-1)]
theorem e_rw1_18 : ∀ s, d_row_to a_rw1_18 s = .ok v_rw1_18 s := fun s => by_less gl_rw1 (by kernel_rfl)
def a_rw1_19 : List PV := [ovT, .tup [.int 0], .tup [.tup [.int 1, .str "b"], .tup [.str "c", .str "c"]], .int 2]
def v_rw1_19 : PV := .tup [.int (-1), .int (-1)]
theorem e_rw1_19 : ∀ s, d_row_to a_rw1_19 s = .ok v_rw1_19 s := fun s => by_less gl_rw1 (by kernel_rfl)
def a_rw1_20 : List PV := [ovT, .tup [.int 0], .tup [.tup [.int 1, .str "c"], .tup [.str "b", .str "b"]], .int 2]
def v_rw1_20 : PV := .tup [.int (-1), .int 0]
theorem e_rw1_20 : ∀ s, d_row_to a_rw1_20 s = .ok v_rw1_20 s := fun s => by_less gl_rw1 (by kernel_rfl)
def a_rw1_21 : List PV := [ovT, .tup [.int 0], .tup [.tup [.int 1, .str "c"], .tup [.str "b", .str "c"]], .int 2]
def v_rw1_21 : PV := .tup [.int (-1), .int 0]
theorem e_rw1_21 : ∀ s, d_row_to a_rw1_21 s = .ok v_rw1_21 s := fun s => by_less gl_rw1 (by kernel_rfl)
def a_rw1_22 : List PV := [ovT, .tup [.int 0], .tup [.tup [.int 1, .str "c"], .tup [.str "c", .str "b"]], .int 2]
def v_rw1_22 : PV := .tup [.int (-1), .int (-1)]
theorem e_rw1_22 : ∀ s, d_row_to a_rw1_22 s = .ok v_rw1_22 s := fun s => by_less gl_rw1 (by kernel_rfl)
def a_rw1_23 : List PV := [ovT, .tup [.int 0], .tup [.tup [.int 1, .str "c"], .tup [.str "c", .str "c"]], .int 2]
def v_rw1_23 : PV := .tup [.int (-1), .int (-1)]
theorem e_rw1_23 : ∀ s, d_row_to a_rw1_23 s = .ok v_rw1_23 s := fun s => by_less gl_rw1 (by kernel_rfl)
def t_rw1 : List (List PV × PV) := [(a_rw1_0, v_rw1_0), (a_rw1_1, v_rw1_1), (a_rw1_2, v_rw1_2), (a_rw1_3, v_rw1_3), (a_rw1_4, v_rw1_4), (a_rw1_5, v_rw1_5), (a_rw1_6, v_rw1_6), (a_rw1_7, v_rw1_7), (a_rw1_8, v_rw1_8), (a_rw1_9, v_rw1_9), (a_rw1_10, v_rw1_10), (a_rw1_11, v_rw1_11), (a_rw1_12, v_rw1_12), (a_rw1_13, v_rw1_13), (a_rw1_14, v_rw1_14), (a_rw1_15, v_rw1_15), (a_rw1_16, v_rw1_16), (a_rw1_17, v_rw1_17), (a_rw1_18, v_rw1_18), (a_rw1_19, v_rw1_19), (a_rw1_20, v_rw1_20), (a_rw1_21, v_rw1_21), (a_rw1_22, v_rw1_22), (a_rw1_23, v_rw1_23)]
theorem k_rw1 : Knows d_row_to t_rw1 := (knows_cons e_rw1_0 (knows_cons e_rw1_1 (knows_cons e_rw1_2 (knows_cons e_rw1_3 (knows_cons e_rw1_4 (knows_cons e_rw1_5 (knows_cons e_rw1_6 (knows_cons e_rw1_7 (knows_cons e_rw1_8 (knows_cons e_rw1_9 (knows_cons e_rw1_10 (knows_cons e_rw1_11 (knows_cons e_rw1_12 (knows_cons e_rw1_13 (knows_cons e_rw1_14 (knows_cons e_rw1_15 (knows_cons e_rw1_16 (knows_cons e_rw1_17 (knows_cons e_rw1_18 (knows_cons e_rw1_19 (knows_cons e_rw1_20 (knows_cons e_rw1_21 (knows_cons e_rw1_22 (knows_cons e_rw1_23 knows_nil))))))))))))))))))))))))
abbrev G_rw2 : List Den := [(orc t_ch2)]
theorem gl_rw2 : GL2 G_rw2 [d_choices] := (GL2.cons (orc_le k_ch2) GL2.nil)
def a_rw2_0 : List PV := [ovT, .tup [.int 1], .tup [.tup [.int 0, .str "a"], .tup [.str "b", .str "b"]], .int 2]
def v_rw2_0 : PV := .non
theorem e_rw2_0 : ∀ s, d_row_to a_rw2_0 s = .ok v_rw2_0 s := fun s => by_less gl_rw2 (by kernel_rfl)
def a_rw2_1 : List PV := [ovT, .tup [.int 1], .tup [.tup [.int 0, .str "a"], .tup [.str "b", .str "c"]], .int 2]
def v_rw2_1 : PV := .non
theorem e_rw2_1 : ∀ s, d_row_to a_rw2_1 s = .ok v_rw2_1 s := fun s => by_less gl_rw2 (by kernel_rfl)
def a_rw2_2 : List PV := [ovT, .tup [.int 1], .tup [.tup [.int 0, .str "a"], .tup [.str "c", .str "b"]], .int 2]
def v_rw2_2 : PV := .tup [.int (-1)]
theorem e_rw2_2 : ∀ s, d_row_to a_rw2_2 s = .ok v_rw2_2 s := fun s => by_less gl_rw2 (by kernel_rfl)
def a_rw2_3 : List PV := [ovT, .tup [.int 1], .tup [.tup [.int 0, .str "a"], .tup [.str "c", .str "c"]], .int 2]
def v_rw2_3 : PV := .tup [.int (-1)]
theorem e_rw2_3 : ∀ s, d_row_to a_rw2_3 s = .ok v_rw2_3 s := fun s => by_less gl_rw2 (by kernel_rfl)
def a_rw2_4 : List PV := [ovT, .tup [.int 1], .tup [.tup [.int 0, .str "b"], .tup [.str "b", .str "b"]], .int 2]
def v_rw2_4 : PV := .tup [.int (-1), .int 1]
theorem e_rw2_4 : ∀ s, d_row_to a_rw2_4 s = .ok v_rw2_4 s := fun s => by_less gl_rw2 (by kernel_rfl)
def a_rw2_5 : List PV := [ovT, .tup [.int 1], .tup [.tup [.int 0, .str "b"], .tup [.str "b", .str "c"]], .int 2]
def v_rw2_5 : PV := .tup [.int (-1), .int (-1)]
theorem e_rw2_5 : ∀ s, d_row_to a_rw2_5 s = .ok v_rw2_5 s := fun s => by_less gl_rw2 (by kernel_rfl)
def a_rw2_6 : List PV := [ovT, .tup [.int 1], .tup [.tup [.int 0, .str "b"], .tup [.str "c", .str "b"]], .int 2]
def v_rw2_6 : PV := .tup [.int (-1), .int 1]
theorem e_rw2_6 : ∀ s, d_row_to a_rw2_6 s = .ok v_rw2_6 s := fun s => by_less gl_rw2 (by kernel_rfl)
def a_rw2_7 : List PV := [ovT, .tup [.int 1], .tup [.tup [.int 0, .str "b"], .tup [.str "c", .str "c"]], .int 2]
def v_rw2_7 : PV := .tup [.int (-1), .int (-1)]
theorem e_rw2_7 : ∀ s, d_row_to a_rw2_7 s = .ok v_rw2_7 s := fun s => by_less gl_rw2 (by kernel_rfl)
def a_rw2_8 : List PV := [ovT, .tup [.int 1], .tup [.tup [.int 0, .str "c"], .tup [.str "b", .str "b"]], .int 2]
def v_rw2_8 : PV := .tup [.int (-1), .int 1]
theorem e_rw2_8 : ∀ s, d_row_to a_rw2_8 s = .ok v_rw2_8 s := fun s => by_less gl_rw2 (by kernel_rfl)
def a_rw2_9 : List PV := [ovT, .tup [.int 1], .tup [.tup [.int 0, .str "c"], .tup [.str "b", .str "c"]], .int 2]
def v_rw2_9 : PV := .tup [.int (-1), .int (-1)]
theorem e_rw2_9 : ∀ s, d_row_to a_rw2_9 s = .ok v_rw2_9 s := fun s => by_less gl_rw2 (by kernel_rfl)
def a_rw2_10 : List PV := [ovT, .tup [.int 1], .tup [.tup [.int 0, .str "c"], .tup [.str "c", .str "b"]], .int 2]
def v_rw2_10 : PV := .tup [.int (-1), .int 1]
theorem e_rw2_10 : ∀ s, d_row_to a_rw2_10 s = .ok v_rw2_10 s := fun s => by_less gl_rw2 (by kernel_rfl)
def a_rw2_11 : List PV := [ovT, .tup [.int 1], .tup [.tup [.int 0, .str "c"], .tup [.str "c", .str "c"]], .int 2]
def v_rw2_11 : PV := .tup [.int (-1), .int (-1)]
theorem e_rw2_11 : ∀ s, d_row_to a_rw2_11 s = .ok v_rw2_11 s := fun s => by_less gl_rw2 (by kernel_rfl)
def a_rw2_12 : List PV := [ovT, .tup [.int 1], .tup [.tup [.int 1, .str "a"], .tup [.str "b", .str "b"]], .int 2]
def v_rw2_12 : PV := .tup [.int 1]
theorem e_rw2_12 : ∀ s, d_row_to a_rw2_12 s = .ok v_rw2_12 s := fun s => by_less gl_rw2 (by kernel_rfl)
def a_rw2_13 : List PV := [ovT, .tup [.int 1], .tup [.tup [.int 1, .str "a"], .tup [.str "b", .str "c"]], .int 2]
def v_rw2_13 : PV := .tup [.int (-1)]
theorem e_rw2_13 : ∀ s, d_row_to a_rw2_13 s = .ok v_rw2_13 s := fun s => by_less gl_rw2 (by kernel_rfl)
def a_rw2_14 : List PV := [ovT, .tup [.int 1], .tup [.tup [.int 1, .str "a"], .tup [.str "c", .str "b"]], .int 2]
def v_rw2_14 : PV := .tup [.int 1]
theorem e_rw2_14 : ∀ s, d_row_to a_rw2_14 s = .ok v_rw2_14 s := fun s => by_less gl_rw2 (by kernel_rfl)
def a_rw2_15 : List PV := [ovT, .tup [.int 1], .tup [.tup [.int 1, .str "a"], .tup [.str "c", .str "c"]], .int 2]
def v_rw2_15 : PV := .tup [.int (-1)]
theorem e_rw2_15 : ∀ s, d_row_to a_rw2_15 s = .ok v_rw2_15 s := fun s => by_less gl_rw2 (by kernel_rfl)
def a_rw2_16 : List PV := [ovT, .tup [.int 1], .tup [.tup [.int 1, .str "b"], .tup [.str "b", .str "b"]], .int 2]
def v_rw2_16 : PV := .non
theorem e_rw2_16 : ∀ s, d_row_to a_rw2_16 s = .ok v_rw2_16 s := fun s => by_less gl_rw2 (by kernel_rfl)
def a_rw2_17 : List PV := [ovT, .tup [.int 1], .tup [.tup [.int 1, .str "b"], .tup [.str "b", .str "c"]], .int 2]
def v_rw2_17 : PV := .non
theorem e_rw2_17 : ∀ s, d_row_to a_rw2_17 s = .ok v_rw2_17 s := fun s => by_less gl_rw2 (by kernel_rfl)
def a_rw2_18 : List PV := [ovT, .tup [.int 1], .tup [.tup [.int 1, .str "b"], .tup [.str "c", .str "b"]], .int 2]
def v_rw2_18 : PV := .tup [.int (-1), .int (-1)]
theorem e_rw2_18 : ∀ s, d_row_to a_rw2_18 s = .ok v_rw2_18 s := fun s => by_less gl_rw2 (by kernel_rfl)
def a_rw2_19 : List PV := [ovT, .tup [.int 1], .tup [.tup [.int 1, .str "b"], .tup [.str "c", .str "c"]], .int 2]
def v_rw2_19 : PV := .tup [.int (-1), .int (-1)]
theorem e_rw2_19 : ∀ s, d_row_to a_rw2_19 s = .ok v_rw2_19 s := fun s => by_less gl_rw2 (by kernel_rfl)
def a_rw2_20 : List PV := [ovT, .tup [.int 1], .tup [.tup [.int 1, .str "c"], .tup [.str "b", .str "b"]], .int 2]
def v_rw2_20 : PV := .non
theorem e_rw2_20 : ∀ s, d_row_to a_rw2_20 s = .ok v_rw2_20 s := fun s => by_less gl_rw2 (by kernel_rfl)
def a_rw2_21 : List PV := [ovT, .tup [.int 1], .tup [.tup [.int 1, .str "c"], .tup [.str "b", .str "c"]], .int 2]
def v_rw2_21 : PV := .non
theorem e_rw2_21 : ∀ s, d_row_to a_rw2_21 s = .ok v_rw2_21 s := fun s => by_less gl_rw2 (by kernel_rfl)
def a_rw2_22 : List PV := [ovT, .tup [.int 1], .tup [.tup [.int 1, .str "c"], .tup [.str "c", .str "b"]], .int 2]
def v_rw2_22 : PV := .tup [.int (-1), .int (-1)]
theorem e_rw2_22 : ∀ s, d_row_to a_rw2_22 s = .ok v_rw2_22 s := fun s => by_less gl_rw2 (by kernel_rfl)
def a_rw2_23 : List PV := [ovT, .tup [.int 1], .tup [.tup [.int 1, .str "c"], .tup [.str "c", .str "c"]], .int 2]
def v_rw2_23 : PV := .tup [.int (-1), .int (-1)]
theorem e_rw2_23 : ∀ s, d_row_to a_rw2_23 s = .ok v_rw2_23 s := fun s => by_less gl_rw2 (by kernel_rfl)
def t_rw2 : List (List PV × PV) := [(a_rw2_0, v_rw2_0), (a_rw2_1, v_rw2_1), (a_rw2_2, v_rw2_2), (a_rw2_3, v_rw2_3), (a_rw2_4, v_rw2_4), (a_rw2_5, v_rw2_5), (a_rw2_6, v_rw2_6), (a_rw2_7, v_rw2_7), (a_rw2_8, v_rw2_8), (a_rw2_9, v_rw2_9), (a_rw2_10, v_rw2_10), (a_rw2_11, v_rw2_11), (a_rw2_12, v_rw2_12), (a_rw2_13, v_rw2_13), (a_rw2_14, v_rw2_14), (a_rw2_15, v_rw2_15), (a_rw2_16, v_rw2_16), (a_rw2_17, v_rw2_17), (a_rw2_18, v_rw2_18), (a_rw2_19, v_rw2_19), (a_rw2_20, v_rw2_20), (a_rw2_21, v_rw2_21), (a_rw2_22, v_rw2_22), (a_rw2_23, v_rw2_23)]
theorem k_rw2 : Knows d_row_to t_rw2 := (knows_cons e_rw2_0 (knows_cons e_rw2_1 (knows_cons e_rw2_2 (knows_cons e_rw2_3 (knows_cons e_rw2_4 (knows_cons e_rw2_5 (knows_cons e_rw2_6 (knows_cons e_rw2_7 (knows_cons e_rw2_8 (knows_cons e_rw2_9 (knows_cons e_rw2_10 (knows_cons e_rw2_11 (knows_cons e_rw2_12 (knows_cons e_rw2_13 (knows_cons e_rw2_14 (knows_cons e_rw2_15 (knows_cons e_rw2_16 (knows_cons e_rw2_17 (knows_cons e_rw2_18 (knows_cons e_rw2_19 (knows_cons e_rw2_20 (knows_cons e_rw2_21 (knows_cons e_rw2_22 (knows_cons e_rw2_23 knows_nil))))))))))))))))))))))))
abbrev G_rw3 : List Den := [(orc t_ch3)]
theorem gl_rw3 : GL2 G_rw3 [d_choices] := (GL2.cons (orc_le k_ch3) GL2.nil)
def a_rw3_0 : List PV := [ovT, .tup [.int 0, .int 1], .tup [.tup [.int 0, .str "a"], .tup [.str "b", .str "b"]], .int 2]
def v_rw3_0 : PV := .tup [.int 0]
theorem e_rw3_0 : ∀ s, d_row_to a_rw3_0 s = .ok v_rw3_0 s := fun s => by_less gl_rw3 (by kernel_rfl)
def a_rw3_1 : List PV := [ovT, .tup [.int 0, .int 1], .tup [.tup [.int 0, .str "a"], .tup [.str "b", .str "c"]], .int 2]
def v_rw3_1 : PV := .tup [.int 0]
theorem e_rw3_1 : ∀ s, d_row_to a_rw3_1 s = .ok v_rw3_1 s := fun s => by_less gl_rw3 (by kernel_rfl)
def a_rw3_2 : List PV := [ovT, .tup [.int 0, .int 1], .tup [.tup [.int 0, .str "a"], .tup [.str "c", .str "b"]], .int 2]
def v_rw3_2 : PV := .tup [.int (-1)]
theorem e_rw3_2 : ∀ s, d_row_to a_rw3_2 s = .ok v_rw3_2 s := fun s => by_less gl_rw3 (by kernel_rfl)
def a_rw3_3 : List PV := [ovT, .tup [.int 0, .int 1], .tup [.tup [.int 0, .str "a"], .tup [.str "c", .str "c"]], .int 2]
def v_rw3_3 : PV := .tup [.int (-1)]
theorem e_rw3_3 : ∀ s, d_row_to a_rw3_3 s = .ok v_rw3_3 s := fun s => by_less gl_rw3 (by kernel_rfl)
def a_rw3_4 : List PV := [ovT, .tup [.int 0, .int 1], .tup [.tup [.int 0, .str "b"], .tup [.str "b", .str "b"]], .int 2]
def v_rw3_4 : PV := .tup [.int (-1), .int 1]
theorem e_rw3_4 : ∀ s, d_row_to a_rw3_4 s = .ok v_rw3_4 s := fun s => by_less gl_rw3 (by kernel_rfl)
def a_rw3_5 : List PV := [ovT, .tup [.int 0, .int 1], .tup [.tup [.int 0, .str "b"], .tup [.str "b", .str "c"]], .int 2]
def v_rw3_5 : PV := .tup [.int (-1), .int (-1)]
theorem e_rw3_5 : ∀ s, d_row_to a_rw3_5 s = .ok v_rw3_5 s := fun s => by_less gl_rw3 (by kernel_rfl)
def a_rw3_6 : List PV := [ovT, .tup [.int 0, .int 1], .tup [.tup [.int 0, .str "b"], .tup [.str "c", .str "b"]], .int 2]
def v_rw3_6 : PV := .tup [.int (-1), .int 1]
theorem e_rw3_6 : ∀ s, d_row_to a_rw3_6 s = .ok v_rw3_6 s := fun s => by_less gl_rw3 (by kernel_rfl)
def a_rw3_7 : List PV := [ovT, .tup [.int 0, .int 1], .tup [.tup [.int 0, .str "b"], .tup [.str "c", .str "c"]], .int 2]
def v_rw3_7 : PV := .tup [.int (-1), .int (-1)]
theorem e_rw3_7 : ∀ s, d_row_to a_rw3_7 s = .ok v_rw3_7 s := fun s => by_less gl_rw3 (by kernel_rfl)
def a_rw3_8 : List PV := [ovT, .tup [.int 0, .int 1], .tup [.tup [.int 0, .str "c"], .tup [.str "b", .str "b"]], .int 2]
def v_rw3_8 : PV := .tup [.int (-1), .int 1]
theorem e_rw3_8 : ∀ s, d_row_to a_rw3_8 s = .ok v_rw3_8 s := fun s => by_less gl_rw3 (by kernel_rfl)
def a_rw3_9 : List PV := [ovT, .tup [.int 0, .int 1], .tup [.tup [.int 0, .str "c"], .tup [.str "b", .str "c"]], .int 2]
def v_rw3_9 : PV := .tup [.int (-1), .int (-1)]
theorem e_rw3_9 : ∀ s, d_row_to a_rw3_9 s = .ok v_rw3_9 s := fun s => by_less gl_rw3 (by kernel_rfl)
def a_rw3_10 : List PV := [ovT, .tup [.int 0, .int 1], .tup [.tup [.int 0, .str "c"], .tup [.str "c", .str "b"]], .int 2]
def v_rw3_10 : PV := .tup [.int (-1), .int 1]
theorem e_rw3_10 : ∀ s, d_row_to a_rw3_10 s = .ok v_rw3_10 s := fun s => by_less gl_rw3 (by kernel_rfl)
def a_rw3_11 : List PV := [ovT, .tup [.int 0, .int 1], .tup [.tup [.int 0, .str "c"], .tup [.str "c", .str "c"]], .int 2]
def v_rw3_11 : PV := .tup [.int (-1), .int (-1)]
theorem e_rw3_11 : ∀ s, d_row_to a_rw3_11 s = .ok v_rw3_11 s := fun s => by_less gl_rw3 (by kernel_rfl)
def a_rw3_12 : List PV := [ovT, .tup [.int 0, .int 1], .tup [.tup [.int 1, .str "a"], .tup [.str "b", .str "b"]], .int 2]
def v_rw3_12 : PV := .tup [.int 1]
theorem e_rw3_12 : ∀ s, d_row_to a_rw3_12 s = .ok v_rw3_12 s := fun s => by_less gl_rw3 (by kernel_rfl)
def a_rw3_13 : List PV := [ovT, .tup [.int 0, .int 1], .tup [.tup [.int 1, .str "a"], .tup [.str "b", .str "c"]], .int 2]
def v_rw3_13 : PV := .tup [.int (-1)]
theorem e_rw3_13 : ∀ s, d_row_to a_rw3_13 s = .ok v_rw3_13 s := fun s => by_less gl_rw3 (by kernel_rfl)
def a_rw3_14 : List PV := [ovT, .tup [.int 0, .int 1], .tup [.tup [.int 1, .str "a"], .tup [.str "c", .str "b"]], .int 2]
def v_rw3_14 : PV := .tup [.int 1]
theorem e_rw3_14 : ∀ s, d_row_to a_rw3_14 s = .ok v_rw3_14 s := fun s => by_less gl_rw3 (by kernel_rfl)
def a_rw3_15 : List PV := [ovT, .tup [.int 0, .int 1], .tup [.tup [.int 1, .str "a"], .tup [.str "c", .str "c"]], .int 2]
def v_rw3_15 : PV := .tup [.int (-1)]
theorem e_rw3_15 : ∀ s, d_row_to a_rw3_15 s = .ok v_rw3_15 s := fun s => by_less gl_rw3 (by kernel_rfl)
def a_rw3_16 : List PV := [ovT, .tup [.int 0, .int 1], .tup [.tup [.int 1, .str "b"], .tup [.str "b", .str "b"]], .int 2]
def v_rw3_16 : PV := .tup [.int (-1), .int 0]
theorem e_rw3_16 : ∀ s, d_row_to a_rw3_16 s = .ok v_rw3_16 s := fun s => by_less gl_rw3 (by kernel_rfl)
def a_rw3_17 : List PV := [ovT, .tup [.int 0, .int 1], .tup [.tup [.int 1, .str "b"], .tup [.str "b", .str "c"]], .int 2]
def v_rw3_17 : PV := .tup [.int (-1), .int 0]
theorem e_rw3_17 : ∀ s, d_row_to a_rw3_17 s = .ok v_rw3_17 s := fun s => by_less gl_rw3 (by kernel_rfl)
def a_rw3_18 : List PV := [ovT, .tup [.int 0, .int 1], .tup [.tup [.int 1, .str "b"], .tup [.str "c", .str "b"]], .int 2]
def v_rw3_18 : PV := .tup [.int (-1), .int (-1)]
theorem e_rw3_18 : ∀ s, d_row_to a_rw3_18 s = .ok v_rw3_18 s := fun s => by_less gl_rw3 (by kernel_rfl)
def a_rw3_19 : List PV := [ovT, .tup [.int 0, .int 1], .tup [.tup [.int 1, .str "b"], .tup [.str "c", .str "c"]], .int 2]
def v_rw3_19 : PV := .tup [.int (-1), .int (-1)]
theorem e_rw3_19 : ∀ s, d_row_to a_rw3_19 s = .ok v_rw3_19 s := fun s => by_less gl_rw3 (by kernel_rfl)
def a_rw3_20 : List PV := [ovT, .tup [.int 0, .int 1], .tup [.tup [.int 1, .str "c"], .tup [.str "b", .str "b"]], .int 2]
def v_rw3_20 : PV := .tup [.int (-1), .int 0]
theorem e_rw3_20 : ∀ s, d_row_to a_rw3_20 s = .ok v_rw3_20 s := fun s => by_less gl_rw3 (by kernel_rfl)
def a_rw3_21 : List PV := [ovT, .tup [.int 0, .int 1], .tup [.tup [.int 1, .str "c"], .tup [.str "b", .str "c"]], .int 2]
def v_rw3_21 : PV := .tup [.int (-1), .int 0]
theorem e_rw3_21 : ∀ s, d_row_to a_rw3_21 s = .ok v_rw3_21 s := fun s => by_less gl_rw3 (by kernel_rfl)
def a_rw3_22 : List PV := [ovT, .tup [.int 0, .int 1], .tup [.tup [.int 1, .str "c"], .tup [.str "c", .str "b"]], .int 2]
def v_rw3_22 : PV := .tup [.int (-1), .int (-1)]
theorem e_rw3_22 : ∀ s, d_row_to a_rw3_22 s = .ok v_rw3_22 s := fun s => by_less gl_rw3 (by kernel_rfl)
def a_rw3_23 : List PV := [ovT, .tup [.int 0, .int 1], .tup [.tup [.int 1, .str "c"], .tup [.str "c", .str "c"]], .int 2]
def v_rw3_23 : PV := .tup [.int (-1), .int (-1)]
theorem e_rw3_23 : ∀ s, d_row_to a_rw3_23 s = .ok v_rw3_23 s := fun s => by_less gl_rw3 (by kernel_rfl)
def t_rw3 : List (List PV × PV) := [(a_rw3_0, v_rw3_0), (a_rw3_1, v_rw3_1), (a_rw3_2, v_rw3_2), (a_rw3_3, v_rw3_3), (a_rw3_4, v_rw3_4), (a_rw3_5, v_rw3_5), (a_rw3_6, v_rw3_6), (a_rw3_7, v_rw3_7), (a_rw3_8, v_rw3_8), (a_rw3_9, v_rw3_9), (a_rw3_10, v_rw3_10), (a_rw3_11, v_rw3_11), (a_rw3_12, v_rw3_12), (a_rw3_13, v_rw3_13), (a_rw3_14, v_rw3_14), (a_rw3_15, v_rw3_15), (a_rw3_16, v_rw3_16), (a_rw3_17, v_rw3_17), (a_rw3_18, v_rw3_18), (a_rw3_19, v_rw3_19), (a_rw3_20, v_rw3_20), (a_rw3_21, v_rw3_21), (a_rw3_22, v_rw3_22), (a_rw3_23, v_rw3_23)]
theorem k_rw3 : Knows d_row_to t_rw3 := (knows_cons e_rw3_0 (knows_cons e_rw3_1 (knows_cons e_rw3_2 (knows_cons e_rw3_3 (knows_cons e_rw3_4 (knows_cons e_rw3_5 (knows_cons e_rw3_6 (knows_cons e_rw3_7 (knows_cons e_rw3_8 (knows_cons e_rw3_9 (knows_cons e_rw3_10 (knows_cons e_rw3_11 (knows_cons e_rw3_12 (knows_cons e_rw3_13 (knows_cons e_rw3_14 (knows_cons e_rw3_15 (knows_cons e_rw3_16 (knows_cons e_rw3_17 (knows_cons e_rw3_18 (knows_cons e_rw3_19 (knows_cons e_rw3_20 (knows_cons e_rw3_21 (knows_cons e_rw3_22 (knows_cons e_rw3_23 knows_nil))))))))))))))))))))))))
theorem knows_app {d : Den} {a b : List (List PV × PV)} (h : Knows d a) (g : Knows d b) : Knows d (a ++ b) := by
  intro p hp
  rcases List.mem_append.mp hp with q | q
  · exact h p q
  · exact g p q
theorem k_rw : Knows d_row_to (t_rw0 ++ (t_rw1 ++ (t_rw2 ++ t_rw3))) := knows_app k_rw0 (knows_app k_rw1 (knows_app k_rw2 k_rw3))
abbrev G_lh : List Den := [d_lots_of, (orc (t_rw0 ++ (t_rw1 ++ (t_rw2 ++ t_rw3)))), d_all_places, d_need_stretch, d_need_track]
theorem gl_lh : GL2 G_lh [d_lots_of, d_row_to, d_all_places, d_need_stretch, d_need_track] := (GL2.cons (fun _ => ml _) (GL2.cons (orc_le k_rw) (GL2.cons (fun _ => ml _) (GL2.cons (fun _ => ml _) (GL2.cons (fun _ => ml _) GL2.nil)))))
def a_lh_0 : List PV := [ovT, .int 2]
def v_lh_0 : PV := .lst [.tup [.int 0, .int 1]]
theorem e_lh_0 : ∀ s, d_least_hands a_lh_0 s = .ok v_lh_0 s := fun s => by_less gl_lh (by kernel_rfl)
def t_lh : List (List PV × PV) := [(a_lh_0, v_lh_0)]
theorem k_lh : Knows d_least_hands t_lh := (knows_cons e_lh_0 knows_nil)
abbrev G_br : List Den := [(orc t_rw1), d_need_lever]
theorem gl_br : GL2 G_br [d_row_to, d_need_lever] := (GL2.cons (orc_le k_rw1) (GL2.cons (fun _ => ml _) GL2.nil))
def a_br_0 : List PV := [ovT, .tup [.int 0], .tup [.int 0, .str "a"], .tup [.str "b", .str "b"], .int 2]
def v_br_0 : PV := .tup [.int 0]
theorem e_br_0 : ∀ s, d_bring_row a_br_0 s = .ok v_br_0 s := fun s => by_less gl_br (by kernel_rfl)
def t_br : List (List PV × PV) := [(a_br_0, v_br_0)]
theorem k_br : Knows d_bring_row t_br := (knows_cons e_br_0 knows_nil)
abbrev GM : List Den := [d_parting, d_mirrored, d_kind_changes, d_can_avoid, d_holds, (orc t_br), (orc t_lh), d_bring, d_safe_pairs, d_meeting, d_safe_standings, d_latest, d_sure, d_once, d_never, d_for_ever, d_ring]
theorem gl_ov : GL2 GM GO := (GL2.cons (fun _ => ml _) (GL2.cons (fun _ => ml _) (GL2.cons (fun _ => ml _) (GL2.cons (fun _ => ml _) (GL2.cons (fun _ => ml _) (GL2.cons (orc_le k_br) (GL2.cons (orc_le k_lh) (GL2.cons (fun _ => ml _) (GL2.cons (fun _ => ml _) (GL2.cons (fun _ => ml _) (GL2.cons (fun _ => ml _) (GL2.cons (fun _ => ml _) (GL2.cons (fun _ => ml _) (GL2.cons (fun _ => ml _) (GL2.cons (fun _ => ml _) (GL2.cons (fun _ => ml _) (GL2.cons (fun _ => ml _) GL2.nil)))))))))))))))))
theorem ov0_ok : ∀ s, denS GO [] [] ov0 [.no, .no, .no, .no, .no, .no] s = .ok (.nx [.sh ovJ, .no, .no, .no, .no, .no]) s := fun s => by kernel_rfl
theorem ov1_ok : ∀ s, denS GO [] [] ov1 [.sh ovJ, .no, .no, .no, .no, .no] s = .ok (.nx [.sh ovJ, .sh ovT, .no, .no, .no, .no]) s := fun s => by kernel_rfl
theorem ov2_ok : ∀ s, denS GO [] [] ov2 [.sh ovJ, .sh ovT, .no, .no, .no, .no] s = .ok (.nx [.sh ovJ, .sh ovT, .ow (repN [PV.bl true] 2), .no, .no, .no]) s := fun s => by kernel_rfl
theorem ov3_ok : ∀ s, denS GO [] [] ov3 [.sh ovJ, .sh ovT, .ow (repN [PV.bl true] 2), .no, .no, .no] s = .ok (.nx [.sh ovJ, .sh ovT, .ow (repN [PV.bl true] 3), .no, .no, .no]) s := fun s => by kernel_rfl
theorem ov4_ok : ∀ s, denS GO [] [] ov4 [.sh ovJ, .sh ovT, .ow (repN [PV.bl true] 3), .no, .no, .no] s = .ok (.nx [.sh ovJ, .sh ovT, .ow (repN [PV.bl true] 4), .no, .no, .no]) s := fun s => by kernel_rfl
theorem ov5_ok : ∀ s, denS GO [] [] ov5 [.sh ovJ, .sh ovT, .ow (repN [PV.bl true] 4), .no, .no, .no] s = .ok (.nx [.sh ovJ, .sh ovT, .ow (repN [PV.bl true] 5), .no, .no, .no]) s := fun s => by kernel_rfl
theorem ov6_ok : ∀ s, denS GO [] [] ov6 [.sh ovJ, .sh ovT, .ow (repN [PV.bl true] 5), .no, .no, .no] s = .ok (.nx [.sh ovJ, .sh ovT, .ow (repN [PV.bl true] 5), .no, .sh (ovE "a" 0), .sh (ovE "b" 1)]) s := fun s => by kernel_rfl
theorem ov7_ok : ∀ s, denS GO [] [] ov7 [.sh ovJ, .sh ovT, .ow (repN [PV.bl true] 5), .no, .sh (ovE "a" 0), .sh (ovE "b" 1)] s = .ok (.nx [.sh ovJ, .sh ovT, .ow (repN [PV.bl true] 6), .no, .sh (ovE "a" 0), .sh (ovE "b" 1)]) s := fun s => by kernel_rfl
theorem ov8_ok : ∀ s, denS GO [] [] ov8 [.sh ovJ, .sh ovT, .ow (repN [PV.bl true] 6), .no, .sh (ovE "a" 0), .sh (ovE "b" 1)] s = .ok (.nx [.sh ovJ, .sh ovT, .ow (repN [PV.bl true] 7), .no, .sh (ovE "a" 0), .sh (ovE "b" 1)]) s := fun s => by kernel_rfl
theorem ov9_ok : ∀ s, denS GO [] [] ov9 [.sh ovJ, .sh ovT, .ow (repN [PV.bl true] 7), .no, .sh (ovE "a" 0), .sh (ovE "b" 1)] s = .ok (.nx [.sh ovJ, .sh ovT, .ow (repN [PV.bl true] 8), .no, .sh (ovE "a" 0), .sh (ovE "b" 1)]) s := fun s => by kernel_rfl
theorem ov10_ok : ∀ s, denS GO [] [] ov10 [.sh ovJ, .sh ovT, .ow (repN [PV.bl true] 8), .no, .sh (ovE "a" 0), .sh (ovE "b" 1)] s = .ok (.nx [.sh ovJ, .sh ovT, .ow (repN [PV.bl true] 8), .sh ovD, .sh (ovE "a" 0), .sh (ovE "b" 1)]) s := fun s => by kernel_rfl
theorem ov11_ok : ∀ s, denS GO [] [] ov11 [.sh ovJ, .sh ovT, .ow (repN [PV.bl true] 8), .sh ovD, .sh (ovE "a" 0), .sh (ovE "b" 1)] s = .ok (.nx [.sh ovJ, .sh ovT, .ow (repN [PV.bl true] 9), .sh ovD, .sh (ovE "a" 0), .sh (ovE "b" 1)]) s := fun s => by kernel_rfl
theorem ov12_ok : ∀ s, denS GO [] [] ov12 [.sh ovJ, .sh ovT, .ow (repN [PV.bl true] 9), .sh ovD, .sh (ovE "a" 0), .sh (ovE "b" 1)] s = .ok (.nx [.sh ovJ, .sh ovT, .ow (repN [PV.bl true] 10), .sh ovD, .sh (ovE "a" 0), .sh (ovE "b" 1)]) s := fun s => by kernel_rfl
theorem ov13_ok : ∀ s, denS GO [] [] ov13 [.sh ovJ, .sh ovT, .ow (repN [PV.bl true] 10), .sh ovD, .sh (ovE "a" 0), .sh (ovE "b" 1)] s = .ok (.nx [.sh ovJ, .sh ovT, .ow (repN [PV.bl true] 11), .sh ovD, .sh (ovE "a" 0), .sh (ovE "b" 1)]) s := fun s => by kernel_rfl
theorem ov14_ok : ∀ s, denS GO [] [] ov14 [.sh ovJ, .sh ovT, .ow (repN [PV.bl true] 11), .sh ovD, .sh (ovE "a" 0), .sh (ovE "b" 1)] s = .ok (.nx [.sh ovJ, .sh ovT, .ow (repN [PV.bl true] 12), .sh ovD, .sh (ovE "a" 0), .sh (ovE "b" 1)]) s := fun s => denS_mono gl_ov.le ov14 _ s _ s (by kernel_rfl)
theorem ov15_ok : ∀ s, denS GO [] [] ov15 [.sh ovJ, .sh ovT, .ow (repN [PV.bl true] 12), .sh ovD, .sh (ovE "a" 0), .sh (ovE "b" 1)] s = .ok (.nx [.sh ovJ, .sh ovT, .ow (repN [PV.bl true] 13), .sh ovD, .sh (ovE "a" 0), .sh (ovE "b" 1)]) s := fun s => by kernel_rfl
theorem ov16_ok : ∀ s, denS GO [] [] ov16 [.sh ovJ, .sh ovT, .ow (repN [PV.bl true] 13), .sh ovD, .sh (ovE "a" 0), .sh (ovE "b" 1)] s = .ok (.nx [.sh ovJ, .sh ovT, .ow (repN [PV.bl true] 14), .sh ovD, .sh (ovE "a" 0), .sh (ovE "b" 1)]) s := fun s => by kernel_rfl
theorem ov17_ok : ∀ s, denS GO [] [] ov17 [.sh ovJ, .sh ovT, .ow (repN [PV.bl true] 14), .sh ovD, .sh (ovE "a" 0), .sh (ovE "b" 1)] s = .ok (.rt (.lst (repN [PV.bl true] 15))) s := fun s => by kernel_rfl
theorem ov_ir : ir__law_oval_so = (.cons ov0 (.cons ov1 (.cons ov2 (.cons ov3 (.cons ov4 (.cons ov5 (.cons ov6 (.cons ov7 (.cons ov8 (.cons ov9 (.cons ov10 (.cons ov11 (.cons ov12 (.cons ov13 (.cons ov14 (.cons ov15 (.cons ov16 (.cons ov17 .nil)))))))))))))))))) := rfl
theorem ov_run (s : AS) : denSs GO [] [] ir__law_oval_so [.no, .no, .no, .no, .no, .no] s = .ok (.rt (.lst (repN [PV.bl true] 15))) s := by
  rw [ov_ir]
  rw [denSs, bnd_ok (ov0_ok s)]
  simp only
  rw [denSs, bnd_ok (ov1_ok s)]
  simp only
  rw [denSs, bnd_ok (ov2_ok s)]
  simp only
  rw [denSs, bnd_ok (ov3_ok s)]
  simp only
  rw [denSs, bnd_ok (ov4_ok s)]
  simp only
  rw [denSs, bnd_ok (ov5_ok s)]
  simp only
  rw [denSs, bnd_ok (ov6_ok s)]
  simp only
  rw [denSs, bnd_ok (ov7_ok s)]
  simp only
  rw [denSs, bnd_ok (ov8_ok s)]
  simp only
  rw [denSs, bnd_ok (ov9_ok s)]
  simp only
  rw [denSs, bnd_ok (ov10_ok s)]
  simp only
  rw [denSs, bnd_ok (ov11_ok s)]
  simp only
  rw [denSs, bnd_ok (ov12_ok s)]
  simp only
  rw [denSs, bnd_ok (ov13_ok s)]
  simp only
  rw [denSs, bnd_ok (ov14_ok s)]
  simp only
  rw [denSs, bnd_ok (ov15_ok s)]
  simp only
  rw [denSs, bnd_ok (ov16_ok s)]
  simp only
  rw [denSs, bnd_ok (ov17_ok s)]
  rfl
theorem gd_oval : ∀ s, allTrue (d__law_oval_so [] s) = some s := fun s => by
  have e : d__law_oval_so [] s = .ok (.lst (repN [PV.bl true] 15)) s := by
    unfold d__law_oval_so run
    exact bnd_ok (ov_run s)
  rw [e]
  rfl
end RP

namespace RP
theorem lp11 : ∀ s, allTrue (d__law_loop_so [.int 1, .int 1] s) = some s := fun s => by kernel_rfl
theorem lp12 : ∀ s, allTrue (d__law_loop_so [.int 1, .int 2] s) = some s := fun s => by kernel_rfl
theorem lp21 : ∀ s, allTrue (d__law_loop_so [.int 2, .int 1] s) = some s := fun s => by kernel_rfl
theorem lp22 : ∀ s, allTrue (d__law_loop_so [.int 2, .int 2] s) = some s := fun s => by kernel_rfl
theorem st111 : ∀ s, allTrue (d__law_star_so [.int 1, .int 1, .int 1] s) = some s := fun s => by kernel_rfl
theorem st112 : ∀ s, allTrue (d__law_star_so [.int 1, .int 1, .int 2] s) = some s := fun s => by kernel_rfl
theorem st121 : ∀ s, allTrue (d__law_star_so [.int 1, .int 2, .int 1] s) = some s := fun s => by kernel_rfl
theorem st122 : ∀ s, allTrue (d__law_star_so [.int 1, .int 2, .int 2] s) = some s := fun s => by kernel_rfl
theorem st211 : ∀ s, allTrue (d__law_star_so [.int 2, .int 1, .int 1] s) = some s := fun s => by kernel_rfl
theorem st212 : ∀ s, allTrue (d__law_star_so [.int 2, .int 1, .int 2] s) = some s := fun s => by kernel_rfl
theorem st221 : ∀ s, allTrue (d__law_star_so [.int 2, .int 2, .int 1] s) = some s := fun s => by kernel_rfl
theorem st222 : ∀ s, allTrue (d__law_star_so [.int 2, .int 2, .int 2] s) = some s := fun s => by kernel_rfl
theorem one_two {a : Int} (h : 1 ≤ a) (g : a ≤ 2) : a = 1 ∨ a = 2 := by omega
theorem gd_loop (a b : Int) (h1 : 1 ≤ a) (h2 : a ≤ 2) (h3 : 1 ≤ b) (h4 : b ≤ 2) : ∀ s, allTrue (d__law_loop_so [.int a, .int b] s) = some s := by
  rcases one_two h1 h2 with e | e <;> rcases one_two h3 h4 with f | f <;> subst e f
  · exact lp11
  · exact lp12
  · exact lp21
  · exact lp22
theorem gd_star (a b c : Int) (h1 : 1 ≤ a) (h2 : a ≤ 2) (h3 : 1 ≤ b) (h4 : b ≤ 2) (h5 : 1 ≤ c) (h6 : c ≤ 2) : ∀ s, allTrue (d__law_star_so [.int a, .int b, .int c] s) = some s := by
  rcases one_two h1 h2 with e | e <;> rcases one_two h3 h4 with f | f <;> rcases one_two h5 h6 with g | g <;> subst e f g
  · exact st111
  · exact st112
  · exact st121
  · exact st122
  · exact st211
  · exact st212
  · exact st221
  · exact st222
end RP

/-! Jn0: the head's facts with tables of texts; a callee out of them; the law's end. Own work. -/
namespace RP
open PySem PySem.Spec PyProof.Rows L2
abbrev dd (x : Str) (st : Stmt) : He.DefD := ⟨(x, none), x, x, defArgs st, defBody st, defScope st, [], []⟩
/-- besides the defs: module's names that are tuples -/
abbrev Tu : Type := List (Str × List He.Dv)
abbrev AlT : Type := Bool × He.AlD
def obsT (fa : List He.Fa) (fn : List He.DefD) (tu : Tu) (K : PySem.W.Frag) : AlT := (tu.all fun t => He.tupB K t.1 t.2, He.obsD fa fn K)
def SaysT (fa : List He.Fa) (fn : List He.DefD) (tu : Tu) (K : PySem.W.Frag) : Prop := obsT fa fn tu K = (true, He.valD fn)
def obsTG (n : Nat) (fa : List He.Fa) (fn : List He.DefD) (tu : Tu) (g : Addr → Option Obj) : AlT := obsT fa fn tu (He.frG g (He.asD g n))
def hookT (n : Nat) (fa : List He.Fa) (fn : List He.DefD) (tu : Tu) : PySem.W.Hook where
  α := AlT
  obs := fun s => obsTG n fa fn tu s.heap.get?
  val := fun _ => (true, He.valD fn)
  says := fun _ h => ∃ K : PySem.W.Frag, K.In h ∧ SaysT fa fn tu K
  of := fun _ _ e => ⟨_, He.frG_in, e⟩
  keeps := fun _ _ _ ⟨K, hK, c⟩ k => ⟨K, PySem.W.Frag.In.keeps hK k, c⟩
theorem obsTG_eq {n : Nat} {fa : List He.Fa} {fn : List He.DefD} {tu : Tu} {g : Addr → Option Obj} {s : Shared} (h : ∀ a, g a = s.heap.get? a) : obsTG n fa fn tu g = (hookT n fa fn tu).obs s := by
  have e : g = s.heap.get? := funext h
  rw [e] <;> rfl
section
variable {fa : List He.Fa} {fn : List He.DefD} {tu : Tu} {K : PySem.W.Frag} {mg : Str → Option Value} {base : Heap}
theorem SaysT.d (c : SaysT fa fn tu K) : He.SaysD fa fn K := congrArg (fun z : AlT => z.2) c
theorem SaysT.tup (c : SaysT fa fn tu K) (i : Nat) {t : Str × List He.Dv} (h : tu[i]? = some t) (H : Hp) : L2.SqT K H (He.ga K t.1) (t.2.map (He.Dv.v K)) := by
  have c1 : (tu.all fun t => He.tupB K t.1 t.2) = true := congrArg (fun z : AlT => z.1) c
  exact He.tupB_ok (List.all_eq_true.mp c1 t (List.mem_of_getElem? h)) H
/-- what the head gives, at a heap -/
structure Jn (fa : List He.Fa) (fn : List He.DefD) (tu : Tu) (K : PySem.W.Frag) (mg : Str → Option Value) (base : Heap) : Prop where
  X : K.In base
  G : base.Ns mainGlobals mg
  c : SaysT fa fn tu K
theorem Jn.glo (J : Jn fa fn tu K mg base) {x : Str} (j : Nat) (h : fa[j]? = some (.glo x)) : mg x = some (.ref (He.ga K x)) := He.glo_ok J.X J.G (J.c.d.fact j h)
theorem Jn.free (J : Jn fa fn tu K mg base) {x : Str} (j : Nat) (h : fa[j]? = some (.free x)) : mg x = none := He.free_ok J.X J.G (J.c.d.fact j h)
theorem Jn.int (J : Jn fa fn tu K mg base) {x : Str} {i : Int} (j : Nat) (h : fa[j]? = some (.int x i)) : ∃ t, mg x = some (.int i t) := He.int_ok J.X J.G (J.c.d.fact j h)
/-- builtins that the module does not hide, by one look -/
theorem Jn.frees (J : Jn fa fn tu K mg base) (xs : List Str) (h : (xs.all fun x => fa.any fun f => match f with | .free y => decide (y = x) | _ => false) = true) : ∀ x, x ∈ xs → mg x = none := by
  intro x hx
  obtain ⟨f, hf, e⟩ := List.any_eq_true.mp (List.all_eq_true.mp h x hx)
  cases f with
  | free y =>
    have e : y = x := of_decide_eq_true e
    subst e
    obtain ⟨j, hj⟩ := List.getElem?_of_mem hf
    exact J.free j hj
  | _ => cases e
variable {P : Program} {w : World} {T : List (Addr × Str)}
/-- a def's facts and promise -/
structure Cal (P : Program) (w : World) (K : PySem.W.Frag) (mg : Str → Option Value) (base : Heap) (T : List (Addr × Str)) (x : Str) (ar lv : Nat) (d : Den) : Prop where
  ex : ∃ f fd ps, mg x = some (.ref f) ∧ PySem.W.keepIn K (.ref f) = true ∧ L2.Binds K fd ps [] ∧ ps.length = ar ∧ FnOk P w K mg base (L2.CX P w) lv f fd ps (SpD ⟨P, w, K, mg, T⟩ ar d)
theorem Cal.m {x : Str} {ar lv k : Nat} {d : Den} (c : Cal P w K mg base T x ar lv d) (h : lv ≤ k) : CalleeM P w K mg base T k x ar lv d := ⟨c.ex, h⟩
/-- the parameters are plain -/
abbrev BindsP (x : Str) (st : Stmt) (ps : List Str) : Prop := ∀ (kV doc pm : Value) (an : Option Addr) (cdv ct : Value) (us : List Value), us.length = ps.length → bindArgs (PySem.W.fnOf x x (defArgs st) (defBody st) (defScope st) .none kV doc pm an cdv ct) ⟨us, []⟩ = pure (ps.zip us)
theorem cal_of {x : Str} {st : Stmt} {N ps : List Str} {ar k n : Nat} {c : Ctx} {G : List Den} {C : List PV} {b : Ss} (J : Jn fa fn tu K mg base) (i j : Nat) (hi : fn[i]? = some (dd x st)) (hj : fa[j]? = some (.glo x))
    (hS : FnScope N ps (defScope st)) (hB : BindsP x st ps) (M : ModOk P w K mg base T k c G C) (h1 : c.sc = defScope st) (h2 : c.sc0 = defScope st) (h3 : c.N = N) (h : chkSs b c (defBody st) = true) (hn : N.length = n) (ha : ps.length = ar) :
    Cal P w K mg base T x ar (k + 1) (run G [] C n b) := by
  obtain ⟨fd, F⟩ := J.c.d.def_ i (d := dd x st) hi
  have F : FunD K x x (defArgs st) (defBody st) (defScope st) [] [] (He.ga K x) fd := F
  subst hn ha
  exact ⟨_, fd, ps, J.glo j hj, F.kp, F.bindsN hB, rfl, def_ok F hS M h1 h2 h3 h⟩
/-- the law's def -/
theorem law_of {x : Str} {st : Stmt} {N ps : List Str} {ar k n : Nat} {c : Ctx} {G : List Den} {C : List PV} {b : Ss} (J : SaysT fa fn tu K) (i : Nat) (hi : fn[i]? = some (dd x st))
    (hS : FnScope N ps (defScope st)) (hB : BindsP x st ps) (h1 : c.sc = defScope st) (h2 : c.sc0 = defScope st) (h3 : c.N = N) (h : chkSs b c (defBody st) = true) (hn : N.length = n) (ha : ps.length = ar) :
    ∃ fd : FuncData, (∀ (s : Shared) (us : List Value), us.length = ps.length → BindsTo s fd ⟨us, []⟩ (ps.zip us)) ∧ ∀ base : Heap, ModOk P w K mg base T k c G C → FnOk P w K mg base (L2.CX P w) (k + 1) (He.ga K x) fd ps (SpD ⟨P, w, K, mg, T⟩ ar (run G [] C n b)) := by
  obtain ⟨fd, F⟩ := J.d.def_ i (d := dd x st) hi
  have F : FunD K x x (defArgs st) (defBody st) (defScope st) [] [] (He.ga K x) fd := F
  subst hn ha
  exact ⟨fd, FunD.bindsA F hB, fun base M => def_ok F hS M h1 h2 h3 h⟩
/-- the module's constants -/
theorem gc_int (J : Jn fa fn tu K mg base) {x : Str} {i : Int} (j : Nat) (h : fa[j]? = some (.int x i)) : ∃ u v, mg x = some u ∧ L2.RelV v u ∧ ∀ G m, Rep ⟨P, w, K, mg, T⟩ G m (.int i) v := by
  obtain ⟨t, e⟩ := J.int j h
  exact ⟨_, .int i, e, ⟨t, rfl⟩, fun _ _ => .int i⟩
theorem reps_strs {S : Sy} {G : Hp} {m : List Addr} : ∀ zs : List Str, Reps S G m (zs.map .str) ((zs.map He.Dv.str).map (He.Dv.v S.K))
  | [] => .nil
  | z :: zs => .cons (.str z) (reps_strs zs)
theorem gc_strs (J : Jn fa fn tu K mg base) {x : Str} {zs : List Str} (j i : Nat) (h : fa[j]? = some (.glo x)) (ht : tu[i]? = some (x, zs.map He.Dv.str)) : ∃ u v, mg x = some u ∧ L2.RelV v u ∧ ∀ G m, Rep ⟨P, w, K, mg, T⟩ G m (.tup (zs.map .str)) v := by
  refine ⟨_, .ref (He.ga K x), J.glo j h, rfl, fun G m => .tup (J.c.tup i ht G) (reps_strs (S := ⟨P, w, K, mg, T⟩) zs)⟩
/-! lists of callees, of constants -/
inductive CalL (P : Program) (w : World) (K : PySem.W.Frag) (mg : Str → Option Value) (base : Heap) (T : List (Addr × Str)) (k : Nat) : List (Str × Nat × Nat) → List Den → Prop
  | nil : CalL P w K mg base T k [] []
  | cons {x : Str} {ar lv : Nat} {d : Den} {l : List (Str × Nat × Nat)} {G : List Den} (h : CalleeM P w K mg base T k x ar lv d) (r : CalL P w K mg base T k l G) : CalL P w K mg base T k ((x, ar, lv) :: l) (d :: G)
theorem CalL.get {k : Nat} : ∀ {l : List (Str × Nat × Nat)} {G : List Den}, CalL P w K mg base T k l G → ∀ (j : Nat) (x : Str) (ar lv : Nat), l[j]? = some (x, ar, lv) → ∃ d, G[j]? = some d ∧ CalleeM P w K mg base T k x ar lv d
  | _, _, .nil, j, x, ar, lv, e => by simp at e
  | _, _, .cons h r, 0, x, ar, lv, e => by
    simp only [List.getElem?_cons_zero, Option.some.injEq, Prod.mk.injEq] at e
    obtain ⟨e1, e2, e3⟩ := e
    subst e1 e2 e3
    exact ⟨_, rfl, h⟩
  | _, _, .cons h r, j + 1, x, ar, lv, e => by
    obtain ⟨d, h1, h2⟩ := r.get j x ar lv (by simpa using e)
    exact ⟨d, by simpa using h1, h2⟩
inductive GcL (S : Sy) : List Str → List PV → Prop
  | nil : GcL S [] []
  | cons {x : Str} {p : PV} {l : List Str} {C : List PV} (h : ∃ u v, S.mg x = some u ∧ L2.RelV v u ∧ ∀ G m, Rep S G m p v) (r : GcL S l C) : GcL S (x :: l) (p :: C)
theorem GcL.get {S : Sy} : ∀ {l : List Str} {C : List PV}, GcL S l C → ∀ (j : Nat) (x : Str), l[j]? = some x → ∃ p u v, C[j]? = some p ∧ S.mg x = some u ∧ L2.RelV v u ∧ ∀ G m, Rep S G m p v
  | _, _, .nil, j, x, e => by simp at e
  | _, _, .cons (p := p) h r, 0, x, e => by
    simp only [List.getElem?_cons_zero, Option.some.injEq] at e
    subst e
    obtain ⟨u, v, h⟩ := h
    exact ⟨p, u, v, rfl, h⟩
  | _, _, .cons h r, j + 1, x, e => by
    obtain ⟨p, u, v, h1, h2⟩ := r.get j x (by simpa using e)
    exact ⟨p, u, v, by simpa using h1, h2⟩
theorem mod_of {k : Nat} {c : Ctx} {G : List Den} {C : List PV} (J : Jn fa fn tu K mg base) (h1 : CalL P w K mg base T k c.fns G) (h2 : GcL ⟨P, w, K, mg, T⟩ c.gcs C) (h3 : (c.bls.all fun x => fa.any fun f => match f with | .free y => decide (y = x) | _ => false) = true) : ModOk P w K mg base T k c G C := ⟨h1.get, h2.get, J.frees c.bls h3⟩
theorem reps_intsJ {S : Sy} {G : Hp} {m : List Addr} : ∀ ns : List Int, Reps S G m (ns.map .int) (ns.map V.int)
  | [] => .nil
  | n :: ns => .cons (.int n) (reps_intsJ ns)
/-- the law's promise, out of its pure law -/
theorem law_sp {S : Sy} {d : Den} (hT : S.T = []) {H : Hp} {a : Addr} {ns : List Int} (hS : SqL S.K H a (ns.map V.int)) (h : ∃ s, d [.rol (ns.map .int)] [] = .ok (.bl true) s) : SpD S 1 d [.ref a] H (fun v _ => v = .bl true) fun _ _ _ => False := by
  obtain ⟨s, e⟩ := h
  have key : ∃ G : Hp, (∀ b o, G b = some o → H b = some o ∧ ntbl o) ∧ SqL S.K G a (ns.map V.int) := by
    have one : ∀ o : HO, H a = some o → ntbl o → ∀ b u, (if b = a then some o else none : Option HO) = some u → H b = some u ∧ ntbl u := by
      intro o h n b u e
      by_cases q : b = a
      · rw [if_pos q] at e
        cases e
        exact ⟨by rw [q]; exact h, n⟩
      · rw [if_neg q] at e
        cases e
    rcases hS with (h | ⟨o, h⟩) | h
    · exact ⟨fun b => if b = a then some _ else none, one _ h ntbl_lst, .inl (.inl (if_pos rfl))⟩
    · exact ⟨fun b => if b = a then some _ else none, one _ h (fun _ h => nomatch h), .inl (.inr ⟨o, if_pos rfl⟩)⟩
    · exact ⟨fun _ => none, fun b u e => (nomatch e), .inr h⟩
  obtain ⟨G, le, hG⟩ := key
  refine ⟨G, [], [], [.rol (ns.map .int)], rfl, ⟨fun b o e => ⟨(le b o e).1, by simp, (le b o e).2⟩, rfl, .nil, fun n b o h => by simp at h, by rw [hT]; intro p hp; simp at hp⟩, .cons (.rol hG (reps_intsJ ns)) .nil, ?_⟩
  rw [e]
  intro G' m' H' v _ _ r
  have r : Rep S G' m' (.bl true) v := r
  cases r
  rfl
end
/-- nothing flies out of the law -/
theorem noCX {P : Program} (w : World) (H : Hp) (s : Shared) (e : Value) (s' : Shared) (h : L2.CX P w [] H s (fun _ _ _ => False) e s') : False := by
  obtain ⟨_, _, _, _, _, _, _, _, _, _, _, _, h⟩ := h
  exact h
end RP

/-! the join, printed by gen.py. Own work. -/
namespace RP
open PySem PySem.Spec PyProof.Rows L2
def fa_0 : List He.Fa := [.free "tuple", .free "dict", .free "sorted", .free "range", .free "isinstance", .free "int", .free "bool", .free "str", .free "len", .free "all", .free "zip", .free "enumerate", .free "min", .free "any", .free "set", .free "max", .free "sum", .free "abs", .int "MOST_POINTS" 3, .glo "KINDS", .glo "LEGS", .glo "WORDS", .int "MOST_PASSES" 60, .glo "sorted_joints", .glo "other_leg", .glo "mirror", .glo "ends_in", .glo "all_ends", .glo "is_int", .glo "is_word"]
def fa_1 : List He.Fa := [.glo "is_end_of", .glo "is_stretch", .glo "is_track", .glo "need_track", .glo "mirrored", .glo "all_standings", .glo "all_places", .glo "index_of", .glo "along", .glo "put", .glo "over", .glo "step", .glo "passes_apart", .glo "parted_by", .glo "need_two", .glo "alike", .glo "turned", .glo "choices", .glo "can_stay", .glo "avoiding", .glo "need_stretch", .glo "need_hands", .glo "can_avoid", .glo "lots_of", .glo "row_to", .glo "least_hands", .glo "course", .glo "gone_for_ever", .glo "gone_ever", .glo "is_so"]
def fa_2 : List He.Fa := [.glo "need_wish", .glo "holds", .glo "parting", .glo "passes_to", .glo "need_end", .glo "need_both", .glo "latest", .glo "common", .glo "sure_ever", .glo "are_apart", .glo "moved", .glo "first_tick", .glo "all_safe", .glo "safe_pairs", .glo "gardens", .glo "rings", .glo "steps", .glo "need_number", .glo "is_standing_of", .glo "need_standing", .glo "need_place", .glo "ends_of", .glo "gone", .glo "passed", .glo "ring", .glo "_law_loop_so", .glo "kind_changes", .glo "need_lever", .glo "bring_row", .glo "bring"]
def fa_3 : List He.Fa := [.glo "ticks_of", .glo "is_train", .glo "need_trains", .glo "meeting", .glo "safe_standings", .glo "sure", .glo "once", .glo "never", .glo "for_ever", .glo "_law_oval_so", .glo "_law_star_so", .glo "_law_tap", .glo "_law_churn", .glo "law"]
def fa : List He.Fa := fa_0 ++ fa_1 ++ fa_2 ++ fa_3
def fn_0 : List He.DefD := [dd "sorted_joints" st_sorted_joints, dd "other_leg" st_other_leg, dd "mirror" st_mirror, dd "ends_in" st_ends_in, dd "all_ends" st_all_ends, dd "is_int" st_is_int, dd "is_word" st_is_word, dd "is_end_of" st_is_end_of, dd "is_stretch" st_is_stretch, dd "is_track" st_is_track, dd "need_track" st_need_track, dd "mirrored" st_mirrored, dd "all_standings" st_all_standings, dd "all_places" st_all_places, dd "index_of" st_index_of, dd "along" st_along, dd "put" st_put, dd "over" st_over, dd "step" st_step, dd "passes_apart" st_passes_apart, dd "parted_by" st_parted_by, dd "need_two" st_need_two, dd "alike" st_alike, dd "turned" st_turned, dd "choices" st_choices, dd "can_stay" st_can_stay, dd "avoiding" st_avoiding, dd "need_stretch" st_need_stretch, dd "need_hands" st_need_hands, dd "can_avoid" st_can_avoid]
def fn_1 : List He.DefD := [dd "lots_of" st_lots_of, dd "row_to" st_row_to, dd "least_hands" st_least_hands, dd "course" st_course, dd "gone_for_ever" st_gone_for_ever, dd "gone_ever" st_gone_ever, dd "is_so" st_is_so, dd "need_wish" st_need_wish, dd "holds" st_holds, dd "parting" st_parting, dd "passes_to" st_passes_to, dd "need_end" st_need_end, dd "need_both" st_need_both, dd "latest" st_latest, dd "common" st_common, dd "sure_ever" st_sure_ever, dd "are_apart" st_are_apart, dd "moved" st_moved, dd "first_tick" st_first_tick, dd "all_safe" st_all_safe, dd "safe_pairs" st_safe_pairs, dd "gardens" st_gardens, dd "rings" st_rings, dd "steps" st_steps, dd "need_number" st_need_number, dd "is_standing_of" st_is_standing_of, dd "need_standing" st_need_standing, dd "need_place" st_need_place, dd "ends_of" st_ends_of, dd "gone" st_gone]
def fn_2 : List He.DefD := [dd "passed" st_passed, dd "ring" st_ring, dd "_law_loop_so" st__law_loop_so, dd "kind_changes" st_kind_changes, dd "need_lever" st_need_lever, dd "bring_row" st_bring_row, dd "bring" st_bring, dd "ticks_of" st_ticks_of, dd "is_train" st_is_train, dd "need_trains" st_need_trains, dd "meeting" st_meeting, dd "safe_standings" st_safe_standings, dd "sure" st_sure, dd "once" st_once, dd "never" st_never, dd "for_ever" st_for_ever, dd "_law_oval_so" st__law_oval_so, dd "_law_star_so" st__law_star_so, dd "_law_tap" st__law_tap, dd "_law_churn" st__law_churn, dd "law" st_law]
def fn : List He.DefD := fn_0 ++ fn_1 ++ fn_2
def tu : Tu := [("KINDS", (["lazy", "sprung", "turning"] : List Str).map He.Dv.str), ("LEGS", (["b", "c"] : List Str).map He.Dv.str), ("WORDS", (["comes", "ever", "rests"] : List Str).map He.Dv.str)]
section
variable {P : Program} {w : World} {K : PySem.W.Frag} {mg : Str → Option Value} {base : Heap}
theorem sc_sorted_joints : FnScope ["joints", "found", "end", "other", "length", "joint"] ["joints"] (defScope st_sorted_joints) := ⟨by kernel_rfl, by kernel_rfl, by kernel_rfl, by decide +kernel, by kernel_rfl, by decide +kernel, by decide +kernel⟩
theorem bp_sorted_joints : BindsP "sorted_joints" st_sorted_joints ["joints"] := fun kV doc pm an cdv ct us hl => match us, hl with | [_], _ => by kernel_rfl
theorem mo_sorted_joints (J : Jn fa fn tu K mg base) : ModOk P w K mg base [] 0 cx_sorted_joints [] [] := (mod_of J CalL.nil GcL.nil (by decide +kernel))
theorem cal_sorted_joints (J : Jn fa fn tu K mg base) : Cal P w K mg base [] "sorted_joints" 1 1 d_sorted_joints := cal_of (k := 0) J 0 23 (by kernel_rfl) (by kernel_rfl) sc_sorted_joints bp_sorted_joints (mo_sorted_joints J) rfl rfl rfl ck_sorted_joints rfl rfl
theorem sc_other_leg : FnScope ["leg"] ["leg"] (defScope st_other_leg) := ⟨by kernel_rfl, by kernel_rfl, by kernel_rfl, by decide +kernel, by kernel_rfl, by decide +kernel, by decide +kernel⟩
theorem bp_other_leg : BindsP "other_leg" st_other_leg ["leg"] := fun kV doc pm an cdv ct us hl => match us, hl with | [_], _ => by kernel_rfl
theorem mo_other_leg (J : Jn fa fn tu K mg base) : ModOk P w K mg base [] 0 cx_other_leg [] [] := (mod_of J CalL.nil GcL.nil (by decide +kernel))
theorem cal_other_leg (J : Jn fa fn tu K mg base) : Cal P w K mg base [] "other_leg" 1 1 d_other_leg := cal_of (k := 0) J 1 24 (by kernel_rfl) (by kernel_rfl) sc_other_leg bp_other_leg (mo_other_leg J) rfl rfl rfl ck_other_leg rfl rfl
theorem sc_mirror : FnScope ["track", "joints", "end", "other", "length", "late"] ["track"] (defScope st_mirror) := ⟨by kernel_rfl, by kernel_rfl, by kernel_rfl, by decide +kernel, by kernel_rfl, by decide +kernel, by decide +kernel⟩
theorem bp_mirror : BindsP "mirror" st_mirror ["track"] := fun kV doc pm an cdv ct us hl => match us, hl with | [_], _ => by kernel_rfl
theorem mo_mirror (J : Jn fa fn tu K mg base) : ModOk P w K mg base [] 1 cx_mirror [d_sorted_joints, d_other_leg] [] := (mod_of J (CalL.cons ((cal_sorted_joints J).m (by decide)) (CalL.cons ((cal_other_leg J).m (by decide)) CalL.nil)) GcL.nil (by decide +kernel))
theorem cal_mirror (J : Jn fa fn tu K mg base) : Cal P w K mg base [] "mirror" 1 2 d_mirror := cal_of (k := 1) J 2 25 (by kernel_rfl) (by kernel_rfl) sc_mirror bp_mirror (mo_mirror J) rfl rfl rfl ck_mirror rfl rfl
theorem sc_ends_in : FnScope ["joints", "joint", "end"] ["joints"] (defScope st_ends_in) := ⟨by kernel_rfl, by kernel_rfl, by kernel_rfl, by decide +kernel, by kernel_rfl, by decide +kernel, by decide +kernel⟩
theorem bp_ends_in : BindsP "ends_in" st_ends_in ["joints"] := fun kV doc pm an cdv ct us hl => match us, hl with | [_], _ => by kernel_rfl
theorem mo_ends_in (J : Jn fa fn tu K mg base) : ModOk P w K mg base [] 0 cx_ends_in [] [] := (mod_of J CalL.nil GcL.nil (by decide +kernel))
theorem cal_ends_in (J : Jn fa fn tu K mg base) : Cal P w K mg base [] "ends_in" 1 1 d_ends_in := cal_of (k := 0) J 3 26 (by kernel_rfl) (by kernel_rfl) sc_ends_in bp_ends_in (mo_ends_in J) rfl rfl rfl ck_ends_in rfl rfl
theorem sc_all_ends : FnScope ["many", "point", "leg"] ["many"] (defScope st_all_ends) := ⟨by kernel_rfl, by kernel_rfl, by kernel_rfl, by decide +kernel, by kernel_rfl, by decide +kernel, by decide +kernel⟩
theorem bp_all_ends : BindsP "all_ends" st_all_ends ["many"] := fun kV doc pm an cdv ct us hl => match us, hl with | [_], _ => by kernel_rfl
theorem mo_all_ends (J : Jn fa fn tu K mg base) : ModOk P w K mg base [] 0 cx_all_ends [] [] := (mod_of J CalL.nil GcL.nil (by decide +kernel))
theorem cal_all_ends (J : Jn fa fn tu K mg base) : Cal P w K mg base [] "all_ends" 1 1 d_all_ends := cal_of (k := 0) J 4 27 (by kernel_rfl) (by kernel_rfl) sc_all_ends bp_all_ends (mo_all_ends J) rfl rfl rfl ck_all_ends rfl rfl
theorem sc_is_int : FnScope ["value", "low", "high"] ["value", "low", "high"] (defScope st_is_int) := ⟨by kernel_rfl, by kernel_rfl, by kernel_rfl, by decide +kernel, by kernel_rfl, by decide +kernel, by decide +kernel⟩
theorem bp_is_int : BindsP "is_int" st_is_int ["value", "low", "high"] := fun kV doc pm an cdv ct us hl => match us, hl with | [_, _, _], _ => by kernel_rfl
theorem mo_is_int (J : Jn fa fn tu K mg base) : ModOk P w K mg base [] 0 cx_is_int [] [] := (mod_of J CalL.nil GcL.nil (by decide +kernel))
theorem cal_is_int (J : Jn fa fn tu K mg base) : Cal P w K mg base [] "is_int" 3 1 d_is_int := cal_of (k := 0) J 5 28 (by kernel_rfl) (by kernel_rfl) sc_is_int bp_is_int (mo_is_int J) rfl rfl rfl ck_is_int rfl rfl
theorem sc_is_word : FnScope ["value", "words"] ["value", "words"] (defScope st_is_word) := ⟨by kernel_rfl, by kernel_rfl, by kernel_rfl, by decide +kernel, by kernel_rfl, by decide +kernel, by decide +kernel⟩
theorem bp_is_word : BindsP "is_word" st_is_word ["value", "words"] := fun kV doc pm an cdv ct us hl => match us, hl with | [_, _], _ => by kernel_rfl
theorem mo_is_word (J : Jn fa fn tu K mg base) : ModOk P w K mg base [] 0 cx_is_word [] [] := (mod_of J CalL.nil GcL.nil (by decide +kernel))
theorem cal_is_word (J : Jn fa fn tu K mg base) : Cal P w K mg base [] "is_word" 2 1 d_is_word := cal_of (k := 0) J 6 29 (by kernel_rfl) (by kernel_rfl) sc_is_word bp_is_word (mo_is_word J) rfl rfl rfl ck_is_word rfl rfl
theorem sc_is_end_of : FnScope ["many", "value"] ["many", "value"] (defScope st_is_end_of) := ⟨by kernel_rfl, by kernel_rfl, by kernel_rfl, by decide +kernel, by kernel_rfl, by decide +kernel, by decide +kernel⟩
theorem bp_is_end_of : BindsP "is_end_of" st_is_end_of ["many", "value"] := fun kV doc pm an cdv ct us hl => match us, hl with | [_, _], _ => by kernel_rfl
theorem mo_is_end_of (J : Jn fa fn tu K mg base) : ModOk P w K mg base [] 1 cx_is_end_of [d_is_int, d_is_word] [] := (mod_of J (CalL.cons ((cal_is_int J).m (by decide)) (CalL.cons ((cal_is_word J).m (by decide)) CalL.nil)) GcL.nil (by decide +kernel))
theorem cal_is_end_of (J : Jn fa fn tu K mg base) : Cal P w K mg base [] "is_end_of" 2 2 d_is_end_of := cal_of (k := 1) J 7 30 (by kernel_rfl) (by kernel_rfl) sc_is_end_of bp_is_end_of (mo_is_end_of J) rfl rfl rfl ck_is_end_of rfl rfl
theorem sc_is_stretch : FnScope ["many", "value"] ["many", "value"] (defScope st_is_stretch) := ⟨by kernel_rfl, by kernel_rfl, by kernel_rfl, by decide +kernel, by kernel_rfl, by decide +kernel, by decide +kernel⟩
theorem bp_is_stretch : BindsP "is_stretch" st_is_stretch ["many", "value"] := fun kV doc pm an cdv ct us hl => match us, hl with | [_, _], _ => by kernel_rfl
theorem mo_is_stretch (J : Jn fa fn tu K mg base) : ModOk P w K mg base [] 2 cx_is_stretch [d_is_end_of, d_is_int] [] := (mod_of J (CalL.cons ((cal_is_end_of J).m (by decide)) (CalL.cons ((cal_is_int J).m (by decide)) CalL.nil)) GcL.nil (by decide +kernel))
theorem cal_is_stretch (J : Jn fa fn tu K mg base) : Cal P w K mg base [] "is_stretch" 2 3 d_is_stretch := cal_of (k := 2) J 8 31 (by kernel_rfl) (by kernel_rfl) sc_is_stretch bp_is_stretch (mo_is_stretch J) rfl rfl rfl ck_is_stretch rfl rfl
theorem sc_is_track : FnScope ["value", "kinds", "joints", "joint", "part", "kind", "later"] ["value"] (defScope st_is_track) := ⟨by kernel_rfl, by kernel_rfl, by kernel_rfl, by decide +kernel, by kernel_rfl, by decide +kernel, by decide +kernel⟩
theorem bp_is_track : BindsP "is_track" st_is_track ["value"] := fun kV doc pm an cdv ct us hl => match us, hl with | [_], _ => by kernel_rfl
theorem mo_is_track (J : Jn fa fn tu K mg base) : ModOk P w K mg base [] 3 cx_is_track [d_ends_in, d_all_ends, d_is_stretch, d_is_word] [(.int 3), (.tup [(.str "lazy"), (.str "sprung"), (.str "turning")])] := (mod_of J (CalL.cons ((cal_ends_in J).m (by decide)) (CalL.cons ((cal_all_ends J).m (by decide)) (CalL.cons ((cal_is_stretch J).m (by decide)) (CalL.cons ((cal_is_word J).m (by decide)) CalL.nil)))) (GcL.cons (gc_int J 18 (by kernel_rfl)) (GcL.cons (gc_strs J 19 0 (zs := ["lazy", "sprung", "turning"]) (by kernel_rfl) (by kernel_rfl)) GcL.nil)) (by decide +kernel))
theorem cal_is_track (J : Jn fa fn tu K mg base) : Cal P w K mg base [] "is_track" 1 4 d_is_track := cal_of (k := 3) J 9 32 (by kernel_rfl) (by kernel_rfl) sc_is_track bp_is_track (mo_is_track J) rfl rfl rfl ck_is_track rfl rfl
theorem sc_need_track : FnScope ["track"] ["track"] (defScope st_need_track) := ⟨by kernel_rfl, by kernel_rfl, by kernel_rfl, by decide +kernel, by kernel_rfl, by decide +kernel, by decide +kernel⟩
theorem bp_need_track : BindsP "need_track" st_need_track ["track"] := fun kV doc pm an cdv ct us hl => match us, hl with | [_], _ => by kernel_rfl
theorem mo_need_track (J : Jn fa fn tu K mg base) : ModOk P w K mg base [] 4 cx_need_track [d_is_track] [] := (mod_of J (CalL.cons ((cal_is_track J).m (by decide)) CalL.nil) GcL.nil (by decide +kernel))
theorem cal_need_track (J : Jn fa fn tu K mg base) : Cal P w K mg base [] "need_track" 1 5 d_need_track := cal_of (k := 4) J 10 33 (by kernel_rfl) (by kernel_rfl) sc_need_track bp_need_track (mo_need_track J) rfl rfl rfl ck_need_track rfl rfl
theorem sc_mirrored : FnScope ["track"] ["track"] (defScope st_mirrored) := ⟨by kernel_rfl, by kernel_rfl, by kernel_rfl, by decide +kernel, by kernel_rfl, by decide +kernel, by decide +kernel⟩
theorem bp_mirrored : BindsP "mirrored" st_mirrored ["track"] := fun kV doc pm an cdv ct us hl => match us, hl with | [_], _ => by kernel_rfl
theorem mo_mirrored (J : Jn fa fn tu K mg base) : ModOk P w K mg base [] 5 cx_mirrored [d_mirror, d_need_track] [] := (mod_of J (CalL.cons ((cal_mirror J).m (by decide)) (CalL.cons ((cal_need_track J).m (by decide)) CalL.nil)) GcL.nil (by decide +kernel))
theorem cal_mirrored (J : Jn fa fn tu K mg base) : Cal P w K mg base [] "mirrored" 1 6 d_mirrored := cal_of (k := 5) J 11 34 (by kernel_rfl) (by kernel_rfl) sc_mirrored bp_mirrored (mo_mirrored J) rfl rfl rfl ck_mirrored rfl rfl
theorem sc_all_standings : FnScope ["track", "found", "kind", "standing", "leg"] ["track"] (defScope st_all_standings) := ⟨by kernel_rfl, by kernel_rfl, by kernel_rfl, by decide +kernel, by kernel_rfl, by decide +kernel, by decide +kernel⟩
theorem bp_all_standings : BindsP "all_standings" st_all_standings ["track"] := fun kV doc pm an cdv ct us hl => match us, hl with | [_], _ => by kernel_rfl
theorem mo_all_standings (J : Jn fa fn tu K mg base) : ModOk P w K mg base [] 0 cx_all_standings [] [(.tup [(.str "b"), (.str "c")])] := (mod_of J CalL.nil (GcL.cons (gc_strs J 20 1 (zs := ["b", "c"]) (by kernel_rfl) (by kernel_rfl)) GcL.nil) (by decide +kernel))
theorem cal_all_standings (J : Jn fa fn tu K mg base) : Cal P w K mg base [] "all_standings" 1 1 d_all_standings := cal_of (k := 0) J 12 35 (by kernel_rfl) (by kernel_rfl) sc_all_standings bp_all_standings (mo_all_standings J) rfl rfl rfl ck_all_standings rfl rfl
theorem sc_all_places : FnScope ["track", "end", "standing"] ["track"] (defScope st_all_places) := ⟨by kernel_rfl, by kernel_rfl, by kernel_rfl, by decide +kernel, by kernel_rfl, by decide +kernel, by decide +kernel⟩
theorem bp_all_places : BindsP "all_places" st_all_places ["track"] := fun kV doc pm an cdv ct us hl => match us, hl with | [_], _ => by kernel_rfl
theorem mo_all_places (J : Jn fa fn tu K mg base) : ModOk P w K mg base [] 1 cx_all_places [d_all_ends, d_all_standings] [] := (mod_of J (CalL.cons ((cal_all_ends J).m (by decide)) (CalL.cons ((cal_all_standings J).m (by decide)) CalL.nil)) GcL.nil (by decide +kernel))
theorem cal_all_places (J : Jn fa fn tu K mg base) : Cal P w K mg base [] "all_places" 1 2 d_all_places := cal_of (k := 1) J 13 36 (by kernel_rfl) (by kernel_rfl) sc_all_places bp_all_places (mo_all_places J) rfl rfl rfl ck_all_places rfl rfl
theorem sc_index_of : FnScope ["track", "end", "index", "joint"] ["track", "end"] (defScope st_index_of) := ⟨by kernel_rfl, by kernel_rfl, by kernel_rfl, by decide +kernel, by kernel_rfl, by decide +kernel, by decide +kernel⟩
theorem bp_index_of : BindsP "index_of" st_index_of ["track", "end"] := fun kV doc pm an cdv ct us hl => match us, hl with | [_, _], _ => by kernel_rfl
theorem mo_index_of (J : Jn fa fn tu K mg base) : ModOk P w K mg base [] 0 cx_index_of [] [] := (mod_of J CalL.nil GcL.nil (by decide +kernel))
theorem cal_index_of (J : Jn fa fn tu K mg base) : Cal P w K mg base [] "index_of" 2 1 d_index_of := cal_of (k := 0) J 14 37 (by kernel_rfl) (by kernel_rfl) sc_index_of bp_index_of (mo_index_of J) rfl rfl rfl ck_index_of rfl rfl
theorem sc_along : FnScope ["track", "left", "index", "end", "other", "length"] ["track", "left"] (defScope st_along) := ⟨by kernel_rfl, by kernel_rfl, by kernel_rfl, by decide +kernel, by kernel_rfl, by decide +kernel, by decide +kernel⟩
theorem bp_along : BindsP "along" st_along ["track", "left"] := fun kV doc pm an cdv ct us hl => match us, hl with | [_, _], _ => by kernel_rfl
theorem mo_along (J : Jn fa fn tu K mg base) : ModOk P w K mg base [] 1 cx_along [d_index_of] [] := (mod_of J (CalL.cons ((cal_index_of J).m (by decide)) CalL.nil) GcL.nil (by decide +kernel))
theorem cal_along (J : Jn fa fn tu K mg base) : Cal P w K mg base [] "along" 2 2 d_along := cal_of (k := 1) J 15 38 (by kernel_rfl) (by kernel_rfl) sc_along bp_along (mo_along J) rfl rfl rfl ck_along rfl rfl
theorem sc_put : FnScope ["standing", "point", "leg"] ["standing", "point", "leg"] (defScope st_put) := ⟨by kernel_rfl, by kernel_rfl, by kernel_rfl, by decide +kernel, by kernel_rfl, by decide +kernel, by decide +kernel⟩
theorem bp_put : BindsP "put" st_put ["standing", "point", "leg"] := fun kV doc pm an cdv ct us hl => match us, hl with | [_, _, _], _ => by kernel_rfl
theorem mo_put (J : Jn fa fn tu K mg base) : ModOk P w K mg base [] 0 cx_put [] [] := (mod_of J CalL.nil GcL.nil (by decide +kernel))
theorem cal_put (J : Jn fa fn tu K mg base) : Cal P w K mg base [] "put" 3 1 d_put := cal_of (k := 0) J 16 39 (by kernel_rfl) (by kernel_rfl) sc_put bp_put (mo_put J) rfl rfl rfl ck_put rfl rfl
theorem sc_over : FnScope ["track", "end", "standing", "used", "point", "leg"] ["track", "end", "standing"] (defScope st_over) := ⟨by kernel_rfl, by kernel_rfl, by kernel_rfl, by decide +kernel, by kernel_rfl, by decide +kernel, by decide +kernel⟩
theorem bp_over : BindsP "over" st_over ["track", "end", "standing"] := fun kV doc pm an cdv ct us hl => match us, hl with | [_, _, _], _ => by kernel_rfl
theorem mo_over (J : Jn fa fn tu K mg base) : ModOk P w K mg base [] 1 cx_over [d_put, d_other_leg] [] := (mod_of J (CalL.cons ((cal_put J).m (by decide)) (CalL.cons ((cal_other_leg J).m (by decide)) CalL.nil)) GcL.nil (by decide +kernel))
theorem cal_over (J : Jn fa fn tu K mg base) : Cal P w K mg base [] "over" 3 2 d_over := cal_of (k := 1) J 17 40 (by kernel_rfl) (by kernel_rfl) sc_over bp_over (mo_over J) rfl rfl rfl ck_over rfl rfl
theorem sc_step : FnScope ["track", "place", "left", "standing", "index", "end", "ticks"] ["track", "place"] (defScope st_step) := ⟨by kernel_rfl, by kernel_rfl, by kernel_rfl, by decide +kernel, by kernel_rfl, by decide +kernel, by decide +kernel⟩
theorem bp_step : BindsP "step" st_step ["track", "place"] := fun kV doc pm an cdv ct us hl => match us, hl with | [_, _], _ => by kernel_rfl
theorem mo_step (J : Jn fa fn tu K mg base) : ModOk P w K mg base [] 2 cx_step [d_along, d_over] [] := (mod_of J (CalL.cons ((cal_along J).m (by decide)) (CalL.cons ((cal_over J).m (by decide)) CalL.nil)) GcL.nil (by decide +kernel))
theorem cal_step (J : Jn fa fn tu K mg base) : Cal P w K mg base [] "step" 2 3 d_step := cal_of (k := 2) J 18 41 (by kernel_rfl) (by kernel_rfl) sc_step bp_step (mo_step J) rfl rfl rfl ck_step rfl rfl
theorem sc_passes_apart : FnScope ["one", "other", "place", "met", "mine", "their", "index", "ticks", "at", "chimes"] ["one", "other", "place"] (defScope st_passes_apart) := ⟨by kernel_rfl, by kernel_rfl, by kernel_rfl, by decide +kernel, by kernel_rfl, by decide +kernel, by decide +kernel⟩
theorem bp_passes_apart : BindsP "passes_apart" st_passes_apart ["one", "other", "place"] := fun kV doc pm an cdv ct us hl => match us, hl with | [_, _, _], _ => by kernel_rfl
theorem mo_passes_apart (J : Jn fa fn tu K mg base) : ModOk P w K mg base [] 3 cx_passes_apart [d_step] [] := (mod_of J (CalL.cons ((cal_step J).m (by decide)) CalL.nil) GcL.nil (by decide +kernel))
theorem cal_passes_apart (J : Jn fa fn tu K mg base) : Cal P w K mg base [] "passes_apart" 3 4 d_passes_apart := cal_of (k := 3) J 19 42 (by kernel_rfl) (by kernel_rfl) sc_passes_apart bp_passes_apart (mo_passes_apart J) rfl rfl rfl ck_passes_apart rfl rfl
theorem sc_parted_by : FnScope ["one", "other", "found", "end", "standing", "passes"] ["one", "other"] (defScope st_parted_by) := ⟨by kernel_rfl, by kernel_rfl, by kernel_rfl, by decide +kernel, by kernel_rfl, by decide +kernel, by decide +kernel⟩
theorem bp_parted_by : BindsP "parted_by" st_parted_by ["one", "other"] := fun kV doc pm an cdv ct us hl => match us, hl with | [_, _], _ => by kernel_rfl
theorem mo_parted_by (J : Jn fa fn tu K mg base) : ModOk P w K mg base [] 4 cx_parted_by [d_all_places, d_passes_apart] [] := (mod_of J (CalL.cons ((cal_all_places J).m (by decide)) (CalL.cons ((cal_passes_apart J).m (by decide)) CalL.nil)) GcL.nil (by decide +kernel))
theorem cal_parted_by (J : Jn fa fn tu K mg base) : Cal P w K mg base [] "parted_by" 2 5 d_parted_by := cal_of (k := 4) J 20 43 (by kernel_rfl) (by kernel_rfl) sc_parted_by bp_parted_by (mo_parted_by J) rfl rfl rfl ck_parted_by rfl rfl
theorem sc_need_two : FnScope ["one", "other"] ["one", "other"] (defScope st_need_two) := ⟨by kernel_rfl, by kernel_rfl, by kernel_rfl, by decide +kernel, by kernel_rfl, by decide +kernel, by decide +kernel⟩
theorem bp_need_two : BindsP "need_two" st_need_two ["one", "other"] := fun kV doc pm an cdv ct us hl => match us, hl with | [_, _], _ => by kernel_rfl
theorem mo_need_two (J : Jn fa fn tu K mg base) : ModOk P w K mg base [] 5 cx_need_two [d_need_track] [] := (mod_of J (CalL.cons ((cal_need_track J).m (by decide)) CalL.nil) GcL.nil (by decide +kernel))
theorem cal_need_two (J : Jn fa fn tu K mg base) : Cal P w K mg base [] "need_two" 2 6 d_need_two := cal_of (k := 5) J 21 44 (by kernel_rfl) (by kernel_rfl) sc_need_two bp_need_two (mo_need_two J) rfl rfl rfl ck_need_two rfl rfl
theorem sc_alike : FnScope ["one", "other"] ["one", "other"] (defScope st_alike) := ⟨by kernel_rfl, by kernel_rfl, by kernel_rfl, by decide +kernel, by kernel_rfl, by decide +kernel, by decide +kernel⟩
theorem bp_alike : BindsP "alike" st_alike ["one", "other"] := fun kV doc pm an cdv ct us hl => match us, hl with | [_, _], _ => by kernel_rfl
theorem mo_alike (J : Jn fa fn tu K mg base) : ModOk P w K mg base [] 6 cx_alike [d_parted_by, d_need_two] [] := (mod_of J (CalL.cons ((cal_parted_by J).m (by decide)) (CalL.cons ((cal_need_two J).m (by decide)) CalL.nil)) GcL.nil (by decide +kernel))
theorem cal_alike (J : Jn fa fn tu K mg base) : Cal P w K mg base [] "alike" 2 7 d_alike := cal_of (k := 6) J 22 45 (by kernel_rfl) (by kernel_rfl) sc_alike bp_alike (mo_alike J) rfl rfl rfl ck_alike rfl rfl
theorem sc_turned : FnScope ["place", "point", "end", "standing"] ["place", "point"] (defScope st_turned) := ⟨by kernel_rfl, by kernel_rfl, by kernel_rfl, by decide +kernel, by kernel_rfl, by decide +kernel, by decide +kernel⟩
theorem bp_turned : BindsP "turned" st_turned ["place", "point"] := fun kV doc pm an cdv ct us hl => match us, hl with | [_, _], _ => by kernel_rfl
theorem mo_turned (J : Jn fa fn tu K mg base) : ModOk P w K mg base [] 1 cx_turned [d_put, d_other_leg] [] := (mod_of J (CalL.cons ((cal_put J).m (by decide)) (CalL.cons ((cal_other_leg J).m (by decide)) CalL.nil)) GcL.nil (by decide +kernel))
theorem cal_turned (J : Jn fa fn tu K mg base) : Cal P w K mg base [] "turned" 2 2 d_turned := cal_of (k := 1) J 23 46 (by kernel_rfl) (by kernel_rfl) sc_turned bp_turned (mo_turned J) rfl rfl rfl ck_turned rfl rfl
theorem sc_choices : FnScope ["track", "hands", "place", "found", "point", "here", "there", "index", "ticks"] ["track", "hands", "place"] (defScope st_choices) := ⟨by kernel_rfl, by kernel_rfl, by kernel_rfl, by decide +kernel, by kernel_rfl, by decide +kernel, by decide +kernel⟩
theorem bp_choices : BindsP "choices" st_choices ["track", "hands", "place"] := fun kV doc pm an cdv ct us hl => match us, hl with | [_, _, _], _ => by kernel_rfl
theorem mo_choices (J : Jn fa fn tu K mg base) : ModOk P w K mg base [] 3 cx_choices [d_step, d_turned] [] := (mod_of J (CalL.cons ((cal_step J).m (by decide)) (CalL.cons ((cal_turned J).m (by decide)) CalL.nil)) GcL.nil (by decide +kernel))
theorem cal_choices (J : Jn fa fn tu K mg base) : Cal P w K mg base [] "choices" 3 4 d_choices := cal_of (k := 3) J 24 47 (by kernel_rfl) (by kernel_rfl) sc_choices bp_choices (mo_choices J) rfl rfl rfl ck_choices rfl rfl
theorem sc_can_stay : FnScope ["track", "hands", "place", "stretch", "good", "point", "there", "index"] ["track", "hands", "place", "stretch", "good"] (defScope st_can_stay) := ⟨by kernel_rfl, by kernel_rfl, by kernel_rfl, by decide +kernel, by kernel_rfl, by decide +kernel, by decide +kernel⟩
theorem bp_can_stay : BindsP "can_stay" st_can_stay ["track", "hands", "place", "stretch", "good"] := fun kV doc pm an cdv ct us hl => match us, hl with | [_, _, _, _, _], _ => by kernel_rfl
theorem mo_can_stay (J : Jn fa fn tu K mg base) : ModOk P w K mg base [] 4 cx_can_stay [d_choices] [] := (mod_of J (CalL.cons ((cal_choices J).m (by decide)) CalL.nil) GcL.nil (by decide +kernel))
theorem cal_can_stay (J : Jn fa fn tu K mg base) : Cal P w K mg base [] "can_stay" 5 5 d_can_stay := cal_of (k := 4) J 25 48 (by kernel_rfl) (by kernel_rfl) sc_can_stay bp_can_stay (mo_can_stay J) rfl rfl rfl ck_can_stay rfl rfl
theorem sc_avoiding : FnScope ["track", "hands", "stretch", "found", "going", "bad", "place"] ["track", "hands", "stretch"] (defScope st_avoiding) := ⟨by kernel_rfl, by kernel_rfl, by kernel_rfl, by decide +kernel, by kernel_rfl, by decide +kernel, by decide +kernel⟩
theorem bp_avoiding : BindsP "avoiding" st_avoiding ["track", "hands", "stretch"] := fun kV doc pm an cdv ct us hl => match us, hl with | [_, _, _], _ => by kernel_rfl
theorem mo_avoiding (J : Jn fa fn tu K mg base) : ModOk P w K mg base [] 5 cx_avoiding [d_can_stay, d_all_places] [] := (mod_of J (CalL.cons ((cal_can_stay J).m (by decide)) (CalL.cons ((cal_all_places J).m (by decide)) CalL.nil)) GcL.nil (by decide +kernel))
theorem cal_avoiding (J : Jn fa fn tu K mg base) : Cal P w K mg base [] "avoiding" 3 6 d_avoiding := cal_of (k := 5) J 26 49 (by kernel_rfl) (by kernel_rfl) sc_avoiding bp_avoiding (mo_avoiding J) rfl rfl rfl ck_avoiding rfl rfl
theorem sc_need_stretch : FnScope ["track", "stretch"] ["track", "stretch"] (defScope st_need_stretch) := ⟨by kernel_rfl, by kernel_rfl, by kernel_rfl, by decide +kernel, by kernel_rfl, by decide +kernel, by decide +kernel⟩
theorem bp_need_stretch : BindsP "need_stretch" st_need_stretch ["track", "stretch"] := fun kV doc pm an cdv ct us hl => match us, hl with | [_, _], _ => by kernel_rfl
theorem mo_need_stretch (J : Jn fa fn tu K mg base) : ModOk P w K mg base [] 1 cx_need_stretch [d_is_int] [] := (mod_of J (CalL.cons ((cal_is_int J).m (by decide)) CalL.nil) GcL.nil (by decide +kernel))
theorem cal_need_stretch (J : Jn fa fn tu K mg base) : Cal P w K mg base [] "need_stretch" 2 2 d_need_stretch := cal_of (k := 1) J 27 50 (by kernel_rfl) (by kernel_rfl) sc_need_stretch bp_need_stretch (mo_need_stretch J) rfl rfl rfl ck_need_stretch rfl rfl
theorem sc_need_hands : FnScope ["track", "hands", "point", "later"] ["track", "hands"] (defScope st_need_hands) := ⟨by kernel_rfl, by kernel_rfl, by kernel_rfl, by decide +kernel, by kernel_rfl, by decide +kernel, by decide +kernel⟩
theorem bp_need_hands : BindsP "need_hands" st_need_hands ["track", "hands"] := fun kV doc pm an cdv ct us hl => match us, hl with | [_, _], _ => by kernel_rfl
theorem mo_need_hands (J : Jn fa fn tu K mg base) : ModOk P w K mg base [] 1 cx_need_hands [d_is_int] [] := (mod_of J (CalL.cons ((cal_is_int J).m (by decide)) CalL.nil) GcL.nil (by decide +kernel))
theorem cal_need_hands (J : Jn fa fn tu K mg base) : Cal P w K mg base [] "need_hands" 2 2 d_need_hands := cal_of (k := 1) J 28 51 (by kernel_rfl) (by kernel_rfl) sc_need_hands bp_need_hands (mo_need_hands J) rfl rfl rfl ck_need_hands rfl rfl
theorem sc_can_avoid : FnScope ["track", "hands", "stretch"] ["track", "hands", "stretch"] (defScope st_can_avoid) := ⟨by kernel_rfl, by kernel_rfl, by kernel_rfl, by decide +kernel, by kernel_rfl, by decide +kernel, by decide +kernel⟩
theorem bp_can_avoid : BindsP "can_avoid" st_can_avoid ["track", "hands", "stretch"] := fun kV doc pm an cdv ct us hl => match us, hl with | [_, _, _], _ => by kernel_rfl
theorem mo_can_avoid (J : Jn fa fn tu K mg base) : ModOk P w K mg base [] 6 cx_can_avoid [d_avoiding, d_need_stretch, d_need_hands, d_need_track] [] := (mod_of J (CalL.cons ((cal_avoiding J).m (by decide)) (CalL.cons ((cal_need_stretch J).m (by decide)) (CalL.cons ((cal_need_hands J).m (by decide)) (CalL.cons ((cal_need_track J).m (by decide)) CalL.nil)))) GcL.nil (by decide +kernel))
theorem cal_can_avoid (J : Jn fa fn tu K mg base) : Cal P w K mg base [] "can_avoid" 3 7 d_can_avoid := cal_of (k := 6) J 29 52 (by kernel_rfl) (by kernel_rfl) sc_can_avoid bp_can_avoid (mo_can_avoid J) rfl rfl rfl ck_can_avoid rfl rfl
theorem sc_lots_of : FnScope ["many", "size", "found", "turn", "lot", "point"] ["many", "size"] (defScope st_lots_of) := ⟨by kernel_rfl, by kernel_rfl, by kernel_rfl, by decide +kernel, by kernel_rfl, by decide +kernel, by decide +kernel⟩
theorem bp_lots_of : BindsP "lots_of" st_lots_of ["many", "size"] := fun kV doc pm an cdv ct us hl => match us, hl with | [_, _], _ => by kernel_rfl
theorem mo_lots_of (J : Jn fa fn tu K mg base) : ModOk P w K mg base [] 0 cx_lots_of [] [] := (mod_of J CalL.nil GcL.nil (by decide +kernel))
theorem cal_lots_of (J : Jn fa fn tu K mg base) : Cal P w K mg base [] "lots_of" 2 1 d_lots_of := cal_of (k := 0) J 30 53 (by kernel_rfl) (by kernel_rfl) sc_lots_of bp_lots_of (mo_lots_of J) rfl rfl rfl ck_lots_of rfl rfl
theorem sc_row_to : FnScope ["track", "hands", "place", "stretch", "best", "done", "goals", "left", "turnings", "items", "row", "here", "point", "there", "index", "worth"] ["track", "hands", "place", "stretch"] (defScope st_row_to) := ⟨by kernel_rfl, by kernel_rfl, by kernel_rfl, by decide +kernel, by kernel_rfl, by decide +kernel, by decide +kernel⟩
theorem bp_row_to : BindsP "row_to" st_row_to ["track", "hands", "place", "stretch"] := fun kV doc pm an cdv ct us hl => match us, hl with | [_, _, _, _], _ => by kernel_rfl
theorem mo_row_to (J : Jn fa fn tu K mg base) : ModOk P w K mg base [] 4 cx_row_to [d_choices] [] := (mod_of J (CalL.cons ((cal_choices J).m (by decide)) CalL.nil) GcL.nil (by decide +kernel))
theorem cal_row_to (J : Jn fa fn tu K mg base) : Cal P w K mg base [] "row_to" 4 5 d_row_to := cal_of (k := 4) J 31 54 (by kernel_rfl) (by kernel_rfl) sc_row_to bp_row_to (mo_row_to J) rfl rfl rfl ck_row_to rfl rfl
theorem sc_least_hands : FnScope ["track", "stretch", "many", "size", "found", "hands", "place"] ["track", "stretch"] (defScope st_least_hands) := ⟨by kernel_rfl, by kernel_rfl, by kernel_rfl, by decide +kernel, by kernel_rfl, by decide +kernel, by decide +kernel⟩
theorem bp_least_hands : BindsP "least_hands" st_least_hands ["track", "stretch"] := fun kV doc pm an cdv ct us hl => match us, hl with | [_, _], _ => by kernel_rfl
theorem mo_least_hands (J : Jn fa fn tu K mg base) : ModOk P w K mg base [] 5 cx_least_hands [d_lots_of, d_row_to, d_all_places, d_need_stretch, d_need_track] [] := (mod_of J (CalL.cons ((cal_lots_of J).m (by decide)) (CalL.cons ((cal_row_to J).m (by decide)) (CalL.cons ((cal_all_places J).m (by decide)) (CalL.cons ((cal_need_stretch J).m (by decide)) (CalL.cons ((cal_need_track J).m (by decide)) CalL.nil))))) GcL.nil (by decide +kernel))
theorem cal_least_hands (J : Jn fa fn tu K mg base) : Cal P w K mg base [] "least_hands" 2 6 d_least_hands := cal_of (k := 5) J 32 55 (by kernel_rfl) (by kernel_rfl) sc_least_hands bp_least_hands (mo_least_hands J) rfl rfl rfl ck_least_hands rfl rfl
theorem sc_course : FnScope ["track", "place", "met", "rows", "there", "index", "ticks"] ["track", "place"] (defScope st_course) := ⟨by kernel_rfl, by kernel_rfl, by kernel_rfl, by decide +kernel, by kernel_rfl, by decide +kernel, by decide +kernel⟩
theorem bp_course : BindsP "course" st_course ["track", "place"] := fun kV doc pm an cdv ct us hl => match us, hl with | [_, _], _ => by kernel_rfl
theorem mo_course (J : Jn fa fn tu K mg base) : ModOk P w K mg base [] 3 cx_course [d_step] [] := (mod_of J (CalL.cons ((cal_step J).m (by decide)) CalL.nil) GcL.nil (by decide +kernel))
theorem cal_course (J : Jn fa fn tu K mg base) : Cal P w K mg base [] "course" 2 4 d_course := cal_of (k := 3) J 33 56 (by kernel_rfl) (by kernel_rfl) sc_course bp_course (mo_course J) rfl rfl rfl ck_course rfl rfl
theorem sc_gone_for_ever : FnScope ["track", "place", "rows", "ahead", "here", "index", "ticks"] ["track", "place"] (defScope st_gone_for_ever) := ⟨by kernel_rfl, by kernel_rfl, by kernel_rfl, by decide +kernel, by kernel_rfl, by decide +kernel, by decide +kernel⟩
theorem bp_gone_for_ever : BindsP "gone_for_ever" st_gone_for_ever ["track", "place"] := fun kV doc pm an cdv ct us hl => match us, hl with | [_, _], _ => by kernel_rfl
theorem mo_gone_for_ever (J : Jn fa fn tu K mg base) : ModOk P w K mg base [] 4 cx_gone_for_ever [d_course] [] := (mod_of J (CalL.cons ((cal_course J).m (by decide)) CalL.nil) GcL.nil (by decide +kernel))
theorem cal_gone_for_ever (J : Jn fa fn tu K mg base) : Cal P w K mg base [] "gone_for_ever" 2 5 d_gone_for_ever := cal_of (k := 4) J 34 57 (by kernel_rfl) (by kernel_rfl) sc_gone_for_ever bp_gone_for_ever (mo_gone_for_ever J) rfl rfl rfl ck_gone_for_ever rfl rfl
theorem sc_gone_ever : FnScope ["track", "place", "here", "index", "ticks"] ["track", "place"] (defScope st_gone_ever) := ⟨by kernel_rfl, by kernel_rfl, by kernel_rfl, by decide +kernel, by kernel_rfl, by decide +kernel, by decide +kernel⟩
theorem bp_gone_ever : BindsP "gone_ever" st_gone_ever ["track", "place"] := fun kV doc pm an cdv ct us hl => match us, hl with | [_, _], _ => by kernel_rfl
theorem mo_gone_ever (J : Jn fa fn tu K mg base) : ModOk P w K mg base [] 4 cx_gone_ever [d_course] [] := (mod_of J (CalL.cons ((cal_course J).m (by decide)) CalL.nil) GcL.nil (by decide +kernel))
theorem cal_gone_ever (J : Jn fa fn tu K mg base) : Cal P w K mg base [] "gone_ever" 2 5 d_gone_ever := cal_of (k := 4) J 35 58 (by kernel_rfl) (by kernel_rfl) sc_gone_ever bp_gone_ever (mo_gone_ever J) rfl rfl rfl ck_gone_ever rfl rfl
theorem sc_is_so : FnScope ["track", "stretch", "word", "late", "place"] ["track", "stretch", "word"] (defScope st_is_so) := ⟨by kernel_rfl, by kernel_rfl, by kernel_rfl, by decide +kernel, by kernel_rfl, by decide +kernel, by decide +kernel⟩
theorem bp_is_so : BindsP "is_so" st_is_so ["track", "stretch", "word"] := fun kV doc pm an cdv ct us hl => match us, hl with | [_, _, _], _ => by kernel_rfl
theorem mo_is_so (J : Jn fa fn tu K mg base) : ModOk P w K mg base [] 5 cx_is_so [d_gone_for_ever, d_all_places, d_gone_ever] [] := (mod_of J (CalL.cons ((cal_gone_for_ever J).m (by decide)) (CalL.cons ((cal_all_places J).m (by decide)) (CalL.cons ((cal_gone_ever J).m (by decide)) CalL.nil))) GcL.nil (by decide +kernel))
theorem cal_is_so (J : Jn fa fn tu K mg base) : Cal P w K mg base [] "is_so" 3 6 d_is_so := cal_of (k := 5) J 36 59 (by kernel_rfl) (by kernel_rfl) sc_is_so bp_is_so (mo_is_so J) rfl rfl rfl ck_is_so rfl rfl
theorem sc_need_wish : FnScope ["track", "stretch", "word"] ["track", "stretch", "word"] (defScope st_need_wish) := ⟨by kernel_rfl, by kernel_rfl, by kernel_rfl, by decide +kernel, by kernel_rfl, by decide +kernel, by decide +kernel⟩
theorem bp_need_wish : BindsP "need_wish" st_need_wish ["track", "stretch", "word"] := fun kV doc pm an cdv ct us hl => match us, hl with | [_, _, _], _ => by kernel_rfl
theorem mo_need_wish (J : Jn fa fn tu K mg base) : ModOk P w K mg base [] 5 cx_need_wish [d_is_word, d_need_stretch, d_need_track] [(.tup [(.str "comes"), (.str "ever"), (.str "rests")])] := (mod_of J (CalL.cons ((cal_is_word J).m (by decide)) (CalL.cons ((cal_need_stretch J).m (by decide)) (CalL.cons ((cal_need_track J).m (by decide)) CalL.nil))) (GcL.cons (gc_strs J 21 2 (zs := ["comes", "ever", "rests"]) (by kernel_rfl) (by kernel_rfl)) GcL.nil) (by decide +kernel))
theorem cal_need_wish (J : Jn fa fn tu K mg base) : Cal P w K mg base [] "need_wish" 3 6 d_need_wish := cal_of (k := 5) J 37 60 (by kernel_rfl) (by kernel_rfl) sc_need_wish bp_need_wish (mo_need_wish J) rfl rfl rfl ck_need_wish rfl rfl
theorem sc_holds : FnScope ["track", "stretch", "word"] ["track", "stretch", "word"] (defScope st_holds) := ⟨by kernel_rfl, by kernel_rfl, by kernel_rfl, by decide +kernel, by kernel_rfl, by decide +kernel, by decide +kernel⟩
theorem bp_holds : BindsP "holds" st_holds ["track", "stretch", "word"] := fun kV doc pm an cdv ct us hl => match us, hl with | [_, _, _], _ => by kernel_rfl
theorem mo_holds (J : Jn fa fn tu K mg base) : ModOk P w K mg base [] 6 cx_holds [d_is_so, d_need_wish] [] := (mod_of J (CalL.cons ((cal_is_so J).m (by decide)) (CalL.cons ((cal_need_wish J).m (by decide)) CalL.nil)) GcL.nil (by decide +kernel))
theorem cal_holds (J : Jn fa fn tu K mg base) : Cal P w K mg base [] "holds" 3 7 d_holds := cal_of (k := 6) J 38 61 (by kernel_rfl) (by kernel_rfl) sc_holds bp_holds (mo_holds J) rfl rfl rfl ck_holds rfl rfl
theorem sc_parting : FnScope ["one", "other"] ["one", "other"] (defScope st_parting) := ⟨by kernel_rfl, by kernel_rfl, by kernel_rfl, by decide +kernel, by kernel_rfl, by decide +kernel, by decide +kernel⟩
theorem bp_parting : BindsP "parting" st_parting ["one", "other"] := fun kV doc pm an cdv ct us hl => match us, hl with | [_, _], _ => by kernel_rfl
theorem mo_parting (J : Jn fa fn tu K mg base) : ModOk P w K mg base [] 6 cx_parting [d_parted_by, d_need_two] [] := (mod_of J (CalL.cons ((cal_parted_by J).m (by decide)) (CalL.cons ((cal_need_two J).m (by decide)) CalL.nil)) GcL.nil (by decide +kernel))
theorem cal_parting (J : Jn fa fn tu K mg base) : Cal P w K mg base [] "parting" 2 7 d_parting := cal_of (k := 6) J 39 62 (by kernel_rfl) (by kernel_rfl) sc_parting bp_parting (mo_parting J) rfl rfl rfl ck_parting rfl rfl
theorem sc_passes_to : FnScope ["track", "place", "stretch", "found", "here", "index", "ticks"] ["track", "place", "stretch"] (defScope st_passes_to) := ⟨by kernel_rfl, by kernel_rfl, by kernel_rfl, by decide +kernel, by kernel_rfl, by decide +kernel, by decide +kernel⟩
theorem bp_passes_to : BindsP "passes_to" st_passes_to ["track", "place", "stretch"] := fun kV doc pm an cdv ct us hl => match us, hl with | [_, _, _], _ => by kernel_rfl
theorem mo_passes_to (J : Jn fa fn tu K mg base) : ModOk P w K mg base [] 4 cx_passes_to [d_course] [] := (mod_of J (CalL.cons ((cal_course J).m (by decide)) CalL.nil) GcL.nil (by decide +kernel))
theorem cal_passes_to (J : Jn fa fn tu K mg base) : Cal P w K mg base [] "passes_to" 3 5 d_passes_to := cal_of (k := 4) J 40 63 (by kernel_rfl) (by kernel_rfl) sc_passes_to bp_passes_to (mo_passes_to J) rfl rfl rfl ck_passes_to rfl rfl
theorem sc_need_end : FnScope ["track", "end"] ["track", "end"] (defScope st_need_end) := ⟨by kernel_rfl, by kernel_rfl, by kernel_rfl, by decide +kernel, by kernel_rfl, by decide +kernel, by decide +kernel⟩
theorem bp_need_end : BindsP "need_end" st_need_end ["track", "end"] := fun kV doc pm an cdv ct us hl => match us, hl with | [_, _], _ => by kernel_rfl
theorem mo_need_end (J : Jn fa fn tu K mg base) : ModOk P w K mg base [] 2 cx_need_end [d_is_end_of] [] := (mod_of J (CalL.cons ((cal_is_end_of J).m (by decide)) CalL.nil) GcL.nil (by decide +kernel))
theorem cal_need_end (J : Jn fa fn tu K mg base) : Cal P w K mg base [] "need_end" 2 3 d_need_end := cal_of (k := 2) J 41 64 (by kernel_rfl) (by kernel_rfl) sc_need_end bp_need_end (mo_need_end J) rfl rfl rfl ck_need_end rfl rfl
theorem sc_need_both : FnScope ["track", "end"] ["track", "end"] (defScope st_need_both) := ⟨by kernel_rfl, by kernel_rfl, by kernel_rfl, by decide +kernel, by kernel_rfl, by decide +kernel, by decide +kernel⟩
theorem bp_need_both : BindsP "need_both" st_need_both ["track", "end"] := fun kV doc pm an cdv ct us hl => match us, hl with | [_, _], _ => by kernel_rfl
theorem mo_need_both (J : Jn fa fn tu K mg base) : ModOk P w K mg base [] 5 cx_need_both [d_need_end, d_need_track] [] := (mod_of J (CalL.cons ((cal_need_end J).m (by decide)) (CalL.cons ((cal_need_track J).m (by decide)) CalL.nil)) GcL.nil (by decide +kernel))
theorem cal_need_both (J : Jn fa fn tu K mg base) : Cal P w K mg base [] "need_both" 2 6 d_need_both := cal_of (k := 5) J 42 65 (by kernel_rfl) (by kernel_rfl) sc_need_both bp_need_both (mo_need_both J) rfl rfl rfl ck_need_both rfl rfl
theorem sc_latest : FnScope ["track", "end", "stretch", "found", "standing"] ["track", "end", "stretch"] (defScope st_latest) := ⟨by kernel_rfl, by kernel_rfl, by kernel_rfl, by decide +kernel, by kernel_rfl, by decide +kernel, by decide +kernel⟩
theorem bp_latest : BindsP "latest" st_latest ["track", "end", "stretch"] := fun kV doc pm an cdv ct us hl => match us, hl with | [_, _, _], _ => by kernel_rfl
theorem mo_latest (J : Jn fa fn tu K mg base) : ModOk P w K mg base [] 6 cx_latest [d_passes_to, d_all_standings, d_need_stretch, d_need_both] [] := (mod_of J (CalL.cons ((cal_passes_to J).m (by decide)) (CalL.cons ((cal_all_standings J).m (by decide)) (CalL.cons ((cal_need_stretch J).m (by decide)) (CalL.cons ((cal_need_both J).m (by decide)) CalL.nil)))) GcL.nil (by decide +kernel))
theorem cal_latest (J : Jn fa fn tu K mg base) : Cal P w K mg base [] "latest" 3 7 d_latest := cal_of (k := 6) J 43 66 (by kernel_rfl) (by kernel_rfl) sc_latest bp_latest (mo_latest J) rfl rfl rfl ck_latest rfl rfl
theorem sc_common : FnScope ["track", "end", "rows", "index", "row"] ["track", "end", "rows"] (defScope st_common) := ⟨by kernel_rfl, by kernel_rfl, by kernel_rfl, by decide +kernel, by kernel_rfl, by decide +kernel, by decide +kernel⟩
theorem bp_common : BindsP "common" st_common ["track", "end", "rows"] := fun kV doc pm an cdv ct us hl => match us, hl with | [_, _, _], _ => by kernel_rfl
theorem mo_common (J : Jn fa fn tu K mg base) : ModOk P w K mg base [] 0 cx_common [] [] := (mod_of J CalL.nil GcL.nil (by decide +kernel))
theorem cal_common (J : Jn fa fn tu K mg base) : Cal P w K mg base [] "common" 3 1 d_common := cal_of (k := 0) J 44 67 (by kernel_rfl) (by kernel_rfl) sc_common bp_common (mo_common J) rfl rfl rfl ck_common rfl rfl
theorem sc_sure_ever : FnScope ["track", "end", "standing"] ["track", "end"] (defScope st_sure_ever) := ⟨by kernel_rfl, by kernel_rfl, by kernel_rfl, by decide +kernel, by kernel_rfl, by decide +kernel, by decide +kernel⟩
theorem bp_sure_ever : BindsP "sure_ever" st_sure_ever ["track", "end"] := fun kV doc pm an cdv ct us hl => match us, hl with | [_, _], _ => by kernel_rfl
theorem mo_sure_ever (J : Jn fa fn tu K mg base) : ModOk P w K mg base [] 6 cx_sure_ever [d_common, d_gone_for_ever, d_all_standings, d_need_both] [] := (mod_of J (CalL.cons ((cal_common J).m (by decide)) (CalL.cons ((cal_gone_for_ever J).m (by decide)) (CalL.cons ((cal_all_standings J).m (by decide)) (CalL.cons ((cal_need_both J).m (by decide)) CalL.nil)))) GcL.nil (by decide +kernel))
theorem cal_sure_ever (J : Jn fa fn tu K mg base) : Cal P w K mg base [] "sure_ever" 2 7 d_sure_ever := cal_of (k := 6) J 45 68 (by kernel_rfl) (by kernel_rfl) sc_sure_ever bp_sure_ever (mo_sure_ever J) rfl rfl rfl ck_sure_ever rfl rfl
theorem sc_are_apart : FnScope ["track", "one", "other", "index"] ["track", "one", "other"] (defScope st_are_apart) := ⟨by kernel_rfl, by kernel_rfl, by kernel_rfl, by decide +kernel, by kernel_rfl, by decide +kernel, by decide +kernel⟩
theorem bp_are_apart : BindsP "are_apart" st_are_apart ["track", "one", "other"] := fun kV doc pm an cdv ct us hl => match us, hl with | [_, _, _], _ => by kernel_rfl
theorem mo_are_apart (J : Jn fa fn tu K mg base) : ModOk P w K mg base [] 1 cx_are_apart [d_index_of] [] := (mod_of J (CalL.cons ((cal_index_of J).m (by decide)) CalL.nil) GcL.nil (by decide +kernel))
theorem cal_are_apart (J : Jn fa fn tu K mg base) : Cal P w K mg base [] "are_apart" 3 2 d_are_apart := cal_of (k := 1) J 46 69 (by kernel_rfl) (by kernel_rfl) sc_are_apart bp_are_apart (mo_are_apart J) rfl rfl rfl ck_are_apart rfl rfl
theorem sc_moved : FnScope ["track", "train", "standing", "left", "index", "end", "ticks"] ["track", "train", "standing"] (defScope st_moved) := ⟨by kernel_rfl, by kernel_rfl, by kernel_rfl, by decide +kernel, by kernel_rfl, by decide +kernel, by decide +kernel⟩
theorem bp_moved : BindsP "moved" st_moved ["track", "train", "standing"] := fun kV doc pm an cdv ct us hl => match us, hl with | [_, _, _], _ => by kernel_rfl
theorem mo_moved (J : Jn fa fn tu K mg base) : ModOk P w K mg base [] 2 cx_moved [d_along, d_over] [] := (mod_of J (CalL.cons ((cal_along J).m (by decide)) (CalL.cons ((cal_over J).m (by decide)) CalL.nil)) GcL.nil (by decide +kernel))
theorem cal_moved (J : Jn fa fn tu K mg base) : Cal P w K mg base [] "moved" 3 3 d_moved := cal_of (k := 2) J 47 70 (by kernel_rfl) (by kernel_rfl) sc_moved bp_moved (mo_moved J) rfl rfl rfl ck_moved rfl rfl
theorem sc_first_tick : FnScope ["track", "one", "other", "standing", "met", "tick"] ["track", "one", "other", "standing"] (defScope st_first_tick) := ⟨by kernel_rfl, by kernel_rfl, by kernel_rfl, by decide +kernel, by kernel_rfl, by decide +kernel, by decide +kernel⟩
theorem bp_first_tick : BindsP "first_tick" st_first_tick ["track", "one", "other", "standing"] := fun kV doc pm an cdv ct us hl => match us, hl with | [_, _, _, _], _ => by kernel_rfl
theorem mo_first_tick (J : Jn fa fn tu K mg base) : ModOk P w K mg base [] 3 cx_first_tick [d_are_apart, d_moved] [] := (mod_of J (CalL.cons ((cal_are_apart J).m (by decide)) (CalL.cons ((cal_moved J).m (by decide)) CalL.nil)) GcL.nil (by decide +kernel))
theorem cal_first_tick (J : Jn fa fn tu K mg base) : Cal P w K mg base [] "first_tick" 4 4 d_first_tick := cal_of (k := 3) J 48 71 (by kernel_rfl) (by kernel_rfl) sc_first_tick bp_first_tick (mo_first_tick J) rfl rfl rfl ck_first_tick rfl rfl
theorem sc_all_safe : FnScope ["track", "one", "other", "standing"] ["track", "one", "other"] (defScope st_all_safe) := ⟨by kernel_rfl, by kernel_rfl, by kernel_rfl, by decide +kernel, by kernel_rfl, by decide +kernel, by decide +kernel⟩
theorem bp_all_safe : BindsP "all_safe" st_all_safe ["track", "one", "other"] := fun kV doc pm an cdv ct us hl => match us, hl with | [_, _, _], _ => by kernel_rfl
theorem mo_all_safe (J : Jn fa fn tu K mg base) : ModOk P w K mg base [] 4 cx_all_safe [d_all_standings, d_first_tick] [] := (mod_of J (CalL.cons ((cal_all_standings J).m (by decide)) (CalL.cons ((cal_first_tick J).m (by decide)) CalL.nil)) GcL.nil (by decide +kernel))
theorem cal_all_safe (J : Jn fa fn tu K mg base) : Cal P w K mg base [] "all_safe" 3 5 d_all_safe := cal_of (k := 4) J 49 72 (by kernel_rfl) (by kernel_rfl) sc_all_safe bp_all_safe (mo_all_safe J) rfl rfl rfl ck_all_safe rfl rfl
theorem sc_safe_pairs : FnScope ["track", "found", "ends", "many", "at", "end", "other"] ["track"] (defScope st_safe_pairs) := ⟨by kernel_rfl, by kernel_rfl, by kernel_rfl, by decide +kernel, by kernel_rfl, by decide +kernel, by decide +kernel⟩
theorem bp_safe_pairs : BindsP "safe_pairs" st_safe_pairs ["track"] := fun kV doc pm an cdv ct us hl => match us, hl with | [_], _ => by kernel_rfl
theorem mo_safe_pairs (J : Jn fa fn tu K mg base) : ModOk P w K mg base [] 5 cx_safe_pairs [d_all_safe, d_all_standings, d_all_ends, d_need_track] [] := (mod_of J (CalL.cons ((cal_all_safe J).m (by decide)) (CalL.cons ((cal_all_standings J).m (by decide)) (CalL.cons ((cal_all_ends J).m (by decide)) (CalL.cons ((cal_need_track J).m (by decide)) CalL.nil)))) GcL.nil (by decide +kernel))
theorem cal_safe_pairs (J : Jn fa fn tu K mg base) : Cal P w K mg base [] "safe_pairs" 1 6 d_safe_pairs := cal_of (k := 5) J 50 73 (by kernel_rfl) (by kernel_rfl) sc_safe_pairs bp_safe_pairs (mo_safe_pairs J) rfl rfl rfl ck_safe_pairs rfl rfl
theorem sc_gardens : FnScope ["track", "come", "place"] ["track"] (defScope st_gardens) := ⟨by kernel_rfl, by kernel_rfl, by kernel_rfl, by decide +kernel, by kernel_rfl, by decide +kernel, by decide +kernel⟩
theorem bp_gardens : BindsP "gardens" st_gardens ["track"] := fun kV doc pm an cdv ct us hl => match us, hl with | [_], _ => by kernel_rfl
theorem mo_gardens (J : Jn fa fn tu K mg base) : ModOk P w K mg base [] 5 cx_gardens [d_all_places, d_step, d_need_track] [] := (mod_of J (CalL.cons ((cal_all_places J).m (by decide)) (CalL.cons ((cal_step J).m (by decide)) (CalL.cons ((cal_need_track J).m (by decide)) CalL.nil))) GcL.nil (by decide +kernel))
theorem cal_gardens (J : Jn fa fn tu K mg base) : Cal P w K mg base [] "gardens" 1 6 d_gardens := cal_of (k := 5) J 51 74 (by kernel_rfl) (by kernel_rfl) sc_gardens bp_gardens (mo_gardens J) rfl rfl rfl ck_gardens rfl rfl
theorem sc_rings : FnScope ["track", "found", "place", "places", "at", "rows", "ahead", "row"] ["track"] (defScope st_rings) := ⟨by kernel_rfl, by kernel_rfl, by kernel_rfl, by decide +kernel, by kernel_rfl, by decide +kernel, by decide +kernel⟩
theorem bp_rings : BindsP "rings" st_rings ["track"] := fun kV doc pm an cdv ct us hl => match us, hl with | [_], _ => by kernel_rfl
theorem mo_rings (J : Jn fa fn tu K mg base) : ModOk P w K mg base [] 5 cx_rings [d_all_places, d_course, d_need_track] [] := (mod_of J (CalL.cons ((cal_all_places J).m (by decide)) (CalL.cons ((cal_course J).m (by decide)) (CalL.cons ((cal_need_track J).m (by decide)) CalL.nil))) GcL.nil (by decide +kernel))
theorem cal_rings (J : Jn fa fn tu K mg base) : Cal P w K mg base [] "rings" 1 6 d_rings := cal_of (k := 5) J 52 75 (by kernel_rfl) (by kernel_rfl) sc_rings bp_rings (mo_rings J) rfl rfl rfl ck_rings rfl rfl
theorem sc_steps : FnScope ["track", "place", "many", "found", "turn", "there"] ["track", "place", "many"] (defScope st_steps) := ⟨by kernel_rfl, by kernel_rfl, by kernel_rfl, by decide +kernel, by kernel_rfl, by decide +kernel, by decide +kernel⟩
theorem bp_steps : BindsP "steps" st_steps ["track", "place", "many"] := fun kV doc pm an cdv ct us hl => match us, hl with | [_, _, _], _ => by kernel_rfl
theorem mo_steps (J : Jn fa fn tu K mg base) : ModOk P w K mg base [] 3 cx_steps [d_step] [] := (mod_of J (CalL.cons ((cal_step J).m (by decide)) CalL.nil) GcL.nil (by decide +kernel))
theorem cal_steps (J : Jn fa fn tu K mg base) : Cal P w K mg base [] "steps" 3 4 d_steps := cal_of (k := 3) J 53 76 (by kernel_rfl) (by kernel_rfl) sc_steps bp_steps (mo_steps J) rfl rfl rfl ck_steps rfl rfl
theorem sc_need_number : FnScope ["number", "low", "high"] ["number", "low", "high"] (defScope st_need_number) := ⟨by kernel_rfl, by kernel_rfl, by kernel_rfl, by decide +kernel, by kernel_rfl, by decide +kernel, by decide +kernel⟩
theorem bp_need_number : BindsP "need_number" st_need_number ["number", "low", "high"] := fun kV doc pm an cdv ct us hl => match us, hl with | [_, _, _], _ => by kernel_rfl
theorem mo_need_number (J : Jn fa fn tu K mg base) : ModOk P w K mg base [] 1 cx_need_number [d_is_int] [] := (mod_of J (CalL.cons ((cal_is_int J).m (by decide)) CalL.nil) GcL.nil (by decide +kernel))
theorem cal_need_number (J : Jn fa fn tu K mg base) : Cal P w K mg base [] "need_number" 3 2 d_need_number := cal_of (k := 1) J 54 77 (by kernel_rfl) (by kernel_rfl) sc_need_number bp_need_number (mo_need_number J) rfl rfl rfl ck_need_number rfl rfl
theorem sc_is_standing_of : FnScope ["track", "value", "leg"] ["track", "value"] (defScope st_is_standing_of) := ⟨by kernel_rfl, by kernel_rfl, by kernel_rfl, by decide +kernel, by kernel_rfl, by decide +kernel, by decide +kernel⟩
theorem bp_is_standing_of : BindsP "is_standing_of" st_is_standing_of ["track", "value"] := fun kV doc pm an cdv ct us hl => match us, hl with | [_, _], _ => by kernel_rfl
theorem mo_is_standing_of (J : Jn fa fn tu K mg base) : ModOk P w K mg base [] 1 cx_is_standing_of [d_is_word] [(.tup [(.str "b"), (.str "c")])] := (mod_of J (CalL.cons ((cal_is_word J).m (by decide)) CalL.nil) (GcL.cons (gc_strs J 20 1 (zs := ["b", "c"]) (by kernel_rfl) (by kernel_rfl)) GcL.nil) (by decide +kernel))
theorem cal_is_standing_of (J : Jn fa fn tu K mg base) : Cal P w K mg base [] "is_standing_of" 2 2 d_is_standing_of := cal_of (k := 1) J 55 78 (by kernel_rfl) (by kernel_rfl) sc_is_standing_of bp_is_standing_of (mo_is_standing_of J) rfl rfl rfl ck_is_standing_of rfl rfl
theorem sc_need_standing : FnScope ["track", "standing"] ["track", "standing"] (defScope st_need_standing) := ⟨by kernel_rfl, by kernel_rfl, by kernel_rfl, by decide +kernel, by kernel_rfl, by decide +kernel, by decide +kernel⟩
theorem bp_need_standing : BindsP "need_standing" st_need_standing ["track", "standing"] := fun kV doc pm an cdv ct us hl => match us, hl with | [_, _], _ => by kernel_rfl
theorem mo_need_standing (J : Jn fa fn tu K mg base) : ModOk P w K mg base [] 2 cx_need_standing [d_is_standing_of] [] := (mod_of J (CalL.cons ((cal_is_standing_of J).m (by decide)) CalL.nil) GcL.nil (by decide +kernel))
theorem cal_need_standing (J : Jn fa fn tu K mg base) : Cal P w K mg base [] "need_standing" 2 3 d_need_standing := cal_of (k := 2) J 56 79 (by kernel_rfl) (by kernel_rfl) sc_need_standing bp_need_standing (mo_need_standing J) rfl rfl rfl ck_need_standing rfl rfl
theorem sc_need_place : FnScope ["track", "end", "standing"] ["track", "end", "standing"] (defScope st_need_place) := ⟨by kernel_rfl, by kernel_rfl, by kernel_rfl, by decide +kernel, by kernel_rfl, by decide +kernel, by decide +kernel⟩
theorem bp_need_place : BindsP "need_place" st_need_place ["track", "end", "standing"] := fun kV doc pm an cdv ct us hl => match us, hl with | [_, _, _], _ => by kernel_rfl
theorem mo_need_place (J : Jn fa fn tu K mg base) : ModOk P w K mg base [] 5 cx_need_place [d_need_standing, d_need_end, d_need_track] [] := (mod_of J (CalL.cons ((cal_need_standing J).m (by decide)) (CalL.cons ((cal_need_end J).m (by decide)) (CalL.cons ((cal_need_track J).m (by decide)) CalL.nil))) GcL.nil (by decide +kernel))
theorem cal_need_place (J : Jn fa fn tu K mg base) : Cal P w K mg base [] "need_place" 3 6 d_need_place := cal_of (k := 5) J 57 80 (by kernel_rfl) (by kernel_rfl) sc_need_place bp_need_place (mo_need_place J) rfl rfl rfl ck_need_place rfl rfl
theorem sc_ends_of : FnScope ["track", "end", "standing", "many", "there", "index", "ticks"] ["track", "end", "standing", "many"] (defScope st_ends_of) := ⟨by kernel_rfl, by kernel_rfl, by kernel_rfl, by decide +kernel, by kernel_rfl, by decide +kernel, by decide +kernel⟩
theorem bp_ends_of : BindsP "ends_of" st_ends_of ["track", "end", "standing", "many"] := fun kV doc pm an cdv ct us hl => match us, hl with | [_, _, _, _], _ => by kernel_rfl
theorem mo_ends_of (J : Jn fa fn tu K mg base) : ModOk P w K mg base [] 6 cx_ends_of [d_steps, d_need_number, d_need_place] [(.int 60)] := (mod_of J (CalL.cons ((cal_steps J).m (by decide)) (CalL.cons ((cal_need_number J).m (by decide)) (CalL.cons ((cal_need_place J).m (by decide)) CalL.nil))) (GcL.cons (gc_int J 22 (by kernel_rfl)) GcL.nil) (by decide +kernel))
theorem cal_ends_of (J : Jn fa fn tu K mg base) : Cal P w K mg base [] "ends_of" 4 7 d_ends_of := cal_of (k := 6) J 58 81 (by kernel_rfl) (by kernel_rfl) sc_ends_of bp_ends_of (mo_ends_of J) rfl rfl rfl ck_ends_of rfl rfl
theorem sc_gone : FnScope ["track", "end", "standing", "many", "there", "index", "ticks"] ["track", "end", "standing", "many"] (defScope st_gone) := ⟨by kernel_rfl, by kernel_rfl, by kernel_rfl, by decide +kernel, by kernel_rfl, by decide +kernel, by decide +kernel⟩
theorem bp_gone : BindsP "gone" st_gone ["track", "end", "standing", "many"] := fun kV doc pm an cdv ct us hl => match us, hl with | [_, _, _, _], _ => by kernel_rfl
theorem mo_gone (J : Jn fa fn tu K mg base) : ModOk P w K mg base [] 6 cx_gone [d_steps, d_need_number, d_need_place] [(.int 60)] := (mod_of J (CalL.cons ((cal_steps J).m (by decide)) (CalL.cons ((cal_need_number J).m (by decide)) (CalL.cons ((cal_need_place J).m (by decide)) CalL.nil))) (GcL.cons (gc_int J 22 (by kernel_rfl)) GcL.nil) (by decide +kernel))
theorem cal_gone (J : Jn fa fn tu K mg base) : Cal P w K mg base [] "gone" 4 7 d_gone := cal_of (k := 6) J 59 82 (by kernel_rfl) (by kernel_rfl) sc_gone bp_gone (mo_gone J) rfl rfl rfl ck_gone rfl rfl
theorem sc_passed : FnScope ["track", "end", "standing", "there", "index", "ticks"] ["track", "end", "standing"] (defScope st_passed) := ⟨by kernel_rfl, by kernel_rfl, by kernel_rfl, by decide +kernel, by kernel_rfl, by decide +kernel, by decide +kernel⟩
theorem bp_passed : BindsP "passed" st_passed ["track", "end", "standing"] := fun kV doc pm an cdv ct us hl => match us, hl with | [_, _, _], _ => by kernel_rfl
theorem mo_passed (J : Jn fa fn tu K mg base) : ModOk P w K mg base [] 6 cx_passed [d_step, d_need_place] [] := (mod_of J (CalL.cons ((cal_step J).m (by decide)) (CalL.cons ((cal_need_place J).m (by decide)) CalL.nil)) GcL.nil (by decide +kernel))
theorem cal_passed (J : Jn fa fn tu K mg base) : Cal P w K mg base [] "passed" 3 7 d_passed := cal_of (k := 6) J 60 83 (by kernel_rfl) (by kernel_rfl) sc_passed bp_passed (mo_passed J) rfl rfl rfl ck_passed rfl rfl
theorem sc_ring : FnScope ["track", "end", "standing", "rows", "ahead", "here", "index", "ticks"] ["track", "end", "standing"] (defScope st_ring) := ⟨by kernel_rfl, by kernel_rfl, by kernel_rfl, by decide +kernel, by kernel_rfl, by decide +kernel, by decide +kernel⟩
theorem bp_ring : BindsP "ring" st_ring ["track", "end", "standing"] := fun kV doc pm an cdv ct us hl => match us, hl with | [_, _, _], _ => by kernel_rfl
theorem mo_ring (J : Jn fa fn tu K mg base) : ModOk P w K mg base [] 6 cx_ring [d_course, d_need_place] [] := (mod_of J (CalL.cons ((cal_course J).m (by decide)) (CalL.cons ((cal_need_place J).m (by decide)) CalL.nil)) GcL.nil (by decide +kernel))
theorem cal_ring (J : Jn fa fn tu K mg base) : Cal P w K mg base [] "ring" 3 7 d_ring := cal_of (k := 6) J 61 84 (by kernel_rfl) (by kernel_rfl) sc_ring bp_ring (mo_ring J) rfl rfl rfl ck_ring rfl rfl
theorem sc__law_loop_so : FnScope ["_law_stem", "_law_wide", "_law_joints", "_law_size", "_law_found", "_law_lazy", "_law_still", "_law_turning"] ["_law_stem", "_law_wide"] (defScope st__law_loop_so) := ⟨by kernel_rfl, by kernel_rfl, by kernel_rfl, by decide +kernel, by kernel_rfl, by decide +kernel, by decide +kernel⟩
theorem bp__law_loop_so : BindsP "_law_loop_so" st__law_loop_so ["_law_stem", "_law_wide"] := fun kV doc pm an cdv ct us hl => match us, hl with | [_, _], _ => by kernel_rfl
theorem mo__law_loop_so (J : Jn fa fn tu K mg base) : ModOk P w K mg base [] 7 cx__law_loop_so [d_mirrored, d_alike, d_can_avoid, d_least_hands, d_holds, d_parting, d_latest, d_sure_ever, d_safe_pairs, d_gardens, d_rings, d_ends_of, d_gone, d_passed, d_ring] [] := (mod_of J (CalL.cons ((cal_mirrored J).m (by decide)) (CalL.cons ((cal_alike J).m (by decide)) (CalL.cons ((cal_can_avoid J).m (by decide)) (CalL.cons ((cal_least_hands J).m (by decide)) (CalL.cons ((cal_holds J).m (by decide)) (CalL.cons ((cal_parting J).m (by decide)) (CalL.cons ((cal_latest J).m (by decide)) (CalL.cons ((cal_sure_ever J).m (by decide)) (CalL.cons ((cal_safe_pairs J).m (by decide)) (CalL.cons ((cal_gardens J).m (by decide)) (CalL.cons ((cal_rings J).m (by decide)) (CalL.cons ((cal_ends_of J).m (by decide)) (CalL.cons ((cal_gone J).m (by decide)) (CalL.cons ((cal_passed J).m (by decide)) (CalL.cons ((cal_ring J).m (by decide)) CalL.nil))))))))))))))) GcL.nil (by decide +kernel))
theorem cal__law_loop_so (J : Jn fa fn tu K mg base) : Cal P w K mg base [] "_law_loop_so" 2 8 d__law_loop_so := cal_of (k := 7) J 62 85 (by kernel_rfl) (by kernel_rfl) sc__law_loop_so bp__law_loop_so (mo__law_loop_so J) rfl rfl rfl ck__law_loop_so rfl rfl
theorem sc_kind_changes : FnScope ["track", "stretch", "word", "found", "point", "kinds", "joints", "some", "kind"] ["track", "stretch", "word"] (defScope st_kind_changes) := ⟨by kernel_rfl, by kernel_rfl, by kernel_rfl, by decide +kernel, by kernel_rfl, by decide +kernel, by decide +kernel⟩
theorem bp_kind_changes : BindsP "kind_changes" st_kind_changes ["track", "stretch", "word"] := fun kV doc pm an cdv ct us hl => match us, hl with | [_, _, _], _ => by kernel_rfl
theorem mo_kind_changes (J : Jn fa fn tu K mg base) : ModOk P w K mg base [] 6 cx_kind_changes [d_is_so, d_need_wish] [(.tup [(.str "lazy"), (.str "sprung"), (.str "turning")])] := (mod_of J (CalL.cons ((cal_is_so J).m (by decide)) (CalL.cons ((cal_need_wish J).m (by decide)) CalL.nil)) (GcL.cons (gc_strs J 19 0 (zs := ["lazy", "sprung", "turning"]) (by kernel_rfl) (by kernel_rfl)) GcL.nil) (by decide +kernel))
theorem cal_kind_changes (J : Jn fa fn tu K mg base) : Cal P w K mg base [] "kind_changes" 3 7 d_kind_changes := cal_of (k := 6) J 63 86 (by kernel_rfl) (by kernel_rfl) sc_kind_changes bp_kind_changes (mo_kind_changes J) rfl rfl rfl ck_kind_changes rfl rfl
theorem sc_need_lever : FnScope ["track", "hands", "end", "standing", "stretch"] ["track", "hands", "end", "standing", "stretch"] (defScope st_need_lever) := ⟨by kernel_rfl, by kernel_rfl, by kernel_rfl, by decide +kernel, by kernel_rfl, by decide +kernel, by decide +kernel⟩
theorem bp_need_lever : BindsP "need_lever" st_need_lever ["track", "hands", "end", "standing", "stretch"] := fun kV doc pm an cdv ct us hl => match us, hl with | [_, _, _, _, _], _ => by kernel_rfl
theorem mo_need_lever (J : Jn fa fn tu K mg base) : ModOk P w K mg base [] 6 cx_need_lever [d_need_stretch, d_need_place, d_need_hands, d_need_track] [] := (mod_of J (CalL.cons ((cal_need_stretch J).m (by decide)) (CalL.cons ((cal_need_place J).m (by decide)) (CalL.cons ((cal_need_hands J).m (by decide)) (CalL.cons ((cal_need_track J).m (by decide)) CalL.nil)))) GcL.nil (by decide +kernel))
theorem cal_need_lever (J : Jn fa fn tu K mg base) : Cal P w K mg base [] "need_lever" 5 7 d_need_lever := cal_of (k := 6) J 64 87 (by kernel_rfl) (by kernel_rfl) sc_need_lever bp_need_lever (mo_need_lever J) rfl rfl rfl ck_need_lever rfl rfl
theorem sc_bring_row : FnScope ["track", "hands", "end", "standing", "stretch"] ["track", "hands", "end", "standing", "stretch"] (defScope st_bring_row) := ⟨by kernel_rfl, by kernel_rfl, by kernel_rfl, by decide +kernel, by kernel_rfl, by decide +kernel, by decide +kernel⟩
theorem bp_bring_row : BindsP "bring_row" st_bring_row ["track", "hands", "end", "standing", "stretch"] := fun kV doc pm an cdv ct us hl => match us, hl with | [_, _, _, _, _], _ => by kernel_rfl
theorem mo_bring_row (J : Jn fa fn tu K mg base) : ModOk P w K mg base [] 7 cx_bring_row [d_row_to, d_need_lever] [] := (mod_of J (CalL.cons ((cal_row_to J).m (by decide)) (CalL.cons ((cal_need_lever J).m (by decide)) CalL.nil)) GcL.nil (by decide +kernel))
theorem cal_bring_row (J : Jn fa fn tu K mg base) : Cal P w K mg base [] "bring_row" 5 8 d_bring_row := cal_of (k := 7) J 65 88 (by kernel_rfl) (by kernel_rfl) sc_bring_row bp_bring_row (mo_bring_row J) rfl rfl rfl ck_bring_row rfl rfl
theorem sc_bring : FnScope ["track", "hands", "end", "standing", "stretch", "row", "point"] ["track", "hands", "end", "standing", "stretch"] (defScope st_bring) := ⟨by kernel_rfl, by kernel_rfl, by kernel_rfl, by decide +kernel, by kernel_rfl, by decide +kernel, by decide +kernel⟩
theorem bp_bring : BindsP "bring" st_bring ["track", "hands", "end", "standing", "stretch"] := fun kV doc pm an cdv ct us hl => match us, hl with | [_, _, _, _, _], _ => by kernel_rfl
theorem mo_bring (J : Jn fa fn tu K mg base) : ModOk P w K mg base [] 7 cx_bring [d_row_to, d_need_lever] [] := (mod_of J (CalL.cons ((cal_row_to J).m (by decide)) (CalL.cons ((cal_need_lever J).m (by decide)) CalL.nil)) GcL.nil (by decide +kernel))
theorem cal_bring (J : Jn fa fn tu K mg base) : Cal P w K mg base [] "bring" 5 8 d_bring := cal_of (k := 7) J 66 89 (by kernel_rfl) (by kernel_rfl) sc_bring bp_bring (mo_bring J) rfl rfl rfl ck_bring rfl rfl
theorem sc_ticks_of : FnScope ["track", "end", "end_so", "other", "length"] ["track", "end"] (defScope st_ticks_of) := ⟨by kernel_rfl, by kernel_rfl, by kernel_rfl, by decide +kernel, by kernel_rfl, by decide +kernel, by decide +kernel⟩
theorem bp_ticks_of : BindsP "ticks_of" st_ticks_of ["track", "end"] := fun kV doc pm an cdv ct us hl => match us, hl with | [_, _], _ => by kernel_rfl
theorem mo_ticks_of (J : Jn fa fn tu K mg base) : ModOk P w K mg base [] 1 cx_ticks_of [d_index_of] [] := (mod_of J (CalL.cons ((cal_index_of J).m (by decide)) CalL.nil) GcL.nil (by decide +kernel))
theorem cal_ticks_of (J : Jn fa fn tu K mg base) : Cal P w K mg base [] "ticks_of" 2 2 d_ticks_of := cal_of (k := 1) J 67 90 (by kernel_rfl) (by kernel_rfl) sc_ticks_of bp_ticks_of (mo_ticks_of J) rfl rfl rfl ck_ticks_of rfl rfl
theorem sc_is_train : FnScope ["track", "value"] ["track", "value"] (defScope st_is_train) := ⟨by kernel_rfl, by kernel_rfl, by kernel_rfl, by decide +kernel, by kernel_rfl, by decide +kernel, by decide +kernel⟩
theorem bp_is_train : BindsP "is_train" st_is_train ["track", "value"] := fun kV doc pm an cdv ct us hl => match us, hl with | [_, _], _ => by kernel_rfl
theorem mo_is_train (J : Jn fa fn tu K mg base) : ModOk P w K mg base [] 2 cx_is_train [d_is_int, d_ticks_of, d_is_end_of] [] := (mod_of J (CalL.cons ((cal_is_int J).m (by decide)) (CalL.cons ((cal_ticks_of J).m (by decide)) (CalL.cons ((cal_is_end_of J).m (by decide)) CalL.nil))) GcL.nil (by decide +kernel))
theorem cal_is_train (J : Jn fa fn tu K mg base) : Cal P w K mg base [] "is_train" 2 3 d_is_train := cal_of (k := 2) J 68 91 (by kernel_rfl) (by kernel_rfl) sc_is_train bp_is_train (mo_is_train J) rfl rfl rfl ck_is_train rfl rfl
theorem sc_need_trains : FnScope ["track", "one_train", "other_train", "train"] ["track", "one_train", "other_train"] (defScope st_need_trains) := ⟨by kernel_rfl, by kernel_rfl, by kernel_rfl, by decide +kernel, by kernel_rfl, by decide +kernel, by decide +kernel⟩
theorem bp_need_trains : BindsP "need_trains" st_need_trains ["track", "one_train", "other_train"] := fun kV doc pm an cdv ct us hl => match us, hl with | [_, _, _], _ => by kernel_rfl
theorem mo_need_trains (J : Jn fa fn tu K mg base) : ModOk P w K mg base [] 5 cx_need_trains [d_is_train, d_need_track] [] := (mod_of J (CalL.cons ((cal_is_train J).m (by decide)) (CalL.cons ((cal_need_track J).m (by decide)) CalL.nil)) GcL.nil (by decide +kernel))
theorem cal_need_trains (J : Jn fa fn tu K mg base) : Cal P w K mg base [] "need_trains" 3 6 d_need_trains := cal_of (k := 5) J 69 92 (by kernel_rfl) (by kernel_rfl) sc_need_trains bp_need_trains (mo_need_trains J) rfl rfl rfl ck_need_trains rfl rfl
theorem sc_meeting : FnScope ["track", "one_train", "other_train", "standing"] ["track", "one_train", "other_train", "standing"] (defScope st_meeting) := ⟨by kernel_rfl, by kernel_rfl, by kernel_rfl, by decide +kernel, by kernel_rfl, by decide +kernel, by decide +kernel⟩
theorem bp_meeting : BindsP "meeting" st_meeting ["track", "one_train", "other_train", "standing"] := fun kV doc pm an cdv ct us hl => match us, hl with | [_, _, _, _], _ => by kernel_rfl
theorem mo_meeting (J : Jn fa fn tu K mg base) : ModOk P w K mg base [] 6 cx_meeting [d_first_tick, d_need_standing, d_need_trains] [] := (mod_of J (CalL.cons ((cal_first_tick J).m (by decide)) (CalL.cons ((cal_need_standing J).m (by decide)) (CalL.cons ((cal_need_trains J).m (by decide)) CalL.nil))) GcL.nil (by decide +kernel))
theorem cal_meeting (J : Jn fa fn tu K mg base) : Cal P w K mg base [] "meeting" 4 7 d_meeting := cal_of (k := 6) J 70 93 (by kernel_rfl) (by kernel_rfl) sc_meeting bp_meeting (mo_meeting J) rfl rfl rfl ck_meeting rfl rfl
theorem sc_safe_standings : FnScope ["track", "one_train", "other_train"] ["track", "one_train", "other_train"] (defScope st_safe_standings) := ⟨by kernel_rfl, by kernel_rfl, by kernel_rfl, by decide +kernel, by kernel_rfl, by decide +kernel, by decide +kernel⟩
theorem bp_safe_standings : BindsP "safe_standings" st_safe_standings ["track", "one_train", "other_train"] := fun kV doc pm an cdv ct us hl => match us, hl with | [_, _, _], _ => by kernel_rfl
theorem mo_safe_standings (J : Jn fa fn tu K mg base) : ModOk P w K mg base [] 6 cx_safe_standings [d_all_safe, d_need_trains] [] := (mod_of J (CalL.cons ((cal_all_safe J).m (by decide)) (CalL.cons ((cal_need_trains J).m (by decide)) CalL.nil)) GcL.nil (by decide +kernel))
theorem cal_safe_standings (J : Jn fa fn tu K mg base) : Cal P w K mg base [] "safe_standings" 3 7 d_safe_standings := cal_of (k := 6) J 71 94 (by kernel_rfl) (by kernel_rfl) sc_safe_standings bp_safe_standings (mo_safe_standings J) rfl rfl rfl ck_safe_standings rfl rfl
theorem sc_sure : FnScope ["track", "end", "standing"] ["track", "end"] (defScope st_sure) := ⟨by kernel_rfl, by kernel_rfl, by kernel_rfl, by decide +kernel, by kernel_rfl, by decide +kernel, by decide +kernel⟩
theorem bp_sure : BindsP "sure" st_sure ["track", "end"] := fun kV doc pm an cdv ct us hl => match us, hl with | [_, _], _ => by kernel_rfl
theorem mo_sure (J : Jn fa fn tu K mg base) : ModOk P w K mg base [] 6 cx_sure [d_common, d_gone_ever, d_all_standings, d_need_both] [] := (mod_of J (CalL.cons ((cal_common J).m (by decide)) (CalL.cons ((cal_gone_ever J).m (by decide)) (CalL.cons ((cal_all_standings J).m (by decide)) (CalL.cons ((cal_need_both J).m (by decide)) CalL.nil)))) GcL.nil (by decide +kernel))
theorem cal_sure (J : Jn fa fn tu K mg base) : Cal P w K mg base [] "sure" 2 7 d_sure := cal_of (k := 6) J 72 95 (by kernel_rfl) (by kernel_rfl) sc_sure bp_sure (mo_sure J) rfl rfl rfl ck_sure rfl rfl
theorem sc_once : FnScope ["track", "end", "standing", "late", "index"] ["track", "end", "standing"] (defScope st_once) := ⟨by kernel_rfl, by kernel_rfl, by kernel_rfl, by decide +kernel, by kernel_rfl, by decide +kernel, by decide +kernel⟩
theorem bp_once : BindsP "once" st_once ["track", "end", "standing"] := fun kV doc pm an cdv ct us hl => match us, hl with | [_, _, _], _ => by kernel_rfl
theorem mo_once (J : Jn fa fn tu K mg base) : ModOk P w K mg base [] 6 cx_once [d_gone_ever, d_gone_for_ever, d_need_place] [] := (mod_of J (CalL.cons ((cal_gone_ever J).m (by decide)) (CalL.cons ((cal_gone_for_ever J).m (by decide)) (CalL.cons ((cal_need_place J).m (by decide)) CalL.nil))) GcL.nil (by decide +kernel))
theorem cal_once (J : Jn fa fn tu K mg base) : Cal P w K mg base [] "once" 3 7 d_once := cal_of (k := 6) J 73 96 (by kernel_rfl) (by kernel_rfl) sc_once bp_once (mo_once J) rfl rfl rfl ck_once rfl rfl
theorem sc_never : FnScope ["track", "end", "standing", "some", "index"] ["track", "end", "standing"] (defScope st_never) := ⟨by kernel_rfl, by kernel_rfl, by kernel_rfl, by decide +kernel, by kernel_rfl, by decide +kernel, by decide +kernel⟩
theorem bp_never : BindsP "never" st_never ["track", "end", "standing"] := fun kV doc pm an cdv ct us hl => match us, hl with | [_, _, _], _ => by kernel_rfl
theorem mo_never (J : Jn fa fn tu K mg base) : ModOk P w K mg base [] 6 cx_never [d_gone_ever, d_need_place] [] := (mod_of J (CalL.cons ((cal_gone_ever J).m (by decide)) (CalL.cons ((cal_need_place J).m (by decide)) CalL.nil)) GcL.nil (by decide +kernel))
theorem cal_never (J : Jn fa fn tu K mg base) : Cal P w K mg base [] "never" 3 7 d_never := cal_of (k := 6) J 74 97 (by kernel_rfl) (by kernel_rfl) sc_never bp_never (mo_never J) rfl rfl rfl ck_never rfl rfl
theorem sc_for_ever : FnScope ["track", "end", "standing"] ["track", "end", "standing"] (defScope st_for_ever) := ⟨by kernel_rfl, by kernel_rfl, by kernel_rfl, by decide +kernel, by kernel_rfl, by decide +kernel, by decide +kernel⟩
theorem bp_for_ever : BindsP "for_ever" st_for_ever ["track", "end", "standing"] := fun kV doc pm an cdv ct us hl => match us, hl with | [_, _, _], _ => by kernel_rfl
theorem mo_for_ever (J : Jn fa fn tu K mg base) : ModOk P w K mg base [] 6 cx_for_ever [d_gone_for_ever, d_need_place] [] := (mod_of J (CalL.cons ((cal_gone_for_ever J).m (by decide)) (CalL.cons ((cal_need_place J).m (by decide)) CalL.nil)) GcL.nil (by decide +kernel))
theorem cal_for_ever (J : Jn fa fn tu K mg base) : Cal P w K mg base [] "for_ever" 3 7 d_for_ever := cal_of (k := 6) J 75 98 (by kernel_rfl) (by kernel_rfl) sc_for_ever bp_for_ever (mo_for_ever J) rfl rfl rfl ck_for_ever rfl rfl
theorem sc__law_oval_so : FnScope ["_law_joints", "_law_track", "_law_found", "_law_due", "_law_one", "_law_other"] [] (defScope st__law_oval_so) := ⟨by kernel_rfl, by kernel_rfl, by kernel_rfl, by decide +kernel, by kernel_rfl, by decide +kernel, by decide +kernel⟩
theorem bp__law_oval_so : BindsP "_law_oval_so" st__law_oval_so [] := fun kV doc pm an cdv ct us hl => match us, hl with | [], _ => by kernel_rfl
theorem mo__law_oval_so (J : Jn fa fn tu K mg base) : ModOk P w K mg base [] 8 cx__law_oval_so [d_parting, d_mirrored, d_kind_changes, d_can_avoid, d_holds, d_bring_row, d_least_hands, d_bring, d_safe_pairs, d_meeting, d_safe_standings, d_latest, d_sure, d_once, d_never, d_for_ever, d_ring] [] := (mod_of J (CalL.cons ((cal_parting J).m (by decide)) (CalL.cons ((cal_mirrored J).m (by decide)) (CalL.cons ((cal_kind_changes J).m (by decide)) (CalL.cons ((cal_can_avoid J).m (by decide)) (CalL.cons ((cal_holds J).m (by decide)) (CalL.cons ((cal_bring_row J).m (by decide)) (CalL.cons ((cal_least_hands J).m (by decide)) (CalL.cons ((cal_bring J).m (by decide)) (CalL.cons ((cal_safe_pairs J).m (by decide)) (CalL.cons ((cal_meeting J).m (by decide)) (CalL.cons ((cal_safe_standings J).m (by decide)) (CalL.cons ((cal_latest J).m (by decide)) (CalL.cons ((cal_sure J).m (by decide)) (CalL.cons ((cal_once J).m (by decide)) (CalL.cons ((cal_never J).m (by decide)) (CalL.cons ((cal_for_ever J).m (by decide)) (CalL.cons ((cal_ring J).m (by decide)) CalL.nil))))))))))))))))) GcL.nil (by decide +kernel))
theorem cal__law_oval_so (J : Jn fa fn tu K mg base) : Cal P w K mg base [] "_law_oval_so" 0 9 d__law_oval_so := cal_of (k := 8) J 76 99 (by kernel_rfl) (by kernel_rfl) sc__law_oval_so bp__law_oval_so (mo__law_oval_so J) rfl rfl rfl ck__law_oval_so rfl rfl
theorem sc__law_star_so : FnScope ["_law_first_so", "_law_second", "_law_third", "_law_joints", "_law_track", "_law_found", "_law_size"] ["_law_first_so", "_law_second", "_law_third"] (defScope st__law_star_so) := ⟨by kernel_rfl, by kernel_rfl, by kernel_rfl, by decide +kernel, by kernel_rfl, by decide +kernel, by decide +kernel⟩
theorem bp__law_star_so : BindsP "_law_star_so" st__law_star_so ["_law_first_so", "_law_second", "_law_third"] := fun kV doc pm an cdv ct us hl => match us, hl with | [_, _, _], _ => by kernel_rfl
theorem mo__law_star_so (J : Jn fa fn tu K mg base) : ModOk P w K mg base [] 7 cx__law_star_so [d_rings, d_least_hands, d_ring, d_kind_changes, d_holds, d_sure, d_never, d_for_ever] [] := (mod_of J (CalL.cons ((cal_rings J).m (by decide)) (CalL.cons ((cal_least_hands J).m (by decide)) (CalL.cons ((cal_ring J).m (by decide)) (CalL.cons ((cal_kind_changes J).m (by decide)) (CalL.cons ((cal_holds J).m (by decide)) (CalL.cons ((cal_sure J).m (by decide)) (CalL.cons ((cal_never J).m (by decide)) (CalL.cons ((cal_for_ever J).m (by decide)) CalL.nil)))))))) GcL.nil (by decide +kernel))
theorem cal__law_star_so (J : Jn fa fn tu K mg base) : Cal P w K mg base [] "_law_star_so" 3 8 d__law_star_so := cal_of (k := 7) J 77 100 (by kernel_rfl) (by kernel_rfl) sc__law_star_so bp__law_star_so (mo__law_star_so J) rfl rfl rfl ck__law_star_so rfl rfl
theorem sc__law_tap : FnScope ["_law_churn_here", "_law_many", "_law_found", "_law_wide"] ["_law_churn_here", "_law_many"] (defScope st__law_tap) := ⟨by kernel_rfl, by kernel_rfl, by kernel_rfl, by decide +kernel, by kernel_rfl, by decide +kernel, by decide +kernel⟩
theorem bp__law_tap : BindsP "_law_tap" st__law_tap ["_law_churn_here", "_law_many"] := fun kV doc pm an cdv ct us hl => match us, hl with | [_, _], _ => by kernel_rfl
theorem mo__law_tap (J : Jn fa fn tu K mg base) : ModOk P w K mg base [] 0 cx__law_tap [] [] := (mod_of J CalL.nil GcL.nil (by decide +kernel))
theorem cal__law_tap (J : Jn fa fn tu K mg base) : Cal P w K mg base [] "_law_tap" 2 1 d__law_tap := cal_of (k := 0) J 78 101 (by kernel_rfl) (by kernel_rfl) sc__law_tap bp__law_tap (mo__law_tap J) rfl rfl rfl ck__law_tap rfl rfl
theorem sc__law_churn : FnScope ["_law_script", "_law_k", "_law_cell"] ["_law_script", "_law_k"] (defScope st__law_churn) := ⟨by kernel_rfl, by kernel_rfl, by kernel_rfl, by decide +kernel, by kernel_rfl, by decide +kernel, by decide +kernel⟩
theorem bp__law_churn : BindsP "_law_churn" st__law_churn ["_law_script", "_law_k"] := fun kV doc pm an cdv ct us hl => match us, hl with | [_, _], _ => by kernel_rfl
theorem mo__law_churn (J : Jn fa fn tu K mg base) : ModOk P w K mg base [] 0 cx__law_churn [] [] := (mod_of J CalL.nil GcL.nil (by decide +kernel))
theorem cal__law_churn (J : Jn fa fn tu K mg base) : Cal P w K mg base [] "_law_churn" 2 1 d__law_churn := cal_of (k := 0) J 79 102 (by kernel_rfl) (by kernel_rfl) sc__law_churn bp__law_churn (mo__law_churn J) rfl rfl rfl ck__law_churn rfl rfl
theorem sc_law : FnScope ["_law_script", "_law_k", "_law_churn_here", "_law_one", "_law_two", "_law_three"] ["_law_script"] (defScope st_law) := ⟨by kernel_rfl, by kernel_rfl, by kernel_rfl, by decide +kernel, by kernel_rfl, by decide +kernel, by decide +kernel⟩
theorem bp_law : BindsP "law" st_law ["_law_script"] := fun kV doc pm an cdv ct us hl => match us, hl with | [_], _ => by kernel_rfl
theorem mo_law (J : Jn fa fn tu K mg base) : ModOk P w K mg base [] 9 cx_law [d__law_loop_so, d__law_oval_so, d__law_star_so, d__law_tap, d__law_churn] [] := (mod_of J (CalL.cons ((cal__law_loop_so J).m (by decide)) (CalL.cons ((cal__law_oval_so J).m (by decide)) (CalL.cons ((cal__law_star_so J).m (by decide)) (CalL.cons ((cal__law_tap J).m (by decide)) (CalL.cons ((cal__law_churn J).m (by decide)) CalL.nil))))) GcL.nil (by decide +kernel))
theorem facts (c : SaysT fa fn tu K) : ∃ fd : FuncData, (∀ (s : Shared) (v : Value), BindsTo s fd ⟨[v], []⟩ [("_law_script", v)]) ∧ ∀ base : Heap, K.In base → base.Ns mainGlobals mg → FnOk P w K mg base (L2.CX P w) 10 (He.ga K "law") fd ["_law_script"] (SpD ⟨P, w, K, mg, []⟩ 1 d_law) := by
  obtain ⟨fd, hb, hF⟩ := law_of (P := P) (w := w) (mg := mg) (T := []) (k := 9) (ar := 1) (n := 6) (C := []) (G := [d__law_loop_so, d__law_oval_so, d__law_star_so, d__law_tap, d__law_churn]) (b := ir_law) (c := cx_law) c 80 (by kernel_rfl) sc_law bp_law rfl rfl rfl ck_law rfl rfl
  exact ⟨fd, fun s v => hb s [v] rfl, fun base X G => hF base (mo_law ⟨X, G, c⟩)⟩
theorem facts_glo (X : K.In base) (G : base.Ns mainGlobals mg) (c : SaysT fa fn tu K) : mg "law" = some (.ref (He.ga K "law")) := Jn.glo ⟨X, G, c⟩ 103 (by kernel_rfl)
end
abbrev R : PySem.W.OpenRow := PySem.W.OpenLaw.row PySem.Challenge.rw_railpoints_k19_whole_written_tracks
abbrev hk : PySem.W.Hook := hookT 2 fa fn tu
def ob (s : PySem.W.SharedT) : AlT := obsTG 2 fa fn tu (HandSHeadRun.getT s)
theorem ob_eq (s : PySem.W.SharedT) : ob s = hk.obs s.abs := obsTG_eq (HandSHeadRun.getT_eq s)
def loose_0 : List Str := ["RailError", "InvalidTrack", "InvalidEnd", "InvalidStanding", "InvalidStretch", "InvalidHands", "InvalidNumber", "InvalidTrain", "InvalidWord", "Unlike", "KINDS", "LEGS", "MOST_POINTS", "is_int", "is_word", "is_end_of", "is_stretch", "ends_in", "is_track", "all_ends", "all_standings", "all_places", "is_standing_of", "index_of", "sorted_joints", "other_leg", "mirror", "need_track", "need_end", "need_standing"]
def loose_1 : List Str := ["need_place", "need_stretch", "need_number", "mirrored", "MOST_PASSES", "put", "over", "along", "step", "steps", "passed", "ends_of", "gone", "course", "gone_for_ever", "gone_ever", "ring", "for_ever", "once", "never", "rings", "gardens", "common", "passes_to", "need_both", "sure", "sure_ever", "latest", "turned", "choices"]
def loose_2 : List Str := ["row_to", "avoiding", "can_stay", "lots_of", "need_hands", "need_lever", "bring", "bring_row", "can_avoid", "least_hands", "passes_apart", "parted_by", "need_two", "alike", "parting", "WORDS", "is_so", "need_wish", "holds", "kind_changes", "ticks_of", "is_train", "are_apart", "moved", "first_tick", "need_trains", "meeting", "all_safe", "safe_standings", "safe_pairs"]
def loose_3 : List Str := ["_law_churn", "_law_tap", "_law_loop_so", "_law_oval_so", "_law_star_so"]
def loose : List Str := loose_0 ++ loose_1 ++ loose_2 ++ loose_3
theorem headrun (w : World) : HandSHeadRun.RunEq R (PySem.W.view R.prog [105]) hk ob 20000 loose w := by
  intro os
  kernel_rfl
end RP

open PySem PySem.W PySem.Calls PyProof.Rows
theorem PySem.Challenge.cw_railpoints_k19_whole_written_tracks_holds : PySem.Challenge.rw_railpoints_k19_whole_written_tracks.Holds := by
  w_on; o_law
  refine HandSHeadRun.head_any (r := OpenLaw.row PySem.Challenge.rw_railpoints_k19_whole_written_tracks) (q := view (OpenLaw.row PySem.Challenge.rw_railpoints_k19_whole_written_tracks).prog [105]) (H := RP.hk) (ob := RP.ob) (M := 20000) (loose := RP.loose) (d := HandSHeadRun.topDef (OpenLaw.row PySem.Challenge.rw_railpoints_k19_whole_written_tracks).prog 105) (kwd := []) RP.ob_eq
    (by kernel_rfl) (fun s => by kernel_rfl) RP.headrun (by kernel_rfl) (by kernel_rfl) (by kernel_rfl) (by rfl) (by first | assumption | decide +kernel) (by decide +kernel) ⟨rfl, rfl, rfl, rfl, rfl, by decide +kernel⟩ ?hw ?hc
  case hw => w_witness2
  case hc =>
    refine LamX.walk_ofTsE (l := PySem.Challenge.rw_railpoints_k19_whole_written_tracks) (n := 63) (k := 10) (x := "_law_script") (CX := fun w => L2.CX (PySem.Challenge.rw_railpoints_k19_whole_written_tracks).prog w) rfl (by decide) (by kernel_rfl) ⟨rfl, by decide, by decide⟩ ?F (fun w H s e s' h => RP.noCX w H s e s' h)
    intro w mg f h Y G hmg0
    obtain ⟨K, KX, c⟩ := Y
    have hmg : mg ("law" : PySem.Str) = some (.ref f) := by
      have e : (HandSHeadRun.topDef (OpenLaw.row PySem.Challenge.rw_railpoints_k19_whole_written_tracks).prog 105).name = ("law" : PySem.Str) := by kernel_rfl
      rw [← e]
      exact hmg0
    have e := hmg.symm.trans (RP.facts_glo KX G c)
    cases e
    obtain ⟨fd, hb, hF⟩ := RP.facts (P := (PySem.Challenge.rw_railpoints_k19_whole_written_tracks).prog) (w := w) (mg := mg) c
    exact ⟨K, KX, fd, [], _, (fun p hp => nomatch hp), (fun p hp => nomatch hp), (fun p hp => nomatch hp), hb, fun H a ns hl _ _ hS => RP.law_sp rfl hS (RP.law_true' ⟨RP.gd_loop, RP.gd_oval, RP.gd_star⟩ ns), fun base X G _ => hF base X G⟩

