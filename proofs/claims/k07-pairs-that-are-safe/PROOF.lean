import PyProof.Rows.All
import PySem.Str
import PySem.PyData
import HandS.ForMost
import HandS.Exc
import HandS.ExcOwn
import HandS.TryOnly
import HandS.WordsExc
import HandS.Lambda
import HandS.Deep
import KE.KDictKeyed
import HandS.TupAny
import HandS.TupMul
import HandS.TupLe
import HandS.Wide
import HandS.TupLen
import HandS.IsInst
import HandS.Conv
import HandS.ExcCtx
import HandS.CallLocal
import HandS.Style
import HandS.Zip
import HandS.Walk
import HandS.DictTup
import KE.GoesMore
import KE.GoesEnum
import HandS.DictComp
import KE.SortData
import KE.DataMinMax
import KE.KDictSum
import KE.KDictDisplayH
import KE.KDictPairs
import HandS.SetFor
import HandS.Strs
import PyProof.SeqIndex
import HandS.TupSets
import KE.KeyNested
import HandS.HeadHook1
import KE.KDictZip
import KE.KItemsList
import HandS.Iter
import HandS.ListItems
import PyProof.ExcBaseAll.ValueError
import HandS.Defaults
import HandS.Head0
import HandS.Head1
import HandS.Head2
import HandS.HeadEnd
import HandS.HeadHook2
import HandS.HeadWalk
import PyProof.TableCode
import PySem.Challenge.RW_railpoints_k07_whole_pairs_of_trains_tha
set_option Elab.async false
set_option linter.all false
set_option maxRecDepth 100000
set_option maxHeartbeats 0
/-! Fw0: abstract values, abstract state, IR, its pure denotation. Own work. -/
namespace RP
open PySem

/-! ### values -/
inductive PV where
  | non
  | bl (b : Bool)
  | int (i : Int)
  | str (x : Str)
  | tup (xs : List PV)
  | lst (xs : List PV)
  | rol (xs : List PV)
  | tpx (xs : List PV)
  | dct (kvs : List (PV × PV))
  | ref (n : Nat)
  | fn (x : Str)

/-- texts are compared by their codes -/
def eqS (x y : Str) : Bool := x.cps.toList == y.cps.toList
def b2i (b : Bool) : Int := if b then 1 else 0

/-! structural equality (keys) -/
mutual
def PV.beq : PV → PV → Bool
  | .non, .non => true
  | .bl a, .bl b => a == b
  | .int a, .int b => a == b
  | .str a, .str b => eqS a b
  | .tup a, .tup b => PV.beqs a b
  | .lst a, .lst b => PV.beqs a b
  | _, _ => false
def PV.beqs : List PV → List PV → Bool
  | [], [] => true
  | a :: as, b :: bs => PV.beq a b && PV.beqs as bs
  | _, _ => false
end
/-! Python's == of data -/
mutual
def eqP : PV → PV → Bool
  | .non, .non => true
  | .bl a, .bl b => a == b
  | .bl a, .int j => b2i a == j
  | .int i, .bl b => i == b2i b
  | .int i, .int j => i == j
  | .str x, .str y => eqS x y
  | .lst xs, .lst ys => eqPs xs ys
  | .tup xs, .tup ys => eqPs xs ys
  | _, _ => false
def eqPs : List PV → List PV → Bool
  | [], [] => true
  | x :: xs, y :: ys => eqP x y && eqPs xs ys
  | _, _ => false
end
/-- a text that the model may compare -/
def strFine (x : Str) : Bool := x.cps.toList.length ≤ 100000 && x.cps.toList.all fun c => c < 55296
/-! data down to a depth: no dicts, no objects, no defs -/
mutual
def dat : Nat → PV → Bool
  | _, .non => true
  | _, .bl _ => true
  | _, .int _ => true
  | _, .str x => strFine x
  | n + 1, .tup xs => dats n xs
  | n + 1, .lst xs => dats n xs
  | _, _ => false
def dats : Nat → List PV → Bool
  | _, [] => true
  | n, x :: xs => dat n x && dats n xs
end
/-! keys: ints, texts, None, tuples of such -/
mutual
def keyOk : Nat → PV → Bool
  | _, .non => true
  | _, .int _ => true
  | _, .str _ => true
  | n + 1, .tup xs => keyOks n xs
  | _, _ => false
def keyOks : Nat → List PV → Bool
  | _, [] => true
  | n, x :: xs => keyOk n x && keyOks n xs
end
/-! < of data -/
def ltCps : List Nat → List Nat → Bool
  | [], [] => false
  | [], _ :: _ => true
  | _ :: _, [] => false
  | a :: as, b :: bs => if a = b then ltCps as bs else decide (a < b)
mutual
def ltP : PV → PV → Option Bool
  | .int a, .int b => some (decide (a < b))
  | .str a, .str b => some (ltCps a.cps.toList b.cps.toList)
  | .tup a, .tup b => ltPs a b
  | _, _ => none
def ltPs : List PV → List PV → Option Bool
  | [], [] => some false
  | [], _ :: _ => some true
  | _ :: _, [] => some false
  | a :: as, b :: bs => (match ltPs as bs with
    | none => none
    | some k => if eqP a b then some k else ltP a b)
end

/-! ### state, results -/
inductive AObj where
  | lst (xs : List PV)
  | ins (c : Str) (fs : List (Str × PV))
abbrev AS := List AObj
inductive Exc where
  | mk (c : Str) (fs : List (Str × PV))
inductive Res (α : Type) where
  | ok (a : α) (s : AS)
  | exc (e : Exc) (s : AS)
  | stuck
abbrev M (α : Type) := AS → Res α
def Res.andThen {α β : Type} : Res α → (α → AS → Res β) → Res β
  | .ok a s, f => f a s
  | .exc e s, _ => .exc e s
  | .stuck, _ => .stuck
def ret {α : Type} (a : α) : M α := fun s => .ok a s
def stk {α : Type} : M α := fun _ => .stuck
def bnd {α β : Type} (x : M α) (f : α → M β) : M β := fun s => (x s).andThen fun a s' => f a s'
def opt {α : Type} : Option α → M α
  | some a => ret a
  | none => stk
/-- no exception may leave -/
def noExc {α : Type} (x : M α) : M α := fun s => match x s with
  | .ok a s' => .ok a s'
  | _ => .stuck

/-- a frame's slots -/
inductive Sl where
  | no
  | sh (v : PV)
  | ow (xs : List PV)
  | od (kvs : List (PV × PV))
abbrev Fm := List Sl
def Fm.get (r : Fm) (i : Nat) : Sl := match r[i]? with
  | some x => x
  | none => .no
def Sl.isNo : Sl → Bool
  | .no => true
  | _ => false
def Sl.freeze : Sl → Sl
  | .ow xs => .sh (.lst xs)
  | .od kvs => .sh (.dct kvs)
  | x => x
def Fm.freeze (r : Fm) (i : Nat) : Fm := r.set i (r.get i).freeze
def Fm.wipe (r : Fm) : List Nat → Fm
  | [] => r
  | i :: is => (Fm.wipe r is).set i .no

/-! ### operators -/
inductive BO where
  | add | sub | mul | mod | fdiv | pow
  deriving DecidableEq
inductive CO where
  | eq | ne | lt | le | gt | ge | isin | notin
  deriving DecidableEq
inductive Ty where
  | int | bool | str | tuple | list
  deriving DecidableEq
inductive B1 where
  | len | list | tuple | tuplex | sorted | sortedSet | lenSet | dict | sum | min | max | all | any | int | bool | abs
  deriving DecidableEq

def LIM : Nat := 1000000
def small (i : Int) : Bool := decide (-(2 ^ 62) < i) && decide (i < 2 ^ 62)
def wide (i : Int) : Bool := decide (i.natAbs < 2 ^ 4096)
def repN {α : Type} (xs : List α) : Nat → List α
  | 0 => []
  | n + 1 => xs ++ repN xs n
def binP : BO → PV → PV → Option PV
  | .add, .int a, .int b => some (.int (a + b))
  | .add, .tup a, .tup b => if a.length + b.length ≤ LIM then some (.tup (a ++ b)) else none
  | .add, .lst a, .lst b => if a.length + b.length ≤ LIM then some (.lst (a ++ b)) else none
  | .sub, .int a, .int b => some (.int (a - b))
  | .mul, .int a, .int b => if wide a && wide b then some (.int (a * b)) else none
  | .mul, .tup a, .int b => if a.isEmpty = false ∧ a.length ≤ 1000 ∧ 1 ≤ b ∧ b ≤ 1000 then some (.tup (repN a b.toNat)) else none
  | .mul, .lst a, .int b => if a.length * b.toNat ≤ LIM && small b then some (.lst (repN a b.toNat)) else none
  | .mod, .int a, .int b => if 0 < b then some (.int (a % b)) else none
  | .fdiv, .int a, .int b => if 0 < b ∧ b < 1073741824 then some (.int (a / b)) else none
  | .pow, .int a, .int b => if 0 ≤ b ∧ b ≤ 100 ∧ a.natAbs < 100 then some (.int (a ^ b.toNat)) else none
  | _, _, _ => none
def DEP : Nat := 40
def datS (xs : List PV) : Bool := dats DEP xs
def isinP (x : PV) : PV → Option Bool
  | .lst ys => if dat DEP x && datS ys then some (ys.any fun y => eqP y x) else none
  | .tup ys => if dat DEP x && datS ys then some (ys.any fun y => eqP y x) else none
  | .dct kvs => if keyOk 8 x then (match x with
    | .tup _ => some (kvs.any fun kv => PV.beq kv.1 x)
    | _ => none) else none
  | _ => none
def cmpP : CO → PV → PV → Option Bool
  | .eq, a, b => if dat DEP a && dat DEP b then some (eqP a b) else none
  | .ne, a, b => if dat DEP a && dat DEP b then some (!eqP a b) else none
  | .lt, a, b => if dat DEP a && dat DEP b then ltP a b else none
  | .le, .int a, .int b => some (decide (a ≤ b))
  | .gt, .int a, .int b => some (decide (b < a))
  | .ge, .int a, .int b => some (decide (b ≤ a))
  | .isin, a, b => isinP a b
  | .notin, a, b => (isinP a b).map (!·)
  | _, _, _ => none
def isTy : Ty → PV → Bool
  | .int, .int _ => true
  | .int, .bl _ => true
  | .bool, .bl _ => true
  | .str, .str _ => true
  | .tuple, .tup _ => true
  | .list, .lst _ => true
  | .list, .rol _ => true
  | _, _ => false
def isTyP (t : Ty) (x : PV) : Option Bool := match x with
  | .dct _ => none
  | .ref _ => none
  | .fn _ => none
  | .tpx _ => none
  | x => some (isTy t x)

def isNonP : PV → Bool
  | .non => true
  | _ => false
def nrm (n : Nat) (i : Int) : Option Nat := if 0 ≤ i then (if i < n then some i.toNat else none) else if -(n : Int) ≤ i then some (i + n).toNat else none
def at' (xs : List PV) (i : Int) : Option PV := (nrm xs.length i).bind fun j => xs[j]?
def lookP (k : PV) : List (PV × PV) → Option PV
  | [] => none
  | kv :: r => if PV.beq kv.1 k then some kv.2 else lookP k r
def putP (kvs : List (PV × PV)) (k v : PV) : List (PV × PV) :=
  if kvs.any fun kv => PV.beq kv.1 k then kvs.map fun kv => if PV.beq kv.1 k then (kv.1, v) else kv else kvs ++ [(k, v)]
def isTup : PV → Bool
  | .tup _ => true
  | _ => false
def keyT (k : PV) : Bool := isTup k && keyOk 8 k
def ixP (s : AS) : PV → PV → Option PV
  | .lst xs, .int i => at' xs i
  | .rol xs, .int i => at' xs i
  | .tup xs, .int i => at' xs i
  | .dct kvs, k => if keyT k then lookP k kvs else none
  | .ref n, .int i => match s[n]? with
    | some (.lst xs) => at' xs i
    | _ => none
  | _, _ => none
/-- where a bound of a slice lies -/
def clip (n : Nat) (i : Int) : Nat := if i < 0 then (i + n).toNat else min i.toNat n
def slLoP : PV → PV → Option PV
  | .lst xs, .int i => some (.lst (xs.drop (clip xs.length i)))
  | .tup xs, .int i => some (.tup (xs.drop (clip xs.length i)))
  | .tpx xs, .int i => some (.tup (xs.drop (clip xs.length i)))
  | _, _ => none
def slHiP : PV → PV → Option PV
  | .lst xs, .int i => some (.lst (xs.take (clip xs.length i)))
  | .tup xs, .int i => some (.tup (xs.take (clip xs.length i)))
  | .tpx xs, .int i => some (.tup (xs.take (clip xs.length i)))
  | _, _ => none
/-! sorting by < : insertion, stable -/
def insP (x : PV) : List PV → Option (List PV)
  | [] => some [x]
  | y :: ys => match ltP y x with
    | some true => (insP x ys).map (y :: ·)
    | some false => some (x :: y :: ys)
    | none => none
def sortP : List PV → Option (List PV)
  | [] => some []
  | x :: xs => (sortP xs).bind (insP x)
/-! what sorting asks: alike items, tuples or none of them -/
mutual
def alikeP : PV → PV → Bool
  | .non, .non => true
  | .bl _, .bl _ => true
  | .int _, .int _ => true
  | .str _, .str _ => true
  | .lst xs, .lst ys => alikePs xs ys
  | .tup xs, .tup ys => alikePs xs ys
  | _, _ => false
def alikePs : List PV → List PV → Bool
  | x :: xs, y :: ys => alikeP x y && alikePs xs ys
  | _, _ => true
end
def alkAll (xs : List PV) : Bool := xs.all fun x => xs.all fun y => alikeP x y
def neTup : PV → Bool
  | .tup (_ :: _) => true
  | _ => false
def noTup : PV → Bool
  | .bl _ => true
  | .int _ => true
  | .str _ => true
  | .lst _ => true
  | _ => false
def ordOk (xs : List PV) : Bool := datS xs && (alkAll xs && xs.all fun x => !isNonP x)
/-- an int put into a row of rising ones -/
def insU (k : Int) : List Int → List Int
  | [] => [k]
  | y :: ys => if k < y then k :: y :: ys else if k = y then y :: ys else y :: insU k ys
def setI (ns : List Int) : List Int := ns.foldr insU []
def dedup : List PV → List PV
  | [] => []
  | x :: xs => if (dedup xs).any fun y => PV.beq y x then dedup xs else x :: dedup xs
def intsOf : List PV → Option (List Int)
  | [] => some []
  | .int i :: r => (intsOf r).map (i :: ·)
  | _ => none
def boolsOf : List PV → Option (List Bool)
  | [] => some []
  | .bl i :: r => (boolsOf r).map (i :: ·)
  | _ => none
/-- the first least one -/
def minP : PV → List PV → Option PV
  | m, [] => some m
  | m, x :: xs => match ltP x m with
    | some true => minP x xs
    | some false => minP m xs
    | none => none
/-- the first greatest one -/
def maxP : PV → List PV → Option PV
  | m, [] => some m
  | m, x :: xs => match ltP m x with
    | some true => maxP x xs
    | some false => maxP m xs
    | none => none
def itemsOf : PV → Option (List PV)
  | .lst xs => some xs
  | .tup xs => some xs
  | _ => none
def pairsOf : List PV → Option (List (PV × PV))
  | [] => some []
  | .tup [k, v] :: r => (pairsOf r).map ((k, v) :: ·)
  | _ => none
/-- each before each that stands behind it -/
def ascP : List PV → Bool
  | [] => true
  | x :: xs => (xs.all fun y => decide (ltP x y = some true)) && ascP xs
/-- keys that stand in their order, each once -/
def keyS (xs : List PV) : Bool := xs.all keyT && (ordOk xs && (xs.all neTup && (ascP xs && decide (xs.length < 76))))
def b1P : B1 → PV → Option PV
  | .len, .lst xs => some (.int xs.length)
  | .len, .rol xs => some (.int xs.length)
  | .len, .tup xs => some (.int xs.length)
  | .len, .dct kvs => some (.int kvs.length)
  | .list, .lst xs => some (.lst xs)
  | .list, .tup xs => some (.lst xs)
  | .list, .dct kvs => some (.lst (kvs.map (·.1)))
  | .tuple, .lst xs => some (.tup xs)
  | .tuple, .tup xs => some (.tup xs)
  | .tuplex, .lst xs => some (.tpx xs)
  | .sorted, .lst xs => if ordOk xs && (xs.all neTup || xs.all noTup) then (sortP xs).map .lst else none
  | .sorted, .dct kvs => if ordOk (kvs.map (·.1)) && (kvs.map (·.1)).all neTup then (sortP (kvs.map (·.1))).map .lst else none
  | .sortedSet, .lst xs => match intsOf xs with
    | some ns => if (setI ns).length < 64 && decide (xs.length < 4000) then some (.lst ((setI ns).map .int)) else none
    | none => if keyS xs then some (.lst xs) else none
  | .sortedSet, .tup xs => (intsOf xs).bind fun ns => if (setI ns).length < 64 && decide (xs.length < 4000) then some (.lst ((setI ns).map .int)) else none
  | .lenSet, .lst xs => if keyOks 8 xs then some (.int (dedup xs).length) else none
  | .dict, .lst xs => (pairsOf xs).bind fun kvs => if kvs.all (fun kv => keyT kv.1) then some (.dct (kvs.foldl (fun acc kv => putP acc kv.1 kv.2) [])) else none
  | .sum, .lst xs => (intsOf xs).map fun ns => .int ns.sum
  | .min, .lst (x :: xs) => if ordOk (x :: xs) then minP x xs else none
  | .min, .tup (x :: xs) => if ordOk (x :: xs) then minP x xs else none
  | .min, .tpx (x :: xs) => if ordOk (x :: xs) then minP x xs else none
  | .max, .lst (x :: xs) => if ordOk (x :: xs) then maxP x xs else none
  | .all, .lst xs => (boolsOf xs).map fun bs => .bl (bs.all id)
  | .any, .lst xs => (boolsOf xs).map fun bs => .bl (bs.any id)
  | .int, .int i => some (.int i)
  | .int, .bl b => some (.int (b2i b))
  | .bool, .bl b => some (.bl b)
  | .abs, .int i => some (.int (if i < 0 then -i else i))
  | _, _ => none
def idxP (x : PV) : List PV → Option Nat
  | [] => none
  | y :: ys => if eqP y x then some 0 else (idxP x ys).map (· + 1)
def seqX : PV → Bool
  | .lst _ => true
  | .tpx _ => true
  | _ => false
def ixOf (x y : PV) : Option PV := match x with
  | .lst xs => if datS xs && dat DEP y then (idxP y xs).map fun n => .int n else none
  | .tpx xs => if datS xs && dat DEP y then (idxP y xs).map fun n => .int n else none
  | _ => none

def litF (d : Str) : List (Str × Str) → Str → Str
  | [], _ => d
  | p :: ps, z => if eqS p.1 z then p.2 else litF d ps z
def litP (ps : List (Str × Str)) (d : Str) : PV → Option PV
  | .str z => some (.str (litF d ps z))
  | _ => none

/-! ### IR -/
/-- targets -/
inductive Tg where
  | nm (i : Nat)
  | tup (is : List Nat)
mutual
inductive E where
  | dead
  | var (i : Nat)
  | int (i : Int)
  | str (x : Str)
  | bl (b : Bool)
  | non
  | gc (j : Nat)
  | fnv (x : Str)
  | tup (es : Es)
  | lst (es : Es)
  | lstR (es : Es)
  | dnew
  | d1 (k v : E)
  | bin (op : BO) (a b : E)
  | cmp (op : CO) (a b : E)
  | chain (op op' : CO) (a b c : E)
  | isN (a : E)
  | notN (a : E)
  | and (a b : E)
  | or (a b : E)
  | not (a : E)
  | neg (a : E)
  | ite (c a b : E)
  | ix (a b : E)
  | slLo (a b : E)
  | slHi (a b : E)
  | call (j : Nat) (es : Es)
  | callv (i : Nat) (es : Es)
  | b1 (op : B1) (a : E)
  | min2 (a b : E)
  | max2 (a b : E)
  | min2t (a b : E)
  | isinst (t : Ty) (a : E)
  | idx (a b : E)
  | litget (ps : List (Str × Str)) (a : E) (d : Str)
  | lrange (a : E)
  | lzip (a b : E)
  | lc (e : E) (t : Tg) (it : It) (c : E) (vs : List Nat)
  | lc2 (e : E) (t : Tg) (it : It) (c : E) (t2 : Tg) (it2 : It) (c2 : E) (vs vs2 : List Nat)
  | dc (k v : E) (t : Tg) (it : It) (c : E) (vs : List Nat)
  | lam (tab : List (Str × Str)) (e : E)
inductive Es where
  | nil
  | cons (e : E) (es : Es)
inductive It where
  | seq (e : E)
  | range1 (a : E)
  | enum (a : E)
  | zip (a b : E)
  | items (a : E)
  | keys (a : E)
end
mutual
inductive S where
  | dead
  | set (i : Nat) (e : E)
  | setO (i : Nat) (e : E)
  | setT (is : List Nat) (e : E)
  | setLcO (j i : Nat) (e : E) (t : Tg) (c : E) (vs : List Nat)
  | par (is : List Nat) (es : Es)
  | parD (i j : Nat) (e : E)
  | parL (i j : Nat) (e : E)
  | parO (i j : Nat) (e e2 : E)
  | parO3 (i j l : Nat) (e e2 e3 : E)
  | parOO (i j l : Nat) (e e2 e3 : E)
  | setST (i j : Nat) (k e : E)
  | app (i : Nat) (e : E)
  | ext (i : Nat) (e : E)
  | seti (i : Nat) (k e : E)
  | expr (e : E)
  | retE (e : E)
  | retN
  | ife (c : E) (a b : Ss)
  | for_ (t : Tg) (it : It) (b : Ss)
  | while_ (n : Nat) (c : E) (b : Ss)
  | raise_ (c : Str)
  | pass
inductive Ss where
  | nil
  | cons (s : S) (ss : Ss)
  | frz (i : Nat) (ss : Ss)
end
inductive Fl where
  | nx (r : Fm)
  | bk (r : Fm)
  | ct (r : Fm)
  | rt (v : PV)

/-! ### denotation -/
def bindNs : List Nat → List PV → Fm → Option Fm
  | [], [], r => some r
  | i :: is, v :: vs, r => bindNs is vs (r.set i (.sh v))
  | _, _, _ => none
def bindT : Tg → PV → Fm → Option Fm
  | .nm i, v, r => some (r.set i (.sh v))
  | .tup is, .tup vs, r => bindNs is vs r
  | .tup _, _, _ => none
def enumP (n : Nat) : List PV → List PV
  | [] => []
  | x :: xs => .tup [.int n, x] :: enumP (n + 1) xs
def zipP : List PV → List PV → List PV
  | x :: xs, y :: ys => .tup [x, y] :: zipP xs ys
  | _, _ => []
def rangeP (lo : Int) : Nat → List PV
  | 0 => []
  | n + 1 => .int lo :: rangeP (lo + 1) n
def seqP : PV → Option (List PV)
  | .lst xs => some xs
  | .tup xs => some xs
  | .rol xs => some xs
  | _ => none
def keysOfD : PV → Option (List PV)
  | .dct kvs => some (kvs.map (·.1))
  | _ => none
def rangeOf : PV → Option (List PV)
  | .int n => if -1000000 ≤ n ∧ n ≤ 1000000 then some (rangeP 0 n.toNat) else none
  | _ => none
def enumOf : PV → Option (List PV)
  | .lst xs => some (enumP 0 xs)
  | .tup xs => some (enumP 0 xs)
  | _ => none
def zipOf : PV → PV → Option (List PV)
  | .lst xs, .lst ys => some (zipP xs ys)
  | .tup xs, .tup ys => some (zipP xs ys)
  | _, _ => none
def itemsOfD : PV → Option (List PV)
  | .dct kvs => some (kvs.map fun kv => .tup [kv.1, kv.2])
  | _ => none
def finL (ys : List PV) : M PV := if ys.length ≤ LIM then ret (.lst ys) else stk
def finD (ys : List (PV × PV)) : M PV := if ys.length ≤ LIM then ret (.dct ys) else stk
def truth : PV → Option Bool
  | .bl b => some b
  | _ => none
def tb (x : M PV) : M Bool := bnd x fun v => opt (truth v)
def tst {α : Type} (x : M PV) (f : Bool → M α) : M α := bnd (tb x) f
/-- the turns of a comprehension: f gives the items of a turn -/
def lcGo (f : PV → M (List PV)) : List PV → List PV → M (List PV)
  | [], acc => ret acc
  | x :: xs, acc => bnd (f x) fun ys => lcGo f xs (acc ++ ys)
def dcGo (f : PV → M (Option (PV × PV))) : List PV → List (PV × PV) → M (List (PV × PV))
  | [], acc => ret acc
  | x :: xs, acc => bnd (f x) fun o => match o with
    | some (k, v) => if keyT k then dcGo f xs (putP acc k v) else stk
    | none => dcGo f xs acc
abbrev Den := List PV → M PV
def getFn (G : List Den) (j : Nat) : List PV → M PV := match G[j]? with
  | some d => d
  | none => fun _ => stk
section
-- the defs that are called, by place; those that are values, by name; the module's constants, by place
variable (G : List Den) (GV : List (Str × Nat × Den)) (C : List PV)
def callP (x : Str) : Option (Str × Nat × Den) := GV.find? fun p => eqS p.1 x
def callN (p : Str × Nat × Den) (args : List PV) : M PV := if args.length = p.2.1 then p.2.2 args else stk
/-- a lambda called by a def that tells what it returns, or the word of its error -/
def lamD (tab : List (Str × Str)) (x : M PV) : M PV := fun s => match x s with
  | .ok v s' => .ok (.tup [.str "told", v]) s'
  | .exc (.mk c fs) s' => (match tab.lookup c, fs with
    | some w, [] => .ok (.tup [.str w]) s'
    | _, _ => .stuck)
  | .stuck => .stuck
mutual
/-- o: the owned may be read (an operand) -/
def den : E → Bool → Fm → M PV
  | .dead, _, _ => stk
  | .var i, o, r => match r.get i with
    | .sh v => ret v
    | .ow xs => if o then ret (.lst xs) else stk
    | .od kvs => if o then ret (.dct kvs) else stk
    | .no => stk
  | .int i, _, _ => ret (.int i)
  | .str x, _, _ => ret (.str x)
  | .bl b, _, _ => ret (.bl b)
  | .non, _, _ => ret .non
  | .gc j, _, _ => opt C[j]?
  | .fnv x, _, _ => ret (.fn x)
  | .tup es, _, r => bnd (denEs es r) fun vs => ret (.tup vs)
  | .lst es, _, r => bnd (denEs es r) fun vs => ret (.lst vs)
  | .lstR es, _, r => bnd (denEs es r) fun vs => fun s => .ok (.ref s.length) (s ++ [.lst vs])
  | .dnew, _, _ => ret (.dct [])
  | .d1 k v, _, r => bnd (den k false r) fun x => bnd (den v false r) fun y => if keyT x then ret (.dct [(x, y)]) else stk
  | .bin op a b, _, r => bnd (den a true r) fun x => bnd (den b true r) fun y => opt (binP op x y)
  | .cmp op a b, _, r => bnd (den a true r) fun x => bnd (den b true r) fun y => opt ((cmpP op x y).map .bl)
  | .chain op op' a b c, _, r => bnd (den a false r) fun x => bnd (den b false r) fun y => bnd (opt (cmpP op x y)) fun k =>
      if k then bnd (den c false r) fun z => opt ((cmpP op' y z).map .bl) else ret (.bl false)
  | .isN a, _, r => bnd (den a false r) fun x => ret (.bl (isNonP x))
  | .notN a, _, r => bnd (den a false r) fun x => ret (.bl (!isNonP x))
  | .and a b, _, r => tst (den a false r) fun k => if k then den b false r else ret (.bl false)
  | .or a b, _, r => tst (den a false r) fun k => if k then ret (.bl true) else den b false r
  | .not a, _, r => tst (den a false r) fun k => ret (.bl (!k))
  | .neg a, _, r => bnd (den a false r) fun x => match x with
    | .int i => ret (.int (-i))
    | _ => stk
  | .ite c a b, _, r => tst (den c false r) fun k => if k then den a false r else den b false r
  | .ix a b, _, r => bnd (den a true r) fun x => bnd (den b false r) fun y => fun s => opt (ixP s x y) s
  | .slLo a b, _, r => bnd (den a true r) fun x => bnd (den b false r) fun y => opt (slLoP x y)
  | .slHi a b, _, r => bnd (den a true r) fun x => bnd (den b false r) fun y => opt (slHiP x y)
  | .call j es, _, r => bnd (denEs es r) fun vs => getFn G j vs
  | .callv i es, _, r => match r.get i with
    | .sh (.fn x) => (match callP GV x with
      | some p => bnd (denEs es r) fun vs => callN p vs
      | none => stk)
    | _ => stk
  | .b1 op a, _, r => bnd (den a true r) fun x => opt (b1P op x)
  | .min2 a b, _, r => bnd (den a false r) fun x => bnd (den b false r) fun y => match x, y with
    | .int i, .int j => ret (.int (if j < i then j else i))
    | _, _ => stk
  | .max2 a b, _, r => bnd (den a false r) fun x => bnd (den b false r) fun y => match x, y with
    | .int i, .int j => ret (.int (if j > i then j else i))
    | _, _ => stk
  | .min2t a b, _, r => bnd (den a false r) fun x => bnd (den b false r) fun y => opt (if ordOk [x, y] then minP x [y] else none)
  | .isinst t a, _, r => bnd (den a true r) fun x => opt ((isTyP t x).map .bl)
  | .idx a b, _, r => bnd (den a true r) fun x => if seqX x then bnd (den b false r) fun y => opt (ixOf x y) else stk
  | .litget ps a d, _, r => bnd (den a false r) fun x => opt (litP ps d x)
  | .lrange a, _, r => bnd (den a false r) fun x => match x with
    | .int n => if -1000000 ≤ n ∧ n ≤ 1000000 then ret (.lst (rangeP 0 n.toNat)) else stk
    | _ => stk
  | .lzip a b, _, r => bnd (den a false r) fun x => bnd (den b false r) fun y => match x, y with
    | .lst xs, .lst ys => if xs.length ≤ LIM then ret (.lst (zipP xs ys)) else stk
    | _, _ => stk
  | .lc e t it c vs, _, r => bnd (denIt it true r) fun xs => noExc (bnd (lcGo (fun x => bnd (opt (bindT t x (r.wipe vs))) fun r2 => tst (den c false r2) fun k => if k then bnd (den e false r2) fun y => ret [y] else ret []) xs []) finL)
  | .lc2 e t it c t2 it2 c2 vs vs2, _, r => bnd (denIt it true r) fun xs => noExc (bnd (lcGo (fun x => bnd (opt (bindT t x (r.wipe vs))) fun r2 => tst (den c false r2) fun k => if k then
      bnd (denIt it2 false r2) fun zs => lcGo (fun z => bnd (opt (bindT t2 z (r2.wipe vs2))) fun r3 => tst (den c2 false r3) fun k => if k then bnd (den e false r3) fun y => ret [y] else ret []) zs [] else ret []) xs []) finL)
  | .dc k v t it c vs, _, r => bnd (denIt it true r) fun xs => noExc (bnd (dcGo (fun x => bnd (opt (bindT t x (r.wipe vs))) fun r2 => tst (den c false r2) fun b => if b then bnd (den k false r2) fun y => bnd (den v false r2) fun z => ret (some (y, z)) else ret none) xs []) finD)
  | .lam tab e, _, r => lamD tab (den e false r)
def denEs : Es → Fm → M (List PV)
  | .nil, _ => ret []
  | .cons e es, r => bnd (den e false r) fun v => bnd (denEs es r) fun vs => ret (v :: vs)
def denIt : It → Bool → Fm → M (List PV)
  | .seq e, o, r => bnd (den e o r) fun x => opt (seqP x)
  | .range1 a, _, r => bnd (den a false r) fun x => opt (rangeOf x)
  | .enum a, o, r => bnd (den a o r) fun x => opt (enumOf x)
  | .zip a b, o, r => bnd (den a o r) fun x => bnd (den b o r) fun y => opt (zipOf x y)
  | .items a, _, r => bnd (den a false r) fun x => opt (itemsOfD x)
  | .keys a, _, r => bnd (den a false r) fun x => opt (keysOfD x)
end
/-! statements -/
def ofV (x : PV) : Sl := match x with
  | .lst xs => .ow xs
  | .dct kvs => .od kvs
  | v => .sh v
def bndN (is : List Nat) (x : PV) (r : Fm) : Option Fm := match x with
  | .tup vs => bindNs is vs r
  | _ => none
def setSl (r : Fm) (i : Nat) (k v : PV) : M Fm := match r.get i with
  | .ow xs => (match k with
    | .int j => (match nrm xs.length j with
      | some n => ret (r.set i (.ow (xs.set n v)))
      | none => stk)
    | _ => stk)
  | .od kvs => if keyT k && kvs.length < LIM then ret (r.set i (.od (putP kvs k v))) else stk
  | .sh (.ref n) => (match k with
    | .int j => fun s => (match s[n]? with
      | some (.lst xs) => (match nrm xs.length j with
        | some m => .ok r (s.set n (.lst (xs.set m v)))
        | none => .stuck)
      | _ => .stuck)
    | _ => stk)
  | _ => stk
/-- a loop over items: f is the body -/
def forGo (f : PV → Fm → M Fl) : List PV → Fm → M Fl
  | [], r => ret (.nx r)
  | x :: xs, r => bnd (f x r) fun l => match l with
    | .nx r' => forGo f xs r'
    | .ct r' => forGo f xs r'
    | .bk r' => ret (.nx r')
    | .rt v => ret (.rt v)
def whGo (c : Fm → M PV) (f : Fm → M Fl) : Nat → Fm → M Fl
  | 0, _ => stk
  | n + 1, r => tst (c r) fun k => if k then bnd (f r) fun l => (match l with
    | .nx r' => whGo c f n r'
    | .ct r' => whGo c f n r'
    | .bk r' => ret (.nx r')
    | .rt v => ret (.rt v)) else ret (.nx r)
mutual
def denS : S → Fm → M Fl
  | .dead, _ => stk
  | .set i e, r => bnd (den G GV C e false r) fun v => ret (.nx (r.set i (.sh v)))
  | .setO i e, r => bnd (den G GV C e false r) fun v => ret (.nx (r.set i (ofV v)))
  | .setT is e, r => bnd (den G GV C e true r) fun v => bnd (opt (bndN is v r)) fun r' => ret (.nx r')
  | .setLcO j i e t c vs, r => match Fm.get r i with
    | .od kvs => bnd (noExc (bnd (lcGo (fun x => bnd (opt (bindT t x (Fm.wipe (r.set i .no) vs))) fun r2 => tst (den G GV C c false r2) fun k => if k then bnd (den G GV C e false r2) fun y => ret [y] else ret []) (kvs.map fun kv => .tup [kv.1, kv.2]) []) finL)) fun v => ret (.nx (r.set j (ofV v)))
    | _ => stk
  | .par is es, r => bnd (denEs G GV C es r) fun vs => bnd (opt (bindNs is vs r)) fun r' => ret (.nx r')
  | .parD i j e, r => bnd (den G GV C e false r) fun v => ret (.nx ((r.set i (.od [])).set j (.sh v)))
  | .parL i j e, r => bnd (den G GV C e false r) fun v => ret (.nx ((r.set i (.sh v)).set j (.ow [])))
  | .parO i j e e2, r => bnd (den G GV C e false r) fun v => bnd (den G GV C e2 false r) fun w => ret (.nx ((r.set i (ofV v)).set j (.sh w)))
  | .parO3 i j l e e2 e3, r => bnd (den G GV C e false r) fun v => bnd (den G GV C e2 false r) fun w => bnd (den G GV C e3 false r) fun z => ret (.nx (((r.set i (ofV v)).set j (.sh w)).set l (.sh z)))
  | .parOO i j l e e2 e3, r => bnd (den G GV C e false r) fun v => bnd (den G GV C e2 false r) fun w => bnd (den G GV C e3 false r) fun z => ret (.nx (((r.set i (ofV v)).set j (ofV w)).set l (.sh z)))
  | .setST i j k e, r => bnd (den G GV C e true r) fun v => match v with
    | .tup [p, .bl b] => if (Fm.get r i).isNo then stk else bnd (den G GV C k false r) fun y => bnd (setSl r i y p) fun r' => ret (.nx (r'.set j (.sh (.bl b))))
    | _ => stk
  | .app i e, r => match r.get i with
    | .ow xs => bnd (den G GV C e false r) fun v => if xs.length < LIM then ret (.nx (r.set i (.ow (xs ++ [v])))) else stk
    | _ => stk
  | .ext i e, r => match r.get i with
    | .ow xs => bnd (den G GV C e true r) fun v => match v with
      | .lst ys => if xs.length + ys.length ≤ LIM then ret (.nx (r.set i (.ow (xs ++ ys)))) else stk
      | _ => stk
    | _ => stk
  | .seti i k e, r => bnd (den G GV C e false r) fun v => if (r.get i).isNo then stk else bnd (den G GV C k false r) fun x => bnd (setSl r i x v) fun r' => ret (.nx r')
  | .expr e, r => bnd (den G GV C e false r) fun _ => ret (.nx r)
  | .retE e, r => bnd (den G GV C e false r) fun v => ret (.rt v)
  | .retN, _ => ret (.rt .non)
  | .ife c a b, r => tst (den G GV C c false r) fun k => if k then denSs a r else denSs b r
  | .for_ t it b, r => bnd (denIt G GV C it false r) fun xs => forGo (fun x r1 => bnd (opt (bindT t x r1)) fun r2 => denSs b r2) xs r
  | .while_ n c b, r => whGo (fun r1 => den G GV C c false r1) (fun r1 => denSs b r1) n r
  | .raise_ c, _ => fun s => .exc (.mk c []) s
  | .pass, r => ret (.nx r)
def denSs : Ss → Fm → M Fl
  | .nil, r => ret (.nx r)
  | .cons s ss, r => bnd (denS s r) fun l => match l with
    | .nx r' => denSs ss r'
    | .bk r' => ret (.bk r')
    | .ct r' => ret (.ct r')
    | .rt v => ret (.rt v)
  | .frz i ss, r => denSs ss (r.freeze i)
end
def endOf : Fl → M PV
  | .rt v => ret v
  | .nx _ => ret .non
  | _ => stk
/-- a def of n slots -/
def run (n : Nat) (b : Ss) : Den := fun args => bnd (denSs G GV C b (args.map .sh ++ List.replicate (n - args.length) .no)) endOf
end
end RP

/-! Fw1: how abstract values lie in the heap; the uniform judgements. Own work. -/
namespace RP
open PySem PySem.Spec PyProof.Rows L2

/-! ### dicts with tuple keys, as one object -/
mutual
/-- the key of a value that is a key -/
def nkey : PV → NestedKey
  | .non => .none
  | .int i => .num i
  | .str x => .text x
  | .tup xs => .tup (nkeys xs)
  | _ => .none
def nkeys : List PV → List NestedKey
  | [] => []
  | x :: xs => nkey x :: nkeys xs
end
/-- the dict at a bears these keys, where their tuples stand, and these values -/
def DctO (P : Program) (w : World) (a : Addr) (es : List (NestedKey × Addr × V)) : HO := .ext fun h =>
  es.length ≤ sizeLine ∧ (a == sysModules) = false ∧ ∃ xs : List (NestedKey × Addr × Value), Paired (fun (p : NestedKey × Addr × V) (q : NestedKey × Addr × Value) => p.1 = q.1 ∧ p.2.1 = q.2.1 ∧ RelV p.2.2 q.2.2) es xs ∧
    ∃ o ds ep, h.get? a = some o ∧ o.ExactDict ∧ o.data = .dict ds ep ∧ ds.toList = xs.map (entryOfKey (nestedKind P w)) ∧ (xs.map (·.1)).Nodup

/-- the fixed things: the program, the world, the written part, the module's names, the tables -/
structure Sy where
  P : Program
  w : World
  K : PySem.W.Frag
  mg : Str → Option Value
  T : List (Addr × Str)

mutual
/-- v is the abstract value, over the frozen objects G and the mutable ones m -/
inductive Rep (S : Sy) (G : Hp) (m : List Addr) : PV → V → Prop
  | non : Rep S G m .non .non
  | bl (b : Bool) : Rep S G m (.bl b) (.bl b)
  | int (i : Int) : Rep S G m (.int i) (.int i)
  | str (x : Str) : Rep S G m (.str x) (.str x)
  | tup {a : Addr} {xs : List PV} {vs : List V} (h : SqT S.K G a vs) (r : Reps S G m xs vs) : Rep S G m (.tup xs) (.ref a)
  | lst {a : Addr} {xs : List PV} {vs : List V} (h : G a = some (.lst vs)) (r : Reps S G m xs vs) : Rep S G m (.lst xs) (.ref a)
  | rol {a : Addr} {xs : List PV} {vs : List V} (h : SqL S.K G a vs) (r : Reps S G m xs vs) : Rep S G m (.rol xs) (.ref a)
  | tpx {a : Addr} {o : Obj} {xs : List PV} {vs : List V} (h : G a = some (.frz o (.tup vs))) (hd : o.dict = none) (r : Reps S G m xs vs) : Rep S G m (.tpx xs) (.ref a)
  | dct {a : Addr} {od : Obj} {kvs : List (PV × PV)} {es : List (NestedKey × Addr × V)} (h : G a = some (.frz od (DctO S.P S.w a es))) (r : RepsD S G m kvs es) : Rep S G m (.dct kvs) (.ref a)
  | ref {n : Nat} {a : Addr} (h : m[n]? = some a) : Rep S G m (.ref n) (.ref a)
  | fn {x : Str} {f : Addr} (h : S.mg x = some (.ref f)) : Rep S G m (.fn x) (.ref f)
inductive Reps (S : Sy) (G : Hp) (m : List Addr) : List PV → List V → Prop
  | nil : Reps S G m [] []
  | cons {x : PV} {xs : List PV} {v : V} {vs : List V} (h : Rep S G m x v) (r : Reps S G m xs vs) : Reps S G m (x :: xs) (v :: vs)
inductive RepsD (S : Sy) (G : Hp) (m : List Addr) : List (PV × PV) → List (NestedKey × Addr × V) → Prop
  | nil : RepsD S G m [] []
  | cons {k x : PV} {r : List (PV × PV)} {a : Addr} {v : V} {es : List (NestedKey × Addr × V)} (hk : keyT k = true) (h1 : Rep S G m k (.ref a)) (h2 : Rep S G m x v) (hr : RepsD S G m r es) : RepsD S G m ((k, x) :: r) ((nkey k, a, v) :: es)
end

section
variable {S : Sy} {G G' H : Hp} {m m' : List Addr}
theorem sqT_mono {K : PySem.W.Frag} {a : Addr} {vs : List V} (le : ∀ b o, G b = some o → G' b = some o) (h : SqT K G a vs) : SqT K G' a vs := by
  rcases h with (h | ⟨o, h⟩) | h
  · exact .inl (.inl (le _ _ h))
  · exact .inl (.inr ⟨o, le _ _ h⟩)
  · exact .inr h
theorem sqL_mono {K : PySem.W.Frag} {a : Addr} {vs : List V} (le : ∀ b o, G b = some o → G' b = some o) (h : SqL K G a vs) : SqL K G' a vs := by
  rcases h with (h | ⟨o, h⟩) | h
  · exact .inl (.inl (le _ _ h))
  · exact .inl (.inr ⟨o, le _ _ h⟩)
  · exact .inr h
mutual
theorem Rep.mono {x : PV} {v : V} (h : Rep S G m x v) (le : ∀ b o, G b = some o → G' b = some o) (lm : ∃ t, m' = m ++ t) : Rep S G' m' x v := by
  cases h with
  | non => exact .non
  | bl b => exact .bl b
  | int i => exact .int i
  | str x => exact .str x
  | tup h r => exact .tup (sqT_mono le h) (r.mono le lm)
  | lst h r => exact .lst (le _ _ h) (r.mono le lm)
  | rol h r => exact .rol (sqL_mono le h) (r.mono le lm)
  | tpx h hd r => exact .tpx (le _ _ h) hd (r.mono le lm)
  | dct h r => exact .dct (le _ _ h) (r.mono le lm)
  | ref h =>
    obtain ⟨t, e⟩ := lm
    subst e
    exact .ref (by rw [List.getElem?_append_left (List.getElem?_eq_some_iff.mp h).1]; exact h)
  | fn h => exact .fn h
theorem Reps.mono {x : List PV} {v : List V} (h : Reps S G m x v) (le : ∀ b o, G b = some o → G' b = some o) (lm : ∃ t, m' = m ++ t) : Reps S G' m' x v := by
  cases h with
  | nil => exact .nil
  | cons h r => exact .cons (h.mono le lm) (r.mono le lm)
theorem RepsD.mono {x : List (PV × PV)} {v : List (NestedKey × Addr × V)} (h : RepsD S G m x v) (le : ∀ b o, G b = some o → G' b = some o) (lm : ∃ t, m' = m ++ t) : RepsD S G' m' x v := by
  cases h with
  | nil => exact .nil
  | cons hk h1 h2 hr => exact .cons hk (h1.mono le lm) (h2.mono le lm) (hr.mono le lm)
end
theorem Reps.length : ∀ {xs : List PV} {vs : List V}, Reps S G m xs vs → xs.length = vs.length
  | _, _, .nil => rfl
  | _, _, .cons _ r => by rw [List.length_cons, List.length_cons, r.length]
theorem Reps.get : ∀ {xs : List PV} {vs : List V} {i : Nat} {x : PV}, Reps S G m xs vs → xs[i]? = some x → ∃ v, vs[i]? = some v ∧ Rep S G m x v
  | _, _, _, _, .nil, e => by simp at e
  | _, _, 0, _, .cons h _, e => by simp at e; subst e; exact ⟨_, rfl, h⟩
  | _, _, i + 1, x, .cons _ r, e => by
    obtain ⟨v, h1, h2⟩ := Reps.get (i := i) (x := x) r (by simpa using e)
    exact ⟨v, by simpa using h1, h2⟩
theorem Reps.get' : ∀ {xs : List PV} {vs : List V} {i : Nat} {v : V}, Reps S G m xs vs → vs[i]? = some v → ∃ x, xs[i]? = some x ∧ Rep S G m x v
  | _, _, _, _, .nil, e => by simp at e
  | _, _, 0, _, .cons h _, e => by simp at e; subst e; exact ⟨_, rfl, h⟩
  | _, _, i + 1, x, .cons _ r, e => by
    obtain ⟨v, h1, h2⟩ := Reps.get' (i := i) (v := x) r (by simpa using e)
    exact ⟨v, by simpa using h1, h2⟩
theorem Reps.append : ∀ {xs ys : List PV} {vs ws : List V}, Reps S G m xs vs → Reps S G m ys ws → Reps S G m (xs ++ ys) (vs ++ ws)
  | _, _, _, _, .nil, h => h
  | _, _, _, _, .cons a r, h => .cons a (Reps.append r h)
theorem Reps.take : ∀ {xs : List PV} {vs : List V} (n : Nat), Reps S G m xs vs → Reps S G m (xs.take n) (vs.take n)
  | _, _, 0, _ => by simp; exact .nil
  | _, _, _ + 1, .nil => .nil
  | _, _, n + 1, .cons h r => .cons h (Reps.take n r)
theorem Reps.drop : ∀ {xs : List PV} {vs : List V} (n : Nat), Reps S G m xs vs → Reps S G m (xs.drop n) (vs.drop n)
  | _, _, 0, h => h
  | _, _, _ + 1, .nil => .nil
  | _, _, n + 1, .cons _ r => Reps.drop n r
theorem Reps.set : ∀ {xs : List PV} {vs : List V} {x : PV} {v : V} (i : Nat), Rep S G m x v → Reps S G m xs vs → Reps S G m (xs.set i x) (vs.set i v)
  | _, _, _, _, _, _, .nil => .nil
  | _, _, _, _, 0, h, .cons _ r => .cons h r
  | _, _, _, _, i + 1, h, .cons a r => .cons a (Reps.set i h r)
theorem Reps.repN {xs : List PV} {vs : List V} (h : Reps S G m xs vs) : ∀ n, Reps S G m (repN xs n) (List.replicate n vs).flatten
  | 0 => .nil
  | n + 1 => by rw [List.replicate_succ, List.flatten_cons]; exact h.append (Reps.repN h n)
/-- an operand: what an owned list or dict bears, read off the heap itself -/
inductive RepO (S : Sy) (G : Hp) (m : List Addr) (H : Hp) : PV → V → Prop
  | rep {x : PV} {v : V} (h : Rep S G m x v) : RepO S G m H x v
  | lst {a : Addr} {xs : List PV} {vs : List V} (h : H a = some (.lst vs)) (hm : a ∉ m) (r : Reps S G m xs vs) : RepO S G m H (.lst xs) (.ref a)
  | dct {a : Addr} {kvs : List (PV × PV)} {es : List (NestedKey × Addr × V)} (h : H a = some (DctO S.P S.w a es)) (hm : a ∉ m) (r : RepsD S G m kvs es) : RepO S G m H (.dct kvs) (.ref a)
/-- a list or a dict by value -/
def isObjP : PV → Bool
  | .lst _ => true
  | .dct _ => true
  | _ => false
/-- a new list, a new dict, that nobody else holds, or another value; H₀: the heap ahead -/
inductive RepF (S : Sy) (G : Hp) (m : List Addr) (H₀ H : Hp) : PV → V → Prop
  | val {x : PV} {v : V} (hx : isObjP x = false) (h : Rep S G m x v) : RepF S G m H₀ H x v
  | lst {a : Addr} {xs : List PV} {vs : List V} (h : H a = some (.lst vs)) (hm : a ∉ m) (hg : G a = none) (hn : H₀ a = none) (r : Reps S G m xs vs) : RepF S G m H₀ H (.lst xs) (.ref a)
  | dct {a : Addr} {kvs : List (PV × PV)} {es : List (NestedKey × Addr × V)} (h : H a = some (DctO S.P S.w a es)) (hm : a ∉ m) (hg : G a = none) (hn : H₀ a = none) (r : RepsD S G m kvs es) : RepF S G m H₀ H (.dct kvs) (.ref a)
end

/-! ### the world at a moment -/
def ntbl (o : HO) : Prop := ∀ ps, o ≠ .tbl ps
/-- a mutable object -/
inductive ObjR (S : Sy) (G : Hp) (m : List Addr) (H : Hp) (a : Addr) : AObj → Prop
  | lst {xs : List PV} {vs : List V} (h : H a = some (.lst vs)) (r : Reps S G m xs vs) : ObjR S G m H a (.lst xs)
  | ins {c : Str} {C dx : Addr} {fs : List (Str × PV)} {vs : List V} (hc : S.mg c = some (.ref C)) (h : H a = some (.ins C dx ((fs.map (·.1)).zip vs))) (r : Reps S G m (fs.map (·.2)) vs) : ObjR S G m H a (.ins c fs)
structure Wd (S : Sy) (G : Hp) (m : List Addr) (s : AS) (H : Hp) : Prop where
  le : ∀ a o, G a = some o → H a = some o ∧ a ∉ m ∧ ntbl o
  len : s.length = m.length
  nd : m.Nodup
  obj : ∀ (n : Nat) (a : Addr) (o : AObj), m[n]? = some a → s[n]? = some o → ObjR S G m H a o
  tab : LamX.Tabs S.T H
/-- from one moment to a later one -/
structure Ext (m m' : List Addr) (G G' H H' : Hp) : Prop where
  le : ∀ a o, G a = some o → G' a = some o
  pre : ∃ t, m' = m ++ t
  newm : ∀ a, a ∈ m' → a ∈ m ∨ H a = none
  newG : ∀ a o, G' a = some o → G a = some o ∨ H a = none
  keep : ∀ a o, H a = some o → a ∉ m → ntbl o → H' a = some o
  dom : ∀ a, H' a = none → H a = none
section
variable {S : Sy} {G G' G2 H H' H2 : Hp} {m m' m2 : List Addr} {s s' : AS}
theorem Ext.refl : Ext m m G G H H := ⟨fun _ _ h => h, ⟨[], by simp⟩, fun _ h => .inl h, fun _ _ h => .inl h, fun _ _ h _ _ => h, fun _ h => h⟩
theorem Ext.trans (a : Ext m m' G G' H H') (b : Ext m' m2 G' G2 H' H2) : Ext m m2 G G2 H H2 where
  le := fun x o h => b.le x o (a.le x o h)
  pre := by
    obtain ⟨t, e⟩ := a.pre
    obtain ⟨u, e2⟩ := b.pre
    exact ⟨t ++ u, by rw [e2, e, List.append_assoc]⟩
  newm := fun x h => by
    rcases b.newm x h with z | z
    · exact a.newm x z
    · exact .inr (a.dom x z)
  newG := fun x o h => by
    rcases b.newG x o h with z | z
    · exact a.newG x o z
    · exact .inr (a.dom x z)
  keep := fun x o h hm hn => by
    refine b.keep x o (a.keep x o h hm hn) (fun z => ?_) hn
    rcases a.newm x z with q | q
    · exact hm q
    · rw [h] at q; cases q
  dom := fun x h => a.dom x (b.dom x h)
theorem Rep.ext {x : PV} {v : V} (h : Rep S G m x v) (e : Ext m m' G G' H H') : Rep S G' m' x v := h.mono e.le e.pre
theorem Reps.ext {x : List PV} {v : List V} (h : Reps S G m x v) (e : Ext m m' G G' H H') : Reps S G' m' x v := h.mono e.le e.pre
theorem RepsD.ext {x : List (PV × PV)} {v : List (NestedKey × Addr × V)} (h : RepsD S G m x v) (e : Ext m m' G G' H H') : RepsD S G' m' x v := h.mono e.le e.pre
theorem Ext.notm {a : Addr} {o : HO} (e : Ext m m' G G' H H') (h : H a = some o) (hm : a ∉ m) : a ∉ m' := fun z => by
  rcases e.newm a z with q | q
  · exact hm q
  · rw [h] at q; cases q
theorem Ext.notG {a : Addr} {o : HO} (e : Ext m m' G G' H H') (h : H a = some o) (hg : G a = none) : G' a = none := by
  cases q : G' a with
  | none => rfl
  | some u =>
    rcases e.newG a u q with z | z
    · rw [hg] at z; cases z
    · rw [h] at z; cases z
theorem ntbl_lst {xs : List V} : ntbl (.lst xs) := fun _ h => nomatch h
theorem ntbl_tup {xs : List V} : ntbl (.tup xs) := fun _ h => nomatch h
theorem ntbl_dct {P : Program} {w : World} {a : Addr} {es : List (NestedKey × Addr × V)} : ntbl (DctO P w a es) := fun _ h => nomatch h
theorem RepO.ext {x : PV} {v : V} (h : RepO S G m H x v) (e : Ext m m' G G' H H') : RepO S G' m' H' x v := by
  cases h with
  | rep h => exact .rep (h.ext e)
  | lst h hm r => exact .lst (e.keep _ _ h hm ntbl_lst) (e.notm h hm) (r.ext e)
  | dct h hm r => exact .dct (e.keep _ _ h hm ntbl_dct) (e.notm h hm) (r.ext e)

/-! ### a frame's slots -/
/-- what slot i holds -/
def SlotOk (S : Sy) (G : Hp) (m : List Addr) (H₀ H : Hp) (a : Addr) : Sl → Option (Option V) → Prop
  | .no, _ => True
  | .sh x, o => ∃ v, o = some (some v) ∧ Rep S G m x v
  | .ow xs, o => o = some (some (.ref a)) ∧ (∃ vs, H a = some (.lst vs) ∧ Reps S G m xs vs) ∧ a ∉ m ∧ G a = none ∧ H₀ a = none
  | .od kvs, o => o = some (some (.ref a)) ∧ (∃ es, H a = some (DctO S.P S.w a es) ∧ RepsD S G m kvs es) ∧ a ∉ m ∧ G a = none ∧ H₀ a = none
def Sl.owns : Sl → Bool
  | .ow _ => true
  | .od _ => true
  | _ => false
/-- H₀: the heap at the def's entry (what is owned is younger) -/
structure FmOk (S : Sy) (G : Hp) (m : List Addr) (H₀ H : Hp) (r : Fm) (σ : L2.St) : Prop where
  len : r.length = σ.length
  ex : ∃ oa : Nat → Addr, (∀ i, SlotOk S G m H₀ H (oa i) (r.get i) σ[i]?) ∧ ∀ i j, (r.get i).owns = true → (r.get j).owns = true → oa i = oa j → i = j
theorem SlotOk.ext {H₀ : Hp} {a : Addr} {x : Sl} {o : Option (Option V)} (h : SlotOk S G m H₀ H a x o) (e : Ext m m' G G' H H') : SlotOk S G' m' H₀ H' a x o := by
  cases x with
  | no => trivial
  | sh x =>
    obtain ⟨v, h1, h2⟩ := h
    exact ⟨v, h1, h2.ext e⟩
  | ow xs =>
    obtain ⟨h1, ⟨vs, h2, h3⟩, h4, h5, h6⟩ := h
    exact ⟨h1, ⟨vs, e.keep _ _ h2 h4 ntbl_lst, h3.ext e⟩, e.notm h2 h4, e.notG h2 h5, h6⟩
  | od xs =>
    obtain ⟨h1, ⟨vs, h2, h3⟩, h4, h5, h6⟩ := h
    exact ⟨h1, ⟨vs, e.keep _ _ h2 h4 ntbl_dct, h3.ext e⟩, e.notm h2 h4, e.notG h2 h5, h6⟩
theorem FmOk.ext {H₀ : Hp} {r : Fm} {σ : L2.St} (h : FmOk S G m H₀ H r σ) (e : Ext m m' G G' H H') : FmOk S G' m' H₀ H' r σ := by
  obtain ⟨l, oa, h1, h2⟩ := h
  exact ⟨l, oa, fun i => (h1 i).ext e, h2⟩

/-! ### exceptions -/
/-- the exception's class and own dict -/
def ExcR (S : Sy) (G : Hp) (m : List Addr) (H : Hp) : Exc → Value → Option Addr → Prop
  | .mk c fs, cls, d => ∃ C, S.mg c = some (.ref C) ∧ cls = .ref C ∧ match fs with
    | [] => d = none
    | _ => ∃ da vs, d = some da ∧ H da = some (.xd ((fs.map (·.1)).zip vs)) ∧ Reps S G m (fs.map (·.2)) vs

/-! ### the judgements -/
/-- how a result stands: a new object, a value that is shared, an operand -/
inductive Md where
  | F | E | O
/-- how results stand: H₀ the heap ahead -/
abbrev RT (α β : Type) := Hp → Hp → List Addr → Hp → α → β → Prop
def RepM (S : Sy) : Md → RT PV V
  | .F, H₀, G, m, H, x, v => RepF S G m H₀ H x v
  | .E, _, G, m, _, x, v => Rep S G m x v
  | .O, _, G, m, H, x, v => RepO S G m H x v
def RepB : RT Bool Bool := fun _ _ _ _ x b => x = b
def RepA (S : Sy) : RT (List PV) (List V) := fun _ G m _ xs vs => Reps S G m xs vs
def RT.Good {α β : Type} (R : RT α β) : Prop := ∀ (H₀ H₁ G : Hp) (m : List Addr) (H : Hp) (x : α) (v : β), (∀ a, H₁ a = none → H₀ a = none) → R H₁ G m H x v → R H₀ G m H x v
theorem good_M (S : Sy) (k : Md) : (RepM S k).Good := by
  intro H₀ H₁ G m H x v hd h
  cases k with
  | F =>
    cases h with
    | val hx h => exact .val hx h
    | lst h hm hg hn r => exact .lst h hm hg (hd _ hn) r
    | dct h hm hg hn r => exact .dct h hm hg (hd _ hn) r
  | E => exact h
  | O => exact h
theorem good_B : RepB.Good := fun _ _ _ _ _ _ _ _ h => h
theorem good_A (S : Sy) : (RepA S).Good := fun _ _ _ _ _ _ _ _ h => h
/-- what is wanted behind code that began at (G, m, H) -/
def Post {α β : Type} (S : Sy) (R : RT α β) (G : Hp) (m : List Addr) (H : Hp) (res : Res α) (Q : β → Hp → Prop) (W : XK) : Prop := match res with
  | .ok x s => ∀ G' m' H' v, Ext m m' G G' H H' → Wd S G' m' s H' → R H G' m' H' x v → Q v H'
  | .exc e s => ∀ G' m' H' cls d, Ext m m' G G' H H' → Wd S G' m' s H' → ExcR S G' m' H' e cls d → W cls d H'
  | .stuck => False
/-- code goes on: from the middle to the end -/
theorem Post.later {α β : Type} {R : RT α β} (hR : R.Good) {res : Res α} {Q : β → Hp → Prop} {W : XK} (e : Ext m m' G G' H H') (h : Post S R G m H res Q W) : Post S R G' m' H' res Q W := by
  cases res with
  | ok x s => exact fun G2 m2 H2 v e2 wd r => h G2 m2 H2 v (e.trans e2) wd (hR _ _ _ _ _ _ _ e.dom r)
  | exc x s => exact fun G2 m2 H2 c d e2 wd r => h G2 m2 H2 c d (e.trans e2) wd r
  | stuck => exact h
/-- one step of a chain -/
theorem Post.step {α β γ δ : Type} {R : RT α β} {R' : RT γ δ} (hR : R.Good) {x : M γ} {f : γ → M α} {s : AS} {Q : β → Hp → Prop} {W : XK} (h : Post S R G m H (bnd x f s) Q W)
    {Q' : δ → Hp → Prop} (k : ∀ a s1 G1 m1 H1 v, Ext m m1 G G1 H H1 → Wd S G1 m1 s1 H1 → R' H G1 m1 H1 a v → Post S R G1 m1 H1 (f a s1) Q W → Q' v H1) : Post S R' G m H (x s) Q' W := by
  unfold bnd at h
  cases e : x s with
  | ok a s1 =>
    rw [e] at h
    exact fun G1 m1 H1 v e1 wd r => k a s1 G1 m1 H1 v e1 wd r (Post.later hR e1 h)
  | exc x' s1 =>
    rw [e] at h
    exact h
  | stuck =>
    rw [e] at h
    exact h
theorem Post.ret {α β : Type} {R : RT α β} {a : α} {Q : β → Hp → Prop} {W : XK} {v : β} (wd : Wd S G m s H) (r : R H G m H a v) (h : Post S R G m H (ret a s) Q W) : Q v H := h G m H v Ext.refl wd r
theorem Post.imp {α β : Type} {R R' : RT α β} {res : Res α} {Q Q' : β → Hp → Prop} {W : XK} (h : Post S R G m H res Q W) (hR : ∀ G' m' H' x v s', res = .ok x s' → Ext m m' G G' H H' → Wd S G' m' s' H' → R' H G' m' H' x v → ∃ G2, Ext m m' G G2 H H' ∧ Wd S G2 m' s' H' ∧ R H G2 m' H' x v) (hQ : ∀ v H', Q v H' → Q' v H') : Post S R' G m H res Q' W := by
  cases res with
  | ok x s =>
    intro G' m' H' v e wd r
    obtain ⟨G2, e2, wd2, r2⟩ := hR G' m' H' x v s rfl e wd r
    exact hQ _ _ (h G2 m' H' v e2 wd2 r2)
  | exc x s => exact h
  | stuck => exact h

/-- a moment inside a def's body: the frame's slots too -/
def At (S : Sy) (G : Hp) (m : List Addr) (s : AS) (H₀ H : Hp) (r : Fm) (σ : L2.St) : Prop := Wd S G m s H ∧ FmOk S G m H₀ H r σ
/-- readings by a denotation -/
def tDen {α β : Type} (S : Sy) (R : RT α β) (W : XK) (d : Fm → M α) : L2.St → Hp → (β → Hp → Prop) → Prop := fun σ H Q => ∃ G m s H₀ r, At S G m s H₀ H r σ ∧ Post S R G m H (d r s) Q W
abbrev tD (S : Sy) (k : Md) (W : XK) (d : Fm → M PV) : TE := tDen S (RepM S k) W d
abbrev tDT (S : Sy) (W : XK) (d : Fm → M PV) : TT := tDen S RepB W fun r => tb (d r)
abbrev tDA (S : Sy) (W : XK) (d : Fm → M (List PV)) : TA := tDen S (RepA S) W d
end
theorem _root_.L2.PE.imp {X : Cx} {e : Expr} {t t' : TE} (h : PE X e t) (hi : ∀ σ H Q, t' σ H Q → t σ H Q) : PE X e t' := ⟨fun pins s σ H Q I hw => h.run pins s σ H Q I (hi σ H Q hw)⟩
theorem _root_.L2.PT.imp {X : Cx} {e : Expr} {t t' : TT} (h : PT X e t) (hi : ∀ σ H Q, t' σ H Q → t σ H Q) : PT X e t' := ⟨fun pins s σ H Q I hw => h.run pins s σ H Q I (hi σ H Q hw)⟩
theorem _root_.L2.PA.imp {X : Cx} {e : List Expr} {t t' : TA} (h : PA X e t) (hi : ∀ σ H Q, t' σ H Q → t σ H Q) : PA X e t' := ⟨fun pos pins s σ H Q I hw => h.run pos pins s σ H Q I (hi σ H Q hw)⟩
theorem _root_.L2.PS.imp {X : Cx} {e : Stmt} {t t' : TS} (h : PS X e t) (hi : ∀ D σ H, t' D σ H → t D σ H) : PS X e t' := ⟨fun pins s σ H D I hw => h.run pins s σ H D I (hi D σ H hw)⟩
theorem _root_.L2.PSs.imp {X : Cx} {e : List Stmt} {t t' : TS} (h : PSs X e t) (hi : ∀ D σ H, t' D σ H → t D σ H) : PSs X e t' := ⟨fun pins s σ H D I hw => h.run pins s σ H D I (hi D σ H hw)⟩

/-! ### from a new object to a shared value, to an operand -/
section
variable {S : Sy} {G G' H H' : Hp} {m m' : List Addr} {s : AS}
theorem freezeG {a : Addr} {o : HO} (wd : Wd S G m s H) (e : H a = some o) (hm : a ∉ m) (hn : ntbl o) (hg : G a = none) : (∀ b u, G b = some u → upd G a o b = some u) ∧ Wd S (upd G a o) m s H := by
  have le : ∀ b u, G b = some u → upd G a o b = some u := fun b u h => by rw [upd_ne (ne_of_none h hg)]; exact h
  refine ⟨le, fun b u h => ?_, wd.len, wd.nd, fun n b u h1 h2 => ?_, wd.tab⟩
  · by_cases hb : b = a
    · subst hb; rw [upd_same] at h; cases h; exact ⟨e, hm, hn⟩
    · rw [upd_ne hb] at h; exact wd.le b u h
  · cases wd.obj n b u h1 h2 with
    | lst h r => exact .lst h (r.mono le ⟨[], by simp⟩)
    | ins hc h r => exact .ins hc h (r.mono le ⟨[], by simp⟩)
theorem Ext.freeze {H₀ : Hp} {G₀ : Hp} {m₀ : List Addr} {a : Addr} {o : HO} (e : Ext m₀ m G₀ G H₀ H) (hn : H₀ a = none) (hg : G a = none) : Ext m₀ m G₀ (upd G a o) H₀ H where
  le := fun b u h => by
    have h' := e.le b u h
    rw [upd_ne (ne_of_none h' hg)]; exact h'
  pre := e.pre
  newm := e.newm
  newG := fun b u h => by
    by_cases hb : b = a
    · subst hb; exact .inr hn
    · rw [upd_ne hb] at h; exact e.newG b u h
  keep := e.keep
  dom := e.dom
theorem ntbl_frz {o : Obj} {u : HO} : ntbl (.frz o u) := fun _ h => nomatch h
/-- an object is frozen and locked: H changes at a alone -/
theorem lockG {a : Addr} {o o' : HO} (wd : Wd S G m s H) (e : H a = some o) (hm : a ∉ m) (hn : ntbl o') (ho : ntbl o) (hc : ∀ q, H a ≠ some (LamX.CodeO a q)) (hg : G a = none) : (∀ b u, G b = some u → upd G a o' b = some u) ∧ Wd S (upd G a o') m s (upd H a o') := by
  have le : ∀ b u, G b = some u → upd G a o' b = some u := fun b u h => by rw [upd_ne (ne_of_none h hg)]; exact h
  have kp : ∀ b u, b ≠ a → H b = some u → upd H a o' b = some u := fun b u hb h => by rw [upd_ne hb]; exact h
  refine ⟨le, fun b u h => ?_, wd.len, wd.nd, fun n b u h1 h2 => ?_, fun p hp => ?_⟩
  · by_cases hb : b = a
    · subst hb; rw [upd_same] at h; cases h; exact ⟨upd_same, hm, hn⟩
    · rw [upd_ne hb] at h; exact ⟨kp b u hb (wd.le b u h).1, (wd.le b u h).2⟩
  · have hb : b ≠ a := fun z => hm (z ▸ List.mem_of_getElem? h1)
    cases wd.obj n b u h1 h2 with
    | lst h r => exact .lst (kp _ _ hb h) (r.mono le ⟨[], by simp⟩)
    | ins hc h r => exact .ins hc (kp _ _ hb h) (r.mono le ⟨[], by simp⟩)
  · obtain ⟨ps, h1, h2, h3⟩ := wd.tab p hp
    refine ⟨ps, kp _ _ (fun z => by rw [z, e] at h1; cases h1; exact ho _ rfl) h1, h2, fun pos cv hcv => ?_⟩
    obtain ⟨c, e1, e2⟩ := h3 pos cv hcv
    exact ⟨c, e1, kp _ _ (fun z => hc _ (by rw [← z]; exact e2)) e2⟩
theorem Ext.lock {H₀ : Hp} {G₀ : Hp} {m₀ : List Addr} {a : Addr} {o : HO} (e : Ext m₀ m G₀ G H₀ H) (hn : H₀ a = none) (hg : G a = none) : Ext m₀ m G₀ (upd G a o) H₀ (upd H a o) where
  le := (e.freeze hn hg (o := o)).le
  pre := e.pre
  newm := e.newm
  newG := (e.freeze hn hg (o := o)).newG
  keep := fun b u h h1 h2 => by rw [upd_ne (ne_of_none h hn)]; exact e.keep b u h h1 h2
  dom := fun b h => by
    by_cases hb : b = a
    · subst hb; exact hn
    · rw [upd_ne hb] at h; exact e.dom b h
/-- a wish for a value, or for what one gets by locking the dict that it is -/
def LQ (P : Program) (w : World) (Q : VK) : VK := fun v H => Q v H ∨ ∃ a es, v = .ref a ∧ H a = some (DctO P w a es) ∧ ∀ od, (∀ q, H a ≠ some (LamX.CodeO a q)) → Q v (upd H a (.frz od (DctO P w a es)))
/-- what is new may be frozen -/
theorem Post.frozen {x : Res PV} {Q : VK} {W : XK} (h : Post S (RepM S .E) G m H x Q W) : Post S (RepM S .F) G m H x (LQ S.P S.w Q) W := by
  cases x with
  | ok x s' =>
    intro G' m' H' v e wd r
    cases r with
    | val hx r => exact .inl (h G' m' H' _ e wd r)
    | @lst a xs vs g hm hg hn r =>
      obtain ⟨le, wd'⟩ := freezeG wd g hm ntbl_lst hg
      exact .inl (h _ _ _ _ (e.freeze hn hg) wd' (.lst upd_same (r.mono le ⟨[], by simp⟩)))
    | @dct a kvs es g hm hg hn r =>
      refine .inr ⟨a, es, rfl, g, fun od hc => ?_⟩
      obtain ⟨le, wd'⟩ := lockG (o' := .frz od (DctO S.P S.w a es)) wd g hm ntbl_frz ntbl_dct hc hg
      exact h _ _ _ _ (e.lock hn hg) wd' (.dct upd_same (r.mono le ⟨[], by simp⟩))
  | exc x s => exact h
  | stuck => exact h
theorem Post.operand {x : Res PV} {Q : VK} {W : XK} (h : Post S (RepM S .O) G m H x Q W) : Post S (RepM S .E) G m H x Q W :=
  h.imp (fun G' m' H' x v s' _ e wd r => ⟨G', e, wd, .rep r⟩) fun _ _ q => q
end
theorem dct_code {X : Cx} {pins : List (Addr × Obj)} {s : Shared} {σ : L2.St} {H : Hp} {a : Addr} {es : List (NestedKey × Addr × V)} {q : Str} (I : Inv X pins σ H s) (h : H a = some (DctO X.prog X.w a es)) (h' : H a = some (LamX.CodeO a q)) : False := by
  obtain ⟨⟨_, _, _, _, o, ds, ep, e1, _, e3, _⟩, _⟩ := I.hok a _ h
  obtain ⟨⟨oc, vs, t, f1, f2, _⟩, _⟩ := I.hok a _ h'
  rw [e1] at f1
  cases f1
  rw [e3] at f2
  cases f2
theorem pe_lockv {X : Cx} {e : Expr} {t : TE} (h : PE X e t) : PE X e (fun σ H Q => t σ H (LQ X.prog X.w Q)) := by
  refine ⟨fun pins s σ H Q I hw => thn (h.run pins s σ H _ I hw) fun v s1 ⟨x, H1, I1, r1, q1⟩ => ?_⟩
  rcases q1 with q1 | ⟨a, es, rfl, g, q1⟩
  · exact ⟨x, H1, I1, r1, q1⟩
  · obtain ⟨od, I2⟩ := I1.lock g True.intro
    exact ⟨_, _, I2, r1, q1 od fun q z => dct_code I1 g z⟩
theorem toO {S : Sy} {X : Cx} {e : Expr} {W : XK} {d : Fm → M PV} (h : PE X e (tD S .E W d)) : PE X e (tD S .O W d) := h.imp fun σ H Q ⟨G, m, s, H₀, r, a, p⟩ => ⟨G, m, s, H₀, r, a, p.operand⟩
end RP

/-! Fw2: the operators on abstract values. Own work. -/
namespace RP
open PySem PySem.Spec PyProof.Rows L2

abbrev sy (X : Cx) (T : List (Addr × Str)) : Sy := ⟨X.prog, X.w, X.K, X.mg, T⟩

theorem toE {X : Cx} {T : List (Addr × Str)} {e : Expr} {W : XK} {d : Fm → M PV} (h : PE X e (tD (sy X T) .F W d)) : PE X e (tD (sy X T) .E W d) := (pe_lockv h).imp fun σ H Q ⟨G, m, s, H₀, r, a, p⟩ => ⟨G, m, s, H₀, r, a, p.frozen⟩
theorem LIM_le : LIM ≤ sizeLine := by rw [sizeLine_eq]; decide

section
variable {S : Sy} {G G' H H' : Hp} {m m' : List Addr} {s : AS} {p : Addr} {o : HO}
/-! ### a new object -/
theorem Wd.keep1 (wd : Wd S G m s H) (hp : H p = none) : ∀ b u, H b = some u → upd H p o b = some u := fun b u h => by rw [upd_ne (ne_of_none h hp)]; exact h
theorem Wd.mem (wd : Wd S G m s H) {a : Addr} (h : a ∈ m) : ∃ o, H a = some o := by
  obtain ⟨n, hn, e⟩ := List.getElem_of_mem h
  have hs : n < s.length := by rw [wd.len]; exact hn
  have := wd.obj n a s[n] (by rw [List.getElem?_eq_getElem hn, e]) (List.getElem?_eq_getElem hs)
  generalize s[n] = q at this
  cases this with
  | lst h _ => exact ⟨_, h⟩
  | ins _ h _ => exact ⟨_, h⟩
theorem ObjR.keep {a : Addr} {ob : AObj} (h : ObjR S G m H a ob) (k : ∀ b u, H b = some u → H' b = some u) : ObjR S G m H' a ob := by
  cases h with
  | lst h r => exact .lst (k _ _ h) r
  | ins hc h r => exact .ins hc (k _ _ h) r
theorem ObjR.mono {a : Addr} {ob : AObj} (h : ObjR S G m H a ob) (le : ∀ b o, G b = some o → G' b = some o) (lm : ∃ t, m' = m ++ t) : ObjR S G' m' H a ob := by
  cases h with
  | lst h r => exact .lst h (r.mono le lm)
  | ins hc h r => exact .ins hc h (r.mono le lm)
theorem Wd.new (wd : Wd S G m s H) (hp : H p = none) : Wd S G m s (upd H p o) :=
  ⟨fun a u h => ⟨wd.keep1 hp a u (wd.le a u h).1, (wd.le a u h).2⟩, wd.len, wd.nd, fun n a u h1 h2 => (wd.obj n a u h1 h2).keep (wd.keep1 hp), wd.tab.ext (wd.keep1 hp)⟩
theorem Wd.Gnone (wd : Wd S G m s H) (hp : H p = none) : G p = none := by
  cases q : G p with
  | none => rfl
  | some u => have := (wd.le p u q).1; rw [hp] at this; cases this
theorem Wd.mnone (wd : Wd S G m s H) (hp : H p = none) : p ∉ m := fun h => by
  obtain ⟨o, e⟩ := wd.mem h
  rw [hp] at e; cases e
theorem Wd.newExt (wd : Wd S G m s H) (hp : H p = none) : Ext m m G G H (upd H p o) where
  le := fun _ _ h => h
  pre := ⟨[], by simp⟩
  newm := fun _ h => .inl h
  newG := fun _ _ h => .inl h
  keep := fun a u h _ _ => wd.keep1 hp a u h
  dom := fun a h => by
    by_cases e : a = p
    · subst e; exact hp
    · rw [upd_ne e] at h; exact h
/-- a new object of no one's -/
theorem fin_new {k : Md} {x : PV} {Q : VK} {W : XK} (wd : Wd S G m s H) (h : Post S (RepM S .F) G m H (ret x s) Q W) (hp : H p = none) (r : RepF S G m H (upd H p o) x (.ref p)) : Q (.ref p) (upd H p o) :=
  h G m (upd H p o) (.ref p) (wd.newExt hp) (wd.new hp) r
/-- a new object, frozen at once -/
theorem fin_frz {x : PV} {Q : VK} {W : XK} (wd : Wd S G m s H) (h : Post S (RepM S .E) G m H (ret x s) Q W) (hp : H p = none) (hn : ntbl o) (r : Rep S (upd G p o) m x (.ref p)) : Q (.ref p) (upd H p o) := by
  obtain ⟨_, wd'⟩ := freezeG (wd.new hp) upd_same (wd.mnone hp) hn (wd.Gnone hp)
  exact h (upd G p o) m (upd H p o) (.ref p) ((wd.newExt hp).freeze hp (wd.Gnone hp)) wd' r
theorem fin_lst {xs : List PV} {vs : List V} {Q : VK} {W : XK} (wd : Wd S G m s H) (h : Post S (RepM S .F) G m H (ret (.lst xs) s) Q W) (hp : H p = none) (r : Reps S G m xs vs) : Q (.ref p) (upd H p (.lst vs)) :=
  fin_new (k := .F) wd h hp (.lst upd_same (wd.mnone hp) (wd.Gnone hp) hp r)
theorem fin_tup {xs : List PV} {vs : List V} {Q : VK} {W : XK} (wd : Wd S G m s H) (h : Post S (RepM S .E) G m H (ret (.tup xs) s) Q W) (hp : H p = none) (r : Reps S G m xs vs) : Q (.ref p) (upd H p (.tup vs)) :=
  fin_frz wd h hp ntbl_tup (.tup (.inl (.inl upd_same)) (r.mono (fun b u q => by rw [upd_ne (ne_of_none q (wd.Gnone hp))]; exact q) ⟨[], by simp⟩))
theorem fin_val {x : PV} {v : V} {Q : VK} {W : XK} (wd : Wd S G m s H) (h : Post S (RepM S .E) G m H (ret x s) Q W) (r : Rep S G m x v) : Q v H := h.ret wd r
/-! ### what an operand is -/
theorem RepO.int' {i : Int} {v : V} (h : RepO S G m H (.int i) v) : v = .int i := by cases h with | rep h => cases h; rfl
theorem RepO.bl' {i : Bool} {v : V} (h : RepO S G m H (.bl i) v) : v = .bl i := by cases h with | rep h => cases h; rfl
theorem RepO.str' {i : Str} {v : V} (h : RepO S G m H (.str i) v) : v = .str i := by cases h with | rep h => cases h; rfl
theorem RepO.non' {v : V} (h : RepO S G m H .non v) : v = .non := by cases h with | rep h => cases h; rfl
theorem RepO.tup' (wd : Wd S G m s H) {xs : List PV} {v : V} (h : RepO S G m H (.tup xs) v) : ∃ a vs, v = .ref a ∧ SqT S.K G a vs ∧ SqT S.K H a vs ∧ Reps S G m xs vs := by
  cases h with
  | rep h => cases h with | tup h r => exact ⟨_, _, rfl, h, sqT_mono (fun b o q => (wd.le b o q).1) h, r⟩
theorem RepO.lst' (wd : Wd S G m s H) {xs : List PV} {v : V} (h : RepO S G m H (.lst xs) v) : ∃ a vs, v = .ref a ∧ H a = some (.lst vs) ∧ a ∉ m ∧ Reps S G m xs vs := by
  cases h with
  | rep h => cases h with | lst h r => exact ⟨_, _, rfl, (wd.le _ _ h).1, (wd.le _ _ h).2.1, r⟩
  | lst h hm r => exact ⟨_, _, rfl, h, hm, r⟩
theorem RepO.rol' (wd : Wd S G m s H) {xs : List PV} {v : V} (h : RepO S G m H (.rol xs) v) : ∃ a vs, v = .ref a ∧ SqL S.K H a vs ∧ Reps S G m xs vs := by
  cases h with
  | rep h => cases h with | rol h r => exact ⟨_, _, rfl, sqL_mono (fun b o q => (wd.le b o q).1) h, r⟩
theorem RepO.tpx' (wd : Wd S G m s H) {xs : List PV} {v : V} (h : RepO S G m H (.tpx xs) v) : ∃ a vs o, v = .ref a ∧ H a = some (.frz o (.tup vs)) ∧ o.dict = none ∧ SqT S.K G a vs ∧ SqT S.K H a vs ∧ Reps S G m xs vs := by
  cases h with
  | rep h => cases h with | tpx h hd r => exact ⟨_, _, _, rfl, (wd.le _ _ h).1, hd, .inl (.inr ⟨_, h⟩), .inl (.inr ⟨_, (wd.le _ _ h).1⟩), r⟩
theorem RepO.dct' (wd : Wd S G m s H) {xs : List (PV × PV)} {v : V} (h : RepO S G m H (.dct xs) v) : ∃ a es, v = .ref a ∧ Rd H a (DctO S.P S.w a es) ∧ a ∉ m ∧ RepsD S G m xs es := by
  cases h with
  | rep h => cases h with | dct h r => exact ⟨_, _, rfl, .inr ⟨_, (wd.le _ _ h).1⟩, (wd.le _ _ h).2.1, r⟩
  | dct h hm r => exact ⟨_, _, rfl, .inl h, hm, r⟩

/-! ### data for == -/
def toD : PV → PyData
  | .non => .none
  | .bl b => .bool b
  | .int i => .int i
  | .str x => .str x
  | .tup xs => .tuple (toDs xs)
  | .lst xs => .list (toDs xs)
  | _ => .none
where toDs : List PV → List PyData
  | [] => []
  | x :: xs => toD x :: toDs xs
theorem eqS_iff {x y : Str} : eqS x y = decide (x = y) := by
  unfold eqS
  by_cases h : x = y
  · subst h; simp
  · rw [decide_eq_false h]
    rw [beq_eq_false_iff_ne]
    intro e
    apply h
    cases x; cases y
    simp only [Str.mk.injEq]
    exact Array.toList_inj.mp e
mutual
theorem eqv_toD : ∀ (n : Nat) (x y : PV), dat n x = true → dat n y = true → PyData.eqv (toD x) (toD y) = eqP x y
  | n, .non, y, _, hy => by cases y <;> simp_all [toD, PyData.eqv, eqP, dat]
  | n, .bl a, y, _, hy => by cases y <;> simp_all [toD, PyData.eqv, eqP, dat, b2i]
  | n, .int a, y, _, hy => by cases y <;> simp_all [toD, PyData.eqv, eqP, dat, b2i]
  | n, .str a, y, _, hy => by cases y <;> simp_all [toD, PyData.eqv, eqP, dat, eqS_iff, Bool.beq_eq_decide_eq]
  | 0, .tup a, y, hx, hy => by simp [dat] at hx
  | 0, .lst a, y, hx, hy => by simp [dat] at hx
  | n + 1, .tup a, .tup b, hx, hy => by
    simp only [toD, PyData.eqv, eqP, dat] at *
    exact eqv_toDs n a b hx hy
  | n + 1, .lst a, .lst b, hx, hy => by
    simp only [toD, PyData.eqv, eqP, dat] at *
    exact eqv_toDs n a b hx hy
  | n + 1, .tup a, .non, hx, hy | n + 1, .tup a, .bl _, hx, hy | n + 1, .tup a, .int _, hx, hy | n + 1, .tup a, .str _, hx, hy | n + 1, .tup a, .lst _, hx, hy => by simp [toD, PyData.eqv, eqP]
  | n + 1, .lst a, .non, hx, hy | n + 1, .lst a, .bl _, hx, hy | n + 1, .lst a, .int _, hx, hy | n + 1, .lst a, .str _, hx, hy | n + 1, .lst a, .tup _, hx, hy => by simp [toD, PyData.eqv, eqP]
  | n + 1, .tup a, .dct _, hx, hy | n + 1, .tup a, .ref _, hx, hy | n + 1, .tup a, .fn _, hx, hy | n + 1, .tup a, .rol _, hx, hy | n + 1, .tup a, .tpx _, hx, hy => by simp [dat] at hy
  | n + 1, .lst a, .dct _, hx, hy | n + 1, .lst a, .ref _, hx, hy | n + 1, .lst a, .fn _, hx, hy | n + 1, .lst a, .rol _, hx, hy | n + 1, .lst a, .tpx _, hx, hy => by simp [dat] at hy
  | n, .dct _, y, hx, _ | n, .ref _, y, hx, _ | n, .fn _, y, hx, _ | n, .rol _, y, hx, _ | n, .tpx _, y, hx, _ => by simp [dat] at hx
theorem eqv_toDs : ∀ (n : Nat) (x y : List PV), dats n x = true → dats n y = true → PyData.eqvAll (toD.toDs x) (toD.toDs y) = eqPs x y
  | n, [], [], _, _ => rfl
  | n, [], _ :: _, _, _ => rfl
  | n, _ :: _, [], _, _ => rfl
  | n, a :: as, b :: bs, hx, hy => by
    simp only [toD.toDs, PyData.eqvAll, eqPs, dats, Bool.and_eq_true] at *
    rw [eqv_toD n a b hx.1 hy.1, eqv_toDs n as bs hx.2 hy.2]
end
mutual
theorem shaped_toD : ∀ (n : Nat) (x : PV), dat n x = true → (toD x).canLay0 = true ∧ (toD x).depth ≤ n
  | n, .non, _ => ⟨rfl, Nat.zero_le _⟩
  | n, .bl _, _ => ⟨rfl, Nat.zero_le _⟩
  | n, .int _, _ => ⟨rfl, Nat.zero_le _⟩
  | n, .str x, h => by
    refine ⟨?_, Nat.zero_le _⟩
    simp only [dat, strFine, Bool.and_eq_true, decide_eq_true_eq, List.all_eq_true] at h
    show PyData.strOk x = true
    unfold PyData.strOk
    rw [← Array.all_toList, List.all_eq_true]
    intro c hc
    have := h.2 c hc
    simp only [decide_eq_true_eq]
    omega
  | 0, .tup a, h => by simp [dat] at h
  | 0, .lst a, h => by simp [dat] at h
  | n + 1, .tup a, h => by
    simp only [dat] at h
    obtain ⟨h1, h2⟩ := shaped_toDs n a h
    exact ⟨h1, by simp only [toD, PyData.depth]; omega⟩
  | n + 1, .lst a, h => by
    simp only [dat] at h
    obtain ⟨h1, h2⟩ := shaped_toDs n a h
    exact ⟨h1, by simp only [toD, PyData.depth]; omega⟩
  | n, .dct _, hx | n, .ref _, hx | n, .fn _, hx | n, .rol _, hx | n, .tpx _, hx => by simp [dat] at hx
theorem shaped_toDs : ∀ (n : Nat) (x : List PV), dats n x = true → PyData.canLayAll0 (toD.toDs x) = true ∧ PyData.depthAll (toD.toDs x) ≤ n
  | n, [], _ => ⟨rfl, Nat.zero_le _⟩
  | n, x :: xs, h => by
    simp only [dats, Bool.and_eq_true] at h
    obtain ⟨h1, h2⟩ := shaped_toD n x h.1
    obtain ⟨h3, h4⟩ := shaped_toDs n xs h.2
    refine ⟨by simp only [toD.toDs, PyData.canLayAll0, h1, h3, Bool.and_self], ?_⟩
    simp only [toD.toDs, PyData.depthAll]
    omega
end
theorem shaped_of {x : PV} (h : dat DEP x = true) : SeqAt.shaped (toD x) = true := by
  obtain ⟨h1, h2⟩ := shaped_toD DEP x h
  unfold SeqAt.shaped
  rw [h1, decide_eq_true (show (toD x).depth ≤ 64 from Nat.le_trans h2 (by decide))]
  rfl
mutual
theorem Rep.dp (wd : Wd S G m s H) : ∀ (n : Nat) (x : PV) (v : V), dat n x = true → Rep S G m x v → Dp S.K H v (toD x)
  | n, .non, _, _, h => by cases h; exact .non
  | n, .bl _, _, _, h => by cases h; exact .bl _
  | n, .int _, _, _, h => by cases h; exact .int _
  | n, .str _, _, _, h => by cases h; exact .str _
  | 0, .tup _, _, d, _ | 0, .lst _, _, d, _ => by simp [dat] at d
  | n + 1, .tup xs, _, d, h => by
    cases h with | tup h r =>
    simp only [dat] at d
    exact .tup (sqT_mono (fun b o q => (wd.le b o q).1) h) (Reps.dp wd n xs _ d r)
  | n + 1, .lst xs, _, d, h => by
    cases h with | lst h r =>
    simp only [dat] at d
    exact .lst (.inl (.inl (wd.le _ _ h).1)) (Reps.dp wd n xs _ d r)
  | n, .dct _, _, hx, _ | n, .ref _, _, hx, _ | n, .fn _, _, hx, _ | n, .rol _, _, hx, _ | n, .tpx _, _, hx, _ => by simp [dat] at hx
theorem Reps.dp (wd : Wd S G m s H) : ∀ (n : Nat) (x : List PV) (v : List V), dats n x = true → Reps S G m x v → DpAll S.K H v (toD.toDs x)
  | n, [], _, _, h => by cases h; exact .nil
  | n, x :: xs, _, d, h => by
    cases h with | cons h r =>
    simp only [dats, Bool.and_eq_true] at d
    exact .cons (Rep.dp wd n x _ d.1 h) (Reps.dp wd n xs _ d.2 r)
end
theorem RepO.dp (wd : Wd S G m s H) (n : Nat) {x : PV} {v : V} (d : dat n x = true) (h : RepO S G m H x v) : Dp S.K H v (toD x) := by
  cases h with
  | rep h => exact h.dp wd n _ _ d
  | lst h hm r =>
    cases n with
    | zero => simp [dat] at d
    | succ n =>
      simp only [dat] at d
      exact .lst (.inl (.inl h)) (r.dp wd n _ _ d)
  | dct h hm r => cases n <;> simp [dat] at d

/-! ### < of data -/
theorem ltCps_iff : ∀ a b : List Nat, ltCps a b = decide (a < b)
  | [], [] => by simp [ltCps]
  | [], b :: bs => by simp [ltCps]
  | a :: as, [] => by simp [ltCps]
  | a :: as, b :: bs => by
    unfold ltCps
    rw [ltCps_iff as bs]
    by_cases h : a = b
    · subst h; simp [List.cons_lt_cons_iff]
    · rw [if_neg h]
      by_cases h2 : a < b
      · simp [List.cons_lt_cons_iff, h2]
      · simp [List.cons_lt_cons_iff, h2, h]
theorem lex_of {e r : Nat → Bool} : ∀ (xs ys : List PV) (i : Nat) (k : Bool), ltPs xs ys = some k → (∀ j x y, xs[j]? = some x → ys[j]? = some y → e (i + j) = eqP x y) →
    (∀ j x y b, xs[j]? = some x → ys[j]? = some y → ltP x y = some b → r (i + j) = b) → Ob.lexAt e r (decide (xs.length < ys.length)) i (min xs.length ys.length) = k
  | [], [], i, k, h, _, _ => by simp [ltPs] at h; subst h; rfl
  | [], y :: ys, i, k, h, _, _ => by simp [ltPs] at h; subst h; simp [Ob.lexAt]
  | x :: xs, [], i, k, h, _, _ => by simp [ltPs] at h; subst h; simp [Ob.lexAt]
  | x :: xs, y :: ys, i, k, h, he, hr => by
    unfold ltPs at h
    cases q : ltPs xs ys with
    | none => rw [q] at h; cases h
    | some k' =>
      rw [q] at h
      simp only at h
      have ih := lex_of (e := e) (r := r) xs ys (i + 1) k' q (fun j a b h1 h2 => by have := he (j + 1) a b (by simpa using h1) (by simpa using h2); rw [← this]; congr 1; omega) (fun j a b c h1 h2 h3 => by have := hr (j + 1) a b c (by simpa using h1) (by simpa using h2) h3; rw [← this]; congr 1; omega)
      have hm : min (x :: xs).length (y :: ys).length = min xs.length ys.length + 1 := by simp only [List.length_cons]; omega
      rw [hm, Ob.lexAt_succ]
      have hl : decide ((x :: xs).length < (y :: ys).length) = decide (xs.length < ys.length) := by simp
      rw [hl]
      have e0 := he 0 x y rfl rfl
      rw [Nat.add_zero] at e0
      rw [e0]
      by_cases c : eqP x y = true
      · rw [if_pos c] at h ⊢
        cases h
        exact ih
      · rw [if_neg c] at h ⊢
        have r0 := hr 0 x y k rfl rfl h
        rw [Nat.add_zero] at r0
        exact r0
theorem reads_get {h : Heap} : ∀ {vs : List Value} {ds : List PyData} {as : List Addr} {j : Nat} {v : Value}, ReadsAll h vs ds as → vs[j]? = some v → ∃ d bs, ds[j]? = some d ∧ Reads h v d bs
  | _, _, _, _, _, .nil, e => by simp at e
  | _, _, _, 0, _, .cons r _, e => by simp at e; subst e; exact ⟨_, _, rfl, r⟩
  | _, _, _, j + 1, v, .cons _ t, e => by
    obtain ⟨d, bs, h1, h2⟩ := reads_get (j := j) (v := v) t (by simpa using e)
    exact ⟨d, bs, by simpa using h1, h2⟩
theorem toDs_get : ∀ {xs : List PV} {j : Nat} {d : PyData}, (toD.toDs xs)[j]? = some d → ∃ x, xs[j]? = some x ∧ d = toD x
  | [], _, _, e => by simp [toD.toDs] at e
  | x :: xs, 0, d, e => by simp [toD.toDs] at e; exact ⟨x, rfl, e.symm⟩
  | x :: xs, j + 1, d, e => by
    simp only [toD.toDs, List.getElem?_cons_succ] at e
    obtain ⟨y, h1, h2⟩ := toDs_get e
    exact ⟨y, by simpa using h1, h2⟩
theorem dats_get : ∀ {n : Nat} {xs : List PV} {j : Nat} {x : PV}, dats n xs = true → xs[j]? = some x → dat n x = true
  | _, [], _, _, _, e => by simp at e
  | _, x :: xs, 0, y, h, e => by simp [dats] at h e; subst e; exact h.1
  | _, x :: xs, j + 1, y, h, e => by simp [dats] at h; exact dats_get h.2 (by simpa using e)
theorem toDs_len : ∀ xs : List PV, (toD.toDs xs).length = xs.length
  | [] => rfl
  | x :: xs => by simp [toD.toDs, toDs_len xs]
theorem ltPs_get : ∀ {xs ys : List PV} {j : Nat} {x y : PV} {k : Bool}, ltPs xs ys = some k → xs[j]? = some x → ys[j]? = some y → eqP x y = false → ∃ b, ltP x y = some b
  | [], _, _, _, _, _, _, e, _, _ => by simp at e
  | _ :: _, [], _, _, _, _, _, _, e, _ => by simp at e
  | a :: as, b :: bs, j, x, y, k, h, e1, e2, ne => by
    unfold ltPs at h
    cases q : ltPs as bs with
    | none => rw [q] at h; cases h
    | some k' =>
      rw [q] at h
      simp only at h
      cases j with
      | zero =>
        simp at e1 e2
        subst e1 e2
        rw [if_neg (by rw [ne]; decide)] at h
        exact ⟨_, h⟩
      | succ j => exact ltPs_get q (by simpa using e1) (by simpa using e2) ne
theorem rc_lt : ∀ (n : Nat) (x y : PV) (A : Around) (s : Shared) (a b : Value) (as bs : List Addr) (k : Bool), dat n x = true → dat n y = true → Reads s.heap a (toD x) as → Reads s.heap b (toD y) bs → ltP x y = some k → A.units + n < cLine → Ob.RcOp .Lt A s a b k
  | n, .int i, y, A, s, a, b, as, bs, k, hx, hy, ra, rb, h, hu => by
    cases y with
    | int j => simp [ltP] at h; subst h; cases ra; cases rb; exact Ob.RcOp.lt_int _ _ _ _
    | _ => simp [ltP] at h
  | n, .str i, y, A, s, a, b, as, bs, k, hx, hy, ra, rb, h, hu => by
    cases y with
    | str j =>
      simp only [ltP, Option.some.injEq] at h
      subst h
      cases ra; cases rb
      intro prog w E Q q
      rw [ltCps_iff] at q
      exact PySem.P.lt_str q
    | _ => simp [ltP] at h
  | 0, .tup xs, y, A, s, a, b, as, bs, k, hx, hy, ra, rb, h, hu => by simp [dat] at hx
  | n + 1, .tup xs, y, A, s, a, b, as, bs, k, hx, hy, ra, rb, h, hu => by
    cases y with
    | tup ys =>
      simp only [ltP] at h
      simp only [dat] at hx hy
      simp only [toD] at ra rb
      cases ra with
      | tuple a1 a2 a3 a4 =>
      cases rb with
      | tuple b1 b2 b3 b4 =>
        rename_i aa oa vsa na ba ob vsb nb
        have la : vsa.size = xs.length := by
          have := SeqAt.ReadsAll.length _ _ _ a4
          rw [toDs_len] at this; simpa using this
        have lb : vsb.size = ys.length := by
          have := SeqAt.ReadsAll.length _ _ _ b4
          rw [toDs_len] at this; simpa using this
        let e : Nat → Bool := fun j => eqP (xs.getD j .non) (ys.getD j .non)
        let r : Nat → Bool := fun j => (ltP (xs.getD j .non) (ys.getD j .non)).getD false
        have hu' : A.in1.units + n < cLine := by show A.units + 1 + n < _; omega
        have key : ∀ j (h1 : j < vsa.size) (h2 : j < vsb.size), ∃ x y ca cb, xs[j]? = some x ∧ ys[j]? = some y ∧ Reads s.heap vsa[j] (toD x) ca ∧ Reads s.heap vsb[j] (toD y) cb := by
          intro j h1 h2
          obtain ⟨d1, ca, q1, q2⟩ := reads_get (j := j) (v := vsa[j]) a4 (by simp [h1])
          obtain ⟨d2, cb, q3, q4⟩ := reads_get (j := j) (v := vsb[j]) b4 (by simp [h2])
          obtain ⟨x, e1, rfl⟩ := toDs_get q1
          obtain ⟨y, e2, rfl⟩ := toDs_get q3
          exact ⟨x, y, ca, cb, e1, e2, q2, q4⟩
        have R := Ob.RcOp.tuples_lt (A := A) (s := s) (e := e) (r := r) ⟨oa, a1, a2, na, a3⟩ ⟨ob, b1, b2, nb, b3⟩ (by omega) (fun j h1 h2 => by
          obtain ⟨x, y, ca, cb, e1, e2, q1, q2⟩ := key j h1 h2
          have dx := dats_get hx e1
          have dy := dats_get hy e2
          obtain ⟨cx, px⟩ := shaped_toD n x dx
          obtain ⟨cy, py⟩ := shaped_toD n y dy
          have z := SeqAt.eqAt_reads (toD x) (toD y) A.in1 s _ _ _ _ q1 q2 cx cy (by have : min (toD x).depth (toD y).depth ≤ n := Nat.le_trans (Nat.min_le_left _ _) px; omega)
          have ej : e j = eqP x y := by simp [e, e1, e2]
          rw [ej, ← eqv_toD n x y dx dy]
          exact z) (fun j h1 h2 ne => by
          obtain ⟨x, y, ca, cb, e1, e2, q1, q2⟩ := key j h1 h2
          have dx := dats_get hx e1
          have dy := dats_get hy e2
          have ej : e j = eqP x y := by simp [e, e1, e2]
          rw [ej] at ne
          obtain ⟨c, hc⟩ := ltPs_get h e1 e2 ne
          have rj : r j = c := by simp [r, e1, e2, hc]
          rw [rj]
          exact rc_lt n x y A.in1 s _ _ _ _ c dx dy q1 q2 hc hu')
        rw [la, lb, lex_of xs ys 0 k h (fun j x y h1 h2 => by simp [e, h1, h2]) (fun j x y b h1 h2 h3 => by simp [r, h1, h2, h3])] at R
        exact R
    | _ => simp [ltP] at h
  | n, .non, y, A, s, a, b, as, bs, k, hx, hy, ra, rb, h, hu | n, .bl _, y, A, s, a, b, as, bs, k, hx, hy, ra, rb, h, hu | n, .lst _, y, A, s, a, b, as, bs, k, hx, hy, ra, rb, h, hu | n, .rol _, y, A, s, a, b, as, bs, k, hx, hy, ra, rb, h, hu | n, .tpx _, y, A, s, a, b, as, bs, k, hx, hy, ra, rb, h, hu
  | n, .dct _, y, A, s, a, b, as, bs, k, hx, hy, ra, rb, h, hu | n, .ref _, y, A, s, a, b, as, bs, k, hx, hy, ra, rb, h, hu | n, .fn _, y, A, s, a, b, as, bs, k, hx, hy, ra, rb, h, hu => by simp [ltP] at h
end
end RP

/-! Fw2m: tuple * 1 is the tuple itself. Own work (lines of HandS.TupMul's rule turned to it). -/
namespace RP
open PySem PySem.Spec PyProof.Rows L2
open AutoSeq1 (wpAny_loadPart')
theorem tuple_mul1W (l : Addr) (items : Array Value) (n : Nat) (dd : Option Addr) (sl : Array (Option Value)) (x : Int) (u : Tok) (c0 : (decide (x < -(2 ^ 63)) || decide (x ≥ 2 ^ 63)) = false) (c1 : (items.isEmpty || x == 1) = true) :
    Meets (Builtin.«tuple.__mul__» ⟨[.ref l, .int x u], []⟩) (fun _ R s => s.heap.get? l = some { cls := .type "tuple", dict := dd, data := .seq items n, slots := sl } ∧ R (.ok (.ret (Value.ref l))) { s with heap := s.heap, toks := s.toks }) :=
  .of_wp fun prog w A R s h => by
    obtain ⟨hp, g, d, tk, os⟩ := s
    obtain ⟨hl, h⟩ := h
    have f1 := AutoSeq1.idx_int
    wp_walk using wpAny_loadPart' hl
    repeat (first
      | (refine wpAny_ite_false (decide_eq_false (by rw [c0]; exact Bool.false_ne_true)) ?_; wp_walk using wpAny_loadPart' hl)
      | (refine wpAny_ite_true (decide_eq_true c1) ?_; wp_walk using wpAny_loadPart' hl))
    exact ⟨_, rfl, h⟩
def rRepT1 (K : PySem.W.Frag) : R2 := fun x y H Q => ∃ l xs, x = .ref l ∧ y = .int 1 ∧ SqT K H l xs ∧ Q (.ref l) H
section
variable {X : Cx}
theorem op_repT1 : OpR X (binaryOp .Mult) (rRepT1 X.K) := by
  intro pins s σ H x y v u Q I rx ry h
  obtain ⟨l, xs, rfl, rfl, hT, q⟩ := h
  cases rx
  obtain ⟨t, rfl⟩ := ry
  obtain ⟨its, r, ⟨⟨cls, dd, data, sl⟩, ho, hc, n, hd⟩, hs⟩ := I.tuple hT
  simp only at hc hd
  subst hc hd
  exact wpAny_binaryOp_repeat_ref (T := "tuple") (U := "int") (by decide) ⟨_, ho, rfl⟩ (fun s' => typeIs_int s' 1 t) noFill_tuple_mul F.fills_int_mul F.slot_int_rmul repeat_tuple F.slot_int_index.lookup
    (call_meets F.slot_int_rmul (typeIs_int s 1 t) F.entry_int_rmul (F.args_int_rmul_2 _ _) (int_rmul_tuple 1 t l its.toArray n dd sl)
      ⟨ho, rfl, ⟨_, ho, rfl⟩, call_meets F.slot_tuple_mul ⟨_, ho, rfl⟩ F.entry_tuple_mul (F.args_tuple_mul_2 _ _) (tuple_mul1W l its.toArray n dd sl 1 t (by decide) (by simp)) ⟨ho, ⟨.ref l, H, I, rfl, q⟩⟩⟩)
end
end RP

/-! Fw3: operators on abstract values, as rules. Own work. -/
namespace RP
open PySem PySem.Spec PyProof.Rows L2

/-- no exception -/
abbrev W0 : XK := fun _ _ _ => False
/-- a two-place operation on abstract values -/
def rO2 (S : Sy) (k : Md) (f : PV → PV → Option PV) : R2 := fun x y H Q => ∃ G m s a b, Wd S G m s H ∧ RepO S G m H a x ∧ RepO S G m H b y ∧ Post S (RepM S k) G m H (opt (f a b) s) Q W0
def opOf : BO → Operator
  | .add => .Add
  | .sub => .Sub
  | .mul => .Mult
  | .mod => .Mod
  | .fdiv => .FloorDiv
  | .pow => .Pow
section
variable {X : Cx} {T : List (Addr × Str)}
section
variable {S : Sy} {G H : Hp} {m : List Addr} {s : AS} {k : Md}
theorem post_none {x : Option PV} {Q : VK} {W : XK} (e : x = none) (h : Post S (RepM S k) G m H (opt x s) Q W) : False := by subst e; exact h
theorem post_int {i : Int} {Q : VK} {W : XK} (wd : Wd S G m s H) (h : Post S (RepM S .F) G m H (ret (.int i) s) Q W) : Q (.int i) H := h.ret wd (.val rfl (.int i))
theorem post_bl {i : Bool} {Q : VK} {W : XK} (wd : Wd S G m s H) (h : Post S (RepM S .F) G m H (ret (.bl i) s) Q W) : Q (.bl i) H := h.ret wd (.val rfl (.bl i))
theorem post_frz {x : PV} {Q : VK} {W : XK} {p : Addr} {o : HO} (wd : Wd S G m s H) (hx : isObjP x = false) (h : Post S (RepM S .F) G m H (ret x s) Q W) (hp : H p = none) (hn : ntbl o) (r : Rep S (upd G p o) m x (.ref p)) : Q (.ref p) (upd H p o) := by
  obtain ⟨_, wd'⟩ := freezeG (wd.new hp) upd_same (wd.mnone hp) hn (wd.Gnone hp)
  exact h (upd G p o) m (upd H p o) (.ref p) ((wd.newExt hp).freeze hp (wd.Gnone hp)) wd' (.val hx r)
theorem post_tup {xs : List PV} {vs : List V} {Q : VK} {W : XK} {p : Addr} (wd : Wd S G m s H) (h : Post S (RepM S .F) G m H (ret (.tup xs) s) Q W) (hp : H p = none) (r : Reps S G m xs vs) : Q (.ref p) (upd H p (.tup vs)) :=
  post_frz wd rfl h hp ntbl_tup (.tup (.inl (.inl upd_same)) (r.mono (fun b u q => by rw [upd_ne (ne_of_none q (wd.Gnone hp))]; exact q) ⟨[], by simp⟩))
end
theorem op_binP (op : BO) : OpR X (binaryOp (opOf op)) (rO2 (sy X T) .F (binP op)) := by
  intro pins s σ H x y v u Q I rx ry h
  obtain ⟨G, m, st, a, b, wd, ra, rb, h⟩ := h
  have dead : binP op a b = none → wpAny (model X.prog X.w) X.A (binaryOp (opOf op) v u) (EP X pins σ Q) X.xe s := fun e => (post_none e h).elim
  cases op with
  | add =>
    cases a with
    | int i =>
      cases b with
      | int j =>
        obtain rfl := ra.int'
        obtain rfl := rb.int'
        exact op_add pins s σ H _ _ v u Q I rx ry ⟨i, j, rfl, rfl, post_int wd h⟩
      | _ => exact dead rfl
    | tup xs =>
      cases b with
      | tup ys =>
        obtain ⟨a, vs, rfl, ga, ha, r1⟩ := ra.tup' wd
        obtain ⟨b, ws, rfl, gb, hb, r2⟩ := rb.tup' wd
        by_cases hl : xs.length + ys.length ≤ LIM
        · have e : binP .add (.tup xs) (.tup ys) = some (.tup (xs ++ ys)) := by simp only [binP]; rw [if_pos hl]
          rw [e] at h
          refine op_catA pins s σ H _ _ v u Q I rx ry ⟨a, b, vs, ws, rfl, rfl, ha, hb, ?_, fun z => ?_, fun _ z => ?_, fun _ _ p hp => post_tup wd h hp (r1.append r2)⟩
          · rw [← r1.length, ← r2.length]; exact Nat.le_trans hl LIM_le
          · subst z
            have : xs = [] := by cases r1; rfl
            subst this
            exact h.ret wd (.val rfl (.tup gb r2))
          · subst z
            have : ys = [] := by cases r2; rfl
            subst this
            rw [List.append_nil] at h
            exact h.ret wd (.val rfl (.tup ga r1))
        · exact dead (by simp only [binP]; rw [if_neg hl])
      | _ => exact dead rfl
    | lst xs =>
      cases b with
      | lst ys =>
        obtain ⟨a, vs, rfl, ha, _, r1⟩ := ra.lst' wd
        obtain ⟨b, ws, rfl, hb, _, r2⟩ := rb.lst' wd
        by_cases hl : xs.length + ys.length ≤ LIM
        · have e : binP .add (.lst xs) (.lst ys) = some (.lst (xs ++ ys)) := by simp only [binP]; rw [if_pos hl]
          rw [e] at h
          exact op_cat pins s σ H _ _ v u Q I rx ry ⟨a, b, vs, ws, rfl, rfl, ha, hb, by rw [← r1.length, ← r2.length]; exact Nat.le_trans hl LIM_le, fun p hp => fin_lst wd h hp (r1.append r2)⟩
        · exact dead (by simp only [binP]; rw [if_neg hl])
      | _ => exact dead rfl
    | _ => exact dead rfl
  | sub =>
    cases a with
    | int i =>
      cases b with
      | int j =>
        obtain rfl := ra.int'
        obtain rfl := rb.int'
        exact op_sub pins s σ H _ _ v u Q I rx ry ⟨i, j, rfl, rfl, post_int wd h⟩
      | _ => exact dead rfl
    | _ => exact dead rfl
  | mul =>
    cases a with
    | int i =>
      cases b with
      | int j =>
        obtain rfl := ra.int'
        obtain rfl := rb.int'
        by_cases hw : (wide i && wide j) = true
        · have e : binP .mul (.int i) (.int j) = some (.int (i * j)) := by simp only [binP]; rw [if_pos hw]
          rw [e] at h
          simp only [wide, Bool.and_eq_true, decide_eq_true_eq] at hw
          exact op_mulW pins s σ H _ _ v u Q I rx ry ⟨i, j, rfl, rfl, wide_mul hw.1 hw.2 (by decide) (by decide) (by decide), post_int wd h⟩
        · exact dead (by simp only [binP]; rw [if_neg hw])
      | _ => exact dead rfl
    | tup xs =>
      cases b with
      | int j =>
        obtain ⟨a, vs, rfl, ga, ha, r1⟩ := ra.tup' wd
        obtain rfl := rb.int'
        by_cases hw : xs.isEmpty = false ∧ xs.length ≤ 1000 ∧ 1 ≤ j ∧ j ≤ 1000
        · have e : binP .mul (.tup xs) (.int j) = some (.tup (repN xs j.toNat)) := by simp only [binP]; rw [if_pos hw]
          rw [e] at h
          obtain ⟨h1, h2, h3, h4⟩ := hw
          by_cases h5 : j = 1
          · subst h5
            refine op_repT1 pins s σ H _ _ v u Q I rx ry ⟨a, vs, rfl, rfl, ha, ?_⟩
            have z : repN xs (1 : Int).toNat = xs := List.append_nil xs
            rw [z] at h
            exact h.ret wd (.val rfl (.tup ga r1))
          · exact op_repT pins s σ H _ _ v u Q I rx ry ⟨a, j, vs, rfl, rfl, ha, fun z => by
              subst z
              cases r1
              simp at h1, by omega, h4, by rw [← r1.length]; exact h2, fun p hp => post_tup wd h hp (r1.repN _)⟩
        · exact dead (by simp only [binP]; rw [if_neg hw])
      | _ => exact dead rfl
    | lst xs =>
      cases b with
      | int j =>
        obtain ⟨a, vs, rfl, ha, _, r1⟩ := ra.lst' wd
        obtain rfl := rb.int'
        by_cases hw : (decide (xs.length * j.toNat ≤ LIM) && small j) = true
        · have e : binP .mul (.lst xs) (.int j) = some (.lst (repN xs j.toNat)) := by
            simp only [binP]
            rw [if_pos (by simpa using hw)]
          rw [e] at h
          simp only [small, Bool.and_eq_true, decide_eq_true_eq] at hw
          exact op_rep pins s σ H _ _ v u Q I rx ry ⟨a, j, vs, rfl, rfl, ha, by omega, by omega, by rw [← r1.length]; exact Nat.le_trans hw.1 LIM_le, fun p hp => fin_lst wd h hp (r1.repN _)⟩
        · exact dead (by simp only [binP]; rw [if_neg (by simpa using hw)])
      | _ => exact dead rfl
    | _ => exact dead rfl
  | mod =>
    cases a with
    | int i =>
      cases b with
      | int j =>
        obtain rfl := ra.int'
        obtain rfl := rb.int'
        by_cases hw : 0 < j
        · have e : binP .mod (.int i) (.int j) = some (.int (i % j)) := by simp only [binP]; rw [if_pos hw]
          rw [e] at h
          exact op_mod pins s σ H _ _ v u Q I rx ry ⟨i, j, rfl, rfl, hw, post_int wd h⟩
        · exact dead (by simp only [binP]; rw [if_neg hw])
      | _ => exact dead rfl
    | _ => exact dead rfl
  | fdiv =>
    cases a with
    | int i =>
      cases b with
      | int j =>
        obtain rfl := ra.int'
        obtain rfl := rb.int'
        by_cases hw : 0 < j ∧ j < 1073741824
        · have e : binP .fdiv (.int i) (.int j) = some (.int (i / j)) := by simp only [binP]; rw [if_pos hw]
          rw [e] at h
          exact op_fdiv pins s σ H _ _ v u Q I rx ry ⟨i, j, rfl, rfl, hw, post_int wd h⟩
        · exact dead (by simp only [binP]; rw [if_neg hw])
      | _ => exact dead rfl
    | _ => exact dead rfl
  | pow =>
    cases a with
    | int i =>
      cases b with
      | int j =>
        obtain rfl := ra.int'
        obtain rfl := rb.int'
        by_cases hw : 0 ≤ j ∧ j ≤ 100 ∧ i.natAbs < 100
        · have e : binP .pow (.int i) (.int j) = some (.int (i ^ j.toNat)) := by simp only [binP]; rw [if_pos hw]
          rw [e] at h
          exact op_pow pins s σ H _ _ v u Q I rx ry ⟨i, j, rfl, rfl, ⟨hw.1, by omega, by omega⟩, post_int wd h⟩
        · exact dead (by simp only [binP]; rw [if_neg hw])
      | _ => exact dead rfl
    | _ => exact dead rfl
end
end RP

/-! Fw4: dicts with tuple keys; comparisons. Own work. -/
namespace RP
open PySem PySem.Spec PyProof.Rows L2

/-! ### keys -/
mutual
theorem nkey_eq : ∀ (n : Nat) (x y : PV), keyOk n x = true → keyOk n y = true → decide (nkey x = nkey y) = PV.beq x y
  | n, .non, y, _, hy => by cases y <;> simp_all [nkey, PV.beq, keyOk]
  | n, .int a, y, _, hy => by cases y <;> simp_all [nkey, PV.beq, keyOk, Bool.beq_eq_decide_eq]
  | n, .str a, y, _, hy => by cases y <;> simp_all [nkey, PV.beq, keyOk, eqS_iff]
  | 0, .tup a, y, hx, hy => by simp [keyOk] at hx
  | n + 1, .tup a, .tup b, hx, hy => by
    simp only [nkey, PV.beq, keyOk] at *
    rw [← nkeys_eq n a b hx hy]
    simp
  | n + 1, .tup a, .non, hx, hy | n + 1, .tup a, .int _, hx, hy | n + 1, .tup a, .str _, hx, hy => by simp [nkey, PV.beq]
  | n + 1, .tup a, .bl _, hx, hy | n + 1, .tup a, .lst _, hx, hy | n + 1, .tup a, .rol _, hx, hy | n + 1, .tup a, .tpx _, hx, hy | n + 1, .tup a, .dct _, hx, hy | n + 1, .tup a, .ref _, hx, hy | n + 1, .tup a, .fn _, hx, hy => by simp [keyOk] at hy
  | n, .bl _, y, hx, _ | n, .lst _, y, hx, _ | n, .rol _, y, hx, _ | n, .tpx _, y, hx, _ | n, .dct _, y, hx, _ | n, .ref _, y, hx, _ | n, .fn _, y, hx, _ => by simp [keyOk] at hx
theorem nkeys_eq : ∀ (n : Nat) (x y : List PV), keyOks n x = true → keyOks n y = true → decide (nkeys x = nkeys y) = PV.beqs x y
  | n, [], [], _, _ => by simp [nkeys, PV.beqs]
  | n, [], _ :: _, _, _ => by simp [nkeys, PV.beqs]
  | n, _ :: _, [], _, _ => by simp [nkeys, PV.beqs]
  | n, a :: as, b :: bs, hx, hy => by
    simp only [keyOks, Bool.and_eq_true] at hx hy
    simp only [nkeys, PV.beqs, ← nkey_eq n a b hx.1 hy.1, ← nkeys_eq n as bs hx.2 hy.2, List.cons.injEq]
    by_cases h : nkey a = nkey b <;> simp [h]
end
theorem keyT_key {x : PV} (h : keyT x = true) : keyOk 8 x = true := by unfold keyT at h; rw [Bool.and_eq_true] at h; exact h.2
theorem nkey_iff {x y : PV} (hx : keyT x = true) (hy : keyT y = true) : (nkey x = nkey y) ↔ PV.beq x y = true := by
  rw [← nkey_eq 8 x y (keyT_key hx) (keyT_key hy), decide_eq_true_eq]
mutual
theorem nkey_depth : ∀ (n : Nat) (x : PV), keyOk n x = true → (nkey x).depth ≤ n
  | n, .non, _ | n, .int _, _ | n, .str _, _ => Nat.zero_le _
  | 0, .tup a, hx => by simp [keyOk] at hx
  | n + 1, .tup a, hx => by
    simp only [keyOk] at hx
    have := nkeys_depth n a hx
    simp only [nkey, NestedKey.depth]
    omega
  | n, .bl _, hx | n, .lst _, hx | n, .rol _, hx | n, .tpx _, hx | n, .dct _, hx | n, .ref _, hx | n, .fn _, hx => by simp [keyOk] at hx
theorem nkeys_depth : ∀ (n : Nat) (x : List PV), keyOks n x = true → NestedKey.depthAll (nkeys x) ≤ n
  | n, [], _ => Nat.zero_le _
  | n, x :: xs, h => by
    simp only [keyOks, Bool.and_eq_true] at h
    have h1 := nkey_depth n x h.1
    have h2 := nkeys_depth n xs h.2
    simp only [nkeys, NestedKey.depthAll]
    omega
end
section
variable {X : Cx} {T : List (Addr × Str)} {pins : List (Addr × Obj)} {σ : L2.St} {H G : Hp} {m : List Addr} {s : Shared} {st : AS}
mutual
theorem nested_of (I : Inv X pins σ H s) (le : ∀ b o, G b = some o → H b = some o) : ∀ (n : Nat) (x : PV) (v : V) (u : Value), keyOk n x = true → Rep (sy X T) G m x v → RelV v u → NestedIs s.heap (nkey x) u
  | n, .non, _, _, _, h, r => by cases h; cases r; exact .none
  | n, .int i, _, _, _, h, r => by cases h; obtain ⟨t, rfl⟩ := r; exact .int i t
  | n, .str i, _, _, _, h, r => by cases h; obtain ⟨t, rfl⟩ := r; exact .text i t
  | 0, .tup a, _, _, hx, _, _ => by simp [keyOk] at hx
  | n + 1, .tup a, _, _, hx, h, r => by
    cases h with | tup h rs =>
    cases r
    simp only [keyOk] at hx
    obtain ⟨its, rv, ⟨o, e, hc, k, hd⟩, _⟩ := I.tuple (sqT_mono le h)
    exact .tup e hc hd (nesteds_of I le n a _ its hx rs rv)
  | n, .bl _, _, _, hx, _, _ | n, .lst _, _, _, hx, _, _ | n, .rol _, _, _, hx, _, _ | n, .tpx _, _, _, hx, _, _ | n, .dct _, _, _, hx, _, _ | n, .ref _, _, _, hx, _, _ | n, .fn _, _, _, hx, _, _ => by simp [keyOk] at hx
theorem nesteds_of (I : Inv X pins σ H s) (le : ∀ b o, G b = some o → H b = some o) : ∀ (n : Nat) (x : List PV) (v : List V) (u : List Value), keyOks n x = true → Reps (sy X T) G m x v → Vals v u → NestedAll s.heap (nkeys x) u
  | n, [], _, _, _, h, r => by cases h; cases r; exact .nil
  | n, x :: xs, _, _, hx, h, r => by
    simp only [keyOks, Bool.and_eq_true] at hx
    cases h with | cons h hs =>
    cases r with | cons r rs =>
    exact .cons (nested_of I le n x _ _ hx.1 h r) (nesteds_of I le n xs _ _ hx.2 hs rs)
end
theorem key_is (I : Inv X pins σ H s) (le : ∀ b o, G b = some o → H b = some o) {x : PV} {a : Addr} (hk : keyT x = true) (h : Rep (sy X T) G m x (.ref a)) : (nestedKind X.prog X.w).is s.heap (nkey x) a :=
  ⟨nested_of I le 8 x _ _ (keyT_key hk) h rfl, nkey_depth 8 x (keyT_key hk)⟩
/-- how the entries' values lie -/
abbrev EsAre : List (NestedKey × Addr × V) → List (NestedKey × Addr × Value) → Prop := Paired fun p q => p.1 = q.1 ∧ p.2.1 = q.2.1 ∧ RelV p.2.2 q.2.2
theorem es_is (I : Inv X pins σ H s) (le : ∀ b o, G b = some o → H b = some o) : ∀ {kvs : List (PV × PV)} {es : List (NestedKey × Addr × V)} {xs : List (NestedKey × Addr × Value)}, RepsD (sy X T) G m kvs es → EsAre es xs →
    ∀ x ∈ xs, (nestedKind X.prog X.w).is s.heap x.1 x.2.1
  | _, _, _, .nil, .nil, _, hx => by simp at hx
  | _, _, _, .cons hk h1 h2 hr, .cons q t, x, hx => by
    rcases List.mem_cons.mp hx with z | z
    · subst z
      obtain ⟨q1, q2, _⟩ := q
      simp only at q1 q2
      rw [← q1, ← q2]
      exact key_is I le hk h1
    · exact es_is I le hr t x z
def _root_.L2.HO.elim' : HO → Heap → Prop
  | .ext f, h => f h
  | _, _ => True
theorem dct_of (I : Inv X pins σ H s) (le : ∀ b o, G b = some o → H b = some o) {a : Addr} {kvs : List (PV × PV)} {es : List (NestedKey × Addr × V)} (h : Rd H a (DctO X.prog X.w a es)) (r : RepsD (sy X T) G m kvs es) :
    es.length ≤ sizeLine ∧ (a == sysModules) = false ∧ ∃ xs, EsAre es xs ∧ s.heap.DictOfH (nestedKind X.prog X.w) a xs := by
  have key : (DctO X.prog X.w a es).elim' s.heap := by
    rcases h with h | ⟨o, h⟩
    · exact (I.hok a _ h).1
    · exact (I.hok a _ h).2.1
  obtain ⟨hl, hs, xs, rx, o, ds, ep, e1, e2, e3, e4, e5⟩ := key
  exact ⟨hl, hs, xs, rx, o, ds, ep, e1, e2, e3, e4, es_is I le r rx, e5⟩
theorem atKey_cons (p : NestedKey × Addr × Value) (xs : List (NestedKey × Addr × Value)) (k : NestedKey) : atKey (p :: xs) k = if p.1 = k then some p.2 else atKey xs k := by
  unfold atKey
  by_cases h : p.1 = k
  · simp [h]
  · simp [h]
/-- the look-up -/
theorem look_of {S : Sy} {k : PV} (hk : keyT k = true) : ∀ {kvs : List (PV × PV)} {es : List (NestedKey × Addr × V)} {xs : List (NestedKey × Addr × Value)}, RepsD S G m kvs es → EsAre es xs →
    (∀ x, lookP k kvs = some x → ∃ b u v, atKey xs (nkey k) = some (b, u) ∧ Rep S G m x v ∧ RelV v u) ∧ (lookP k kvs = none → atKey xs (nkey k) = none)
  | _, _, _, .nil, .nil => ⟨fun _ h => by simp [lookP] at h, fun _ => rfl⟩
  | _, _, _, .cons (k := k') hk' h1 h2 hr, .cons q t => by
    obtain ⟨q1, q2, q3⟩ := q
    obtain ⟨ih1, ih2⟩ := look_of hk hr t
    simp only at q1 q2 q3
    rw [atKey_cons, ← q1]
    unfold lookP
    by_cases c : PV.beq k' k = true
    · rw [if_pos ((nkey_iff hk' hk).mpr c)]
      simp only [c, if_true]
      exact ⟨fun x e => by cases e; exact ⟨_, _, _, rfl, h2, q3⟩, fun e => nomatch e⟩
    · rw [if_neg (fun z => c ((nkey_iff hk' hk).mp z))]
      simp only [c]
      exact ⟨ih1, ih2⟩
theorem any_of {S : Sy} {k : PV} (hk : keyT k = true) : ∀ {kvs : List (PV × PV)} {es : List (NestedKey × Addr × V)} {xs : List (NestedKey × Addr × Value)}, RepsD S G m kvs es → EsAre es xs →
    (atKey xs (nkey k)).isSome = kvs.any fun kv => PV.beq kv.1 k
  | _, _, _, .nil, .nil => rfl
  | _, _, _, .cons (k := k') hk' h1 h2 hr, .cons q t => by
    obtain ⟨q1, q2, q3⟩ := q
    have ih := any_of hk hr t
    simp only at q1 q2 q3
    rw [atKey_cons, ← q1, List.any_cons]
    by_cases c : PV.beq k' k = true
    · rw [if_pos ((nkey_iff hk' hk).mpr c)]
      simp [c]
    · rw [if_neg (fun z => c ((nkey_iff hk' hk).mp z)), ih]
      simp [c]
theorem RepsD.length {S : Sy} : ∀ {kvs : List (PV × PV)} {es : List (NestedKey × Addr × V)}, RepsD S G m kvs es → kvs.length = es.length
  | _, _, .nil => rfl
  | _, _, .cons _ _ _ r => by rw [List.length_cons, List.length_cons, r.length]
/-- the store -/
theorem put_map {S : Sy} {k x : PV} {v : V} {u : Value} (hk : keyT k = true) (rx : Rep S G m x v) (rv : RelV v u) : ∀ {kvs : List (PV × PV)} {es : List (NestedKey × Addr × V)} {xs : List (NestedKey × Addr × Value)}, RepsD S G m kvs es → EsAre es xs →
    ∃ es', RepsD S G m (kvs.map fun kv => if PV.beq kv.1 k then (kv.1, x) else kv) es' ∧ EsAre es' (xs.map (putAt (nkey k) u)) ∧ es'.length = es.length
  | _, _, _, .nil, .nil => ⟨[], .nil, .nil, rfl⟩
  | _, _, _, .cons (k := k') (a := a) (v := v') hk' h1 h2 hr, .cons q t => by
    obtain ⟨q1, q2, q3⟩ := q
    obtain ⟨es', r1, r2, r3⟩ := put_map hk rx rv hr t
    simp only at q1 q2 q3
    by_cases c : PV.beq k' k = true
    · refine ⟨(nkey k', a, v) :: es', ?_, ?_, by simp [r3]⟩
      · simp only [List.map_cons, c, if_true]
        exact .cons hk' h1 rx r1
      · rw [List.map_cons]
        unfold putAt
        rw [if_pos (by rw [← q1]; exact (nkey_iff hk' hk).mpr c)]
        exact .cons ⟨q1, q2, rv⟩ r2
    · refine ⟨(nkey k', a, v') :: es', ?_, ?_, by simp [r3]⟩
      · simp only [List.map_cons, c]
        exact .cons hk' h1 h2 r1
      · rw [List.map_cons]
        unfold putAt
        rw [if_neg (by rw [← q1]; exact fun z => c ((nkey_iff hk' hk).mp z))]
        exact .cons ⟨q1, q2, q3⟩ r2
theorem RepsD.append {S : Sy} : ∀ {a b : List (PV × PV)} {x y : List (NestedKey × Addr × V)}, RepsD S G m a x → RepsD S G m b y → RepsD S G m (a ++ b) (x ++ y)
  | _, _, _, _, .nil, h => h
  | _, _, _, _, .cons hk h1 h2 hr, h => .cons hk h1 h2 (RepsD.append hr h)
theorem paired_append {α β : Type} {R : α → β → Prop} : ∀ {a b : List α} {x y : List β}, Paired R a x → Paired R b y → Paired R (a ++ b) (x ++ y)
  | _, _, _, _, .nil, h => h
  | _, _, _, _, .cons q t, h => .cons q (paired_append t h)
theorem put_of {S : Sy} {k x : PV} {b : Addr} {v : V} {u : Value} (hk : keyT k = true) (rk : Rep S G m k (.ref b)) (rx : Rep S G m x v) (rv : RelV v u) {kvs : List (PV × PV)} {es : List (NestedKey × Addr × V)} {xs : List (NestedKey × Addr × Value)} (r : RepsD S G m kvs es) (e : EsAre es xs) :
    ∃ es', RepsD S G m (putP kvs k x) es' ∧ EsAre es' (storedH xs (nkey k) b u) ∧ es'.length ≤ es.length + 1 := by
  have ha := any_of hk r e
  unfold putP storedH
  rw [ha]
  by_cases c : (kvs.any fun kv => PV.beq kv.1 k) = true
  · rw [if_pos c, if_pos c]
    obtain ⟨es', r1, r2, r3⟩ := put_map hk rx rv r e
    exact ⟨es', r1, r2, by omega⟩
  · rw [if_neg c, if_neg c]
    exact ⟨es ++ [(nkey k, b, v)], r.append (.cons hk rk rx .nil), paired_append e (.cons ⟨rfl, rfl, rv⟩ .nil), by simp⟩
/-- d[k] = v, an owned dict -/
theorem dct_put {A : Around} {E : Value → Shared → Prop} {Q : Unit → Shared → Prop} (hu : A.units + 9 < cLine) (I : Inv X pins σ H s) (le : ∀ b o, G b = some o → H b = some o) {a b : Addr} {k x : PV} {v : V} {u : Value} {kvs : List (PV × PV)} {es : List (NestedKey × Addr × V)}
    (h : H a = some (DctO X.prog X.w a es)) (hz : es.length < sizeLine) (r : RepsD (sy X T) G m kvs es) (hk : keyT k = true) (rk : Rep (sy X T) G m k (.ref b)) (rx : Rep (sy X T) G m x v) (rv : RelV v u)
    (hq : ∀ es' s', Inv X pins σ (upd H a (DctO X.prog X.w a es')) s' → RepsD (sy X T) G m (putP kvs k x) es' → es'.length ≤ es.length + 1 → Q () s') : wpAny (model X.prog X.w) A (setItem (.ref a) (.ref b) u) Q E s := by
  obtain ⟨hl, hs, xs, ex, hd⟩ := dct_of I le (.inl h) r
  have hlen : es.length = xs.length := Paired.length ex
  refine wpAny_setItem_heap (hsz := by omega) (show A.units + 1 + 8 < cLine by omega) (key_is I le hk rk) hd fun h' hd' sb => ?_
  obtain ⟨es', r1, r2, r3⟩ := put_of hk rk rx rv r ex
  refine hq es' _ ?_ r1 r3
  obtain ⟨o, ds, ep, e1, e2, e3, e4, e5, e6⟩ := hd'
  refine d_write I (by rw [h]; exact True.intro) sb ⟨o, e1⟩ ?_
  refine ⟨⟨by omega, hs, _, r2, o, ds, ep, e1, e2, e3, e4, e6⟩, ⟨o, e1⟩, fun h1 h2 q st => ?_⟩
  obtain ⟨q1, q2, ys, q3, o', ds', ep', q4, q5⟩ := q
  exact ⟨q1, q2, ys, q3, o', ds', ep', st _ q4, q5⟩
/-- d[k] -/
theorem dct_get {A : Around} {E : Value → Shared → Prop} {Q : Value → Shared → Prop} (hu : A.units + 9 < cLine) (I : Inv X pins σ H s) (le : ∀ b o, G b = some o → H b = some o) {a b : Addr} {k x : PV} {kvs : List (PV × PV)} {es : List (NestedKey × Addr × V)}
    (h : Rd H a (DctO X.prog X.w a es)) (r : RepsD (sy X T) G m kvs es) (hk : keyT k = true) (rk : Rep (sy X T) G m k (.ref b)) (hx : lookP k kvs = some x)
    (hq : ∀ v u s', Inv X pins σ H s' → Rep (sy X T) G m x v → RelV v u → Q u s') : wpAny (model X.prog X.w) A (getItem (.ref a) (.ref b)) Q E s := by
  obtain ⟨hl, hs, xs, ex, hd⟩ := dct_of I le h r
  obtain ⟨c, u, v, e1, e2, e3⟩ := (look_of hk r ex).1 x hx
  exact wpAny_getItem_heap (show A.units + 1 + 8 < cLine by omega) (key_is I le hk rk) hd e1 (hq v u _ (I.tok _) e2 e3)
theorem dct_in {A : Around} {E : Value → Shared → Prop} {Q : Value → Shared → Prop} (hu : A.units + 9 < cLine) (I : Inv X pins σ H s) (le : ∀ b o, G b = some o → H b = some o) {a b : Addr} {k : PV} {kvs : List (PV × PV)} {es : List (NestedKey × Addr × V)}
    (h : Rd H a (DctO X.prog X.w a es)) (r : RepsD (sy X T) G m kvs es) (hk : keyT k = true) (rk : Rep (sy X T) G m k (.ref b)) (neg : Bool)
    (hq : ∀ s', Inv X pins σ H s' → Q (.bool (if neg then !(kvs.any fun kv => PV.beq kv.1 k) else kvs.any fun kv => PV.beq kv.1 k)) s') : wpAny (model X.prog X.w) A (compareOp (if neg then .NotIn else .In) (.ref b) (.ref a)) Q E s := by
  obtain ⟨hl, hs, xs, ex, hd⟩ := dct_of I le h r
  have ha := any_of hk r ex
  have hq := hq { s with toks := s.toks + (nestedKind X.prog X.w).draws (nkey k) } (I.tok _)
  rw [← ha] at hq
  cases neg with
  | false => exact wpAny_in_heap (show A.units + 1 + 8 < cLine by omega) (key_is I le hk rk) hs hd hq
  | true =>
    have hm : s.heap.DictKeyed (nestedKind X.prog X.w) a (pairsH xs) := ⟨xs, hd, rfl⟩
    refine notIn_keyed (show A.units + 1 + 8 < cLine by omega) (key_is I le hk rk) hs hm ?_
    rw [valueAt_pairsH, Option.isSome_map]
    exact hq
end
end RP

/-! Fw5: comparisons, subscripts, slices, built-ins. Own work. -/
namespace RP
open PySem PySem.Spec PyProof.Rows L2

def copOf : CO → CmpOp
  | .eq => .Eq
  | .ne => .NotEq
  | .lt => .Lt
  | .le => .LtE
  | .gt => .Gt
  | .ge => .GtE
  | .isin => .In
  | .notin => .NotIn
theorem any_toDs {n : Nat} {x : PV} (hx : dat n x = true) : ∀ ys : List PV, dats n ys = true → ((toD.toDs ys).any fun z => PyData.eqv z (toD x)) = ys.any fun y => eqP y x
  | [], _ => rfl
  | y :: ys, h => by
    simp only [dats, Bool.and_eq_true] at h
    simp only [toD.toDs, List.any_cons, eqv_toD n y x h.1 hx, any_toDs hx ys h.2]
section
variable {X : Cx} {T : List (Addr × Str)}
theorem room_in (A : Around) (d : PyData) (n : Nat) (hd : SeqAt.shaped d = true) (hu : A.units + 200 < cLine) : A.units + 1 + min n d.depth < cLine := by
  have h1 := SeqAt.depth_of_shaped hd
  have h2 : min n d.depth ≤ d.depth := Nat.min_le_right _ _
  omega
/-- x in a list or a tuple -/
theorem op_inseq (hu : X.A.units + 200 < cLine) (neg : Bool) {pins : List (Addr × Obj)} {s : Shared} {σ : L2.St} {H G : Hp} {m : List Addr} {st : AS} {a b : PV} {x y : V} {v u : Value} {Q : VK} (I : Inv X pins σ H s) (rx : L2.RelV x v) (ry : L2.RelV y u)
    (wd : Wd (sy X T) G m st H) (ra : RepO (sy X T) G m H a x) (rb : RepO (sy X T) G m H b y) (ys : List PV) (hb : b = .lst ys ∨ b = .tup ys) (da : dat DEP a = true) (dy : dats DEP ys = true)
    (q : Q (.bl (if neg then !(ys.any fun y => eqP y a) else ys.any fun y => eqP y a)) H) : wpAny (model X.prog X.w) X.A (compareOp (if neg then .NotIn else .In) v u) (EP X pins σ Q) X.xe s := by
  obtain ⟨as, r1⟩ := Dp.reads I _ _ _ (ra.dp wd DEP da) rx
  have s1 := shaped_of da
  have e := any_toDs da ys dy
  obtain ⟨hc, _⟩ := shaped_toDs DEP ys dy
  have dty : dat (DEP + 1) b = true := by rcases hb with rfl | rfl <;> exact dy
  obtain ⟨bs, r2⟩ := Dp.reads I _ _ _ (rb.dp wd (DEP + 1) dty) ry
  rcases hb with rfl | rfl
  · cases neg with
    | false => exact SeqAt.in_list_reads r2 r1 hc (SeqAt.canLay_of_shaped s1) (room_in _ _ _ s1 hu) ⟨.bl _, H, I, by rw [e]; rfl, q⟩
    | true => exact SeqAt.notIn_list_reads r2 r1 hc (SeqAt.canLay_of_shaped s1) (room_in _ _ _ s1 hu) ⟨.bl _, H, I, by rw [e]; rfl, q⟩
  · cases neg with
    | false => exact SeqAt.in_tuple_reads r2 r1 hc (SeqAt.canLay_of_shaped s1) (room_in _ _ _ s1 hu) ⟨.bl _, H, I, by rw [e]; rfl, q⟩
    | true => exact SeqAt.notIn_tuple_reads r2 r1 hc (SeqAt.canLay_of_shaped s1) (room_in _ _ _ s1 hu) ⟨.bl _, H, I, by rw [e]; rfl, q⟩
theorem op_isin (hu : X.A.units + 200 < cLine) (neg : Bool) : OpR X (compareOp (if neg then .NotIn else .In)) (rO2 (sy X T) .F fun a b => ((isinP a b).map fun k => if neg then !k else k).map .bl) := by
  intro pins s σ H x y v u Q I rx ry h
  obtain ⟨G, m, st, a, b, wd, ra, rb, h⟩ := h
  dsimp only at h
  have dead : isinP a b = none → wpAny (model X.prog X.w) X.A (compareOp (if neg then .NotIn else .In) v u) (EP X pins σ Q) X.xe s := fun e => (post_none (by rw [e]; rfl) h).elim
  cases b with
  | lst ys =>
    by_cases c : (dat DEP a && datS ys) = true
    · have e : isinP a (.lst ys) = some (ys.any fun y => eqP y a) := by simp only [isinP]; rw [if_pos c]
      rw [e] at h
      rw [Bool.and_eq_true] at c
      exact op_inseq hu neg I rx ry wd ra rb ys (.inl rfl) c.1 c.2 (post_bl wd h)
    · exact dead (by simp only [isinP]; rw [if_neg c])
  | tup ys =>
    by_cases c : (dat DEP a && datS ys) = true
    · have e : isinP a (.tup ys) = some (ys.any fun y => eqP y a) := by simp only [isinP]; rw [if_pos c]
      rw [e] at h
      rw [Bool.and_eq_true] at c
      exact op_inseq hu neg I rx ry wd ra rb ys (.inr rfl) c.1 c.2 (post_bl wd h)
    · exact dead (by simp only [isinP]; rw [if_neg c])
  | dct kvs =>
    by_cases c : keyOk 8 a = true
    · cases a with
      | tup zs =>
        have e : isinP (.tup zs) (.dct kvs) = some (kvs.any fun kv => PV.beq kv.1 (.tup zs)) := by simp only [isinP]; rw [if_pos c]
        rw [e] at h
        obtain ⟨p, es, rfl, hp, _, rp⟩ := rb.dct' wd
        have hk : keyT (.tup zs) = true := by unfold keyT; rw [c]; rfl
        cases ra with | rep ra =>
        cases ra with | tup g r =>
        cases rx
        cases ry
        exact dct_in (T := T) (by omega) I (fun b o q => (wd.le b o q).1) hp rp hk (.tup g r) neg fun s' I' => ⟨.bl _, H, I', rfl, post_bl wd h⟩
      | _ => exact dead (by simp only [isinP]; rw [if_pos c])
    · exact dead (by simp only [isinP]; rw [if_neg c])
  | _ => exact dead rfl
theorem op_cmpP (hu : X.A.units + 200 < cLine) (op : CO) : OpR X (compareOp (copOf op)) (rO2 (sy X T) .F fun a b => (cmpP op a b).map .bl) := by
  intro pins s σ H x y v u Q I rx ry h
  have h0 := h
  obtain ⟨G, m, st, a, b, wd, ra, rb, h⟩ := h
  dsimp only at h
  have dead : cmpP op a b = none → wpAny (model X.prog X.w) X.A (compareOp (copOf op) v u) (EP X pins σ Q) X.xe s := fun e => (post_none (by rw [e]; rfl) h).elim
  cases op with
  | eq =>
    by_cases c : (dat DEP a && dat DEP b) = true
    · have e : cmpP .eq a b = some (eqP a b) := by simp only [cmpP]; rw [if_pos c]
      rw [e] at h
      rw [Bool.and_eq_true] at c
      exact op_eqD (by omega) pins s σ H x y v u Q I rx ry ⟨toD a, toD b, ra.dp wd DEP c.1, rb.dp wd DEP c.2, shaped_of c.1, shaped_of c.2, by rw [eqv_toD DEP a b c.1 c.2]; exact post_bl wd h⟩
    · exact dead (by simp only [cmpP]; rw [if_neg c])
  | ne =>
    by_cases c : (dat DEP a && dat DEP b) = true
    · have e : cmpP .ne a b = some (!eqP a b) := by simp only [cmpP]; rw [if_pos c]
      rw [e] at h
      rw [Bool.and_eq_true] at c
      exact op_neD (by omega) pins s σ H x y v u Q I rx ry ⟨toD a, toD b, ra.dp wd DEP c.1, rb.dp wd DEP c.2, shaped_of c.1, shaped_of c.2, by rw [eqv_toD DEP a b c.1 c.2]; exact post_bl wd h⟩
    · exact dead (by simp only [cmpP]; rw [if_neg c])
  | lt =>
    by_cases c : (dat DEP a && dat DEP b) = true
    · have e : cmpP .lt a b = ltP a b := by simp only [cmpP]; rw [if_pos c]
      cases q : ltP a b with
      | none => exact dead (by rw [e, q])
      | some k =>
        rw [e, q] at h
        rw [Bool.and_eq_true] at c
        obtain ⟨as, r1⟩ := Dp.reads I _ _ _ (ra.dp wd DEP c.1) rx
        obtain ⟨bs, r2⟩ := Dp.reads I _ _ _ (rb.dp wd DEP c.2) ry
        have R := rc_lt DEP a b X.A s v u _ _ k c.1 c.2 r1 r2 q (by have : DEP = 40 := rfl; omega)
        have z : wpAny (model X.prog X.w) X.A (compareOp .Lt v u) (EP X pins σ Q) X.xe s := R X.prog X.w X.xe (EP X pins σ Q) ⟨.bl _, H, I, rfl, post_bl wd h⟩
        exact z
    · exact dead (by simp only [cmpP]; rw [if_neg c])
  | le =>
    cases a with
    | int i =>
      cases b with
      | int j =>
        obtain rfl := ra.int'
        obtain rfl := rb.int'
        exact op_le pins s σ H _ _ v u Q I rx ry ⟨i, j, rfl, rfl, post_bl wd h⟩
      | _ => exact dead rfl
    | _ => exact dead rfl
  | gt =>
    cases a with
    | int i =>
      cases b with
      | int j =>
        obtain rfl := ra.int'
        obtain rfl := rb.int'
        exact op_gt pins s σ H _ _ v u Q I rx ry ⟨i, j, rfl, rfl, post_bl wd h⟩
      | _ => exact dead rfl
    | _ => exact dead rfl
  | ge =>
    cases a with
    | int i =>
      cases b with
      | int j =>
        obtain rfl := ra.int'
        obtain rfl := rb.int'
        exact op_ge pins s σ H _ _ v u Q I rx ry ⟨i, j, rfl, rfl, post_bl wd h⟩
      | _ => exact dead rfl
    | _ => exact dead rfl
  | isin =>
    refine op_isin (T := T) hu false pins s σ H x y v u Q I rx ry ?_
    simpa [cmpP, Option.map_map] using h0
  | notin =>
    refine op_isin (T := T) hu true pins s σ H x y v u Q I rx ry ?_
    simpa [cmpP, Option.map_map] using h0
end
end RP

/-! Fw6: subscripts, slices, simple built-ins. Own work. -/
namespace RP
open PySem PySem.Spec PyProof.Rows L2

section
variable {X : Cx} {T : List (Addr × Str)}
section
variable {S : Sy} {G H : Hp} {m : List Addr} {s : AS}
theorem nrm_eq (n : Nat) (i : Int) : nrm n i = ixN n i := rfl
theorem at_of {xs : List PV} {vs : List V} {i : Int} {x : PV} (r : Reps S G m xs vs) (h : at' xs i = some x) : ∃ v, atI vs i = some v ∧ Rep S G m x v := by
  unfold at' at h
  unfold atI
  rw [nrm_eq, r.length] at h
  cases q : ixN vs.length i with
  | none => rw [q] at h; simp at h
  | some j =>
    rw [q] at h
    obtain ⟨v, e, rv⟩ := r.get (by simpa using h)
    exact ⟨v, by simpa using e, rv⟩
theorem post_val {x : PV} {v : V} {Q : VK} {W : XK} (wd : Wd S G m s H) (r : Rep S G m x v) (h : Post S (RepM S .E) G m H (opt (some x) s) Q W) : Q v H := h.ret wd r
end
/-- a subscript -/
def rIxP (S : Sy) : R2 := fun x y H Q => ∃ G m s a b, Wd S G m s H ∧ RepO S G m H a x ∧ RepO S G m H b y ∧ Post S (RepM S .E) G m H (opt (ixP s a b) s) Q W0
theorem ix_dct {value slice : Expr} {pins : List (Addr × Obj)} {s : Shared} {σ : L2.St} {H G : Hp} {m : List Addr} {a b : Addr} {k x : PV} {kvs : List (PV × PV)} {es : List (NestedKey × Addr × V)} {Q : VK}
    (hu : X.A.units + 200 < cLine) (I : Inv X pins σ H s) (le : ∀ b o, G b = some o → H b = some o)
    (h : Rd H a (DctO X.prog X.w a es)) (r : RepsD (sy X T) G m kvs es) (hk : keyT k = true) (rk : Rep (sy X T) G m k (.ref b)) (hx : lookP k kvs = some x)
    (hq : ∀ v, Rep (sy X T) G m x v → Q v H) (hs : subscripted slice false (.ref a) (.ref b) = operate [.ref a, .ref b] (getItem (.ref a) (.ref b))) : wpAny (model X.prog X.w) X.A (subscriptTail value slice (.ref a) (.ref b)) (EP X pins σ Q) X.xe s := by
  obtain ⟨hl, hz, xs, ex, hd⟩ := dct_of I le h r
  have hT := hd.typeIs
  unfold subscriptTail
  refine wpAny_bind ?_
  rw [getitemInPython_of_ne hT.not_modules]
  refine wpAny_bind (wpAny_specialOf hT PySem.F.slot_dict_getitem.lookup ?_)
  have fin : wpAny (model X.prog X.w) X.A (subscripted slice false (.ref a) (.ref b)) (fun r s₃ => wpAny (model X.prog X.w) X.A (letTemporaryGo value (.ref a) r >>= fun _ => pure r) (EP X pins σ Q) X.xe s₃) X.xe s := by
    rw [hs]
    exact wpAny_operating (wpAny_mono (dct_get (A := X.A) (E := X.xe) (Q := EP X pins σ Q) (by omega) I le h r hk rk hx fun v u s' I' rx ru => ⟨v, H, I', ru, hq v rx⟩) (fun r s₃ h₃ => wpAny_bind (wpAny_letTemporaryGo (wpAny_pure h₃))) fun _ _ x => x)
  first
    | exact wpAny_pure (wpAny_bind fin)
    | exact wpAny_bind (wpAny_pure (wpAny_bind fin))
    | exact wpAny_bind fin
theorem ix_P (hu : X.A.units + 200 < cLine) : IxR X (rIxP (sy X T)) := by
  intro value slice pins s σ H x y v u Q I rx ry h hs
  obtain ⟨G, m, st, a, b, wd, ra, rb, h⟩ := h
  have dead : ixP st a b = none → wpAny (model X.prog X.w) X.A (subscriptTail value slice v u) (EP X pins σ Q) X.xe s := fun e => by rw [e] at h; exact h.elim
  cases a with
  | lst xs =>
    cases b with
    | int i =>
      obtain rfl := rb.int'
      obtain ⟨p, vs, rfl, hp, _, r⟩ := ra.lst' wd
      cases q : at' xs i with
      | none => exact dead q
      | some z =>
        obtain ⟨w, e, rw'⟩ := at_of r q
        rw [show ixP st (.lst xs) (.int i) = some z from q] at h
        exact ix_list value slice pins s σ H _ _ v u Q I rx ry ⟨p, vs, i, w, rfl, rfl, .inl (.inl hp), e, post_val wd rw' h⟩ hs
    | _ => exact dead rfl
  | rol xs =>
    cases b with
    | int i =>
      obtain rfl := rb.int'
      obtain ⟨p, vs, rfl, hp, r⟩ := ra.rol' wd
      cases q : at' xs i with
      | none => exact dead q
      | some z =>
        obtain ⟨w, e, rw'⟩ := at_of r q
        rw [show ixP st (.rol xs) (.int i) = some z from q] at h
        exact ix_list value slice pins s σ H _ _ v u Q I rx ry ⟨p, vs, i, w, rfl, rfl, hp, e, post_val wd rw' h⟩ hs
    | _ => exact dead rfl
  | tup xs =>
    cases b with
    | int i =>
      obtain rfl := rb.int'
      obtain ⟨p, vs, rfl, _, hp, r⟩ := ra.tup' wd
      cases q : at' xs i with
      | none => exact dead q
      | some z =>
        obtain ⟨w, e, rw'⟩ := at_of r q
        rw [show ixP st (.tup xs) (.int i) = some z from q] at h
        exact ix_tup value slice pins s σ H _ _ v u Q I rx ry ⟨p, vs, i, w, rfl, rfl, hp, e, post_val wd rw' h⟩ hs
    | _ => exact dead rfl
  | dct kvs =>
    by_cases c : keyT b = true
    · cases q : lookP b kvs with
      | none => exact dead (by simp only [ixP]; rw [if_pos c, q])
      | some z =>
        rw [show ixP st (.dct kvs) b = some z by simp only [ixP]; rw [if_pos c, q]] at h
        cases b with
        | tup zs =>
          obtain ⟨p, es, rfl, hp, _, r⟩ := ra.dct' wd
          cases rb with | rep rb =>
          cases rb with | tup g rr =>
          cases rx
          cases ry
          exact ix_dct (T := T) hu I (fun b o q => (wd.le b o q).1) hp r c (.tup g rr) q (fun w rw' => post_val wd rw' h) hs
        | _ => simp [keyT, isTup] at c
    · exact dead (by simp only [ixP]; rw [if_neg c])
  | ref n =>
    cases b with
    | int i =>
      obtain rfl := rb.int'
      cases ra with | rep ra =>
      cases ra with | ref hm =>
      cases q : st[n]? with
      | none => exact dead (by simp only [ixP]; rw [q])
      | some ob =>
        have O := wd.obj n _ ob hm q
        cases O with
        | @lst xs vs hp r =>
          cases q2 : at' xs i with
          | none => exact dead (by simp only [ixP]; rw [q]; exact q2)
          | some z =>
            obtain ⟨w, e, rw'⟩ := at_of r q2
            rw [show ixP st (.ref n) (.int i) = some z by simp only [ixP]; rw [q]; exact q2] at h
            exact ix_list value slice pins s σ H _ _ v u Q I rx ry ⟨_, vs, i, w, rfl, rfl, .inl (.inl hp), e, post_val wd rw' h⟩ hs
        | ins _ _ _ => exact dead (by simp only [ixP]; rw [q])
    | _ => exact dead rfl
  | _ => exact dead (by cases b <;> rfl)

/-! ### slices -/
theorem clip_sIx (n d : Nat) (i : Int) : clip n i = HT.sIx n d (some i) := rfl
theorem cut_lo {vs : List V} (i : Int) : cutV vs (some i) none = vs.drop (clip vs.length i) := by
  unfold cutV
  rw [HT.sIx_none, ← clip_sIx]
  rw [List.take_of_length_le]
  rw [List.length_drop]; omega
theorem cut_hi {vs : List V} (i : Int) : cutV vs none (some i) = vs.take (clip vs.length i) := by
  unfold cutV
  rw [HT.sIx_none, ← clip_sIx]
  simp
def rSlP (S : Sy) (k : Bool) : V → Option Int → Option Int → Hp → VK → Prop := fun x lo hi H Q => ∃ G m s a i, Wd S G m s H ∧ RepO S G m H a x ∧ (lo = if k then some i else none) ∧ (hi = if k then none else some i) ∧ Post S (RepM S .F) G m H (opt (if k then slLoP a (.int i) else slHiP a (.int i)) s) Q W0
theorem sl_P (k : Bool) : SlR X (rSlP (sy X T) k) := by
  intro pins s σ H x v vl vu lo hi sl Q I rx hs pl pu h
  obtain ⟨G, m, st, a, i, wd, ra, rfl, rfl, h⟩ := h
  cases a with
  | lst xs =>
    obtain ⟨p, vs, rfl, hp, _, r⟩ := ra.lst' wd
    refine sl_list pins s σ H _ v vl vu _ _ sl Q I rx hs pl pu ⟨p, vs, rfl, .inl (.inl hp), fun p hp => ?_⟩
    cases k with
    | true =>
      show Q (.ref p) (upd H p (.lst (cutV vs (some i) none)))
      rw [cut_lo]
      exact fin_lst wd h hp (by rw [← r.length]; exact r.drop _)
    | false =>
      show Q (.ref p) (upd H p (.lst (cutV vs none (some i))))
      rw [cut_hi]
      exact fin_lst wd h hp (by rw [← r.length]; exact r.take _)
  | tup xs =>
    obtain ⟨p, vs, rfl, gp, hp, r⟩ := ra.tup' wd
    refine sl_tupA pins s σ H _ v vl vu _ _ sl Q I rx hs pl pu ⟨p, vs, rfl, hp, fun hw => ?_, fun hw p hp => ?_⟩
    · cases k with
      | true =>
        have e : clip xs.length i = 0 := by rw [r.length]; exact hw.1
        have h : Post (sy X T) (RepM (sy X T) .F) G m H (opt (some (.tup (xs.drop (clip xs.length i)))) st) Q W0 := h
        rw [e, List.drop_zero] at h
        exact h.ret wd (.val rfl (.tup gp r))
      | false =>
        have e : clip xs.length i = xs.length := by rw [r.length]; exact hw.2
        have h : Post (sy X T) (RepM (sy X T) .F) G m H (opt (some (.tup (xs.take (clip xs.length i)))) st) Q W0 := h
        rw [e, List.take_length] at h
        exact h.ret wd (.val rfl (.tup gp r))
    · cases k with
      | true =>
        show Q (.ref p) (upd H p (.tup (cutV vs (some i) none)))
        rw [cut_lo]
        exact post_tup wd h hp (by rw [← r.length]; exact r.drop _)
      | false =>
        show Q (.ref p) (upd H p (.tup (cutV vs none (some i))))
        rw [cut_hi]
        exact post_tup wd h hp (by rw [← r.length]; exact r.take _)
  | tpx xs =>
    obtain ⟨p, vs, o, rfl, _, _, gp, hp, r⟩ := ra.tpx' wd
    refine sl_tupA pins s σ H _ v vl vu _ _ sl Q I rx hs pl pu ⟨p, vs, rfl, hp, fun hw => ?_, fun hw p hp => ?_⟩
    · cases k with
      | true =>
        have e : clip xs.length i = 0 := by rw [r.length]; exact hw.1
        have h : Post (sy X T) (RepM (sy X T) .F) G m H (opt (some (.tup (xs.drop (clip xs.length i)))) st) Q W0 := h
        rw [e, List.drop_zero] at h
        exact h.ret wd (.val rfl (.tup gp r))
      | false =>
        have e : clip xs.length i = xs.length := by rw [r.length]; exact hw.2
        have h : Post (sy X T) (RepM (sy X T) .F) G m H (opt (some (.tup (xs.take (clip xs.length i)))) st) Q W0 := h
        rw [e, List.take_length] at h
        exact h.ret wd (.val rfl (.tup gp r))
    · cases k with
      | true =>
        show Q (.ref p) (upd H p (.tup (cutV vs (some i) none)))
        rw [cut_lo]
        exact post_tup wd h hp (by rw [← r.length]; exact r.drop _)
      | false =>
        show Q (.ref p) (upd H p (.tup (cutV vs none (some i))))
        rw [cut_hi]
        exact post_tup wd h hp (by rw [← r.length]; exact r.take _)
  | _ => cases k <;> exact h.elim

/-! ### calls of built-ins with one argument -/
def rC1 (S : Sy) (k : Md) (f : PV → Option PV) : List V → Hp → VK → Prop := fun vs H Q => ∃ G m s a x, vs = [x] ∧ Wd S G m s H ∧ RepO S G m H a x ∧ Post S (RepM S k) G m H (opt (f a) s) Q W0
theorem bools_of {S : Sy} {G : Hp} {m : List Addr} : ∀ {xs : List PV} {vs : List V} {bs : List Bool}, Reps S G m xs vs → boolsOf xs = some bs → vs = bs.map V.bl
  | _, _, bs, .nil, h => by simp [boolsOf] at h; subst h; rfl
  | _, _, bs, .cons (x := x) r t, h => by
    cases x with
    | bl b =>
      simp only [boolsOf] at h
      obtain ⟨cs, e, rfl⟩ := Option.map_eq_some_iff.mp h
      cases r
      rw [bools_of t e]; rfl
    | _ => simp [boolsOf] at h
theorem ints_of {S : Sy} {G : Hp} {m : List Addr} : ∀ {xs : List PV} {vs : List V} {bs : List Int}, Reps S G m xs vs → intsOf xs = some bs → vs = bs.map V.int
  | _, _, bs, .nil, h => by simp [intsOf] at h; subst h; rfl
  | _, _, bs, .cons (x := x) r t, h => by
    cases x with
    | int b =>
      simp only [intsOf] at h
      obtain ⟨cs, e, rfl⟩ := Option.map_eq_some_iff.mp h
      cases r
      rw [ints_of t e]; rfl
    | _ => simp [intsOf] at h
theorem len_P : CallR X (.builtin "len") (rC1 (sy X T) .F (b1P .len)) := by
  intro pins s σ H xs us Q I r h
  obtain ⟨G, m, st, a, x, rfl, wd, ra, h⟩ := h
  cases a with
  | lst ys =>
    obtain ⟨p, vs, rfl, hp, _, rr⟩ := ra.lst' wd
    exact call_len_seq pins s σ H _ us Q I r ⟨p, vs, rfl, .inl (.inl (.inl hp)), by rw [← rr.length]; exact post_int wd h⟩
  | rol ys =>
    obtain ⟨p, vs, rfl, hp, rr⟩ := ra.rol' wd
    exact call_len_seq pins s σ H _ us Q I r ⟨p, vs, rfl, .inl hp, by rw [← rr.length]; exact post_int wd h⟩
  | tup ys =>
    obtain ⟨p, vs, rfl, _, hp, rr⟩ := ra.tup' wd
    exact call_len_seq pins s σ H _ us Q I r ⟨p, vs, rfl, .inr hp, by rw [← rr.length]; exact post_int wd h⟩
  | dct kvs =>
    obtain ⟨p, es, rfl, hp, _, rr⟩ := ra.dct' wd
    obtain ⟨u, rfl, ru⟩ := vals1 r
    cases ru
    obtain ⟨hl, hs, ys, ey, hd⟩ := dct_of I (fun b o q => (wd.le b o q).1) hp rr
    have e1 : kvs.length = ys.length := by rw [rr.length]; exact Paired.length ey
    have hz := sizeLine_eq
    refine call_len_dictH hs hd (by rw [← e1, rr.length]; omega) ⟨.int kvs.length, H, I.tok _, ⟨_, by rw [e1]⟩, post_int wd h⟩
  | _ => exact h.elim
theorem list_P : CallR X (.type "list") (rC1 (sy X T) .F fun a => match a with | .dct _ => none | a => b1P .list a) := by
  intro pins s σ H xs us Q I r h
  obtain ⟨G, m, st, a, x, rfl, wd, ra, h⟩ := h
  cases a with
  | lst ys =>
    obtain ⟨p, vs, rfl, hp, _, rr⟩ := ra.lst' wd
    exact call_list_of pins s σ H _ us Q I r ⟨p, vs, rfl, .inl (.inl (.inl hp)), fun l hl => fin_lst wd h hl rr⟩
  | tup ys =>
    obtain ⟨p, vs, rfl, _, hp, rr⟩ := ra.tup' wd
    exact call_list_of pins s σ H _ us Q I r ⟨p, vs, rfl, .inr hp, fun l hl => fin_lst wd h hl rr⟩
  | _ => exact h.elim
theorem tuple_P : CallR X (.type "tuple") (rC1 (sy X T) .F (b1P .tuple)) := by
  intro pins s σ H xs us Q I r h
  obtain ⟨G, m, st, a, x, rfl, wd, ra, h⟩ := h
  cases a with
  | lst ys =>
    obtain ⟨p, vs, rfl, hp, _, rr⟩ := ra.lst' wd
    exact call_tuple_of pins s σ H _ us Q I r ⟨p, vs, rfl, .inl ⟨.inl (.inl hp), fun l hl => post_tup wd h hl rr⟩⟩
  | tup ys =>
    obtain ⟨p, vs, rfl, gp, hp, rr⟩ := ra.tup' wd
    exact call_tuple_of pins s σ H _ us Q I r ⟨p, vs, rfl, .inr ⟨hp, h.ret wd (.val rfl (.tup gp rr))⟩⟩
  | _ => exact h.elim
theorem all_P (hc : X.calm = true) : CallR X (.builtin "all") (rC1 (sy X T) .F (b1P .all)) := by
  intro pins s σ H xs us Q I r h
  obtain ⟨G, m, st, a, x, rfl, wd, ra, h⟩ := h
  cases a with
  | lst ys =>
    obtain ⟨p, vs, rfl, hp, _, rr⟩ := ra.lst' wd
    cases q : boolsOf ys with
    | none => rw [show b1P .all (.lst ys) = none by simp only [b1P]; rw [q]; rfl] at h; exact h.elim
    | some bs =>
      rw [show b1P .all (.lst ys) = some (.bl (bs.all id)) by simp only [b1P]; rw [q]; rfl] at h
      exact cr_all hc pins s σ H _ us Q I r ⟨p, bs, rfl, .inl (.inl (by rw [← bools_of rr q]; exact hp)), post_bl wd h⟩
  | _ => exact h.elim
theorem any_P (hc : X.calm = true) : CallR X (.builtin "any") (rC1 (sy X T) .F (b1P .any)) := by
  intro pins s σ H xs us Q I r h
  obtain ⟨G, m, st, a, x, rfl, wd, ra, h⟩ := h
  cases a with
  | lst ys =>
    obtain ⟨p, vs, rfl, hp, _, rr⟩ := ra.lst' wd
    cases q : boolsOf ys with
    | none => rw [show b1P .any (.lst ys) = none by simp only [b1P]; rw [q]; rfl] at h; exact h.elim
    | some bs =>
      rw [show b1P .any (.lst ys) = some (.bl (bs.any id)) by simp only [b1P]; rw [q]; rfl] at h
      exact cr_any hc pins s σ H _ us Q I r ⟨p, bs, rfl, .inl (.inl (by rw [← bools_of rr q]; exact hp)), post_bl wd h⟩
  | _ => exact h.elim
theorem sum_P (hc : X.calm = true) : CallR X (.builtin "sum") (rC1 (sy X T) .F (b1P .sum)) := by
  intro pins s σ H xs us Q I r h
  obtain ⟨G, m, st, a, x, rfl, wd, ra, h⟩ := h
  cases a with
  | lst ys =>
    obtain ⟨p, vs, rfl, hp, _, rr⟩ := ra.lst' wd
    cases q : intsOf ys with
    | none => rw [show b1P .sum (.lst ys) = none by simp only [b1P]; rw [q]; rfl] at h; exact h.elim
    | some bs =>
      rw [show b1P .sum (.lst ys) = some (.int bs.sum) by simp only [b1P]; rw [q]; rfl] at h
      exact cr_sum hc pins s σ H _ us Q I r ⟨p, bs, rfl, .inl (.inl (by rw [← ints_of rr q]; exact hp)), post_int wd h⟩
  | _ => exact h.elim
theorem int_P : CallR X (.type "int") (rC1 (sy X T) .F (b1P .int)) := by
  intro pins s σ H xs us Q I r h
  obtain ⟨G, m, st, a, x, rfl, wd, ra, h⟩ := h
  cases a with
  | int i =>
    obtain rfl := ra.int'
    exact call_int1 pins s σ H _ us Q I r (.inl ⟨i, rfl, post_int wd h⟩)
  | bl i =>
    obtain rfl := ra.bl'
    exact call_int1 pins s σ H _ us Q I r (.inr ⟨i, rfl, post_int wd h⟩)
  | _ => exact h.elim
theorem bool_P : CallR X (.type "bool") (rC1 (sy X T) .F (b1P .bool)) := by
  intro pins s σ H xs us Q I r h
  obtain ⟨G, m, st, a, x, rfl, wd, ra, h⟩ := h
  cases a with
  | bl i =>
    obtain rfl := ra.bl'
    exact call_bool1 pins s σ H _ us Q I r (.inr ⟨i, rfl, post_bl wd h⟩)
  | _ => exact h.elim
theorem abs_P : CallR X (.builtin "abs") (rC1 (sy X T) .F (b1P .abs)) := by
  intro pins s σ H xs us Q I r h
  obtain ⟨G, m, st, a, x, rfl, wd, ra, h⟩ := h
  cases a with
  | int i =>
    obtain rfl := ra.int'
    exact call_abs pins s σ H _ us Q I r ⟨i, rfl, post_int wd h⟩
  | _ => exact h.elim
/-- isinstance(x, T) -/
def tyName : Ty → String
  | .int => "int"
  | .bool => "bool"
  | .str => "str"
  | .tuple => "tuple"
  | .list => "list"
def rIsi1 (S : Sy) (t : Ty) : List V → Hp → VK → Prop := fun vs H Q => ∃ G m s a x, vs = [x, .ty (tyName t)] ∧ Wd S G m s H ∧ RepO S G m H a x ∧ Post S (RepM S .F) G m H (opt ((isTyP t a).map .bl) s) Q W0
theorem isi_P (t : Ty) : CallR X (.builtin "isinstance") (rIsi1 (sy X T) t) := by
  intro pins s σ H xs us Q I r h
  obtain ⟨G, m, st, a, x, rfl, wd, ra, h⟩ := h
  have go : ∀ (c : String) (b : Bool), TyX X.K H x (.type c) → kitB c (tyName t) = some b → Q (.bl b) H → wpAny (model X.prog X.w) X.A (call (.builtin "isinstance") us) (EP X pins σ Q) X.xe s := fun c b ty e q =>
    call_isi pins s σ H _ us Q I r ⟨x, .ty (tyName t), .type c, .type (tyName t), b, rfl, .ty _, ty, kit_ty e, q⟩
  have sq : ∀ {p : Addr} {vs : List V}, SqT X.K H p vs → TyX X.K H (.ref p) (.type "tuple") := fun {p vs} hp => by
    rcases hp with (hp | ⟨o, hp⟩) | ⟨o, its, n, h1, h2, _⟩
    · exact .base (.tup hp)
    · exact .fTuple hp
    · exact .kTuple h1 h2
  have sl : ∀ {p : Addr} {vs : List V}, SqL X.K H p vs → TyX X.K H (.ref p) (.type "list") := fun {p vs} hp => by
    rcases hp with (hp | ⟨o, hp⟩) | ⟨o, its, n, h1, h2, _⟩
    · exact .base (.lst hp)
    · exact .base (.frz hp)
    · exact .kList h1 h2
  cases a with
  | non =>
    obtain rfl := ra.non'
    exact go "NoneType" (isTy t .non) (.base .non) (by cases t <;> simp only [isTy, tyName] <;> decide +kernel) (post_bl wd h)
  | bl i =>
    obtain rfl := ra.bl'
    exact go "bool" (isTy t (.bl i)) (.base (.bl i)) (by cases t <;> simp only [isTy, tyName] <;> decide +kernel) (post_bl wd h)
  | int i =>
    obtain rfl := ra.int'
    exact go "int" (isTy t (.int i)) (.base (.int i)) (by cases t <;> simp only [isTy, tyName] <;> decide +kernel) (post_bl wd h)
  | str i =>
    obtain rfl := ra.str'
    exact go "str" (isTy t (.str i)) (.base (.str i)) (by cases t <;> simp only [isTy, tyName] <;> decide +kernel) (post_bl wd h)
  | tup ys =>
    obtain ⟨p, vs, rfl, _, hp, rr⟩ := ra.tup' wd
    exact go "tuple" (isTy t (.tup ys)) (sq hp) (by cases t <;> simp only [isTy, tyName] <;> decide +kernel) (post_bl wd h)
  | lst ys =>
    obtain ⟨p, vs, rfl, hp, _, rr⟩ := ra.lst' wd
    exact go "list" (isTy t (.lst ys)) (.base (.lst hp)) (by cases t <;> simp only [isTy, tyName] <;> decide +kernel) (post_bl wd h)
  | rol ys =>
    obtain ⟨p, vs, rfl, hp, rr⟩ := ra.rol' wd
    exact go "list" (isTy t (.rol ys)) (sl hp) (by cases t <;> simp only [isTy, tyName] <;> decide +kernel) (post_bl wd h)
  | _ => exact h.elim
end
end RP

/-! Fw7: expressions. Own work. -/
namespace RP
open PySem PySem.Spec PyProof.Rows L2

/-- a def's promise by its denotation -/
def SpD (S : Sy) (n : Nat) (d : Den) : Sp := fun vs H Q E => ∃ G m s args, args.length = n ∧ Wd S G m s H ∧ Reps S G m args vs ∧ Post S (RepM S .E) G m H (d args s) Q E
theorem SpD.len {S : Sy} {n : Nat} {d : Den} {vs : List V} {H : Hp} {Q : VK} {E : XK} (h : SpD S n d vs H Q E) : vs.length = n := by
  obtain ⟨G, m, s, args, e, _, r, _⟩ := h
  rw [← r.length, e]
/-- a def that may be called -/
structure Callee (X : Cx) (S : Sy) (k : Nat) (x : Str) (ar lv : Nat) (d : Den) : Prop where
  ex : ∃ f fd ps, X.mg x = some (.ref f) ∧ PySem.W.keepIn X.K (.ref f) = true ∧ L2.Binds X.K fd ps [] ∧ ps.length = ar ∧ FnOk X.prog X.w X.K X.mg X.base (L2N.CX X.prog X.w) lv f fd ps (SpD S ar d)
  le : lv ≤ k
/-- what a body's code leans on -/
structure Cok (X : Cx) (T : List (Addr × Str)) (N : List Str) (k : Nat) (W : XK) (G : List Den) (GV : List (Str × Nat × Den)) (C : List PV) (fns : List (Str × Nat × Nat)) (gcs : List Str) (bls : List Str) : Prop where
  calm : X.calm = true
  eN : X.N = N
  nd : N.Nodup
  room : Room k X.A
  tk : L2N.Takes X (fun c d _ H => W c d H)
  fns : ∀ (j : Nat) (x : Str) (ar lv : Nat), fns[j]? = some (x, ar, lv) → ∃ d, G[j]? = some d ∧ Callee X (sy X T) k x ar lv d
  gvs : ∀ p, p ∈ GV → ∃ lv, Callee X (sy X T) k p.1 p.2.1 lv p.2.2
  gcs : ∀ (j : Nat) (x : Str), gcs[j]? = some x → ∃ p u v, C[j]? = some p ∧ X.mg x = some u ∧ L2.RelV v u ∧ ∀ G m, Rep (sy X T) G m p v
  bls : ∀ x, x ∈ bls → X.mg x = none
  pas : PassesOwn (model X.prog X.w) X.A X.env X.xe
section
variable {X : Cx} {T : List (Addr × Str)} {N : List Str} {k : Nat} {W : XK} {G : List Den} {GV : List (Str × Nat × Den)} {C : List PV} {fns : List (Str × Nat × Nat)} {gcs bls : List Str}
theorem Cok.un (ok : Cok X T N k W G GV C fns gcs bls) : X.A.units + 200 < cLine := by have := ok.room.un; omega

/-! ### names, constants -/
theorem de_var {i : Nat} {x : Str} {pos : Pos} {W : XK} (hN : X.N[i]? = some x) (hv : Vis X.env.scope x) (hd : (x == ("__debug__" : Str)) = false) (hcd : (x == ("__classdict__" : Str)) = false) (o : Bool) :
    PE X (.Name x pos) (tD (sy X T) (if o then .O else .E) W (fun r => match r.get i with
      | .sh v => ret v
      | .ow xs => if o then ret (.lst xs) else stk
      | .od kvs => if o then ret (.dct kvs) else stk
      | .no => stk)) := by
  refine (pe_var hN hv hd hcd).imp fun σ H Q ⟨G, m, s, H₀, r, a, p⟩ => ?_
  obtain ⟨wd, fm⟩ := a
  dsimp only at p
  obtain ⟨oa, hs, _⟩ := fm.ex
  have h := hs i
  cases e : r.get i with
  | no => rw [e] at p; exact p.elim
  | sh v =>
    rw [e] at p h
    obtain ⟨w, h1, h2⟩ := h
    refine ⟨w, h1, ?_⟩
    cases o with
    | true => exact p.ret wd (.rep h2)
    | false => exact p.ret wd h2
  | ow xs =>
    rw [e] at p h
    obtain ⟨h1, ⟨vs, h2, h3⟩, h4, _⟩ := h
    cases o with
    | true => exact ⟨_, h1, p.ret wd (.lst h2 h4 h3)⟩
    | false => exact p.elim
  | od kvs =>
    rw [e] at p h
    obtain ⟨h1, ⟨vs, h2, h3⟩, h4, _⟩ := h
    cases o with
    | true => exact ⟨_, h1, p.ret wd (.dct h2 h4 h3)⟩
    | false => exact p.elim
theorem de_int {i : Int} {j : Nat} {pos : Pos} {W : XK} : PE X (.Constant (.int i) j pos) (tD (sy X T) .F W fun _ => ret (.int i)) :=
  pe_int.imp fun σ H Q ⟨G, m, s, H₀, r, a, p⟩ => p.ret a.1 (.val rfl (.int i))
theorem de_str {i : Str} {j : Nat} {pos : Pos} {W : XK} : PE X (.Constant (.str i) j pos) (tD (sy X T) .F W fun _ => ret (.str i)) :=
  pe_str.imp fun σ H Q ⟨G, m, s, H₀, r, a, p⟩ => p.ret a.1 (.val rfl (.str i))
theorem de_bl {i : Bool} {j : Nat} {pos : Pos} {W : XK} : PE X (.Constant (.bool i) j pos) (tD (sy X T) .F W fun _ => ret (.bl i)) :=
  pe_bl.imp fun σ H Q ⟨G, m, s, H₀, r, a, p⟩ => p.ret a.1 (.val rfl (.bl i))
theorem de_non {j : Nat} {pos : Pos} {W : XK} : PE X (.Constant .none j pos) (tD (sy X T) .F W fun _ => ret .non) :=
  pe_non.imp fun σ H Q ⟨G, m, s, H₀, r, a, p⟩ => p.ret a.1 (.val rfl .non)
theorem de_gc {j : Nat} {x : Str} {pos : Pos} {W : XK} (ok : Cok X T N k W G GV C fns gcs bls) (hj : gcs[j]? = some x) (hg : Gl X x) (hd : (x == ("__debug__" : Str)) = false) : PE X (.Name x pos) (tD (sy X T) .E W fun _ => opt C[j]?) := by
  obtain ⟨p, u, v, e, hm, rv, hr⟩ := ok.gcs j x hj
  refine (pe_glob hg hm rv hd).imp fun σ H Q ⟨G, m, s, H₀, r, a, h⟩ => ?_
  rw [e] at h
  exact h.ret a.1 (hr G m)
theorem de_fnv {x : Str} {f : Addr} {pos : Pos} {W : XK} (hg : Gl X x) (hm : X.mg x = some (.ref f)) (hd : (x == ("__debug__" : Str)) = false) : PE X (.Name x pos) (tD (sy X T) .F W fun _ => ret (.fn x)) :=
  (pe_glob (v := .ref f) hg hm rfl hd).imp fun σ H Q ⟨G, m, s, H₀, r, a, h⟩ => h.ret a.1 (.val rfl (.fn hm))

/-! ### argument lists, displays -/
theorem notstar {e : Expr} {es : List Expr} {env : Env} (h : (match e with | .Starred _ _ => false | _ => true) = true) : starEach (e :: es) env = (false, eval e env) :: starEach es env := by
  cases e <;> first | rfl | simp at h
theorem da_nil {W : XK} : PA X [] (tDA (sy X T) W fun _ => ret []) := pa_nil.imp fun σ H Q ⟨G, m, s, H₀, r, a, p⟩ => p.ret a.1 .nil
theorem da_cons {e : Expr} {es : List Expr} {d : Fm → M PV} {ds : Fm → M (List PV)} {W : XK} (he : PE X e (tD (sy X T) .E W d)) (hs : PA X es (tDA (sy X T) W ds)) (hn : starEach (e :: es) X.env = (false, eval e X.env) :: starEach es X.env) :
    PA X (e :: es) (tDA (sy X T) W fun r => bnd (d r) fun v => bnd (ds r) fun vs => ret (v :: vs)) := by
  refine (pa_cons he hs hn).imp fun σ H Q ⟨G, m, s, H₀, r, a, p⟩ => ?_
  refine ⟨G, m, s, H₀, r, a, p.step (good_A _) fun x s1 G1 m1 H1 v e1 wd1 rx p1 => ?_⟩
  refine ⟨G1, m1, s1, H₀, r, ⟨wd1, a.2.ext e1⟩, p1.step (good_A _) fun xs s2 G2 m2 H2 vs e2 wd2 rxs p2 => ?_⟩
  exact p2.ret wd2 (.cons (Rep.ext rx e2) rxs)
/-- the number of a written list's values -/
def Few (ds : Fm → M (List PV)) : Prop := ∀ r s vs s', ds r s = .ok vs s' → vs.length ≤ 1000
theorem de_tup {es : List Expr} {x1 : Nat} {pos : Pos} {ds : Fm → M (List PV)} {W : XK} (h : PA X es (tDA (sy X T) W ds)) (hl : Few ds) : PE X (.Tuple es x1 pos) (tD (sy X T) .F W fun r => bnd (ds r) fun vs => ret (.tup vs)) := by
  refine (pe_tup h).imp fun σ H Q ⟨G, m, s, H₀, r, a, p⟩ => ⟨G, m, s, H₀, r, a, ?_⟩
  cases q : ds r s with
  | ok vs s1 =>
    intro G1 m1 H1 v e1 wd1 rx
    have hz := hl _ _ _ _ q
    have hs := sizeLine_eq
    dsimp only [bnd] at p
    rw [q] at p
    have p1 : Post (sy X T) (RepM (sy X T) .F) G1 m1 H1 (ret (.tup vs) s1) Q W := Post.later (good_M _ _) e1 p
    exact ⟨by rw [← Reps.length rx]; omega, fun p hp => post_tup wd1 p1 hp rx⟩
  | exc x s1 =>
    dsimp only [bnd] at p
    rw [q] at p
    exact p
  | stuck =>
    dsimp only [bnd] at p
    rw [q] at p
    exact p
theorem de_lst {es : List Expr} {pos : Pos} {ds : Fm → M (List PV)} {W : XK} (h : PA X es (tDA (sy X T) W ds)) (hl : Few ds) : PE X (.List es pos) (tD (sy X T) .F W fun r => bnd (ds r) fun vs => ret (.lst vs)) := by
  refine (pe_lst h).imp fun σ H Q ⟨G, m, s, H₀, r, a, p⟩ => ⟨G, m, s, H₀, r, a, ?_⟩
  cases q : ds r s with
  | ok vs s1 =>
    intro G1 m1 H1 v e1 wd1 rx
    have hz := hl _ _ _ _ q
    have hs := sizeLine_eq
    dsimp only [bnd] at p
    rw [q] at p
    have p1 : Post (sy X T) (RepM (sy X T) .F) G1 m1 H1 (ret (.lst vs) s1) Q W := Post.later (good_M _ _) e1 p
    exact ⟨by rw [← Reps.length rx]; omega, fun p hp => fin_lst wd1 p1 hp rx⟩
  | exc x s1 =>
    dsimp only [bnd] at p
    rw [q] at p
    exact p
  | stuck =>
    dsimp only [bnd] at p
    rw [q] at p
    exact p
/-- a list as an object -/
theorem wd_obj {S : Sy} {G H : Hp} {m : List Addr} {s : AS} {p : Addr} {xs : List PV} {vs : List V} (wd : Wd S G m s H) (hp : H p = none) (r : Reps S G m xs vs) :
    Wd S G (m ++ [p]) (s ++ [.lst xs]) (upd H p (.lst vs)) ∧ Ext m (m ++ [p]) G G H (upd H p (.lst vs)) ∧ (m ++ [p])[s.length]? = some p := by
  have hm := wd.mnone hp
  have w := wd.new (o := .lst vs) hp
  have e := wd.newExt (o := .lst vs) hp
  refine ⟨⟨fun a o h => ⟨(w.le a o h).1, fun z => ?_, (w.le a o h).2.2⟩, by simp [wd.len], ?_, fun n a o h1 h2 => ?_, w.tab⟩, ⟨e.le, ⟨[p], rfl⟩, fun a z => ?_, e.newG, e.keep, e.dom⟩, by rw [wd.len]; simp⟩
  · rcases List.mem_append.mp z with z | z
    · exact (w.le a o h).2.1 z
    · have : a = p := by simpa using z
      subst this
      rw [wd.Gnone hp] at h; cases h
  · exact List.nodup_append.mpr ⟨wd.nd, by simp, fun a ha b hb => by
      have : b = p := by simpa using hb
      subst this
      exact fun z => hm (z ▸ ha)⟩
  · by_cases hn : n < m.length
    · rw [List.getElem?_append_left hn] at h1
      rw [List.getElem?_append_left (by rw [wd.len]; exact hn)] at h2
      exact (w.obj n a o h1 h2).mono (fun _ _ z => z) ⟨[p], rfl⟩
    · have hn' : n = m.length := by
        have := (List.getElem?_eq_some_iff.mp h1).1
        simp at this; omega
      subst hn'
      simp at h1
      rw [← wd.len] at h2
      simp at h2
      subst h1 h2
      exact .lst upd_same (r.mono (fun _ _ z => z) ⟨[p], rfl⟩)
  · rcases List.mem_append.mp z with z | z
    · exact .inl z
    · have : a = p := by simpa using z
      subst this
      exact .inr hp
theorem de_lstR {es : List Expr} {pos : Pos} {ds : Fm → M (List PV)} {W : XK} (h : PA X es (tDA (sy X T) W ds)) (hl : Few ds) : PE X (.List es pos) (tD (sy X T) .F W fun r => bnd (ds r) fun vs => fun s => .ok (.ref s.length) (s ++ [.lst vs])) := by
  refine (pe_lst h).imp fun σ H Q ⟨G, m, s, H₀, r, a, p⟩ => ⟨G, m, s, H₀, r, a, ?_⟩
  cases q : ds r s with
  | ok vs s1 =>
    intro G1 m1 H1 v e1 wd1 rx
    have hz := hl _ _ _ _ q
    have hs := sizeLine_eq
    dsimp only [bnd] at p
    rw [q] at p
    have p1 : Post (sy X T) (RepM (sy X T) .F) G1 m1 H1 (.ok (.ref s1.length) (s1 ++ [.lst vs])) Q W := Post.later (good_M _ _) e1 p
    refine ⟨by rw [← Reps.length rx]; omega, fun p hp => ?_⟩
    obtain ⟨w2, e2, hi⟩ := wd_obj wd1 hp rx
    exact p1 G1 _ _ (.ref p) e2 w2 (.val rfl (.ref hi))
  | exc x s1 =>
    dsimp only [bnd] at p
    rw [q] at p
    exact p
  | stuck =>
    dsimp only [bnd] at p
    rw [q] at p
    exact p

/-! ### operators -/
/-- two operands, then an operation on values -/
theorem de_op2 {e : Expr} {a b : Expr} {r2 : R2} {da db : Fm → M PV} {f : PV → PV → Option PV} {k : Md} {W : XK} (he : ∀ ta tb, PE X a ta → PE X b tb → PE X e (tOp r2 ta tb)) (ha : PE X a (tD (sy X T) .O W da)) (hb : PE X b (tD (sy X T) .O W db))
    (hi : ∀ (G : Hp) (m : List Addr) (H : Hp) (s : AS) (x y : PV) (v u : V) (Q : VK), Wd (sy X T) G m s H → RepO (sy X T) G m H x v → RepO (sy X T) G m H y u → Post (sy X T) (RepM (sy X T) k) G m H (opt (f x y) s) Q W0 → r2 v u H Q) :
    PE X e (tD (sy X T) k W fun r => bnd (da r) fun x => bnd (db r) fun y => opt (f x y)) := by
  refine (he _ _ ha hb).imp fun σ H Q ⟨G, m, s, H₀, r, a, p⟩ => ?_
  refine ⟨G, m, s, H₀, r, a, p.step (good_M _ _) fun x s1 G1 m1 H1 v e1 wd1 rx p1 => ?_⟩
  refine ⟨G1, m1, s1, H₀, r, ⟨wd1, a.2.ext e1⟩, p1.step (good_M _ _) fun y s2 G2 m2 H2 u e2 wd2 ry p2 => ?_⟩
  refine hi G2 m2 H2 s2 x y v u Q wd2 (RepO.ext rx e2) ry ?_
  cases q : f x y with
  | none => rw [q] at p2; exact p2.elim
  | some z => rw [q] at p2; exact p2
theorem de_bin {a b : Expr} {op : BO} {da db : Fm → M PV} {pos : Pos} {W : XK} (ha : PE X a (tD (sy X T) .O W da)) (hb : PE X b (tD (sy X T) .O W db)) : PE X (.BinOp a (opOf op) b pos) (tD (sy X T) .F W fun r => bnd (da r) fun x => bnd (db r) fun y => opt (binP op x y)) :=
  de_op2 (fun ta tb h1 h2 => pe_op (op_binP (T := T) op) h1 h2) ha hb fun G m H s x y v u Q wd rx ry p => ⟨G, m, s, x, y, wd, rx, ry, p⟩
theorem de_cmp {a b : Expr} {op : CO} {da db : Fm → M PV} {pos : Pos} {W : XK} (hu : X.A.units + 200 < cLine) (ha : PE X a (tD (sy X T) .O W da)) (hb : PE X b (tD (sy X T) .O W db)) (hm : behindInMarks (copOf op) b = false) :
    PE X (.Compare a [copOf op] [b] pos) (tD (sy X T) .F W fun r => bnd (da r) fun x => bnd (db r) fun y => opt ((cmpP op x y).map .bl)) :=
  de_op2 (fun ta tb h1 h2 => pe_cmpR (op_cmpP (T := T) hu op) h1 h2 hm) ha hb fun G m H s x y v u Q wd rx ry p => ⟨G, m, s, x, y, wd, rx, ry, p⟩
theorem de_ix {a b : Expr} {da db : Fm → M PV} {pos : Pos} {W : XK} (hu : X.A.units + 200 < cLine) (ha : PE X a (tD (sy X T) .O W da)) (hb : PE X b (tD (sy X T) .E W db)) (hs : PlainIx b) : PE X (.Subscript a b pos) (tD (sy X T) .E W fun r => bnd (da r) fun x => bnd (db r) fun y => fun s => opt (ixP s x y) s) := by
  refine (pe_ix (ix_P (T := T) hu) ha hb hs).imp fun σ H Q ⟨G, m, s, H₀, r, a, p⟩ => ?_
  refine ⟨G, m, s, H₀, r, a, p.step (good_M _ _) fun x s1 G1 m1 H1 v e1 wd1 rx p1 => ?_⟩
  refine ⟨G1, m1, s1, H₀, r, ⟨wd1, a.2.ext e1⟩, p1.step (good_M _ _) fun y s2 G2 m2 H2 u e2 wd2 ry p2 => ?_⟩
  refine ⟨G2, m2, s2, x, y, wd2, RepO.ext rx e2, .rep ry, ?_⟩
  cases q : ixP s2 x y with
  | none => rw [q] at p2; exact p2.elim
  | some z => rw [q] at p2; exact p2
/-- a test, its ways -/
theorem Post.tb {α β : Type} {S : Sy} {G H : Hp} {m : List Addr} {R : RT α β} (hR : R.Good) {x : M PV} {f : Bool → M α} {s : AS} {Q : β → Hp → Prop} {W : XK} (h : Post S R G m H (tst x f s) Q W) {Q' : Bool → Hp → Prop}
    (k : ∀ b s1 G1 m1 H1, Ext m m1 G G1 H H1 → Wd S G1 m1 s1 H1 → Post S R G1 m1 H1 (f b s1) Q W → Q' b H1) : Post S RepB G m H (tb x s) Q' W :=
  Post.step hR h fun a s1 G1 m1 H1 v e wd r p => by
    have : a = v := r
    subst this
    exact k a s1 G1 m1 H1 e wd p
/-- an expression as a test -/
theorem dt_val {e : Expr} {d : Fm → M PV} {W : XK} (h : PE X e (tD (sy X T) .E W d)) (he : ∀ whole, isTrue e X.env whole = (do let v ← whole; standAt e.pos; holding [v] (truthy v))) : PT X e (tDT (sy X T) W d) := by
  refine (pt_val h he).imp fun σ H Q ⟨G, m, s, H₀, r, a, p⟩ => ⟨G, m, s, H₀, r, a, Post.step good_B p fun x s1 G1 m1 H1 v e1 wd1 rx p1 => ?_⟩
  cases x with
  | bl b =>
    cases rx
    exact ⟨b, rfl, p1.ret wd1 rfl⟩
  | _ => exact p1.elim
theorem dt_cmp {a b : Expr} {op : CO} {da db : Fm → M PV} {pos : Pos} {W : XK} (hu : X.A.units + 200 < cLine) (ha : PE X a (tD (sy X T) .O W da)) (hb : PE X b (tD (sy X T) .O W db)) (hm : behindInMarks (copOf op) b = false) :
    PT X (.Compare a [copOf op] [b] pos) (tDT (sy X T) W fun r => bnd (da r) fun x => bnd (db r) fun y => opt ((cmpP op x y).map .bl)) := by
  refine (pt_cmpR (op_cmpP (T := T) hu op) ha hb hm).imp fun σ H Q ⟨G, m, s, H₀, r, a, p⟩ => ?_
  have key : tD (sy X T) .F W (fun r => bnd (da r) fun x => bnd (db r) fun y => opt ((cmpP op x y).map .bl)) σ H (fun x H1 => ∃ c, x = .bl c ∧ Q c H1) := ⟨G, m, s, H₀, r, a, Post.step good_B p fun x s1 G1 m1 H1 v e1 wd1 rx p1 => by
    cases x with
    | bl b =>
      cases rx with
      | val _ rx =>
      cases rx
      exact ⟨b, rfl, p1.ret wd1 rfl⟩
    | _ => exact p1.elim⟩
  obtain ⟨G, m, s, H₀, r, a, p⟩ := key
  refine ⟨G, m, s, H₀, r, a, p.step (good_M _ _) fun x s1 G1 m1 H1 v e1 wd1 rx p1 => ?_⟩
  refine ⟨G1, m1, s1, H₀, r, ⟨wd1, a.2.ext e1⟩, p1.step (good_M _ _) fun y s2 G2 m2 H2 u e2 wd2 ry p2 => ?_⟩
  refine ⟨G2, m2, s2, x, y, wd2, RepO.ext rx e2, ry, ?_⟩
  cases q : (cmpP op x y).map PV.bl with
  | none => rw [q] at p2; exact p2.elim
  | some z =>
    rw [q] at p2
    show Post _ _ _ _ _ (opt ((cmpP op x y).map PV.bl) s2) _ _
    rw [q]
    exact p2
end
end RP

/-! Fw8: expressions, further. Own work. -/
namespace RP
open PySem PySem.Spec PyProof.Rows L2

theorem bnd_assoc {α β γ : Type} (x : M α) (f : α → M β) (g : β → M γ) : bnd (bnd x f) g = bnd x fun a => bnd (f a) g := by
  funext s
  unfold bnd
  cases x s <;> rfl
section
variable {X : Cx} {T : List (Addr × Str)} {N : List Str} {k : Nat} {W : XK} {G : List Den} {GV : List (Str × Nat × Den)} {C : List PV} {fns : List (Str × Nat × Nat)} {gcs bls : List Str}
/-- a test by its value, in the middle of a chain -/
theorem Post.tv {α β : Type} {S : Sy} {G H : Hp} {m : List Addr} {R : RT α β} (hR : R.Good) {x : M PV} {f : Bool → M α} {s : AS} {Q : β → Hp → Prop} {W : XK} (h : Post S R G m H (tst x f s) Q W) {Q' : VK}
    (k : ∀ b s1 G1 m1 H1, Ext m m1 G G1 H H1 → Wd S G1 m1 s1 H1 → Post S R G1 m1 H1 (f b s1) Q W → Q' (.bl b) H1) : Post S (RepM S .E) G m H (x s) Q' W := by
  unfold tst RP.tb at h
  rw [bnd_assoc] at h
  refine Post.step hR h fun a s1 G1 m1 H1 v e wd r p => ?_
  cases a with
  | bl b =>
    cases r
    exact k b s1 G1 m1 H1 e wd p
  | _ => exact p.elim
theorem tb_tst (x : M PV) (f : Bool → M PV) : tb (tst x f) = tst x fun k => tb (f k) := by
  unfold tst
  conv => lhs; unfold RP.tb
  rw [bnd_assoc]
  rfl
theorem tb_ret (b : Bool) : tb (ret (.bl b)) = ret b := rfl
variable {a b c : Expr} {rest : List Expr} {da db dc : Fm → M PV} {pos : Pos}
theorem de_and (ha : PE X a (tD (sy X T) .E W da)) (hb : PE X (.BoolOp .And (b :: rest) pos) (tD (sy X T) .E W db)) :
    PE X (.BoolOp .And (a :: b :: rest) pos) (tD (sy X T) .E W fun r => tst (da r) fun k => if k then db r else ret (.bl false)) := by
  refine (pe_and ha hb).imp fun σ H Q ⟨G, m, s, H₀, r, a, p⟩ => ?_
  refine ⟨G, m, s, H₀, r, a, p.tv (good_M _ _) fun b s1 G1 m1 H1 e1 wd1 p1 => ⟨b, rfl, ?_⟩⟩
  cases b with
  | true => exact ⟨G1, m1, s1, H₀, r, ⟨wd1, a.2.ext e1⟩, p1⟩
  | false => exact p1.ret wd1 (.bl false)
theorem de_or (ha : PE X a (tD (sy X T) .E W da)) (hb : PE X (.BoolOp .Or (b :: rest) pos) (tD (sy X T) .E W db)) :
    PE X (.BoolOp .Or (a :: b :: rest) pos) (tD (sy X T) .E W fun r => tst (da r) fun k => if k then ret (.bl true) else db r) := by
  refine (pe_or ha hb).imp fun σ H Q ⟨G, m, s, H₀, r, a, p⟩ => ?_
  refine ⟨G, m, s, H₀, r, a, p.tv (good_M _ _) fun b s1 G1 m1 H1 e1 wd1 p1 => ⟨b, rfl, ?_⟩⟩
  cases b with
  | false => exact ⟨G1, m1, s1, H₀, r, ⟨wd1, a.2.ext e1⟩, p1⟩
  | true => exact p1.ret wd1 (.bl true)
theorem de_not (ha : PE X a (tD (sy X T) .E W da)) : PE X (.UnaryOp .Not a pos) (tD (sy X T) .F W fun r => tst (da r) fun k => ret (.bl (!k))) := by
  refine (pe_not ha).imp fun σ H Q ⟨G, m, s, H₀, r, a, p⟩ => ?_
  exact ⟨G, m, s, H₀, r, a, p.tv (good_M _ _) fun b s1 G1 m1 H1 e1 wd1 p1 => ⟨b, rfl, p1.ret wd1 (.val rfl (.bl _))⟩⟩
theorem dt_not (ha : PT X a (tDT (sy X T) W da)) : PT X (.UnaryOp .Not a pos) (tDT (sy X T) W fun r => tst (da r) fun k => ret (.bl (!k))) := by
  refine (pt_not ha).imp fun σ H Q ⟨G, m, s, H₀, r, a, p⟩ => ?_
  dsimp only at p
  rw [tb_tst] at p
  exact ⟨G, m, s, H₀, r, a, p.tb good_B fun b s1 G1 m1 H1 e1 wd1 p1 => p1.ret wd1 rfl⟩
theorem PWimp {e : Expr} {t t' : TT} (h : PW X e t) (hi : ∀ σ H Q, t' σ H Q → t σ H Q) : PW X e t' := ⟨fun wh pins s σ H Q I hw => h.run wh pins s σ H Q I (hi σ H Q hw)⟩
theorem dw_and (ha : PT X a (tDT (sy X T) W da)) (hb : PW X (.BoolOp .And (b :: rest) pos) (tDT (sy X T) W db)) :
    PW X (.BoolOp .And (a :: b :: rest) pos) (tDT (sy X T) W fun r => tst (da r) fun k => if k then db r else ret (.bl false)) := by
  refine PWimp (pw_and ha hb) fun σ H Q ⟨G, m, s, H₀, r, a, p⟩ => ?_
  dsimp only at p
  rw [tb_tst] at p
  refine ⟨G, m, s, H₀, r, a, p.tb good_B fun b s1 G1 m1 H1 e1 wd1 p1 => ?_⟩
  cases b with
  | true => exact ⟨G1, m1, s1, H₀, r, ⟨wd1, a.2.ext e1⟩, p1⟩
  | false => exact p1.ret wd1 rfl
theorem dw_or (ha : PT X a (tDT (sy X T) W da)) (hb : PW X (.BoolOp .Or (b :: rest) pos) (tDT (sy X T) W db)) :
    PW X (.BoolOp .Or (a :: b :: rest) pos) (tDT (sy X T) W fun r => tst (da r) fun k => if k then ret (.bl true) else db r) := by
  refine PWimp (pw_or ha hb) fun σ H Q ⟨G, m, s, H₀, r, a, p⟩ => ?_
  dsimp only at p
  rw [tb_tst] at p
  refine ⟨G, m, s, H₀, r, a, p.tb good_B fun b s1 G1 m1 H1 e1 wd1 p1 => ?_⟩
  cases b with
  | false => exact ⟨G1, m1, s1, H₀, r, ⟨wd1, a.2.ext e1⟩, p1⟩
  | true => exact p1.ret wd1 rfl
theorem de_neg (ha : PE X a (tD (sy X T) .E W da)) : PE X (.UnaryOp .USub a pos) (tD (sy X T) .F W fun r => bnd (da r) fun x => match x with
    | .int i => ret (.int (-i))
    | _ => stk) := by
  refine (pe_un un_neg ha).imp fun σ H Q ⟨G, m, s, H₀, r, a, p⟩ => ?_
  refine ⟨G, m, s, H₀, r, a, p.step (good_M _ _) fun x s1 G1 m1 H1 v e1 wd1 rx p1 => ?_⟩
  cases x with
  | int i =>
    cases rx
    exact ⟨i, rfl, p1.ret wd1 (.val rfl (.int _))⟩
  | _ => exact p1.elim
theorem de_ite (hc : PT X c (tDT (sy X T) W dc)) (ha : PE X a (tD (sy X T) .E W da)) (hb : PE X b (tD (sy X T) .E W db)) :
    PE X (.IfExp c a b pos) (tD (sy X T) .E W fun r => tst (dc r) fun k => if k then da r else db r) := by
  refine (pe_ifExp hc ha hb).imp fun σ H Q ⟨G, m, s, H₀, r, a, p⟩ => ?_
  refine ⟨G, m, s, H₀, r, a, p.tb (good_M _ _) fun b s1 G1 m1 H1 e1 wd1 p1 => ?_⟩
  cases b with
  | true => exact ⟨G1, m1, s1, H₀, r, ⟨wd1, a.2.ext e1⟩, p1⟩
  | false => exact ⟨G1, m1, s1, H₀, r, ⟨wd1, a.2.ext e1⟩, p1⟩
theorem dt_ite (hc : PT X c (tDT (sy X T) W dc)) (ha : PT X a (tDT (sy X T) W da)) (hb : PT X b (tDT (sy X T) W db)) :
    PT X (.IfExp c a b pos) (tDT (sy X T) W fun r => tst (dc r) fun k => if k then da r else db r) := by
  refine ⟨fun pins s σ H Q I ⟨G, m, st, H₀, r, at_, p⟩ => ?_⟩
  dsimp only at p
  rw [tb_tst] at p
  show wpAny _ _ (do if ← isTrue c X.env (eval c X.env) then isTrue a X.env (eval a X.env) else isTrue b X.env (eval b X.env)) _ _ _
  refine wpAny_bind (thn (hc.run pins s σ H _ I ⟨G, m, st, H₀, r, at_, p.tb good_B fun b s1 G1 m1 H1 e1 wd1 p1 => (⟨b, s1, G1, m1, e1, wd1, p1, rfl⟩ : ∃ (b' : Bool) (s1 : AS) (G1 : Hp) (m1 : List Addr), Ext m m1 G G1 H H1 ∧ Wd (sy X T) G1 m1 s1 H1 ∧ Post (sy X T) RepB G1 m1 H1 (tb (if b' then da r else db r) s1) Q W ∧ b = b')⟩) fun d s1 ⟨H1, I1, b', s1', G1, m1, e1, wd1, p1, eb⟩ => ?_)
  subst eb
  cases d with
  | true => exact ha.run pins s1 σ H1 Q I1 ⟨G1, m1, s1', H₀, r, ⟨wd1, at_.2.ext e1⟩, p1⟩
  | false => exact hb.run pins s1 σ H1 Q I1 ⟨G1, m1, s1', H₀, r, ⟨wd1, at_.2.ext e1⟩, p1⟩
theorem non_iff {S : Sy} {G : Hp} {m : List Addr} {x : PV} {v : V} (r : Rep S G m x v) : decide (v = .non) = isNonP x := by
  cases r <;> simp [isNonP]
theorem de_isN {j : Nat} {p1 : Pos} (ha : PE X a (tD (sy X T) .E W da)) : PE X (.Compare a [.Is] [.Constant .none j p1] pos) (tD (sy X T) .F W fun r => bnd (da r) fun x => ret (.bl (isNonP x))) := by
  refine (pe_cmp (pc_isN ha) rfl).imp fun σ H Q ⟨G, m, s, H₀, r, a, p⟩ => ?_
  refine ⟨G, m, s, H₀, r, a, p.step (good_M _ _) fun x s1 G1 m1 H1 v e1 wd1 rx p1 => ?_⟩
  rw [non_iff rx]
  exact p1.ret wd1 (.val rfl (.bl _))
theorem de_notN {j : Nat} {p1 : Pos} (ha : PE X a (tD (sy X T) .E W da)) : PE X (.Compare a [.IsNot] [.Constant .none j p1] pos) (tD (sy X T) .F W fun r => bnd (da r) fun x => ret (.bl (!isNonP x))) := by
  refine (pe_cmp (pc_notN ha) rfl).imp fun σ H Q ⟨G, m, s, H₀, r, a, p⟩ => ?_
  refine ⟨G, m, s, H₀, r, a, p.step (good_M _ _) fun x s1 G1 m1 H1 v e1 wd1 rx p1 => ?_⟩
  rw [non_iff rx]
  exact p1.ret wd1 (.val rfl (.bl _))
theorem dt_isN {j : Nat} {p1 : Pos} (ha : PE X a (tD (sy X T) .E W da)) : PT X (.Compare a [.Is] [.Constant .none j p1] pos) (tDT (sy X T) W fun r => bnd (da r) fun x => ret (.bl (isNonP x))) := by
  refine (pt_cmp (pc_isN ha) rfl).imp fun σ H Q ⟨G, m, s, H₀, r, a, p⟩ => ?_
  dsimp only at p
  unfold RP.tb at p
  rw [bnd_assoc] at p
  refine ⟨G, m, s, H₀, r, a, p.step good_B fun x s1 G1 m1 H1 v e1 wd1 rx p1 => ⟨_, rfl, ?_⟩⟩
  rw [non_iff rx]
  exact p1.ret wd1 rfl
theorem dt_notN {j : Nat} {p1 : Pos} (ha : PE X a (tD (sy X T) .E W da)) : PT X (.Compare a [.IsNot] [.Constant .none j p1] pos) (tDT (sy X T) W fun r => bnd (da r) fun x => ret (.bl (!isNonP x))) := by
  refine (pt_cmp (pc_notN ha) rfl).imp fun σ H Q ⟨G, m, s, H₀, r, a, p⟩ => ?_
  dsimp only at p
  unfold RP.tb at p
  rw [bnd_assoc] at p
  refine ⟨G, m, s, H₀, r, a, p.step good_B fun x s1 G1 m1 H1 v e1 wd1 rx p1 => ⟨_, rfl, ?_⟩⟩
  rw [non_iff rx]
  exact p1.ret wd1 rfl
/-- a op b op' c -/
theorem chain_ok {op op' : CO} {σ : L2.St} {H : Hp} {α β : Type} {R : RT α β} (hR : R.Good) {Q : β → Hp → Prop} {f : PV → M α} {Q' : Bool → Hp → Prop}
    (h : ∃ G m s H₀ r, At (sy X T) G m s H₀ H r σ ∧ Post (sy X T) R G m H (bnd (bnd (da r) fun x => bnd (db r) fun y => bnd (opt (cmpP op x y)) fun k => if k then bnd (dc r) fun z => opt ((cmpP op' y z).map .bl) else ret (.bl false)) f s) Q W)
    (hf : ∀ b s1 G1 m1 H1, Wd (sy X T) G1 m1 s1 H1 → Post (sy X T) R G1 m1 H1 (f (.bl b) s1) Q W → Q' b H1) :
    tD (sy X T) .E W da σ H fun x H1 => tD (sy X T) .E W db σ H1 fun y H2 => rO2 (sy X T) .F (fun a b => (cmpP op a b).map .bl) x y H2 fun z H3 => ∃ k, z = .bl k ∧
      if k = true then tD (sy X T) .E W dc σ H3 fun z' H4 => rO2 (sy X T) .F (fun a b => (cmpP op' a b).map .bl) y z' H4 fun z2 H5 => ∃ k2, z2 = .bl k2 ∧ Q' k2 H5 else Q' false H3 := by
  obtain ⟨G, m, s, H₀, r, a, p⟩ := h
  rw [bnd_assoc] at p
  refine ⟨G, m, s, H₀, r, a, p.step hR fun x s1 G1 m1 H1 v e1 wd1 rx p1 => ?_⟩
  rw [bnd_assoc] at p1
  refine ⟨G1, m1, s1, H₀, r, ⟨wd1, a.2.ext e1⟩, p1.step hR fun y s2 G2 m2 H2 u e2 wd2 ry p2 => ?_⟩
  refine ⟨G2, m2, s2, x, y, wd2, .rep (Rep.ext rx e2), .rep ry, ?_⟩
  dsimp only
  cases q : cmpP op x y with
  | none => rw [q] at p2; exact p2.elim
  | some kk =>
    rw [q] at p2
    intro G3 m3 H3 w e3 wd3 rz
    have p3 := Post.later hR e3 p2
    cases rz with
    | val _ rz =>
    cases rz
    refine ⟨kk, rfl, ?_⟩
    cases kk with
    | false => exact hf false s2 G3 m3 H3 wd3 p3
    | true =>
      rw [if_pos rfl]
      have p3 : Post (sy X T) R G3 m3 H3 (bnd (bnd (dc r) fun z => opt ((cmpP op' y z).map .bl)) f s2) Q W := p3
      rw [bnd_assoc] at p3
      refine ⟨G3, m3, s2, H₀, r, ⟨wd3, (a.2.ext e1).ext (e2.trans e3)⟩, p3.step hR fun z s4 G4 m4 H4 w e4 wd4 rz p4 => ?_⟩
      refine ⟨G4, m4, s4, y, z, wd4, .rep (Rep.ext (Rep.ext ry e3) e4), .rep rz, ?_⟩
      dsimp only
      cases q' : cmpP op' y z with
      | none => rw [q'] at p4; exact p4.elim
      | some k2 =>
        rw [q'] at p4
        intro G5 m5 H5 w5 e5 wd5 r5
        cases r5 with
        | val _ r5 =>
        cases r5
        exact ⟨k2, rfl, hf k2 s4 G5 m5 H5 wd5 (Post.later hR e5 p4)⟩
theorem rO2.mono {S : Sy} {k : Md} {f : PV → PV → Option PV} {x y : V} {H : Hp} {Q Q' : VK} (h : rO2 S k f x y H Q) (hQ : ∀ v H', Q v H' → Q' v H') : rO2 S k f x y H Q' := by
  obtain ⟨G, m, s, a, b, wd, ra, rb, p⟩ := h
  exact ⟨G, m, s, a, b, wd, ra, rb, p.imp (fun G' m' H' x v s' _ e w r => ⟨G', e, w, r⟩) hQ⟩
theorem de_chain {op op' : CO} (hu : X.A.units + 200 < cLine) (ha : PE X a (tD (sy X T) .E W da)) (hb : PE X b (tD (sy X T) .E W db)) (hc : PE X c (tD (sy X T) .E W dc)) (hm : lastMarks [copOf op, copOf op'] [b, c] = false) :
    PE X (.Compare a [copOf op, copOf op'] [b, c] pos) (tD (sy X T) .F W fun r => bnd (da r) fun x => bnd (db r) fun y => bnd (opt (cmpP op x y)) fun k => if k then bnd (dc r) fun z => opt ((cmpP op' y z).map .bl) else ret (.bl false)) := by
  refine (pe_chain (op_cmpP (T := T) hu op) (op_cmpP (T := T) hu op') ha hb hc hm).imp fun σ H Q ⟨G, m, s, H₀, r, a, p⟩ => ?_
  have key := chain_ok (T := T) (W := W) (da := da) (db := db) (dc := dc) (op := op) (op' := op') (σ := σ) (H := H) (R := RepM (sy X T) .F) (good_M _ _) (Q := Q) (f := fun x => ret x) (Q' := fun b H1 => Q (.bl b) H1) ⟨G, m, s, H₀, r, a, by
    have : ∀ x : M PV, bnd x (fun x => ret x) = x := fun x => by
      funext s
      unfold bnd
      cases x s <;> rfl
    rw [this]
    exact p⟩ (fun b s1 G1 m1 H1 wd1 p1 => p1.ret wd1 (.val rfl (.bl b)))
  obtain ⟨G, m, s, H₀, r, a, p⟩ := key
  refine ⟨G, m, s, H₀, r, a, p.imp (fun G' m' H' x v s' _ e w r => ⟨G', e, w, r⟩) fun v H1 h1 => ?_⟩
  obtain ⟨G, m, s, H₀, r, a, p⟩ := h1
  refine ⟨G, m, s, H₀, r, a, p.imp (fun G' m' H' x v s' _ e w r => ⟨G', e, w, r⟩) fun u H2 h2 => h2.mono fun z H3 ⟨k, e, h3⟩ => ⟨k, e, ?_⟩⟩
  cases k with
  | false => exact h3
  | true =>
    rw [if_pos rfl] at h3 ⊢
    obtain ⟨G, m, s, H₀, r, a, p⟩ := h3
    exact ⟨G, m, s, H₀, r, a, p.imp (fun G' m' H' x v s' _ e w r => ⟨G', e, w, r⟩) fun u H2 h2 => h2.mono fun z H3 ⟨k, e, h3⟩ => by rw [e]; exact h3⟩
theorem dt_chain {op op' : CO} (hu : X.A.units + 200 < cLine) (ha : PE X a (tD (sy X T) .E W da)) (hb : PE X b (tD (sy X T) .E W db)) (hc : PE X c (tD (sy X T) .E W dc)) (hm : lastMarks [copOf op, copOf op'] [b, c] = false) :
    PT X (.Compare a [copOf op, copOf op'] [b, c] pos) (tDT (sy X T) W fun r => bnd (da r) fun x => bnd (db r) fun y => bnd (opt (cmpP op x y)) fun k => if k then bnd (dc r) fun z => opt ((cmpP op' y z).map .bl) else ret (.bl false)) := by
  refine (pt_chain (op_cmpP (T := T) hu op) (op_cmpP (T := T) hu op') ha hb hc hm).imp fun σ H Q ⟨G, m, s, H₀, r, a, p⟩ => ?_
  have key := chain_ok (T := T) (W := W) (da := da) (db := db) (dc := dc) (op := op) (op' := op') (σ := σ) (H := H) (R := RepB) good_B (Q := Q) (f := fun x => opt (truth x)) (Q' := fun b H1 => Q b H1) ⟨G, m, s, H₀, r, a, p⟩ (fun b s1 G1 m1 H1 wd1 p1 => p1.ret wd1 rfl)
  obtain ⟨G, m, s, H₀, r, a, p⟩ := key
  refine ⟨G, m, s, H₀, r, a, p.imp (fun G' m' H' x v s' _ e w r => ⟨G', e, w, r⟩) fun v H1 h1 => ?_⟩
  obtain ⟨G, m, s, H₀, r, a, p⟩ := h1
  refine ⟨G, m, s, H₀, r, a, p.imp (fun G' m' H' x v s' _ e w r => ⟨G', e, w, r⟩) fun u H2 h2 => h2.mono fun z H3 ⟨k, e, h3⟩ => ⟨k, e, ?_⟩⟩
  cases k with
  | false => exact ⟨false, rfl, h3⟩
  | true =>
    rw [if_pos rfl] at h3 ⊢
    exact h3

/-! ### slices -/
theorem de_slLo {p2 : Pos} (ha : PE X a (tD (sy X T) .O W da)) (hb : PE X b (tD (sy X T) .E W db)) : PE X (.Subscript a (.Slice (some b) none none p2) pos) (tD (sy X T) .F W fun r => bnd (da r) fun x => bnd (db r) fun y => opt (slLoP x y)) := by
  refine (pe_slice (sl_P (T := T) true) ha (po_some hb) po_none).imp fun σ H Q ⟨G, m, s, H₀, r, a, p⟩ => ?_
  refine ⟨G, m, s, H₀, r, a, p.step (good_M _ _) fun x s1 G1 m1 H1 v e1 wd1 rx p1 => ?_⟩
  refine ⟨G1, m1, s1, H₀, r, ⟨wd1, a.2.ext e1⟩, p1.step (good_M _ _) fun y s2 G2 m2 H2 u e2 wd2 ry p2 => ?_⟩
  cases y with
  | int i =>
    cases ry
    refine ⟨i, rfl, G2, m2, s2, x, i, wd2, RepO.ext rx e2, rfl, rfl, ?_⟩
    show Post _ _ _ _ _ (opt (slLoP x (.int i)) s2) _ _
    cases q : slLoP x (.int i) with
    | none => rw [q] at p2; exact p2.elim
    | some z => rw [q] at p2; exact p2
  | _ => cases x <;> exact p2.elim
theorem de_slHi {p2 : Pos} (ha : PE X a (tD (sy X T) .O W da)) (hb : PE X b (tD (sy X T) .E W db)) : PE X (.Subscript a (.Slice none (some b) none p2) pos) (tD (sy X T) .F W fun r => bnd (da r) fun x => bnd (db r) fun y => opt (slHiP x y)) := by
  refine (pe_slice (sl_P (T := T) false) ha po_none (po_some hb)).imp fun σ H Q ⟨G, m, s, H₀, r, a, p⟩ => ?_
  refine ⟨G, m, s, H₀, r, a, p.step (good_M _ _) fun x s1 G1 m1 H1 v e1 wd1 rx p1 => ?_⟩
  refine ⟨G1, m1, s1, H₀, r, ⟨wd1, a.2.ext e1⟩, p1.step (good_M _ _) fun y s2 G2 m2 H2 u e2 wd2 ry p2 => ?_⟩
  cases y with
  | int i =>
    cases ry
    refine ⟨i, rfl, G2, m2, s2, x, i, wd2, RepO.ext rx e2, rfl, rfl, ?_⟩
    show Post _ _ _ _ _ (opt (slHiP x (.int i)) s2) _ _
    cases q : slHiP x (.int i) with
    | none => rw [q] at p2; exact p2.elim
    | some z => rw [q] at p2; exact p2
  | _ => cases x <;> exact p2.elim

/-! ### calls -/
variable {e : Expr} {es : List Expr} {x : Str} {p pos : Pos} {ds : Fm → M (List PV)}
theorem call_post {S : Sy} {H : Hp} {σ : L2.St} {Q : VK} {ar : Nat} {d : Den} {G : Hp} {m : List Addr} {s : AS} (hl : ∀ r s vs s', ds r s = .ok vs s' → vs.length = ar) {r : Fm} (p : Post S (RepM S .E) G m H (bnd (ds r) d s) Q W) :
    Post S (RepA S) G m H (ds r s) (fun vs H1 => SpD S ar d (vs ++ []) H1 Q W) W := by
  cases q : ds r s with
  | ok vs s1 =>
    intro G1 m1 H1 v e1 wd1 rx
    dsimp only [bnd] at p
    rw [q] at p
    rw [List.append_nil]
    exact ⟨G1, m1, s1, vs, hl _ _ _ _ q, wd1, rx, Post.later (good_M _ _) e1 p⟩
  | exc x s1 =>
    dsimp only [bnd] at p
    rw [q] at p
    exact p
  | stuck =>
    dsimp only [bnd] at p
    rw [q] at p
    exact p
abbrev StarOk (env : Env) (es : List Expr) : Prop := ∀ e0 e1, es = e0 :: e1 → starEach (e0 :: e1) env = (false, eval e0 env) :: starEach e1 env ∧ ∀ pos, (backTo pos (starEach e1 env)).any (·.1) = false
theorem de_call {j ar lv : Nat} (ok : Cok X T N k W G GV C fns gcs bls) (hj : fns[j]? = some (x, ar, lv)) (hg : Gl X x) (hdb : (x == ("__debug__" : Str)) = false) (ha : PA X (e :: es) (tDA (sy X T) W ds)) (hl : ∀ r s vs s', ds r s = .ok vs s' → vs.length = ar)
    (he : StarOk X.env (e :: es)) : PE X (.Call (.Name x p) (e :: es) [] pos) (tD (sy X T) .E W fun r => bnd (ds r) fun vs => getFn G j vs) := by
  obtain ⟨d, hd, ⟨f, fd, ps, hm, hk, hb, hps, F⟩, hlv⟩ := ok.fns j x ar lv hj
  have hgf : getFn G j = d := by unfold getFn; rw [hd]
  have hx : L2.Passes (L2N.CX X.prog X.w) X W := L2N.passes_call ok.tk fun _ _ _ _ h => h
  have hr := ok.room.mono hlv
  obtain ⟨h1, h2⟩ := he e es rfl
  refine (pe_call F hr hg hm hk hb .nil hx ha hdb h1 (h2 pos)).imp fun σ H Q ⟨G, m, s, H₀, r, a, p⟩ => ?_
  dsimp only at p
  rw [hgf] at p
  exact ⟨G, m, s, H₀, r, a, call_post (σ := σ) hl p⟩
theorem de_call0 {j lv : Nat} (ok : Cok X T N k W G GV C fns gcs bls) (hj : fns[j]? = some (x, 0, lv)) (hg : Gl X x) (hdb : (x == ("__debug__" : Str)) = false) : PE X (.Call (.Name x p) [] [] pos) (tD (sy X T) .E W fun r => bnd (ret []) fun vs => getFn G j vs) := by
  obtain ⟨d, hd, ⟨f, fd, ps, hm, hk, hb, hps, F⟩, hlv⟩ := ok.fns j x 0 lv hj
  have hgf : getFn G j = d := by unfold getFn; rw [hd]
  have hx : L2.Passes (L2N.CX X.prog X.w) X W := L2N.passes_call ok.tk fun _ _ _ _ h => h
  refine (pe_call0 F (ok.room.mono hlv) hg hm hk hb .nil hx hdb).imp fun σ H Q ⟨G, m, s, H₀, r, a, p⟩ => ?_
  dsimp only at p
  rw [hgf] at p
  exact ⟨G, m, s, [], rfl, a.1, .nil, p⟩
theorem _root_.L2.PE.any {ι : Type} {X : Cx} {e : Expr} {t : ι → TE} (h : ∀ i, PE X e (t i)) : PE X e (fun σ H Q => ∃ i, t i σ H Q) := ⟨fun pins s σ H Q I ⟨i, hw⟩ => (h i).run pins s σ H Q I hw⟩
theorem de_callv {i : Nat} (ok : Cok X T N k W G GV C fns gcs bls) (hN : X.N[i]? = some x) (hv : Vis X.env.scope x) (hd : (x == ("__debug__" : Str)) = false) (hcd : (x == ("__classdict__" : Str)) = false) (ha : PA X (e :: es) (tDA (sy X T) W ds))
    (he : StarOk X.env (e :: es)) : PE X (.Call (.Name x p) (e :: es) [] pos) (tD (sy X T) .E W fun r => match r.get i with
      | .sh (.fn x) => (match callP GV x with
        | some p => bnd (ds r) fun vs => callN p vs
        | none => stk)
      | _ => stk) := by
  have hx : L2.Passes (L2N.CX X.prog X.w) X W := L2N.passes_call ok.tk fun _ _ _ _ h => h
  obtain ⟨h1, h2⟩ := he e es rfl
  have all : ∀ q : { q : Addr × Nat × Den × Nat // ∃ fd ps, PySem.W.keepIn X.K (.ref q.1) = true ∧ L2.Binds X.K fd ps [] ∧ FnOk X.prog X.w X.K X.mg X.base (L2N.CX X.prog X.w) q.2.2.2 q.1 fd ps (SpD (sy X T) q.2.1 q.2.2.1) ∧ q.2.2.2 ≤ k },
      PE X (.Call (.Name x p) (e :: es) [] pos) (tCallL i q.1.1 (SpD (sy X T) q.1.2.1 q.1.2.2.1) [] W (tDA (sy X T) W ds)) := fun ⟨q, fd, ps, hk, hb, F, hlv⟩ =>
    pe_callL F (ok.room.mono hlv) hN hv hk hb .nil hx ha hd hcd h1 (h2 pos)
  refine (PE.any all).imp fun σ H Q ⟨G, m, s, H₀, r, a, p⟩ => ?_
  dsimp only at p
  obtain ⟨oa, hs, _⟩ := a.2.ex
  have h := hs i
  cases eg : r.get i with
  | sh f =>
    rw [eg] at h p
    obtain ⟨v, hv1, hv2⟩ := h
    cases f with
    | fn z =>
      cases hf : callP GV z with
      | none => dsimp only at p; rw [hf] at p; exact p.elim
      | some p0 =>
        dsimp only at p
        rw [hf] at p
        dsimp only at p
        have hm0 : p0 ∈ GV := List.mem_of_find?_eq_some hf
        have hz : p0.1 = z := by
          have := List.find?_some (show GV.find? (fun p => eqS p.1 z) = some p0 from hf)
          simp only [eqS_iff, decide_eq_true_eq] at this
          exact this
        obtain ⟨lv, ⟨fa, fd, ps, hm, hk, hb, hps, F⟩, hlv⟩ := ok.gvs p0 hm0
        cases hv2 with
        | fn hm2 =>
          rw [hz] at hm
          have : X.mg z = some (.ref _) := hm2
          rw [hm] at this
          cases this
          refine ⟨⟨(fa, p0.2.1, p0.2.2, lv), fd, ps, hk, hb, F, hlv⟩, hv1, G, m, s, H₀, r, a, ?_⟩
          cases q : ds r s with
          | ok vs s1 =>
            dsimp only [bnd] at p
            rw [q] at p
            intro G1 m1 H1 v e1' wd1 rx
            have p' : Post (sy X T) (RepM (sy X T) .E) G m H (callN p0 vs s1) Q W := p
            unfold callN at p'
            by_cases hlen : vs.length = p0.2.1
            · rw [if_pos hlen] at p'
              rw [List.append_nil]
              exact ⟨G1, m1, s1, vs, hlen, wd1, rx, Post.later (good_M _ _) e1' p'⟩
            · rw [if_neg hlen] at p'
              exact p'.elim
          | exc y s1 =>
            dsimp only [bnd] at p
            rw [q] at p
            exact p
          | stuck =>
            dsimp only [bnd] at p
            rw [q] at p
            exact p.elim
    | _ => exact p.elim
  | _ => rw [eg] at p; exact p.elim
/-- a built-in of one argument -/
theorem de_b1 {id : String} {kd : Md} {f : PV → Option PV} (hc : CallR X (.builtin id) (rC1 (sy X T) kd f)) (hg : Gl X x) (hm : X.mg x = none) (hv : bootBuiltins x = some (.builtin id)) (ha : PE X a (tD (sy X T) .O W da)) (hn : x ≠ "__name__") (hdb : (x == ("__debug__" : Str)) = false)
    (he : StarOk X.env [a]) : PE X (.Call (.Name x p) [a] [] pos) (tD (sy X T) kd W fun r => bnd (da r) fun v => opt (f v)) := by
  obtain ⟨h1, h2⟩ := he a [] rfl
  refine (pe_callB hc hg hm hv (pa_cons ha pa_nil h1) hn hdb h1 (h2 pos)).imp fun σ H Q ⟨G, m, s, H₀, r, a, p⟩ => ?_
  refine ⟨G, m, s, H₀, r, a, p.step (good_M _ _) fun x s1 G1 m1 H1 v e1 wd1 rx p1 => ⟨G1, m1, s1, x, v, rfl, wd1, rx, ?_⟩⟩
  cases q : f x with
  | none => rw [q] at p1; exact p1.elim
  | some z => rw [q] at p1; exact p1
theorem de_t1 {id : String} {kd : Md} {f : PV → Option PV} (hc : CallR X (.type id) (rC1 (sy X T) kd f)) (hg : Gl X x) (hm : X.mg x = none) (hv : bootBuiltins x = some (.type id)) (ha : PE X a (tD (sy X T) .O W da)) (hn : x ≠ "__name__") (hdb : (x == ("__debug__" : Str)) = false)
    (he : StarOk X.env [a]) : PE X (.Call (.Name x p) [a] [] pos) (tD (sy X T) kd W fun r => bnd (da r) fun v => opt (f v)) := by
  obtain ⟨h1, h2⟩ := he a [] rfl
  refine (pe_callTy hc hg hm hv (pa_cons ha pa_nil h1) hn hdb h1 (h2 pos)).imp fun σ H Q ⟨G, m, s, H₀, r, a, p⟩ => ?_
  refine ⟨G, m, s, H₀, r, a, p.step (good_M _ _) fun x s1 G1 m1 H1 v e1 wd1 rx p1 => ⟨G1, m1, s1, x, v, rfl, wd1, rx, ?_⟩⟩
  cases q : f x with
  | none => rw [q] at p1; exact p1.elim
  | some z => rw [q] at p1; exact p1
/-- isinstance(a, T) -/
theorem de_isinst {t : Ty} {y : Str} {py : Pos} (hg : Gl X x) (hm : X.mg x = none) (hv : bootBuiltins x = some (.builtin "isinstance")) (hgy : Gl X y) (hmy : X.mg y = none) (hvy : bootBuiltins y = some (.type (tyName t))) (ha : PE X a (tD (sy X T) .O W da)) (hn : x ≠ "__name__") (hdb : (x == ("__debug__" : Str)) = false) (hny : y ≠ "__name__") (hdby : (y == ("__debug__" : Str)) = false)
    (he : StarOk X.env [a, .Name y py]) : PE X (.Call (.Name x p) [a, .Name y py] [] pos) (tD (sy X T) .F W fun r => bnd (da r) fun v => opt ((isTyP t v).map .bl)) := by
  obtain ⟨h1, h2⟩ := he a [.Name y py] rfl
  refine (pe_callB (isi_P (T := T) t) hg hm hv (pa_cons ha (pa_cons (pe_bltn (v := .ty (tyName t)) hgy hmy hvy rfl hny hdby) pa_nil rfl) h1) hn hdb h1 (h2 pos)).imp fun σ H Q ⟨G, m, s, H₀, r, a, p⟩ => ?_
  refine ⟨G, m, s, H₀, r, a, p.step (good_M _ _) fun x s1 G1 m1 H1 v e1 wd1 rx p1 => ⟨G1, m1, s1, x, v, rfl, wd1, rx, ?_⟩⟩
  cases q : (isTyP t x).map PV.bl with
  | none => rw [q] at p1; exact p1.elim
  | some z => rw [q] at p1; exact p1
theorem de_min2 (hc : X.calm = true) (hg : Gl X x) (hm : X.mg x = none) (hv : bootBuiltins x = some (.builtin "min")) (ha : PE X a (tD (sy X T) .E W da)) (hb : PE X b (tD (sy X T) .E W db)) (hn : x ≠ "__name__") (hdb : (x == ("__debug__" : Str)) = false)
    (he : StarOk X.env [a, b]) (he2 : StarOk X.env [b]) : PE X (.Call (.Name x p) [a, b] [] pos) (tD (sy X T) .F W fun r => bnd (da r) fun x => bnd (db r) fun y => match x, y with
    | .int i, .int j => ret (.int (if j < i then j else i))
    | _, _ => stk) := by
  obtain ⟨h1, h2⟩ := he a [b] rfl
  refine (pe_callB (call_min2 hc) hg hm hv (pa_cons ha (pa_cons hb pa_nil (he2 b [] rfl).1) h1) hn hdb h1 (h2 pos)).imp fun σ H Q ⟨G, m, s, H₀, r, a, p⟩ => ?_
  refine ⟨G, m, s, H₀, r, a, p.step (good_M _ _) fun x s1 G1 m1 H1 v e1 wd1 rx p1 => ?_⟩
  refine ⟨G1, m1, s1, H₀, r, ⟨wd1, a.2.ext e1⟩, p1.step (good_M _ _) fun y s2 G2 m2 H2 u e2 wd2 ry p2 => ?_⟩
  cases x with
  | int i =>
    cases y with
    | int j =>
      cases rx
      cases ry
      exact ⟨i, j, rfl, p2.ret wd2 (.val rfl (.int _))⟩
    | _ => exact p2.elim
  | _ => exact p2.elim
theorem de_max2 (hc : X.calm = true) (hg : Gl X x) (hm : X.mg x = none) (hv : bootBuiltins x = some (.builtin "max")) (ha : PE X a (tD (sy X T) .E W da)) (hb : PE X b (tD (sy X T) .E W db)) (hn : x ≠ "__name__") (hdb : (x == ("__debug__" : Str)) = false)
    (he : StarOk X.env [a, b]) (he2 : StarOk X.env [b]) : PE X (.Call (.Name x p) [a, b] [] pos) (tD (sy X T) .F W fun r => bnd (da r) fun x => bnd (db r) fun y => match x, y with
    | .int i, .int j => ret (.int (if j > i then j else i))
    | _, _ => stk) := by
  obtain ⟨h1, h2⟩ := he a [b] rfl
  refine (pe_callB (call_max2 hc) hg hm hv (pa_cons ha (pa_cons hb pa_nil (he2 b [] rfl).1) h1) hn hdb h1 (h2 pos)).imp fun σ H Q ⟨G, m, s, H₀, r, a, p⟩ => ?_
  refine ⟨G, m, s, H₀, r, a, p.step (good_M _ _) fun x s1 G1 m1 H1 v e1 wd1 rx p1 => ?_⟩
  refine ⟨G1, m1, s1, H₀, r, ⟨wd1, a.2.ext e1⟩, p1.step (good_M _ _) fun y s2 G2 m2 H2 u e2 wd2 ry p2 => ?_⟩
  cases x with
  | int i =>
    cases y with
    | int j =>
      cases rx
      cases ry
      exact ⟨i, j, rfl, p2.ret wd2 (.val rfl (.int _))⟩
    | _ => exact p2.elim
  | _ => exact p2.elim
end
end RP

/-! Fw9: statements. Own work. -/
namespace RP
open PySem PySem.Spec PyProof.Rows L2

/-- what is frozen and what is mutable only grows -/
structure Lat (m m' : List Addr) (G G' : Hp) : Prop where
  le : ∀ a o, G a = some o → G' a = some o
  pre : ∃ t, m' = m ++ t
theorem Lat.refl {m : List Addr} {G : Hp} : Lat m m G G := ⟨fun _ _ h => h, [], by simp⟩
theorem Lat.trans {m m' m2 : List Addr} {G G' G2 : Hp} (a : Lat m m' G G') (b : Lat m' m2 G' G2) : Lat m m2 G G2 := ⟨fun x o h => b.le x o (a.le x o h), by
  obtain ⟨t, e⟩ := a.pre
  obtain ⟨u, e2⟩ := b.pre
  exact ⟨t ++ u, by rw [e2, e, List.append_assoc]⟩⟩
theorem Ext.lat {m m' : List Addr} {G G' H H' : Hp} (e : Ext m m' G G' H H') : Lat m m' G G' := ⟨e.le, e.pre⟩
/-! ### frames, stored -/
section
variable {S : Sy} {G G' H H' H₀ : Hp} {m m' : List Addr} {s : AS} {r : Fm} {σ : L2.St}
theorem get_set_same (r : Fm) (i : Nat) (x : Sl) (h : i < r.length) : Fm.get (r.set i x) i = x := by
  unfold Fm.get
  rw [List.getElem?_set_self h]
theorem get_set_ne (r : Fm) {i j : Nat} (x : Sl) (h : i ≠ j) : Fm.get (r.set i x) j = Fm.get r j := by
  unfold Fm.get
  rw [List.getElem?_set_ne h]
theorem get_out (r : Fm) {i : Nat} (h : r.length ≤ i) : Fm.get r i = .no := by
  unfold Fm.get
  rw [List.getElem?_eq_none h]
theorem set_out {α : Type} (r : List α) {i : Nat} (x : α) (h : r.length ≤ i) : r.set i x = r := List.set_eq_of_length_le h
/-- the frame with its places -/
structure FmAt (S : Sy) (G : Hp) (m : List Addr) (H₀ H : Hp) (r : Fm) (σ : L2.St) (oa : Nat → Addr) : Prop where
  len : r.length = σ.length
  ok : ∀ i, SlotOk S G m H₀ H (oa i) (Fm.get r i) σ[i]?
  inj : ∀ i j, (Fm.get r i).owns = true → (Fm.get r j).owns = true → oa i = oa j → i = j
theorem FmOk.at (f : FmOk S G m H₀ H r σ) : ∃ oa, FmAt S G m H₀ H r σ oa := let ⟨l, oa, h1, h2⟩ := f; ⟨oa, l, h1, h2⟩
theorem FmAt.fm {oa : Nat → Addr} (f : FmAt S G m H₀ H r σ oa) : FmOk S G m H₀ H r σ := ⟨f.len, oa, f.ok, f.inj⟩
theorem FmAt.ext {oa : Nat → Addr} (h : FmAt S G m H₀ H r σ oa) (e : Ext m m' G G' H H') : FmAt S G' m' H₀ H' r σ oa := ⟨h.len, fun i => (h.ok i).ext e, h.inj⟩
/-- what is owned stands in the heap -/
theorem SlotOk.there {b : Addr} {y : Sl} {o : Option (Option V)} (h : SlotOk S G m H₀ H b y o) (ho : y.owns = true) : ∃ u, H b = some u ∧ Mut (some u) ∧ ntbl u := by
  cases y with
  | ow xs =>
    obtain ⟨_, ⟨vs, e, _⟩, _⟩ := h
    exact ⟨_, e, True.intro, ntbl_lst⟩
  | od xs =>
    obtain ⟨_, ⟨vs, e, _⟩, _⟩ := h
    exact ⟨_, e, True.intro, ntbl_dct⟩
  | _ => cases ho
/-- a slot gets a content, at its own place a -/
theorem FmAt.put {oa : Nat → Addr} (f : FmAt S G m H₀ H r σ oa) (i : Nat) (x : Sl) (v : V) (a : Addr) (hx : SlotOk S G m H₀ H a x (some (some v))) (ha : x.owns = true → ∀ j, j ≠ i → (Fm.get r j).owns = true → a ≠ oa j) :
    FmAt S G m H₀ H (r.set i x) (σ.set i (some v)) (fun j => if j = i ∧ i < r.length then a else oa j) := by
  by_cases hi : i < r.length
  · refine ⟨by simp [f.len], fun j => ?_, fun j k hj hk e => ?_⟩
    · by_cases e : j = i
      · subst e
        rw [get_set_same r j x hi, List.getElem?_set_self (by rw [← f.len]; exact hi)]
        simpa [hi] using hx
      · rw [get_set_ne r x (Ne.symm e), List.getElem?_set_ne (Ne.symm e)]
        simpa [e] using f.ok j
    · by_cases ej : j = i
      · by_cases ek : k = i
        · rw [ej, ek]
        · subst ej
          rw [get_set_same r j x hi] at hj
          rw [get_set_ne r x (Ne.symm ek)] at hk
          simp only [hi, and_self, if_true, ek, false_and, if_false] at e
          exact (ha hj k ek hk e).elim
      · by_cases ek : k = i
        · subst ek
          rw [get_set_same r k x hi] at hk
          rw [get_set_ne r x (Ne.symm ej)] at hj
          simp only [hi, and_self, if_true, ej, false_and, if_false] at e
          exact (ha hk j ej hj e.symm).elim
        · rw [get_set_ne r x (Ne.symm ej)] at hj
          rw [get_set_ne r x (Ne.symm ek)] at hk
          simp only [ej, ek, false_and, if_false] at e
          exact f.inj j k hj hk e
  · rw [set_out r x (by omega), set_out σ _ (by rw [← f.len]; omega)]
    exact ⟨f.len, fun j => by simpa [hi] using f.ok j, fun j k hj hk e => f.inj j k hj hk (by simpa [hi] using e)⟩
theorem FmOk.putSh (f : FmOk S G m H₀ H r σ) (i : Nat) {x : PV} {v : V} (h : Rep S G m x v) : FmOk S G m H₀ H (r.set i (.sh x)) (σ.set i (some v)) := by
  obtain ⟨oa, f⟩ := f.at
  exact (f.put i (.sh x) v 0 ⟨v, rfl, h⟩ fun z => nomatch z).fm
theorem SlotOk.none {a : Addr} {o : Option (Option V)} : SlotOk S G m H₀ H a .no o := trivial
theorem FmOk.putNo (f : FmOk S G m H₀ H r σ) (i : Nat) : FmOk S G m H₀ H (r.set i .no) (σ.set i none) := by
  obtain ⟨oa, f⟩ := f.at
  by_cases hi : i < r.length
  · refine ⟨by simp [f.len], oa, fun j => ?_, fun j k hj hk e => ?_⟩
    · by_cases e : j = i
      · subst e
        show SlotOk S G m H₀ H (oa j) (Fm.get (r.set j .no) j) _
        rw [get_set_same r j _ hi]
        trivial
      · show SlotOk S G m H₀ H (oa j) (Fm.get (r.set i .no) j) _
        rw [get_set_ne r _ (Ne.symm e), List.getElem?_set_ne (Ne.symm e)]
        exact f.ok j
    · have h1 : j ≠ i := fun z => by
        subst z
        have hj : (Fm.get (r.set j .no) j).owns = true := hj
        rw [get_set_same r j _ hi] at hj; cases hj
      have h2 : k ≠ i := fun z => by
        subst z
        have hk : (Fm.get (r.set k .no) k).owns = true := hk
        rw [get_set_same r k _ hi] at hk; cases hk
      have hj : (Fm.get (r.set i .no) j).owns = true := hj
      have hk : (Fm.get (r.set i .no) k).owns = true := hk
      rw [get_set_ne r _ (Ne.symm h1)] at hj
      rw [get_set_ne r _ (Ne.symm h2)] at hk
      exact f.inj j k hj hk e
  · rw [set_out r _ (by omega), set_out σ _ (by rw [← f.len]; omega)]
    exact f.fm
/-- a new value is stored; G1, m1, H1: the moment ahead of its making -/
theorem FmOk.putF {G1 H1 : Hp} {m1 : List Addr} (f : FmOk S G1 m1 H₀ H1 r σ) (e1 : Ext m1 m G1 G H1 H) (h0 : ∀ a, H1 a = none → H₀ a = none) (i : Nat) {x : PV} {v : V} (h : RepF S G m H1 H x v) : FmOk S G m H₀ H (r.set i (ofV x)) (σ.set i (some v)) := by
  obtain ⟨oa, f⟩ := f.at
  have fresh : ∀ {a : Addr}, H1 a = none → ∀ j, j ≠ i → (Fm.get r j).owns = true → a ≠ oa j := fun {a} hn j _ hj e => by
    obtain ⟨u, hu, _⟩ := (f.ok j).there hj
    rw [← e, hn] at hu; cases hu
  cases h with
  | val hx h =>
    have : ofV x = .sh x := by cases x <;> first | rfl | cases hx
    rw [this]
    exact (f.ext e1).fm.putSh i h
  | @lst a xs vs h hm hg hn r' => exact ((f.ext e1).put i (.ow xs) (.ref a) a ⟨rfl, ⟨_, h, r'⟩, hm, hg, h0 _ hn⟩ fun _ => fresh hn).fm
  | @dct a xs es h hm hg hn r' => exact ((f.ext e1).put i (.od xs) (.ref a) a ⟨rfl, ⟨_, h, r'⟩, hm, hg, h0 _ hn⟩ fun _ => fresh hn).fm
/-- an owned object is written -/
theorem write_own {G₀ : Hp} {m₀ : List Addr} {oa : Nat → Addr} {i : Nat} {x : Sl} {o : HO} (e : Ext m₀ m G₀ G H₀ H) (wd : Wd S G m s H) (f : FmAt S G m H₀ H r σ oa) (hi : (Fm.get r i).owns = true) (ho : x.owns = true)
    (hx : SlotOk S G m H₀ (upd H (oa i) o) (oa i) x σ[i]?) (hd : H (oa i) ≠ none) (hm : oa i ∉ m) (hg : G (oa i) = none) (h0 : H₀ (oa i) = none) (hT : ∀ ps, H (oa i) ≠ some (.tbl ps)) (hc : ∀ q, H (oa i) ≠ some (LamX.CodeO (oa i) q)) :
    Ext m₀ m G₀ G H₀ (upd H (oa i) o) ∧ Wd S G m s (upd H (oa i) o) ∧ FmOk S G m H₀ (upd H (oa i) o) (r.set i x) σ := by
  have kp : ∀ b u, b ≠ oa i → H b = some u → upd H (oa i) o b = some u := fun b u hb h => by rw [upd_ne hb]; exact h
  have gne : ∀ b u, G b = some u → b ≠ oa i := fun b u h z => by rw [z, hg] at h; cases h
  have mne : ∀ b, b ∈ m → b ≠ oa i := fun b h z => hm (z ▸ h)
  have hlt : i < r.length := by
    by_cases q : i < r.length
    · exact q
    · rw [get_out r (by omega)] at hi; cases hi
  refine ⟨⟨e.le, e.pre, e.newm, e.newG, fun b u h h1 h2 => ?_, fun b h => ?_⟩, ⟨fun b u h => ⟨kp b u (gne b u h) (wd.le b u h).1, (wd.le b u h).2⟩, wd.len, wd.nd, fun n b u h1 h2 => ?_, fun p hp => ?_⟩, ⟨by simp [f.len], oa, fun j => ?_, fun j k hj hk ee => ?_⟩⟩
  · exact kp b u (fun z => by rw [z, h0] at h; cases h) (e.keep b u h h1 h2)
  · by_cases hb : b = oa i
    · subst hb; rw [upd_same] at h; cases h
    · rw [upd_ne hb] at h; exact e.dom b h
  · have O := wd.obj n b u h1 h2
    have hb := mne b (List.mem_of_getElem? h1)
    cases O with
    | lst h r => exact .lst (kp _ _ hb h) r
    | ins hc h r => exact .ins hc (kp _ _ hb h) r
  · obtain ⟨ps, h1, h2, h3⟩ := wd.tab p hp
    refine ⟨ps, kp _ _ (fun z => hT ps (by rw [← z]; exact h1)) h1, h2, fun pos cv hcv => ?_⟩
    obtain ⟨c, e1, e2⟩ := h3 pos cv hcv
    exact ⟨c, e1, kp _ _ (fun z => hc _ (by rw [← z]; exact e2)) e2⟩
  · show SlotOk S G m H₀ _ (oa j) (Fm.get (r.set i x) j) _
    by_cases hj : j = i
    · subst hj
      rw [get_set_same r j x hlt]
      exact hx
    · rw [get_set_ne r x (Ne.symm hj)]
      have O := f.ok j
      cases q : Fm.get r j with
      | no => trivial
      | sh y => rw [q] at O; exact O
      | ow xs =>
        rw [q] at O
        obtain ⟨h1, ⟨vs, h2, h3⟩, h4⟩ := O
        exact ⟨h1, ⟨vs, kp _ _ (fun z => hj (f.inj j i (by rw [q]; rfl) hi z)) h2, h3⟩, h4⟩
      | od xs =>
        rw [q] at O
        obtain ⟨h1, ⟨vs, h2, h3⟩, h4⟩ := O
        exact ⟨h1, ⟨vs, kp _ _ (fun z => hj (f.inj j i (by rw [q]; rfl) hi z)) h2, h3⟩, h4⟩
  · have hj : (Fm.get (r.set i x) j).owns = true := hj
    have hk : (Fm.get (r.set i x) k).owns = true := hk
    refine f.inj j k ?_ ?_ ee
    · by_cases z : j = i
      · rw [z]; exact hi
      · rw [get_set_ne r x (Ne.symm z)] at hj; exact hj
    · by_cases z : k = i
      · rw [z]; exact hi
      · rw [get_set_ne r x (Ne.symm z)] at hk; exact hk
theorem upd_self {H : Hp} {a : Addr} {o : HO} (h : H a = some o) : upd H a o = H := by
  funext b
  by_cases hb : b = a
  · subst hb; rw [upd_same, h]
  · rw [upd_ne hb]
/-- an owned object is shared from now on (and locked, if it is a dict) -/
theorem freeze_at {G₀ : Hp} {m₀ : List Addr} {oa : Nat → Addr} {i : Nat} {o o' : HO} {y : PV} (e : Ext m₀ m G₀ G H₀ H) (wd : Wd S G m s H) (f : FmAt S G m H₀ H r σ oa) (hlt : i < r.length) (hy : (Fm.get r i).freeze = .sh y) (ho : H (oa i) = some o)
    (no : ntbl o) (no' : ntbl o') (hc : ∀ q, H (oa i) ≠ some (LamX.CodeO (oa i) q)) (hs : σ[i]? = some (some (.ref (oa i)))) (hm : oa i ∉ m) (hg : G (oa i) = none) (h0 : H₀ (oa i) = none) (hi : (Fm.get r i).owns = true)
    (hr : ∀ G', (∀ b u, G b = some u → G' b = some u) → G' (oa i) = some o' → Rep S G' m y (.ref (oa i))) : ∃ G', Lat m m G G' ∧ Ext m₀ m G₀ G' H₀ (upd H (oa i) o') ∧ Wd S G' m s (upd H (oa i) o') ∧ FmOk S G' m H₀ (upd H (oa i) o') (Fm.freeze r i) σ := by
  obtain ⟨le, wd'⟩ := lockG (o' := o') wd ho hm no' no hc hg
  refine ⟨_, ⟨le, [], by simp⟩, e.lock h0 hg, wd', ⟨by simp [Fm.freeze, f.len], oa, fun j => ?_, fun j k hj hk ee => ?_⟩⟩
  · show SlotOk S _ m H₀ _ (oa j) (Fm.get (r.set i (Fm.get r i).freeze) j) _
    by_cases hj : j = i
    · subst hj
      rw [get_set_same r j _ hlt, hy]
      exact ⟨_, hs, hr _ le upd_same⟩
    · rw [get_set_ne r _ (Ne.symm hj)]
      have O := f.ok j
      cases q : Fm.get r j with
      | no => trivial
      | sh y =>
        rw [q] at O
        obtain ⟨v, h1, h2⟩ := O
        exact ⟨v, h1, h2.mono le ⟨[], by simp⟩⟩
      | ow xs =>
        rw [q] at O
        have ne : oa j ≠ oa i := fun z => hj (f.inj j i (by rw [q]; rfl) hi z)
        obtain ⟨h1, ⟨vs, h2, h3⟩, h4, h5, h6⟩ := O
        exact ⟨h1, ⟨vs, by rw [upd_ne ne]; exact h2, h3.mono le ⟨[], by simp⟩⟩, h4, by rw [upd_ne ne]; exact h5, h6⟩
      | od xs =>
        rw [q] at O
        have ne : oa j ≠ oa i := fun z => hj (f.inj j i (by rw [q]; rfl) hi z)
        obtain ⟨h1, ⟨vs, h2, h3⟩, h4, h5, h6⟩ := O
        exact ⟨h1, ⟨vs, by rw [upd_ne ne]; exact h2, h3.mono le ⟨[], by simp⟩⟩, h4, by rw [upd_ne ne]; exact h5, h6⟩
  · have hj : (Fm.get (r.set i (Fm.get r i).freeze) j).owns = true := hj
    have hk : (Fm.get (r.set i (Fm.get r i).freeze) k).owns = true := hk
    refine f.inj j k ?_ ?_ ee
    · by_cases z : j = i
      · rw [z]; exact hi
      · rw [get_set_ne r _ (Ne.symm z)] at hj; exact hj
    · by_cases z : k = i
      · rw [z]; exact hi
      · rw [get_set_ne r _ (Ne.symm z)] at hk; exact hk
theorem freeze_same (h : (Fm.get r i).freeze = Fm.get r i) : Fm.freeze r i = r := by
  unfold Fm.freeze
  by_cases hlt : i < r.length
  · rw [h]
    unfold Fm.get
    rw [List.getElem?_eq_getElem hlt]
    exact List.set_getElem_self hlt
  · exact set_out r _ (by omega)
end

/-! ### the judgement -/
/-- what is wanted behind statements of a def that was entered at (G₀, m₀, H₀), as seen from the moment (Gb, mb) -/
def PostS (S : Sy) (G₀ : Hp) (m₀ : List Addr) (H₀ Gb : Hp) (mb : List Addr) (res : Res Fl) (D : Ends) (W : XK) : Prop := match res with
  | .ok (.nx r) s => ∀ G m H σ, Ext m₀ m G₀ G H₀ H → Lat mb m Gb G → At S G m s H₀ H r σ → D.nx σ H
  | .ok (.bk r) s => ∀ G m H σ, Ext m₀ m G₀ G H₀ H → Lat mb m Gb G → At S G m s H₀ H r σ → D.bk σ H
  | .ok (.ct r) s => ∀ G m H σ, Ext m₀ m G₀ G H₀ H → Lat mb m Gb G → At S G m s H₀ H r σ → D.ct σ H
  | .ok (.rt x) s => ∀ G m H v, Ext m₀ m G₀ G H₀ H → Wd S G m s H → Rep S G m x v → D.rt v H
  | .exc x s => ∀ G m H cls d, Ext m₀ m G₀ G H₀ H → Wd S G m s H → ExcR S G m H x cls d → W cls d H
  | .stuck => False
/-- a moment of a def: its entry, the moment that one looks from, now -/
structure Now (S : Sy) (G₀ : Hp) (m₀ : List Addr) (H₀ Gb : Hp) (mb : List Addr) (G : Hp) (m : List Addr) (s : AS) (H : Hp) (r : Fm) (σ : L2.St) : Prop where
  ext : Ext m₀ m G₀ G H₀ H
  lat : Lat mb m Gb G
  wd : Wd S G m s H
  fm : FmOk S G m H₀ H r σ
def tS (S : Sy) (W : XK) (d : Fm → M Fl) : TS := fun D σ H => ∃ G₀ m₀ H₀ Gb mb G m s r, Now S G₀ m₀ H₀ Gb mb G m s H r σ ∧ PostS S G₀ m₀ H₀ Gb mb (d r s) D W
section
variable {S : Sy} {G G' H H' H₀ G₀ Gb : Hp} {m m' m₀ mb : List Addr} {s : AS} {r : Fm} {σ : L2.St} {W : XK} {D : Ends}
theorem Now.at (a : Now S G₀ m₀ H₀ Gb mb G m s H r σ) : At S G m s H₀ H r σ := ⟨a.wd, a.fm⟩
theorem Now.go {G1 H1 : Hp} {m1 : List Addr} {s1 : AS} (a : Now S G₀ m₀ H₀ Gb mb G m s H r σ) (e : Ext m m1 G G1 H H1) (wd : Wd S G1 m1 s1 H1) : Now S G₀ m₀ H₀ Gb mb G1 m1 s1 H1 r σ := ⟨a.ext.trans e, a.lat.trans e.lat, wd, a.fm.ext e⟩
/-- seen from later on -/
theorem PostS.base {res : Res Fl} (h : PostS S G₀ m₀ H₀ Gb mb res D W) (l : Lat mb m Gb G) : PostS S G₀ m₀ H₀ G m res D W := by
  cases res with
  | ok f s =>
    cases f with
    | nx r => exact fun G' m' H' σ' e l' a => h G' m' H' σ' e (l.trans l') a
    | bk r => exact fun G' m' H' σ' e l' a => h G' m' H' σ' e (l.trans l') a
    | ct r => exact fun G' m' H' σ' e l' a => h G' m' H' σ' e (l.trans l') a
    | rt x => exact h
  | exc x s => exact h
  | stuck => exact h
theorem PostS.nx (h : PostS S G₀ m₀ H₀ Gb mb (ret (.nx r) s) D W) (a : Now S G₀ m₀ H₀ Gb mb G m s H r σ) : D.nx σ H := h G m H σ a.ext a.lat a.at
/-- an expression within a statement -/
theorem PostS.step {γ δ : Type} {R' : RT γ δ} {x : M γ} {f : γ → M Fl} (a : Now S G₀ m₀ H₀ Gb mb G m s H r σ) (h : PostS S G₀ m₀ H₀ Gb mb (bnd x f s) D W) {Q' : δ → Hp → Prop}
    (k : ∀ y s1 G1 m1 H1 v, Ext m m1 G G1 H H1 → Now S G₀ m₀ H₀ Gb mb G1 m1 s1 H1 r σ → R' H G1 m1 H1 y v → PostS S G₀ m₀ H₀ Gb mb (f y s1) D W → Q' v H1) : Post S R' G m H (x s) Q' W := by
  unfold bnd at h
  cases q : x s with
  | ok y s1 =>
    rw [q] at h
    exact fun G1 m1 H1 v e1 wd r => k y s1 G1 m1 H1 v e1 (a.go e1 wd) r h
  | exc x' s1 =>
    rw [q] at h
    exact fun G1 m1 H1 c d e1 wd r => h G1 m1 H1 c d (a.ext.trans e1) wd r
  | stuck =>
    rw [q] at h
    exact h
theorem PostS.tb {x : M PV} {f : Bool → M Fl} (a : Now S G₀ m₀ H₀ Gb mb G m s H r σ) (h : PostS S G₀ m₀ H₀ Gb mb (tst x f s) D W) {Q' : Bool → Hp → Prop}
    (k : ∀ b s1 G1 m1 H1, Ext m m1 G G1 H H1 → Now S G₀ m₀ H₀ Gb mb G1 m1 s1 H1 r σ → PostS S G₀ m₀ H₀ Gb mb (f b s1) D W → Q' b H1) : Post S RepB G m H (tb x s) Q' W :=
  PostS.step a h fun y s1 G1 m1 H1 v e1 e2 r p => by
    have : y = v := r
    subst this
    exact k y s1 G1 m1 H1 e1 e2 p
theorem Now.putSh (a : Now S G₀ m₀ H₀ Gb mb G m s H r σ) (i : Nat) {x : PV} {v : V} (h : Rep S G m x v) : Now S G₀ m₀ H₀ Gb mb G m s H (r.set i (.sh x)) (σ.set i (some v)) := ⟨a.ext, a.lat, a.wd, a.fm.putSh i h⟩
end
end RP

/-! Fw10: statements' rules. Own work. -/
namespace RP
open PySem PySem.Spec PyProof.Rows L2

section
variable {X : Cx} {T : List (Addr × Str)} {N : List Str} {k : Nat} {W : XK} {Gd : List Den} {GV : List (Str × Nat × Den)} {C : List PV} {fns : List (Str × Nat × Nat)} {gcs bls : List Str}
variable {e : Expr} {d : Fm → M PV} {pos py : Pos} {i : Nat} {y : Str}
theorem ds_set (hN : X.N.Nodup) (hi : X.N[i]? = some y) (hx : Loc X.env.scope y) (hf : X.fn y = true ∨ X.env.scope.names.lookup y = some .local) (he : PE X e (tD (sy X T) .E W d)) (hs : swapsWith e (some (.Name y py)) pos.line X.env = pure false) :
    PS X (.Assign [.Name y py] e pos) (tS (sy X T) W fun r => bnd (d r) fun v => ret (.nx (r.set i (.sh v)))) := by
  refine (ps_set hN hi hx he hs hf).imp fun D σ H ⟨G₀, m₀, H₀, Gb, mb, G, m, s, r, a, p⟩ => ?_
  exact ⟨G, m, s, H₀, r, a.at, PostS.step a p fun x s1 G1 m1 H1 v e1 a1 rx p1 => p1.nx (a1.putSh i rx)⟩
theorem ds_setO (hN : X.N.Nodup) (hi : X.N[i]? = some y) (hx : Loc X.env.scope y) (hf : X.fn y = true ∨ X.env.scope.names.lookup y = some .local) (he : PE X e (tD (sy X T) .F W d)) (hs : swapsWith e (some (.Name y py)) pos.line X.env = pure false) :
    PS X (.Assign [.Name y py] e pos) (tS (sy X T) W fun r => bnd (d r) fun v => ret (.nx (r.set i (ofV v)))) := by
  refine (ps_set hN hi hx he hs hf).imp fun D σ H ⟨G₀, m₀, H₀, Gb, mb, G, m, s, r, a, p⟩ => ?_
  exact ⟨G, m, s, H₀, r, a.at, PostS.step a p fun x s1 G1 m1 H1 v e1 a1 rx p1 => p1 G1 m1 H1 _ a1.ext a1.lat ⟨a1.wd, a.fm.putF e1 a.ext.dom i rx⟩⟩
/-- names of a target -/
inductive Tgs (X : Cx) : List Expr → List Nat → Prop
  | nil : Tgs X [] []
  | cons {y : Str} {py : Pos} {i : Nat} {es : List Expr} {is : List Nat} (hi : X.N[i]? = some y) (hx : Loc X.env.scope y) (hf : X.fn y = true ∨ X.env.scope.names.lookup y = some .local) (t : Tgs X es is) : Tgs X (.Name y py :: es) (i :: is)
/-- what binding does -/
def gBind (S : Sy) (is : List Nat) : TGs := fun vs σ H Q => ∃ G m s H₀ r xs r', At S G m s H₀ H r σ ∧ Reps S G m xs vs ∧ bindNs is xs r = some r' ∧ ∀ σ', (∀ H2, FmOk S G m H₀ H2 r σ → FmOk S G m H₀ H2 r' σ') → (∀ ws : List Nat, (∀ i, i ∈ is → i ∈ ws) → wipe σ' ws = wipe σ ws) → Q σ' H
theorem wipe_set {ws : List Nat} {σ : L2.St} {i : Nat} {v : Option V} (h : i ∈ ws) : wipe (σ.set i v) ws = wipe σ ws := by
  induction ws with
  | nil => cases h
  | cons w ws ih =>
    unfold wipe
    by_cases hi : i ∈ ws
    · rw [ih hi]
    · have hw : i = w := by
        rcases List.mem_cons.mp h with q | q
        · exact q
        · exact (hi q).elim
      subst hw
      have : ∀ (us : List Nat) (τ : L2.St), i ∉ us → wipe (τ.set i v) us = (wipe τ us).set i v := by
        intro us
        induction us with
        | nil => intro τ _; rfl
        | cons u us ihu =>
          intro τ hn
          unfold wipe
          rw [ihu τ (fun z => hn (List.mem_cons_of_mem _ z)), List.set_comm _ _ (fun z => hn (by subst z; exact List.mem_cons_self))]
      rw [this ws σ hi, List.set_set]
theorem tgs_ok (hN : X.N.Nodup) : ∀ {es : List Expr} {is : List Nat}, Tgs X es is → PGs X es (gBind (sy X T) is) ∧ (assignEach es X.env).length = is.length ∧ (assignEach es X.env).findIdx? (·.1) = none
  | _, _, .nil => by
    refine ⟨⟨fun pins s σ H vs us Q I r h => ?_⟩, rfl, rfl⟩
    obtain ⟨G, m, st, H₀, fm, xs, r', a, rx, hb, q⟩ := h
    cases xs with
    | nil =>
      cases rx
      simp only [bindNs, Option.some.injEq] at hb
      subst hb
      exact pgs_nil.run pins s σ H _ us Q I r ⟨rfl, q σ (fun _ h => h) fun _ _ => rfl⟩
    | cons x xs => simp [bindNs] at hb
  | _, _, .cons (y := y) (py := py) (i := i) (es := es) (is := is) hi hx hf t => by
    obtain ⟨ih, h1, h2⟩ := tgs_ok hN t
    have ec : (assignEach (.Name y py :: es) X.env) = (false, assign (.Name y py) X.env) :: assignEach es X.env := rfl
    refine ⟨⟨fun pins s σ H vs us Q I r h => ?_⟩, by rw [ec, List.length_cons, h1, List.length_cons], by rw [ec, List.findIdx?_cons, h2]; rfl⟩
    obtain ⟨G, m, st, H₀, fm, xs, r', a, rx, hb, q⟩ := h
    cases xs with
    | nil => simp [bindNs] at hb
    | cons x xs =>
      cases rx with
      | cons rx rxs =>
        refine (pgs_cons (pg_name (i := i) (pos := py) hN hi hx hf) ih rfl).run pins s σ H _ us Q I r ⟨_, _, rfl, ?_⟩
        exact ⟨G, m, st, H₀, _, xs, r', ⟨a.1, a.2.putSh i rx⟩, rxs, hb, fun σ' a' hw => q σ' (fun H2 f2 => a' H2 (f2.putSh i rx)) fun ws hm => (hw ws fun j hj => hm j (List.mem_cons_of_mem _ hj)).trans (wipe_set (hm i List.mem_cons_self))⟩
/-- targets of any form -/
inductive TgOk (X : Cx) : Expr → Tg → Prop
  | nm {y : Str} {py : Pos} {i : Nat} (hi : X.N[i]? = some y) (hx : Loc X.env.scope y) (hf : X.fn y = true ∨ X.env.scope.names.lookup y = some .local) : TgOk X (.Name y py) (.nm i)
  | tup {es : List Expr} {kk : Nat} {p : Pos} {is : List Nat} (t : Tgs X es is) : TgOk X (.Tuple es kk p) (.tup is)
def Tg.is : Tg → List Nat
  | .nm i => [i]
  | .tup is => is
def gTg (S : Sy) (t : Tg) : TG := fun v σ H Q => ∃ G m s H₀ r x r', At S G m s H₀ H r σ ∧ RepO S G m H x v ∧ (∀ i, t = .nm i → Rep S G m x v) ∧ bindT t x r = some r' ∧ ∀ σ', (∀ H2, FmOk S G m H₀ H2 r σ → FmOk S G m H₀ H2 r' σ') → (∀ ws : List Nat, (∀ i, i ∈ t.is → i ∈ ws) → wipe σ' ws = wipe σ ws) → Q σ' H
theorem tg_ok (hN : X.N.Nodup) (hc : X.calm = true) {e : Expr} {t : Tg} (h : TgOk X e t) : PG X e (gTg (sy X T) t) := by
  cases h with
  | @nm y py i hi hx hf =>
    refine ⟨fun pins s σ H v u Q I r h => ?_⟩
    obtain ⟨G, m, st, H₀, fm, x, r', a, rx, rn, hb, q⟩ := h
    simp only [bindT, Option.some.injEq] at hb
    subst hb
    exact (pg_name (i := i) hN hi hx hf).run pins s σ H v u Q I r (q _ (fun H2 f2 => f2.putSh i (rn i rfl)) fun ws hm => wipe_set (hm i (by simp [Tg.is])))
  | @tup es kk p is t =>
    obtain ⟨h1, h2, h3⟩ := tgs_ok (T := T) hN t
    refine ⟨fun pins s σ H v u Q I r h => ?_⟩
    obtain ⟨G, m, st, H₀, fm, x, r', a, rx, rn, hb, q⟩ := h
    cases x with
    | tup xs =>
      obtain ⟨b, vs, rfl, _, hs, rs⟩ := rx.tup' a.1
      have hl : vs.length = is.length := by
        rw [← rs.length]
        clear rs q rx rn h1 h2 h3 t
        have : ∀ (is : List Nat) (xs : List PV) (r : Fm) (r' : Fm), bindNs is xs r = some r' → xs.length = is.length := by
          intro is
          induction is with
          | nil => intro xs r r' h; cases xs with
            | nil => rfl
            | cons _ _ => simp [bindNs] at h
          | cons i is ih => intro xs r r' h; cases xs with
            | nil => simp [bindNs] at h
            | cons x xs => rw [List.length_cons, List.length_cons, ih _ _ _ (show bindNs is xs _ = some r' from h)]
        exact this _ _ _ _ (show bindNs is xs fm = some r' from hb)
      exact (pg_tup hc h1 h2 h3).run pins s σ H _ u Q I r ⟨b, vs, rfl, hs, hl, G, m, st, H₀, fm, xs, r', a, rs, hb, q⟩
    | _ => simp [bindT] at hb
theorem ds_setT {tg : Expr} {is : List Nat} {es : List Expr} {kk : Nat} {p : Pos} (hN : X.N.Nodup) (hc : X.calm = true) (ht : Tgs X es is) (he : PE X e (tD (sy X T) .O W d)) (hs : swapsWithSole [.Tuple es kk p] e pos.line X.env = pure false) (hw : swappedStores [.Tuple es kk p] e X.env = pure none) :
    PS X (.Assign [.Tuple es kk p] e pos) (tS (sy X T) W fun r => bnd (d r) fun v => bnd (opt (bndN is v r)) fun r' => ret (.nx r')) := by
  refine (ps_asg he (tg_ok (T := T) hN hc (.tup (kk := kk) (p := p) ht)) hs hw rfl).imp fun D σ H ⟨G₀, m₀, H₀, Gb, mb, G, m, s, r, a, p⟩ => ?_
  refine ⟨G, m, s, H₀, r, a.at, PostS.step a p fun x s1 G1 m1 H1 v e1 a1 rx p1 => ?_⟩
  have p1 : PostS (sy X T) G₀ m₀ H₀ Gb mb (bnd (opt (bndN is x r)) (fun r' => ret (.nx r')) s1) D W := p1
  cases q : bndN is x r with
  | none => rw [q] at p1; exact p1.elim
  | some r' =>
    rw [q] at p1
    refine ⟨G1, m1, s1, H₀, r, x, r', a1.at, rx, (fun _ z => nomatch z), ?_, fun σ' a' _ => p1 G1 m1 H1 σ' a1.ext a1.lat ⟨a1.wd, a' H1 a1.fm⟩⟩
    cases x with
    | tup xs => exact q
    | _ => simp [bndN] at q
/-- a, b = x, y -/
theorem ds_par2 {i j : Nat} {x y : Str} {a b : Expr} {ds : Fm → M (List PV)} {px py pt pt2 : Pos} {kt k2 : Nat} (hc : X.calm = true) (hN : X.N.Nodup) (hi : X.N[i]? = some x) (hj : X.N[j]? = some y) (hij : i ≠ j)
    (hx : X.env.scope.names.lookup x = some .local) (hy : X.env.scope.names.lookup y = some .local) (ha : PA X [a, b] (tDA (sy X T) W ds))
    (hw : swappedStores [.Tuple [.Name x px, .Name y py] kt pt] (.Tuple [a, b] k2 pt2) X.env = pure (some [x, y])) :
    PS X (.Assign [.Tuple [.Name x px, .Name y py] kt pt] (.Tuple [a, b] k2 pt2) pos) (tS (sy X T) W fun r => bnd (ds r) fun vs => bnd (opt (bindNs [i, j] vs r)) fun r' => ret (.nx r')) := by
  refine (ps_par hc hN hi hj hij hx hy ha hw rfl).imp fun D σ H ⟨G₀, m₀, H₀, Gb, mb, G, m, s, r, a, p⟩ => ?_
  refine ⟨G, m, s, H₀, r, a.at, PostS.step a p fun xs s1 G1 m1 H1 v e1 a1 rx p1 => ?_⟩
  match xs, rx, p1 with
  | [x1, x2], .cons r1 (.cons r2 .nil), p1 => exact ⟨_, _, rfl, p1.nx ((a1.putSh i r1).putSh j r2)⟩
  | [], rx, p1 => exact p1.elim
  | [_], rx, p1 => exact p1.elim
  | _ :: _ :: _ :: _, rx, p1 => exact p1.elim
theorem ds_par3 {i j l : Nat} {x y z : Str} {a b c : Expr} {ds : Fm → M (List PV)} {px py pz pt pt2 : Pos} {kt k2 : Nat} (hc : X.calm = true) (hN : X.N.Nodup) (hi : X.N[i]? = some x) (hj : X.N[j]? = some y) (hl : X.N[l]? = some z) (hij : i ≠ j) (hil : i ≠ l) (hjl : j ≠ l)
    (hx : X.env.scope.names.lookup x = some .local) (hy : X.env.scope.names.lookup y = some .local) (hz : X.env.scope.names.lookup z = some .local) (ha : PA X [a, b, c] (tDA (sy X T) W ds))
    (hw : swappedStores [.Tuple [.Name x px, .Name y py, .Name z pz] kt pt] (.Tuple [a, b, c] k2 pt2) X.env = pure (some [x, y, z])) :
    PS X (.Assign [.Tuple [.Name x px, .Name y py, .Name z pz] kt pt] (.Tuple [a, b, c] k2 pt2) pos) (tS (sy X T) W fun r => bnd (ds r) fun vs => bnd (opt (bindNs [i, j, l] vs r)) fun r' => ret (.nx r')) := by
  refine (ps_par3 hc hN hi hj hl hij hil hjl hx hy hz ha hw rfl).imp fun D σ H ⟨G₀, m₀, H₀, Gb, mb, G, m, s, r, a, p⟩ => ?_
  refine ⟨G, m, s, H₀, r, a.at, PostS.step a p fun xs s1 G1 m1 H1 v e1 a1 rx p1 => ?_⟩
  match xs, rx, p1 with
  | [x1, x2, x3], .cons r1 (.cons r2 (.cons r3 .nil)), p1 => exact ⟨_, _, _, rfl, p1.nx (((a1.putSh i r1).putSh j r2).putSh l r3)⟩
  | [], rx, p1 => exact p1.elim
  | [_], rx, p1 => exact p1.elim
  | [_, _], rx, p1 => exact p1.elim
  | _ :: _ :: _ :: _ :: _, rx, p1 => exact p1.elim
/-- x.append(e) -/
theorem ds_app {x : Str} {px apos cpos : Pos} (hN : X.N[i]? = some x) (hv : Vis X.env.scope x) (hd : (x == ("__debug__" : Str)) = false) (hcd : (x == ("__classdict__" : Str)) = false) (he : PE X e (tD (sy X T) .E W d)) (hl : (apos.endLine == cpos.line) = true) (hs : starEach [e] X.env = [(false, eval e X.env)]) :
    PS X (.Expr (.Call (.Attribute (.Name x px) "append" apos) [e] [] cpos) pos) (tS (sy X T) W fun r => match Fm.get r i with
      | .ow xs => bnd (d r) fun v => if xs.length < LIM then ret (.nx (r.set i (.ow (xs ++ [v])))) else stk
      | _ => stk) := by
  refine (ps_expr (pe_bm PySem.F.plainAttrs_list PySem.F.slot_list_append PySem.F.type_list_append mt_append (pe_var hN hv hd hcd) (pa_cons he pa_nil (by rw [hs]; rfl)) rfl (by rw [hs]; rfl) hl (by rw [hs]; rfl) rfl) rfl).imp fun D σ H ⟨G₀, m₀, H₀, Gb, mb, G, m, s, r, a, p⟩ => ?_
  dsimp only at p
  obtain ⟨oa, f⟩ := a.fm.at
  have O := f.ok i
  cases q : Fm.get r i with
  | ow xs =>
    rw [q] at O p
    obtain ⟨h1, ⟨vs, h2, h3⟩, h4, h5, h6⟩ := O
    refine ⟨_, h1, .inl ⟨rfl, vs, .inl (.inl h2)⟩, G, m, s, H₀, r, a.at, PostS.step a p fun z s1 G1 m1 H1 v e1 a1 rz p1 => ?_⟩
    have f1 := f.ext e1
    have O1 := f1.ok i
    rw [q] at O1
    obtain ⟨_, ⟨ws, g2, g3⟩, g4, g5, g6⟩ := O1
    by_cases c : xs.length < LIM
    · rw [if_pos c] at p1
      have p1 : PostS (sy X T) G₀ m₀ H₀ Gb mb (.ok (.nx (r.set i (.ow (xs ++ [z])))) s1) D W := p1
      refine ⟨oa i, ws, v, rfl, rfl, g2, by rw [← g3.length]; exact Nat.lt_of_lt_of_le c LIM_le, ?_⟩
      obtain ⟨k1, k2, k3⟩ := write_own (i := i) (x := .ow (xs ++ [z])) (o := .lst (ws ++ [v])) a1.ext a1.wd f1 (by rw [q]; rfl) rfl ⟨h1, ⟨_, upd_same, g3.append (.cons rz .nil)⟩, g4, g5, g6⟩ (by rw [g2]; exact fun z => nomatch z) g4 g5 g6 (by rw [g2]; exact fun _ z => nomatch z) (by rw [g2]; exact fun _ z => nomatch z)
      exact p1 _ _ _ _ k1 a1.lat ⟨k2, k3⟩
    · rw [if_neg c] at p1
      exact p1.elim
  | _ => rw [q] at p; exact p.elim
/-- x.extend(e) -/
theorem ds_ext {x : Str} {px apos cpos : Pos} (hN : X.N[i]? = some x) (hv : Vis X.env.scope x) (hd : (x == ("__debug__" : Str)) = false) (hcd : (x == ("__classdict__" : Str)) = false) (he : PE X e (tD (sy X T) .O W d)) (hl : (apos.endLine == cpos.line) = true) (hs : starEach [e] X.env = [(false, eval e X.env)]) :
    PS X (.Expr (.Call (.Attribute (.Name x px) "extend" apos) [e] [] cpos) pos) (tS (sy X T) W fun r => match Fm.get r i with
      | .ow xs => bnd (d r) fun v => match v with
        | .lst ys => if xs.length + ys.length ≤ LIM then ret (.nx (r.set i (.ow (xs ++ ys)))) else stk
        | _ => stk
      | _ => stk) := by
  refine (ps_expr (pe_bm PySem.F.plainAttrs_list PySem.F.slot_list_extend PySem.F.type_list_extend mt_extend (pe_var hN hv hd hcd) (pa_cons he pa_nil (by rw [hs]; rfl)) rfl (by rw [hs]; rfl) hl (by rw [hs]; rfl) rfl) rfl).imp fun D σ H ⟨G₀, m₀, H₀, Gb, mb, G, m, s, r, a, p⟩ => ?_
  dsimp only at p
  obtain ⟨oa, f⟩ := a.fm.at
  have O := f.ok i
  cases q : Fm.get r i with
  | ow xs =>
    rw [q] at O p
    obtain ⟨h1, ⟨vs, h2, h3⟩, h4, h5, h6⟩ := O
    refine ⟨_, h1, .inl ⟨rfl, vs, .inl (.inl h2)⟩, G, m, s, H₀, r, a.at, PostS.step a p fun z s1 G1 m1 H1 v e1 a1 rz p1 => ?_⟩
    have f1 := f.ext e1
    have O1 := f1.ok i
    rw [q] at O1
    obtain ⟨_, ⟨ws, g2, g3⟩, g4, g5, g6⟩ := O1
    cases z with
    | lst ys =>
      obtain ⟨b, zs, rfl, hb, _, rb⟩ := RepO.lst' a1.wd rz
      have p1 : PostS (sy X T) G₀ m₀ H₀ Gb mb ((if xs.length + ys.length ≤ LIM then ret (.nx (r.set i (.ow (xs ++ ys)))) else stk : M Fl) s1) D W := p1
      by_cases c : xs.length + ys.length ≤ LIM
      · rw [if_pos c] at p1
        have p1 : PostS (sy X T) G₀ m₀ H₀ Gb mb (.ok (.nx (r.set i (.ow (xs ++ ys)))) s1) D W := p1
        refine ⟨oa i, b, ws, zs, rfl, rfl, g2, hb, by rw [← g3.length, ← rb.length]; exact Nat.le_trans c LIM_le, ?_⟩
        obtain ⟨k1, k2, k3⟩ := write_own (i := i) (x := .ow (xs ++ ys)) (o := .lst (ws ++ zs)) a1.ext a1.wd f1 (by rw [q]; rfl) rfl ⟨h1, ⟨_, upd_same, g3.append rb⟩, g4, g5, g6⟩ (by rw [g2]; exact fun z => nomatch z) g4 g5 g6 (by rw [g2]; exact fun _ z => nomatch z) (by rw [g2]; exact fun _ z => nomatch z)
        exact p1 _ _ _ _ k1 a1.lat ⟨k2, k3⟩
      · rw [if_neg c] at p1
        exact p1.elim
    | _ => exact p1.elim
  | _ => rw [q] at p; exact p.elim
/-- a mutable object is written -/
theorem write_obj {S : Sy} {G G₀ H H₀ : Hp} {m m₀ : List Addr} {st : AS} {r : Fm} {σ : L2.St} {oa : Nat → Addr} {n : Nat} {a : Addr} {xs : List PV} {vs0 vs : List V} (e : Ext m₀ m G₀ G H₀ H) (wd : Wd S G m st H) (f : FmAt S G m H₀ H r σ oa)
    (hm : m[n]? = some a) (ha : H a = some (.lst vs0)) (rr : Reps S G m xs vs) : Ext m₀ m G₀ G H₀ (upd H a (.lst vs)) ∧ Wd S G m (st.set n (.lst xs)) (upd H a (.lst vs)) ∧ FmAt S G m H₀ (upd H a (.lst vs)) r σ oa := by
  have am : a ∈ m := List.mem_of_getElem? hm
  have kp : ∀ b u, b ≠ a → H b = some u → upd H a (.lst vs) b = some u := fun b u hb h => by rw [upd_ne hb]; exact h
  have gne : ∀ b u, G b = some u → b ≠ a := fun b u h z => (wd.le b u h).2.1 (z ▸ am)
  refine ⟨⟨e.le, e.pre, e.newm, e.newG, fun b u h h1 h2 => ?_, fun b h => ?_⟩, ⟨fun b u h => ⟨kp b u (gne b u h) (wd.le b u h).1, (wd.le b u h).2⟩, by rw [List.length_set]; exact wd.len, wd.nd, fun j b u h1 h2 => ?_, fun p hp => ?_⟩, ⟨f.len, fun j => ?_, f.inj⟩⟩
  · refine kp b u (fun z => ?_) (e.keep b u h h1 h2)
    subst z
    rcases e.newm b am with q | q
    · exact h1 q
    · rw [h] at q; cases q
  · by_cases hb : b = a
    · subst hb; rw [upd_same] at h; cases h
    · rw [upd_ne hb] at h; exact e.dom b h
  · by_cases hj : j = n
    · subst hj
      rw [hm] at h1
      cases h1
      have hl : j < st.length := by rw [wd.len]; exact (List.getElem?_eq_some_iff.mp hm).1
      rw [List.getElem?_set_self hl] at h2
      cases h2
      exact .lst upd_same rr
    · rw [List.getElem?_set_ne (Ne.symm hj)] at h2
      have hb : b ≠ a := fun z => by
        subst z
        exact hj ((List.getElem?_inj (List.getElem?_eq_some_iff.mp h1).1 wd.nd).mp (h1.trans hm.symm))
      have O := wd.obj j b u h1 h2
      cases O with
      | lst h r => exact .lst (kp _ _ hb h) r
      | ins hc h r => exact .ins hc (kp _ _ hb h) r
  · obtain ⟨ps, h1, h2, h3⟩ := wd.tab p hp
    refine ⟨ps, kp _ _ (fun z => by rw [z, ha] at h1; cases h1) h1, h2, fun pos cv hcv => ?_⟩
    obtain ⟨c, e1, e2⟩ := h3 pos cv hcv
    exact ⟨c, e1, kp _ _ (fun z => by rw [z, ha] at e2; cases e2) e2⟩
  · have O := f.ok j
    cases q : Fm.get r j with
    | no => trivial
    | sh y => rw [q] at O; exact O
    | ow xs =>
      rw [q] at O
      obtain ⟨h1, ⟨vs, h2, h3⟩, h4, h5⟩ := O
      exact ⟨h1, ⟨vs, kp _ _ (fun z => h4 (z ▸ am)) h2, h3⟩, h4, h5⟩
    | od xs =>
      rw [q] at O
      obtain ⟨h1, ⟨vs, h2, h3⟩, h4, h5⟩ := O
      exact ⟨h1, ⟨vs, kp _ _ (fun z => h4 (z ▸ am)) h2, h3⟩, h4, h5⟩
theorem setSl_noexc {r : Fm} {i : Nat} {k v : PV} {s s' : AS} {x : Exc} (h : setSl r i k v s = .exc x s') : False := by
  unfold setSl at h
  generalize r.get i = g at h
  cases g with
  | no => cases h
  | ow xs =>
    cases k with
    | int j =>
      dsimp only at h
      cases q : nrm xs.length j with
      | none => rw [q] at h; cases h
      | some n => rw [q] at h; cases h
    | _ => cases h
  | od kvs =>
    dsimp only at h
    split at h <;> cases h
  | sh y =>
    cases y with
    | ref n =>
      cases k with
      | int j =>
        dsimp only at h
        cases q : s[n]? with
        | none => rw [q] at h; cases h
        | some ob =>
          rw [q] at h
          cases ob with
          | lst xs =>
            dsimp only at h
            cases q2 : nrm xs.length j with
            | none => rw [q2] at h; cases h
            | some n => rw [q2] at h; cases h
          | ins _ _ => cases h
      | _ => cases h
    | _ => cases h
/-- x[k] = v, by values -/
def rSetP (S : Sy) (W : XK) (i : Nat) : L2.St → TSet := fun σ o ix v H Q => ∃ G₀ m₀ H₀ Gb mb G m s r x z, Now S G₀ m₀ H₀ Gb mb G m s H r σ ∧ σ[i]? = some (some o) ∧ Rep S G m x ix ∧ Rep S G m z v ∧
  (match setSl r i x z s with
    | .ok r' s' => ∀ G' m' H', Now S G₀ m₀ H₀ Gb mb G' m' s' H' r' σ → Q H'
    | _ => False)
theorem set_P (hu : X.A.units + 200 < cLine) (i : Nat) {pins : List (Addr × Obj)} {s : Shared} {σ : L2.St} {H : Hp} {o ix v : V} {ov iv u : Value} {Q : Hp → Prop} (I : Inv X pins σ H s) (ro : L2.RelV o ov) (ri : L2.RelV ix iv) (rv : L2.RelV v u) (h : rSetP (sy X T) W i σ o ix v H Q) :
    wpAny (model X.prog X.w) X.A (setItem ov iv u) (fun _ s' => ∃ H', Inv X pins σ H' s' ∧ Q H') X.xe s := by
  obtain ⟨G₀, m₀, H₀, Gb, mb, G, m, st, r, x, z, a, hs, rx, rz, p⟩ := h
  obtain ⟨oa, f⟩ := a.fm.at
  have O := f.ok i
  unfold setSl at p
  cases q : Fm.get r i with
  | ow xs =>
    rw [q] at O p
    dsimp only at p
    obtain ⟨h1, ⟨vs, h2, h3⟩, h4, h5, h6⟩ := O
    rw [hs] at h1
    cases h1
    cases x with
    | int j =>
      cases rx
      dsimp only at p
      cases qn : nrm xs.length j with
      | none => rw [qn] at p; exact p.elim
      | some n =>
        rw [qn] at p
        have p : ∀ G' m' H', Now (sy X T) G₀ m₀ H₀ Gb mb G' m' st H' (r.set i (.ow (xs.set n z))) σ → Q H' := p
        refine set_list pins s σ H _ _ v ov iv u Q I ro ri rv ⟨oa i, vs, j, n, rfl, rfl, h2, by rw [← h3.length]; exact qn, ?_⟩
        obtain ⟨k1, k2, k3⟩ := write_own (i := i) (x := .ow (xs.set n z)) (o := .lst (vs.set n v)) a.ext a.wd f (by rw [q]; rfl) rfl ⟨hs, ⟨_, upd_same, h3.set n rz⟩, h4, h5, h6⟩ (by rw [h2]; exact fun z => nomatch z) h4 h5 h6 (by rw [h2]; exact fun _ z => nomatch z) (by rw [h2]; exact fun _ z => nomatch z)
        exact p _ _ _ ⟨k1, a.lat, k2, k3⟩
    | _ => exact p.elim
  | od kvs =>
    rw [q] at O p
    dsimp only at p
    obtain ⟨h1, ⟨es, h2, h3⟩, h4, h5, h6⟩ := O
    rw [hs] at h1
    cases h1
    by_cases c : (keyT x && decide (kvs.length < LIM)) = true
    · rw [if_pos c] at p
      have p : ∀ G' m' H', Now (sy X T) G₀ m₀ H₀ Gb mb G' m' st H' (r.set i (.od (putP kvs x z))) σ → Q H' := p
      rw [Bool.and_eq_true, decide_eq_true_eq] at c
      cases x with
      | tup ys =>
        cases rx with
        | tup g rr =>
          cases ro
          cases ri
          refine dct_put (T := T) (A := X.A) (by omega) I (fun b o q => (a.wd.le b o q).1) h2 (by rw [← h3.length]; exact Nat.lt_of_lt_of_le c.2 LIM_le) h3 c.1 (.tup g rr) rz rv fun es' s' I' r' hl => ⟨_, I', ?_⟩
          obtain ⟨k1, k2, k3⟩ := write_own (i := i) (x := .od (putP kvs (.tup ys) z)) (o := DctO X.prog X.w (oa i) es') a.ext a.wd f (by rw [q]; rfl) rfl ⟨hs, ⟨_, upd_same, r'⟩, h4, h5, h6⟩ (by rw [h2]; exact fun z => nomatch z) h4 h5 h6 (by rw [h2]; exact fun _ z => nomatch z) (fun q' z => by
            exact dct_code I h2 z)
          exact p _ _ _ ⟨k1, a.lat, k2, k3⟩
      | _ => simp [keyT, isTup] at c
    · rw [if_neg c] at p
      exact p.elim
  | sh y =>
    rw [q] at O p
    obtain ⟨w, h1, h2⟩ := O
    rw [hs] at h1
    cases h1
    cases y with
    | ref n =>
      cases x with
      | int j =>
        cases rx
        dsimp only at p
        cases h2 with
        | ref hm =>
          cases qo : st[n]? with
          | none => rw [qo] at p; exact p.elim
          | some ob =>
            rw [qo] at p
            have OB := a.wd.obj n _ ob hm qo
            cases OB with
            | @lst xs vs hp rr =>
              dsimp only at p
              cases qn : nrm xs.length j with
              | none => rw [qn] at p; exact p.elim
              | some nn =>
                rw [qn] at p
                dsimp only at p
                refine set_list pins s σ H _ _ v ov iv u Q I ro ri rv ⟨_, vs, j, nn, rfl, rfl, hp, by rw [← rr.length]; exact qn, ?_⟩
                obtain ⟨k1, k2, k3⟩ := write_obj (xs := xs.set nn z) a.ext a.wd f hm hp (rr.set nn rz)
                exact p _ _ _ ⟨k1, a.lat, k2, k3.fm⟩
            | ins _ _ _ => exact p.elim
      | _ => exact p.elim
    | _ => exact p.elim
  | no => rw [q] at p; exact p.elim
theorem ds_seti {x : Str} {px tpos : Pos} {ke : Expr} {dk : Fm → M PV} (hu : X.A.units + 200 < cLine) (hN : X.N[i]? = some x) (hv : Vis X.env.scope x) (hd : (x == ("__debug__" : Str)) = false) (hcd : (x == ("__classdict__" : Str)) = false) (he : PE X e (tD (sy X T) .E W d)) (hk : PE X ke (tD (sy X T) .E W dk))
    (hs : swapsWith e (some (.Subscript (.Name x px) ke tpos)) pos.line X.env = pure false) : PS X (.Assign [.Subscript (.Name x px) ke tpos] e pos) (tS (sy X T) W fun r => bnd (d r) fun v => if (Fm.get r i).isNo then stk else bnd (dk r) fun y => bnd (setSl r i y v) fun r' => ret (.nx r')) := by
  refine ⟨fun pins s σ H D I ⟨G₀, m₀, H₀, Gb, mb, G, m, st, r, a, p⟩ => ?_⟩
  refine wpAny_Assign_Subscript (thn (he.run pins s σ H (fun v H1 => tVar i σ H1 fun o H2 => tD (sy X T) .E W dk σ H2 fun y H3 => rSetP (sy X T) W i σ o y v H3 fun H4 => D.nx σ H4) I ⟨G, m, st, H₀, r, a.at, PostS.step a p fun z s1 G1 m1 H1 v e1 a1 rz p1 => ?_⟩) fun rv s1 ⟨v, H1, I1, r1, q1⟩ => thn ((pe_var hN hv hd hcd).run pins s1 σ H1 _ I1 q1) fun ov s2 ⟨o, H2, I2, r2, q2⟩ => thn (hk.run pins s2 σ H2 _ I2 q2) fun iv s3 ⟨y, H3, I3, r3, q3⟩ => ?_) hs
  · obtain ⟨oa, f⟩ := a1.fm.at
    have O := f.ok i
    have p1 : PostS (sy X T) G₀ m₀ H₀ Gb mb ((if (Fm.get r i).isNo then stk else bnd (dk r) fun y => bnd (setSl r i y z) fun r' => ret (.nx r') : M Fl) s1) D W := p1
    have go : ∀ o, σ[i]? = some (some o) → (Fm.get r i).isNo = false → tVar i σ H1 fun o H2 => tD (sy X T) .E W dk σ H2 fun y H3 => rSetP (sy X T) W i σ o y v H3 fun H4 => D.nx σ H4 := fun o ho hn => by
      rw [hn] at p1
      refine ⟨o, ho, G1, m1, s1, H₀, r, a1.at, PostS.step a1 p1 fun y s2 G2 m2 H2 w e3 a2 ry p2 => ?_⟩
      refine ⟨G₀, m₀, H₀, Gb, mb, G2, m2, s2, r, y, z, a2, ho, ry, Rep.ext rz e3, ?_⟩
      dsimp only [bnd] at p2
      cases qs : setSl r i y z s2 with
      | ok r' s' =>
        rw [qs] at p2
        exact fun G' m' H' a' => p2 G' m' H' σ a'.ext a'.lat a'.at
      | exc x s' => exact (setSl_noexc qs).elim
      | stuck =>
        rw [qs] at p2
        exact p2
    cases q : Fm.get r i with
    | no =>
      rw [q] at p1
      exact p1.elim
    | sh y =>
      rw [q] at O
      obtain ⟨w, h1, _⟩ := O
      exact go w h1 (by rw [q]; rfl)
    | ow xs => rw [q] at O; exact go _ O.1 (by rw [q]; rfl)
    | od xs => rw [q] at O; exact go _ O.1 (by rw [q]; rfl)
  · exact thn (set_P (T := T) (W := W) hu i I3 r2 r3 r1 q3) fun _ s4 ⟨H4, I4, q4⟩ => ⟨σ, H4, I4, q4⟩
/-! ### small statements, blocks -/
theorem ds_expr (he : PE X e (tD (sy X T) .E W d)) (hs : swapsWith e none pos.line X.env = pure false) : PS X (.Expr e pos) (tS (sy X T) W fun r => bnd (d r) fun _ => ret (.nx r)) := by
  refine (ps_expr he hs).imp fun D σ H ⟨G₀, m₀, H₀, Gb, mb, G, m, s, r, a, p⟩ => ?_
  exact ⟨G, m, s, H₀, r, a.at, PostS.step a p fun x s1 G1 m1 H1 v e1 a1 rx p1 => p1.nx a1⟩
theorem ds_ret (he : PE X e (tD (sy X T) .E W d)) : PS X (.Return (some e) pos) (tS (sy X T) W fun r => bnd (d r) fun v => ret (.rt v)) := by
  refine (ps_ret he).imp fun D σ H ⟨G₀, m₀, H₀, Gb, mb, G, m, s, r, a, p⟩ => ?_
  exact ⟨G, m, s, H₀, r, a.at, PostS.step a p fun x s1 G1 m1 H1 v e1 a1 rx p1 => p1 G1 m1 H1 v a1.ext a1.wd rx⟩
theorem ds_retN : PS X (.Return none pos) (tS (sy X T) W fun r => ret (.rt .non)) := by
  refine ps_retN.imp fun D σ H ⟨G₀, m₀, H₀, Gb, mb, G, m, s, r, a, p⟩ => ?_
  exact p G m H .non a.ext a.wd .non
theorem ds_pass : PS X (.Pass pos) (tS (sy X T) W fun r => ret (.nx r)) := by
  refine ps_pass.imp fun D σ H ⟨G₀, m₀, H₀, Gb, mb, G, m, s, r, a, p⟩ => ?_
  exact p.nx a
theorem dss_nil : PSs X [] (tS (sy X T) W fun r => ret (.nx r)) := by
  refine pss_nil.imp fun D σ H ⟨G₀, m₀, H₀, Gb, mb, G, m, s, r, a, p⟩ => ?_
  exact p.nx a
def seqM (x : M Fl) (f : Fm → M Fl) : M Fl := bnd x fun l => match l with
  | .nx r' => f r'
  | .bk r' => ret (.bk r')
  | .ct r' => ret (.ct r')
  | .rt v => ret (.rt v)
theorem PostS.seq {S : Sy} {G₀ Gb : Hp} {m₀ mb : List Addr} {H₀ : Hp} {x : M Fl} {f : Fm → M Fl} {s : AS} {D : Ends} {W : XK} (h : PostS S G₀ m₀ H₀ Gb mb (seqM x f s) D W) {u : L2.St → Hp → Prop}
    (hu : ∀ r s' G m H σ, Now S G₀ m₀ H₀ Gb mb G m s' H r σ → PostS S G₀ m₀ H₀ Gb mb (f r s') D W → u σ H) : PostS S G₀ m₀ H₀ Gb mb (x s) { D with nx := u } W := by
  unfold seqM bnd at h
  cases q : x s with
  | ok l s1 =>
    rw [q] at h
    cases l with
    | nx r => exact fun G m H σ e l a => hu r s1 G m H σ ⟨e, l, a.1, a.2⟩ h
    | bk r => exact h
    | ct r => exact h
    | rt v => exact h
  | exc y s1 =>
    rw [q] at h
    exact h
  | stuck =>
    rw [q] at h
    exact h
theorem dss_cons {st : Stmt} {rest : List Stmt} {d1 d2 : Fm → M Fl} (h1 : PS X st (tS (sy X T) W d1)) (h2 : PSs X rest (tS (sy X T) W d2)) : PSs X (st :: rest) (tS (sy X T) W fun r => seqM (d1 r) d2) := by
  refine (pss_cons h1 h2).imp fun D σ H ⟨G₀, m₀, H₀, Gb, mb, G, m, s, r, a, p⟩ => ?_
  exact ⟨G₀, m₀, H₀, Gb, mb, G, m, s, r, a, p.seq fun r' s' G' m' H' σ' a' p' => ⟨G₀, m₀, H₀, Gb, mb, G', m', s', r', a', p'⟩⟩
theorem dss_frz {sts : List Stmt} {d2 : Fm → M Fl} (i : Nat) (h : PSs X sts (tS (sy X T) W d2)) : PSs X sts (tS (sy X T) W fun r => d2 (Fm.freeze r i)) := by
  refine ⟨fun pins s σ H D I hw => ?_⟩
  obtain ⟨G₀, m₀, H₀, Gb, mb, G, m, st, r, a, p⟩ := hw
  obtain ⟨oa, f⟩ := a.fm.at
  have O := f.ok i
  have hlt : (Fm.get r i).owns = true → i < r.length := fun z => by
    by_cases q : i < r.length
    · exact q
    · rw [get_out r (by omega)] at z; cases z
  cases q : Fm.get r i with
  | no => exact h.run pins s σ H D I ⟨G₀, m₀, H₀, Gb, mb, G, m, st, r, a, by dsimp only at p; rw [freeze_same (by rw [q]; rfl)] at p; exact p⟩
  | sh y => exact h.run pins s σ H D I ⟨G₀, m₀, H₀, Gb, mb, G, m, st, r, a, by dsimp only at p; rw [freeze_same (by rw [q]; rfl)] at p; exact p⟩
  | ow xs =>
    rw [q] at O
    obtain ⟨h1, ⟨vs, h2, h3⟩, h4, h5, h6⟩ := O
    obtain ⟨G', l', e', wd', f'⟩ := freeze_at (o' := .lst vs) (y := .lst xs) a.ext a.wd f (hlt (by rw [q]; rfl)) (by rw [q]; rfl) h2 ntbl_lst ntbl_lst (fun _ z => by rw [h2] at z; cases z) h1 h4 h5 h6 (by rw [q]; rfl) fun G' le hG => .lst hG (h3.mono le ⟨[], by simp⟩)
    rw [upd_self h2] at e' wd' f'
    exact h.run pins s σ H D I ⟨G₀, m₀, H₀, Gb, mb, G', m, st, _, ⟨e', a.lat.trans l', wd', f'⟩, p⟩
  | od xs =>
    rw [q] at O
    obtain ⟨h1, ⟨vs, h2, h3⟩, h4, h5, h6⟩ := O
    obtain ⟨od, I2⟩ := I.lock h2 True.intro
    obtain ⟨G', l', e', wd', f'⟩ := freeze_at (o' := .frz od (DctO X.prog X.w (oa i) vs)) (y := .dct xs) a.ext a.wd f (hlt (by rw [q]; rfl)) (by rw [q]; rfl) h2 ntbl_dct ntbl_frz (fun _ z => dct_code I h2 z) h1 h4 h5 h6 (by rw [q]; rfl) fun G' le hG => .dct hG (h3.mono le ⟨[], by simp⟩)
    exact h.run pins s σ _ D I2 ⟨G₀, m₀, H₀, Gb, mb, G', m, st, _, ⟨e', a.lat.trans l', wd', f'⟩, p⟩
theorem ds_if {c : Expr} {dc : Fm → M PV} {a b : List Stmt} {da db : Fm → M Fl} (hc : PT X c (tDT (sy X T) W dc)) (ha : PSs X a (tS (sy X T) W da)) (hb : PSs X b (tS (sy X T) W db)) :
    PS X (.If c a b pos) (tS (sy X T) W fun r => tst (dc r) fun k => if k then da r else db r) := by
  refine (ps_if hc ha hb).imp fun D σ H ⟨G₀, m₀, H₀, Gb, mb, G, m, s, r, a, p⟩ => ?_
  refine ⟨G, m, s, H₀, r, a.at, PostS.tb a p fun b s1 G1 m1 H1 e1 a1 p1 => ?_⟩
  cases b with
  | true => exact ⟨G₀, m₀, H₀, Gb, mb, G1, m1, s1, r, a1, p1⟩
  | false => exact ⟨G₀, m₀, H₀, Gb, mb, G1, m1, s1, r, a1, p1⟩

/-! ### loops -/
def stepFl (f : Fm → M Fl) (l : Fl) : M Fl := match l with
  | .nx r' => f r'
  | .ct r' => f r'
  | .bk r' => ret (.nx r')
  | .rt v => ret (.rt v)
/-- a turn of a loop -/
theorem PostS.turn {S : Sy} {G₀ Gb : Hp} {m₀ mb : List Addr} {H₀ : Hp} {x : M Fl} {f : Fm → M Fl} {s : AS} {D : Ends} {W : XK} (h : PostS S G₀ m₀ H₀ Gb mb (bnd x (stepFl f) s) D W) {u : L2.St → Hp → Prop}
    (hu : ∀ r s' G m H σ, Now S G₀ m₀ H₀ Gb mb G m s' H r σ → PostS S G₀ m₀ H₀ Gb mb (f r s') D W → u σ H) : PostS S G₀ m₀ H₀ Gb mb (x s) { D with nx := u, ct := u, bk := D.nx } W := by
  unfold bnd at h
  cases q : x s with
  | ok l s1 =>
    rw [q] at h
    cases l with
    | nx r => exact fun G m H σ e l a => hu r s1 G m H σ ⟨e, l, a.1, a.2⟩ h
    | bk r => exact h
    | ct r => exact fun G m H σ e l a => hu r s1 G m H σ ⟨e, l, a.1, a.2⟩ h
    | rt v => exact h
  | exc y s1 =>
    rw [q] at h
    exact h
  | stuck =>
    rw [q] at h
    exact h
theorem ds_while {c : Expr} {dc : Fm → M PV} {b : List Stmt} {db : Fm → M Fl} (hp : PassesOwn (model X.prog X.w) X.A X.env X.xe) (hc : PT X c (tDT (sy X T) W dc)) (hb : PSs X b (tS (sy X T) W db)) (n : Nat) :
    PS X (.While c b [] pos) (tS (sy X T) W fun r => whGo dc db n r) := by
  refine (ps_while hp hc hb).imp fun D σ H ⟨G₀, m₀, H₀, Gb, mb, G, m, s, r, a, p⟩ => ?_
  refine ⟨fun n σ H => ∃ G m s r, Now (sy X T) G₀ m₀ H₀ Gb mb G m s H r σ ∧ PostS (sy X T) G₀ m₀ H₀ Gb mb (whGo dc db n r s) D W, ⟨n, G, m, s, r, a, p⟩, ?_⟩
  rintro n σ H ⟨G, m, s, r, a, p⟩
  cases n with
  | zero => exact p.elim
  | succ n =>
    refine ⟨G, m, s, H₀, r, a.at, PostS.tb a (show PostS (sy X T) G₀ m₀ H₀ Gb mb (tst (dc r) (fun k => if k then bnd (db r) (stepFl (whGo dc db n)) else ret (.nx r)) s) D W from p) fun b s1 G1 m1 H1 e1 a1 p1 => ?_⟩
    cases b with
    | false => exact p1.nx a1
    | true =>
      rw [if_pos rfl]
      refine ⟨fun σ' H' => ∃ G m s r, Now (sy X T) G₀ m₀ H₀ Gb mb G m s H' r σ' ∧ PostS (sy X T) G₀ m₀ H₀ Gb mb (whGo dc db n r s) D W, fun σ' H' h => ⟨n, Nat.lt_succ_self n, h⟩, ?_⟩
      exact ⟨G₀, m₀, H₀, Gb, mb, G1, m1, s1, r, a1, PostS.turn p1 fun r' s' G' m' H' σ' a' p' => ⟨G', m', s', r', a', p'⟩⟩
end
end RP

/-! Fw11: iterables. Own work. -/
namespace RP
open PySem PySem.Spec PyProof.Rows L2

/-! ### enumerate of a tuple -/
theorem meets_enum1 {v : Value} {o : Obj} {Hh : Heap → Prop} (B : Begins v o Hh) :
    Meets (Builtin.«enumerate.__new__» ⟨[.type "enumerate", v], []⟩) (fun _ R s => Hh s.heap ∧
      R (.ok (.ret (.ref (s.heap.push o).objs.size))) { s with heap := (s.heap.push o).push { cls := .type "enumerate", data := .fields #[.none, .bool false, .ref s.heap.objs.size, rawInt 0, .none, .none] } }) :=
  .of_wp fun prog w A R s h => by
    obtain ⟨hp, g, d, tk, os⟩ := s; obtain ⟨h1, h⟩ := h
    have hsub := sub_enumerate
    have q1 : ∀ {A' : Around} {E : Value → Shared → Prop} {Q : Value → Shared → Prop}, Q (.ref hp.objs.size) ⟨hp.push o, g, d, tk, os⟩ → wpAny (model prog w) A' (pyIter v) Q E ⟨hp, g, d, tk, os⟩ :=
      fun q => B.iter prog w _ _ ⟨hp, g, d, tk, os⟩ _ h1 q
    wp_walk using q1
    refine wpAny_stack_any fun st => wpAny_pure ?_
    split
    · rename_i c _ _ _ _ _
      cases (c == Value.type "enumerate")
      · wp_walk using q1
        exact ⟨_, rfl, h⟩
      · wp_walk using q1
        exact ⟨_, rfl, h⟩
    · wp_walk using q1
      exact ⟨_, rfl, h⟩
theorem enum_of_tuple {prog : Program} {w : World} {A : Around} {E : Value → Shared → Prop} {s : Shared} {l : Addr} {items : Array Value} {Q : Value → Shared → Prop} (hL : s.heap.IsTuple l items)
    (h : ∀ h', IsEnum h' (s.heap.objs.size + 1) s.heap.objs.size 0 .none → h'.IsTupleIter s.heap.objs.size l 0 → h'.objs.size = s.heap.objs.size + 2 →
      (∀ b o, s.heap.get? b = some o → h'.get? b = some o) → Q (.ref (s.heap.objs.size + 1)) { s with heap := h' }) :
    wpAny (model prog w) A (call (.type "enumerate") [.ref l]) Q E s := by
  have B := begins_tuple l items
  refine callType_new F.called_enumerate (by decide) (F.typeCall_enumerate_1 _) (F.newCall_enumerate_1 _) (fun obj => F.args_object_init_2 obj _) F.entry_enumerate_new
    (meets_enum1 B) ⟨hL, ?_⟩
  have hz : (s.heap.push { cls := .type "tuple_iterator", data := .fields #[.ref l, .int 0 0] }).objs.size = s.heap.objs.size + 1 := Heap.size_push ..
  show _ ∧ _
  rw [hz]
  have he : IsEnum ((s.heap.push { cls := .type "tuple_iterator", data := .fields #[.ref l, .int 0 0] }).push
      { cls := .type "enumerate", data := .fields #[.none, .bool false, .ref s.heap.objs.size, rawInt 0, .none, .none] }) (s.heap.objs.size + 1) s.heap.objs.size 0 .none := by
    have := Heap.get?_push_size (s.heap.push { cls := .type "tuple_iterator", data := .fields #[.ref l, .int 0 0] })
      (o := { cls := .type "enumerate", data := .fields #[.none, .bool false, .ref s.heap.objs.size, rawInt 0, .none, .none] }) rfl
    rw [hz] at this; exact this
  refine ⟨⟨_, he, rfl⟩, h _ he ⟨_, Heap.get?_push_of_some _ (Heap.get?_push_size _ rfl), rfl, rfl⟩ (by rw [Heap.size_push, hz]) fun b o x => Heap.get?_push_of_some _ (Heap.get?_push_of_some _ x)⟩
/-- the tuple at a, each item in a new pair -/
def IteT (K : PySem.W.Frag) (a : Addr) : L2.It :=
  ⟨fun i H => ∃ (xs : List V) (x : V), SqT K H a xs ∧ xs[i]? = some x, fun i H v H' => ∃ T x, v = .ref T ∧ H T = none ∧ H' = upd H T (.tup [.int (i : Nat), x]) ∧ ∀ xs, SqT K H a xs → xs[i]? = some x, fun i H => ∃ xs : List V, SqT K H a xs ∧ xs.length ≤ i⟩
theorem turn_enumT {P : Program} {w : World} {K : PySem.W.Frag} {elts : List Expr} {kk : Nat} {tpos : Pos} (a e it : Addr) (hae : a ≠ e) (hai : a ≠ it) :
    Turn P w K (.Tuple elts kk tpos) (IteT K a) [e, it] e (fun i h => (∃ old, IsEnum h e it ((i : Nat) : Int) old) ∧ h.IsTupleIter it a i ∧ e ≠ it) where
  mem := by simp
  obj := fun i h st b hb => by
    obtain ⟨⟨old, he⟩, ⟨o, ho, hc, hd⟩, _⟩ := st
    have e' : b = e ∨ b = it := by simpa using hb
    rcases e' with z | z
    · rw [z]; exact ⟨_, he, fun v q => nomatch q⟩
    · rw [z]; exact ⟨o, ho, fun v q => by rw [hd] at q; cases q⟩
  keep := fun i h h' st k => let ⟨⟨old, he⟩, hi, hne⟩ := st; ⟨⟨old, k e (by simp) _ he⟩, hi.at fun o q => k it (by simp) o q, hne⟩
  item := by
    intro X hP hw hK hc i pins s σ H E I hf st hg
    subst hP hw hK
    obtain ⟨⟨old, he⟩, hit, hne⟩ := st
    obtain ⟨xs, x, hq, hx⟩ := hg
    obtain ⟨its, rv, p, hz⟩ := I.tuple hq
    obtain ⟨u, hu, ru⟩ := rv.get hx
    have hel : e < s.heap.objs.size := Heap.lt_size he
    have hil : it < s.heap.objs.size := by obtain ⟨_, q, _⟩ := hit; exact Heap.lt_size q
    have D := Draws.tuple (prog := X.prog) (w := X.w) (A := X.A.in1) (show X.A.in1.handled = none from I.ok.hd hc) it a hai its.toArray
    have hlt : i < its.toArray.size := by
      have := (List.getElem?_eq_some_iff.mp hu).1
      simpa using this
    refine wpAny_pyNext_enum_itemD D he ⟨hit, p⟩ hlt hne (by simp [hne, Ne.symm hae]) fun x' h' tk hP ho hit' hT hsz hk => ?_
    obtain ⟨hit', _⟩ := hit'
    have hxu : x' = u := by
      have hP : its.toArray[i]? = some x' := hP
      rw [show its.toArray[i]? = its[i]? by simp, hu] at hP
      exact (Option.some.inj hP).symm
    subst hxu
    refine ⟨_, rfl, wpAny_letOwnedTupleGo_enum (s := { s with heap := h', toks := tk + 1 }) ho fun h'' he' sb => ?_⟩
    have hT2 : h''.get? s.heap.objs.size = some { cls := .type "tuple", data := .seq #[.int i tk, x'] } := (sb.2 _ (Nat.ne_of_gt hel)).trans hT
    have new : ObjOk X.prog X.w (upd H s.heap.objs.size (.tup [.int (i : Nat), x])) h'' s.heap.objs.size (.tup [.int (i : Nat), x]) :=
      ⟨by show 2 ≤ sizeLine; decide, [.int i tk, x'], .cons ⟨_, rfl⟩ (.cons ru .nil), ⟨_, hT2, rfl, _, rfl⟩⟩
    have I1 : Inv X pins σ (upd H s.heap.objs.size (.tup [.int (i : Nat), x])) { s with heap := h'', toks := tk + 1 } :=
      I.turnedNew (ch := [e, it]) (fun b ob hb q => (sb.2 b (fun z => hb (by simp [z]))).trans (hk b ob (fun z => hb (by simp [z])) (fun z => hb (by simp [z])) q)) hf (Nat.le_refl _) new
    refine ⟨.ref s.heap.objs.size, _, I1, rfl, ⟨_, x, rfl, I.hok.fresh (Nat.le_refl _), rfl, fun ys hy => by rw [I.tuple_inj hy hq]; exact hx⟩, ⟨⟨x', ?_⟩, hit'.at fun o q => (sb.2 it (Ne.symm hne)).trans q, hne⟩, fun b hb => ?_⟩
    · have e1 : ((i + 1 : Nat) : Int) = (i : Int) + 1 := by omega
      rw [e1]; exact he'
    · have hb' : b < s.heap.objs.size := by
        have e' : b = e ∨ b = it := by simpa using hb
        rcases e' with z | z
        · rw [z]; exact hel
        · rw [z]; exact hil
      rw [upd_ne (Nat.ne_of_lt hb')]
      exact (hf b hb).1
  done := by
    intro X hP hw hK hc i pins s σ H E I hf st hg
    subst hP hw hK
    obtain ⟨⟨old, he⟩, hit, hne⟩ := st
    obtain ⟨xs, hq, hx⟩ := hg
    obtain ⟨its, rv, p, hz⟩ := I.tuple hq
    obtain ⟨f0, f1, f2, f3, f4, f5⟩ := hf it (by simp)
    have hl := rv.length
    have hT : s.TypeIs (.ref e) "enumerate" := ⟨_, he, rfl⟩
    unfold pyNext
    refine wpAny_bind (wpAny_attempt (wpAny_callSpecial?_slot (name := Str.ofString "__next__") hT F.slot_enumerate_next
      (wpAny_call_entry F.slot_enumerate_next hT F.entry_enumerate_next ?_ (F.args_enumerate_next_1 _))))
    show wpAny _ _ (field (.ref e) 2 >>= _) _ _ _
    refine wpAny_bind (wpAny_field he rfl (x := .ref it) rfl ?_)
    refine wpAny_bind (wpAny_nextOf_tuple_end (show X.A.in1.handled = none from I.ok.hd hc) hit p (by simp; omega) fun h' x he' hx' => ?_)
    obtain ⟨o, ho, hc'⟩ := hx'
    refine wpAny_bind (wpAny_isInstance (T := "StopIteration") (b := true) ⟨o, ho, hc'⟩ isSubtype_stop ?_)
    exact wpAny_pure ⟨rfl, I.turned (t' := s.toks) (fun b o hb q => he' b o hb q) f0 f1 f3 f4 f5⟩
  self := fun A i s Q E st h => let ⟨⟨_, he⟩, _⟩ := st; wpAny_pyIter_enum he h
def iEnumA (K : PySem.W.Frag) (ta : TA) : TI := fun σ H R => ta σ H fun vs H1 => ∃ a xs, vs = [.ref a] ∧ ((SqL K H1 a xs ∧ R (Ite K a) H1) ∨ (SqT K H1 a xs ∧ R (IteT K a) H1))
theorem pi_enumA {X : Cx} {e : Expr} {ta : TA} {p pos tpos : Pos} {elts : List Expr} {kk : Nat} (hg : Gl X "enumerate") (hm : X.mg "enumerate" = none) (ha : PA X [e] ta) (hs : starEach [e] X.env = [(false, eval e X.env)]) :
    PI X (.Tuple elts kk tpos) (.Call (.Name "enumerate" p) [e] [] pos) (iEnumA X.K ta) := by
  refine ⟨fun pins s σ H R I h => ?_⟩
  refine Call_ (ld_blt I hg hm boot_enumerate (PyProof.Rows.callWith_type1 (thn (ha.run pos pins s σ H _ I h) fun us s1 ⟨vs, H1, I1, r1, q1⟩ => ?_) hs rfl))
  obtain ⟨a, xs, ex, q⟩ := q1
  subst ex
  cases r1 with
  | cons r rr =>
    cases rr
    cases r
    have fresh : ∀ b, b ∈ [s1.heap.objs.size + 1, s1.heap.objs.size] → FpOk X pins H1 b := fun b hb => by
      have e' : b = s1.heap.objs.size + 1 ∨ b = s1.heap.objs.size := by simpa using hb
      have hle : s1.heap.objs.size ≤ b := by
        rcases e' with z | z
        · rw [z]; exact Nat.le_add_right _ _
        · rw [z]; exact Nat.le_refl _
      exact I1.fpOk hle (I1.hok.fresh hle)
    rcases q with ⟨hq, q⟩ | ⟨hq, q⟩
    · obtain ⟨its, rv, p', hz⟩ := I1.list hq
      refine call_enumerate_list p'.isList fun h' he hit hsz hk => wpAny_pyIter_enum he ?_
      have I2 : Inv X pins σ H1 { s1 with heap := h' } := I1.kept (t' := s1.toks) hk
      exact ⟨s1.heap.objs.size + 1, [s1.heap.objs.size + 1, s1.heap.objs.size], _, _, H1, rfl, I2, turn_enum a (s1.heap.objs.size + 1) s1.heap.objs.size, ⟨⟨.none, he⟩, hit, Nat.succ_ne_self _⟩, fresh, q⟩
    · obtain ⟨its, rv, p', hz⟩ := I1.tuple hq
      have hlt : a < s1.heap.objs.size := by obtain ⟨o, e, _⟩ := id p'; exact Heap.lt_size e
      refine enum_of_tuple (items := its.toArray) p' fun h' he hit hsz hk => wpAny_pyIter_enum he ?_
      have I2 : Inv X pins σ H1 { s1 with heap := h' } := I1.kept (t' := s1.toks) hk
      exact ⟨s1.heap.objs.size + 1, [s1.heap.objs.size + 1, s1.heap.objs.size], _, _, H1, rfl, I2, turn_enumT a (s1.heap.objs.size + 1) s1.heap.objs.size (Nat.ne_of_lt (Nat.lt_succ_of_lt hlt)) (Nat.ne_of_lt hlt), ⟨⟨.none, he⟩, hit, Nat.succ_ne_self _⟩, fresh, q⟩

/-! ### a locked dict's keys, its items -/
section
variable {P : Program} {w : World} {K : PySem.W.Frag} {d : Addr} {od : Obj} {es : List (NestedKey × Addr × V)} {tg : Expr}
def ItkD (P : Program) (w : World) (d : Addr) (od : Obj) (es : List (NestedKey × Addr × V)) : L2.It :=
  ⟨fun i H => H d = some (.frz od (DctO P w d es)) ∧ i < es.length, fun i H x H' => H' = H ∧ ∃ p, es[i]? = some p ∧ x = .ref p.2.1, fun i H => H d = some (.frz od (DctO P w d es)) ∧ es.length ≤ i⟩
def ItiD (P : Program) (w : World) (d : Addr) (od : Obj) (es : List (NestedKey × Addr × V)) : L2.It :=
  ⟨fun i H => H d = some (.frz od (DctO P w d es)) ∧ i < es.length, fun i H x H' => ∃ p T, es[i]? = some p ∧ x = .ref T ∧ H T = none ∧ H' = upd H T (.tup [.ref p.2.1, p.2.2]), fun i H => H d = some (.frz od (DctO P w d es)) ∧ es.length ≤ i⟩
theorem frzD {X : Cx} {pins : List (Addr × Obj)} {σ : L2.St} {H : Hp} {s : Shared} (I : Inv X pins σ H s) (h : H d = some (.frz od (DctO X.prog X.w d es))) :
    (d == sysModules) = false ∧ s.heap.get? d = some od ∧ od.ExactDict ∧ ∃ ds ep, od.data = .dict ds ep ∧ ds.size = es.length ∧ es.length ≤ sizeLine ∧ ∀ (i : Nat) (p : NestedKey × Addr × V), es[i]? = some p → ∃ (en : DictEntry) (u : Value), ds[i]? = some en ∧ en.key = Value.ref p.2.1 ∧ en.val = u ∧ RelV p.2.2 u := by
  obtain ⟨h0, ⟨hl, hs, xs, rx, o, ds, ep, e1, e2, e3, e4, e5⟩, _⟩ := I.hok d _ h
  rw [h0] at e1
  cases e1
  have hlen : es.length = xs.length := Paired.length rx
  refine ⟨hs, h0, e2, ds, ep, e3, ?_, hl, fun i p hp => ?_⟩
  · rw [← Array.length_toList, e4, List.length_map, hlen]
  · have : ∀ {es : List (NestedKey × Addr × V)} {xs : List (NestedKey × Addr × Value)} {i : Nat} {p}, Paired (fun (p : NestedKey × Addr × V) (q : NestedKey × Addr × Value) => p.1 = q.1 ∧ p.2.1 = q.2.1 ∧ RelV p.2.2 q.2.2) es xs → es[i]? = some p → ∃ q, xs[i]? = some q ∧ p.2.1 = q.2.1 ∧ RelV p.2.2 q.2.2 := by
      intro es xs i p r
      induction r generalizing i with
      | nil => intro h; simp at h
      | cons q t ih =>
        intro h
        cases i with
        | zero => simp at h; subst h; exact ⟨_, rfl, q.2.1, q.2.2⟩
        | succ i => exact ih (by simpa using h)
    obtain ⟨q, hq, a1, a2⟩ := this rx hp
    refine ⟨_, q.2.2, (by rw [← Array.getElem?_toList, e4, List.getElem?_map, hq]; rfl), ?_, rfl, a2⟩
    rw [a1]
    rfl
theorem turn_keysD {ds : Array DictEntry} {ep : Nat} (it : Addr) (hod : od.data = .dict ds ep) (hsz : ds.size = es.length) : Turn P w K tg (ItkD P w d od es) [it] it (fun i h => h.IsKeyIter it d i es.length ep) where
  mem := by simp
  obj := fun i h st b hb => by
    have e : b = it := by simpa using hb
    subst e
    obtain ⟨oi, e, c, dd⟩ := st
    exact ⟨oi, e, fun v z => by rw [dd] at z; cases z⟩
  keep := fun i h h' st k => st.at fun oi e => k it (by simp) oi e
  item := by
    intro X hP hw hK hc i pins s σ H E I hf st hg
    subst hP hw hK
    obtain ⟨hd, hi⟩ := hg
    obtain ⟨f0, f1, f2, f3, f4, f5⟩ := hf it (by simp)
    obtain ⟨hs, hgd, hx, ds', ep', hdt, hsz', _, ent⟩ := frzD I hd
    rw [hod] at hdt
    cases hdt
    obtain ⟨en, u, hen, hkey, _, _⟩ := ent i es[i] (List.getElem?_eq_getElem hi)
    refine next_key_item st hgd hod hsz hen fun h' st' sb => ?_
    have I1 : Inv X pins σ H { s with heap := h' } := I.turned (t' := s.toks) (fun b ob hb e => (sb.2 b hb).trans e) f0 f1 f3 f4 f5
    obtain ⟨oi, e, c, dd⟩ := id st'
    exact ⟨en.key, rfl, go_of (s := { s with heap := h' }) e c dd (by decide) ⟨.ref es[i].2.1, H, I1, hkey, ⟨rfl, _, List.getElem?_eq_getElem hi, rfl⟩, st', fun b hb => (hf b hb).1⟩⟩
  done := by
    intro X hP hw hK hc i pins s σ H E I hf st hg
    subst hP hw hK
    obtain ⟨hd, hi⟩ := hg
    obtain ⟨f0, f1, f2, f3, f4, f5⟩ := hf it (by simp)
    obtain ⟨hs, hgd, hx, _⟩ := frzD I hd
    exact next_key_end (I.ok.hd hc) st hgd hod hsz hi fun h' eb => ⟨rfl, I.turned (t' := s.toks) (fun b ob hb e => eb b ob hb e) f0 f1 f3 f4 f5⟩
  self := fun A i s Q E st h => by
    refine wpAny_pyIter_slot st.typeIs F.slot_dict_keyiterator_iter (wpAny_call_entry F.slot_dict_keyiterator_iter st.typeIs F.entry_dict_keyiterator_iter ?_ (F.args_dict_keyiterator_iter_1 _))
    show wpAny _ _ (PySem.ret (.ref it)) _ _ s
    exact wpAny_pure ⟨_, rfl, "dict_keyiterator", _, st.typeIs, F.slot_dict_keyiterator_next.lookup, h⟩
theorem turn_itemsD {ds : Array DictEntry} {ep : Nat} {elts : List Expr} {kk : Nat} {tpos : Pos} (it : Addr) (hdi : d ≠ it) (hod : od.data = .dict ds ep) (hsz : ds.size = es.length) :
    Turn P w K (.Tuple elts kk tpos) (ItiD P w d od es) [it] it (fun i h => ∃ ok ov, IsItemIter h it d i es.length ep ok ov) where
  mem := by simp
  obj := fun i h st b hb => by
    have e : b = it := by simpa using hb
    subst e
    obtain ⟨ok, ov, e⟩ := st
    exact ⟨_, e, fun v z => nomatch z⟩
  keep := fun i h h' st k => let ⟨ok, ov, e⟩ := st; ⟨ok, ov, k it (by simp) _ e⟩
  item := by
    intro X hP hw hK hc i pins s σ H E I hf st hg
    subst hP hw hK
    obtain ⟨hd, hi⟩ := hg
    obtain ⟨hs, hgd, hx, ds', ep', hdt, hsz', _, ent⟩ := frzD I hd
    rw [hod] at hdt
    cases hdt
    obtain ⟨en, u, hen, hkey, hval, ru⟩ := ent i es[i] (List.getElem?_eq_getElem hi)
    obtain ⟨ok, ov, he⟩ := st
    rw [← hsz] at he
    have hlt : it < s.heap.objs.size := Heap.lt_size he
    have hi' : i < ds.size := by rw [hsz]; exact hi
    have hen' : ds[i] = en := by rw [Array.getElem?_eq_getElem hi'] at hen; exact Option.some.inj hen
    refine DT.nextI he ⟨od, hgd, hx, hod⟩ hi' fun h' ho hT hz hk => ?_
    rw [hen', hkey, hval] at ho hT
    refine ⟨_, rfl, wpAny_letOwnedTupleGo_items (s := { s with heap := h' }) ho fun h'' he' sb => ?_⟩
    have hT2 : h''.get? s.heap.objs.size = some { cls := .type "tuple", data := .seq #[.ref es[i].2.1, u] } := (sb.2 _ (Nat.ne_of_gt hlt)).trans hT
    have new : ObjOk X.prog X.w (upd H s.heap.objs.size (.tup [.ref es[i].2.1, es[i].2.2])) h'' s.heap.objs.size (.tup [.ref es[i].2.1, es[i].2.2]) :=
      ⟨by show 2 ≤ sizeLine; decide, [.ref es[i].2.1, u], .cons rfl (.cons ru .nil), ⟨_, hT2, rfl, _, rfl⟩⟩
    have I1 : Inv X pins σ (upd H s.heap.objs.size (.tup [.ref es[i].2.1, es[i].2.2])) { s with heap := h'' } :=
      I.turnedNew (t' := s.toks) (ch := [it]) (fun b ob hb e => (sb.2 b (by simpa using hb)).trans (hk b ob (by simpa using hb) e)) hf (Nat.le_refl _) new
    refine ⟨.ref s.heap.objs.size, _, I1, rfl, ⟨es[i], s.heap.objs.size, List.getElem?_eq_getElem hi, rfl, I.hok.fresh (Nat.le_refl _), rfl⟩, ⟨Value.ref es[i].2.1, u, ?_⟩, fun b hb => ?_⟩
    · rw [← hsz]; exact he'
    · have e : b = it := by simpa using hb
      rw [e, upd_ne (Nat.ne_of_lt hlt)]
      exact (hf it (by simp)).1
  done := by
    intro X hP hw hK hc i pins s σ H E I hf st hg
    subst hP hw hK
    obtain ⟨hd, hi⟩ := hg
    obtain ⟨f0, f1, f2, f3, f4, f5⟩ := hf it (by simp)
    obtain ⟨hs, hgd, hx, _⟩ := frzD I hd
    obtain ⟨ok, ov, he⟩ := st
    rw [← hsz] at he
    exact DT.endI (I.ok.hd hc) he ⟨od, hgd, hx, hod⟩ (by rw [hsz]; exact hi) fun h' eb => ⟨rfl, I.turned (t' := s.toks) (fun b ob hb e => eb b ob hb e) f0 f1 f3 f4 f5⟩
  self := fun A i s Q E st h => let ⟨_, _, e⟩ := st; PySem.W.kcp_self e h
end
section
variable {X : Cx} {tg e : Expr} {td : TE} {apos cpos : Pos}
theorem pi_keysD (he : PE X e td) : PI X tg e (fun σ H R => td σ H fun x H1 => ∃ d od es, x = .ref d ∧ H1 d = some (.frz od (DctO X.prog X.w d es)) ∧ R (ItkD X.prog X.w d od es) H1) := by
  refine ⟨fun pins s σ H R I h => ?_⟩
  refine thn (he.run pins s σ H _ I h) fun u s1 ⟨x, H1, I1, rx, d, od, es, ex, hd, q⟩ => ?_
  subst ex
  obtain rfl : u = Value.ref d := rx
  obtain ⟨hs, hgd, hx, ds, ep, hdt, hsz, _, _⟩ := frzD I1 hd
  refine iter_keys hs hgd hx hdt (pi_one (tk := s1.toks) I1 _ (turn_keysD _ hdt hsz) ⟨_, Heap.get?_push_size _ rfl, rfl, ?_⟩ q)
  rw [hsz] <;> rfl
theorem pi_itemsD {elts : List Expr} {kk : Nat} {tpos : Pos} (he : PE X e td) (hbase : attributeBase e "items" X.env (eval e X.env) = eval e X.env) (hline : (apos.endLine == cpos.line) = true) :
    PI X (.Tuple elts kk tpos) (.Call (.Attribute e "items" apos) [] [] cpos) (fun σ H R => td σ H fun x H1 => ∃ d od es, x = .ref d ∧ H1 d = some (.frz od (DctO X.prog X.w d es)) ∧ R (ItiD X.prog X.w d od es) H1) := by
  refine ⟨fun pins s σ H R I h => ?_⟩
  refine wpAny_Call_method (T := "dict") (id := "dict.items") hbase rfl hline F.plainAttrs_dict F.slot_dict_items F.type_dict_items (thn (he.run pins s σ H _ I h) fun u s1 ⟨x, H1, I1, rx, d, od, es, ex, hd, q⟩ => ?_)
  subst ex
  obtain rfl : u = Value.ref d := rx
  obtain ⟨hs, hgd, hx, ds, ep, hdt, hsz, hle, _⟩ := frzD I1 hd
  have raw : DT.Raw s1.heap d ds ep := ⟨od, hgd, hx, hdt⟩
  have hlt : d < s1.heap.objs.size := raw.lt
  refine ⟨raw.typeIs, fun b hb => by cases hb; exact ⟨od, hgd, hx.2.1⟩, ?_⟩
  have I2 : Inv X pins σ H1 { s1 with heap := s1.heap.push { cls := .type "dict_items", data := .fields #[.ref d] } } := I1.kept (t' := s1.toks) fun b ob q => Heap.get?_push_of_some _ q
  have fin : wpAny (model X.prog X.w) X.A (pyIter (.ref s1.heap.objs.size)) (PIE X pins σ (.Tuple elts kk tpos) R) X.xe { s1 with heap := s1.heap.push { cls := .type "dict_items", data := .fields #[.ref d] } } := by
    refine DT.iterI (d := d) ⟨_, Heap.get?_push_size _ rfl, rfl, rfl⟩ (raw.push _) (pi_one (tk := s1.toks) I2 _ (turn_itemsD _ (by rw [Heap.size_push]; exact Nat.ne_of_lt (Nat.lt_succ_of_lt hlt)) hdt hsz) ⟨.none, .none, ?_⟩ q)
    rw [← hsz]
    exact Heap.get?_push_size _ rfl
  show wpAny _ _ (callWith cpos (.builtin "dict.items") [.ref d] [] []) _ X.xe s1
  exact method_meetsIn F.slot_dict_items F.entry_dict_items rfl (PySem.evalArgs_none ⟨rfl, raw.typeIs, F.args_dict_items_1 _, _, DT.meetsItems hs, ⟨raw, fin⟩⟩)
/-- a list or a tuple -/
theorem pi_seq (hl : PE X e td) : PI X tg e (fun σ H R => td σ H fun x H1 => ∃ a, x = .ref a ∧ (((∃ xs, SqL X.K H1 a xs) ∧ R (Itl X.K a) H1) ∨ ((∃ xs, SqT X.K H1 a xs) ∧ R (Itt X.K a) H1))) := by
  refine ⟨fun pins s σ H R I h => ?_⟩
  refine thn (hl.run pins s σ H _ I h) fun v s1 ⟨x, H1, I1, r1, q1⟩ => ?_
  obtain ⟨a, e, q⟩ := q1
  subst e
  cases r1
  have fresh : ∀ b, b ∈ [s1.heap.objs.size] → FpOk X pins H1 b := fun b hb => by
    have e : b = s1.heap.objs.size := by simpa using hb
    subst e
    exact I1.fpOk (Nat.le_refl _) (I1.hok.fresh (Nat.le_refl _))
  rcases q with ⟨⟨xs, hq⟩, q⟩ | ⟨⟨xs, hq⟩, q⟩
  · obtain ⟨its, rv, p, hz⟩ := I1.list hq
    refine wpAny_pyIter_list p.isList ?_
    exact ⟨s1.heap.objs.size, [s1.heap.objs.size], _, _, H1, rfl, I1.kept (t' := s1.toks) fun b o e => Heap.get?_push_of_some _ e, turn_list a _, ⟨_, Heap.get?_push_size _ rfl, rfl, rfl⟩, fresh, q⟩
  · obtain ⟨its, rv, p, hz⟩ := I1.tuple hq
    refine wpAny_pyIter_tuple (show s1.heap.IsTuple a its.toArray from p) ?_
    exact ⟨s1.heap.objs.size, [s1.heap.objs.size], _, _, H1, rfl, I1.kept (t' := s1.toks) fun b o e => Heap.get?_push_of_some _ e, turn_tuple a _, ⟨_, Heap.get?_push_size _ rfl, rfl, rfl⟩, fresh, q⟩
end
end RP

/-! Fw12: iterables by a denotation, for, comprehensions. Own work. -/
namespace RP
open PySem PySem.Spec PyProof.Rows L2

/-- J goes through xs at any later moment -/
def IterOk (S : Sy) (o : Bool) (G₁ : Hp) (m₁ : List Addr) (H₁ : Hp) (xs : List PV) (J : L2.It) : Prop := ∀ G m s H, Wd S G m s H → Lat m₁ m G₁ G → (o = true → Ext m₁ m G₁ G H₁ H) →
  (∀ i, i < xs.length → J.go i H) ∧ J.stop xs.length H ∧ ∀ i x v H', xs[i]? = some x → J.yld i H v H' → ∃ G', Ext m m G G' H H' ∧ Wd S G' m s H' ∧ Rep S G' m x v
def RepI (S : Sy) (o : Bool) : RT (List PV) L2.It := fun _ G m H xs J => IterOk S o G m H xs J
theorem good_I (S : Sy) (o : Bool) : (RepI S o).Good := fun _ _ _ _ _ _ _ _ h => h
abbrev tDI (S : Sy) (o : Bool) (W : XK) (d : Fm → M (List PV)) : TI := tDen S (RepI S o) W d
abbrev md (o : Bool) : Md := if o then .O else .E
section
variable {S : Sy} {G G' H H' H₀ : Hp} {m m' : List Addr} {s : AS}
theorem md_O {o : Bool} {x : PV} {v : V} (h : RepM S (md o) H₀ G m H x v) : RepO S G m H x v := by
  cases o with
  | true => exact h
  | false => exact .rep h
/-- a list at any later moment -/
theorem lst_later {o : Bool} {xs : List PV} {v : V} (wd : Wd S G m s H) (h : RepM S (md o) H₀ G m H (.lst xs) v) : ∃ a vs, v = .ref a ∧ SqL S.K H a vs ∧ Reps S G m xs vs ∧ ∀ G' m' s' H', Wd S G' m' s' H' → Lat m m' G G' → (o = true → Ext m m' G G' H H') → SqL S.K H' a vs ∧ Reps S G' m' xs vs := by
  cases o with
  | false =>
    cases h with
    | lst g r => exact ⟨_, _, rfl, .inl (.inl (wd.le _ _ g).1), r, fun G' m' s' H' wd' l _ => ⟨.inl (.inl (wd'.le _ _ (l.le _ _ g)).1), r.mono l.le l.pre⟩⟩
  | true =>
    cases h with
    | rep h =>
      cases h with
      | lst g r => exact ⟨_, _, rfl, .inl (.inl (wd.le _ _ g).1), r, fun G' m' s' H' wd' l _ => ⟨.inl (.inl (wd'.le _ _ (l.le _ _ g)).1), r.mono l.le l.pre⟩⟩
    | lst g hm r => exact ⟨_, _, rfl, .inl (.inl g), r, fun G' m' s' H' wd' l e => ⟨.inl (.inl ((e rfl).keep _ _ g hm ntbl_lst)), r.mono l.le l.pre⟩⟩
theorem rol_later {o : Bool} {xs : List PV} {v : V} (wd : Wd S G m s H) (h : RepM S (md o) H₀ G m H (.rol xs) v) : ∃ a vs, v = .ref a ∧ SqL S.K H a vs ∧ Reps S G m xs vs ∧ ∀ G' m' s' H', Wd S G' m' s' H' → Lat m m' G G' → (o = true → Ext m m' G G' H H') → SqL S.K H' a vs ∧ Reps S G' m' xs vs := by
  have h := md_O h
  cases h with
  | rep h =>
    cases h with
    | rol g r => exact ⟨_, _, rfl, sqL_mono (fun b o q => (wd.le b o q).1) g, r, fun G' m' s' H' wd' l _ => ⟨sqL_mono (fun b o q => (wd'.le b o (l.le b o q)).1) g, r.mono l.le l.pre⟩⟩
theorem tup_later {o : Bool} {xs : List PV} {v : V} (wd : Wd S G m s H) (h : RepM S (md o) H₀ G m H (.tup xs) v) : ∃ a vs, v = .ref a ∧ SqT S.K H a vs ∧ Reps S G m xs vs ∧ ∀ G' m' s' H', Wd S G' m' s' H' → Lat m m' G G' → (o = true → Ext m m' G G' H H') → SqT S.K H' a vs ∧ Reps S G' m' xs vs := by
  have h := md_O h
  cases h with
  | rep h =>
    cases h with
    | tup g r => exact ⟨_, _, rfl, sqT_mono (fun b o q => (wd.le b o q).1) g, r, fun G' m' s' H' wd' l _ => ⟨sqT_mono (fun b o q => (wd'.le b o (l.le b o q)).1) g, r.mono l.le l.pre⟩⟩
theorem iter_l {o : Bool} {a : Addr} {xs : List PV} {vs : List V} (h : ∀ G' m' s' H', Wd S G' m' s' H' → Lat m m' G G' → (o = true → Ext m m' G G' H H') → SqL S.K H' a vs ∧ Reps S G' m' xs vs) : IterOk S o G m H xs (Itl S.K a) := by
  intro G' m' s' H' wd' l e
  obtain ⟨q, r⟩ := h G' m' s' H' wd' l e
  have w : Walk (Itl S.K a) vs.length (fun H => SqL S.K H a vs) (YAt vs) := walk_list
  refine ⟨fun i hi => w.goes i H' (by rw [← r.length]; exact hi) q, by rw [r.length]; exact w.stops H' q, fun i x v H2 hx y => ?_⟩
  obtain ⟨rfl, y'⟩ := w.yields i H' v H2 (by rw [← r.length]; exact (List.getElem?_eq_some_iff.mp hx).1) q y
  obtain ⟨v', e1, e2⟩ := r.get hx
  rw [e1] at y'
  cases y'
  exact ⟨G', Ext.refl, wd', e2⟩
theorem iter_t {o : Bool} {a : Addr} {xs : List PV} {vs : List V} (h : ∀ G' m' s' H', Wd S G' m' s' H' → Lat m m' G G' → (o = true → Ext m m' G G' H H') → SqT S.K H' a vs ∧ Reps S G' m' xs vs) : IterOk S o G m H xs (Itt S.K a) := by
  intro G' m' s' H' wd' l e
  obtain ⟨q, r⟩ := h G' m' s' H' wd' l e
  have w : Walk (Itt S.K a) vs.length (fun H => SqT S.K H a vs) (YAt vs) := walk_tup
  refine ⟨fun i hi => w.goes i H' (by rw [← r.length]; exact hi) q, by rw [r.length]; exact w.stops H' q, fun i x v H2 hx y => ?_⟩
  obtain ⟨rfl, y'⟩ := w.yields i H' v H2 (by rw [← r.length]; exact (List.getElem?_eq_some_iff.mp hx).1) q y
  obtain ⟨v', e1, e2⟩ := r.get hx
  rw [e1] at y'
  cases y'
  exact ⟨G', Ext.refl, wd', e2⟩
/-- a new pair -/
theorem pair_new {T : Addr} {x y : PV} {v u : V} (wd : Wd S G m s H) (hT : H T = none) (rx : Rep S G m x v) (ry : Rep S G m y u) : ∃ G', Ext m m G G' H (upd H T (.tup [v, u])) ∧ Wd S G' m s (upd H T (.tup [v, u])) ∧ Rep S G' m (.tup [x, y]) (.ref T) := by
  obtain ⟨_, wd'⟩ := freezeG (o := .tup [v, u]) (wd.new hT) upd_same (wd.mnone hT) ntbl_tup (wd.Gnone hT)
  have le : ∀ b q, G b = some q → upd G T (.tup [v, u]) b = some q := fun b q z => by rw [upd_ne (ne_of_none z (wd.Gnone hT))]; exact z
  exact ⟨_, (wd.newExt hT).freeze hT (wd.Gnone hT), wd', .tup (.inl (.inl upd_same)) (.cons (rx.mono le ⟨[], by simp⟩) (.cons (ry.mono le ⟨[], by simp⟩) .nil))⟩
theorem enumP_len : ∀ (n : Nat) (xs : List PV), (enumP n xs).length = xs.length
  | _, [] => rfl
  | n, x :: xs => by simp [enumP, enumP_len]
theorem enumP_get : ∀ (n i : Nat) (xs : List PV) (y : PV), (enumP n xs)[i]? = some y → ∃ x, xs[i]? = some x ∧ y = .tup [.int ((n + i : Nat) : Int), x]
  | n, i, [], y, h => by simp [enumP] at h
  | n, 0, x :: xs, y, h => by simp [enumP] at h; exact ⟨x, rfl, h.symm⟩
  | n, i + 1, x :: xs, y, h => by
    simp only [enumP, List.getElem?_cons_succ] at h
    obtain ⟨z, h1, h2⟩ := enumP_get (n + 1) i xs y h
    refine ⟨z, by simpa using h1, ?_⟩
    rw [h2, show n + 1 + i = n + (i + 1) by omega]
theorem zipP_len : ∀ (xs ys : List PV), (zipP xs ys).length = min xs.length ys.length
  | [], ys => by simp [zipP]
  | _ :: _, [] => by simp [zipP]
  | x :: xs, y :: ys => by simp only [zipP, List.length_cons, zipP_len]; omega
theorem zipP_get : ∀ (i : Nat) (xs ys : List PV) (z : PV), (zipP xs ys)[i]? = some z → ∃ x y, xs[i]? = some x ∧ ys[i]? = some y ∧ z = .tup [x, y]
  | i, [], ys, z, h => by simp [zipP] at h
  | i, _ :: _, [], z, h => by simp [zipP] at h
  | 0, x :: xs, y :: ys, z, h => by simp [zipP] at h; exact ⟨x, y, rfl, rfl, h.symm⟩
  | i + 1, x :: xs, y :: ys, z, h => by
    simp only [zipP, List.getElem?_cons_succ] at h
    obtain ⟨a, b, h1, h2, h3⟩ := zipP_get i xs ys z h
    exact ⟨a, b, by simpa using h1, by simpa using h2, h3⟩
theorem iter_el {o : Bool} {a : Addr} {xs : List PV} {vs : List V} (h : ∀ G' m' s' H', Wd S G' m' s' H' → Lat m m' G G' → (o = true → Ext m m' G G' H H') → SqL S.K H' a vs ∧ Reps S G' m' xs vs) : IterOk S o G m H (enumP 0 xs) (Ite S.K a) := by
  intro G' m' s' H' wd' l e
  obtain ⟨q, r⟩ := h G' m' s' H' wd' l e
  have w : Walk (Ite S.K a) vs.length (fun H => SqL S.K H a vs) (YPair (fun i => some (.int (i : Nat))) (fun i => vs[i]?)) := walk_enum
  refine ⟨fun i hi => w.goes i H' (by rw [← r.length]; rw [enumP_len] at hi; exact hi) q, by rw [enumP_len, r.length]; exact w.stops H' q, fun i x v H2 hx y => ?_⟩
  obtain ⟨x', hx', rfl⟩ := enumP_get 0 i xs x hx
  obtain ⟨T, a1, b1, rfl, hT, rfl, ha, hb⟩ := w.yields i H' v H2 (by rw [← r.length]; exact (List.getElem?_eq_some_iff.mp hx').1) q y
  obtain ⟨v', e1, e2⟩ := r.get hx'
  cases ha
  have hb : vs[i]? = some b1 := hb
  rw [e1] at hb
  cases hb
  rw [Nat.zero_add]
  exact pair_new wd' hT (.int _) e2
theorem iter_et {o : Bool} {a : Addr} {xs : List PV} {vs : List V} (h : ∀ G' m' s' H', Wd S G' m' s' H' → Lat m m' G G' → (o = true → Ext m m' G G' H H') → SqT S.K H' a vs ∧ Reps S G' m' xs vs) : IterOk S o G m H (enumP 0 xs) (IteT S.K a) := by
  intro G' m' s' H' wd' l e
  obtain ⟨q, r⟩ := h G' m' s' H' wd' l e
  refine ⟨fun i hi => ?_, by rw [enumP_len, r.length]; exact ⟨vs, q, Nat.le_refl _⟩, fun i x v H2 hx y => ?_⟩
  · rw [enumP_len, r.length] at hi
    exact ⟨vs, vs[i], q, by simp [hi]⟩
  · obtain ⟨x', hx', rfl⟩ := enumP_get 0 i xs x hx
    obtain ⟨T, b1, rfl, hT, rfl, hb⟩ := y
    obtain ⟨v', e1, e2⟩ := r.get hx'
    have hb := hb vs q
    rw [e1] at hb
    cases hb
    rw [Nat.zero_add]
    exact pair_new wd' hT (.int _) e2
theorem iter_zl {o : Bool} {a b : Addr} {xs ys : List PV} {vs us : List V} (h : ∀ G' m' s' H', Wd S G' m' s' H' → Lat m m' G G' → (o = true → Ext m m' G G' H H') → (SqL S.K H' a vs ∧ Reps S G' m' xs vs) ∧ SqL S.K H' b us ∧ Reps S G' m' ys us) : IterOk S o G m H (zipP xs ys) (Itz S.K a b) := by
  intro G' m' s' H' wd' l e
  obtain ⟨⟨q, r⟩, q2, r2⟩ := h G' m' s' H' wd' l e
  have w : Walk (Itz S.K a b) (zipP xs ys).length (fun H => SqL S.K H a vs ∧ SqL S.K H b us) (YPair (fun i => vs[i]?) (fun i => us[i]?)) := walk_zip (by rw [zipP_len, r.length, r2.length])
  refine ⟨fun i hi => w.goes i H' hi ⟨q, q2⟩, w.stops H' ⟨q, q2⟩, fun i x v H2 hx y => ?_⟩
  obtain ⟨T, a1, b1, rfl, hT, rfl, ha, hb⟩ := w.yields i H' v H2 (List.getElem?_eq_some_iff.mp hx).1 ⟨q, q2⟩ y
  obtain ⟨x', y', hx', hy', rfl⟩ := zipP_get i xs ys x hx
  obtain ⟨v', e1, e2⟩ := r.get hx'
  obtain ⟨u', e3, e4⟩ := r2.get hy'
  have ha : vs[i]? = some a1 := ha
  have hb : us[i]? = some b1 := hb
  rw [e1] at ha
  rw [e3] at hb
  cases ha
  cases hb
  exact pair_new wd' hT e2 e4
theorem iter_zt {o : Bool} {a b : Addr} {xs ys : List PV} {vs us : List V} (h : ∀ G' m' s' H', Wd S G' m' s' H' → Lat m m' G G' → (o = true → Ext m m' G G' H H') → (SqT S.K H' a vs ∧ Reps S G' m' xs vs) ∧ SqT S.K H' b us ∧ Reps S G' m' ys us) : IterOk S o G m H (zipP xs ys) (RZ.ItzT S.K a b) := by
  intro G' m' s' H' wd' l e
  obtain ⟨⟨q, r⟩, q2, r2⟩ := h G' m' s' H' wd' l e
  refine ⟨fun i hi => ?_, ?_, fun i x v H2 hx y => ?_⟩
  · rw [zipP_len] at hi
    have h1 : i < vs.length := by rw [← r.length]; omega
    have h2 : i < us.length := by rw [← r2.length]; omega
    exact ⟨vs, us, vs[i], us[i], q, q2, by simp [h1], by simp [h2]⟩
  · rw [zipP_len, r.length, r2.length]
    exact ⟨vs, us, q, q2, by omega⟩
  · obtain ⟨T, a1, b1, rfl, hT, rfl, ha, hb⟩ := y
    obtain ⟨x', y', hx', hy', rfl⟩ := zipP_get i xs ys x hx
    obtain ⟨v', e1, e2⟩ := r.get hx'
    obtain ⟨u', e3, e4⟩ := r2.get hy'
    have ha := ha vs q
    have hb := hb us q2
    rw [e1] at ha
    rw [e3] at hb
    cases ha
    cases hb
    exact pair_new wd' hT e2 e4
theorem rangeP_len : ∀ (n : Nat) (lo : Int), (rangeP lo n).length = n
  | 0, _ => rfl
  | n + 1, lo => by simp [rangeP, rangeP_len n]
theorem rangeP_get : ∀ (n i : Nat) (lo : Int) (y : PV), (rangeP lo n)[i]? = some y → y = .int (lo + i)
  | 0, i, lo, y, h => by simp [rangeP] at h
  | n + 1, 0, lo, y, h => by simp [rangeP] at h; simp [← h]
  | n + 1, i + 1, lo, y, h => by
    simp only [rangeP, List.getElem?_cons_succ] at h
    rw [rangeP_get n i (lo + 1) y h]
    congr 1
    omega
theorem iter_r {o : Bool} (n : Nat) : IterOk S o G m H (rangeP 0 n) (Itr 0 n) := by
  intro G' m' s' H' wd' l e
  refine ⟨fun i hi => by rw [rangeP_len] at hi; exact hi, by rw [rangeP_len]; exact Nat.le_refl _, fun i x v H2 hx y => ?_⟩
  obtain ⟨rfl, rfl⟩ := y
  rw [rangeP_get n i 0 x hx]
  exact ⟨G', Ext.refl, wd', .int _⟩
theorem repsD_get : ∀ {kvs : List (PV × PV)} {es : List (NestedKey × Addr × V)} {i : Nat} {p : PV × PV}, RepsD S G m kvs es → kvs[i]? = some p → ∃ q, es[i]? = some q ∧ Rep S G m p.1 (.ref q.2.1) ∧ Rep S G m p.2 q.2.2
  | _, _, _, _, .nil, h => by simp at h
  | _, _, 0, _, .cons _ h1 h2 _, h => by simp at h; subst h; exact ⟨_, rfl, h1, h2⟩
  | _, _, i + 1, p, .cons _ _ _ r, h => by
    obtain ⟨q, h1, h2⟩ := repsD_get r (show _ = some p by simpa using h)
    exact ⟨q, by simpa using h1, h2⟩
theorem iter_k {o : Bool} {a : Addr} {od : Obj} {kvs : List (PV × PV)} {es : List (NestedKey × Addr × V)} (h : G a = some (.frz od (DctO S.P S.w a es))) (r : RepsD S G m kvs es) : IterOk S o G m H (kvs.map (·.1)) (ItkD S.P S.w a od es) := by
  intro G' m' s' H' wd' l e
  have q := (wd'.le _ _ (l.le _ _ h)).1
  refine ⟨fun i hi => ⟨q, by rw [List.length_map, r.length] at hi; exact hi⟩, ⟨q, by rw [List.length_map, r.length]; exact Nat.le_refl _⟩, fun i x v H2 hx y => ?_⟩
  obtain ⟨rfl, p, hp, rfl⟩ := y
  rw [List.getElem?_map] at hx
  cases c : kvs[i]? with
  | none => rw [c] at hx; cases hx
  | some kv =>
    rw [c] at hx
    cases hx
    obtain ⟨p', e1, e2, _⟩ := repsD_get r c
    rw [hp] at e1
    cases e1
    exact ⟨G', Ext.refl, wd', e2.mono l.le l.pre⟩
theorem iter_i {o : Bool} {a : Addr} {od : Obj} {kvs : List (PV × PV)} {es : List (NestedKey × Addr × V)} (h : G a = some (.frz od (DctO S.P S.w a es))) (r : RepsD S G m kvs es) : IterOk S o G m H (kvs.map fun kv => .tup [kv.1, kv.2]) (ItiD S.P S.w a od es) := by
  intro G' m' s' H' wd' l e
  have q := (wd'.le _ _ (l.le _ _ h)).1
  refine ⟨fun i hi => ⟨q, by rw [List.length_map, r.length] at hi; exact hi⟩, ⟨q, by rw [List.length_map, r.length]; exact Nat.le_refl _⟩, fun i x v H2 hx y => ?_⟩
  obtain ⟨p, T, hp, rfl, hT, rfl⟩ := y
  rw [List.getElem?_map] at hx
  cases c : kvs[i]? with
  | none => rw [c] at hx; cases hx
  | some kv =>
    rw [c] at hx
    cases hx
    obtain ⟨p', e1, e2, e3⟩ := repsD_get r c
    rw [hp] at e1
    cases e1
    exact pair_new wd' hT (e2.mono l.le l.pre) (e3.mono l.le l.pre)
end

/-! ### iterables -/
section
variable {X : Cx} {T : List (Addr × Str)} {W : XK} {tg e e2 : Expr} {d d2 : Fm → M PV} {pos p tpos apos cpos : Pos} {elts : List Expr} {kk : Nat} {o : Bool}
theorem di_seq (he : PE X e (tD (sy X T) (md o) W d)) : PI X tg e (tDI (sy X T) o W fun r => bnd (d r) fun x => opt (seqP x)) := by
  refine ⟨fun pins s σ H R I h => (pi_seq he).run pins s σ H R I ?_⟩
  obtain ⟨G, m, s, H₀, r, a, p⟩ := h
  refine ⟨G, m, s, H₀, r, a, p.step (good_I _ _) fun x s1 G1 m1 H1 v e1 wd1 rx p1 => ?_⟩
  cases x with
  | lst xs =>
    obtain ⟨b, vs, rfl, q, _, l⟩ := lst_later wd1 rx
    exact ⟨b, rfl, .inl ⟨⟨vs, q⟩, p1.ret wd1 (iter_l l)⟩⟩
  | rol xs =>
    obtain ⟨b, vs, rfl, q, _, l⟩ := rol_later wd1 rx
    exact ⟨b, rfl, .inl ⟨⟨vs, q⟩, p1.ret wd1 (iter_l l)⟩⟩
  | tup xs =>
    obtain ⟨b, vs, rfl, q, _, l⟩ := tup_later wd1 rx
    exact ⟨b, rfl, .inr ⟨⟨vs, q⟩, p1.ret wd1 (iter_t l)⟩⟩
  | _ => exact p1.elim
theorem da_one (he : PE X e (tD (sy X T) .E W d)) (hn : starEach [e] X.env = [(false, eval e X.env)]) : PA X [e] (tDA (sy X T) W fun r => bnd (d r) fun v => ret [v]) := by
  refine (da_cons he da_nil (by rw [hn]; rfl)).imp fun σ H Q ⟨G, m, s, H₀, r, a, p⟩ => ⟨G, m, s, H₀, r, a, p⟩
theorem di_range1 (hg : Gl X "range") (hm : X.mg "range" = none) (he : PE X e (tD (sy X T) .E W d)) (hs : starEach [e] X.env = [(false, eval e X.env)]) : PI X tg (.Call (.Name "range" p) [e] [] pos) (tDI (sy X T) o W fun r => bnd (d r) fun x => opt (rangeOf x)) := by
  refine ⟨fun pins s σ H R I h => (pi_range1 hg hm (pa_cons he pa_nil (by rw [hs]; rfl)) hs).run pins s σ H R I ?_⟩
  obtain ⟨G, m, s, H₀, r, a, p⟩ := h
  refine ⟨G, m, s, H₀, r, a, p.step (good_I _ _) fun x s1 G1 m1 H1 v e1 wd1 rx p1 => ?_⟩
  cases x with
  | int n =>
    cases rx
    simp only [rangeOf] at p1
    by_cases c : -1000000 ≤ n ∧ n ≤ 1000000
    · rw [if_pos c] at p1
      exact ⟨n, rfl, by omega, by omega, p1.ret wd1 (iter_r _)⟩
    · rw [if_neg c] at p1
      exact p1.elim
  | _ => exact p1.elim
theorem di_enum (hg : Gl X "enumerate") (hm : X.mg "enumerate" = none) (he : PE X e (tD (sy X T) (md o) W d)) (hs : starEach [e] X.env = [(false, eval e X.env)]) : PI X (.Tuple elts kk tpos) (.Call (.Name "enumerate" p) [e] [] pos) (tDI (sy X T) o W fun r => bnd (d r) fun x => opt (enumOf x)) := by
  refine ⟨fun pins s σ H R I h => (pi_enumA hg hm (pa_cons he pa_nil (by rw [hs]; rfl)) hs).run pins s σ H R I ?_⟩
  obtain ⟨G, m, s, H₀, r, a, p⟩ := h
  refine ⟨G, m, s, H₀, r, a, p.step (good_I _ _) fun x s1 G1 m1 H1 v e1 wd1 rx p1 => ?_⟩
  cases x with
  | lst xs =>
    obtain ⟨b, vs, rfl, q, _, l⟩ := lst_later wd1 rx
    exact ⟨b, vs, rfl, .inl ⟨q, p1.ret wd1 (iter_el l)⟩⟩
  | tup xs =>
    obtain ⟨b, vs, rfl, q, _, l⟩ := tup_later wd1 rx
    exact ⟨b, vs, rfl, .inr ⟨q, p1.ret wd1 (iter_et l)⟩⟩
  | _ => exact p1.elim
theorem later_ext {S : Sy} {G G' H H' H₀ : Hp} {m m' : List Addr} {x : PV} {v : V} (h : RepM S (md o) H₀ G m H x v) (e : Ext m m' G G' H H') : RepM S (md o) H₀ G' m' H' x v := by
  cases o with
  | true => exact RepO.ext h e
  | false => exact Rep.ext h e
theorem di_zip {e2 : Expr} {d2 : Fm → M PV} (hg : Gl X "zip") (hm : X.mg "zip" = none) (he : PE X e (tD (sy X T) (md o) W d)) (he2 : PE X e2 (tD (sy X T) (md o) W d2)) (hs : starEach [e, e2] X.env = (false, eval e X.env) :: starEach [e2] X.env) (hs2 : starEach [e2] X.env = [(false, eval e2 X.env)]) :
    PI X (.Tuple elts kk tpos) (.Call (.Name "zip" p) [e, e2] [] pos) (tDI (sy X T) o W fun r => bnd (d r) fun x => bnd (d2 r) fun y => opt (zipOf x y)) := by
  refine ⟨fun pins s σ H R I h => (RZ.pi_zipA hg hm (pa_cons he (pa_cons he2 pa_nil (by rw [hs2]; rfl)) (by rw [hs])) hs (by rw [hs2]; rfl)).run pins s σ H R I ?_⟩
  obtain ⟨G, m, s, H₀, r, a, p⟩ := h
  refine ⟨G, m, s, H₀, r, a, p.step (good_I _ _) fun x s1 G1 m1 H1 v e1 wd1 rx p1 => ?_⟩
  refine ⟨G1, m1, s1, H₀, r, ⟨wd1, a.2.ext e1⟩, p1.step (good_I _ _) fun y s2 G2 m2 H2 u e2 wd2 ry p2 => ?_⟩
  have rx := later_ext rx e2
  cases x with
  | lst xs =>
    cases y with
    | lst ys =>
      obtain ⟨b, vs, rfl, q, _, l⟩ := lst_later wd2 rx
      obtain ⟨b2, vs2, rfl, q2, _, l2⟩ := lst_later wd2 ry
      exact ⟨b, b2, vs, vs2, rfl, .inl ⟨q, q2, p2.ret wd2 (iter_zl fun G' m' s' H' wd' l' e' => ⟨l G' m' s' H' wd' l' e', l2 G' m' s' H' wd' l' e'⟩)⟩⟩
    | _ => exact p2.elim
  | tup xs =>
    cases y with
    | tup ys =>
      obtain ⟨b, vs, rfl, q, _, l⟩ := tup_later wd2 rx
      obtain ⟨b2, vs2, rfl, q2, _, l2⟩ := tup_later wd2 ry
      exact ⟨b, b2, vs, vs2, rfl, .inr ⟨q, q2, p2.ret wd2 (iter_zt fun G' m' s' H' wd' l' e' => ⟨l G' m' s' H' wd' l' e', l2 G' m' s' H' wd' l' e'⟩)⟩⟩
    | _ => exact p2.elim
  | _ => exact p2.elim
theorem di_keys (he : PE X e (tD (sy X T) .E W d)) : PI X tg e (tDI (sy X T) o W fun r => bnd (d r) fun x => opt (keysOfD x)) := by
  refine ⟨fun pins s σ H R I h => (pi_keysD he).run pins s σ H R I ?_⟩
  obtain ⟨G, m, s, H₀, r, a, p⟩ := h
  refine ⟨G, m, s, H₀, r, a, p.step (good_I _ _) fun x s1 G1 m1 H1 v e1 wd1 rx p1 => ?_⟩
  cases x with
  | dct kvs =>
    cases rx with
    | dct h rr => exact ⟨_, _, _, rfl, (wd1.le _ _ h).1, p1.ret wd1 (iter_k h rr)⟩
  | _ => exact p1.elim
theorem di_items (he : PE X e (tD (sy X T) .E W d)) (hb : attributeBase e "items" X.env (eval e X.env) = eval e X.env) (hl : (apos.endLine == cpos.line) = true) : PI X (.Tuple elts kk tpos) (.Call (.Attribute e "items" apos) [] [] cpos) (tDI (sy X T) o W fun r => bnd (d r) fun x => opt (itemsOfD x)) := by
  refine ⟨fun pins s σ H R I h => (pi_itemsD he hb hl).run pins s σ H R I ?_⟩
  obtain ⟨G, m, s, H₀, r, a, p⟩ := h
  refine ⟨G, m, s, H₀, r, a, p.step (good_I _ _) fun x s1 G1 m1 H1 v e1 wd1 rx p1 => ?_⟩
  cases x with
  | dct kvs =>
    cases rx with
    | dct h rr => exact ⟨_, _, _, rfl, (wd1.le _ _ h).1, p1.ret wd1 (iter_i h rr)⟩
  | _ => exact p1.elim

/-! ### for -/
theorem ds_for {iter : Expr} {t : Tg} {body : List Stmt} {di : Fm → M (List PV)} {db : Fm → M Fl} (hp : PassesOwn (model X.prog X.w) X.A X.env X.xe) (hc : X.calm = true) (hN : X.N.Nodup) (hi : PI X tg iter (tDI (sy X T) false W di)) (ht : TgOk X tg t) (hb : PSs X body (tS (sy X T) W db)) (hs : ∀ x, foldedSetIterable iter X.env x = pure x) :
    PS X (.For tg iter body [] pos) (tS (sy X T) W fun r => bnd (di r) fun xs => forGo (fun x r1 => bnd (opt (bindT t x r1)) fun r2 => db r2) xs r) := by
  refine (ps_for hp hc hi (tg_ok (T := T) hN hc ht) hb hs).imp fun D σ H ⟨G₀, m₀, H₀, Gb, mb, G, m, s, r, a, p⟩ => ?_
  refine ⟨G, m, s, H₀, r, a.at, PostS.step a p fun xs s1 G1 m1 H1 J e1 a1 io p1 => ?_⟩
  have io : IterOk (sy X T) false G1 m1 H1 xs J := io
  have p1 : PostS (sy X T) G₀ m₀ H₀ Gb mb (forGo (fun x r1 => bnd (opt (bindT t x r1)) fun r2 => db r2) xs r s1) D W := p1
  have p1 := p1.base a1.lat
  refine ⟨fun i n σ H => n = xs.length - i ∧ i ≤ xs.length ∧ ∃ G m s r, Now (sy X T) G₀ m₀ H₀ G1 m1 G m s H r σ ∧ PostS (sy X T) G₀ m₀ H₀ G1 m1 (forGo (fun x r1 => bnd (opt (bindT t x r1)) fun r2 => db r2) (xs.drop i) r s) D W,
    ⟨xs.length, rfl, Nat.zero_le _, G1, m1, s1, r, ⟨a1.ext, ⟨fun _ _ h => h, [], by simp⟩, a1.wd, a1.fm⟩, p1⟩, ?_⟩
  rintro i n σ' H' ⟨rfl, hle, G2, m2, s2, r2, a2, p2⟩
  obtain ⟨hgo, hstop, hy⟩ := io G2 m2 s2 H' a2.wd a2.lat (fun z => nomatch z)
  by_cases hlt : i < xs.length
  · refine .inr ⟨hgo i hlt, fun σ' H' => ∃ G m s r, Now (sy X T) G₀ m₀ H₀ G1 m1 G m s H' r σ' ∧ PostS (sy X T) G₀ m₀ H₀ G1 m1 (forGo (fun x r1 => bnd (opt (bindT t x r1)) fun r2 => db r2) (xs.drop (i + 1)) r s) D W, fun σ' H' q => ⟨xs.length - (i + 1), by omega, rfl, hlt, q⟩, fun v H3 yl => ?_⟩
    obtain ⟨G3, e3, wd3, rv⟩ := hy i xs[i] v H3 (List.getElem?_eq_getElem hlt) yl
    have a3 : Now (sy X T) G₀ m₀ H₀ G1 m1 G3 m2 s2 H3 r2 σ' := a2.go e3 wd3
    rw [List.drop_eq_getElem_cons hlt] at p2
    have p2 : PostS (sy X T) G₀ m₀ H₀ G1 m1 (bnd (bnd (opt (bindT t xs[i] r2)) fun r3 => db r3) (stepFl fun r' => forGo (fun x r1 => bnd (opt (bindT t x r1)) fun r2 => db r2) (xs.drop (i + 1)) r') s2) D W := p2
    cases q : bindT t xs[i] r2 with
    | none => rw [q] at p2; exact p2.elim
    | some r3 =>
      rw [q] at p2
      have p2 : PostS (sy X T) G₀ m₀ H₀ G1 m1 (bnd (db r3) (stepFl fun r' => forGo (fun x r1 => bnd (opt (bindT t x r1)) fun r2 => db r2) (xs.drop (i + 1)) r') s2) D W := p2
      refine ⟨G3, m2, s2, H₀, r2, xs[i], r3, a3.at, .rep rv, fun _ _ => rv, q, fun σ4 a4 _ => ?_⟩
      exact ⟨G₀, m₀, H₀, G1, m1, G3, m2, s2, r3, ⟨a3.ext, a3.lat, a3.wd, a4 H3 a3.fm⟩, PostS.turn p2 fun r' s' G' m' H' σ' a' p' => ⟨G', m', s', r', a', p'⟩⟩
  · have e : i = xs.length := by omega
    subst e
    rw [List.drop_length] at p2
    exact .inl ⟨hstop, p2.nx a2⟩
end
end RP

/-! Fw13: comprehensions. Own work. -/
namespace RP
open PySem PySem.Spec PyProof.Rows L2

theorem lcGo_acc {α : Type} (f : PV → M (List PV)) (k : List PV → M α) (pre : List PV) : ∀ (xs acc : List PV), bnd (lcGo f xs acc) (fun ys => k (pre ++ ys)) = bnd (lcGo f xs (pre ++ acc)) k
  | [], acc => rfl
  | x :: xs, acc => by
    have ih := fun ys => lcGo_acc f k pre xs (acc ++ ys)
    show bnd (bnd (f x) fun ys => lcGo f xs (acc ++ ys)) _ = bnd (bnd (f x) fun ys => lcGo f xs (pre ++ acc ++ ys)) k
    rw [bnd_assoc, bnd_assoc]
    congr 1
    funext ys
    rw [ih ys, List.append_assoc]
theorem lcGo_pre (f : PV → M (List PV)) : ∀ (xs acc : List PV) (s : AS) (ys : List PV) (s' : AS), lcGo f xs acc s = .ok ys s' → ∃ zs, ys = acc ++ zs
  | [], acc, s, ys, s', h => by cases h; exact ⟨[], by simp⟩
  | x :: xs, acc, s, ys, s', h => by
    have h : bnd (f x) (fun ys => lcGo f xs (acc ++ ys)) s = .ok ys s' := h
    unfold bnd at h
    cases q : f x s with
    | ok a s1 =>
      rw [q] at h
      obtain ⟨zs, e⟩ := lcGo_pre f xs (acc ++ a) s1 ys s' h
      exact ⟨a ++ zs, by rw [e, List.append_assoc]⟩
    | exc e s1 => rw [q] at h; cases h
    | stuck => rw [q] at h; cases h
theorem noExc_stuck {α : Type} {x : M α} {s : AS} (h : ∀ a s', x s ≠ .ok a s') : noExc x s = .stuck := by
  unfold noExc
  cases q : x s with
  | ok a s' => exact (h a s' q).elim
  | exc e s' => rfl
  | stuck => rfl
section
variable {S : Sy} {G G₀ H H₀ Gb Hb : Hp} {m m₀ mb : List Addr} {s : AS} {W : XK}
/-- a step within what may not raise -/
theorem Post.nx {α β γ δ : Type} {R : RT α β} {R' : RT γ δ} {x : M γ} {f : γ → M α} {Q : β → Hp → Prop} {W' : XK} (h : Post S R Gb mb Hb (noExc (bnd x f) s) Q W) {Q' : δ → Hp → Prop}
    (k : ∀ a s1 G1 m1 H1 v, Ext m m1 G G1 H H1 → Wd S G1 m1 s1 H1 → R' H G1 m1 H1 a v → Post S R Gb mb Hb (noExc (f a) s1) Q W → Q' v H1) : Post S R' G m H (x s) Q' W' := by
  cases q : x s with
  | ok a s1 =>
    have e : noExc (bnd x f) s = noExc (f a) s1 := by unfold noExc bnd; rw [q]; rfl
    rw [e] at h
    exact fun G1 m1 H1 v e1 wd r => k a s1 G1 m1 H1 v e1 wd r h
  | exc y s1 =>
    have e : noExc (bnd x f) s = .stuck := by unfold noExc bnd; rw [q]; rfl
    rw [e] at h
    exact h.elim
  | stuck =>
    have e : noExc (bnd x f) s = .stuck := by unfold noExc bnd; rw [q]; rfl
    rw [e] at h
    exact h.elim
theorem Post.acc_le {R : RT PV V} {f : PV → M (List PV)} {xs acc : List PV} {Q : VK} (h : Post S R Gb mb Hb (noExc (bnd (lcGo f xs acc) finL) s) Q W) : acc.length ≤ LIM := by
  by_cases c : acc.length ≤ LIM
  · exact c
  · have : noExc (bnd (lcGo f xs acc) finL) s = .stuck := noExc_stuck fun a s' e => by
      unfold bnd at e
      cases q : lcGo f xs acc s with
      | ok ys s1 =>
        rw [q] at e
        obtain ⟨zs, rfl⟩ := lcGo_pre f xs acc s ys s1 q
        have e : finL (acc ++ zs) s1 = .ok a s' := e
        unfold finL at e
        rw [if_neg (by rw [List.length_append]; omega)] at e
        cases e
      | exc y s1 => rw [q] at e; cases e
      | stuck => rw [q] at e; cases e
    rw [this] at h
    exact h.elim
/-- the new object of a comprehension is written -/
theorem write_new {a : Addr} {o : HO} (e : Ext m₀ m G₀ G H₀ H) (wd : Wd S G m s H) (hd : H a ≠ none) (hm : a ∉ m) (hg : G a = none) (h0 : H₀ a = none) (hT : ∀ ps, H a ≠ some (.tbl ps)) (hc : ∀ q, H a ≠ some (LamX.CodeO a q)) :
    Ext m₀ m G₀ G H₀ (upd H a o) ∧ Wd S G m s (upd H a o) := by
  have kp : ∀ b u, b ≠ a → H b = some u → upd H a o b = some u := fun b u hb h => by rw [upd_ne hb]; exact h
  refine ⟨⟨e.le, e.pre, e.newm, e.newG, fun b u h h1 h2 => ?_, fun b h => ?_⟩, ⟨fun b u h => ⟨kp b u (fun z => by rw [z, hg] at h; cases h) (wd.le b u h).1, (wd.le b u h).2⟩, wd.len, wd.nd, fun n b u h1 h2 => ?_, fun p hp => ?_⟩⟩
  · exact kp b u (fun z => by rw [z, h0] at h; cases h) (e.keep b u h h1 h2)
  · by_cases hb : b = a
    · subst hb; rw [upd_same] at h; cases h
    · rw [upd_ne hb] at h; exact e.dom b h
  · have hb : b ≠ a := fun z => hm (z ▸ List.mem_of_getElem? h1)
    cases wd.obj n b u h1 h2 with
    | lst h r => exact .lst (kp _ _ hb h) r
    | ins hc h r => exact .ins hc (kp _ _ hb h) r
  · obtain ⟨ps, h1, h2, h3⟩ := wd.tab p hp
    refine ⟨ps, kp _ _ (fun z => hT ps (by rw [← z]; exact h1)) h1, h2, fun pos cv hcv => ?_⟩
    obtain ⟨c, e1, e2⟩ := h3 pos cv hcv
    exact ⟨c, e1, kp _ _ (fun z => hc _ (by rw [← z]; exact e2)) e2⟩
theorem wipe_sub {σ : L2.St} {vs : List Nat} : ∀ us : List Nat, (∀ i, i ∈ us → i ∈ vs) → L2.wipe (L2.wipe σ us) vs = L2.wipe σ vs
  | [], _ => rfl
  | u :: us, h => by
    show L2.wipe ((L2.wipe σ us).set u none) vs = _
    rw [wipe_set (h u List.mem_cons_self)]
    exact wipe_sub us fun i hi => h i (List.mem_cons_of_mem _ hi)
theorem wipe_wipe (σ : L2.St) (vs : List Nat) : L2.wipe (L2.wipe σ vs) vs = L2.wipe σ vs := wipe_sub vs fun _ h => h
theorem FmOk.wipe {r : Fm} {σ : L2.St} (f : FmOk S G m H₀ H r σ) : ∀ vs : List Nat, FmOk S G m H₀ H (Fm.wipe r vs) (L2.wipe σ vs)
  | [] => f
  | v :: vs => (FmOk.wipe f vs).putNo v
end
/-! ### [e for t in it if c] -/
section
variable {X : Cx} {T : List (Addr × Str)} {W : XK}
/-- a clause's tests -/
theorem pts_of {Y : Cx} {ifs : List Expr} {dc : Fm → M PV} (h : (ifs = [] ∧ dc = fun _ => ret (.bl true)) ∨ ∃ c, ifs = [c] ∧ PT Y c (tDT (sy Y T) W dc)) : PTs Y ifs (tDT (sy Y T) W dc) := by
  rcases h with ⟨rfl, rfl⟩ | ⟨c, rfl, h⟩
  · refine ⟨fun pins s σ H Q I h => pts_nil.run pins s σ H Q I ?_⟩
    obtain ⟨G, m, s, H₀, r, a, p⟩ := h
    exact Post.ret (v := true) a.1 rfl p
  · exact pts_one h
def lcF (t : Tg) (vs : List Nat) (dc de : Fm → M PV) (r : Fm) : PV → M (List PV) := fun x => bnd (opt (bindT t x (r.wipe vs))) fun r2 => tst (dc r2) fun k => if k then bnd (de r2) fun y => ret [y] else ret []
def lcD (di : Fm → M (List PV)) (t : Tg) (vs : List Nat) (dc de : Fm → M PV) : Fm → M PV := fun r => bnd (di r) fun xs => noExc (bnd (lcGo (lcF t vs dc de r) xs []) finL)
theorem lc_red {S : Sy} {t : Tg} {vs : List Nat} {di : Fm → M (List PV)} {dc de : Fm → M PV} {σ : L2.St} {H : Hp} {Q : VK} (ht : ∀ i, i ∈ t.is → i ∈ vs) (h : tD S .F W (lcD di t vs dc de) σ H Q) :
    tLc (tDI S true W di) (gTg S t) (tDT S W0 dc) (tD S .E W0 de) vs σ H Q := by
  obtain ⟨G, m, s, H₀, r, a, p⟩ := h
  refine ⟨G, m, s, H₀, r, a, p.step (good_M _ _) fun xs s1 G1 m1 H1 J e1 wd1 io p1 => ?_⟩
  intro D hD
  have io : IterOk S true G1 m1 H1 xs J := io
  have p1 : Post S (RepM S .F) G1 m1 H1 (noExc (bnd (lcGo (lcF t vs dc de r) xs []) finL) s1) Q W := p1
  refine ⟨fun i n H => n = xs.length - i ∧ i ≤ xs.length ∧ ∃ G m s acc us, Ext m1 m G1 G H1 H ∧ Wd S G m s H ∧ H D = some (.lst us) ∧ D ∉ m ∧ G D = none ∧ Reps S G m acc us ∧
    Post S (RepM S .F) G1 m1 H1 (noExc (bnd (lcGo (lcF t vs dc de r) (xs.drop i) acc) finL) s) Q W,
    ⟨xs.length, rfl, Nat.zero_le _, G1, m1, s1, [], [], wd1.newExt hD, wd1.new hD, upd_same, wd1.mnone hD, wd1.Gnone hD, .nil, p1⟩, ?_⟩
  rintro i n H' ⟨rfl, hle, G2, m2, s2, acc, us, e2, wd2, hl, hm, hg, racc, p2⟩
  obtain ⟨hgo, hstop, hy⟩ := io G2 m2 s2 H' wd2 e2.lat fun _ => e2
  by_cases hlt : i < xs.length
  · refine .inr ⟨hgo i hlt, fun H' => ∃ G m s acc us, Ext m1 m G1 G H1 H' ∧ Wd S G m s H' ∧ H' D = some (.lst us) ∧ D ∉ m ∧ G D = none ∧ Reps S G m acc us ∧
      Post S (RepM S .F) G1 m1 H1 (noExc (bnd (lcGo (lcF t vs dc de r) (xs.drop (i + 1)) acc) finL) s) Q W, fun H' q => ⟨xs.length - (i + 1), by omega, rfl, hlt, q⟩, fun v H3 yl => ?_⟩
    obtain ⟨G3, e3, wd3, rv⟩ := hy i xs[i] v H3 (List.getElem?_eq_getElem hlt) yl
    rw [List.drop_eq_getElem_cons hlt] at p2
    have p2 : Post S (RepM S .F) G1 m1 H1 (noExc (bnd (bnd (bnd (opt (bindT t xs[i] (r.wipe vs))) fun r2 => tst (dc r2) fun k => if k then bnd (de r2) fun y => ret [y] else ret []) fun ys => lcGo (lcF t vs dc de r) (xs.drop (i + 1)) (acc ++ ys)) finL) s2) Q W := p2
    cases q : bindT t xs[i] (r.wipe vs) with
    | none => rw [q] at p2; exact p2.elim
    | some r3 =>
      rw [q] at p2
      have p2 : Post S (RepM S .F) G1 m1 H1 (noExc (bnd (bnd (tst (dc r3) fun k => if k then bnd (de r3) fun y => ret [y] else ret []) fun ys => lcGo (lcF t vs dc de r) (xs.drop (i + 1)) (acc ++ ys)) finL) s2) Q W := p2
      rw [bnd_assoc] at p2
      have e13 := e2.trans e3
      have fm3 : FmOk S G3 m2 H₀ H3 (r.wipe vs) (L2.wipe σ vs) := FmOk.wipe ((a.2.ext e1).ext e13) vs
      refine ⟨G3, m2, s2, H₀, r.wipe vs, xs[i], r3, ⟨wd3, fm3⟩, .rep rv, fun _ _ => rv, q, fun σ4 a4 hw => ⟨(hw vs ht).trans (wipe_wipe σ vs), ?_⟩⟩
      have hl3 := e3.keep _ _ hl hm ntbl_lst
      have hm3 := e3.notm hl hm
      have hg3 := e3.notG hl hg
      refine ⟨G3, m2, s2, H₀, r3, ⟨wd3, a4 H3 fm3⟩, ?_⟩
      unfold tst at p2
      rw [bnd_assoc] at p2
      refine Post.nx p2 fun k s5 G5 m5 H5 b e5 wd5 rb p5 => ?_
      have rb : k = b := rb
      subst rb
      have hl5 := e5.keep _ _ hl3 hm3 ntbl_lst
      have hm5 := e5.notm hl3 hm3
      have hg5 := e5.notG hl3 hg3
      have e15 := e13.trans e5
      have racc5 := (racc.ext e3).ext e5
      cases k with
      | false =>
        have p5 : Post S (RepM S .F) G1 m1 H1 (noExc (bnd (lcGo (lcF t vs dc de r) (xs.drop (i + 1)) (acc ++ [])) finL) s5) Q W := p5
        rw [List.append_nil] at p5
        exact ⟨G5, m5, s5, acc, us, e15, wd5, hl5, hm5, hg5, racc5, p5⟩
      | true =>
        have p5 : Post S (RepM S .F) G1 m1 H1 (noExc (bnd (bnd (de r3) fun y => ret [y]) fun ys => bnd (lcGo (lcF t vs dc de r) (xs.drop (i + 1)) (acc ++ ys)) finL) s5) Q W := p5
        rw [bnd_assoc] at p5
        rw [if_pos rfl]
        refine ⟨G5, m5, s5, H₀, r3, ⟨wd5, (a4 H3 fm3).ext e5⟩, Post.nx p5 fun y s6 G6 m6 H6 w e6 wd6 ry p6 => ?_⟩
        have ry : Rep S G6 m6 y w := ry
        have p6 : Post S (RepM S .F) G1 m1 H1 (noExc (bnd (lcGo (lcF t vs dc de r) (xs.drop (i + 1)) (acc ++ [y])) finL) s6) Q W := p6
        have hl6 := e6.keep _ _ hl5 hm5 ntbl_lst
        have hm6 := e6.notm hl5 hm5
        have hg6 := e6.notG hl5 hg5
        have racc6 := racc5.ext e6
        have hle6 := p6.acc_le
        obtain ⟨k1, k2⟩ := write_new (o := .lst (us ++ [w])) (e15.trans e6) wd6 (by rw [hl6]; exact fun z => nomatch z) hm6 hg6 hD (by rw [hl6]; exact fun _ z => nomatch z) (by rw [hl6]; exact fun _ z => nomatch z)
        refine ⟨us, hl6, ?_, G6, m6, s6, acc ++ [y], us ++ [w], k1, k2, upd_same, hm6, hg6, racc6.append (.cons ry .nil), p6⟩
        have := LIM_le
        rw [← racc.length]
        rw [List.length_append] at hle6
        simp at hle6
        omega
  · have e : i = xs.length := by omega
    subst e
    rw [List.drop_length] at p2
    have p2 : Post S (RepM S .F) G1 m1 H1 (noExc (finL acc) s2) Q W := p2
    refine .inl ⟨hstop, ?_⟩
    unfold finL at p2
    by_cases c : acc.length ≤ LIM
    · rw [if_pos c] at p2
      exact p2 G2 m2 H' (.ref D) e2 wd2 (.lst hl hm hg hD racc)
    · rw [if_neg c] at p2
      exact p2.elim
/-- a clause in the block's context -/
structure ClOk (X : Cx) (T : List (Addr × Str)) (scope : Scope) (tg : Expr) (t : Tg) (ifs : List Expr) (dc : Fm → M PV) : Prop where
  tg : ∀ (s : Shared) (H : Hp) (C : Addr) (cl : List (Str × Addr)) (fp : List Addr), TgOk (X.blk s H scope (compEnvC scope cl C X.env) fp) tg t
  ifs : ∀ (s : Shared) (H : Hp) (C : Addr) (cl : List (Str × Addr)) (fp : List Addr), (ifs = [] ∧ dc = fun _ => ret (.bl true)) ∨ ∃ c, ifs = [c] ∧ PT (X.blk s H scope (compEnvC scope cl C X.env) fp) c (tDT (sy X T) W0 dc)
section
variable {elt tg iter : Expr} {ifs : List Expr} {scope : Scope} {own : List (Str × Nat)} {pos spos py : Pos} {t : Tg} {di : Fm → M (List PV)} {dc de : Fm → M PV} {i : Nat} {y : Str}
theorem de_lc (hc : X.calm = true) (hN : X.N.Nodup) (hi : PI X tg iter (tDI (sy X T) true W di)) (ok : BlkOk X.N X.env.scope scope own) (cl : ClOk X T scope tg t ifs dc) (ht : ∀ i, i ∈ t.is → i ∈ own.map (·.2))
    (he : ∀ (s : Shared) (H : Hp) (C : Addr) (cl : List (Str × Addr)) (fp : List Addr), PE (X.blk s H scope (compEnvC scope cl C X.env) fp) elt (tD (sy X T) .E W0 de)) (hs : ∀ x, foldedSetIterable iter X.env x = pure x) :
    PE X (.ListComp elt [⟨tg, iter, ifs, 0⟩] scope pos) (tD (sy X T) .F W (lcD di t (own.map (·.2)) dc de)) :=
  (pe_lc (g := gTg (sy X T) t) (tt := tDT (sy X T) W0 dc) hc hN hi ok (fun s H C c fp => tg_ok (X := X.blk s H scope (compEnvC scope c C X.env) fp) (T := T) hN hc (cl.tg s H C c fp)) (fun s H C c fp => pts_of (T := T) (Y := X.blk s H scope (compEnvC scope c C X.env) fp) (cl.ifs s H C c fp)) he hs).imp fun σ H Q h => lc_red ht h
theorem ds_setLc (hc : X.calm = true) (hN : X.N.Nodup) (hy : X.N[i]? = some y) (hyl : X.env.scope.names.lookup y = some .local) (hsw : swapsWith (.ListComp elt [⟨tg, iter, ifs, 0⟩] scope pos) (some (.Name y py)) spos.line X.env = pure true)
    (hi : PI X tg iter (tDI (sy X T) true W di)) (ok : BlkOk X.N X.env.scope scope own) (cl : ClOk X T scope tg t ifs dc) (ht : ∀ i, i ∈ t.is → i ∈ own.map (·.2))
    (he : ∀ (s : Shared) (H : Hp) (C : Addr) (cl : List (Str × Addr)) (fp : List Addr), PE (X.blk s H scope (compEnvC scope cl C X.env) fp) elt (tD (sy X T) .E W0 de)) (hs : ∀ x, foldedSetIterable iter X.env x = pure x) :
    PS X (.Assign [.Name y py] (.ListComp elt [⟨tg, iter, ifs, 0⟩] scope pos) spos) (tS (sy X T) W fun r => bnd (lcD di t (own.map (·.2)) dc de r) fun v => ret (.nx (r.set i (ofV v)))) := by
  refine (ps_setLc (g := gTg (sy X T) t) (tt := tDT (sy X T) W0 dc) hc hN hy hyl hsw hi ok (fun s H C c fp => tg_ok (X := X.blk s H scope (compEnvC scope c C X.env) fp) (T := T) hN hc (cl.tg s H C c fp)) (fun s H C c fp => pts_of (T := T) (Y := X.blk s H scope (compEnvC scope c C X.env) fp) (cl.ifs s H C c fp)) he hs).imp fun D σ H ⟨G₀, m₀, H₀, Gb, mb, G, m, s, r, a, p⟩ => ?_
  refine lc_red ht ⟨G, m, s, H₀, r, a.at, PostS.step a p fun x s1 G1 m1 H1 v e1 a1 rx p1 => ?_⟩
  exact p1 G1 m1 H1 _ a1.ext a1.lat ⟨a1.wd, a.fm.putF e1 a.ext.dom i rx⟩
end

/-! ### [e for t in it if c for t2 in it2 if c2] -/
/-- what asks that the list be not too long -/
def Long (K : List PV → M PV) : Prop := ∀ ys s a s', K ys s = .ok a s' → ys.length ≤ LIM
theorem long_fin : Long finL := fun ys s a s' h => by
  unfold finL at h
  by_cases c : ys.length ≤ LIM
  · exact c
  · rw [if_neg c] at h; cases h
theorem long_lc {K : List PV → M PV} (f : PV → M (List PV)) (xs : List PV) (hK : Long K) : Long fun ys => bnd (lcGo f xs ys) K := fun ys s a s' h => by
  have h : bnd (lcGo f xs ys) K s = .ok a s' := h
  unfold bnd at h
  cases q : lcGo f xs ys s with
  | ok zs s1 =>
    rw [q] at h
    obtain ⟨us, rfl⟩ := lcGo_pre f xs ys s zs s1 q
    have := hK _ _ _ _ h
    rw [List.length_append] at this
    omega
  | exc x s1 => rw [q] at h; cases h
  | stuck => rw [q] at h; cases h
theorem Post.long {S : Sy} {Gb Hb : Hp} {mb : List Addr} {s : AS} {R : RT PV V} {K : List PV → M PV} {ys : List PV} {Q : VK} (h : Post S R Gb mb Hb (noExc (K ys) s) Q W) (hK : Long K) : ys.length ≤ LIM := by
  by_cases c : ys.length ≤ LIM
  · exact c
  · have : noExc (K ys) s = .stuck := noExc_stuck fun a s' e => c (hK _ _ _ _ e)
    rw [this] at h
    exact h.elim
def lcF2 (t : Tg) (vs : List Nat) (dc : Fm → M PV) (di2 : Fm → M (List PV)) (t2 : Tg) (vs2 : List Nat) (dc2 de : Fm → M PV) (r : Fm) : PV → M (List PV) := fun x => bnd (opt (bindT t x (r.wipe vs))) fun r2 => tst (dc r2) fun k => if k then bnd (di2 r2) fun zs => lcGo (lcF t2 vs2 dc2 de r2) zs [] else ret []
def lcD2 (di : Fm → M (List PV)) (t : Tg) (vs : List Nat) (dc : Fm → M PV) (di2 : Fm → M (List PV)) (t2 : Tg) (vs2 : List Nat) (dc2 de : Fm → M PV) : Fm → M PV := fun r => bnd (di r) fun xs => noExc (bnd (lcGo (lcF2 t vs dc di2 t2 vs2 dc2 de r) xs []) finL)
/-- the heap without what stands at D -/
def hide (H : Hp) (D : Addr) : Hp := fun a => if a = D then none else H a
theorem hide_ne {H : Hp} {a D : Addr} (h : a ≠ D) : hide H D a = H a := if_neg h
theorem hide_at {H : Hp} {D : Addr} : hide H D D = none := if_pos rfl
theorem hide_some {H : Hp} {a D : Addr} {o : HO} (h : hide H D a = some o) : a ≠ D ∧ H a = some o := by
  by_cases c : a = D
  · subst c; rw [hide_at] at h; cases h
  · rw [hide_ne c] at h; exact ⟨c, h⟩
theorem hide_none {H : Hp} {a D : Addr} (h : hide H D a = none) : a = D ∨ H a = none := by
  by_cases c : a = D
  · exact .inl c
  · rw [hide_ne c] at h; exact .inr h
theorem none_hide {H : Hp} {a D : Addr} (h : H a = none) : hide H D a = none := by
  unfold hide
  split <;> first | rfl | exact h
theorem hide_upd {H : Hp} {D : Addr} {o : HO} : hide (upd H D o) D = hide H D := by
  funext a
  unfold hide
  by_cases c : a = D
  · rw [if_pos c, if_pos c]
  · rw [if_neg c, if_neg c, upd_ne c]
theorem Ext.hide0 {G G' H H' : Hp} {m m' : List Addr} {D : Addr} (e : Ext m m' G G' H H') (hD : H D = none) : Ext m m' G G' H (hide H' D) :=
  ⟨e.le, e.pre, e.newm, e.newG, fun a o h h1 h2 => by rw [hide_ne (fun z => by rw [z, hD] at h; cases h)]; exact e.keep a o h h1 h2, fun a h => by
    rcases hide_none h with z | z
    · rw [z]; exact hD
    · exact e.dom a z⟩
theorem Ext.hide {G G' H H' : Hp} {m m' : List Addr} {D : Addr} (e : Ext m m' G G' H H') : Ext m m' G G' (hide H D) (hide H' D) :=
  ⟨e.le, e.pre, fun a h => (e.newm a h).imp id none_hide, fun a o h => (e.newG a o h).imp id none_hide, fun a o h h1 h2 => by
    obtain ⟨hn, h⟩ := hide_some h
    rw [hide_ne hn]; exact e.keep a o h h1 h2, fun a h => by
    rcases hide_none h with z | z
    · rw [z]; exact hide_at
    · exact none_hide (e.dom a z)⟩
theorem FmOk.unhide {S : Sy} {G H H₀ : Hp} {m : List Addr} {D : Addr} {r : Fm} {σ : L2.St} (f : FmOk S G m H₀ (RP.hide H D) r σ) : FmOk S G m H₀ H r σ := by
  obtain ⟨oa, f⟩ := f.at
  refine (show FmAt S G m H₀ H r σ oa from ⟨f.len, fun i => ?_, f.inj⟩).fm
  have O := f.ok i
  cases q : Fm.get r i with
  | no => trivial
  | sh y => rw [q] at O; exact O
  | ow xs =>
    rw [q] at O
    obtain ⟨h1, ⟨vs, h2, h3⟩, h4⟩ := O
    exact ⟨h1, ⟨vs, (hide_some h2).2, h3⟩, h4⟩
  | od xs =>
    rw [q] at O
    obtain ⟨h1, ⟨vs, h2, h3⟩, h4⟩ := O
    exact ⟨h1, ⟨vs, (hide_some h2).2, h3⟩, h4⟩
/-- a clause's loop from a moment (G1, m1, H1), the list at D filled by what f gives; K: the rest -/
theorem lc_inner {S : Sy} {t : Tg} {vs : List Nat} {dc de : Fm → M PV} {r : Fm} {σ : L2.St} {Q : VK} {Gb Hb G1 H1 H₀ : Hp} {mb m1 : List Addr} {s1 : AS} {xs acc : List PV} {ws : List V} {J : L2.It} {K : List PV → M PV} {D : Addr} {Nx : Hp → Prop} (ht : ∀ i, i ∈ t.is → i ∈ vs) (hK : Long K)
    (eb : Ext mb m1 Gb G1 Hb H1) (wd1 : Wd S G1 m1 s1 H1) (fm1 : FmOk S G1 m1 H₀ (hide H1 D) r σ) (io : IterOk S false G1 m1 H1 xs J) (hD : Hb D = none) (hl : H1 D = some (.lst ws)) (hm : D ∉ m1) (hg : G1 D = none) (racc : Reps S G1 m1 acc ws)
    (p : Post S (RepM S .F) Gb mb Hb (noExc (bnd (lcGo (lcF t vs dc de r) xs acc) K) s1) Q W)
    (hx : ∀ G m s H acc ws, Ext mb m Gb G Hb H → Lat m1 m G1 G → Wd S G m s H → H D = some (.lst ws) → D ∉ m → G D = none → Reps S G m acc ws → Post S (RepM S .F) Gb mb Hb (noExc (K acc) s) Q W → Nx H) :
    ∃ W1 : Nat → Nat → Hp → Prop, (∃ n, W1 0 n H1) ∧ ∀ i n H, W1 i n H → (J.stop i H ∧ Nx H) ∨ (J.go i H ∧ ∃ Nx1 : Hp → Prop, (∀ H', Nx1 H' → ∃ n', n' < n ∧ W1 (i + 1) n' H') ∧ ∀ x H', J.yld i H x H' → gTg S t x (L2.wipe σ vs) H' fun σ2 H2 => L2.wipe σ2 vs = L2.wipe σ vs ∧ tDT S W0 dc σ2 H2 fun b H3 =>
      if b = true then tD S .E W0 de σ2 H3 fun y H4 => ∃ acc, H4 D = some (.lst acc) ∧ acc.length < sizeLine ∧ Nx1 (upd H4 D (.lst (acc ++ [y]))) else Nx1 H3) := by
  refine ⟨fun i n H => n = xs.length - i ∧ i ≤ xs.length ∧ ∃ G m s acc us, Ext mb m Gb G Hb H ∧ Lat m1 m G1 G ∧ FmOk S G m H₀ (hide H D) r σ ∧ Wd S G m s H ∧ H D = some (.lst us) ∧ D ∉ m ∧ G D = none ∧ Reps S G m acc us ∧
    Post S (RepM S .F) Gb mb Hb (noExc (bnd (lcGo (lcF t vs dc de r) (xs.drop i) acc) K) s) Q W, ⟨xs.length, rfl, Nat.zero_le _, G1, m1, s1, acc, ws, eb, ⟨fun _ _ h => h, [], by simp⟩, fm1, wd1, hl, hm, hg, racc, p⟩, ?_⟩
  rintro i n H' ⟨rfl, hle, G2, m2, s2, acc, us, e2, l2, fm2, wd2, hl, hm, hg, racc, p2⟩
  obtain ⟨hgo, hstop, hy⟩ := io G2 m2 s2 H' wd2 l2 fun z => nomatch z
  by_cases hlt : i < xs.length
  · refine .inr ⟨hgo i hlt, fun H' => ∃ G m s acc us, Ext mb m Gb G Hb H' ∧ Lat m1 m G1 G ∧ FmOk S G m H₀ (hide H' D) r σ ∧ Wd S G m s H' ∧ H' D = some (.lst us) ∧ D ∉ m ∧ G D = none ∧ Reps S G m acc us ∧
      Post S (RepM S .F) Gb mb Hb (noExc (bnd (lcGo (lcF t vs dc de r) (xs.drop (i + 1)) acc) K) s) Q W, fun H' q => ⟨xs.length - (i + 1), by omega, rfl, hlt, q⟩, fun v H3 yl => ?_⟩
    obtain ⟨G3, e3, wd3, rv⟩ := hy i xs[i] v H3 (List.getElem?_eq_getElem hlt) yl
    rw [List.drop_eq_getElem_cons hlt] at p2
    have p2 : Post S (RepM S .F) Gb mb Hb (noExc (bnd (bnd (bnd (opt (bindT t xs[i] (r.wipe vs))) fun r2 => tst (dc r2) fun k => if k then bnd (de r2) fun y => ret [y] else ret []) fun ys => lcGo (lcF t vs dc de r) (xs.drop (i + 1)) (acc ++ ys)) K) s2) Q W := p2
    cases q : bindT t xs[i] (r.wipe vs) with
    | none => rw [q] at p2; exact p2.elim
    | some r3 =>
      rw [q] at p2
      have p2 : Post S (RepM S .F) Gb mb Hb (noExc (bnd (bnd (tst (dc r3) fun k => if k then bnd (de r3) fun y => ret [y] else ret []) fun ys => lcGo (lcF t vs dc de r) (xs.drop (i + 1)) (acc ++ ys)) K) s2) Q W := p2
      rw [bnd_assoc] at p2
      have fmh := fm2.ext e3.hide
      have fm3 : FmOk S G3 m2 H₀ (hide H3 D) (r.wipe vs) (L2.wipe σ vs) := FmOk.wipe fmh vs
      refine ⟨G3, m2, s2, H₀, r.wipe vs, xs[i], r3, ⟨wd3, fm3.unhide⟩, .rep rv, fun _ _ => rv, q, fun σ4 a4 hw => ⟨(hw vs ht).trans (wipe_wipe σ vs), ?_⟩⟩
      have hl3 := e3.keep _ _ hl hm ntbl_lst
      have hm3 := e3.notm hl hm
      have hg3 := e3.notG hl hg
      have fm4 := a4 _ fm3
      refine ⟨G3, m2, s2, H₀, r3, ⟨wd3, fm4.unhide⟩, ?_⟩
      unfold tst at p2
      rw [bnd_assoc] at p2
      refine Post.nx p2 fun k s5 G5 m5 H5 b e5 wd5 rb p5 => ?_
      have rb : k = b := rb
      subst rb
      have hl5 := e5.keep _ _ hl3 hm3 ntbl_lst
      have hm5 := e5.notm hl3 hm3
      have hg5 := e5.notG hl3 hg3
      have e15 := (e2.trans e3).trans e5
      have l5 := (l2.trans e3.lat).trans e5.lat
      have racc5 := (racc.ext e3).ext e5
      have fmh5 := fmh.ext e5.hide
      cases k with
      | false =>
        have p5 : Post S (RepM S .F) Gb mb Hb (noExc (bnd (lcGo (lcF t vs dc de r) (xs.drop (i + 1)) (acc ++ [])) K) s5) Q W := p5
        rw [List.append_nil] at p5
        exact ⟨G5, m5, s5, acc, us, e15, l5, fmh5, wd5, hl5, hm5, hg5, racc5, p5⟩
      | true =>
        have p5 : Post S (RepM S .F) Gb mb Hb (noExc (bnd (bnd (de r3) fun y => ret [y]) fun ys => bnd (lcGo (lcF t vs dc de r) (xs.drop (i + 1)) (acc ++ ys)) K) s5) Q W := p5
        rw [bnd_assoc] at p5
        rw [if_pos rfl]
        refine ⟨G5, m5, s5, H₀, r3, ⟨wd5, (fm4.ext e5.hide).unhide⟩, Post.nx p5 fun y s6 G6 m6 H6 w e6 wd6 ry p6 => ?_⟩
        have ry : Rep S G6 m6 y w := ry
        have p6 : Post S (RepM S .F) Gb mb Hb (noExc ((fun ys => bnd (lcGo (lcF t vs dc de r) (xs.drop (i + 1)) ys) K) (acc ++ [y])) s6) Q W := p6
        have hl6 := e6.keep _ _ hl5 hm5 ntbl_lst
        have hm6 := e6.notm hl5 hm5
        have hg6 := e6.notG hl5 hg5
        have racc6 := racc5.ext e6
        have hle6 := p6.long (long_lc _ _ hK)
        obtain ⟨k1, k2⟩ := write_new (o := .lst (us ++ [w])) (e15.trans e6) wd6 (by rw [hl6]; exact fun z => nomatch z) hm6 hg6 hD (by rw [hl6]; exact fun _ z => nomatch z) (by rw [hl6]; exact fun _ z => nomatch z)
        refine ⟨us, hl6, ?_, G6, m6, s6, acc ++ [y], us ++ [w], k1, l5.trans e6.lat, by rw [hide_upd]; exact fmh5.ext e6.hide, k2, upd_same, hm6, hg6, racc6.append (.cons ry .nil), p6⟩
        have := LIM_le
        rw [← racc.length]
        rw [List.length_append] at hle6
        simp at hle6
        omega
  · have e : i = xs.length := by omega
    subst e
    rw [List.drop_length] at p2
    exact .inl ⟨hstop, hx G2 m2 s2 H' acc us e2 l2 wd2 hl hm hg racc p2⟩
theorem lc_red2 {S : Sy} {t t2 : Tg} {vs vs2 : List Nat} {di di2 : Fm → M (List PV)} {dc dc2 de : Fm → M PV} {σ : L2.St} {H : Hp} {Q : VK} (ht : ∀ i, i ∈ t.is → i ∈ vs) (ht2 : ∀ i, i ∈ t2.is → i ∈ vs2) (h : tD S .F W (lcD2 di t vs dc di2 t2 vs2 dc2 de) σ H Q) :
    tLc2 (tDI S true W di) (gTg S t) (tDT S W0 dc) (tDI S false W0 di2) (gTg S t2) (tDT S W0 dc2) (tD S .E W0 de) vs vs2 σ H Q := by
  obtain ⟨G, m, s, H₀, r, a, p⟩ := h
  refine ⟨G, m, s, H₀, r, a, p.step (good_M _ _) fun xs s1 G1 m1 H1 J e1 wd1 io p1 => ?_⟩
  intro D hD
  have io : IterOk S true G1 m1 H1 xs J := io
  have p1 : Post S (RepM S .F) G1 m1 H1 (noExc (bnd (lcGo (lcF2 t vs dc di2 t2 vs2 dc2 de r) xs []) finL) s1) Q W := p1
  refine ⟨fun i n H => n = xs.length - i ∧ i ≤ xs.length ∧ ∃ G m s acc us, Ext m1 m G1 G H1 (hide H D) ∧ Ext m1 m G1 G H1 H ∧ Wd S G m s H ∧ H D = some (.lst us) ∧ D ∉ m ∧ G D = none ∧ Reps S G m acc us ∧
    Post S (RepM S .F) G1 m1 H1 (noExc (bnd (lcGo (lcF2 t vs dc di2 t2 vs2 dc2 de r) (xs.drop i) acc) finL) s) Q W,
    ⟨xs.length, rfl, Nat.zero_le _, G1, m1, s1, [], [], (wd1.newExt hD).hide0 hD, wd1.newExt hD, wd1.new hD, upd_same, wd1.mnone hD, wd1.Gnone hD, .nil, p1⟩, ?_⟩
  rintro i n H' ⟨rfl, hle, G2, m2, s2, acc, us, eh2, e2, wd2, hl, hm, hg, racc, p2⟩
  obtain ⟨hgo, hstop, hy⟩ := io G2 m2 s2 H' wd2 e2.lat fun _ => e2
  by_cases hlt : i < xs.length
  · refine .inr ⟨hgo i hlt, fun H' => ∃ G m s acc us, Ext m1 m G1 G H1 (hide H' D) ∧ Ext m1 m G1 G H1 H' ∧ Wd S G m s H' ∧ H' D = some (.lst us) ∧ D ∉ m ∧ G D = none ∧ Reps S G m acc us ∧
      Post S (RepM S .F) G1 m1 H1 (noExc (bnd (lcGo (lcF2 t vs dc di2 t2 vs2 dc2 de r) (xs.drop (i + 1)) acc) finL) s) Q W, fun H' q => ⟨xs.length - (i + 1), by omega, rfl, hlt, q⟩, fun v H3 yl => ?_⟩
    obtain ⟨G3, e3, wd3, rv⟩ := hy i xs[i] v H3 (List.getElem?_eq_getElem hlt) yl
    rw [List.drop_eq_getElem_cons hlt] at p2
    have p2 : Post S (RepM S .F) G1 m1 H1 (noExc (bnd (bnd (bnd (opt (bindT t xs[i] (r.wipe vs))) fun r2 => tst (dc r2) fun k => if k then bnd (di2 r2) fun zs => lcGo (lcF t2 vs2 dc2 de r2) zs [] else ret []) fun ys => lcGo (lcF2 t vs dc di2 t2 vs2 dc2 de r) (xs.drop (i + 1)) (acc ++ ys)) finL) s2) Q W := p2
    cases q : bindT t xs[i] (r.wipe vs) with
    | none => rw [q] at p2; exact p2.elim
    | some r3 =>
      rw [q] at p2
      have p2 : Post S (RepM S .F) G1 m1 H1 (noExc (bnd (bnd (tst (dc r3) fun k => if k then bnd (di2 r3) fun zs => lcGo (lcF t2 vs2 dc2 de r3) zs [] else ret []) fun ys => lcGo (lcF2 t vs dc di2 t2 vs2 dc2 de r) (xs.drop (i + 1)) (acc ++ ys)) finL) s2) Q W := p2
      rw [bnd_assoc] at p2
      have e13 := e2.trans e3
      have fm3 : FmOk S G3 m2 H₀ (hide H3 D) (r.wipe vs) (L2.wipe σ vs) := FmOk.wipe ((a.2.ext e1).ext (e13.hide0 hD)) vs
      refine ⟨G3, m2, s2, H₀, r.wipe vs, xs[i], r3, ⟨wd3, fm3.unhide⟩, .rep rv, fun _ _ => rv, q, fun σ4 a4 hw => ⟨(hw vs ht).trans (wipe_wipe σ vs), ?_⟩⟩
      have hl3 := e3.keep _ _ hl hm ntbl_lst
      have hm3 := e3.notm hl hm
      have hg3 := e3.notG hl hg
      have fm4 := a4 _ fm3
      refine ⟨G3, m2, s2, H₀, r3, ⟨wd3, fm4.unhide⟩, ?_⟩
      unfold tst at p2
      rw [bnd_assoc] at p2
      refine Post.nx p2 fun k s5 G5 m5 H5 b e5 wd5 rb p5 => ?_
      have rb : k = b := rb
      subst rb
      have hl5 := e5.keep _ _ hl3 hm3 ntbl_lst
      have hm5 := e5.notm hl3 hm3
      have hg5 := e5.notG hl3 hg3
      have e15 := e13.trans e5
      have racc5 := (racc.ext e3).ext e5
      cases k with
      | false =>
        have p5 : Post S (RepM S .F) G1 m1 H1 (noExc (bnd (lcGo (lcF2 t vs dc di2 t2 vs2 dc2 de r) (xs.drop (i + 1)) (acc ++ [])) finL) s5) Q W := p5
        rw [List.append_nil] at p5
        exact ⟨G5, m5, s5, acc, us, e15.hide0 hD, e15, wd5, hl5, hm5, hg5, racc5, p5⟩
      | true =>
        have p5 : Post S (RepM S .F) G1 m1 H1 (noExc (bnd (bnd (di2 r3) fun zs => lcGo (lcF t2 vs2 dc2 de r3) zs []) fun ys => bnd (lcGo (lcF2 t vs dc di2 t2 vs2 dc2 de r) (xs.drop (i + 1)) (acc ++ ys)) finL) s5) Q W := p5
        rw [bnd_assoc] at p5
        rw [if_pos rfl]
        refine ⟨G5, m5, s5, H₀, r3, ⟨wd5, (fm4.ext e5.hide).unhide⟩, Post.nx p5 fun zs s6 G6 m6 H6 J1 e6 wd6 io6 p6 => ?_⟩
        have io6 : IterOk S false G6 m6 H6 zs J1 := io6
        have p6 : Post S (RepM S .F) G1 m1 H1 (noExc (bnd (lcGo (lcF t2 vs2 dc2 de r3) zs []) fun ys => (fun us => bnd (lcGo (lcF2 t vs dc di2 t2 vs2 dc2 de r) (xs.drop (i + 1)) us) finL) (acc ++ ys)) s6) Q W := p6
        rw [lcGo_acc (lcF t2 vs2 dc2 de r3) (fun us => bnd (lcGo (lcF2 t vs dc di2 t2 vs2 dc2 de r) (xs.drop (i + 1)) us) finL) acc zs [], List.append_nil] at p6
        refine lc_inner ht2 (long_lc _ _ long_fin) (e15.trans e6) wd6 ((fm4.ext e5.hide).ext e6.hide) io6 hD (e6.keep _ _ hl5 hm5 ntbl_lst) (e6.notm hl5 hm5) (e6.notG hl5 hg5) (racc5.ext e6) p6 fun G7 m7 s7 H7 acc7 ws7 e7 l7 wd7 hl7 hm7 hg7 racc7 p7 => ?_
        exact ⟨G7, m7, s7, acc7, ws7, e7.hide0 hD, e7, wd7, hl7, hm7, hg7, racc7, p7⟩
  · have e : i = xs.length := by omega
    subst e
    rw [List.drop_length] at p2
    have p2 : Post S (RepM S .F) G1 m1 H1 (noExc (finL acc) s2) Q W := p2
    refine .inl ⟨hstop, ?_⟩
    unfold finL at p2
    by_cases c : acc.length ≤ LIM
    · rw [if_pos c] at p2
      exact p2 G2 m2 H' (.ref D) e2 wd2 (.lst hl hm hg hD racc)
    · rw [if_neg c] at p2
      exact p2.elim
section
variable {elt tg iter tg2 iter2 : Expr} {ifs ifs2 : List Expr} {scope : Scope} {own : List (Str × Nat)} {vs2 : List Nat} {pos spos py : Pos} {t t2 : Tg} {di di2 : Fm → M (List PV)} {dc dc2 de : Fm → M PV} {i : Nat} {y : Str}
theorem de_lc2 (hc : X.calm = true) (hN : X.N.Nodup) (hi : PI X tg iter (tDI (sy X T) true W di)) (ok : BlkOk X.N X.env.scope scope own) (hv : ∀ i ∈ vs2, i ∈ own.map (·.2)) (cl : ClOk X T scope tg t ifs dc) (cl2 : ClOk X T scope tg2 t2 ifs2 dc2) (ht : ∀ i, i ∈ t.is → i ∈ own.map (·.2)) (ht2 : ∀ i, i ∈ t2.is → i ∈ vs2)
    (hi2 : ∀ (s : Shared) (H : Hp) (C : Addr) (cl : List (Str × Addr)) (fp : List Addr), PI (X.blk s H scope (compEnvC scope cl C X.env) fp) tg2 iter2 (tDI (sy X T) false W0 di2))
    (he : ∀ (s : Shared) (H : Hp) (C : Addr) (cl : List (Str × Addr)) (fp : List Addr), PE (X.blk s H scope (compEnvC scope cl C X.env) fp) elt (tD (sy X T) .E W0 de)) (hs : ∀ x, foldedSetIterable iter X.env x = pure x) (hs2 : ∀ env x, foldedSetIterable iter2 env x = pure x) :
    PE X (.ListComp elt [⟨tg, iter, ifs, 0⟩, ⟨tg2, iter2, ifs2, 0⟩] scope pos) (tD (sy X T) .F W (lcD2 di t (own.map (·.2)) dc di2 t2 vs2 dc2 de)) :=
  (pe_lc2 (g := gTg (sy X T) t) (g1 := gTg (sy X T) t2) (tt := tDT (sy X T) W0 dc) (tt1 := tDT (sy X T) W0 dc2) hc hN hi ok hv (fun s H C c fp => tg_ok (X := X.blk s H scope (compEnvC scope c C X.env) fp) (T := T) hN hc (cl.tg s H C c fp)) (fun s H C c fp => pts_of (T := T) (Y := X.blk s H scope (compEnvC scope c C X.env) fp) (cl.ifs s H C c fp)) hi2
    (fun s H C c fp => tg_ok (X := X.blk s H scope (compEnvC scope c C X.env) fp) (T := T) hN hc (cl2.tg s H C c fp)) (fun s H C c fp => pts_of (T := T) (Y := X.blk s H scope (compEnvC scope c C X.env) fp) (cl2.ifs s H C c fp)) he hs hs2).imp fun σ H Q h => lc_red2 ht ht2 h
theorem ds_setLc2 (hc : X.calm = true) (hN : X.N.Nodup) (hy : X.N[i]? = some y) (hyl : X.env.scope.names.lookup y = some .local) (hsw : swapsWith (.ListComp elt [⟨tg, iter, ifs, 0⟩, ⟨tg2, iter2, ifs2, 0⟩] scope pos) (some (.Name y py)) spos.line X.env = pure true)
    (hi : PI X tg iter (tDI (sy X T) true W di)) (ok : BlkOk X.N X.env.scope scope own) (hv : ∀ i ∈ vs2, i ∈ own.map (·.2)) (cl : ClOk X T scope tg t ifs dc) (cl2 : ClOk X T scope tg2 t2 ifs2 dc2) (ht : ∀ i, i ∈ t.is → i ∈ own.map (·.2)) (ht2 : ∀ i, i ∈ t2.is → i ∈ vs2)
    (hi2 : ∀ (s : Shared) (H : Hp) (C : Addr) (cl : List (Str × Addr)) (fp : List Addr), PI (X.blk s H scope (compEnvC scope cl C X.env) fp) tg2 iter2 (tDI (sy X T) false W0 di2))
    (he : ∀ (s : Shared) (H : Hp) (C : Addr) (cl : List (Str × Addr)) (fp : List Addr), PE (X.blk s H scope (compEnvC scope cl C X.env) fp) elt (tD (sy X T) .E W0 de)) (hs : ∀ x, foldedSetIterable iter X.env x = pure x) (hs2 : ∀ env x, foldedSetIterable iter2 env x = pure x) :
    PS X (.Assign [.Name y py] (.ListComp elt [⟨tg, iter, ifs, 0⟩, ⟨tg2, iter2, ifs2, 0⟩] scope pos) spos) (tS (sy X T) W fun r => bnd (lcD2 di t (own.map (·.2)) dc di2 t2 vs2 dc2 de r) fun v => ret (.nx (r.set i (ofV v)))) := by
  refine (ps_setLc2 (g := gTg (sy X T) t) (g1 := gTg (sy X T) t2) (tt := tDT (sy X T) W0 dc) (tt1 := tDT (sy X T) W0 dc2) hc hN hy hyl hsw hi ok hv (fun s H C c fp => tg_ok (X := X.blk s H scope (compEnvC scope c C X.env) fp) (T := T) hN hc (cl.tg s H C c fp)) (fun s H C c fp => pts_of (T := T) (Y := X.blk s H scope (compEnvC scope c C X.env) fp) (cl.ifs s H C c fp)) hi2
    (fun s H C c fp => tg_ok (X := X.blk s H scope (compEnvC scope c C X.env) fp) (T := T) hN hc (cl2.tg s H C c fp)) (fun s H C c fp => pts_of (T := T) (Y := X.blk s H scope (compEnvC scope c C X.env) fp) (cl2.ifs s H C c fp)) he hs hs2).imp fun D σ H ⟨G₀, m₀, H₀, Gb, mb, G, m, s, r, a, p⟩ => ?_
  refine lc_red2 ht ht2 ⟨G, m, s, H₀, r, a.at, PostS.step a p fun x s1 G1 m1 H1 v e1 a1 rx p1 => ?_⟩
  exact p1 G1 m1 H1 _ a1.ext a1.lat ⟨a1.wd, a.fm.putF e1 a.ext.dom i rx⟩
end
end
end RP

/-! Fw14: dict comprehensions with tuple keys. Own work. -/
namespace RP
open PySem PySem.Spec PyProof.Rows L2

/-- a store into the new dict at D -/
def DPut (S : Sy) (D : Addr) (y z : V) (H : Hp) (Nx : Hp → Prop) : Prop := ∃ G m kvs es k x b, y = .ref b ∧ (∀ c o, G c = some o → H c = some o) ∧ H D = some (DctO S.P S.w D es) ∧ es.length < sizeLine ∧ RepsD S G m kvs es ∧ keyT k = true ∧ Rep S G m k (.ref b) ∧ Rep S G m x z ∧
  ∀ es', RepsD S G m (putP kvs k x) es' → es'.length ≤ es.length + 1 → Nx (upd H D (DctO S.P S.w D es'))
theorem dct_set {X : Cx} {T : List (Addr × Str)} {pins : List (Addr × Obj)} {σ : L2.St} {H : Hp} {s : Shared} {A : Around} {E : Value → Shared → Prop} {Q : Unit → Shared → Prop} (hu : A.units + 9 < cLine) (I : Inv X pins σ H s) {D : Addr} {y z : V} {v u : Value} {Nx : Hp → Prop} (ry : RelV y v) (rz : RelV z u) (h : DPut (sy X T) D y z H Nx)
    (hq : ∀ H' s', Inv X pins σ H' s' → Nx H' → Q () s') : wpAny (model X.prog X.w) A (dictSet D v u) Q E s := by
  obtain ⟨G, m, kvs, es, k, x, b, rfl, le, hD, hz, r, hk, rk, rx, nx⟩ := h
  cases ry
  obtain ⟨hl, hs, xs, ex, hd⟩ := dct_of I le (.inl hD) r
  have hlen : es.length = xs.length := Paired.length ex
  refine wpAny_dictSet_heap (hsz := by omega) (show A.units + 8 < cLine by omega) (key_is I le hk rk) hd fun h' hd' sb => ?_
  obtain ⟨es', r1, r2, r3⟩ := put_of hk rk rx rz r ex
  refine hq (upd H D (DctO X.prog X.w D es')) _ ?_ (nx es' r1 r3)
  obtain ⟨o, ds, ep, e1, e2, e3, e4, e5, e6⟩ := hd'
  refine d_write I (by rw [hD]; exact True.intro) sb ⟨o, e1⟩ ?_
  refine ⟨⟨by omega, hs, _, r2, o, ds, ep, e1, e2, e3, e4, e6⟩, ⟨o, e1⟩, fun h1 h2 q st => ?_⟩
  obtain ⟨q1, q2, ys, q3, o', ds', ep', q4, q5⟩ := q
  exact ⟨q1, q2, ys, q3, o', ds', ep', st _ q4, q5⟩
/-- an empty dict just laid -/
theorem dct_new {X : Cx} {H : Hp} {h : Heap} (hb : (h.objs.size == sysModules) = false) : ObjOk X.prog X.w H (h.push { cls := .type "dict", data := .dict #[] }) h.objs.size (DctO X.prog X.w h.objs.size []) := by
  refine ⟨⟨Nat.zero_le _, hb, [], .nil, _, #[], 0, Heap.get?_push_size _ rfl, ⟨rfl, rfl, rfl⟩, rfl, rfl, List.nodup_nil⟩, ⟨_, Heap.get?_push_size _ rfl⟩, fun h1 h2 q st => ?_⟩
  obtain ⟨q1, q2, ys, q3, o', ds', ep', q4, q5⟩ := q
  exact ⟨q1, q2, ys, q3, o', ds', ep', st _ q4, q5⟩
section
variable {X : Cx} {T : List (Addr × Str)} {W : XK}
def tDcT (S : Sy) (wi : TI) (g : TG) (tt : TT) (tk tv : TE) (vs : List Nat) : TE := fun σ H Q => wi σ H fun J H1 => ∀ D, H1 D = none → ∃ W : Nat → Nat → Hp → Prop, (∃ m, W 0 m (upd H1 D (DctO S.P S.w D []))) ∧ ∀ i m H, W i m H →
  (J.stop i H ∧ Q (.ref D) H) ∨ (J.go i H ∧ ∃ Nx : Hp → Prop, (∀ H', Nx H' → ∃ m', m' < m ∧ W (i + 1) m' H') ∧ ∀ x H', J.yld i H x H' → g x (L2.wipe σ vs) H' fun σ2 H2 => L2.wipe σ2 vs = L2.wipe σ vs ∧ tt σ2 H2 fun b H3 =>
    if b = true then tk σ2 H3 fun y H4 => tv σ2 H4 fun z H5 => DPut S D y z H5 Nx else Nx H3)
variable {pins : List (Addr × Obj)} {s : Shared} {σ : L2.St} {H : Hp} {Q : VK} {kx vx tg iter : Expr} {ifs : List Expr} {scope : Scope} {own : List (Str × Nat)} {pos pos' : Pos} {wi : TI} {g : TG} {tt : TT} {tk tv : TE}
theorem dcT_core {use : Option (Value → Sem Unit)} {Qf : Value → Shared → Prop} (hu : X.A.units + 200 < cLine)
    (hc : X.calm = true) (hN : X.N.Nodup) (I : Inv X pins σ H s) (hi : PI X tg iter wi) (ok : BlkOk X.N X.env.scope scope own)
    (hg : ∀ (s : Shared) (H : Hp) (C : Addr) (cl : List (Str × Addr)) (fp : List Addr), PG (X.blk s H scope (compEnvC scope cl C X.env) fp) tg g) (ht : ∀ (s : Shared) (H : Hp) (C : Addr) (cl : List (Str × Addr)) (fp : List Addr), PTs (X.blk s H scope (compEnvC scope cl C X.env) fp) ifs tt)
    (hk : ∀ (s : Shared) (H : Hp) (C : Addr) (cl : List (Str × Addr)) (fp : List Addr), PE (X.blk s H scope (compEnvC scope cl C X.env) fp) kx tk)
    (he : ∀ (s : Shared) (H : Hp) (C : Addr) (cl : List (Str × Addr)) (fp : List Addr), PE (X.blk s H scope (compEnvC scope cl C X.env) fp) vx tv) (hs : ∀ x, foldedSetIterable iter X.env x = pure x)
    (h : tDcT (sy X T) wi g tt tk tv (own.map (·.2)) σ H Q)
    (hRR : ∀ D C s' m H', Inv X pins σ H' s' → Q (.ref D) H' → s'.heap.Ns C m → FpOk X pins H' C → compPost (model X.prog X.w) X.A X.xe use Qf (.ref D) C (.ok .next) s') :
    wpAny (model X.prog X.w) X.A (comprehension (.DictComp kx vx [⟨tg, iter, ifs, 0⟩] scope pos) scope X.env pos' newDict false (eval iter X.env) use) Qf X.xe s := by
  have hfree : ∀ y ∈ scope.names, y.2 = .free → ∃ c, X.env.cells.lookup y.1 = some c := fun y hy e => (ok.free y hy e).elim (fun k => I.ok.has _ (.inl k)) fun k => I.ok.has _ (.inr k)
  refine wpAny_comprehension_free (use := use) rfl hs (closure_ok hfree) ok.kind (fun y hy e => by rw [ok.uniq y hy, e]) (thn (hi.run pins s σ H _ I h) fun xv s1 hx => thn hx fun itv s2 h2 => ?_)
  obtain ⟨it, fp, tn, J, H2, rfl, I2, Tn, st2, f2, q⟩ := h2
  refine wpAny_newObj_type (newEnv_comp ?_)
  generalize hD : s2.heap.objs.size = D
  have hDn : H2 D = none := I2.hok.fresh (Nat.le_of_eq hD)
  obtain ⟨W, ⟨m0, w0⟩, turn⟩ := q D hDn
  generalize hs3 : ({ s2 with heap := s2.heap.push { cls := .type "dict", data := .dict #[] } } : Shared) = s3
  have I3 : Inv X pins σ (upd H2 D (DctO X.prog X.w D [])) s3 := by
    rw [← hs3]
    refine I2.laid (t' := s2.toks) (fun b o e => Heap.get?_push_of_some _ e) (Nat.le_of_eq hD) ?_
    rw [← hD]
    exact dct_new (beq_eq_false_iff_ne.mpr (Ne.symm (Nat.ne_of_lt I2.big)))
  have h3 : s3.heap = s2.heap.push { cls := .type "dict", data := .dict #[] } := by rw [← hs3]
  have sz : ∀ b ∈ fp, b < s2.heap.objs.size := fun b hb => by
    obtain ⟨o, e, _⟩ := Tn.obj _ _ st2 b hb
    exact Heap.lt_size e
  have f3 : ∀ b ∈ fp, FpOk X pins (upd H2 D (DctO X.prog X.w D [])) b ∧ b < s3.heap.objs.size := fun b hb => by
    have hlt := sz b hb
    refine ⟨⟨?_, (f2 b hb).2⟩, by rw [h3, Heap.size_push]; exact Nat.lt_succ_of_lt hlt⟩
    rw [upd_ne (by rw [← hD]; exact Nat.ne_of_lt hlt)]
    exact (f2 b hb).1
  have st3 : tn 0 s3.heap := Tn.keep _ _ _ st2 fun b _ o e => by rw [h3]; exact Heap.get?_push_of_some _ e
  have I4 := block_start I3 ok hN f3
  have pg := hg s3 (upd H2 D (DctO X.prog X.w D [])) s3.heap.objs.size (cellsFrom (s3.heap.objs.size + 1) scope.names (cloFrom X.env.cells scope.names [])) fp
  have pt := ht s3 (upd H2 D (DctO X.prog X.w D [])) s3.heap.objs.size (cellsFrom (s3.heap.objs.size + 1) scope.names (cloFrom X.env.cells scope.names [])) fp
  have pk := hk s3 (upd H2 D (DctO X.prog X.w D [])) s3.heap.objs.size (cellsFrom (s3.heap.objs.size + 1) scope.names (cloFrom X.env.cells scope.names [])) fp
  have pe := he s3 (upd H2 D (DctO X.prog X.w D [])) s3.heap.objs.size (cellsFrom (s3.heap.objs.size + 1) scope.names (cloFrom X.env.cells scope.names [])) fp
  show codeAny _ _ (.compStart (.DictComp kx vx [⟨tg, iter, ifs, 0⟩] scope pos) 0 (.ref it) (.ref D) (compEnvC scope (cellsFrom (s3.heap.objs.size + 1) scope.names (cloFrom X.env.cells scope.names [])) s3.heap.objs.size X.env)) (compPost (model X.prog X.w) X.A X.xe use Qf (.ref D) s3.heap.objs.size) { s3 with heap := pushCells (s3.heap.push { cls := .type "dict", data := .dict #[] }) scope.names }
  have nfp : ∀ b ∈ fp, (upd H2 D (DctO X.prog X.w D [])) b = none := fun b hb => (f3 b hb).1.1
  generalize hce : compEnvC scope (cellsFrom (s3.heap.objs.size + 1) scope.names (cloFrom X.env.cells scope.names [])) s3.heap.objs.size X.env = ce at I4 pg pt pk pe ⊢
  have cL : ce.locals = s3.heap.objs.size := by subst hce; rfl
  have w0 : W 0 m0 (upd H2 D (DctO X.prog X.w D [])) := w0
  generalize hH3 : upd H2 D (DctO X.prog X.w D []) = H3 at I3 I4 pg pt pk pe w0 nfp f3
  generalize hs4 : ({ s3 with heap := pushCells (s3.heap.push { cls := .type "dict", data := .dict #[] }) scope.names } : Shared) = s4 at I4 ⊢
  have st4 : tn 0 s4.heap := Tn.keep _ _ _ st3 fun b _ o e => by rw [← hs4]; exact pushCells_keeps _ _ _ _ (Heap.get?_push_of_some _ e)
  have stat : ∀ {σ' : L2.St} {H' : Hp} {s' : Shared}, Inv (X.blk s3 H3 scope ce fp) [] σ' H' s' → (∀ b ∈ fp, H' b = none) → ∀ b ∈ fp, FpOk (X.blk s3 H3 scope ce fp) [] H' b := fun {σ' H' s'} I' hn b hb =>
    ⟨hn b hb, (I'.ok.exf b hb).1, I'.ok.exfs b hb, .inl hb, fun x c e => (I'.ok.exf b hb).2 x c e, fun p hp => absurd (show p ∈ ([] : List (Addr × Obj)) ++ [] from hp) (by simp)⟩
  have loop : codeAny (model X.prog X.w) X.A (.compLoop (.DictComp kx vx [⟨tg, iter, ifs, 0⟩] scope pos) 0 (.ref it) (.ref D) ce) (compPost (model X.prog X.w) X.A X.xe use Qf (.ref D) s3.heap.objs.size) s4 := by
    refine compLoop_anyD (fun n s' => ∃ i H', Inv (X.blk s3 H3 scope ce fp) [] (L2.wipe σ (own.map (·.2))) H' s' ∧ tn i s'.heap ∧ (∀ b ∈ fp, H' b = none) ∧ W i n H') ?_ m0 ⟨0, H3, I4, st4, nfp, w0⟩
    rintro n s5 ⟨i, H5, I5, st5, n5, w5⟩
    rcases turn i n H5 w5 with ⟨stop, qq⟩ | ⟨go, Nx, hNx, step⟩
    · refine thnF (Tn.done (X.blk s3 H3 scope ce fp) rfl rfl rfl hc i [] s5 _ H5 (fun _ _ => False) I5 (stat I5 n5) st5 stop) fun r s6 ⟨hr, I6⟩ => ?_
      subst hr
      have I7 : Inv X pins σ H5 s6 := I3.call' (ch := fp) I6.os I6.base I6.hok I6.bare fun b hb => ⟨(f3 b hb).1.2.2.2.1, (f3 b hb).1.2.1, (f3 b hb).1.2.2.2.2.1, (f3 b hb).1.2.2.2.2.2⟩
      have nC : H5 s3.heap.objs.size = none := by
        have z : H5 ce.locals = none := I6.free
        rw [cL] at z
        exact z
      obtain ⟨m, hn, _⟩ := I6.loc
      have hn : s6.heap.Ns ce.locals m := hn
      rw [cL] at hn
      exact hRR D s3.heap.objs.size s6 m H5 I7 qq hn (I3.fpOk (Nat.le_refl _) nC)
    · refine thnF (Tn.item (X.blk s3 H3 scope ce fp) rfl rfl rfl hc i [] s5 _ H5 (fun _ _ => False) I5 (stat I5 n5) st5 go) fun r s6 ⟨u, hr, h6⟩ => ?_
      subst hr
      refine thnF h6 fun _ s7 ⟨x, H7, I7, r7, y7, st7, n7⟩ => ?_
      have I7' := I7.pinned (stat I7 n7) (Tn.obj _ _ st7)
      refine thnF (pg.run _ s7 _ H7 x u _ I7' r7 (step x H7 y7)) fun _ s8 ⟨σ8, H8, I8, hw8, q8⟩ => ?_
      refine thnF (pt.run _ s8 σ8 H8 _ I8 q8) fun b s9 ⟨H9, I9, q9⟩ => ?_
      have fin : ∀ {s' : Shared} {H' : Hp}, Inv (X.blk s3 H3 scope ce fp) ([] ++ pinsAt fp s7.heap) σ8 H' s' → Nx H' → ∃ m, m < n ∧ ∃ i H', Inv (X.blk s3 H3 scope ce fp) [] (L2.wipe σ (own.map (·.2))) H' s' ∧ tn i s'.heap ∧ (∀ b ∈ fp, H' b = none) ∧ W i m H' := fun {s' H'} I' nx => by
        obtain ⟨m', hm, w'⟩ := hNx H' nx
        have pin' : ∀ b ∈ fp, ∀ o, s7.heap.get? b = some o → s'.heap.get? b = some o ∧ H' b = none := fun b hb o e =>
          let z := I'.pin (b, o) (List.mem_append_right _ (List.mem_append_right _ (mem_pinsAt hb e)))
          ⟨z.1, z.2.1⟩
        have hl : (L2.wipe σ (own.map (·.2))).length = σ8.length := by rw [← hw8, wipe_length]
        refine ⟨m', hm, i + 1, H', (I'.unpinned (pins := [])).weak hl (fun j v e => ?_), Tn.keep _ _ _ st7 fun b hb o e => (pin' b hb o e).1, fun b hb => ?_, w'⟩
        · rw [← hw8] at e
          exact (wipe_some e).1
        · obtain ⟨o, e, _⟩ := Tn.obj _ _ st7 b hb
          exact (pin' b hb o e).2
      cases b with
      | false =>
        simp only [Bool.false_eq_true, if_false] at q9 ⊢
        exact fin I9 q9
      | true =>
        simp only [if_true] at q9 ⊢
        refine thnF (pk.run _ s9 σ8 H9 _ I9 q9) fun z s10 ⟨yk, H10, I10, r10, q10⟩ => ?_
        refine thnF (pe.run _ s10 σ8 H10 _ I10 q10) fun z2 s11 ⟨yv, H11, I11, r11, dp⟩ => ?_
        exact dct_set (X := X.blk s3 H3 scope ce fp) (T := T) (by omega) I11 r10 r11 dp fun H12 s12 I12 nx => fin I12 nx
  exact codeAny_compStart_dict loop (Tn.self X.A 0 _ _ _ st4 loop)
theorem pe_dcT (hu : X.A.units + 200 < cLine) (hc : X.calm = true) (hN : X.N.Nodup) (hi : PI X tg iter wi) (ok : BlkOk X.N X.env.scope scope own)
    (hg : ∀ (s : Shared) (H : Hp) (C : Addr) (cl : List (Str × Addr)) (fp : List Addr), PG (X.blk s H scope (compEnvC scope cl C X.env) fp) tg g) (ht : ∀ (s : Shared) (H : Hp) (C : Addr) (cl : List (Str × Addr)) (fp : List Addr), PTs (X.blk s H scope (compEnvC scope cl C X.env) fp) ifs tt)
    (hk : ∀ (s : Shared) (H : Hp) (C : Addr) (cl : List (Str × Addr)) (fp : List Addr), PE (X.blk s H scope (compEnvC scope cl C X.env) fp) kx tk)
    (he : ∀ (s : Shared) (H : Hp) (C : Addr) (cl : List (Str × Addr)) (fp : List Addr), PE (X.blk s H scope (compEnvC scope cl C X.env) fp) vx tv) (hs : ∀ x, foldedSetIterable iter X.env x = pure x) :
    PE X (.DictComp kx vx [⟨tg, iter, ifs, 0⟩] scope pos) (tDcT (sy X T) wi g tt tk tv (own.map (·.2))) := by
  refine ⟨fun pins s σ H Q I h => ?_⟩
  rw [arm_eval_DictComp]
  refine dcT_core hu hc hN I hi ok hg ht hk he hs h fun D C s' m H' I' q hn f => ⟨m, hn, fun h'' sb => ?_⟩
  obtain ⟨f0, f1, f2, f3, f4, f5⟩ := f
  exact ⟨.ref D, H', I'.turned (t' := s'.toks) (fun b o hb e => (sb.2 b hb).trans e) f0 f1 f3 f4 f5, rfl, q⟩
theorem ps_setDcT {i : Nat} {y : Str} {py spos : Pos} (hu : X.A.units + 200 < cLine) (hc : X.calm = true) (hN : X.N.Nodup) (hy : X.N[i]? = some y) (hyl : X.env.scope.names.lookup y = some .local)
    (hsw : swapsWith (.DictComp kx vx [⟨tg, iter, ifs, 0⟩] scope pos) (some (.Name y py)) spos.line X.env = pure true) (hi : PI X tg iter wi) (ok : BlkOk X.N X.env.scope scope own)
    (hg : ∀ (s : Shared) (H : Hp) (C : Addr) (cl : List (Str × Addr)) (fp : List Addr), PG (X.blk s H scope (compEnvC scope cl C X.env) fp) tg g) (ht : ∀ (s : Shared) (H : Hp) (C : Addr) (cl : List (Str × Addr)) (fp : List Addr), PTs (X.blk s H scope (compEnvC scope cl C X.env) fp) ifs tt)
    (hk : ∀ (s : Shared) (H : Hp) (C : Addr) (cl : List (Str × Addr)) (fp : List Addr), PE (X.blk s H scope (compEnvC scope cl C X.env) fp) kx tk)
    (he : ∀ (s : Shared) (H : Hp) (C : Addr) (cl : List (Str × Addr)) (fp : List Addr), PE (X.blk s H scope (compEnvC scope cl C X.env) fp) vx tv) (hs : ∀ x, foldedSetIterable iter X.env x = pure x) :
    PS X (.Assign [.Name y py] (.DictComp kx vx [⟨tg, iter, ifs, 0⟩] scope pos) spos) (tAsg (tDcT (sy X T) wi g tt tk tv (own.map (·.2))) (gName i)) := by
  refine ⟨fun pins s σ H D I h => ?_⟩
  rw [exec_Assign_Name_used _ _ _ _ hsw]
  refine wpAny_bind (wpAny_standAt (wpAny_bind ?_))
  show wpAny _ X.A (do let _ ← comprehension (.DictComp kx vx [⟨tg, iter, ifs, 0⟩] scope pos) scope X.env (firstIterPos [⟨tg, iter, ifs, 0⟩] pos) newDict false (eval iter X.env) (some (assign (.Name y py) X.env))) _ _ s
  have h : tDcT (sy X T) wi g tt tk tv (own.map (·.2)) σ H (fun x H1 => gName i x σ H1 D.nx) := h
  refine wpAny_bind (thn (dcT_core (Qf := fun _ s' => SP X pins D .next s') hu hc hN I hi ok hg ht hk he hs h fun L C s' m H' I' q hn f => ?_) fun _ s' hq => wpAny_pure (wpAny_pure hq))
  show wpAny _ _ (assign (.Name y py) X.env (.ref L)) _ _ _
  refine wpAny_assign_Name (store_ok2 (v := V.ref L) I' hN hy (.inl hyl) rfl (fun s2 I2 ⟨a, sb, ha⟩ => ?_) (.inr hyl))
  obtain ⟨f0, f1, f2, f3, f4, f5⟩ := f
  have haC : C ≠ a := by
    rcases ha with z | z
    · rw [z]; exact f1
    · exact fun e => f4 y a z e.symm
  refine ⟨m, hn.sameBut sb haC, fun h3 sb3 => ?_⟩
  exact ⟨_, H', I2.turned (t' := s2.toks) (fun b o hb e => (sb3.2 b hb).trans e) f0 f1 f3 f4 f5, q⟩

/-! ### by a denotation -/
def dcF (t : Tg) (vs : List Nat) (dc dk dv : Fm → M PV) (r : Fm) : PV → M (Option (PV × PV)) := fun x => bnd (opt (bindT t x (r.wipe vs))) fun r2 => tst (dc r2) fun b => if b then bnd (dk r2) fun y => bnd (dv r2) fun z => RP.ret (some (y, z)) else RP.ret none
def dcD (di : Fm → M (List PV)) (t : Tg) (vs : List Nat) (dc dk dv : Fm → M PV) : Fm → M PV := fun r => bnd (di r) fun xs => noExc (bnd (dcGo (dcF t vs dc dk dv r) xs []) finD)
theorem putP_len (kvs : List (PV × PV)) (k v : PV) : kvs.length ≤ (putP kvs k v).length := by
  unfold putP
  split
  · simp
  · simp
theorem dcGo_len (f : PV → M (Option (PV × PV))) : ∀ (xs : List PV) (acc : List (PV × PV)) (s : AS) (ys : List (PV × PV)) (s' : AS), dcGo f xs acc s = .ok ys s' → acc.length ≤ ys.length
  | [], acc, s, ys, s', h => by cases h; exact Nat.le_refl _
  | x :: xs, acc, s, ys, s', h => by
    simp only [dcGo, bnd] at h
    cases q : f x s with
    | ok a s1 =>
      rw [q] at h
      simp only [Res.andThen] at h
      cases a with
      | none => exact dcGo_len f xs acc s1 ys s' h
      | some kv =>
        obtain ⟨k, v⟩ := kv
        dsimp only at h
        by_cases c : keyT k = true
        · rw [if_pos c] at h
          exact Nat.le_trans (putP_len acc k v) (dcGo_len f xs _ s1 ys s' h)
        · rw [if_neg c] at h; cases h
    | exc e s1 => rw [q] at h; cases h
    | stuck => rw [q] at h; cases h
theorem Post.dacc_le {S : Sy} {Gb Hb : Hp} {mb : List Addr} {st : AS} {R : RT PV V} {f : PV → M (Option (PV × PV))} {xs : List PV} {acc : List (PV × PV)} {Q : VK} (h : Post S R Gb mb Hb (noExc (bnd (dcGo f xs acc) finD) st) Q W) : acc.length ≤ LIM := by
  by_cases c : acc.length ≤ LIM
  · exact c
  · have : noExc (bnd (dcGo f xs acc) finD) st = .stuck := noExc_stuck fun a s' e => by
      unfold bnd at e
      cases q : dcGo f xs acc st with
      | ok ys s1 =>
        rw [q] at e
        have hl := dcGo_len f xs acc st ys s1 q
        have e : finD ys s1 = .ok a s' := e
        unfold finD at e
        rw [if_neg (by omega)] at e
        cases e
      | exc y s1 => rw [q] at e; cases e
      | stuck => rw [q] at e; cases e
    rw [this] at h
    exact h.elim
theorem dct_ne_code {P : Program} {w : World} {a : Addr} {es : List (NestedKey × Addr × V)} {q : Str} : DctO P w a es ≠ LamX.CodeO a q := by
  intro e
  let h0 : Heap := ⟨Array.replicate a { cls := .type "code", data := .fields #[] }, {}⟩
  let o : Obj := { cls := .type "code", data := .fields #[.none, .str q 0] }
  have hs : h0.objs.size = a := by show (Array.replicate a _).size = a; simp
  have hg : (h0.push o).get? a = some o := by
    have := Heap.get?_push_size h0 (o := o) rfl
    rw [hs] at this
    exact this
  unfold DctO LamX.CodeO at e
  have e := HO.ext.inj e
  have f := congrFun e (h0.push o)
  have : ∃ (oc : Obj) (vs : Array Value) (t : Tok), (h0.push o).get? a = some oc ∧ oc.data = .fields vs ∧ vs[1]? = some (.str q t) := ⟨o, _, 0, hg, rfl, rfl⟩
  rw [← f] at this
  obtain ⟨_, _, _, _, o', ds, ep, e1, _, e3, _⟩ := this
  rw [hg] at e1
  cases e1
  exact absurd e3 (fun z => nomatch z)
theorem dc_red {S : Sy} {t : Tg} {vs : List Nat} {di : Fm → M (List PV)} {dc dk dv : Fm → M PV} {σ : L2.St} {H : Hp} {Q : VK} (ht : ∀ i, i ∈ t.is → i ∈ vs) (h : tD S .F W (dcD di t vs dc dk dv) σ H Q) :
    tDcT S (tDI S true W di) (gTg S t) (tDT S W0 dc) (tD S .E W0 dk) (tD S .E W0 dv) vs σ H Q := by
  obtain ⟨G, m, s, H₀, r, a, p⟩ := h
  refine ⟨G, m, s, H₀, r, a, p.step (good_M _ _) fun xs s1 G1 m1 H1 J e1 wd1 io p1 => ?_⟩
  intro D hD
  have io : IterOk S true G1 m1 H1 xs J := io
  have p1 : Post S (RepM S .F) G1 m1 H1 (noExc (bnd (dcGo (dcF t vs dc dk dv r) xs []) finD) s1) Q W := p1
  refine ⟨fun i n H => n = xs.length - i ∧ i ≤ xs.length ∧ ∃ G m s acc us, Ext m1 m G1 G H1 H ∧ Wd S G m s H ∧ H D = some (DctO S.P S.w D us) ∧ D ∉ m ∧ G D = none ∧ RepsD S G m acc us ∧
    Post S (RepM S .F) G1 m1 H1 (noExc (bnd (dcGo (dcF t vs dc dk dv r) (xs.drop i) acc) finD) s) Q W,
    ⟨xs.length, rfl, Nat.zero_le _, G1, m1, s1, [], [], wd1.newExt hD, wd1.new hD, upd_same, wd1.mnone hD, wd1.Gnone hD, .nil, p1⟩, ?_⟩
  rintro i n H' ⟨rfl, hle, G2, m2, s2, acc, us, e2, wd2, hl, hm, hg, racc, p2⟩
  obtain ⟨hgo, hstop, hy⟩ := io G2 m2 s2 H' wd2 e2.lat fun _ => e2
  by_cases hlt : i < xs.length
  · refine .inr ⟨hgo i hlt, fun H' => ∃ G m s acc us, Ext m1 m G1 G H1 H' ∧ Wd S G m s H' ∧ H' D = some (DctO S.P S.w D us) ∧ D ∉ m ∧ G D = none ∧ RepsD S G m acc us ∧
      Post S (RepM S .F) G1 m1 H1 (noExc (bnd (dcGo (dcF t vs dc dk dv r) (xs.drop (i + 1)) acc) finD) s) Q W, fun H' q => ⟨xs.length - (i + 1), by omega, rfl, hlt, q⟩, fun v H3 yl => ?_⟩
    obtain ⟨G3, e3, wd3, rv⟩ := hy i xs[i] v H3 (List.getElem?_eq_getElem hlt) yl
    rw [List.drop_eq_getElem_cons hlt] at p2
    have p2 : Post S (RepM S .F) G1 m1 H1 (noExc (bnd (bnd (bnd (opt (bindT t xs[i] (r.wipe vs))) fun r2 => tst (dc r2) fun b => if b then bnd (dk r2) fun y => bnd (dv r2) fun z => RP.ret (some (y, z)) else RP.ret none) fun o => match o with
      | some (k, v) => if keyT k then dcGo (dcF t vs dc dk dv r) (xs.drop (i + 1)) (putP acc k v) else stk
      | none => dcGo (dcF t vs dc dk dv r) (xs.drop (i + 1)) acc) finD) s2) Q W := p2
    cases q : bindT t xs[i] (r.wipe vs) with
    | none => rw [q] at p2; exact p2.elim
    | some r3 =>
      rw [q] at p2
      have p2 : Post S (RepM S .F) G1 m1 H1 (noExc (bnd (bnd (tst (dc r3) fun b => if b then bnd (dk r3) fun y => bnd (dv r3) fun z => RP.ret (some (y, z)) else RP.ret none) fun o => match o with
        | some (k, v) => if keyT k then dcGo (dcF t vs dc dk dv r) (xs.drop (i + 1)) (putP acc k v) else stk
        | none => dcGo (dcF t vs dc dk dv r) (xs.drop (i + 1)) acc) finD) s2) Q W := p2
      rw [bnd_assoc] at p2
      have e13 := e2.trans e3
      have fm3 : FmOk S G3 m2 H₀ H3 (r.wipe vs) (L2.wipe σ vs) := FmOk.wipe ((a.2.ext e1).ext e13) vs
      refine ⟨G3, m2, s2, H₀, r.wipe vs, xs[i], r3, ⟨wd3, fm3⟩, .rep rv, fun _ _ => rv, q, fun σ4 a4 hw => ⟨(hw vs ht).trans (wipe_wipe σ vs), ?_⟩⟩
      have hl3 := e3.keep _ _ hl hm ntbl_dct
      have hm3 := e3.notm hl hm
      have hg3 := e3.notG hl hg
      refine ⟨G3, m2, s2, H₀, r3, ⟨wd3, a4 H3 fm3⟩, ?_⟩
      unfold tst at p2
      rw [bnd_assoc] at p2
      refine Post.nx p2 fun k s5 G5 m5 H5 b e5 wd5 rb p5 => ?_
      have rb : k = b := rb
      subst rb
      have hl5 := e5.keep _ _ hl3 hm3 ntbl_dct
      have hm5 := e5.notm hl3 hm3
      have hg5 := e5.notG hl3 hg3
      have e15 := e13.trans e5
      have racc5 := (racc.ext e3).ext e5
      cases k with
      | false =>
        have p5 : Post S (RepM S .F) G1 m1 H1 (noExc (bnd (dcGo (dcF t vs dc dk dv r) (xs.drop (i + 1)) acc) finD) s5) Q W := p5
        exact ⟨G5, m5, s5, acc, us, e15, wd5, hl5, hm5, hg5, racc5, p5⟩
      | true =>
        have p5 : Post S (RepM S .F) G1 m1 H1 (noExc (bnd (bnd (dk r3) fun y => bnd (dv r3) fun z => RP.ret (some (y, z))) fun o => bnd (match o with
          | some (k, v) => if keyT k then dcGo (dcF t vs dc dk dv r) (xs.drop (i + 1)) (putP acc k v) else stk
          | none => dcGo (dcF t vs dc dk dv r) (xs.drop (i + 1)) acc) finD) s5) Q W := p5
        rw [bnd_assoc] at p5
        rw [if_pos rfl]
        refine ⟨G5, m5, s5, H₀, r3, ⟨wd5, (a4 H3 fm3).ext e5⟩, Post.nx p5 fun y s6 G6 m6 H6 w e6 wd6 ry p6 => ?_⟩
        rw [bnd_assoc] at p6
        refine ⟨G6, m6, s6, H₀, r3, ⟨wd6, ((a4 H3 fm3).ext e5).ext e6⟩, Post.nx p6 fun z s7 G7 m7 H7 w2 e7 wd7 rz p7 => ?_⟩
        have ry : Rep S G7 m7 y w := Rep.ext ry e7
        have rz : Rep S G7 m7 z w2 := rz
        have p7 : Post S (RepM S .F) G1 m1 H1 (noExc (bnd (if keyT y then dcGo (dcF t vs dc dk dv r) (xs.drop (i + 1)) (putP acc y z) else stk) finD) s7) Q W := p7
        have e57 := e6.trans e7
        have hl7 := e57.keep _ _ hl5 hm5 ntbl_dct
        have hm7 := e57.notm hl5 hm5
        have hg7 := e57.notG hl5 hg5
        have racc7 := racc5.ext e57
        by_cases c : keyT y = true
        · rw [if_pos c] at p7
          cases y with
          | tup zs =>
            cases ry with
            | tup g rr =>
            have hle7 := p7.dacc_le
            have hpl := putP_len acc (.tup zs) z
            refine ⟨G7, m7, acc, us, .tup zs, z, _, rfl, fun b o q => (wd7.le b o q).1, hl7, ?_, racc7, c, .tup g rr, rz, fun es' r' hl' => ?_⟩
            · have hs := sizeLine_eq
              have := LIM_le
              rw [← racc.length]
              unfold LIM at *
              omega
            · obtain ⟨k1, k2⟩ := write_new (o := DctO S.P S.w D es') (e15.trans e57) wd7 (by rw [hl7]; exact fun z => nomatch z) hm7 hg7 hD (by rw [hl7]; exact fun _ z => nomatch z) (fun q z => dct_ne_code (Option.some.inj (hl7.symm.trans z)))
              exact ⟨G7, m7, s7, _, es', k1, k2, upd_same, hm7, hg7, r', p7⟩
          | _ => simp [keyT, isTup] at c
        · rw [if_neg c] at p7
          exact p7.elim
  · have e : i = xs.length := by omega
    subst e
    rw [List.drop_length] at p2
    have p2 : Post S (RepM S .F) G1 m1 H1 (noExc (finD acc) s2) Q W := p2
    refine .inl ⟨hstop, ?_⟩
    unfold finD at p2
    by_cases c : acc.length ≤ LIM
    · rw [if_pos c] at p2
      exact p2 G2 m2 H' (.ref D) e2 wd2 (.dct hl hm hg hD racc)
    · rw [if_neg c] at p2
      exact p2.elim
section
variable {kx vx tg iter : Expr} {ifs : List Expr} {scope : Scope} {own : List (Str × Nat)} {pos spos py : Pos} {t : Tg} {di : Fm → M (List PV)} {dc dk dv : Fm → M PV} {i : Nat} {y : Str}
theorem de_dc (hu : X.A.units + 200 < cLine) (hc : X.calm = true) (hN : X.N.Nodup) (hi : PI X tg iter (tDI (sy X T) true W di)) (ok : BlkOk X.N X.env.scope scope own) (cl : ClOk X T scope tg t ifs dc) (ht : ∀ i, i ∈ t.is → i ∈ own.map (·.2))
    (hk : ∀ (s : Shared) (H : Hp) (C : Addr) (cl : List (Str × Addr)) (fp : List Addr), PE (X.blk s H scope (compEnvC scope cl C X.env) fp) kx (tD (sy X T) .E W0 dk))
    (he : ∀ (s : Shared) (H : Hp) (C : Addr) (cl : List (Str × Addr)) (fp : List Addr), PE (X.blk s H scope (compEnvC scope cl C X.env) fp) vx (tD (sy X T) .E W0 dv)) (hs : ∀ x, foldedSetIterable iter X.env x = pure x) :
    PE X (.DictComp kx vx [⟨tg, iter, ifs, 0⟩] scope pos) (tD (sy X T) .F W (dcD di t (own.map (·.2)) dc dk dv)) :=
  (pe_dcT (T := T) (g := gTg (sy X T) t) (tt := tDT (sy X T) W0 dc) hu hc hN hi ok (fun s H C c fp => tg_ok (X := X.blk s H scope (compEnvC scope c C X.env) fp) (T := T) hN hc (cl.tg s H C c fp)) (fun s H C c fp => pts_of (T := T) (Y := X.blk s H scope (compEnvC scope c C X.env) fp) (cl.ifs s H C c fp)) hk he hs).imp fun σ H Q h => dc_red ht h
theorem ds_setDc (hu : X.A.units + 200 < cLine) (hc : X.calm = true) (hN : X.N.Nodup) (hy : X.N[i]? = some y) (hyl : X.env.scope.names.lookup y = some .local) (hsw : swapsWith (.DictComp kx vx [⟨tg, iter, ifs, 0⟩] scope pos) (some (.Name y py)) spos.line X.env = pure true)
    (hi : PI X tg iter (tDI (sy X T) true W di)) (ok : BlkOk X.N X.env.scope scope own) (cl : ClOk X T scope tg t ifs dc) (ht : ∀ i, i ∈ t.is → i ∈ own.map (·.2))
    (hk : ∀ (s : Shared) (H : Hp) (C : Addr) (cl : List (Str × Addr)) (fp : List Addr), PE (X.blk s H scope (compEnvC scope cl C X.env) fp) kx (tD (sy X T) .E W0 dk))
    (he : ∀ (s : Shared) (H : Hp) (C : Addr) (cl : List (Str × Addr)) (fp : List Addr), PE (X.blk s H scope (compEnvC scope cl C X.env) fp) vx (tD (sy X T) .E W0 dv)) (hs : ∀ x, foldedSetIterable iter X.env x = pure x) :
    PS X (.Assign [.Name y py] (.DictComp kx vx [⟨tg, iter, ifs, 0⟩] scope pos) spos) (tS (sy X T) W fun r => bnd (dcD di t (own.map (·.2)) dc dk dv r) fun v => RP.ret (.nx (r.set i (ofV v)))) := by
  refine (ps_setDcT (T := T) (g := gTg (sy X T) t) (tt := tDT (sy X T) W0 dc) hu hc hN hy hyl hsw hi ok (fun s H C c fp => tg_ok (X := X.blk s H scope (compEnvC scope c C X.env) fp) (T := T) hN hc (cl.tg s H C c fp)) (fun s H C c fp => pts_of (T := T) (Y := X.blk s H scope (compEnvC scope c C X.env) fp) (cl.ifs s H C c fp)) hk he hs).imp fun D σ H ⟨G₀, m₀, H₀, Gb, mb, G, m, s, r, a, p⟩ => ?_
  refine dc_red ht ⟨G, m, s, H₀, r, a.at, PostS.step a p fun x s1 G1 m1 H1 v e1 a1 rx p1 => ?_⟩
  exact p1 G1 m1 H1 _ a1.ext a1.lat ⟨a1.wd, a.fm.putF e1 a.ext.dom i rx⟩
end
end
end RP

/-! Fw15: order, sorting, least and greatest. Own work. -/
namespace RP
open PySem PySem.Spec PyProof.Rows L2

/-! ### the order -/
mutual
theorem alike_toD : ∀ (n : Nat) (x y : PV), dat n x = true → dat n y = true → PySem.W.alike (toD x) (toD y) = alikeP x y
  | n, .non, y, _, hy => by cases y <;> simp_all [toD, PySem.W.alike, alikeP, dat]
  | n, .bl a, y, _, hy => by cases y <;> simp_all [toD, PySem.W.alike, alikeP, dat]
  | n, .int a, y, _, hy => by cases y <;> simp_all [toD, PySem.W.alike, alikeP, dat]
  | n, .str a, y, _, hy => by cases y <;> simp_all [toD, PySem.W.alike, alikeP, dat]
  | 0, .tup a, y, hx, hy => by simp [dat] at hx
  | 0, .lst a, y, hx, hy => by simp [dat] at hx
  | n + 1, .tup a, .tup b, hx, hy => by
    simp only [toD, PySem.W.alike, alikeP, dat] at *
    exact alike_toDs n a b hx hy
  | n + 1, .lst a, .lst b, hx, hy => by
    simp only [toD, PySem.W.alike, alikeP, dat] at *
    exact alike_toDs n a b hx hy
  | n + 1, .tup a, .non, hx, hy | n + 1, .tup a, .bl _, hx, hy | n + 1, .tup a, .int _, hx, hy | n + 1, .tup a, .str _, hx, hy | n + 1, .tup a, .lst _, hx, hy => by simp [toD, PySem.W.alike, alikeP]
  | n + 1, .lst a, .non, hx, hy | n + 1, .lst a, .bl _, hx, hy | n + 1, .lst a, .int _, hx, hy | n + 1, .lst a, .str _, hx, hy | n + 1, .lst a, .tup _, hx, hy => by simp [toD, PySem.W.alike, alikeP]
  | n + 1, .tup a, .dct _, hx, hy | n + 1, .tup a, .ref _, hx, hy | n + 1, .tup a, .fn _, hx, hy | n + 1, .tup a, .rol _, hx, hy | n + 1, .tup a, .tpx _, hx, hy => by simp [dat] at hy
  | n + 1, .lst a, .dct _, hx, hy | n + 1, .lst a, .ref _, hx, hy | n + 1, .lst a, .fn _, hx, hy | n + 1, .lst a, .rol _, hx, hy | n + 1, .lst a, .tpx _, hx, hy => by simp [dat] at hy
  | n, .dct _, y, hx, _ | n, .ref _, y, hx, _ | n, .fn _, y, hx, _ | n, .rol _, y, hx, _ | n, .tpx _, y, hx, _ => by simp [dat] at hx
theorem alike_toDs : ∀ (n : Nat) (x y : List PV), dats n x = true → dats n y = true → PySem.W.alikeAll (toD.toDs x) (toD.toDs y) = alikePs x y
  | n, [], y, _, _ => by simp [toD.toDs, PySem.W.alikeAll, alikePs]
  | n, _ :: _, [], _, _ => by simp [toD.toDs, PySem.W.alikeAll, alikePs]
  | n, a :: as, b :: bs, hx, hy => by
    simp only [toD.toDs, PySem.W.alikeAll, alikePs, dats, Bool.and_eq_true] at *
    rw [alike_toD n a b hx.1 hy.1, alike_toDs n as bs hx.2 hy.2]
end
mutual
theorem lt_toD : ∀ (n : Nat) (x y : PV) (k : Bool), dat n x = true → dat n y = true → alikeP x y = true → ltP x y = some k → PySem.W.dataLt (toD x) (toD y) = k
  | n, .int i, y, k, hx, hy, ha, h => by
    cases y with
    | int j =>
      simp [ltP] at h
      subst h
      exact PySem.W.dataLt_int i j
    | _ => simp [ltP] at h
  | n, .str i, y, k, hx, hy, ha, h => by
    cases y with
    | str j =>
      simp only [ltP, Option.some.injEq] at h
      subst h
      rw [ltCps_iff]
      exact PySem.W.dataLt_str i j
    | _ => simp [ltP] at h
  | 0, .tup xs, y, k, hx, hy, ha, h => by simp [dat] at hx
  | n + 1, .tup xs, y, k, hx, hy, ha, h => by
    cases y with
    | tup ys =>
      simp only [ltP, dat, alikeP] at *
      show PySem.W.dataLt (.tuple (toD.toDs xs)) (.tuple (toD.toDs ys)) = k
      rw [PySem.W.dataLt_tuple]
      exact lt_toDs n xs ys k hx hy ha h
    | _ => simp [ltP] at h
  | n, .non, y, k, hx, hy, ha, h | n, .bl _, y, k, hx, hy, ha, h | n, .lst _, y, k, hx, hy, ha, h | n, .rol _, y, k, hx, hy, ha, h | n, .tpx _, y, k, hx, hy, ha, h | n, .dct _, y, k, hx, hy, ha, h | n, .ref _, y, k, hx, hy, ha, h | n, .fn _, y, k, hx, hy, ha, h => by simp [ltP] at h
theorem lt_toDs : ∀ (n : Nat) (x y : List PV) (k : Bool), dats n x = true → dats n y = true → alikePs x y = true → ltPs x y = some k → PyProof.Rows.lexLt itemOrd (PySem.W.keyToksAll (toD.toDs x)) (PySem.W.keyToksAll (toD.toDs y)) = k
  | n, [], [], k, _, _, _, h => by simp [ltPs] at h; subst h; rfl
  | n, [], y :: ys, k, _, _, _, h => by simp [ltPs] at h; subst h; rfl
  | n, x :: xs, [], k, _, _, _, h => by simp [ltPs] at h; subst h; rfl
  | n, x :: xs, y :: ys, k, hx, hy, ha, h => by
    unfold ltPs at h
    simp only [dats, alikePs, Bool.and_eq_true] at hx hy ha
    cases q : ltPs xs ys with
    | none => rw [q] at h; cases h
    | some k' =>
      rw [q] at h
      simp only at h
      show PyProof.Rows.lexLt itemOrd (PySem.W.keyToksAll (toD x :: toD.toDs xs)) (PySem.W.keyToksAll (toD y :: toD.toDs ys)) = k
      rw [PySem.W.dataLt_cons (by rw [alike_toD n x y hx.1 hy.1]; exact ha.1), eqv_toD n x y hx.1 hy.1, lt_toDs n xs ys k' hx.2 hy.2 ha.2 q]
      by_cases c : eqP x y = true
      · rw [if_pos c] at h ⊢
        cases h; rfl
      · rw [if_neg c] at h ⊢
        exact lt_toD n x y k hx.1 hy.1 ha.1 h
end

/-! ### sorting -/
theorem sortP_spec {β : Type} (f : β → PV) (le : β → β → Bool) (tr : ∀ a b c, le a b = true → le b c = true → le a c = true) (tot : ∀ a b, (le a b || le b a) = true) (bs0 : List β) (hR : ∀ x y k, x ∈ bs0 → y ∈ bs0 → ltP (f y) (f x) = some k → le x y = !k) :
    ∀ (bs : List β), (∀ b, b ∈ bs → b ∈ bs0) → ∀ ys, sortP (bs.map f) = some ys → ys = (bs.mergeSort le).map f
  | [], _, ys, h => by simp [sortP] at h; subst h; simp
  | b :: bs, hm, ys, h => by
    rw [List.map_cons] at h
    unfold sortP at h
    cases q : sortP (bs.map f) with
    | none => rw [q] at h; cases h
    | some zs =>
      rw [q] at h
      have ih := sortP_spec f le tr tot bs0 hR bs (fun c hc => hm c (List.mem_cons_of_mem _ hc)) zs q
      obtain ⟨l₁, l₂, e1, e2, e3⟩ := List.mergeSort_cons tr tot b bs
      have srt := List.pairwise_mergeSort tr tot (b :: bs)
      rw [e1] at srt
      rw [e2] at ih
      have mem : ∀ c, c ∈ l₁ ++ l₂ → c ∈ bs0 := fun c hc => hm c (List.mem_cons_of_mem _ ((List.mergeSort_perm bs le).mem_iff.mp (by rw [e2]; exact hc)))
      rw [e1]
      have h : insP (f b) zs = some ys := h
      rw [ih] at h
      have h2 : ∀ c, c ∈ l₂ → le b c = true := fun c hc => (List.pairwise_cons.mp (List.pairwise_append.mp srt).2.1).1 c hc
      -- the relation on these members
      have key : ∀ (m₁ m₂ : List β), (∀ c, c ∈ m₁ → c ∈ l₁) → (∀ c, c ∈ m₂ → c ∈ l₂) → ∀ ys, insP (f b) ((m₁ ++ m₂).map f) = some ys → ys = (m₁ ++ b :: m₂).map f := by
        intro m₁
        induction m₁ with
        | nil =>
          intro m₂ _ h2' ys h
          cases m₂ with
          | nil => simp [insP] at h; simp [← h]
          | cons c m₂ =>
            simp only [List.nil_append, List.map_cons, insP] at h
            cases q : ltP (f c) (f b) with
            | none => rw [q] at h; cases h
            | some k =>
              have e := hR b c k (hm b List.mem_cons_self) (mem c (List.mem_append_right _ (h2' c List.mem_cons_self))) q
              rw [h2 c (h2' c List.mem_cons_self)] at e
              have : k = false := by
                cases k with
                | false => rfl
                | true => exact absurd e (by decide)
              subst this
              rw [q] at h
              simp only [Option.some.injEq] at h
              simp [← h]
        | cons c m₁ ih1 =>
          intro m₂ h1' h2' ys h
          simp only [List.cons_append, List.map_cons, insP] at h
          cases q : ltP (f c) (f b) with
          | none => rw [q] at h; cases h
          | some k =>
            have hc1 := h1' c List.mem_cons_self
            have e := hR b c k (hm b List.mem_cons_self) (mem c (List.mem_append_left _ hc1)) q
            have e' := e3 c hc1
            rw [e] at e'
            have : k = true := by
              cases k with
              | true => rfl
              | false => exact absurd e' (by decide)
            subst this
            rw [q] at h
            simp only [Option.map_eq_some_iff] at h
            obtain ⟨us, h3, rfl⟩ := h
            rw [ih1 m₂ (fun d hd => h1' d (List.mem_cons_of_mem _ hd)) h2' us h3]
            rfl
      exact key l₁ l₂ (fun _ h => h) (fun _ h => h) ys h
end RP

/-! Fw16: sorted, min, max, list(d). Own work. -/
namespace RP
open PySem PySem.Spec PyProof.Rows L2

/-! ### a dict's keys in a row -/
section
variable {prog : Program} {w : World}
theorem walks_raw {A : Around} (hh : A.handled = none) (I d : Addr) (hne : d ≠ I) (ds : Array DictEntry) (ep : Nat) :
    Walks prog w A I [I, d] [I] ds.size (fun i v => ∃ en, ds[i]? = some en ∧ v = en.key) (fun i h => h.IsKeyIter I d i ds.size ep ∧ DT.Raw h d ds ep) where
  sub := fun b hb => by simp at hb; simp [hb]
  frame := fun i h h' st k => ⟨st.1.at fun o e => k I (by simp) o e, st.2.at' fun o e => k d (by simp) o e⟩
  item := fun i s Q E hi st hQ => by
    obtain ⟨o, ho, hx, hd⟩ := id st.2
    refine next_key_item st.1 ho hd rfl (Array.getElem?_eq_getElem hi) fun h' st' sb => ?_
    exact hQ _ h' s.toks ⟨_, Array.getElem?_eq_getElem hi, rfl⟩ ⟨st', st.2.at' fun o e => (sb.2 d hne).trans e⟩ fun b o hb e => (sb.2 b (by simpa using hb)).trans e
  done := fun s Q E st hQ => by
    obtain ⟨o, ho, hx, hd⟩ := id st.2
    exact next_key_end hh st.1 ho hd rfl (Nat.le_refl _) fun h' eb => hQ h' s.toks fun b o hb e => eb b o (by simpa using hb) e
  self := fun i s Q E st hQ => by
    refine wpAny_pyIter_slot st.1.typeIs F.slot_dict_keyiterator_iter (wpAny_call_entry F.slot_dict_keyiterator_iter st.1.typeIs F.entry_dict_keyiterator_iter ?_ (F.args_dict_keyiterator_iter_1 _))
    show wpAny _ _ (PySem.ret (.ref I)) _ _ s
    exact wpAny_pure ⟨_, rfl, "dict_keyiterator", _, st.1.typeIs, F.slot_dict_keyiterator_next.lookup, hQ⟩
theorem kdl_raw {d : Addr} {ds : Array DictEntry} {ep : Nat} (lo : (d == sysModules) = false) : PySem.W.KdlSrc prog w "dict" d d ds.size (fun i v => ∃ en, ds[i]? = some en ∧ v = en.key) (fun h => DT.Raw h d ds ep) where
  type := fun _ hm => hm.typeIs
  there := fun _ hm => ⟨hm.lt, hm.lt⟩
  keep := fun _ _ hm hk => hm.at' fun o e => hk d (.inl rfl) o e
  notList := by decide
  notTuple := by decide
  hint := fun _ _ _ _ hm hq => PySem.W.kdl_hint_dict hm.typeIs hq
  iter := fun A s hh hm => ⟨_, _, (fun _ _ hq => by
    obtain ⟨o, ho, hx, hd⟩ := id hm
    exact iter_keys lo ho hx hd hq), walks_raw hh _ d (Nat.ne_of_lt hm.lt) ds ep, ⟨⟨_, Heap.get?_push_size _ rfl, rfl, rfl⟩, hm.push _⟩⟩
end
section
variable {X : Cx} {T : List (Addr × Str)} {pins : List (Addr × Obj)} {σ : L2.St} {H G : Hp} {m : List Addr} {s : Shared} {st : AS}
/-- a dict's entries, owned or shared -/
theorem raw_of (I : Inv X pins σ H s) {d : Addr} {es : List (NestedKey × Addr × V)} (h : Rd H d (DctO X.prog X.w d es)) : (d == sysModules) = false ∧ es.length ≤ sizeLine ∧ ∃ ds ep, DT.Raw s.heap d ds ep ∧ ds.size = es.length ∧
    ∀ (i : Nat) (p : NestedKey × Addr × V), es[i]? = some p → ∃ en : DictEntry, ds[i]? = some en ∧ en.key = Value.ref p.2.1 := by
  rcases h with h | ⟨o, h⟩
  · obtain ⟨od, I'⟩ := I.lock h True.intro
    obtain ⟨h1, h2, h3, ds, ep, h4, h5, h6, h7⟩ := frzD I' upd_same
    exact ⟨h1, h6, ds, ep, ⟨od, h2, h3, h4⟩, h5, fun i p hp => let ⟨en, u, e1, e2, _⟩ := h7 i p hp; ⟨en, e1, e2⟩⟩
  · obtain ⟨h1, h2, h3, ds, ep, h4, h5, h6, h7⟩ := frzD I h
    exact ⟨h1, h6, ds, ep, ⟨o, h2, h3, h4⟩, h5, fun i p hp => let ⟨en, u, e1, e2, _⟩ := h7 i p hp; ⟨en, e1, e2⟩⟩
theorem repsD_keys {S : Sy} : ∀ {kvs : List (PV × PV)} {es : List (NestedKey × Addr × V)}, RepsD S G m kvs es → Reps S G m (kvs.map (·.1)) (es.map fun p => .ref p.2.1)
  | _, _, .nil => .nil
  | _, _, .cons _ h1 _ r => .cons h1 (repsD_keys r)
theorem keys_vals : ∀ {es : List (NestedKey × Addr × V)} {l : List Value}, l.length = es.length → (∀ (i : Nat) (v : Value), l[i]? = some v → ∃ p, es[i]? = some p ∧ v = .ref p.2.1) → Vals (es.map fun p => V.ref p.2.1) l
  | [], [], _, _ => .nil
  | p :: es, v :: l, hl, h => by
    obtain ⟨q, e1, e2⟩ := h 0 v rfl
    cases e1
    exact .cons e2 (keys_vals (by simpa using hl) fun i v e => h (i + 1) v (by simpa using e))
  | [], _ :: _, hl, _ => by simp at hl
  | _ :: _, [], hl, _ => by simp at hl
theorem keys_acc {es : List (NestedKey × Addr × V)} {ds : Array DictEntry} {acc : Array Value} (hs : ds.size = es.length) (he : ∀ (i : Nat) (p : NestedKey × Addr × V), es[i]? = some p → ∃ en : DictEntry, ds[i]? = some en ∧ en.key = Value.ref p.2.1)
    (h : ItemsOf (fun i v => ∃ en, ds[i]? = some en ∧ v = en.key) acc ds.size) : Vals (es.map fun p => V.ref p.2.1) acc.toList := by
  refine keys_vals (by rw [Array.length_toList, h.1, hs]) fun i v e => ?_
  rw [Array.getElem?_toList] at e
  obtain ⟨en, e1, rfl⟩ := h.2 i v e
  have hi : i < es.length := by
    have := (Array.getElem?_eq_some_iff.mp e).1
    rw [h.1, hs] at this
    exact this
  obtain ⟨en', e3, e4⟩ := he i es[i] (List.getElem?_eq_getElem hi)
  rw [e1] at e3
  cases e3
  exact ⟨es[i], List.getElem?_eq_getElem hi, e4⟩
theorem listD_P (hc : X.calm = true) : CallR X (.type "list") (rC1 (sy X T) .F (b1P .list)) := by
  intro pins s σ H xs us Q I r h
  obtain ⟨G, m, st, a, x, rfl, wd, ra, h⟩ := h
  cases a with
  | dct kvs =>
    obtain ⟨p, es, rfl, hp, _, rr⟩ := ra.dct' wd
    obtain ⟨u, rfl, ru⟩ := vals1 r
    cases ru
    obtain ⟨lo, hl, ds, ep, raw, hs, he⟩ := raw_of I hp
    refine PySem.W.kdl_call (kdl_raw lo) (I.ok.hd hc) raw (by rw [hs]; exact hl) fun h' tk acc c kp hL hacc => ?_
    have hn : H s.heap.objs.size = none := I.hok.fresh (Nat.le_refl _)
    have hv := keys_acc hs he hacc
    refine ⟨.ref s.heap.objs.size, upd H s.heap.objs.size (.lst (es.map fun p => .ref p.2.1)), I.laid (t' := tk) kp (Nat.le_refl _) ⟨by rw [List.length_map]; exact hl, acc.toList, c, hv, by rw [Array.toArray_toList]; exact hL⟩, rfl, ?_⟩
    exact fin_lst wd h hn (repsD_keys rr)
  | lst ys => exact list_P (T := T) pins s σ H _ us Q I r ⟨G, m, st, .lst ys, x, rfl, wd, ra, h⟩
  | tup ys => exact list_P (T := T) pins s σ H _ us Q I r ⟨G, m, st, .tup ys, x, rfl, wd, ra, h⟩
  | _ => exact h.elim

/-! ### sorted -/
mutual
theorem reads_lt {h : Heap} : ∀ {v : Value} {d : PyData} {as : List Addr}, Reads h v d as → ∀ a, a ∈ as → a < h.objs.size
  | _, _, _, .none, a, ha => by simp at ha
  | _, _, _, .bool _, a, ha => by simp at ha
  | _, _, _, .int _ _, a, ha => by simp at ha
  | _, _, _, .str _ _, a, ha => by simp at ha
  | _, _, _, .list h1 _ _ r, a, ha => by
    rcases List.mem_cons.mp ha with e | ha
    · subst e; exact Heap.lt_size h1
    · exact reads_lts r a ha
  | _, _, _, .tuple _ _ _ r, a, ha => reads_lts r a ha
  | _, _, _, .dict h1 _ _ r1 r2, a, ha => by
    rcases List.mem_append.mp ha with ha | ha
    · rcases List.mem_cons.mp ha with e | ha
      · subst e; exact Heap.lt_size h1
      · exact reads_lts r1 a ha
    · exact reads_lts r2 a ha
theorem reads_lts {h : Heap} : ∀ {v : List Value} {d : List PyData} {as : List Addr}, ReadsAll h v d as → ∀ a, a ∈ as → a < h.objs.size
  | _, _, _, .nil, a, ha => by simp at ha
  | _, _, _, .cons r1 r2, a, ha => by
    rcases List.mem_append.mp ha with e | e
    · exact reads_lt r1 a e
    · exact reads_lts r2 a e
end
theorem readsE (I : Inv X pins σ H s) (wd : Wd (sy X T) G m st H) : ∀ {xs : List PV} {ws : List V} {vs : List Value}, Reps (sy X T) G m xs ws → Vals ws vs → dats DEP xs = true → W.EachIs (fun v (b : PV × V) => RelV b.2 v) vs (xs.zip ws) ∧ W.EachIs (fun v (b : PV × V) => ∃ as, Reads s.heap v (toD b.1) as) vs (xs.zip ws)
  | _, _, _, .nil, .nil, _ => ⟨.nil, .nil⟩
  | _, _, _, .cons r1 rr, .cons v1 vv, d => by
    simp only [dats, Bool.and_eq_true] at d
    obtain ⟨h1, h2⟩ := readsE I wd rr vv d.2
    exact ⟨.cons v1 h1, .cons (Dp.reads I _ _ _ (r1.dp wd DEP _ _ d.1) v1) h2⟩
theorem zip_mem {S : Sy} : ∀ {xs : List PV} {ws : List V}, Reps S G m xs ws → ∀ b, b ∈ xs.zip ws → Rep S G m b.1 b.2 ∧ b.1 ∈ xs
  | _, _, .nil, b, h => by simp at h
  | _, _, .cons r rr, b, h => by
    rw [List.zip_cons_cons] at h
    rcases List.mem_cons.mp h with e | h
    · subst e; exact ⟨r, List.mem_cons_self⟩
    · obtain ⟨h1, h2⟩ := zip_mem rr b h
      exact ⟨h1, List.mem_cons_of_mem _ h2⟩
theorem zip_fst {S : Sy} : ∀ {xs : List PV} {ws : List V}, Reps S G m xs ws → (xs.zip ws).map (·.1) = xs
  | _, _, .nil => rfl
  | _, _, .cons r rr => by rw [List.zip_cons_cons, List.map_cons, zip_fst rr]
theorem zip_len {S : Sy} {xs : List PV} {ws : List V} (r : Reps S G m xs ws) : (xs.zip ws).length = ws.length := by rw [List.length_zip, r.length, Nat.min_self]
theorem reps_of {S : Sy} : ∀ (l : List (PV × V)), (∀ b, b ∈ l → Rep S G m b.1 b.2) → Reps S G m (l.map (·.1)) (l.map (·.2))
  | [], _ => .nil
  | b :: l, h => .cons (h b List.mem_cons_self) (reps_of l fun c hc => h c (List.mem_cons_of_mem _ hc))
theorem each_vals : ∀ {l : List (PV × V)} {vs : List Value}, W.EachIs (fun v (b : PV × V) => RelV b.2 v) vs l → Vals (l.map (·.2)) vs
  | _, _, .nil => .nil
  | _, _, .cons h t => .cons h (each_vals t)
theorem dats_mem : ∀ {n : Nat} {xs : List PV} {x : PV}, dats n xs = true → x ∈ xs → dat n x = true
  | _, _ :: _, _, h, hx => by
    simp only [dats, Bool.and_eq_true] at h
    rcases List.mem_cons.mp hx with e | e
    · subst e; exact h.1
    · exact dats_mem h.2 e
/-- what the library asks of items to be sorted -/
structure Ord (bs : List (PV × V)) : Prop where
  dat : ∀ b, b ∈ bs → dat DEP b.1 = true
  alk : ∀ b, b ∈ bs → ∀ c, c ∈ bs → alikeP b.1 c.1 = true
theorem ord_of {S : Sy} {xs : List PV} {ws : List V} (r : Reps S G m xs ws) (h : ordOk xs = true) : Ord (xs.zip ws) := by
  unfold ordOk datS alkAll at h
  rw [Bool.and_eq_true, Bool.and_eq_true] at h
  refine ⟨fun b hb => dats_mem h.1 (zip_mem r b hb).2, fun b hb c hc => ?_⟩
  exact List.all_eq_true.mp (List.all_eq_true.mp h.2.1 _ (zip_mem r b hb).2) _ (zip_mem r c hc).2
theorem Ord.allAlike {bs : List (PV × V)} (o : Ord bs) : W.AllAlike (bs.map fun b => toD b.1) := by
  intro d hd d' hd'
  obtain ⟨b, hb, rfl⟩ := List.mem_map.mp hd
  obtain ⟨c, hc, rfl⟩ := List.mem_map.mp hd'
  show W.alike (toD b.1) (toD c.1) = true
  rw [alike_toD DEP _ _ (o.dat b hb) (o.dat c hc)]
  exact o.alk b hb c hc
theorem sortable_of {bs : List (PV × V)} (h : ((bs.map (·.1)).all neTup || (bs.map (·.1)).all noTup) = true) : W.Sortable (bs.map fun b => toD b.1) := by
  rw [Bool.or_eq_true] at h
  rcases h with h | h
  · refine .inl fun d hd => ?_
    obtain ⟨b, hb, rfl⟩ := List.mem_map.mp hd
    have := List.all_eq_true.mp h b.1 (List.mem_map.mpr ⟨b, hb, rfl⟩)
    cases q : b.1 with
    | tup xs =>
      cases xs with
      | nil => rw [q] at this; cases this
      | cons x xs => exact ⟨toD x, toD.toDs xs, rfl⟩
    | _ => rw [q] at this; cases this
  · refine .inr fun d hd => ?_
    obtain ⟨b, hb, rfl⟩ := List.mem_map.mp hd
    have := List.all_eq_true.mp h b.1 (List.mem_map.mpr ⟨b, hb, rfl⟩)
    cases q : b.1 with
    | non => rw [q] at this; cases this
    | tup xs => rw [q] at this; cases this
    | rol _ => rw [q] at this; cases this
    | tpx _ => rw [q] at this; cases this
    | dct _ => rw [q] at this; cases this
    | ref _ => rw [q] at this; cases this
    | fn _ => rw [q] at this; cases this
    | _ => exact ⟨fun z => (nomatch z), fun xs z => (nomatch z)⟩
theorem sorted_fst {bs : List (PV × V)} (o : Ord bs) {ys : List PV} (h : sortP (bs.map (·.1)) = some ys) : ys = (bs.mergeSort (W.dataLe false fun b => toD b.1)).map (·.1) := by
  have tot := W.sortLe_total (listOrd itemOrd) false fun b : PV × V => W.keyToks (toD b.1)
  refine sortP_spec (fun b : PV × V => b.1) (W.dataLe false fun b => toD b.1) tot.trans (fun a b => by rw [Bool.or_eq_true]; exact tot.total a b) bs (fun x y k hx hy q => ?_) bs (fun _ h => h) ys h
  show (!W.dataLt (toD y.1) (toD x.1)) = !k
  rw [lt_toD DEP _ _ k (o.dat y hy) (o.dat x hx) (o.alk y hy x hx) q]
theorem room_of (hu : X.A.units + 200 < cLine) {bs : List (PV × V)} (o : Ord bs) (A : Around) (hA : A.units ≤ X.A.units + 2) : ∀ b, b ∈ bs → A.units + 2 + (toD b.1).depth < cLine := fun b hb => by
  have := (shaped_toD DEP b.1 (o.dat b hb)).2
  unfold DEP at this
  omega
/-- what is sorted -/
theorem sort_fin {S : Sy} {xs ys : List PV} {ws : List V} {out : List Value} (r : Reps S G m xs ws) (o : Ord (xs.zip ws)) (hy : sortP xs = some ys) (e : W.EachIs (fun v (b : PV × V) => RelV b.2 v) out ((xs.zip ws).mergeSort (W.dataLe false fun b => toD b.1))) :
    ∃ us, Reps S G m ys us ∧ Vals us out ∧ us.length = ws.length := by
  have e1 := sorted_fst o (by rw [zip_fst r]; exact hy)
  refine ⟨((xs.zip ws).mergeSort (W.dataLe false fun b => toD b.1)).map (·.2), ?_, each_vals e, by rw [List.length_map, (List.mergeSort_perm _ _).length_eq, zip_len r]⟩
  rw [e1]
  exact reps_of _ fun b hb => (zip_mem r b ((List.mergeSort_perm _ _).mem_iff.mp hb)).1
theorem sorted_P (hu : X.A.units + 200 < cLine) (hc : X.calm = true) : CallR X (.builtin "sorted") (rC1 (sy X T) .F (b1P .sorted)) := by
  intro pins s σ H xs us Q I r h
  obtain ⟨G, m, st, a, x, rfl, wd, ra, h⟩ := h
  cases a with
  | lst ys =>
    obtain ⟨p, ws, rfl, hp, _, rr⟩ := ra.lst' wd
    obtain ⟨u, rfl, ru⟩ := vals1 r
    cases ru
    by_cases c : (ordOk ys && (ys.all neTup || ys.all noTup)) = true
    · have hb : b1P .sorted (.lst ys) = (sortP ys).map .lst := by simp only [b1P]; rw [if_pos c]
      cases q : sortP ys with
      | none => rw [hb, q] at h; exact h.elim
      | some zs =>
        rw [hb, q] at h
        rw [Bool.and_eq_true] at c
        obtain ⟨its, rv, pl, hz⟩ := I.list (.inl (.inl hp))
        have o := ord_of rr c.1
        have dd : dats DEP ys = true := by
          have := c.1
          unfold ordOk datS at this
          rw [Bool.and_eq_true] at this
          exact this.1
        obtain ⟨E1, E2⟩ := readsE I wd rr rv dd
        refine W.sorted_data (bs := ys.zip ws) (enc := fun b => toD b.1) (R := fun v (b : PV × V) => RelV b.2 v) pl.isList E1 E2 o.allAlike (sortable_of (by rw [zip_fst rr]; exact c.2)) (by rw [zip_len rr]; exact hz) (room_of hu o X.A (by omega)) fun out hl eo => ?_
        obtain ⟨vs', r1, r2, r3⟩ := sort_fin rr o q eo
        have hn : H (s.heap.objs.size + 1) = none := I.hok.fresh (Nat.le_succ _)
        obtain ⟨n, hat⟩ := sortedAll_at s.heap its out.toArray
        refine ⟨.ref (s.heap.objs.size + 1), upd H (s.heap.objs.size + 1) (.lst vs'), I.laid (t' := s.toks) (fun b u e => sortedAll_old e) (Nat.le_succ _) ⟨by rw [r3]; exact hz, out, n, r2, hat⟩, rfl, ?_⟩
        exact fin_lst wd h hn r1
    · rw [show b1P .sorted (.lst ys) = none by simp only [b1P]; rw [if_neg c]] at h
      exact h.elim
  | dct kvs =>
    obtain ⟨p, es, rfl, hp, _, rr⟩ := ra.dct' wd
    obtain ⟨u, rfl, ru⟩ := vals1 r
    cases ru
    by_cases c : (ordOk (kvs.map (·.1)) && (kvs.map (·.1)).all neTup) = true
    · have hb : b1P .sorted (.dct kvs) = (sortP (kvs.map (·.1))).map .lst := by simp only [b1P]; rw [if_pos c]
      cases q : sortP (kvs.map (·.1)) with
      | none => rw [hb, q] at h; exact h.elim
      | some zs =>
        rw [hb, q] at h
        rw [Bool.and_eq_true] at c
        obtain ⟨lo, hl, ds, ep, raw, hs, he⟩ := raw_of I hp
        refine Calls.call_function_entry PyProof.Rows.kind_sorted PyProof.Rows.plain_sorted PyProof.Rows.entry_sorted (PyProof.Rows.args_sorted1 _) ?_
        unfold Builtin.«sorted»
        refine wpAny_bind (m := checkCount "sorted" 1 1 _) (wpAny_pure ?_)
        refine wpAny_bind (PySem.W.kdu_collect (A := X.A.in1) (kdl_raw lo) (I.ok.hd hc) raw (by rw [hs]; exact hl) fun h' tk acc hk hacc => ?_)
        have hv := keys_acc hs he hacc
        have hal : acc.toList.length = es.length := by rw [Array.length_toList, hacc.1, hs]
        have I1 : Inv X pins σ H { s with heap := h', toks := tk } := I.kept hk
        refine wpAny_bind (wpAny_newList ?_ (by rw [hal]; exact hl))
        have hoL : (h'.push (seqObj "list" acc.toList.toArray 0)).get? h'.objs.size = some (seqObj "list" acc.toList.toArray 0) := Heap.get?_push_size _ rfl
        show wpAny _ _ _ _ _ { s with heap := h'.push (seqObj "list" acc.toList.toArray 0), toks := tk }
        have rk := repsD_keys rr
        have o := ord_of rk c.1
        have dd : dats DEP (kvs.map (·.1)) = true := by
          have := c.1
          unfold ordOk datS at this
          rw [Bool.and_eq_true] at this
          exact this.1
        obtain ⟨E1, E2⟩ := readsE I1 wd rk hv dd
        have kp : ∀ b u, h'.get? b = some u → (h'.push (seqObj "list" acc.toList.toArray 0)).get? b = some u := fun b u e => Heap.get?_push_of_some _ e
        have E3 : W.EachIs (fun v (b : PV × V) => ∃ as, Reads (h'.push (seqObj "list" acc.toList.toArray 0)) v (toD b.1) as ∧ h'.objs.size ∉ as) acc.toList ((kvs.map (·.1)).zip (es.map fun p => V.ref p.2.1)) :=
          E2.mono fun v b ⟨as, r⟩ => ⟨as, PyProof.Rows.Reads.keeps kp r, fun z => Nat.lt_irrefl _ (reads_lt r _ z)⟩
        refine wpAny_bind (wpAny_holding (W.list_sort_data (s := { s with heap := h'.push (seqObj "list" acc.toList.toArray 0), toks := tk }) hoL E1 E3 o.allAlike (sortable_of (by rw [zip_fst rk]; rw [c.2]; rfl)) (by rw [zip_len rk, List.length_map]; exact hl) (fun b hb => ?_) fun out ho eo => ?_))
        · have := room_of hu o X.A (by omega) b hb
          show X.A.units + 1 + 1 + _ < _
          omega
        · obtain ⟨vs', r1, r2, r3⟩ := sort_fin rk o q eo
          obtain ⟨e', he'⟩ := PyProof.Rows.sortedHeap_at (vs := acc.toList) (out := out.toArray) hoL
          have hn : H h'.objs.size = none := I1.hok.fresh (Nat.le_refl _)
          refine wpAny_pure ⟨_, rfl, .ref h'.objs.size, upd H h'.objs.size (.lst vs'), I1.laid (t' := tk) (fun b u e => ?_) (Nat.le_refl _) ⟨by rw [r3, List.length_map]; exact hl, out, e', r2, he'⟩, rfl, ?_⟩
          · have hb : b < h'.objs.size := Heap.lt_size e
            rw [PyProof.Rows.sortedHeap_old (Nat.ne_of_lt hb) (by rw [size_push']; exact Nat.lt_succ_of_lt hb)]
            exact Heap.get?_push_of_some _ e
          · exact fin_lst wd h hn r1
    · rw [show b1P .sorted (.dct kvs) = none by simp only [b1P]; rw [if_neg c]] at h
      exact h.elim
  | _ => exact h.elim
end
end RP
namespace RP
open PySem PySem.Spec PyProof.Rows L2
mutual
theorem toD_inj : ∀ (n : Nat) (x y : PV), dat n x = true → dat n y = true → toD x = toD y → x = y
  | n, .non, y, _, hy, e => by cases y <;> simp_all [toD, dat]
  | n, .bl a, y, _, hy, e => by cases y <;> simp_all [toD, dat]
  | n, .int a, y, _, hy, e => by cases y <;> simp_all [toD, dat]
  | n, .str a, y, _, hy, e => by cases y <;> simp_all [toD, dat]
  | 0, .tup a, y, hx, hy, e => by simp [dat] at hx
  | 0, .lst a, y, hx, hy, e => by simp [dat] at hx
  | n + 1, .tup a, y, hx, hy, e => by
    cases y with
    | tup b =>
      simp only [toD, PyData.tuple.injEq, dat] at *
      rw [toDs_inj n a b hx hy e]
    | _ => simp [toD] at e
  | n + 1, .lst a, y, hx, hy, e => by
    cases y with
    | lst b =>
      simp only [toD, PyData.list.injEq, dat] at *
      rw [toDs_inj n a b hx hy e]
    | _ => simp [toD] at e
  | n, .dct _, y, hx, _, _ | n, .ref _, y, hx, _, _ | n, .fn _, y, hx, _, _ | n, .rol _, y, hx, _, _ | n, .tpx _, y, hx, _, _ => by simp [dat] at hx
theorem toDs_inj : ∀ (n : Nat) (x y : List PV), dats n x = true → dats n y = true → toD.toDs x = toD.toDs y → x = y
  | n, [], [], _, _, _ => rfl
  | n, [], _ :: _, _, _, e => by simp [toD.toDs] at e
  | n, _ :: _, [], _, _, e => by simp [toD.toDs] at e
  | n, a :: as, b :: bs, hx, hy, e => by
    simp only [toD.toDs, List.cons.injEq, dats, Bool.and_eq_true] at *
    rw [toD_inj n a b hx.1 hy.1 e.1, toDs_inj n as bs hx.2 hy.2 e.2]
    exact ⟨rfl, rfl⟩
end
theorem minP_toD : ∀ (xs : List PV) (x z : PV), (∀ a, a ∈ x :: xs → dat DEP a = true) → (∀ a, a ∈ x :: xs → ∀ b, b ∈ x :: xs → alikeP a b = true) → minP x xs = some z → W.minD (toD x) (toD.toDs xs) = toD z ∧ z ∈ x :: xs
  | [], x, z, _, _, h => by simp [minP] at h; subst h; exact ⟨rfl, List.mem_cons_self⟩
  | y :: xs, x, z, hd, ha, h => by
    unfold minP at h
    cases q : ltP y x with
    | none => rw [q] at h; cases h
    | some k =>
      rw [q] at h
      have e := lt_toD DEP y x k (hd y (by simp)) (hd x (by simp)) (ha y (by simp) x (by simp)) q
      have step : W.minD (toD x) (toD.toDs (y :: xs)) = W.minD (if k = true then toD y else toD x) (toD.toDs xs) := by
        show W.minD (toD x) (toD y :: toD.toDs xs) = _
        unfold W.minD
        rw [List.foldl_cons, e]
      cases k with
      | true =>
        obtain ⟨h1, h2⟩ := minP_toD xs y z (fun a m => hd a (List.mem_cons_of_mem _ m)) (fun a m b m' => ha a (List.mem_cons_of_mem _ m) b (List.mem_cons_of_mem _ m')) h
        exact ⟨by rw [step, if_pos rfl, h1], List.mem_cons_of_mem _ h2⟩
      | false =>
        have sub : ∀ a, a ∈ x :: xs → a ∈ x :: y :: xs := fun a m => by
          rcases List.mem_cons.mp m with e | m
          · subst e; simp
          · simp [m]
        obtain ⟨h1, h2⟩ := minP_toD xs x z (fun a m => hd a (sub a m)) (fun a m b m' => ha a (sub a m) b (sub b m')) h
        exact ⟨by rw [step, if_neg (by decide), h1], sub z h2⟩
theorem maxP_toD : ∀ (xs : List PV) (x z : PV), (∀ a, a ∈ x :: xs → dat DEP a = true) → (∀ a, a ∈ x :: xs → ∀ b, b ∈ x :: xs → alikeP a b = true) → maxP x xs = some z → W.maxD (toD x) (toD.toDs xs) = toD z ∧ z ∈ x :: xs
  | [], x, z, _, _, h => by simp [maxP] at h; subst h; exact ⟨rfl, List.mem_cons_self⟩
  | y :: xs, x, z, hd, ha, h => by
    unfold maxP at h
    cases q : ltP x y with
    | none => rw [q] at h; cases h
    | some k =>
      rw [q] at h
      have e := lt_toD DEP x y k (hd x (by simp)) (hd y (by simp)) (ha x (by simp) y (by simp)) q
      have step : W.maxD (toD x) (toD.toDs (y :: xs)) = W.maxD (if k = true then toD y else toD x) (toD.toDs xs) := by
        show W.maxD (toD x) (toD y :: toD.toDs xs) = _
        unfold W.maxD
        rw [List.foldl_cons, e]
      cases k with
      | true =>
        obtain ⟨h1, h2⟩ := maxP_toD xs y z (fun a m => hd a (List.mem_cons_of_mem _ m)) (fun a m b m' => ha a (List.mem_cons_of_mem _ m) b (List.mem_cons_of_mem _ m')) h
        exact ⟨by rw [step, if_pos rfl, h1], List.mem_cons_of_mem _ h2⟩
      | false =>
        have sub : ∀ a, a ∈ x :: xs → a ∈ x :: y :: xs := fun a m => by
          rcases List.mem_cons.mp m with e | m
          · subst e; simp
          · simp [m]
        obtain ⟨h1, h2⟩ := maxP_toD xs x z (fun a m => hd a (sub a m)) (fun a m b m' => ha a (sub a m) b (sub b m')) h
        exact ⟨by rw [step, if_neg (by decide), h1], sub z h2⟩
section
variable {X : Cx} {T : List (Addr × Str)} {pins : List (Addr × Obj)} {σ : L2.St} {H G : Hp} {m : List Addr} {s : Shared} {st : AS}
theorem read_one {h : Heap} {v : Value} {x y : PV} {as bs : List Addr} (hx : dat DEP x = true) (hy : dat DEP y = true) (r1 : Reads h v (toD x) as) (r2 : Reads h v (toD y) bs) : x = y := by
  refine toD_inj DEP x y hx hy ?_
  rw [← SeqAt.readOf_eq (shaped_toD DEP x hx).1 r1, ← SeqAt.readOf_eq (shaped_toD DEP y hy).1 r2]
theorem ord_parts {xs : List PV} (h : ordOk xs = true) : dats DEP xs = true ∧ (∀ a, a ∈ xs → dat DEP a = true) ∧ (∀ a, a ∈ xs → ∀ b, b ∈ xs → alikeP a b = true) ∧ ∀ x, x ∈ xs → isNonP x = false := by
  unfold ordOk datS alkAll at h
  rw [Bool.and_eq_true, Bool.and_eq_true] at h
  exact ⟨h.1, fun a ha => dats_mem h.1 ha, fun a ha b hb => List.all_eq_true.mp (List.all_eq_true.mp h.2.1 a ha) b hb, fun x hx => by
    have := List.all_eq_true.mp h.2.2 x hx
    simpa using this⟩
theorem vals_back : ∀ {xs : List V} {us : List Value} {i : Nat} {u : Value}, Vals xs us → us[i]? = some u → ∃ x, xs[i]? = some x ∧ RelV x u
  | _, _, _, _, .nil, e => by simp at e
  | _, _, 0, _, .cons r _, e => by simp at e; subst e; exact ⟨_, rfl, r⟩
  | _, _, i + 1, u, .cons _ t, e => by
    obtain ⟨x, h1, h2⟩ := vals_back (i := i) (u := u) t (by simpa using e)
    exact ⟨x, by simpa using h1, h2⟩
theorem alikeAll_of {xs : List PV} (h : ordOk xs = true) : W.AlikeAll (toD.toDs xs) := by
  obtain ⟨_, h1, h2, hn⟩ := ord_parts h
  have mem : ∀ {xs : List PV} {d : PyData}, d ∈ toD.toDs xs → ∃ x, x ∈ xs ∧ d = toD x := by
    intro xs
    induction xs with
    | nil => intro d h; simp [toD.toDs] at h
    | cons x xs ih =>
      intro d h
      simp only [toD.toDs, List.mem_cons] at h
      rcases h with e | h
      · exact ⟨x, List.mem_cons_self, e⟩
      · obtain ⟨y, hy, e⟩ := ih h
        exact ⟨y, List.mem_cons_of_mem _ hy, e⟩
  refine ⟨fun d hd d' hd' => ?_, fun d hd => ?_⟩
  · obtain ⟨x, hx, rfl⟩ := mem hd
    obtain ⟨y, hy, rfl⟩ := mem hd'
    rw [alike_toD DEP _ _ (h1 x hx) (h1 y hy)]
    exact h2 x hx y hy
  · obtain ⟨x, hx, rfl⟩ := mem hd
    have a := hn x hx
    have b := h1 x hx
    cases x <;> simp_all [toD, isNonP, dat]
theorem depth_toDs {xs : List PV} (h : dats DEP xs = true) : PyData.depthAll (toD.toDs xs) ≤ DEP := (shaped_toDs DEP xs h).2
/-- an item found by what it reads as -/
theorem item_of (I : Inv X pins σ H s) (wd : Wd (sy X T) G m st H) {xs : List PV} {ws : List V} {its : List Value} {z : PV} {i : Nat} {v : Value} {h' : Heap} {bs : List Addr} (rr : Reps (sy X T) G m xs ws) (rv : Vals ws its) (hd : ∀ a, a ∈ xs → dat DEP a = true) (hz : dat DEP z = true) (hv : its[i]? = some v)
    (kp : ∀ b o, s.heap.get? b = some o → h'.get? b = some o) (r : Reads h' v (toD z) bs) : ∃ w, Rep (sy X T) G m z w ∧ RelV w v := by
  obtain ⟨w, hw, rw'⟩ := vals_back rv hv
  obtain ⟨x, hx, rx⟩ := rr.get' hw
  have dx := hd x (List.mem_of_getElem? hx)
  obtain ⟨as, r1⟩ := Dp.reads I _ _ _ (rx.dp wd DEP _ _ dx) rw'
  have := read_one dx hz (PyProof.Rows.Reads.keeps kp r1) r
  subst this
  exact ⟨w, rx, rw'⟩
/-- an argument's items, as data -/
theorem reads_items (I : Inv X pins σ H s) (wd : Wd (sy X T) G m st H) {xs : List PV} {ws : List V} {its : List Value} (rr : Reps (sy X T) G m xs ws) (rv : Vals ws its) (hd : dats DEP xs = true) : ∃ as, ReadsAll s.heap its (toD.toDs xs) as := Dp.readsAll I _ _ _ (Reps.dp wd DEP _ _ hd rr) rv
theorem min_P (hu : X.A.units + 200 < cLine) (hc : X.calm = true) : CallR X (.builtin "min") (rC1 (sy X T) .E (b1P .min)) := by
  intro pins s σ H xs us Q I r h
  obtain ⟨G, m, st, a, x, rfl, wd, ra, h⟩ := h
  have go : ∀ (y : PV) (ys : List PV) (ws : List V) (its : List Value) (z : PV), ordOk (y :: ys) = true → minP y ys = some z → Reps (sy X T) G m (y :: ys) ws → Vals ws its → Post (sy X T) (RepM (sy X T) .E) G m H (opt (some z) st) Q W0 → X.A.units + 1 + PyData.depthAll (toD y :: toD.toDs ys) < cLine ∧ W.AlikeAll (toD y :: toD.toDs ys) ∧ (∃ as, ReadsAll s.heap its (toD y :: toD.toDs ys) as) ∧
      ∀ (i : Nat) v h' tk bs, its[i]? = some v → Reads h' v (W.minD (toD y) (toD.toDs ys)) bs → (∀ b o, s.heap.get? b = some o → h'.get? b = some o) → EP X pins σ Q v { s with heap := h', toks := tk } := by
    intro y ys ws its z ho hz rr rv hp
    obtain ⟨d1, d2, d3, d4⟩ := ord_parts ho
    have hdep := depth_toDs d1
    unfold DEP at hdep
    obtain ⟨e1, e2⟩ := minP_toD ys y z d2 d3 hz
    refine ⟨by show X.A.units + 1 + PyData.depthAll (toD.toDs (y :: ys)) < _; omega, alikeAll_of ho, reads_items I wd rr rv d1, fun i v h' tk bs hv hr kp => ?_⟩
    rw [e1] at hr
    obtain ⟨w, rw1, rw2⟩ := item_of I wd rr rv d2 (d2 z e2) hv kp hr
    exact ⟨w, H, I.kept kp, rw2, hp.ret wd rw1⟩
  cases a with
  | lst zs =>
    obtain ⟨p, ws, rfl, hp, _, rr⟩ := ra.lst' wd
    obtain ⟨u, rfl, ru⟩ := vals1 r
    cases ru
    cases zs with
    | nil => exact h.elim
    | cons y ys =>
      by_cases c : ordOk (y :: ys) = true
      · have hb : b1P .min (.lst (y :: ys)) = minP y ys := by simp only [b1P]; rw [if_pos c]
        cases q : minP y ys with
        | none => rw [hb, q] at h; exact h.elim
        | some z =>
          rw [hb, q] at h
          obtain ⟨its, rv, pl, hz⟩ := I.list (.inl (.inl hp))
          obtain ⟨g1, g2, ⟨as, g3⟩, g4⟩ := go y ys ws its z c q rr rv h
          exact W.min_list_data (I.ok.hd hc) pl.isList (by simpa using g3) g2 g1 fun i v h' tk bs hv hr kp => g4 i v h' tk bs (by simpa using hv) hr kp
      · rw [show b1P .min (.lst (y :: ys)) = none by simp only [b1P]; rw [if_neg c]] at h
        exact h.elim
  | tup zs =>
    obtain ⟨p, ws, rfl, _, hp, rr⟩ := ra.tup' wd
    obtain ⟨u, rfl, ru⟩ := vals1 r
    cases ru
    cases zs with
    | nil => exact h.elim
    | cons y ys =>
      by_cases c : ordOk (y :: ys) = true
      · have hb : b1P .min (.tup (y :: ys)) = minP y ys := by simp only [b1P]; rw [if_pos c]
        cases q : minP y ys with
        | none => rw [hb, q] at h; exact h.elim
        | some z =>
          rw [hb, q] at h
          obtain ⟨its, rv, pl, hz⟩ := I.tuple hp
          obtain ⟨g1, g2, ⟨as, g3⟩, g4⟩ := go y ys ws its z c q rr rv h
          exact W.min_tuple_data (vs := its.toArray) (I.ok.hd hc) pl (by simpa using g3) g2 g1 fun i v h' tk bs hv hr kp => g4 i v h' tk bs (by simpa using hv) hr kp
      · rw [show b1P .min (.tup (y :: ys)) = none by simp only [b1P]; rw [if_neg c]] at h
        exact h.elim
  | tpx zs =>
    obtain ⟨p, ws, o, rfl, _, _, _, hp, rr⟩ := ra.tpx' wd
    obtain ⟨u, rfl, ru⟩ := vals1 r
    cases ru
    cases zs with
    | nil => exact h.elim
    | cons y ys =>
      by_cases c : ordOk (y :: ys) = true
      · have hb : b1P .min (.tpx (y :: ys)) = minP y ys := by simp only [b1P]; rw [if_pos c]
        cases q : minP y ys with
        | none => rw [hb, q] at h; exact h.elim
        | some z =>
          rw [hb, q] at h
          obtain ⟨its, rv, pl, hz⟩ := I.tuple hp
          obtain ⟨g1, g2, ⟨as, g3⟩, g4⟩ := go y ys ws its z c q rr rv h
          exact W.min_tuple_data (vs := its.toArray) (I.ok.hd hc) pl (by simpa using g3) g2 g1 fun i v h' tk bs hv hr kp => g4 i v h' tk bs (by simpa using hv) hr kp
      · rw [show b1P .min (.tpx (y :: ys)) = none by simp only [b1P]; rw [if_neg c]] at h
        exact h.elim
  | _ => exact h.elim
theorem max_P (hu : X.A.units + 200 < cLine) (hc : X.calm = true) : CallR X (.builtin "max") (rC1 (sy X T) .E (b1P .max)) := by
  intro pins s σ H xs us Q I r h
  obtain ⟨G, m, st, a, x, rfl, wd, ra, h⟩ := h
  cases a with
  | lst zs =>
    obtain ⟨p, ws, rfl, hp, _, rr⟩ := ra.lst' wd
    obtain ⟨u, rfl, ru⟩ := vals1 r
    cases ru
    cases zs with
    | nil => exact h.elim
    | cons y ys =>
      by_cases c : ordOk (y :: ys) = true
      · have hb : b1P .max (.lst (y :: ys)) = maxP y ys := by simp only [b1P]; rw [if_pos c]
        cases q : maxP y ys with
        | none => rw [hb, q] at h; exact h.elim
        | some z =>
          rw [hb, q] at h
          obtain ⟨its, rv, pl, hz⟩ := I.list (.inl (.inl hp))
          obtain ⟨d1, d2, d3, d4⟩ := ord_parts c
          have hdep := depth_toDs d1
          unfold DEP at hdep
          obtain ⟨e1, e2⟩ := maxP_toD ys y z d2 d3 q
          obtain ⟨as, g3⟩ := reads_items I wd rr rv d1
          have g3 : ReadsAll s.heap its (toD y :: toD.toDs ys) as := g3
          refine W.max_list_data (x := toD y) (xs := toD.toDs ys) (I.ok.hd hc) pl.isList (by simpa using g3) (alikeAll_of c) (by show X.A.units + 1 + PyData.depthAll (toD.toDs (y :: ys)) < _; omega) fun i v h' tk bs hv hr kp => ?_
          rw [e1] at hr
          obtain ⟨w, rw1, rw2⟩ := item_of I wd rr rv d2 (d2 z e2) (by simpa using hv) kp hr
          exact ⟨w, H, I.kept kp, rw2, h.ret wd rw1⟩
      · rw [show b1P .max (.lst (y :: ys)) = none by simp only [b1P]; rw [if_neg c]] at h
        exact h.elim
  | _ => exact h.elim
/-- a new tuple whose object is known -/
theorem tuplex_P : CallR X (.type "tuple") (rC1 (sy X T) .E (b1P .tuplex)) := by
  intro pins s σ H xs us Q I r h
  obtain ⟨G, m, st, a, x, rfl, wd, ra, h⟩ := h
  cases a with
  | lst ys =>
    obtain ⟨p, vs, rfl, hp, _, rr⟩ := ra.lst' wd
    obtain ⟨u, rfl, rx⟩ := vals1 r
    cases rx
    obtain ⟨its, r', pl, hz⟩ := I.list (.inl (.inl hp))
    have hlen := r'.length
    refine call_tuple_list pl.isList (fun h' kp => ?_) (by simp only [List.size_toArray] <;> omega)
    have I1 : Inv X pins σ H { s with heap := h' } := I.kept (t' := s.toks) kp
    have hn : H h'.objs.size = none := I1.hok.fresh (Nat.le_refl _)
    have hg := Heap.get?_push_size h' (o := { cls := .type "tuple", data := .seq its.toArray }) rfl
    have I2 : Inv X pins σ (upd H h'.objs.size (.frz { cls := .type "tuple", data := .seq its.toArray } (.tup vs))) { s with heap := h'.push { cls := .type "tuple", data := .seq its.toArray } } :=
      I1.laid (t' := s.toks) (fun b o e => Heap.get?_push_of_some _ e) (Nat.le_refl _) ⟨hg, hz, its, r', IsTup.new _ _⟩
    refine ⟨.ref h'.objs.size, _, I2, rfl, fin_frz wd h hn ntbl_frz (.tpx upd_same rfl (rr.mono (fun b u q => by rw [upd_ne (ne_of_none q (wd.Gnone hn))]; exact q) ⟨[], by simp⟩))⟩
  | _ => exact h.elim
end
end RP

/-! Fw16b: min(a, b) of data (lines of the library's min of a list turned to it). Own work. -/
namespace RP
open PySem PySem.Spec PyProof.Rows L2
section
variable {prog : Program} {w : World} {A : Around} {E : Value → Shared → Prop} {s : Shared}
theorem call_min_twoH {a b : Value} {Q : Value → Shared → Prop}
    (h : wpAny (model prog w) A.in1 (pyIter (.ref s.heap.objs.size)) (fun it s₂ => ∃ I fp wr G n P St H bt, it = .ref I ∧ WalksS prog w A.in1 I fp wr G n P St ∧ St 0 s₂ ∧ (∀ b ∈ fp, b < s₂.heap.objs.size) ∧ 0 < n ∧
      (∀ b o, H.get? b = some o → b ∉ wr) ∧ (∀ b o, H.get? b = some o → s₂.heap.get? b = some o) ∧ CmpIn prog w A.in1 .Lt H P bt ∧ ∀ v s', P (argBest bt (n - 1)) v → Moved wr G s₂ s' → Q v s') E
      { s with heap := s.heap.push { cls := .type "tuple", data := .seq #[a, b] } }) :
    wpAny (model prog w) A (call (.builtin "min") [a, b]) Q E s := by
  have hname : (toString "min" ++ toString ".loop" : String) = "min.loop" := by decide
  refine call_function_tree F.kind_min F.plain_min F.entry_min (F.args_min2 _ _) ?_
  show wpAny _ A.in1 (Builtin.Builtins.bindParams "min" ["key", "default"] 0 ⟨[], []⟩ >>= _) _ _ s
  refine wpAny_bind (wpAny_of_eq (show Builtin.Builtins.bindParams "min" ["key", "default"] 0 ⟨[], []⟩ = pure [none, none] from rfl) ?_)
  show wpAny _ A.in1 (newTuple [a, b] >>= _) _ _ s
  refine wpAny_bind (wpAny_newObj_type ?_)
  refine wpAny_bind (wpAny_mono h (fun it s₂ h₂ => ?_) fun _ _ e => e)
  obtain ⟨I, fp, wr, G, n, P, St, H, bt, rfl, Wk, hst, hfp, hn, hw, hkeep, hcmp, hQ⟩ := h₂
  refine wpAny_bind (wpAny_newObj_type ?_)
  have hSf : s₂.heap.objs.size ∉ fp := fun hm => Nat.lt_irrefl _ (hfp _ hm)
  rw [hname]
  refine wpAny_pure ⟨plainId_quiet F.plain_min_loop _, codeAny_min_loop_firstH Wk H hw bt hcmp s₂.heap.objs.size hSf (fresh_in hkeep) _ hn (fun b o e => Heap.get?_push_of_some _ (hkeep b o e)) (Wk.frame 0 s₂ _ s₂.toks hst (Nat.le_refl _) fun b _ o e => Heap.get?_push_of_some _ e) (Heap.get?_push_size _ rfl) fun v s' hP hm => ?_⟩
  exact hQ v s' hP (Moved.drop_new (tk := s₂.toks) hm (Nat.le_refl _))
theorem min_two_data {a b : Value} {x y : PyData} {as : List Addr} {Q : Value → Shared → Prop} (hh : A.handled = none) (hr : ReadsAll s.heap [a, b] [x, y] as) (ha : W.AlikeAll [x, y]) (hu : A.units + 1 + PyData.depthAll [x, y] < cLine)
    (h : ∀ (i : Nat) v h' tk bs, #[a, b][i]? = some v → Reads h' v (W.minD x [y]) bs → (∀ b o, s.heap.get? b = some o → h'.get? b = some o) → Q v { s with heap := h', toks := tk }) :
    wpAny (model prog w) A (call (.builtin "min") [a, b]) Q E s := by
  have hT : ({ s with heap := s.heap.push { cls := .type "tuple", data := .seq #[a, b] } } : Shared).heap.IsTuple s.heap.objs.size #[a, b] := ⟨_, Heap.get?_push_size _ rfl, rfl, 0, rfl⟩
  refine call_min_twoH (W.iter_tupleW (A := A.in1) hh hT fun s₂ e Wk st hfp hw hk => ?_)
  refine ⟨_, _, _, _, _, _, _, s.heap, _, rfl, Wk, st, hfp, by simp, fun b o e => hw b o (Heap.get?_push_of_some _ e), fun b o e => hk b o (Heap.get?_push_of_some _ e), W.cmpIn_lt (A := A.in1) (vs := #[a, b]) hr ha (by show A.units + 1 + _ < _; exact hu), fun v s' hP m => ?_⟩
  obtain ⟨h', tk, rfl, hk'⟩ := W.moved_old e rfl m
  have hk2 : ∀ b o, s.heap.get? b = some o → h'.get? b = some o := fun b o e => hk' b o (Heap.get?_push_of_some _ e)
  obtain ⟨bs, r, _, _, _⟩ := W.readsAll_atA (vs := #[a, b]) hr _ v hP
  have e2 := (W.argBest_fold W.dataLt PyData.none x [y] 1 (Nat.le_refl _)).2
  rw [show List.take 1 [y] = [y] from rfl] at e2
  exact h _ v h' tk bs hP (W.reads_keeps hk2 (by unfold W.minD; rw [← e2]; exact r)) hk2
end
section
variable {X : Cx} {T : List (Addr × Str)}
def rM2 (S : Sy) : List V → Hp → VK → Prop := fun vs H Q => ∃ G m s a b x y, vs = [x, y] ∧ Wd S G m s H ∧ Rep S G m a x ∧ Rep S G m b y ∧ Post S (RepM S .E) G m H (opt (if ordOk [a, b] then minP a [b] else none) s) Q W0
theorem min2_P (hu : X.A.units + 200 < cLine) (hc : X.calm = true) : CallR X (.builtin "min") (rM2 (sy X T)) := by
  intro pins s σ H xs us Q I r h
  obtain ⟨G, m, st, a, b, x, y, rfl, wd, ra, rb, h⟩ := h
  by_cases c : ordOk [a, b] = true
  · rw [if_pos c] at h
    cases q : minP a [b] with
    | none => rw [q] at h; exact h.elim
    | some z =>
      rw [q] at h
      obtain ⟨d1, d2, d3, d4⟩ := ord_parts c
      have hdep := depth_toDs d1
      unfold DEP at hdep
      obtain ⟨e1, e2⟩ := minP_toD [b] a z d2 d3 q
      have rr : Reps (sy X T) G m [a, b] [x, y] := .cons ra (.cons rb .nil)
      obtain ⟨as, g3⟩ := reads_items I wd rr r d1
      cases r with
      | cons r1 t =>
        cases t with
        | cons r2 t =>
          cases t with
          | nil =>
            refine min_two_data (I.ok.hd hc) g3 (alikeAll_of c) (by show X.A.units + 1 + PyData.depthAll (toD.toDs [a, b]) < _; omega) fun i v h' tk bs hv hr kp => ?_
            have hr : Reads h' v (toD z) bs := by rw [← e1]; exact hr
            obtain ⟨w, rw1, rw2⟩ := item_of I wd rr (.cons r1 (.cons r2 .nil)) d2 (d2 z e2) (i := i) (by simpa using hv) kp hr
            exact ⟨w, H, I.kept kp, rw2, h.ret wd rw1⟩
  · rw [if_neg c] at h
    exact h.elim
theorem de_min2t {x : Str} {p pos : Pos} {a b : Expr} {W : XK} {da db : Fm → M PV} (hu : X.A.units + 200 < cLine) (hc : X.calm = true) (hg : Gl X x) (hm : X.mg x = none) (hv : bootBuiltins x = some (.builtin "min")) (ha : PE X a (tD (sy X T) .E W da)) (hb : PE X b (tD (sy X T) .E W db)) (hn : x ≠ "__name__") (hdb : (x == ("__debug__" : Str)) = false)
    (he : StarOk X.env [a, b]) (he2 : StarOk X.env [b]) : PE X (.Call (.Name x p) [a, b] [] pos) (tD (sy X T) .E W fun r => bnd (da r) fun x => bnd (db r) fun y => opt (if ordOk [x, y] then minP x [y] else none)) := by
  obtain ⟨h1, h2⟩ := he a [b] rfl
  refine (pe_callB (min2_P (T := T) hu hc) hg hm hv (pa_cons ha (pa_cons hb pa_nil (he2 b [] rfl).1) h1) hn hdb h1 (h2 pos)).imp fun σ H Q ⟨G, m, s, H₀, r, a, p⟩ => ?_
  refine ⟨G, m, s, H₀, r, a, p.step (good_M _ _) fun x s1 G1 m1 H1 v e1 wd1 rx p1 => ?_⟩
  refine ⟨G1, m1, s1, H₀, r, ⟨wd1, a.2.ext e1⟩, p1.step (good_M _ _) fun y s2 G2 m2 H2 u e2 wd2 ry p2 => ?_⟩
  have rx' : Rep (sy X T) G1 m1 x v := rx
  refine ⟨G2, m2, s2, x, y, v, u, rfl, wd2, rx'.ext e2, ry, ?_⟩
  cases q : (if ordOk [x, y] then minP x [y] else none) with
  | none => rw [q] at p2; exact p2.elim
  | some z => rw [q] at p2; exact p2
end
end RP

/-! Fw17: index, dict displays, dict(..), {..}.get, sorted(set(..)). Own work. -/
namespace RP
open PySem PySem.Spec PyProof.Rows L2

/-- one step of a chain whose beginning lies further back -/
theorem Post.stepB {α β γ δ : Type} {S : Sy} {R : RT α β} {R' : RT γ δ} {Gb Hb G H : Hp} {mb m : List Addr} {x : M γ} {f : γ → M α} {s : AS} {Q : β → Hp → Prop} {W : XK} (h : Post S R Gb mb Hb (bnd x f s) Q W) (e : Ext mb m Gb G Hb H)
    {Q' : δ → Hp → Prop} (k : ∀ a s1 G1 m1 H1 v, Ext m m1 G G1 H H1 → Wd S G1 m1 s1 H1 → R' H G1 m1 H1 a v → Post S R Gb mb Hb (f a s1) Q W → Q' v H1) : Post S R' G m H (x s) Q' W := by
  unfold bnd at h
  cases q : x s with
  | ok a s1 =>
    rw [q] at h
    exact fun G1 m1 H1 v e1 wd r => k a s1 G1 m1 H1 v e1 wd r h
  | exc x' s1 =>
    rw [q] at h
    exact fun G1 m1 H1 c d e1 wd r => h G1 m1 H1 c d (e.trans e1) wd r
  | stuck =>
    rw [q] at h
    exact h
section
variable {X : Cx} {T : List (Addr × Str)} {W : XK} {pos : Pos}
/-! ### dict displays -/
theorem de_dnew : PE X (.Dict [] [] pos) (tD (sy X T) .F W fun _ => RP.ret (.dct [])) := by
  refine ⟨fun pins s σ H Q I h => ?_⟩
  obtain ⟨G, m, st, H₀, r, a, p⟩ := h
  have hn : H s.heap.objs.size = none := I.hok.fresh (Nat.le_refl _)
  refine wpAny_Dict_empty ⟨.ref s.heap.objs.size, upd H s.heap.objs.size (DctO X.prog X.w s.heap.objs.size []), I.laid (t' := s.toks) (fun _ _ q => Heap.get?_push_of_some _ q) (Nat.le_refl _) (dct_new (beq_eq_false_iff_ne.mpr (Ne.symm (Nat.ne_of_lt I.big)))), rfl, ?_⟩
  exact fin_new (k := .F) a.1 p hn (.dct upd_same (a.1.mnone hn) (a.1.Gnone hn) hn .nil)
/-- the one pair of a display goes into the new dict at D -/
def D1Put (S : Sy) (D : Addr) (y z : V) (H : Hp) (Nx : Hp → Prop) : Prop := ∃ G m k x b, y = .ref b ∧ (∀ c o, G c = some o → H c = some o) ∧ H D = some (DctO S.P S.w D []) ∧ keyT k = true ∧ Rep S G m k (.ref b) ∧ Rep S G m x z ∧
  ∀ es', RepsD S G m [(k, x)] es' → Nx (upd H D (DctO S.P S.w D es'))
def tD1 (S : Sy) (tk tv : TE) : TE := fun σ H Q => ∀ p, H p = none → tk σ (upd H p (DctO S.P S.w p [])) fun y H2 => tv σ H2 fun z H3 => D1Put S p y z H3 (Q (.ref p))
theorem pe_d1 {k v : Expr} {tk tv : TE} (hu : X.A.units + 200 < cLine) (hk : PE X k tk) (hv : PE X v tv) : PE X (.Dict [some k] [v] pos) (tD1 (sy X T) tk tv) := by
  refine ⟨fun pins s σ H Q I h => ?_⟩
  have hn : H s.heap.objs.size = none := I.hok.fresh (Nat.le_refl _)
  have I1 : Inv X pins σ (upd H s.heap.objs.size (DctO X.prog X.w s.heap.objs.size [])) { s with heap := s.heap.push { cls := .type "dict", data := .dict #[] } } :=
    I.laid (t' := s.toks) (fun _ _ q => Heap.get?_push_of_some _ q) (Nat.le_refl _) (dct_new (beq_eq_false_iff_ne.mpr (Ne.symm (Nat.ne_of_lt I.big))))
  rw [arm_eval_Dict, zip_pairTrees _ _ _ _ rfl rfl, dictDisplay_pairs (pairTrees [some k] [v] X.env pos) (by simp [pairTrees]) (by simp [pairTrees])]
  refine wpAny_bind (wpAny_standAt (wpAny_bind (wpAny_subDictH (knd := nestedKind X.prog X.w) (Q := fun d s' => wpAny (model X.prog X.w) X.A (pure (Value.ref d)) (EP X pins σ Q) X.xe s') (show X.A.units + 8 < cLine by omega) (by simp [pairTrees]) ?_)))
  refine thn ((pps_cons hk hv pps_nil).run pins _ σ _ (fun ps H3 => match ps with | [(y, z)] => D1Put (sy X T) s.heap.objs.size y z H3 (Q (.ref s.heap.objs.size)) | _ => False) I1 (h s.heap.objs.size hn)) fun ws s2 ⟨ps, H2, I2, rel, dp⟩ => ?_
  · obtain ⟨y, z, e, dp⟩ : ∃ y z, ps = [(y, z)] ∧ D1Put (sy X T) s.heap.objs.size y z H2 (Q (.ref s.heap.objs.size)) := by
      match ps, dp with
      | [(y, z)], dp => exact ⟨y, z, rfl, dp⟩
    subst e
    obtain ⟨G, m, k', x, b, rfl, le, hD, hk', rk, rx, nx⟩ := dp
    cases rel with
    | @cons p q ps qs h1 t =>
      cases t
      obtain ⟨v1, u1⟩ := q
      obtain ⟨r1, r2⟩ := h1
      have r1 : RelV (.ref b) v1 := r1
      cases r1
      have r2 : RelV z u1 := r2
      obtain ⟨hl, hs, xs, ex, hd⟩ := dct_of I2 le (.inl hD) (T := T) (m := m) (kvs := []) .nil
      cases ex
      refine ⟨[(nkey k', b, u1)], ⟨rfl, rfl, key_is I2 le hk' rk, True.intro⟩, hd, fun h' tk' hd' sb => ?_⟩
      have hd' : h'.DictOfH (nestedKind X.prog X.w) s.heap.objs.size [(nkey k', b, u1)] := hd'
      have r' : RepsD (sy X T) G m [(k', x)] [(nkey k', b, z)] := .cons hk' rk rx .nil
      refine wpAny_pure ⟨.ref s.heap.objs.size, upd H2 s.heap.objs.size (DctO X.prog X.w s.heap.objs.size [(nkey k', b, z)]), ?_, rfl, nx _ r'⟩
      obtain ⟨o, ds, ep, e1, e2, e3, e4, e5, e6⟩ := hd'
      refine d_write I2 (by rw [hD]; exact True.intro) sb ⟨o, e1⟩ ?_
      refine ⟨⟨by show 1 ≤ sizeLine; rw [sizeLine_eq]; decide, hs, _, .cons ⟨rfl, rfl, r2⟩ .nil, o, ds, ep, e1, e2, e3, e4, e6⟩, ⟨o, e1⟩, fun h1 h2 q st => ?_⟩
      obtain ⟨q1, q2, ys, q3, o', ds', ep', q4, q5⟩ := q
      exact ⟨q1, q2, ys, q3, o', ds', ep', st _ q4, q5⟩
theorem de_d1 {k v : Expr} {dk dv : Fm → M PV} (hu : X.A.units + 200 < cLine) (hk : PE X k (tD (sy X T) .E W dk)) (hv : PE X v (tD (sy X T) .E W dv)) :
    PE X (.Dict [some k] [v] pos) (tD (sy X T) .F W fun r => bnd (dk r) fun x => bnd (dv r) fun y => if keyT x then RP.ret (.dct [(x, y)]) else stk) := by
  refine (pe_d1 (T := T) hu hk hv).imp fun σ H Q ⟨G, m, st, H₀, r, a, p⟩ => fun d hn => ?_
  have e1 := a.1.newExt (o := DctO X.prog X.w d []) hn
  refine ⟨G, m, st, H₀, r, ⟨a.1.new hn, a.2.ext e1⟩, Post.stepB p e1 fun x s2 G2 m2 H2 u e2 wd2 rx p2 => ?_⟩
  have e12 := e1.trans e2
  refine ⟨G2, m2, s2, H₀, r, ⟨wd2, a.2.ext e12⟩, Post.stepB p2 e12 fun y s3 G3 m3 H3 u3 e3 wd3 ry p3 => ?_⟩
  have e13 := e12.trans e3
  have rx : Rep (sy X T) G3 m3 x u := Rep.ext rx e3
  have ry : Rep (sy X T) G3 m3 y u3 := ry
  have h2 : H2 d = some (DctO X.prog X.w d []) := e2.keep _ _ upd_same (a.1.mnone hn) ntbl_dct
  have m2' := e2.notm (show upd H d (DctO X.prog X.w d []) d = _ from upd_same) (a.1.mnone hn)
  have g2' := e2.notG (show upd H d (DctO X.prog X.w d []) d = _ from upd_same) (a.1.Gnone hn)
  have h3 := e3.keep _ _ h2 m2' ntbl_dct
  have m3' := e3.notm h2 m2'
  have g3' := e3.notG h2 g2'
  by_cases c : keyT x = true
  · rw [if_pos c] at p3
    cases x with
    | tup zs =>
      cases rx with
      | tup g rr =>
      refine ⟨G3, m3, .tup zs, y, _, rfl, fun b o q => (wd3.le b o q).1, h3, c, .tup g rr, ry, fun es' r' => ?_⟩
      obtain ⟨k1, k2⟩ := write_new (o := DctO X.prog X.w d es') e13 wd3 (by rw [h3]; exact fun z => nomatch z) m3' g3' hn (by rw [h3]; exact fun _ z => nomatch z) (fun q z => dct_ne_code (Option.some.inj (h3.symm.trans z)))
      exact p3 G3 m3 _ _ k1 k2 (.dct upd_same m3' g3' hn r')
    | _ => simp [keyT, isTup] at c
  · rw [if_neg c] at p3
    exact p3.elim
/-- a, b = {}, e -/
theorem ds_parD {i j : Nat} {x y : Str} {b : Expr} {db : Fm → M PV} {px py pt pt2 dp : Pos} {kt k2 : Nat} (hc : X.calm = true) (hN : X.N.Nodup) (hi : X.N[i]? = some x) (hj : X.N[j]? = some y) (hij : i ≠ j)
    (hx : X.env.scope.names.lookup x = some .local) (hy : X.env.scope.names.lookup y = some .local) (hb : PE X b (tD (sy X T) .E W db)) (hsb : starEach [b] X.env = [(false, eval b X.env)])
    (hw : swappedStores [.Tuple [.Name x px, .Name y py] kt pt] (.Tuple [.Dict [] [] dp, b] k2 pt2) X.env = pure (some [x, y])) :
    PS X (.Assign [.Tuple [.Name x px, .Name y py] kt pt] (.Tuple [.Dict [] [] dp, b] k2 pt2) pos) (tS (sy X T) W fun r => bnd (db r) fun v => RP.ret (.nx ((r.set i (.od [])).set j (.sh v)))) := by
  have hd : PE X (.Dict [] [] dp) (fun σ H Q => ∀ p, H p = none → Q (.ref p) (upd H p (DctO X.prog X.w p []))) := by
    refine ⟨fun pins s σ H Q I h => ?_⟩
    have hn : H s.heap.objs.size = none := I.hok.fresh (Nat.le_refl _)
    exact wpAny_Dict_empty ⟨.ref s.heap.objs.size, _, I.laid (t' := s.toks) (fun _ _ q => Heap.get?_push_of_some _ q) (Nat.le_refl _) (dct_new (beq_eq_false_iff_ne.mpr (Ne.symm (Nat.ne_of_lt I.big)))), rfl, h _ hn⟩
  refine (ps_par hc hN hi hj hij hx hy (pa_cons hd (pa_cons hb pa_nil (by rw [hsb]; rfl)) rfl) hw rfl).imp fun D σ H ⟨G₀, m₀, H₀, Gb, mb, G, m, s, r, a, p⟩ => ?_
  intro d hn
  have e1 := a.wd.newExt (o := DctO X.prog X.w d []) hn
  have a1 := a.go e1 (a.wd.new hn)
  refine ⟨G, m, s, H₀, r, a1.at, PostS.step a1 p fun v s2 G2 m2 H2 u e2 a2 rv p2 => ⟨_, _, rfl, ?_⟩⟩
  have h2 : H2 d = some (DctO X.prog X.w d []) := e2.keep _ _ upd_same (a.wd.mnone hn) ntbl_dct
  have m2' := e2.notm (show upd H d (DctO X.prog X.w d []) d = _ from upd_same) (a.wd.mnone hn)
  have g2' := e2.notG (show upd H d (DctO X.prog X.w d []) d = _ from upd_same) (a.wd.Gnone hn)
  have f : FmOk (sy X T) G2 m2 H₀ H2 (r.set i (ofV (.dct []))) (σ.set i (some (.ref d))) := a.fm.putF (e1.trans e2) a.ext.dom i (.dct h2 m2' g2' hn .nil)
  exact p2 G2 m2 H2 _ a2.ext a2.lat ⟨a2.wd, f.putSh j rv⟩
/-! ### index -/
theorem idxP_spec : ∀ (xs : List PV) (y : PV) (j : Nat), idxP y xs = some j → ∃ x, xs[j]? = some x ∧ eqP x y = true ∧ ∀ k z, k < j → xs[k]? = some z → eqP z y = false
  | [], y, j, h => by simp [idxP] at h
  | x :: xs, y, j, h => by
    unfold idxP at h
    by_cases c : eqP x y = true
    · rw [if_pos c] at h
      cases h
      exact ⟨x, rfl, c, fun k z hk _ => absurd hk (Nat.not_lt_zero k)⟩
    · rw [if_neg c] at h
      cases q : idxP y xs with
      | none => rw [q] at h; cases h
      | some i =>
        rw [q] at h
        simp only [Option.map_some, Option.some.injEq] at h
        subst h
        obtain ⟨z, h1, h2, h3⟩ := idxP_spec xs y i q
        refine ⟨z, by simpa using h1, h2, fun k u hk hu => ?_⟩
        cases k with
        | zero =>
          have e : x = u := Option.some.inj hu
          subst e
          simpa using c
        | succ k => exact h3 k u (by omega) (by simpa using hu)
theorem idx_tuple (hu : X.A.units + 200 < cLine) {pins : List (Addr × Obj)} {σ : L2.St} {H G : Hp} {m : List Addr} {s : Shared} {st : AS} {xs : List PV} {ws : List V} {its : List Value} {y : PV} {w : V} {u : Value} {l : Addr} {j : Nat} {E : Value → Shared → Prop} {Q : Value → Shared → Prop} (I : Inv X pins σ H s) (wd : Wd (sy X T) G m st H)
    (rr : Reps (sy X T) G m xs ws) (rv : Vals ws its) (hl : s.heap.IsTuple l its.toArray) (dx : dats DEP xs = true) (dy : dat DEP y = true) (ry : Rep (sy X T) G m y w) (rw' : RelV w u) (hj : idxP y xs = some j)
    (hq : Q (.int j s.toks) { s with toks := s.toks + 1 }) : wpAny (model X.prog X.w) X.A (call (.builtin "tuple.index") [.ref l, u]) Q E s := by
  obtain ⟨x0, h1, h2, h3⟩ := idxP_spec xs y j hj
  obtain ⟨⟨cls, dd, data, sl⟩, ho, hc, n, hd⟩ := id hl
  simp only at hc hd
  subst hc hd
  have hlen : its.length = xs.length := by rw [← rv.length, ← rr.length]
  have hjl : j < xs.length := (List.getElem?_eq_some_iff.mp h1).1
  have hjs : j < its.toArray.size := by simpa [hlen] using hjl
  refine call_meets F.slot_tuple_index ⟨_, ho, rfl⟩ F.entry_tuple_index (F.args_tuple_index_2 _ _)
    (SeqAt.tuple_index2_found l its.toArray n dd sl u (fun i => eqP (xs.getD i .non) y) j hjs (Nat.zero_le _) hjs ?_ ?_) ⟨ho, fun i hi => ?_, hq⟩
  · show eqP (xs.getD j .non) y = true
    rw [List.getD_eq_getElem?_getD, h1]
    exact h2
  · intro k hk _ hkj
    have hk' : k < xs.length := by rw [← hlen]; simpa using hk
    show eqP (xs.getD k .non) y = false
    rw [List.getD_eq_getElem?_getD, List.getElem?_eq_getElem hk']
    exact h3 k _ hkj (List.getElem?_eq_getElem hk')
  · have hi' : i < its.length := by simpa using hi
    have hix : i < xs.length := by rw [← hlen]; exact hi'
    obtain ⟨w1, hw1, r1⟩ := vals_back rv (List.getElem?_eq_getElem hi')
    obtain ⟨x1, hx1, rx1⟩ := rr.get' hw1
    have dx1 := dats_get dx hx1
    obtain ⟨as, q1⟩ := Dp.reads I _ _ _ (rx1.dp wd DEP _ _ dx1) r1
    obtain ⟨bs, q2⟩ := Dp.reads I _ _ _ (ry.dp wd DEP _ _ dy) rw'
    obtain ⟨c1, p1⟩ := shaped_toD DEP x1 dx1
    obtain ⟨c2, p2⟩ := shaped_toD DEP y dy
    have z := SeqAt.eqAt_reads (toD x1) (toD y) X.A.in1 s _ _ _ _ q1 q2 c1 c2 (by
      have : min (toD x1).depth (toD y).depth ≤ DEP := Nat.le_trans (Nat.min_le_left _ _) p1
      unfold DEP at this
      show X.A.units + 1 + _ < _
      omega)
    rw [eqv_toD DEP x1 y dx1 dy] at z
    have e : xs.getD i .non = x1 := by rw [List.getD_eq_getElem?_getD, hx1]; rfl
    rw [e]
    simpa using z
theorem idx_list (hu : X.A.units + 200 < cLine) {pins : List (Addr × Obj)} {σ : L2.St} {H G : Hp} {m : List Addr} {s : Shared} {st : AS} {xs : List PV} {ws : List V} {y : PV} {w : V} {u : Value} {l : Addr} {j : Nat} {Q : VK} (I : Inv X pins σ H s) (wd : Wd (sy X T) G m st H)
    (hl : H l = some (.lst ws)) (rr : Reps (sy X T) G m xs ws) (dx : dats DEP xs = true) (dy : dat DEP y = true) (ry : Rep (sy X T) G m y w) (rw' : RelV w u) (hj : idxP y xs = some j)
    (hq : Q (.int (j : Nat)) H) : wpAny (model X.prog X.w) X.A (call (.builtin "list.index") [.ref l, u]) (EP X pins σ Q) X.xe s := by
  obtain ⟨x0, h1, h2, h3⟩ := idxP_spec xs y j hj
  have dx0 := dats_get dx h1
  have hz : (toD.toDs xs)[j]? = some (toD x0) := by
    have : ∀ (xs : List PV) (j : Nat) (x : PV), xs[j]? = some x → (toD.toDs xs)[j]? = some (toD x) := by
      intro xs
      induction xs with
      | nil => intro j x h; simp at h
      | cons a as ih =>
        intro j x h
        cases j with
        | zero => simp at h; subst h; rfl
        | succ j => exact ih j x (by simpa using h)
    exact this xs j x0 h1
  refine mt_indexD (by omega) pins s σ H (.ref l) [w] (.ref l) [u] Q I rfl (.cons rw' .nil) ⟨l, w, toD y, toD.toDs xs, j, toD x0, rfl, rfl, .lst (.inl (.inl hl)) (rr.dp wd DEP _ _ dx), ry.dp wd DEP _ _ dy, ?_, shaped_of dy, hz, ?_, fun k z hk hz' => ?_, hq⟩
  · unfold SeqAt.shaped
    obtain ⟨a1, a2⟩ := shaped_toDs DEP xs dx
    unfold DEP at a2
    rw [show (PyData.list (toD.toDs xs)).canLay0 = PyData.canLayAll0 (toD.toDs xs) from rfl, a1, decide_eq_true (show (PyData.list (toD.toDs xs)).depth ≤ 64 by simp only [PyData.depth]; omega)]
    rfl
  · rw [eqv_toD DEP x0 y dx0 dy]; exact h2
  · obtain ⟨x1, hx1, rfl⟩ := toDs_get hz'
    rw [eqv_toD DEP x1 y (dats_get dx hx1) dy]
    exact h3 k x1 hk hx1
theorem de_idx {a b : Expr} {da db : Fm → M PV} {apos cpos : Pos} (hu : X.A.units + 200 < cLine) (ha : PE X a (tD (sy X T) .O W da)) (hb : PE X b (tD (sy X T) .E W db)) (hbase : attributeBase a "index" X.env (eval a X.env) = eval a X.env) (hl : (apos.endLine == cpos.line) = true) (hs : starEach [b] X.env = [(false, eval b X.env)]) :
    PE X (.Call (.Attribute a "index" apos) [b] [] cpos) (tD (sy X T) .F W fun r => bnd (da r) fun x => if seqX x then bnd (db r) fun y => opt (ixOf x y) else stk) := by
  refine ⟨fun pins s σ H Q I h => ?_⟩
  obtain ⟨G, m, st, H₀, r, at0, p⟩ := h
  refine wpAny_Call_method_late hbase (by rw [hs]; rfl) hl rfl (thn (ha.run pins s σ H (fun v H1 => ∃ G1 m1 s1 x, Ext m m1 G G1 H H1 ∧ Wd (sy X T) G1 m1 s1 H1 ∧ RepO (sy X T) G1 m1 H1 x v ∧ Post (sy X T) (RepM (sy X T) .F) G1 m1 H1 ((if seqX x then bnd (db r) (fun y => opt (ixOf x y)) else stk) s1) Q W) I ⟨G, m, st, H₀, r, at0, p.step (good_M _ _) fun x s1 G1 m1 H1 v e1 wd1 rx p1 => ⟨G1, m1, s1, x, e1, wd1, rx, p1⟩⟩) fun v s1 ⟨xv, H1, I1, r1, G1, m1, st1, x, e1, wd1, rx, p1⟩ => ?_)
  have hx : seqX x = true := by
    cases c : seqX x with
    | true => rfl
    | false => rw [if_neg (by rw [c]; decide)] at p1; exact p1.elim
  rw [if_pos hx] at p1
  have arg : ∀ (id : String), (∀ y s2 G2 m2 H2 w u sh, Ext m1 m2 G1 G2 H1 H2 → Wd (sy X T) G2 m2 s2 H2 → Rep (sy X T) G2 m2 y w → RelV w u → Inv X pins σ H2 sh → Post (sy X T) (RepM (sy X T) .F) G2 m2 H2 (opt (ixOf x y) s2) Q W → wpAny (model X.prog X.w) X.A (call (.builtin id) [v, u]) (EP X pins σ Q) X.xe sh) →
      wpAny (model X.prog X.w) X.A (callWith cpos (.builtin id) [v] (backTo cpos (starEach [b] X.env)) []) (EP X pins σ Q) X.xe s1 := by
    intro id hk
    rw [hs]
    refine Calls.callWith_builtin rfl (Calls.evalArgs_plain (Calls.spliced_cons (thn (hb.run pins s1 σ H1 (fun w H2 => ∃ G2 m2 s2 y, Ext m1 m2 G1 G2 H1 H2 ∧ Wd (sy X T) G2 m2 s2 H2 ∧ Rep (sy X T) G2 m2 y w ∧ Post (sy X T) (RepM (sy X T) .F) G2 m2 H2 (opt (ixOf x y) s2) Q W) I1 ⟨G1, m1, st1, H₀, r, ⟨wd1, at0.2.ext e1⟩, p1.step (good_M _ _) fun y s2 G2 m2 H2 w e2 wd2 ry p2 => ⟨G2, m2, s2, y, e2, wd2, ry, p2⟩⟩) fun u s2 ⟨w, H2, I2, r2, G2, m2, st2, y, e2, wd2, ry, p2⟩ => ?_)))
    exact Calls.spliced_nil (hk y st2 G2 m2 H2 w u s2 e2 wd2 ry r2 I2 p2)
  cases x with
  | lst xs =>
    obtain ⟨l, ws, rfl, hl1, hm1, rr1⟩ := rx.lst' wd1
    cases r1
    obtain ⟨its, rv, pl, hz⟩ := I1.list (.inl (.inl hl1))
    obtain ⟨h1, h2⟩ := tyV_is I1 (x := .ref l) (v := .ref l) (T := "list") rfl (.inl ⟨rfl, ws, .inl (.inl hl1)⟩)
    refine ⟨"list", "list.index", F.plainAttrs_list, F.slot_list_index, F.type_list_index, h1, h2, arg "list.index" fun y s2 G2 m2 H2 w u sh e2 wd2 ry ru I2 p2 => ?_⟩
    have rx2 := RepO.ext rx e2
    obtain ⟨l', ws', e, hl2, _, rr2⟩ := rx2.lst' wd2
    cases e
    simp only [ixOf] at p2
    by_cases c : (datS xs && dat DEP y) = true
    · rw [if_pos c] at p2
      cases q : idxP y xs with
      | none => rw [q] at p2; exact p2.elim
      | some j =>
        rw [q] at p2
        rw [Bool.and_eq_true] at c
        exact idx_list hu I2 wd2 hl2 rr2 c.1 c.2 ry ru q (Post.ret wd2 (.val rfl (.int _)) p2)
    · rw [if_neg c] at p2
      exact p2.elim
  | tpx xs =>
    obtain ⟨l, ws, o, rfl, hl1, ho, _, hq1, rr1⟩ := rx.tpx' wd1
    cases r1
    obtain ⟨hg, hz, its, rv, pl⟩ := I1.hok l _ hl1
    have hty : s1.TypeIs (.ref l) "tuple" := IsTup.typeIs pl
    refine ⟨"tuple", "tuple.index", F.plainAttrs_tuple, F.slot_tuple_index, F.type_tuple_index, hty, fun b hb => by cases hb; exact ⟨o, hg, ho⟩, arg "tuple.index" fun y s2 G2 m2 H2 w u sh e2 wd2 ry ru I2 p2 => ?_⟩
    have rx2 := RepO.ext rx e2
    obtain ⟨l', ws', o', e, hl2, _, _, hq2, rr2⟩ := rx2.tpx' wd2
    cases e
    simp only [ixOf] at p2
    by_cases c : (datS xs && dat DEP y) = true
    · rw [if_pos c] at p2
      cases q : idxP y xs with
      | none => rw [q] at p2; exact p2.elim
      | some j =>
        rw [q] at p2
        rw [Bool.and_eq_true] at c
        obtain ⟨its2, rv2, pl2, _⟩ := I2.tuple hq2
        exact idx_tuple hu I2 wd2 rr2 rv2 pl2 c.1 c.2 ry ru q ⟨.int (j : Nat), H2, I2.tok _, ⟨_, rfl⟩, Post.ret wd2 (.val rfl (.int _)) p2⟩
    · rw [if_neg c] at p2
      exact p2.elim
  | _ => cases hx
/-! ### dict(pairs) -/
/-- the pairs of a list, as the library asks for them -/
abbrev QK (S : Sy) (G : Hp) (m : List Addr) : List (PV × PV) → List (NestedKey × Addr × Value) → Prop := Paired fun kv p => p.1 = nkey kv.1 ∧ keyT kv.1 = true ∧ Rep S G m kv.1 (.ref p.2.1) ∧ ∃ v, Rep S G m kv.2 v ∧ RelV v p.2.2
theorem pairs_spec {pins : List (Addr × Obj)} {σ : L2.St} {H G : Hp} {m : List Addr} {s : Shared} (I : Inv X pins σ H s) (le : ∀ b o, G b = some o → H b = some o) : ∀ {xs : List PV} {ws : List V} {its : List Value} {kvs : List (PV × PV)}, Reps (sy X T) G m xs ws → Vals ws its → pairsOf xs = some kvs → (∀ kv, kv ∈ kvs → keyT kv.1 = true) →
    ∃ (ts : List Addr) (q : List (NestedKey × Addr × Value)), its = ts.map Value.ref ∧ QK (sy X T) G m kvs q ∧ ts.length = q.length ∧ ∀ (j : Nat) (Tj : Addr) (p : NestedKey × Addr × Value), ts[j]? = some Tj → q[j]? = some p → s.heap.IsTuple Tj #[.ref p.2.1, p.2.2]
  | _, _, _, _, .nil, .nil, h, _ => by simp [pairsOf] at h; subst h; exact ⟨[], [], rfl, .nil, rfl, fun j _ _ e => by simp at e⟩
  | x :: xs, _, _, kvs, .cons r rr, .cons rv vv, h, hk => by
    cases x with
    | tup ys =>
      match ys, h, r with
      | [a, b], h, r =>
        simp only [pairsOf, Option.map_eq_some_iff] at h
        obtain ⟨kvs', h1, rfl⟩ := h
        obtain ⟨ts, q, e1, e2, e3, e4⟩ := pairs_spec I le rr vv h1 fun kv hkv => hk kv (List.mem_cons_of_mem _ hkv)
        have ka := hk (a, b) List.mem_cons_self
        cases r with
        | @tup ad _ vs g rs =>
          cases rv
          obtain ⟨its2, rv2, pl, _⟩ := I.tuple (sqT_mono le g)
          cases rs with
          | @cons _ _ v1 _ r1 rs =>
            cases rs with
            | @cons _ _ v2 _ r2 rs =>
              cases rs
              cases rv2 with
              | @cons _ u1 _ _ a1 rv2 =>
                cases rv2 with
                | @cons _ u2 _ _ a2 rv2 =>
                  cases rv2
                  cases a with
                  | tup zs =>
                    cases r1 with
                    | @tup kad _ _ g1 rz =>
                    cases a1
                    refine ⟨ad :: ts, (nkey (.tup zs), kad, u2) :: q, by rw [List.map_cons, ← e1], .cons ⟨rfl, ka, .tup g1 rz, _, r2, a2⟩ e2, by simp [e3], fun j Tj p e5 e6 => ?_⟩
                    cases j with
                    | zero =>
                      simp at e5 e6
                      subst e5 e6
                      exact pl
                    | succ j => exact e4 j Tj p (by simpa using e5) (by simpa using e6)
                  | _ => simp [keyT, isTup] at ka
      | [], h, _ => simp [pairsOf] at h
      | [_], h, _ => simp [pairsOf] at h
      | _ :: _ :: _ :: _, h, _ => simp [pairsOf] at h
    | _ => simp [pairsOf] at h
theorem QK.mem {S : Sy} {G : Hp} {m : List Addr} {kvs : List (PV × PV)} {q : List (NestedKey × Addr × Value)} (h : QK S G m kvs q) : ∀ p, p ∈ q → ∃ k, p.1 = nkey k ∧ keyT k = true ∧ Rep S G m k (.ref p.2.1) := by
  induction h with
  | nil => intro p hp; simp at hp
  | cons h t ih =>
    intro p hp
    rcases List.mem_cons.mp hp with e | hp
    · subst e; exact ⟨_, h.1, h.2.1, h.2.2.1⟩
    · exact ih p hp
theorem fold_put {S : Sy} {G : Hp} {m : List Addr} {kvs : List (PV × PV)} {q : List (NestedKey × Addr × Value)} (h : QK S G m kvs q) : ∀ {acc : List (PV × PV)} {es : List (NestedKey × Addr × V)} {xs : List (NestedKey × Addr × Value)}, RepsD S G m acc es → EsAre es xs →
    ∃ es', RepsD S G m (kvs.foldl (fun acc kv => putP acc kv.1 kv.2) acc) es' ∧ EsAre es' (storedAllH xs q) ∧ es'.length ≤ es.length + q.length := by
  induction h with
  | nil => intro acc es xs r e; exact ⟨es, r, e, by simp⟩
  | @cons kv p kvs q h t ih =>
    intro acc es xs r e
    obtain ⟨h1, h2, h3, v, h4, h5⟩ := h
    obtain ⟨es1, r1, e1, l1⟩ := put_of h2 h3 h4 h5 r e
    obtain ⟨es2, r2, e2, l2⟩ := ih r1 e1
    refine ⟨es2, r2, ?_, by rw [List.length_cons]; omega⟩
    unfold storedAllH
    rw [List.foldl_cons, h1]
    exact e2
theorem dict_P (hu : X.A.units + 200 < cLine) (hc : X.calm = true) : CallR X (.type "dict") (rC1 (sy X T) .F (b1P .dict)) := by
  intro pins s σ H xs us Q I r h
  obtain ⟨G, m, st, a, x, rfl, wd, ra, h⟩ := h
  cases a with
  | lst ys =>
    obtain ⟨l, ws, rfl, hl1, _, rr⟩ := ra.lst' wd
    obtain ⟨u, rfl, ru⟩ := vals1 r
    cases ru
    cases q : pairsOf ys with
    | none => rw [show b1P .dict (.lst ys) = none by simp only [b1P]; rw [q]; rfl] at h; exact h.elim
    | some kvs =>
      by_cases c : kvs.all (fun kv => keyT kv.1) = true
      · rw [show b1P .dict (.lst ys) = some (.dct (kvs.foldl (fun acc kv => putP acc kv.1 kv.2) [])) by simp only [b1P]; rw [q]; exact if_pos c] at h
        have hk : ∀ kv, kv ∈ kvs → keyT kv.1 = true := fun kv hkv => List.all_eq_true.mp c kv hkv
        obtain ⟨its, rv, pl, hz⟩ := I.list (.inl (.inl hl1))
        have le : ∀ b o, G b = some o → H b = some o := fun b o q => (wd.le b o q).1
        obtain ⟨ts, ps, e1, e2, e3, e4⟩ := pairs_spec I le rr rv q hk
        subst e1
        have hlen : ps.length ≤ sizeLine := by
          rw [← e3]
          have := rv.length
          rw [List.length_map] at this
          omega
        obtain ⟨o, n, ho, hcl, hd, hdat⟩ := pl
        have hn : H s.heap.objs.size = none := I.hok.fresh (Nat.le_refl _)
        have P := PairArg.list (prog := X.prog) (w := X.w) l (ts.map Value.ref).toArray (fun j => ts.getD j 0) (ps.map fun p => (Value.ref p.2.1, p.2.2))
        refine call_dict_pairsH (knd := nestedKind X.prog X.w) (ps := ps) P (I.ok.hd hc) (show X.A.units + 1 + 1 + 8 < cLine by omega) ⟨⟨o, n, ho, hcl, hd, hdat⟩, by simp [e3], fun j k v hj => ?_⟩ ⟨by simp, fun i key v hr => ?_⟩ (fun h' kp p hp => ?_) (by simpa using hlen) fun h' tk hd' kp => ?_
        · rw [List.getElem?_map] at hj
          cases hp : ps[j]? with
          | none => rw [hp] at hj; cases hj
          | some p =>
            rw [hp] at hj
            cases hj
            have hjt : j < ts.length := by rw [e3]; exact (List.getElem?_eq_some_iff.mp hp).1
            have ht : ts[j]? = some ts[j] := List.getElem?_eq_getElem hjt
            refine ⟨by simp [List.getD_eq_getElem?_getD, ht], .inl ?_⟩
            have := e4 j ts[j] p ht hp
            simpa [List.getD_eq_getElem?_getD, ht] using this
        · have hr : (ps.map fun p => (Value.ref p.2.1, p.2.2))[i]? = some (key, v) := hr
          rw [List.getElem?_map] at hr
          cases hp : ps[i]? with
          | none => rw [hp] at hr; cases hr
          | some p =>
            rw [hp] at hr
            cases hr
            exact ⟨p.1, p.2.1, rfl, rfl⟩
        · obtain ⟨k, k1, k2, k3⟩ := e2.mem p hp
          rw [k1]
          have I2 : Inv X pins σ H { s with heap := h' } := I.kept (t' := s.toks) fun b o e => kp b o (Nat.ne_of_lt (Heap.lt_size e)) (by simp) e
          exact key_is I2 le k2 k3
        · obtain ⟨es', r1, r2, r3⟩ := fold_put e2 (.nil : RepsD (sy X T) G m [] []) (.nil : EsAre [] [])
          have hlo : (s.heap.objs.size == sysModules) = false := beq_eq_false_iff_ne.mpr (Ne.symm (Nat.ne_of_lt I.big))
          obtain ⟨o', ds, ep, f1, f2, f3, f4, f5, f6⟩ := hd'
          refine ⟨.ref s.heap.objs.size, upd H s.heap.objs.size (DctO X.prog X.w s.heap.objs.size es'), I.laid (t' := tk) (fun b o e => kp b o (by simp) e) (Nat.le_refl _) ⟨⟨by simp at r3; omega, hlo, _, r2, o', ds, ep, f1, f2, f3, f4, f6⟩, ⟨o', f1⟩, fun h1 h2 q st => ?_⟩, rfl, ?_⟩
          · obtain ⟨q1, q2, ys, q3, o', ds', ep', q4, q5⟩ := q
            exact ⟨q1, q2, ys, q3, o', ds', ep', st _ q4, q5⟩
          · exact fin_new (k := .F) wd h hn (.dct upd_same (wd.mnone hn) (wd.Gnone hn) hn r1)
      · rw [show b1P .dict (.lst ys) = none by simp only [b1P]; rw [q]; exact if_neg c] at h
        exact h.elim
  | _ => exact h.elim
end
end RP

/-! Fw18: {..}.get, sorted(set(..)). Own work. -/
namespace RP
open PySem PySem.Spec PyProof.Rows L2
section
variable {X : Cx} {T : List (Addr × Str)} {W : XK} {pos : Pos}
theorem de_litget {k1 k2 v1 v2 d : Str} {j1 j2 j3 j4 j5 : Nat} {p1 p2 p3 p4 p5 dp apos cpos : Pos} {a : Expr} {da : Fm → M PV} (hu : X.A.units + 200 < cLine) (ha : PE X a (tD (sy X T) .E W da)) (hne : eqS k1 k2 = false)
    (m : M2 X (.Dict [some (.Constant (.str k1) j1 p1), some (.Constant (.str k2) j2 p2)] [.Constant (.str v1) j3 p3, .Constant (.str v2) j4 p4] dp) "get" apos a (.Constant (.str d) j5 p5) cpos) :
    PE X (.Call (.Attribute (.Dict [some (.Constant (.str k1) j1 p1), some (.Constant (.str k2) j2 p2)] [.Constant (.str v1) j3 p3, .Constant (.str v2) j4 p4] dp) "get" apos) [a, .Constant (.str d) j5 p5] [] cpos)
      (tD (sy X T) .F W fun r => bnd (da r) fun x => opt (litP [(k1, v1), (k2, v2)] d x)) := by
  have hk : k1 ≠ k2 := fun e => by rw [e, eqS_iff] at hne; simp at hne
  refine (pe_dget2 (by omega) (pe_disp (pps_cons pe_str pe_str (pps_cons pe_str pe_str pps_nil)) rfl rfl (by simp) (by simp)) ha pe_str m).imp fun σ H Q ⟨G, mm, st, H₀, r, at0, p⟩ => ?_
  intro d0 hn
  have hl : upd H d0 (.dK []) d0 = some (.dK []) := upd_same
  refine ⟨hl, [(.inr k1, .str v1), (.inr k2, .str v2)], rfl, by simp, ?_⟩
  have e0 : mergeK [] [((.inr k1 : Key), V.str v1), (.inr k2, .str v2)] = [((.inr k1 : Key), V.str v1), (.inr k2, .str v2)] := by
    simp [mergeK, putK, hk]
  rw [e0, upd_upd]
  have e1 := at0.1.newExt (o := .dK [((.inr k1 : Key), V.str v1), (.inr k2, .str v2)]) hn
  have hd : upd H d0 (.dK [((.inr k1 : Key), V.str v1), (.inr k2, .str v2)]) d0 = some (.dK [((.inr k1 : Key), V.str v1), (.inr k2, .str v2)]) := upd_same
  refine ⟨d0, rfl, .inl ⟨_, .inl hd⟩, G, mm, st, H₀, r, ⟨at0.1.new hn, at0.2.ext e1⟩, Post.stepB p e1 fun x s2 G2 m2 H2 u e2 wd2 rx p2 => ?_⟩
  have h2 : H2 d0 = some (.dK [((.inr k1 : Key), V.str v1), (.inr k2, .str v2)]) := e2.keep _ _ hd (at0.1.mnone hn) (fun _ z => nomatch z)
  cases x with
  | str z =>
    cases rx
    refine ⟨_, .inl ⟨_, .inr z, .inl h2, rfl, rfl⟩, ?_⟩
    have e12 := e1.trans e2
    have p2 : Post (sy X T) (RepM (sy X T) .F) G mm H (RP.ret (.str (litF d [(k1, v1), (k2, v2)] z)) s2) Q W := p2
    have p3 := p2 G2 m2 H2 _ e12 wd2 (.val rfl (.str _))
    have e : valV [((.inr k1 : Key), V.str v1), (.inr k2, .str v2)] (.inr z) = if k1 = z then some (.str v1) else if k2 = z then some (.str v2) else none := by
      by_cases c1 : k1 = z
      · rw [valV_pos (by simp [c1]), if_pos c1]
      · rw [valV_neg (by simp [c1]), if_neg c1]
        by_cases c2 : k2 = z
        · rw [valV_pos (by simp [c2]), if_pos c2]
        · rw [valV_neg (by simp [c2]), valV_nil, if_neg c2]
    have e2 : litF d [(k1, v1), (k2, v2)] z = if k1 = z then v1 else if k2 = z then v2 else d := by
      simp only [litF, eqS_iff, decide_eq_true_eq]
    rw [e]
    rw [e2] at p3
    by_cases c1 : k1 = z
    · rw [if_pos c1] at p3 ⊢; exact p3
    · rw [if_neg c1] at p3 ⊢
      by_cases c2 : k2 = z
      · rw [if_pos c2] at p3 ⊢; exact p3
      · rw [if_neg c2] at p3 ⊢; exact p3
  | _ => exact p2.elim
end

end RP

/-! Fw19: sorted(set(..)). Own work. -/
namespace RP
open PySem PySem.Spec PyProof.Rows L2
/-! ### sorted(set(..)) -/
section
variable {P : Program} {w : World} {A : Around} {E : Value → Shared → Prop} {s : Shared}
open PySem.W in
set_option maxHeartbeats 3200000 in
theorem call_set_lstI {l : Addr} {items : Array Value} (ns : List Int) {Q : Value → Shared → Prop} (hh : A.handled = none) (hl : s.heap.IsList l items) (hit : IntsAre items.toList ns) (hb : ns.length + 1 < scanBound)
    (h : ∀ (h' : Heap) (tk c : Nat), SetR w h' s.heap.objs.size (fun j => decide (j ∈ ns)) c → c ≤ ns.length → (∀ b o, s.heap.get? b = some o → h'.get? b = some o) → Q (.ref s.heap.objs.size) { s with heap := h', toks := tk }) :
    wpAny (model P w) A (call (.type "set") [.ref l]) Q E s := by
  have hisz : items.size = ns.length := by
    have q := IntsAre.length hit
    rw [Array.length_toList] at q
    exact q
  obtain ⟨c, tl, hmro⟩ := F.called_set.mro
  have hmade := F.called_set.made
  have hsub := F.called_set.sub
  refine wpAny_call (codeAny_of_tree ?_)
  show wpAny _ _ (callAny (.type "set") _) _ _ _
  refine wpAny_pure ⟨Code.quiet_builtin _ (by decide +kernel), codeAny_builtin F.entry_type_call ?_⟩
  rw [Around.under_plain (weight_type_call_type "set" [.ref l] []) rfl]
  have h1 := F.called_set.notType
  have h2 := F.called_set.canCreate
  have hct := F.typeCall_set_1 (.ref l)
  repeat (any_goals (first | assumption | wp_step))
  refine codeAny_mono (code_set_led1 (.ref l) (E := E) (Q₁ := fun obj s₁ => obj = .ref s.heap.objs.size ∧ s₁ = { s with heap := s.heap.push { cls := .type "set", dict := none, data := .set #[] 0 (.fresh 0 0 (!w.params.followText "set-order")) } }) ⟨rfl, rfl⟩) fun r s₁ hr => ?_
  cases r with
  | error e => exact hr
  | ok fl =>
    cases fl with
    | ret obj =>
      obtain ⟨rfl, rfl⟩ := hr
      have hS : (s.heap.push { cls := .type "set", dict := none, data := .set #[] 0 (.fresh 0 0 (!w.params.followText "set-order")) }).get? s.heap.objs.size = some { cls := .type "set", dict := none, data := .set #[] 0 (.fresh 0 0 (!w.params.followText "set-order")) } := Heap.get?_push_size _ rfl
      have hT : Shared.TypeIs { s with heap := s.heap.push { cls := .type "set", dict := none, data := .set #[] 0 (.fresh 0 0 (!w.params.followText "set-order")) } } (.ref s.heap.objs.size) "set" := ⟨_, hS, rfl⟩
      have hli := F.called_set.init.lookup
      have hbi := F.called_set.init.bind (.ref s.heap.objs.size)
      repeat (any_goals (first | assumption | wp_step))
      refine codeAny_mono (codeAny_call_builtin (R := wants (fun r s₂ => r = .none ∧ ∃ h' tk c, s₂ = { s with heap := h', toks := tk } ∧ SetR w h' s.heap.objs.size (fun j => decide (j ∈ ns)) c ∧ c ≤ ns.length ∧
          (∀ b o, s.heap.get? b = some o → h'.get? b = some o)) E) F.called_set.init.plain F.entry_set_init (check_set_init_1 hT ?_)) fun r₂ s₂ hr₂ => ?_
      · obtain ⟨ol, hol, hcl, nl, hdl⟩ := hl
        obtain ⟨ocls, odict, odata, oslots⟩ := ol
        simp only at hcl hdl
        subst hcl; subst hdl
        have hol' : (s.heap.push { cls := .type "set", dict := none, data := .set #[] 0 (.fresh 0 0 (!w.params.followText "set-order")) }).get? l = some { cls := .type "list", dict := odict, data := .seq items nl, slots := oslots } := Heap.get?_push_of_some _ hol
        have hsls := F.sub_list_set
        have hslf := F.sub_list_frozenset
        have hne : (Value.type "list" == Value.type "dict") = false := by decide
        have hl1 : (s.heap.push { cls := .type "set", dict := none, data := .set #[] 0 (.fresh 0 0 (!w.params.followText "set-order")) }).IsList l items := ⟨_, hol', rfl, nl, rfl⟩
        unfold Builtin.«set.__init__» noKeywords Builtin.Frozenset.updateFrom
        generalize hPI : pyIter = PI
        wp_walk
        subst hPI
        refine wpAny_pyIter_list hl1 ?_
        refine wpAny_bind (wpAny_runValue ?_)
        have hlS : l < s.heap.objs.size := Heap.lt_size hol
        have hh3 : A.in1.in1.in1.handled = none := by simp [hh]
        have hneI : l ≠ (s.heap.push { cls := .type "set", dict := none, data := .set #[] 0 (.fresh 0 0 (!w.params.followText "set-order")) }).objs.size := by
          rw [Heap.size_push]; exact Nat.ne_of_lt (Nat.lt_succ_of_lt hlS)
        have hSf : s.heap.objs.size ∉ [(s.heap.push { cls := .type "set", dict := none, data := .set #[] 0 (.fresh 0 0 (!w.params.followText "set-order")) }).objs.size, l] := by
          rw [Heap.size_push]; simp only [List.mem_cons, List.mem_singleton, List.not_mem_nil, or_false, not_or]
          exact ⟨Nat.ne_of_lt (Nat.lt_succ_self _), Nat.ne_of_gt hlS⟩
        have hval : ∀ (i : Nat) (v : Value), items[i]? = some v → ∃ k t, ns[i]? = some k ∧ v = .int k t := fun i v hv => by
          have hi : i < ns.length := by rw [← hisz]; exact (Array.getElem?_eq_some_iff.mp hv).1
          obtain ⟨t, e⟩ := PyProof.Rows.IntsAre.int_at hit i v (by rw [Array.getElem?_toList]; exact hv)
          refine ⟨ns[i], t, List.getElem?_eq_getElem hi, ?_⟩
          rw [e, List.getD_eq_getElem?_getD, List.getElem?_eq_getElem hi] <;> rfl
        refine set_update_ints ((Walks.list hh3 _ l hneI items).toS) s.heap.objs.size
          hSf ns hisz hb hval (items.size - 0) 0 _ (by omega) (Nat.zero_le _)
          ⟨⟨_, Heap.get?_push_size _ rfl, rfl, rfl⟩, (hl1.push _)⟩ ?hS0 ?hR
        case hS0 =>
          have hget : ((s.heap.push { cls := .type "set", dict := none, data := .set #[] 0 (.fresh 0 0 (!w.params.followText "set-order")) }).push { cls := .type "list_iterator", data := .fields #[.ref l, .int 0 0] }).get? s.heap.objs.size
              = some { cls := .type "set", dict := none, data := .set #[] 0 (.fresh 0 0 (!w.params.followText "set-order")) } := Heap.get?_push_of_some _ hS
          exact ⟨0, Nat.le_refl 0, setR_new_at hget⟩
        case hR =>
          intro s' c' hm hc' hS'
          obtain ⟨h', g2, d', tk', os'⟩ := s'
          have eg : g2 = s.gens := hm.gens
          have ed : d' = s.drawn := hm.drawn
          have eo : os' = s.os := hm.os
          subst eg; subst ed; subst eo
          show wpAny _ _ _ _ _ _
          refine wpAny_pure ?_
          show wpAny _ _ (PySem.ret Value.none) _ _ _
          rw [hisz] at hc'
          refine wpAny_pure ⟨rfl, h', tk', c', rfl, hS', hc', fun b o e => ?_⟩
          have hb0 : b < s.heap.objs.size := Heap.lt_size e
          have hb1 : b ≠ s.heap.objs.size := Nat.ne_of_lt hb0
          have hb2 : b ≠ (s.heap.push { cls := .type "set", dict := none, data := .set #[] 0 (.fresh 0 0 (!w.params.followText "set-order")) }).objs.size := by
            rw [Heap.size_push]; exact Nat.ne_of_lt (Nat.lt_succ_of_lt hb0)
          exact hm.heap b o (by simp only [List.mem_cons, List.mem_singleton, List.not_mem_nil, or_false, not_or]; exact ⟨hb1, hb2⟩) (Heap.get?_push_of_some _ (Heap.get?_push_of_some _ e))
      · cases r₂ with
        | error e => exact hr₂
        | ok fl₂ =>
          cases fl₂ with
          | ret r =>
            obtain ⟨rfl, h', tk, c', rfl, hS', hc', hk'⟩ := hr₂
            repeat (any_goals (first | assumption | wp_step))
            exact h _ _ _ hS' hc' hk'
          | _ => exact hr₂.elim
    | _ => exact hr.elim
end
end RP

/-! Fw20: sorted(set(..)). Own work. -/
namespace RP
open PySem PySem.Spec PyProof.Rows L2
/-! ### what such a list is -/
theorem insU_mem (k : Int) : ∀ (l : List Int) (j : Int), j ∈ insU k l ↔ j = k ∨ j ∈ l
  | [], j => by simp [insU]
  | y :: ys, j => by
    unfold insU
    by_cases c : k < y
    · rw [if_pos c]; simp
    · rw [if_neg c]
      by_cases c2 : k = y
      · rw [if_pos c2]; subst c2; simp
      · rw [if_neg c2, List.mem_cons, insU_mem k ys j, List.mem_cons]
        constructor
        · rintro (h | h | h)
          · exact .inr (.inl h)
          · exact .inl h
          · exact .inr (.inr h)
        · rintro (h | h | h)
          · exact .inr (.inl h)
          · exact .inl h
          · exact .inr (.inr h)
theorem insU_pw (k : Int) : ∀ (l : List Int), l.Pairwise (· < ·) → (insU k l).Pairwise (· < ·)
  | [], _ => by simp [insU]
  | y :: ys, h => by
    obtain ⟨h1, h2⟩ := List.pairwise_cons.mp h
    unfold insU
    by_cases c : k < y
    · rw [if_pos c]
      refine List.pairwise_cons.mpr ⟨fun j hj => ?_, h⟩
      rcases List.mem_cons.mp hj with e | e
      · omega
      · have := h1 j e; omega
    · rw [if_neg c]
      by_cases c2 : k = y
      · rw [if_pos c2]; exact h
      · rw [if_neg c2]
        refine List.pairwise_cons.mpr ⟨fun j hj => ?_, insU_pw k ys h2⟩
        rcases (insU_mem k ys j).mp hj with e | e
        · omega
        · exact h1 j e
theorem setI_spec : ∀ ns : List Int, (setI ns).Pairwise (· < ·) ∧ ∀ k, k ∈ setI ns ↔ k ∈ ns
  | [] => ⟨List.Pairwise.nil, fun k => by simp [setI]⟩
  | n :: ns => by
    obtain ⟨h1, h2⟩ := setI_spec ns
    refine ⟨insU_pw n _ h1, fun k => ?_⟩
    show k ∈ insU n (setI ns) ↔ _
    rw [insU_mem, h2, List.mem_cons]
theorem pw_uniq : ∀ {a b : List Int}, a.Pairwise (· < ·) → b.Pairwise (· < ·) → (∀ k, k ∈ a ↔ k ∈ b) → a = b
  | [], [], _, _, _ => rfl
  | [], y :: b, _, _, h => absurd ((h y).mpr List.mem_cons_self) (by simp)
  | x :: a, [], _, _, h => absurd ((h x).mp List.mem_cons_self) (by simp)
  | x :: a, y :: b, ha, hb, h => by
    obtain ⟨a1, a2⟩ := List.pairwise_cons.mp ha
    obtain ⟨b1, b2⟩ := List.pairwise_cons.mp hb
    have e : x = y := by
      rcases List.mem_cons.mp ((h x).mp List.mem_cons_self) with e | e
      · exact e
      · rcases List.mem_cons.mp ((h y).mpr List.mem_cons_self) with e2 | e2
        · exact e2.symm
        · have := b1 x e; have := a1 y e2; omega
    subst e
    rw [pw_uniq a2 b2 fun k => ?_]
    constructor
    · intro hk
      rcases List.mem_cons.mp ((h k).mp (List.mem_cons_of_mem _ hk)) with e | e
      · have := a1 k hk; omega
      · exact e
    · intro hk
      rcases List.mem_cons.mp ((h k).mpr (List.mem_cons_of_mem _ hk)) with e | e
      · have := b1 k hk; omega
      · exact e
theorem nodup_len {a b : List Int} (ha : a.Nodup) (hb : b.Nodup) (h : ∀ k, k ∈ a ↔ k ∈ b) : a.length = b.length :=
  ((List.perm_ext_iff_of_nodup ha hb).mpr h).length_eq
theorem setR_count {w : World} {h : Heap} {a : Addr} {ns : List Int} {c : Nat} (R : SetR w h a (fun j => decide (j ∈ ns)) c) : c = (setI ns).length := by
  obtain ⟨o, es, ep, t, _, _, _, _, nd, hm, _, _, hn, _⟩ := R
  obtain ⟨p1, p2⟩ := setI_spec ns
  have e := nodup_len nd (p1.imp fun {a b} h => (show a ≠ b by omega)) fun k => by
    rw [← hm k, p2 k]
    simp
  rw [← e, List.length_map, Array.length_toList, hn]
theorem ints_spec {S : Sy} {G : Hp} {m : List Addr} : ∀ {xs : List PV} {ws : List V} {ns : List Int}, Reps S G m xs ws → intsOf xs = some ns → ws = ns.map V.int
  | _, _, _, .nil, h => by simp [intsOf] at h; subst h; rfl
  | x :: xs, _, ns, .cons r rr, h => by
    cases x with
    | int i =>
      simp only [intsOf, Option.map_eq_some_iff] at h
      obtain ⟨ns', h1, rfl⟩ := h
      cases r
      rw [List.map_cons, ints_spec rr h1]
    | _ => simp [intsOf] at h
theorem reps_ints {S : Sy} {G : Hp} {m : List Addr} : ∀ ns : List Int, Reps S G m (ns.map .int) (ns.map V.int)
  | [] => .nil
  | n :: ns => .cons (.int n) (reps_ints ns)
section
variable {X : Cx} {T : List (Addr × Str)} {W : XK} {pos : Pos}
def rSetI (X : Cx) : List V → Hp → VK → Prop := fun vs H Q => ∃ (l : Addr) (ns : List Int), vs = [.ref l] ∧ (SqL X.K H l (ns.map V.int) ∨ L2.SqT X.K H l (ns.map V.int)) ∧ ns.length + 1 < scanBound ∧ ∀ p, H p = none → Q (.ref p) (upd H p (SetO X.w p (fun j => decide (j ∈ ns)) (setI ns).length))
theorem setC_P (hc : X.calm = true) : CallR X (.type "set") (rSetI X) := by
  intro pins s σ H vs us Q I r h
  obtain ⟨l, ns, rfl, hq, hb, q⟩ := h
  obtain ⟨u, rfl, ru⟩ := vals1 r
  cases ru
  rcases hq with hq | hq
  · obtain ⟨its, rv, pl, hz⟩ := I.list hq
    refine call_set_lstI ns (I.ok.hd hc) pl.isList (by simpa using RZ.intsAre_vals rv) hb fun h' tk c R hc' kp => ?_
    rw [setR_count R] at R
    exact ⟨.ref s.heap.objs.size, _, I.laid (t' := tk) kp (Nat.le_refl _) (setO_new R), rfl, q _ (I.hok.fresh (Nat.le_refl _))⟩
  · obtain ⟨its, rv, ht, hz⟩ := I.tuple hq
    refine call_set_tupI ns (I.ok.hd hc) ht (by simpa using RZ.intsAre_vals rv) hb fun h' tk c R hc' kp => ?_
    rw [setR_count R] at R
    exact ⟨.ref s.heap.objs.size, _, I.laid (t' := tk) kp (Nat.le_refl _) (setO_new R), rfl, q _ (I.hok.fresh (Nat.le_refl _))⟩
end
end RP

/-! Tz1: a set whose members are keys of any depth: the search. Own work (the library's sets of tuples of whole numbers turned to keys of any depth). -/
namespace RP
open PySem PySem.Spec PyProof.Rows L2
abbrev NkIs (h : Heap) (k : NestedKey) (a : Addr) : Prop := NestedIs h k (.ref a) ∧ k.depth ≤ 8
/-- asked whether a class statement made it: no -/
def NoCls (P : Program) (w : World) (n : Nat) (s : Shared) (v : Value) : Prop := ∀ (A : Around) (E : Value → Shared → Prop) (Q : Bool → Shared → Prop), Q false s → wpAny (model P w) A (ofAClassStatement n v) Q E s
/-- asked whether its hash goes by value: some answer -/
def HasBy (P : Program) (w : World) (n : Nat) (s : Shared) (v : Value) : Prop := ∀ (A : Around) (E : Value → Shared → Prop) (Q : Bool → Shared → Prop), (∀ b, Q b s) → wpAny (model P w) A (hashByValue n v) Q E s
section
variable {P : Program} {w : World}
theorem NoCls.tuple {n : Nat} {s : Shared} {a : Addr} {o : Obj} {vs : Array Value} {m : Nat} (ho : s.heap.get? a = some o) (hc : o.cls = .type "tuple") (hd : o.data = .seq vs m) (hq : ∀ v ∈ vs.toList, NoCls P w n s v) : NoCls P w (n + 1) s (.ref a) := fun A E Q h => by
  unfold ofAClassStatement
  refine wpAny_bind (wpAny_typeOf (T := "tuple") ⟨o, ho, hc⟩ ?_)
  dsimp only
  have e1 : (("tuple" : String) == "tuple") = true := by decide
  simp only [e1, if_true, Bool.not_true, Bool.false_eq_true, if_false]
  try refine wpAny_bind (wpAny_pure ?_)
  try simp only [Bool.not_true, Bool.false_eq_true, if_false]
  show wpAny _ _ (seqItems? (.ref a) >>= _) _ _ s
  refine wpAny_bind (wpAny_seqItems ho hd ?_)
  dsimp only
  refine wpAny_bind ?_
  show wpAny _ _ (forIn vs _ _) _ _ s
  rw [← Array.forIn_toList]
  refine wpAny_forIn_list _ (fun left r s1 => r.1 = none ∧ s1 = s ∧ ∀ v ∈ left, NoCls P w n s v) _ ?_ ?_ _ _ ⟨rfl, rfl, hq⟩
  · rintro v left r s1 ⟨hr, rfl, all⟩
    refine wpAny_bind (all v List.mem_cons_self _ _ _ ?_)
    simp only [Bool.false_eq_true, if_false]
    exact wpAny_pure ⟨rfl, rfl, fun u hu => all u (List.mem_cons_of_mem _ hu)⟩
  · rintro ⟨r1, r2⟩ s1 ⟨hr, rfl, _⟩
    simp only at hr
    subst hr
    exact wpAny_pure h
theorem HasBy.tuple {n : Nat} {s : Shared} {a : Addr} {o : Obj} {vs : Array Value} {m : Nat} (ho : s.heap.get? a = some o) (hc : o.cls = .type "tuple") (hd : o.data = .seq vs m) (hq : ∀ v ∈ vs.toList, HasBy P w n s v) : HasBy P w (n + 1) s (.ref a) := fun A E Q h => by
  unfold hashByValue
  refine wpAny_bind (wpAny_specialOf (T := "tuple") ⟨o, ho, hc⟩ F.slot_tuple_hash.lookup ?_)
  show wpAny _ _ (seqItems? (.ref a) >>= _) _ _ s
  refine wpAny_bind (wpAny_seqItems ho hd ?_)
  refine wpAny_bind ?_
  show wpAny _ _ (forIn vs _ _) _ _ s
  rw [← Array.forIn_toList]
  refine wpAny_forIn_list _ (fun left r s1 => r.1 = none ∧ s1 = s ∧ ∀ v ∈ left, HasBy P w n s v) _ ?_ ?_ _ _ ⟨rfl, rfl, hq⟩
  · rintro v left r s1 ⟨hr, rfl, all⟩
    refine wpAny_bind (all v List.mem_cons_self _ _ _ fun b => ?_)
    cases b with
    | true =>
      simp only [Bool.not_true, Bool.false_eq_true, if_false]
      exact wpAny_pure ⟨rfl, rfl, fun u hu => all u (List.mem_cons_of_mem _ hu)⟩
    | false =>
      simp only [Bool.not_false, if_true]
      exact wpAny_pure (wpAny_pure (h false))
  · rintro ⟨r1, r2⟩ s1 ⟨hr, rfl, _⟩
    simp only at hr
    subst hr
    exact wpAny_pure (h true)
theorem NoCls.plain {n : Nat} {s : Shared} {v : Value} (h : ofAClassStatement n v = pure false) : NoCls P w n s v := fun A E Q q => by
  rw [h]
  exact wpAny_pure q
theorem HasBy.plain {n : Nat} {s : Shared} {v : Value} {b : Bool} (h : hashByValue n v = pure b) : HasBy P w n s v := fun A E Q q => by
  rw [h]
  exact wpAny_pure (q b)
mutual
theorem noCls_key : ∀ (k : NestedKey) (v : Value) (n : Nat) (s : Shared), NestedIs s.heap k v → k.depth ≤ n → NoCls P w n s v
  | .none, _, n, s, x, _ => by cases x; exact .plain (by cases n <;> rfl)
  | .num i, _, n, s, x, _ => by cases x <;> exact .plain (by cases n <;> rfl)
  | .text y, _, n, s, x, _ => by cases x; exact .plain (by cases n <;> rfl)
  | .tup ks, _, n, s, x, hn => by
    cases x with
    | tup hg hc hd hk =>
      simp only [NestedKey.depth] at hn
      cases n with
      | zero => omega
      | succ n => exact .tuple hg hc hd (noCls_keys ks _ n s hk (by omega))
theorem noCls_keys : ∀ (ks : List NestedKey) (vs : List Value) (n : Nat) (s : Shared), NestedAll s.heap ks vs → NestedKey.depthAll ks ≤ n → ∀ v ∈ vs, NoCls P w n s v
  | [], _, n, s, x, _, v, hv => by cases x; cases hv
  | k :: ks, _, n, s, x, hn, v, hv => by
    cases x with
    | cons x1 x2 =>
      simp only [NestedKey.depthAll] at hn
      rcases List.mem_cons.mp hv with e | hv
      · rw [e]; exact noCls_key k _ n s x1 (by omega)
      · exact noCls_keys ks _ n s x2 (by omega) v hv
end
mutual
theorem hasBy_key : ∀ (k : NestedKey) (v : Value) (n : Nat) (s : Shared), NestedIs s.heap k v → k.depth ≤ n → HasBy P w n s v
  | .none, _, n, s, x, _ => by cases x; exact .plain (b := true) (by cases n <;> rfl)
  | .num i, _, n, s, x, _ => by cases x <;> exact .plain (b := true) (by cases n <;> rfl)
  | .text y, _, n, s, x, _ => by cases x; exact .plain (b := false) (by cases n <;> rfl)
  | .tup ks, _, n, s, x, hn => by
    cases x with
    | tup hg hc hd hk =>
      simp only [NestedKey.depth] at hn
      cases n with
      | zero => omega
      | succ n => exact .tuple hg hc hd (hasBy_keys ks _ n s hk (by omega))
theorem hasBy_keys : ∀ (ks : List NestedKey) (vs : List Value) (n : Nat) (s : Shared), NestedAll s.heap ks vs → NestedKey.depthAll ks ≤ n → ∀ v ∈ vs, HasBy P w n s v
  | [], _, n, s, x, _, v, hv => by cases x; cases hv
  | k :: ks, _, n, s, x, hn, v, hv => by
    cases x with
    | cons x1 x2 =>
      simp only [NestedKey.depthAll] at hn
      rcases List.mem_cons.mp hv with e | hv
      · rw [e]; exact hasBy_key k _ n s x1 (by omega)
      · exact hasBy_keys ks _ n s x2 (by omega) v hv
end
end
section
variable {P : Program} {w : World} {A : Around} {E : Value → Shared → Prop} {s : Shared}
theorem seen_key {k : NestedKey} {b : Addr} {Q : Bool → Shared → Prop} (hk : NkIs s.heap k b) {ys : List Value} (hy : ∀ y ∈ ys, ∃ j c, y = Value.ref c ∧ NkIs s.heap j c) (h : Q false s) :
    wpAny (model P w) A (searchCouldBeSeen (.ref b) ys) Q E s := by
  unfold searchCouldBeSeen
  refine wpAny_bind ?_
  refine wpAny_forIn_list _ (fun left r s1 => r.1 = none ∧ s1 = s ∧ ∀ y ∈ left, ∃ j c, y = Value.ref c ∧ NkIs s.heap j c) _ ?_ ?_ _ _ ⟨rfl, rfl, hy⟩
  · rintro v left r s1 ⟨hr, rfl, all⟩
    obtain ⟨j, c, rfl, hc⟩ := all v List.mem_cons_self
    have more : ∀ y ∈ left, ∃ j c, y = Value.ref c ∧ NkIs s1.heap j c := fun u hu => all u (List.mem_cons_of_mem _ hu)
    dsimp only
    by_cases hv : (b == c || (carriedByValue (.ref b) && carriedByValue (.ref c))) = true
    · exact L2.wp_if_pos hv (wpAny_pure ⟨rfl, rfl, more⟩)
    · refine L2.wp_if_neg hv ?_
      refine wpAny_bind ((nestedKind P w).quiet hk ?_)
      simp only [Bool.not_true, Bool.false_eq_true, if_false]
      refine wpAny_bind ((nestedKind P w).quiet hc ?_)
      simp only [Bool.not_true, Bool.false_eq_true, if_false]
      refine wpAny_bind (noCls_key k _ 8 s1 hk.1 hk.2 _ _ _ ?_)
      simp only [Bool.false_eq_true, if_false]
      refine wpAny_bind (noCls_key j _ 8 s1 hc.1 hc.2 _ _ _ ?_)
      simp only [Bool.false_eq_true, if_false]
      exact wpAny_pure ⟨rfl, rfl, more⟩
  · rintro ⟨r1, r2⟩ s1 ⟨hr, rfl, _⟩
    simp only at hr
    subst hr
    exact wpAny_pure h
def rowsN (w : World) (L : List (Addr × NestedKey)) : List (Int × Value) := L.map fun p => (p.2.hash w, Value.ref p.1)
structure SetNR (w : World) (h : Heap) (a : Addr) (L : List (Addr × NestedKey)) (es : Array (Int × Value)) (ep : Nat) (t : SetTable) : Prop where
  ob : ∃ o, h.get? a = some o ∧ o.ExactSet ∧ o.data = .set es ep t
  rows : es.toList = rowsN w L
  tab : TabOk t (L.map fun p => p.2.hash w)
  nd : (L.map (·.2)).Nodup
  key : ∀ p ∈ L, NkIs h p.2 p.1
  led : w.params.followText "set-order" = true ∨ t.led = true
  room : L.length * 5 < t.mask * 3
  few : L.length < 76
variable {a : Addr} {L : List (Addr × NestedKey)} {es : Array (Int × Value)} {ep : Nat} {t : SetTable}
theorem rowsN_size (h : es.toList = rowsN w L) : es.size = L.length := by
  have q := congrArg List.length h
  unfold rowsN at q
  rw [Array.length_toList, List.length_map] at q
  exact q
theorem fitsN (hd : t.dummies = #[]) (h1 : t.place.size = es.size) (h2 : es.size ≤ t.mask) : t.fits es.size = true := by
  unfold SetTable.fits SetTable.fill
  rw [hd, Bool.and_eq_true, beq_iff_eq, decide_eq_true_eq]
  show t.place.size = es.size ∧ t.place.size + 0 ≤ t.mask
  omega
theorem SetNR.place (R : SetNR w s.heap a L es ep t) : t.place.size = L.length := by
  have q := R.tab.sz
  rw [List.length_map] at q
  exact q
theorem SetNR.fits (R : SetNR w s.heap a L es ep t) : t.fits es.size = true := by
  have h1 := R.place
  have h2 := rowsN_size R.rows
  have h3 := R.room
  exact fitsN R.tab.dm (by omega) (by omega)
theorem SetNR.entry (R : SetNR w s.heap a L es ep t) {i : Nat} {p : Addr × NestedKey} (h : L[i]? = some p) : es[i]? = some (p.2.hash w, Value.ref p.1) := by
  rw [← Array.getElem?_toList, R.rows]
  unfold rowsN
  rw [List.getElem?_map, h] <;> rfl
theorem SetNR.gw (R : SetNR w s.heap a L es ep t) : ¬ t.gaveWay = true := by
  unfold SetTable.gaveWay
  rw [mask_odd R.tab.mok]
  decide
/-- the n-th candidate of a search -/
abbrev wayP (m : Nat) (h : Int) (n : Nat) : SetTable.Probe := nth m (runAt m (SetTable.bits h % (m + 1)) (SetTable.bits h)) n
theorem nth_dummy (m : Nat) : ∀ (n : Nat) (p : SetTable.Probe), p.dummy = none → (nth m p n).dummy = none
  | 0, _, h => h
  | n + 1, p, h => by
    refine nth_dummy m n (adv m p) ?_
    unfold adv
    split <;> exact h
theorem wayP_add (m : Nat) (h : Int) (c q : Nat) : nth m (wayP m h c) q = wayP m h (c + q) := (nth_add m c _ q).symm
theorem seek (R : SetNR w s.heap a L es ep t) {x : Addr} {k : NestedKey} (hx : NkIs s.heap k x) (hu : A.units + 8 < cLine) {K : Nat} (hKf : K < 10 * SetTable.turns t.mask)
    (hK : way t.mask (k.hash w) K ∉ t.place.toList) (hKb : ∀ c, c < K → way t.mask (k.hash w) c ∈ t.place.toList) {Q : SetFound → Shared → Prop}
    (hin : k ∈ L.map (·.2) → Q (.there none) s) (hout : k ∉ L.map (·.2) → Q (.free (way t.mask (k.hash w) K) false) s) :
    ∀ (f c : Nat) (stand : Option SetTable.Probe), stand.getD (t.probeStart (k.hash w)) = wayP t.mask (k.hash w) c → c ≤ K → K - c < f →
      (∀ (i : Nat) p, L[i]? = some p → p.2 = k → ∃ d, c ≤ d ∧ d < K ∧ t.place.toList[i]? = some (way t.mask (k.hash w) d)) →
      wpAny (model P w) A (setSearchFrom a (.ref x) (k.hash w) true f stand) Q E s
  | 0, c, stand, _, _, hf, _ => absurd hf (Nat.not_lt_zero _)
  | f + 1, c, stand, hst, hc, hf, hre => by
    obtain ⟨o, ho, hex, hd⟩ := R.ob
    rw [setSearchFrom_succ]
    refine wpAny_bind (wpAny_setState_of ho hd R.fits ?_)
    dsimp only
    refine L2.wp_if_neg R.gw ?_
    try refine wpAny_bind (wpAny_pure ?_)
    have hnd : (wayP t.mask (k.hash w) c).dummy = none := nth_dummy t.mask c _ rfl
    have e1 : ∀ q, (nth t.mask (wayP t.mask (k.hash w) c) q).j = way t.mask (k.hash w) (c + q) := fun q => congrArg SetTable.Probe.j (wayP_add t.mask (k.hash w) c q)
    have spec := go_spec t R.tab.ris R.tab.dm (fun i => (es[i]?.map (·.1)).getD 0) (k.hash w) (10 * SetTable.turns t.mask) (K - c) _ hnd (by omega)
      (fun q hq => by rw [e1]; exact hKb (c + q) (by omega)) (by rw [e1, show c + (K - c) = K by omega]; exact hK)
    have hashAt : ∀ (i : Nat) p, L[i]? = some p → (fun i => (es[i]?.map (·.1)).getD 0) i = p.2.hash w := fun i p hp => by
      show (es[i]?.map (·.1)).getD 0 = _
      rw [R.entry hp] <;> rfl
    rcases spec with ⟨q, i, hq, hi, hh, hno, hpr⟩ | ⟨hno, hpr⟩
    · have hpr2 : t.probe (fun i => (es[i]?.map (·.1)).getD 0) (k.hash w) (stand.getD (t.probeStart (k.hash w))) = some (.candidate (way t.mask (k.hash w) (c + q)) i (wayP t.mask (k.hash w) (c + (q + 1)))) := by
        rw [hst, ← e1, ← wayP_add]
        exact hpr
      rw [hpr2]
      dsimp only
      rw [e1] at hi
      have hil : i < L.length := by
        have h1 : i < t.place.toList.length := (List.getElem?_eq_some_iff.mp hi).1
        have h2 := R.place
        rw [Array.length_toList] at h1
        omega
      have hp : L[i]? = some L[i] := List.getElem?_eq_getElem hil
      generalize hpe : L[i] = p at hp
      have hmem : p ∈ L := List.mem_of_getElem? hp
      have hpt := R.key p hmem
      have rest : wpAny (model P w) A (searchRest a (.ref x) (k.hash w) true f es t (way t.mask (k.hash w) (c + q)) i (wayP t.mask (k.hash w) (c + (q + 1)))) Q E s := by
        unfold searchRest
        rw [R.entry hp]
        dsimp only
        refine wpAny_bind (wpAny_holding ((nestedKind P w).eqBool hu hpt hx ?_))
        refine wpAny_bind (wpAny_setState_of ho hd R.fits ?_)
        dsimp only
        by_cases hkk : p.2 = k
        · refine L2.wp_if_pos (by simp [hkk]) ?_
          exact wpAny_pure (hin (List.mem_map.mpr ⟨p, hmem, hkk⟩))
        · refine L2.wp_if_neg (by simp [hkk]) ?_
          try refine wpAny_bind (wpAny_pure ?_)
          rw [sameMem]
          dsimp only
          have hsl : t.slot (way t.mask (k.hash w) (c + q)) = .live i := slot_live R.tab.ris hi
          simp only [if_true, hsl, R.entry hp]
          refine wpAny_bind (wpAny_isSame_ref_self (wpAny_bind (wpAny_pure ?_)))
          simp only [if_true]
          refine L2.wp_if_neg (by simp [hkk]) ?_
          refine seek R hx hu hKf hK hKb hin hout f (c + (q + 1)) _ rfl (by omega) (by omega) fun i0 p0 h0 hk0 => ?_
          obtain ⟨d, a1, a2, a3⟩ := hre i0 p0 h0 hk0
          refine ⟨d, ?_, a2, a3⟩
          rcases Nat.lt_or_ge d (c + q) with z | z
          · exfalso
            refine hno (d - c) i0 (by omega) (by rw [e1, show c + (d - c) = d by omega]; exact a3) ?_
            exact (hashAt i0 p0 h0).trans (congrArg (NestedKey.hash w) hk0)
          · rcases Nat.lt_or_ge (c + q) d with y | y
            · omega
            · exfalso
              have ec : d = c + q := Nat.le_antisymm y z
              rw [ec] at a3
              have s0 := slot_live R.tab.ris a3
              rw [hsl] at s0
              injection s0 with s0
              rw [← s0, hp] at h0
              exact hkk ((congrArg Prod.snd (Option.some.inj h0)).trans hk0)
      by_cases hl : t.led = true
      · refine L2.wp_if_neg (by simp [hl]) ?_
        try refine wpAny_bind (wpAny_pure ?_)
        exact rest
      · refine L2.wp_if_pos (by simp [hl]) ?_
        refine wpAny_bind (seen_key hx (fun y hy => ?_) ?_)
        · obtain ⟨e, he, ee⟩ := List.mem_map.mp hy
          have he1 : e ∈ es ∧ e.1 = k.hash w := by simpa using he
          have he2 : e ∈ es.toList := by simpa using he1.1
          rw [R.rows] at he2
          obtain ⟨p2, hp2, e2⟩ := List.mem_map.mp he2
          refine ⟨p2.2, p2.1, ?_, R.key p2 hp2⟩
          rw [← ee, ← e2]
        · refine L2.wp_if_neg (by decide) ?_
          try refine wpAny_bind (wpAny_pure ?_)
          exact rest
    · have hpr2 : t.probe (fun i => (es[i]?.map (·.1)).getD 0) (k.hash w) (stand.getD (t.probeStart (k.hash w))) = some (.empty (way t.mask (k.hash w) K) none) := by
        have e2 : way t.mask (k.hash w) K = (nth t.mask (wayP t.mask (k.hash w) c) (K - c)).j := by
          rw [e1, show c + (K - c) = K by omega]
        rw [hst, e2]
        exact hpr
      rw [hpr2]
      dsimp only
      refine wpAny_pure (hout fun hm => ?_)
      obtain ⟨p0, h0, hk0⟩ := List.mem_map.mp hm
      obtain ⟨i0, hi0, e0⟩ := List.getElem_of_mem h0
      have h00 : L[i0]? = some p0 := by rw [List.getElem?_eq_getElem hi0, e0]
      obtain ⟨d, a1, a2, a3⟩ := hre i0 p0 h00 hk0
      refine hno (d - c) i0 (by omega) (by rw [e1, show c + (d - c) = d by omega]; exact a3) ?_
      exact (hashAt i0 p0 h00).trans (congrArg (NestedKey.hash w) hk0)
theorem seek_at (R : SetNR w s.heap a L es ep t) {x : Addr} {k : NestedKey} (hx : NkIs s.heap k x) (hu : A.units + 8 < cLine) {Q : SetFound → Shared → Prop}
    (hin : k ∈ L.map (·.2) → Q (.there none) s)
    (hout : ∀ K, k ∉ L.map (·.2) → way t.mask (k.hash w) K ∉ t.place.toList → (∀ c, c < K → way t.mask (k.hash w) c ∈ t.place.toList) → Q (.free (way t.mask (k.hash w) K) false) s) :
    wpAny (model P w) A (setSearch a (.ref x) (k.hash w) true) Q E s := by
  have hroom := R.room
  obtain ⟨K, hKf, hK, hKb⟩ := R.tab.first (by rw [List.length_map]; omega) (k.hash w)
  have hbig : K < 100000 := by
    have : 10 * SetTable.turns t.mask ≤ 1420 := by
      unfold SetTable.turns
      rcases R.tab.mok with e | e | e <;> omega
    omega
  unfold setSearch
  refine seek R hx hu hKf hK hKb hin (fun hn => hout K hn hK hKb) 100000 0 none rfl (Nat.zero_le _) (by omega) fun i p hp hk => ?_
  have hi : (L.map fun p => p.2.hash w)[i]? = some (k.hash w) := by rw [List.getElem?_map, hp, ← hk] <;> rfl
  have hil : i < t.place.toList.length := by
    have h1 : i < L.length := (List.getElem?_eq_some_iff.mp hp).1
    have h2 := R.place
    rw [Array.length_toList]
    omega
  have hj := List.getElem?_eq_getElem hil
  obtain ⟨c, hc, e⟩ := R.tab.before hK hi hj
  exact ⟨c, Nat.zero_le _, hc, by rw [hj, e]⟩
end
end RP

/-! Tz2: a set whose members are keys of any depth: adding. Own work (the library's sets of tuples of whole numbers turned to keys of any depth). -/
namespace RP
open PySem PySem.Spec PyProof.Rows L2
section
variable {P : Program} {w : World} {A : Around} {E : Value → Shared → Prop} {s : Shared}
theorem nk_same {h h' : Heap} {k : NestedKey} {a b : Addr} {o : Obj} {es : Array (Int × Value)} {ep : Nat} {t : SetTable} (hb : NkIs h k b) (ho : h.get? a = some o) (hd : o.data = .set es ep t) (hs : Heap.SameBut a h h') : NkIs h' k b :=
  ⟨NestedIs.at (fun c oc vs n hc hv => by
    refine (hs.2 c fun e => ?_).trans hc
    subst e
    rw [ho] at hc
    cases hc
    rw [hd] at hv
    cases hv) k _ hb.1, hb.2⟩
theorem nk_keep {h h' : Heap} {k : NestedKey} {b : Addr} (x : NkIs h k b) (hk : ∀ c o, h.get? c = some o → h'.get? c = some o) : NkIs h' k b := ⟨NestedIs.at (fun c o _ _ e _ => hk c o e) k _ x.1, x.2⟩
theorem rowsN_put (L : List (Addr × NestedKey)) (p : Nat) (x : Addr) (k : NestedKey) : rowsN w (L.take p ++ (x, k) :: L.drop p) = (rowsN w L).take p ++ (k.hash w, Value.ref x) :: (rowsN w L).drop p := by
  unfold rowsN
  rw [List.map_append, List.map_cons, List.map_take, List.map_drop]
theorem filterMap_idx {α : Type} (L : List α) : (List.range L.length).filterMap (fun i => L[i]?) = L := by
  induction L with
  | nil => rfl
  | cons x L ih =>
    rw [List.length_cons, List.range_succ_eq_map, List.filterMap_cons_some (f := fun i => (x :: L)[i]?) (a := 0) (b := x) rfl, List.filterMap_map]
    exact congrArg (x :: ·) ih
theorem order_N (L : List (Addr × NestedKey)) (es : Array (Int × Value)) (order : Array Nat) (hr : es.toList = rowsN w L) (hp : order.toList.Perm (List.range L.length)) :
    ∃ Lz, (order.filterMap (es[·]?)).toList = rowsN w Lz ∧ Lz.Perm L ∧ (Lz.map fun p => p.2.hash w) = order.toList.map fun i => (es.map (·.1)).getD i 0 := by
  have hsz := rowsN_size hr
  have ent : ∀ i (h : i < L.length), es[i]? = some ((L[i]).2.hash w, Value.ref (L[i]).1) := fun i h => by
    rw [← Array.getElem?_toList, hr]
    unfold rowsN
    rw [List.getElem?_map, List.getElem?_eq_getElem h] <;> rfl
  have key : ∀ l : List Nat, (∀ i ∈ l, i < L.length) → l.filterMap (fun i => es[i]?) = rowsN w (l.filterMap fun i => L[i]?) ∧ ((l.filterMap fun i => L[i]?).map fun p => p.2.hash w) = l.map fun i => (es.map (·.1)).getD i 0 := by
    intro l
    induction l with
    | nil => intro _; exact ⟨rfl, rfl⟩
    | cons i l ih =>
      intro hl
      have hi := hl i List.mem_cons_self
      obtain ⟨e1, e2⟩ := ih fun j hj => hl j (List.mem_cons_of_mem _ hj)
      rw [List.filterMap_cons_some (ent i hi), List.filterMap_cons_some (List.getElem?_eq_getElem hi), e1, List.map_cons, List.map_cons, e2]
      refine ⟨rfl, ?_⟩
      have e5 : (es.map (·.1))[i]? = some ((L[i]).2.hash w) := by rw [Array.getElem?_map, ent i hi] <;> rfl
      have e4 : (es.map (·.1)).getD i 0 = (L[i]).2.hash w := by simp [Array.getD_eq_getD_getElem?, e5]
      rw [e4]
  obtain ⟨e1, e2⟩ := key order.toList fun i hi => List.mem_range.mp (hp.mem_iff.mp hi)
  refine ⟨order.toList.filterMap fun i => L[i]?, by first | (rw [Array.toList_filterMap]; exact e1) | simpa using e1, ?_, e2⟩
  have h1 := hp.filterMap (fun i => L[i]?)
  rw [filterMap_idx] at h1
  exact h1
variable {a : Addr} {L : List (Addr × NestedKey)} {es : Array (Int × Value)} {ep : Nat} {t : SetTable}
theorem relay_N {o : Obj} (ho : s.heap.get? a = some o) (hex : o.ExactSet) (hd : o.data = .set es ep t) (hrows : es.toList = rowsN w L) (hsz : t.place.size = es.size) (hdm : t.dummies = #[]) (hfl : es.size ≤ t.mask)
    (nd : (L.map (·.2)).Nodup) (key : ∀ p ∈ L, NkIs s.heap p.2 p.1) (ld : w.params.followText "set-order" = true ∨ t.led = true) (few : L.length < 76) {wanted M : Nat}
    (hw : SetTable.sizeAbove wanted - 1 = M) (hM : MaskOk M) (hw2 : SetTable.sizeAbove wanted ≤ 128) (hn : L.length * 5 < M * 3) {Q : Unit → Shared → Prop}
    (hQ : ∀ h' L' es' ep' t', Heap.SameBut a s.heap h' → SetNR w h' a L' es' ep' t' → L'.Perm L → Q () { s with heap := h' }) : wpAny (model P w) A (setRelay a wanted) Q E s := by
  have hsl := rowsN_size hrows
  obtain ⟨t2, order, e, hp, T, em, el, ep2, ed⟩ := relaid_ok t (hs := es.map (·.1)) (wanted := wanted) hw hM (by rw [Array.size_map, hsl]; omega)
  rw [Array.size_map, hsl] at hp
  obtain ⟨Lz, r1, r2, r3⟩ := order_N L es order hrows hp
  rw [← r3] at T
  have hs2 : (order.filterMap (es[·]?)).size = es.size := by rw [rowsN_size r1, hsl, r2.length_eq]
  rw [setRelay_eq]
  refine wpAny_bind (wpAny_setState_of ho hd (fitsN hdm hsz hfl) ?_)
  dsimp only
  refine wp_if_neg (by rw [sizeLine_eq]; omega) ?_
  try refine wpAny_bind (wpAny_pure ?_)
  rw [e]
  dsimp only
  refine wpAny_bind ?_
  refine wp_if_neg (by rw [hs2]; simp) ?_
  try refine wpAny_bind (wpAny_pure ?_)
  refine wpAny_pure ?_
  dsimp only
  refine wpAny_storeSet_of ho hd ?_ (by rw [hs2, hsl, sizeLine_eq]; omega)
  have sb : Heap.SameBut a s.heap (s.heap.update a (Obj.putSet (order.filterMap (es[·]?)) t2)) := Heap.SameBut.update ..
  refine hQ _ Lz (order.filterMap (es[·]?)) (ep + 1) t2 sb ?_ r2
  exact {
    ob := ⟨_, store_at ho hd, ⟨hex.1, hex.2.1, hex.2.2⟩, rfl⟩
    rows := r1
    tab := T
    nd := (r2.map (·.2)).nodup_iff.mpr nd
    key := fun p hpm => nk_same (key p (r2.mem_iff.mp hpm)) ho hd sb
    led := by rw [el]; exact ld
    room := by rw [r2.length_eq, em]; exact hn
    few := by rw [r2.length_eq]; exact few }
theorem add_N (R : SetNR w s.heap a L es ep t) {x : Addr} {k : NestedKey} (hx : NkIs s.heap k x) (hu : A.units + 8 < cLine) (hfew : L.length + 1 < 76) {Q : Bool → Shared → Prop}
    (hQ : ∀ b h' L' es' ep' t', Heap.SameBut a s.heap h' → SetNR w h' a L' es' ep' t' → (k ∈ L.map (·.2) → L' = L) → (k ∉ L.map (·.2) → L'.Perm ((x, k) :: L)) → Q b { s with heap := h' }) :
    wpAny (model P w) A (setAddHashed a (.ref x) (k.hash w)) Q E s := by
  obtain ⟨o, ho, hex, hd⟩ := R.ob
  have hsl := rowsN_size R.rows
  have hroom := R.room
  unfold setAddHashed
  refine wpAny_holding ?_
  rw [show (100000 : Nat) = 99999 + 1 from rfl, setAddHashedIn_succ]
  refine wpAny_bind (wpAny_setState_of ho hd R.fits ?_)
  dsimp only
  refine wp_if_neg (by simp [byScan, Value.scannable]) ?_
  try refine wpAny_bind (wpAny_pure ?_)
  refine wpAny_bind (seek_at R hx hu (fun hm => ?_) fun K hm hK hb => ?_)
  · dsimp only
    exact wpAny_pure (hQ false s.heap L es ep t (Heap.SameBut.refl a s.heap) R (fun _ => rfl) fun z => absurd hm z)
  · dsimp only
    refine wpAny_bind (wpAny_setState_of ho hd R.fits ?_)
    dsimp only
    obtain ⟨q1, q2, q3, q4, q5, q6, q7, q8, q9⟩ := R.tab.put hK hb
    generalize hpt : t.put (way t.mask (k.hash w) K) = pt at q1 q3 q4 q5 q6 q7 q8 q9 ⊢
    obtain ⟨t1, p⟩ := pt
    dsimp only at q1 q3 q4 q5 q6 q7 q8 q9 ⊢
    subst q1
    have hin : (SetTable.insertAt es (SetTable.below t.place (way t.mask (k.hash w) K)) (k.hash w, Value.ref x)).toList = rowsN w (L.take (SetTable.below t.place (way t.mask (k.hash w) K)) ++ (x, k) :: L.drop (SetTable.below t.place (way t.mask (k.hash w) K))) := by
      rw [SetTable.toList_insertAt, rowsN_put, R.rows]
    generalize hpp : SetTable.below t.place (way t.mask (k.hash w) K) = p at q2 q3 hin ⊢
    have pm := put_perm L p (x, k)
    have hlen : (L.take p ++ (x, k) :: L.drop p).length = L.length + 1 := pm.length_eq
    have hhs : (L.take p ++ (x, k) :: L.drop p).map (fun p => p.2.hash w) = (L.map fun p => p.2.hash w).take p ++ k.hash w :: (L.map fun p => p.2.hash w).drop p := by
      rw [List.map_append, List.map_cons, List.map_take, List.map_drop]
    rw [← hhs] at q3
    have nd1 : ((L.take p ++ (x, k) :: L.drop p).map (·.2)).Nodup := by
      refine (pm.map (·.2)).nodup_iff.mpr ?_
      rw [List.map_cons]
      exact List.nodup_cons.mpr ⟨hm, R.nd⟩
    generalize SetTable.insertAt es p (k.hash w, Value.ref x) = es1 at hin ⊢
    have hes : es1.size = L.length + 1 := by rw [rowsN_size hin, hlen]
    generalize L.take p ++ (x, k) :: L.drop p = L1 at pm hlen q3 nd1 hin
    -- whatever is told of the hash, the table goes on alike
    have go : ∀ t2 : SetTable, t2.place = t1.place → t2.dummies = t1.dummies → t2.mask = t1.mask → t2.led = t1.led → t2.tooFull = t1.tooFull → TabOk t2 (L1.map fun p => p.2.hash w) →
        wpAny (model P w) A (do
          storeSet a es1 t2
          if !false && t2.tooFull then setRelay a (SetTable.grown (es.size + 1))
          return true) Q E s := by
      intro t2 g1 g2 g3 g4 g5 T2
      refine wpAny_bind (wpAny_storeSet_of ho hd ?_ (by rw [hes, sizeLine_eq]; omega))
      have sb : Heap.SameBut a s.heap (s.heap.update a (Obj.putSet es1 t2)) := Heap.SameBut.update ..
      have ho1 := store_at (es' := es1) (t' := t2) ho hd
      generalize s.heap.update a (Obj.putSet es1 t2) = h1 at sb ho1 ⊢
      have key1 : ∀ p ∈ L1, NkIs h1 p.2 p.1 := fun p hp => by
        rcases List.mem_cons.mp (pm.mem_iff.mp hp) with e | hp
        · rw [e]; exact nk_same hx ho hd sb
        · exact nk_same (R.key p hp) ho hd sb
      have ld1 : w.params.followText "set-order" = true ∨ t2.led = true := by rw [g4, q5]; exact R.led
      by_cases hf : t2.tooFull = true
      · first
          | (refine wpAny_bind ?_; refine wp_if_pos (by simp [hf]) ?_)
          | (refine wp_if_pos (by simp [hf]) ?_; refine wpAny_bind ?_)
        have hfull : (L.length + 1) * 5 ≥ t1.mask * 3 := by
          have h := hf
          rw [g5] at h
          unfold SetTable.tooFull at h
          rw [decide_eq_true_eq, q9, List.length_map] at h
          exact h
        rw [hsl]
        have hsz1 : t2.place.size = es1.size := by
          have h := T2.sz
          rw [List.length_map, hlen] at h
          rw [h, hes]
        have two : (t.mask = 7 ∧ L.length = 4) ∨ (t.mask = 31 ∧ L.length = 18) := by
          rcases R.tab.mok with e | e | e
          · left; rw [q4, e] at hfull; rw [e] at hroom; exact ⟨e, by omega⟩
          · right; rw [q4, e] at hfull; rw [e] at hroom; exact ⟨e, by omega⟩
          · exfalso; rw [q4, e] at hfull; omega
        have grow : ∀ M, SetTable.sizeAbove (SetTable.grown (L.length + 1)) - 1 = M → MaskOk M → SetTable.sizeAbove (SetTable.grown (L.length + 1)) ≤ 128 → (L.length + 1) * 5 < M * 3 →
            wpAny (model P w) A (setRelay a (SetTable.grown (L.length + 1))) (fun _ s' => wpAny (model P w) A (pure true) Q E s') E { s with heap := h1 } := fun M h1' h2' h3' h4' => by
          refine relay_N (s := { s with heap := h1 }) ho1 ⟨hex.1, hex.2.1, hex.2.2⟩ rfl hin hsz1 (by rw [g2]; exact q3.dm) (by rw [hes, g3, q4]; rcases two with ⟨e, e2⟩ | ⟨e, e2⟩ <;> omega) nd1 key1 ld1 (by rw [hlen]; exact hfew) h1' h2' h3' (by rw [hlen]; exact h4') ?_
          intro h2 Lz es2 ep2 t2 sb2 R2 pm2
          exact wpAny_pure (hQ true h2 Lz es2 ep2 t2 (sb.trans sb2) R2 (fun z => absurd z hm) fun _ => pm2.trans pm)
        rcases two with ⟨_, e2⟩ | ⟨_, e2⟩
        · exact grow 31 (by rw [e2, size_20]) (.inr (.inl rfl)) (by rw [e2, size_20]; decide) (by omega)
        · exact grow 127 (by rw [e2, size_76]) (.inr (.inr rfl)) (by rw [e2, size_76]; decide) (by omega)
      · first
          | refine wp_if_neg (by simp [hf]) ?_
          | (refine wpAny_bind ?_; refine wp_if_neg (by simp [hf]) ?_; refine wpAny_pure ?_)
        refine wpAny_pure (hQ true h1 L1 es1 (ep + 1) t2 sb ⟨⟨_, ho1, ⟨hex.1, hex.2.1, hex.2.2⟩, rfl⟩, hin, T2, nd1, key1, ld1, ?_, by rw [hlen]; exact hfew⟩ (fun z => absurd z hm) fun _ => pm)
        have h := hf
        rw [g5] at h
        unfold SetTable.tooFull at h
        rw [decide_eq_true_eq, q9, List.length_map] at h
        rw [hlen, g3]
        omega
    have tk2 : ∀ t2 : SetTable, t2.place = t1.place → t2.dummies = t1.dummies → t2.mask = t1.mask → TabOk t2 (L1.map fun p => p.2.hash w) := fun t2 g1 g2 g3 => by
      obtain ⟨u1, u2, u3, u4, u5, u6⟩ := q3
      constructor <;> simp only [g1, g2, g3] <;> assumption
    have ask : ∀ b : Bool, wpAny (model P w) A (do
        storeSet a es1 (if b = true then t1 else { t1 with plain := false })
        if !false && (if b = true then t1 else { t1 with plain := false }).tooFull then setRelay a (SetTable.grown (es.size + 1))
        return true) Q E s := fun b => by
      cases b with
      | true => exact go t1 rfl rfl rfl rfl rfl q3
      | false => exact go { t1 with plain := false } rfl rfl rfl rfl rfl (tk2 _ rfl rfl rfl)
    by_cases hpl : t1.plain = true
    · first
        | (refine wpAny_bind ?_; refine wp_if_pos hpl ?_; exact hasBy_key k _ 8 s hx.1 hx.2 _ _ _ ask)
        | exact wp_if_pos hpl (wpAny_bind (hasBy_key k _ 8 s hx.1 hx.2 _ _ _ ask))
    · first
        | (refine wpAny_bind ?_; refine wp_if_neg hpl ?_; exact wpAny_pure (ask true))
        | exact wp_if_neg hpl (wpAny_bind (wpAny_pure (ask true)))
end
end RP

/-! Tz3: set(list of keys of any depth). Own work (the library's sets of tuples of whole numbers turned to keys of any depth). -/
namespace RP
open PySem PySem.Spec PyProof.Rows L2
/-- what the set holds of the first i items -/
structure GotN (ks : List (Addr × NestedKey)) (i : Nat) (L : List (Addr × NestedKey)) : Prop where
  sub : ∀ p ∈ L, p ∈ ks.take i
  all : ∀ p ∈ ks.take i, p.2 ∈ L.map (·.2)
  len : L.length ≤ i
theorem GotN.same {ks L : List (Addr × NestedKey)} {i : Nat} {x : Addr × NestedKey} (g : GotN ks i L) (h : ks[i]? = some x) (hm : x.2 ∈ L.map (·.2)) : GotN ks (i + 1) L where
  sub := fun p hp => by
    rw [L2.take_next h]
    exact List.mem_append_left _ (g.sub p hp)
  all := fun p hp => by
    rw [L2.take_next h] at hp
    rcases List.mem_append.mp hp with z | z
    · exact g.all p z
    · rw [List.mem_singleton.mp z]; exact hm
  len := Nat.le_succ_of_le g.len
theorem GotN.more {ks L Lz : List (Addr × NestedKey)} {i : Nat} {x : Addr × NestedKey} (g : GotN ks i L) (h : ks[i]? = some x) (pm : Lz.Perm (x :: L)) : GotN ks (i + 1) Lz where
  sub := fun p hp => by
    rw [L2.take_next h]
    rcases List.mem_cons.mp (pm.mem_iff.mp hp) with e | z
    · rw [e]; exact List.mem_append_right _ (List.mem_singleton.mpr rfl)
    · exact List.mem_append_left _ (g.sub p z)
  all := fun p hp => by
    rw [(pm.map (·.2)).mem_iff, List.map_cons]
    rw [L2.take_next h] at hp
    rcases List.mem_append.mp hp with z | z
    · exact List.mem_cons_of_mem _ (g.all p z)
    · rw [List.mem_singleton.mp z]; exact List.mem_cons_self
  len := by
    rw [pm.length_eq, List.length_cons]
    exact Nat.succ_le_succ g.len
section
variable {P : Program} {w : World} {A : Around} {E : Value → Shared → Prop} {s : Shared}
theorem SetNR.keep {h h' : Heap} {a : Addr} {L : List (Addr × NestedKey)} {es : Array (Int × Value)} {ep : Nat} {t : SetTable} (R : SetNR w h a L es ep t) (ha : ∀ o, h.get? a = some o → h'.get? a = some o) (ht : ∀ p ∈ L, NkIs h' p.2 p.1) : SetNR w h' a L es ep t := by
  obtain ⟨o, ho, r⟩ := R.ob
  exact ⟨⟨o, ha o ho, r⟩, R.rows, R.tab, R.nd, ht, R.led, R.room, R.few⟩
abbrev newSet (w : World) : Obj := { cls := .type "set", dict := none, data := .set #[] 0 (.fresh 0 0 (!w.params.followText "set-order")) }
theorem setNR_fresh {h : Heap} {a : Addr} (ho : h.get? a = some (newSet w)) : SetNR w h a [] #[] 0 (.fresh 0 0 (!w.params.followText "set-order")) where
  ob := ⟨_, ho, ⟨rfl, rfl, rfl⟩, rfl⟩
  rows := rfl
  tab := ⟨List.Pairwise.nil, rfl, rfl, .inl rfl, fun x hx => (by cases hx), fun i h j hi => (by simp at hi)⟩
  nd := List.nodup_nil
  key := fun p hp => (by cases hp)
  led := by
    show _ ∨ (!w.params.followText "set-order") = true
    cases w.params.followText "set-order"
    · exact .inr rfl
    · exact .inl rfl
  room := by
    show 0 * 5 < 7 * 3
    decide
  few := by
    show 0 < 76
    decide
theorem update_N {I : Addr} {fp wr : List Addr} {G : Array GenState → Array GenState → Prop} {n : Nat} {Pv : Nat → Value → Prop} {St : Nat → Shared → Prop} {R : Result → Shared → Prop}
    (W : WalksS P w A.in1 I fp wr G n Pv St) (S : Addr) (hSf : S ∉ fp) (ks : List (Addr × NestedKey)) (hn : n = ks.length) (hfew : ks.length < 76) (hval : ∀ i v, Pv i v → ∃ p, ks[i]? = some p ∧ v = .ref p.1)
    (h0 : Heap) (hk : ∀ p ∈ ks, NkIs h0 p.2 p.1) (hS0 : h0.get? S = none) (hw0 : ∀ b ∈ wr, h0.get? b = none) (hu : A.in1.units + 8 < cLine) :
    ∀ (k i : Nat) (s : Shared), n - i = k → i ≤ n → St i s → (∀ b o, h0.get? b = some o → s.heap.get? b = some o) → (∃ L es ep t, SetNR w s.heap S L es ep t ∧ GotN ks i L) →
      (∀ s' L es ep t, Moved (S :: wr) G s s' → SetNR w s'.heap S L es ep t → GotN ks n L → (∀ b o, h0.get? b = some o → s'.heap.get? b = some o) → R (.ok (.ret .none)) s') →
      codeAny (model P w) A (.builtin "set.update.loop" ⟨[.ref S, .ref I], []⟩) R s := by
  have hSw : S ∉ wr := fun h => hSf (W.sub _ h)
  have hsub : ∀ b ∈ wr, b ∈ S :: wr := fun b hb => List.mem_cons_of_mem _ hb
  have kM : ∀ {s1 s2 : Shared}, Moved wr G s1 s2 → (∀ b o, h0.get? b = some o → s1.heap.get? b = some o) → ∀ b o, h0.get? b = some o → s2.heap.get? b = some o := fun hm hkp b o e =>
    hm.heap b o (fun hb => by rw [hw0 b hb] at e; cases e) (hkp b o e)
  intro k
  induction k with
  | zero =>
    intro i s hki hi hst hkp ⟨L, es, ep, t, hS, g⟩ hR
    obtain rfl : i = n := by omega
    refine codeAny_builtin F.entry_set_update_loop ?_
    rw [Around.under_plainId F.plain_set_update_loop _]
    show wpAny _ A.in1 (pyNext (.ref I) >>= _) _ _ s
    refine wpAny_bind (W.done s _ _ hst fun s1 hm => ?_)
    show wpAny _ A.in1 (PySem.ret Value.none) _ _ s1
    have hkp1 := kM hm hkp
    exact wpAny_pure (hR s1 L es ep t (hm.mono hsub) (hS.keep (fun o e => hm.heap S o hSw e) fun p hp => nk_keep (hk p (List.mem_of_mem_take (g.sub p hp))) hkp1) g hkp1)
  | succ k ih =>
    intro i s hki hi hst hkp ⟨L, es, ep, t, hS, g⟩ hR
    have hlt : i < n := by omega
    refine codeAny_builtin F.entry_set_update_loop ?_
    rw [Around.under_plainId F.plain_set_update_loop _]
    show wpAny _ A.in1 (pyNext (.ref I) >>= _) _ _ s
    refine wpAny_bind (W.item i s _ _ hlt hst fun v s1 hP hst1 hm => ?_)
    obtain ⟨p, hp, rfl⟩ := hval i v hP
    have hkp1 := kM hm hkp
    have hS1 : SetNR w s1.heap S L es ep t := hS.keep (fun o e => hm.heap S o hSw e) fun q hq => nk_keep (hk q (List.mem_of_mem_take (g.sub q hq))) hkp1
    have hx : NkIs s1.heap p.2 p.1 := nk_keep (hk p (List.mem_of_getElem? hp)) hkp1
    show wpAny _ A.in1 (holding [Value.ref p.1] (setAdd S (.ref p.1)) >>= _) _ _ s1
    refine wpAny_bind (wpAny_holding ?_)
    unfold setAdd
    refine wpAny_holding ?_
    refine wpAny_bind ((nestedKind P w).pyHash hu hx ?_)
    refine add_N (s := { s1 with toks := s1.toks + p.2.draws }) hS1 hx hu (by have := g.len; omega) fun b h2 Lz ez epz tz hsb hS2 c1 c2 => ?_
    have g2 : GotN ks (i + 1) Lz := by
      rcases Classical.em (p.2 ∈ L.map (·.2)) with c | c
      · rw [c1 c]; exact g.same hp c
      · exact g.more hp (c2 c)
    have hkp2 : ∀ b o, h0.get? b = some o → h2.get? b = some o := fun b o e => (hsb.2 b (fun z => by rw [z, hS0] at e; cases e)).trans (hkp1 b o e)
    refine wpAny_pure ⟨plainId_quiet F.plain_set_update_loop _, ih (i + 1) _ (by omega) hlt (W.frame _ s1 _ _ hst1 (Nat.le_add_right _ _) fun b hb o e => ?_) hkp2 ⟨Lz, ez, epz, tz, hS2, g2⟩ fun s3 L3 es3 ep3 t3 hm3 hS3 g3 hkp3 => ?_⟩
    · rw [hsb.2 b (fun h : b = S => hSf (by rw [← h]; exact hb))]; exact e
    · refine hR s3 L3 es3 ep3 t3 (Moved.trans W.gtrans ((hm.mono hsub).then_heap (Nat.le_add_right _ _) fun b o hb e => ?_) hm3) hS3 g3 hkp3
      rw [hsb.2 b (fun h : b = S => hb (by rw [h]; exact List.mem_cons_self))]; exact e
theorem none_above {h : Heap} {b : Addr} (hb : h.objs.size ≤ b) : h.get? b = none := by
  cases q : h.get? b with
  | none => rfl
  | some o => exact absurd (Nat.lt_of_lt_of_le (Heap.lt_size q) hb) (Nat.lt_irrefl _)
open PySem.W in
theorem call_set_N {l : Addr} {items : Array Value} (ks : List (Addr × NestedKey)) {Q : Value → Shared → Prop} (hh : A.handled = none) (hl : s.heap.IsList l items) (hit : items.toList = ks.map fun p => Value.ref p.1)
    (hk : ∀ p ∈ ks, NkIs s.heap p.2 p.1) (hfew : ks.length < 76) (hu : A.units + 11 < cLine)
    (h : ∀ (h' : Heap) (tk : Nat) L es ep t, SetNR w h' s.heap.objs.size L es ep t → GotN ks ks.length L → (∀ b o, s.heap.get? b = some o → h'.get? b = some o) → Q (.ref s.heap.objs.size) { s with heap := h', toks := tk }) :
    wpAny (model P w) A (call (.type "set") [.ref l]) Q E s := by
  have hisz : items.size = ks.length := by
    have q := congrArg List.length hit
    rw [Array.length_toList, List.length_map] at q
    exact q
  obtain ⟨c, tl, hmro⟩ := F.called_set.mro
  have hmade := F.called_set.made
  have hsub := F.called_set.sub
  refine wpAny_call (codeAny_of_tree ?_)
  show wpAny _ _ (callAny (.type "set") _) _ _ _
  refine wpAny_pure ⟨Code.quiet_builtin _ (by decide +kernel), codeAny_builtin F.entry_type_call ?_⟩
  rw [Around.under_plain (weight_type_call_type "set" [.ref l] []) rfl]
  have h1 := F.called_set.notType
  have h2 := F.called_set.canCreate
  have hct := F.typeCall_set_1 (.ref l)
  repeat (any_goals (first | assumption | wp_step))
  refine codeAny_mono (code_set_led1 (.ref l) (E := E) (Q₁ := fun obj s₁ => obj = .ref s.heap.objs.size ∧ s₁ = { s with heap := s.heap.push (newSet w) }) ⟨rfl, rfl⟩) fun r s₁ hr => ?_
  cases r with
  | error e => exact hr
  | ok fl =>
    cases fl with
    | ret obj =>
      obtain ⟨rfl, rfl⟩ := hr
      have hS : (s.heap.push (newSet w)).get? s.heap.objs.size = some (newSet w) := Heap.get?_push_size _ rfl
      have hT : Shared.TypeIs { s with heap := s.heap.push (newSet w) } (.ref s.heap.objs.size) "set" := ⟨_, hS, rfl⟩
      have hli := F.called_set.init.lookup
      have hbi := F.called_set.init.bind (.ref s.heap.objs.size)
      repeat (any_goals (first | assumption | wp_step))
      refine codeAny_mono (codeAny_call_builtin (R := wants (fun r s₂ => r = .none ∧ ∃ h' tk L es ep t, s₂ = { s with heap := h', toks := tk } ∧ SetNR w h' s.heap.objs.size L es ep t ∧ GotN ks ks.length L ∧
          (∀ b o, s.heap.get? b = some o → h'.get? b = some o)) E) F.called_set.init.plain F.entry_set_init (check_set_init_1 hT ?_)) fun r₂ s₂ hr₂ => ?_
      · obtain ⟨ol, hol, hcl, nl, hdl⟩ := hl
        obtain ⟨ocls, odict, odata, oslots⟩ := ol
        simp only at hcl hdl
        subst hcl; subst hdl
        have hol2 : (s.heap.push (newSet w)).get? l = some { cls := .type "list", dict := odict, data := .seq items nl, slots := oslots } := Heap.get?_push_of_some _ hol
        have hsls := F.sub_list_set
        have hslf := F.sub_list_frozenset
        have hne : (Value.type "list" == Value.type "dict") = false := by decide
        have hl1 : (s.heap.push (newSet w)).IsList l items := ⟨_, hol2, rfl, nl, rfl⟩
        unfold Builtin.«set.__init__» noKeywords Builtin.Frozenset.updateFrom
        generalize hPI : pyIter = PI
        wp_walk
        subst hPI
        refine wpAny_pyIter_list hl1 ?_
        refine wpAny_bind (wpAny_runValue ?_)
        have hlS : l < s.heap.objs.size := Heap.lt_size hol
        have hh3 : A.in1.in1.in1.handled = none := by simp [hh]
        have hsz1 : (s.heap.push (newSet w)).objs.size = s.heap.objs.size + 1 := Heap.size_push ..
        have hneI : l ≠ (s.heap.push (newSet w)).objs.size := by
          rw [hsz1]; exact Nat.ne_of_lt (Nat.lt_succ_of_lt hlS)
        have hSf : s.heap.objs.size ∉ [(s.heap.push (newSet w)).objs.size, l] := by
          rw [hsz1]; simp only [List.mem_cons, List.mem_singleton, List.not_mem_nil, or_false, not_or]
          exact ⟨Nat.ne_of_lt (Nat.lt_succ_self _), Nat.ne_of_gt hlS⟩
        have hval : ∀ (i : Nat) (v : Value), items[i]? = some v → ∃ p, ks[i]? = some p ∧ v = .ref p.1 := fun i v hv => by
          have q : items.toList[i]? = some v := by rw [Array.getElem?_toList]; exact hv
          rw [hit, List.getElem?_map] at q
          cases hq : ks[i]? with
          | none => rw [hq] at q; cases q
          | some p =>
            rw [hq] at q
            exact ⟨p, rfl, (Option.some.inj q).symm⟩
        refine update_N ((Walks.list hh3 _ l hneI items).toS) s.heap.objs.size
          hSf ks hisz hfew hval s.heap hk (none_above (Nat.le_refl _)) (fun b hb => none_above (by
            rw [List.mem_singleton.mp hb, hsz1]
            exact Nat.le_succ _)) hu (items.size - 0) 0 _ (by omega) (Nat.zero_le _)
          ⟨⟨_, Heap.get?_push_size _ rfl, rfl, rfl⟩, (hl1.push _)⟩ (fun b o e => Heap.get?_push_of_some _ (Heap.get?_push_of_some _ e)) ?hS0 ?hR
        case hS0 =>
          exact ⟨[], #[], 0, _, setNR_fresh (Heap.get?_push_of_some _ hS), fun p hp => (by cases hp), fun p hp => (by simp at hp), Nat.le_refl _⟩
        case hR =>
          intro s3 L es ep t hm hS3 g3 hkp
          obtain ⟨h3, g4, d3, tk3, os3⟩ := s3
          have eg : g4 = s.gens := hm.gens
          have ed : d3 = s.drawn := hm.drawn
          have eo : os3 = s.os := hm.os
          subst eg; subst ed; subst eo
          show wpAny _ _ _ _ _ _
          refine wpAny_pure ?_
          show wpAny _ _ (PySem.ret Value.none) _ _ _
          rw [hisz] at g3
          exact wpAny_pure ⟨rfl, h3, tk3, L, es, ep, t, rfl, hS3, g3, hkp⟩
      · cases r₂ with
        | error e => exact hr₂
        | ok fl₂ =>
          cases fl₂ with
          | ret r =>
            obtain ⟨rfl, h3, tk, L, es, ep, t, rfl, hS3, g3, hk3⟩ := hr₂
            repeat (any_goals (first | assumption | wp_step))
            exact h _ _ _ _ _ _ hS3 g3 hk3
          | _ => exact hr₂.elim
    | _ => exact hr.elim
end
end RP

/-! Fw20b: sorted(set(list of keys of any depth)). Own work. -/
namespace RP
open PySem PySem.Spec PyProof.Rows L2
theorem sort_uniq {α : Type} {le : α → α → Bool} : ∀ (l1 l2 : List α), l1.Perm l2 → l1.Pairwise (fun a b => le a b = true) → l2.Pairwise (fun a b => le b a = false) → l1 = l2
  | l1, [], p, _, _ => p.eq_nil
  | [], y :: l2, p, _, _ => absurd p.length_eq (by simp)
  | x :: l1, y :: l2, p, h1, h2 => by
    have c1 := List.pairwise_cons.mp h1
    have c2 := List.pairwise_cons.mp h2
    have e : x = y := by
      rcases List.mem_cons.mp (p.mem_iff.mp (List.mem_cons_self : x ∈ x :: l1)) with e | hx
      · exact e
      · rcases List.mem_cons.mp (p.mem_iff.mpr (List.mem_cons_self : y ∈ y :: l2)) with e | hy
        · exact e.symm
        · have a := c1.1 y hy
          have b := c2.1 x hx
          rw [a] at b
          cases b
    subst e
    rw [sort_uniq l1 l2 p.cons_inv c1.2 c2.2]
theorem perm_map_inv {α β : Type} (f : α → β) : ∀ (l : List β) (bs : List α), l.Perm (bs.map f) → ∃ cs : List α, cs.Perm bs ∧ l = cs.map f
  | [], bs, p => by
    have e : bs = [] := List.map_eq_nil_iff.mp p.symm.eq_nil
    exact ⟨[], by rw [e], rfl⟩
  | y :: l, bs, p => by
    obtain ⟨b, hb, e⟩ := List.mem_map.mp (p.mem_iff.mp (List.mem_cons_self : y ∈ y :: l))
    obtain ⟨s, t, rfl⟩ := List.append_of_mem hb
    have q : (f b :: l).Perm (f b :: (s ++ t).map f) := by
      rw [e]
      refine p.trans ?_
      rw [List.map_append, List.map_cons, List.map_append, e]
      exact List.perm_middle
    obtain ⟨cs, h1, h2⟩ := perm_map_inv f l (s ++ t) q.cons_inv
    refine ⟨b :: cs, (h1.cons b).trans List.perm_middle.symm, ?_⟩
    rw [List.map_cons, ← h2, e]
theorem zip_maps {α β : Type} : ∀ bs : List (α × β), (bs.map (·.1)).zip (bs.map (·.2)) = bs
  | [] => rfl
  | b :: bs => by rw [List.map_cons, List.map_cons, List.zip_cons_cons, zip_maps bs]
theorem zip_snd {S : Sy} {G : Hp} {m : List Addr} : ∀ {xs : List PV} {ws : List V}, Reps S G m xs ws → (xs.zip ws).map (·.2) = ws
  | _, _, .nil => rfl
  | _, _, .cons r rr => by rw [List.zip_cons_cons, List.map_cons, zip_snd rr]
mutual
theorem nkey_inj : ∀ (n : Nat) (x y : PV), keyOk n x = true → keyOk n y = true → nkey x = nkey y → x = y
  | n, .non, y, _, hy, h => by cases y <;> simp_all [nkey, keyOk]
  | n, .int a, y, _, hy, h => by cases y <;> simp_all [nkey, keyOk]
  | n, .str a, y, _, hy, h => by cases y <;> simp_all [nkey, keyOk]
  | 0, .tup a, y, hx, hy, h => by simp [keyOk] at hx
  | n + 1, .tup a, .tup b, hx, hy, h => by
    simp only [nkey, keyOk, NestedKey.tup.injEq] at *
    rw [nkeys_inj n a b hx hy h]
  | n + 1, .tup a, .non, hx, hy, h | n + 1, .tup a, .int _, hx, hy, h | n + 1, .tup a, .str _, hx, hy, h => by simp [nkey] at h
  | n + 1, .tup a, .bl _, hx, hy, h | n + 1, .tup a, .lst _, hx, hy, h | n + 1, .tup a, .rol _, hx, hy, h | n + 1, .tup a, .tpx _, hx, hy, h | n + 1, .tup a, .dct _, hx, hy, h | n + 1, .tup a, .ref _, hx, hy, h | n + 1, .tup a, .fn _, hx, hy, h => by simp [keyOk] at hy
  | n, .bl _, y, hx, _, _ | n, .lst _, y, hx, _, _ | n, .rol _, y, hx, _, _ | n, .tpx _, y, hx, _, _ | n, .dct _, y, hx, _, _ | n, .ref _, y, hx, _, _ | n, .fn _, y, hx, _, _ => by simp [keyOk] at hx
theorem nkeys_inj : ∀ (n : Nat) (x y : List PV), keyOks n x = true → keyOks n y = true → nkeys x = nkeys y → x = y
  | n, [], [], _, _, _ => rfl
  | n, [], _ :: _, _, _, h => by simp [nkeys] at h
  | n, _ :: _, [], _, _, h => by simp [nkeys] at h
  | n, a :: as, b :: bs, hx, hy, h => by
    simp only [keyOks, Bool.and_eq_true] at hx hy
    simp only [nkeys, List.cons.injEq] at h
    rw [nkey_inj n a b hx.1 hy.1 h.1, nkeys_inj n as bs hx.2 hy.2 h.2]
end
def vAd : V → Addr
  | .ref a => a
  | _ => 0
def kyd (b : PV × V) : Addr × NestedKey := (vAd b.2, nkey b.1)
/-- the set at a, without its members themselves -/
structure SetN0 (w : World) (h : Heap) (a : Addr) (L : List (Addr × NestedKey)) : Prop where
  ex : ∃ (es : Array (Int × Value)) (ep : Nat) (t : SetTable), (∃ o, h.get? a = some o ∧ o.ExactSet ∧ o.data = .set es ep t) ∧ es.toList = rowsN w L ∧ TabOk t (L.map fun p => p.2.hash w) ∧ (L.map (·.2)).Nodup ∧
    (w.params.followText "set-order" = true ∨ t.led = true) ∧ L.length * 5 < t.mask * 3 ∧ L.length < 76
def SetNO (w : World) (a : Addr) (L : List (Addr × NestedKey)) : HO := .ext fun h => SetN0 w h a L
theorem SetNR.n0 {w : World} {h : Heap} {a : Addr} {L : List (Addr × NestedKey)} {es : Array (Int × Value)} {ep : Nat} {t : SetTable} (R : SetNR w h a L es ep t) : SetN0 w h a L :=
  ⟨es, ep, t, R.ob, R.rows, R.tab, R.nd, R.led, R.room, R.few⟩
theorem SetN0.full {w : World} {h : Heap} {a : Addr} {L : List (Addr × NestedKey)} (R : SetN0 w h a L) (hk : ∀ p ∈ L, NkIs h p.2 p.1) : ∃ es ep t, SetNR w h a L es ep t := by
  obtain ⟨es, ep, t, h1, h2, h3, h4, h5, h6, h7⟩ := R.ex
  exact ⟨es, ep, t, h1, h2, h3, h4, hk, h5, h6, h7⟩
theorem setNO_new {P : Program} {w : World} {H : Hp} {h : Heap} {a : Addr} {L : List (Addr × NestedKey)} (R : SetN0 w h a L) : ObjOk P w H h a (SetNO w a L) := by
  have ⟨es, ep, t, ⟨o, ho, r⟩, q⟩ := R.ex
  refine ⟨R, ⟨o, ho⟩, fun h1 h2 p k => ?_⟩
  have ⟨ez, epz, tz, ⟨oz, hoz, rz⟩, qz⟩ := SetN0.ex p
  exact ⟨ez, epz, tz, ⟨oz, k oz hoz, rz⟩, qz⟩
theorem vals_kyd : ∀ {bs : List (PV × V)} {us : List Value}, (∀ b ∈ bs, ∃ a, b.2 = .ref a) → Vals (bs.map (·.2)) us → us = (bs.map kyd).map fun p => Value.ref p.1
  | [], _, _, .nil => rfl
  | b :: bs, _, h, .cons r t => by
    obtain ⟨a, e⟩ := h b List.mem_cons_self
    rw [List.map_cons, List.map_cons, ← vals_kyd (fun c hc => h c (List.mem_cons_of_mem _ hc)) t]
    have r : RelV b.2 _ := r
    rw [e] at r
    cases r
    show _ = Value.ref (vAd b.2) :: _
    rw [e]
    rfl
theorem kyd_vals : ∀ {bs : List (PV × V)}, (∀ b ∈ bs, ∃ a, b.2 = .ref a) → Vals (bs.map (·.2)) ((bs.map kyd).map fun p => Value.ref p.1)
  | [], _ => .nil
  | b :: bs, h => by
    obtain ⟨a, e⟩ := h b List.mem_cons_self
    refine .cons ?_ (kyd_vals fun c hc => h c (List.mem_cons_of_mem _ hc))
    show RelV b.2 (Value.ref (vAd b.2))
    rw [e]
    rfl
section
variable {X : Cx} {T : List (Addr × Str)} {pos : Pos} {pins : List (Addr × Obj)} {σ : L2.St} {H G : Hp} {m : List Addr} {s : Shared} {st : AS}
theorem key_ref {S : Sy} {x : PV} {v : V} (hk : keyT x = true) (r : Rep S G m x v) : ∃ a, v = .ref a := by
  unfold keyT at hk
  rw [Bool.and_eq_true] at hk
  cases x with
  | tup xs => cases r; exact ⟨_, rfl⟩
  | _ => exact absurd hk.1 (by simp [isTup])
theorem kl_nk (I : Inv X pins σ H s) (wd : Wd (sy X T) G m st H) {bs : List (PV × V)} (hr : ∀ b ∈ bs, Rep (sy X T) G m b.1 b.2) (hk : ∀ b ∈ bs, keyT b.1 = true) : ∀ p ∈ bs.map kyd, NkIs s.heap p.2 p.1 := fun p hp => by
  obtain ⟨b, hb, rfl⟩ := List.mem_map.mp hp
  obtain ⟨a, e⟩ := key_ref (hk b hb) (hr b hb)
  have r := hr b hb
  show NkIs s.heap (nkey b.1) (vAd b.2)
  rw [e] at r ⊢
  exact ⟨nested_of I (fun c o q => (wd.le c o q).1) 8 b.1 (.ref a) (.ref a) (keyT_key (hk b hb)) r rfl, nkey_depth 8 b.1 (keyT_key (hk b hb))⟩
def rSetN (X : Cx) (T : List (Addr × Str)) : List V → Hp → VK → Prop := fun vs H Q => ∃ (G : Hp) (m : List Addr) (st : AS) (l : Addr) (bs : List (PV × V)), vs = [.ref l] ∧ Wd (sy X T) G m st H ∧ H l = some (.lst (bs.map (·.2))) ∧
  (∀ b ∈ bs, Rep (sy X T) G m b.1 b.2) ∧ (∀ b ∈ bs, keyT b.1 = true) ∧ bs.length < 76 ∧ ∀ p L, H p = none → (∀ q ∈ L, q ∈ bs.map kyd) → (∀ q ∈ bs.map kyd, q.2 ∈ L.map (·.2)) → (L.map (·.2)).Nodup → Q (.ref p) (upd H p (SetNO X.w p L))
theorem setN_P (hc : X.calm = true) (hu : X.A.units + 200 < cLine) : CallR X (.type "set") (rSetN X T) := by
  intro pins s σ H vs us Q I r h
  obtain ⟨G, m, st, l, bs, rfl, wd, hl, hr, hk, hf, q⟩ := h
  obtain ⟨u, rfl, ru⟩ := vals1 r
  cases ru
  obtain ⟨its, rv, pl, hz⟩ := I.list (.inl (.inl hl))
  have ei := vals_kyd (fun b hb => key_ref (hk b hb) (hr b hb)) rv
  refine call_set_N (P := X.prog) (w := X.w) (bs.map kyd) (I.ok.hd hc) pl.isList (by simpa using ei) (kl_nk I wd hr hk) (by rw [List.length_map]; exact hf) (by omega) fun h' tk L es ep t R g k => ?_
  exact ⟨.ref s.heap.objs.size, upd H s.heap.objs.size (SetNO X.w s.heap.objs.size L), I.laid (t' := tk) k (Nat.le_refl _) (setNO_new R.n0), rfl, q _ L (I.hok.fresh (Nat.le_refl _)) (fun p hp => List.mem_of_mem_take (g.sub p hp)) (fun p hp => g.all p (by rw [List.take_length]; exact hp)) R.nd⟩
theorem le_self (b : PV × V) : W.dataLe false (fun b : PV × V => toD b.1) b b = true := by
  have tot := W.sortLe_total (listOrd itemOrd) false fun b : PV × V => W.keyToks (toD b.1)
  rcases tot.total b b with h | h <;> exact h
theorem asc_le {bs : List (PV × V)} (o : Ord bs) (ha : ascP (bs.map (·.1)) = true) : bs.Pairwise fun a b => W.dataLe false (fun b : PV × V => toD b.1) b a = false := by
  induction bs with
  | nil => exact .nil
  | cons b bs ih =>
    rw [List.map_cons, ascP, Bool.and_eq_true] at ha
    refine List.pairwise_cons.mpr ⟨fun c hc => ?_, ih ⟨fun x hx => o.dat x (List.mem_cons_of_mem _ hx), fun x hx y hy => o.alk x (List.mem_cons_of_mem _ hx) y (List.mem_cons_of_mem _ hy)⟩ ha.2⟩
    have q := of_decide_eq_true (List.all_eq_true.mp ha.1 c.1 (List.mem_map.mpr ⟨c, hc, rfl⟩))
    have hb : b ∈ b :: bs := List.mem_cons_self
    have hc : c ∈ b :: bs := List.mem_cons_of_mem _ hc
    show (!W.dataLt (toD b.1) (toD c.1)) = false
    rw [lt_toD DEP _ _ true (o.dat b hb) (o.dat c hc) (o.alk b hb c hc) q]
    rfl
theorem asc_nodup {bs : List (PV × V)} (o : Ord bs) (ha : ascP (bs.map (·.1)) = true) (hk : ∀ b ∈ bs, keyT b.1 = true) : ((bs.map kyd).map (·.2)).Nodup := by
  have p := asc_le o ha
  rw [List.map_map]
  refine List.pairwise_map.mpr (List.Pairwise.imp_of_mem (fun {a b} h1 h2 h e => ?_) p)
  have x : a.1 = b.1 := nkey_inj 8 _ _ (keyT_key (hk a h1)) (keyT_key (hk b h2)) e
  have z := le_self (a.1, a.2)
  have h : (!W.dataLt (toD a.1) (toD b.1)) = false := h
  have z : (!W.dataLt (toD a.1) (toD a.1)) = true := z
  rw [← x, z] at h
  cases h
theorem perm_of_got {bs : List (PV × V)} {L : List (Addr × NestedKey)} (nb : ((bs.map kyd).map (·.2)).Nodup) (nl : (L.map (·.2)).Nodup) (h1 : ∀ q ∈ L, q ∈ bs.map kyd) (h2 : ∀ q ∈ bs.map kyd, q.2 ∈ L.map (·.2)) : L.Perm (bs.map kyd) := by
  refine (List.perm_ext_iff_of_nodup (L2.nodup_of_map nl) (L2.nodup_of_map nb)).mpr fun q => ⟨h1 q, fun hq => ?_⟩
  obtain ⟨r, hr, e⟩ := List.mem_map.mp (h2 q hq)
  have hr2 := h1 r hr
  have key : ∀ {l : List (Addr × NestedKey)}, (l.map (·.2)).Nodup → ∀ x ∈ l, ∀ y ∈ l, x.2 = y.2 → x = y := fun {l} => by
    induction l with
    | nil => intro _ x hx; cases hx
    | cons a l ih =>
      intro nd x hx y hy e
      rw [List.map_cons, List.nodup_cons] at nd
      rcases List.mem_cons.mp hx with ex | hx
      · rcases List.mem_cons.mp hy with ey | hy
        · rw [ex, ey]
        · exact absurd (List.mem_map.mpr ⟨y, hy, by rw [← e, ex]⟩) nd.1
      · rcases List.mem_cons.mp hy with ey | hy
        · exact absurd (List.mem_map.mpr ⟨x, hx, by rw [e, ey]⟩) nd.1
        · exact ih nd.2 x hx y hy e
  rw [← key nb r hr2 q hq e]
  exact hr
def rSortN (X : Cx) (T : List (Addr × Str)) : List V → Hp → VK → Prop := fun vs H Q => ∃ (G : Hp) (m : List Addr) (st : AS) (a : Addr) (L : List (Addr × NestedKey)) (bs : List (PV × V)), vs = [.ref a] ∧ Wd (sy X T) G m st H ∧ H a = some (SetNO X.w a L) ∧
  (∀ b ∈ bs, Rep (sy X T) G m b.1 b.2) ∧ (∀ b ∈ bs, keyT b.1 = true) ∧ L.Perm (bs.map kyd) ∧ bs.length < 76 ∧ Ord bs ∧ (bs.map (·.1)).all neTup = true ∧ ascP (bs.map (·.1)) = true ∧ ∀ p, H p = none → Q (.ref p) (upd H p (.lst (bs.map (·.2))))
theorem sortN_P (hu : X.A.units + 200 < cLine) (hc : X.calm = true) : CallR X (.builtin "sorted") (rSortN X T) := by
  intro pins s σ H vs us Q I r h
  obtain ⟨G, m, st, a, L, bs, rfl, wd, ha, hr, hk, pm, hf, o, hne, hasc, q⟩ := h
  obtain ⟨u, rfl, ru⟩ := vals1 r
  cases ru
  have nk := kl_nk I wd hr hk
  have R0 : SetN0 X.w s.heap a L := (I.hok a _ ha).1
  obtain ⟨es, ep, t, R⟩ := R0.full fun p hp => nk p (pm.mem_iff.mp hp)
  obtain ⟨ob, ho, hex, hd⟩ := R.ob
  have hsz := rowsN_size R.rows
  have hfew := R.few
  refine Calls.call_function_entry PyProof.Rows.kind_sorted PyProof.Rows.plain_sorted PyProof.Rows.entry_sorted (PyProof.Rows.args_sorted1 _) ?_
  unfold Builtin.«sorted»
  refine wpAny_bind (m := checkCount "sorted" 1 1 _) (wpAny_pure ?_)
  refine wpAny_bind (collect_set (A := X.A.in1) (I.ok.hd hc) ⟨ob, ho, hex.1, hd⟩ R.fits (by unfold scanBound; omega) R.tab.ris R.led fun s1 vs k1 hz g1 o1 pv => ?_)
  have hes : es.toList.map (·.2) = L.map fun p => Value.ref p.1 := by
    rw [R.rows]
    unfold rowsN
    rw [List.map_map] <;> rfl
  rw [hes] at pv
  have pv2 : vs.Perm (bs.map fun b => Value.ref (vAd b.2)) := by
    refine pv.trans ((pm.map fun p => Value.ref p.1).trans ?_)
    rw [List.map_map]
    exact List.Perm.refl _
  obtain ⟨cs, pc, ev⟩ := perm_map_inv (fun b : PV × V => Value.ref (vAd b.2)) vs bs pv2
  have hrc : ∀ b ∈ cs, Rep (sy X T) G m b.1 b.2 := fun b hb => hr b (pc.mem_iff.mp hb)
  have hkc : ∀ b ∈ cs, keyT b.1 = true := fun b hb => hk b (pc.mem_iff.mp hb)
  have oc : Ord cs := ⟨fun b hb => o.dat b (pc.mem_iff.mp hb), fun b hb c hc => o.alk b (pc.mem_iff.mp hb) c (pc.mem_iff.mp hc)⟩
  have ev2 : vs = (cs.map kyd).map fun p => Value.ref p.1 := by rw [ev, List.map_map] <;> rfl
  have rv : Vals (cs.map (·.2)) vs := by rw [ev2]; exact kyd_vals fun b hb => key_ref (hkc b hb) (hrc b hb)
  have dd : ∀ l : List (PV × V), (∀ b ∈ l, dat DEP b.1 = true) → dats DEP (l.map (·.1)) = true := by
    intro l
    induction l with
    | nil => intro _; rfl
    | cons b l ih =>
      intro h
      rw [List.map_cons]
      simp only [dats, Bool.and_eq_true]
      exact ⟨h b List.mem_cons_self, ih fun c hc => h c (List.mem_cons_of_mem _ hc)⟩
  obtain ⟨E1, E2⟩ := readsE I wd (reps_of cs hrc) rv (dd cs oc.dat)
  rw [zip_maps] at E1 E2
  have hvl : vs.length ≤ sizeLine := by rw [ev, List.length_map, pc.length_eq, sizeLine_eq]; omega
  refine wpAny_bind (wpAny_newList ?_ hvl)
  have hoL : (s1.heap.push (seqObj "list" vs.toArray 0)).get? s1.heap.objs.size = some (seqObj "list" vs.toArray 0) := Heap.get?_push_size _ rfl
  have kp : ∀ b u, s.heap.get? b = some u → (s1.heap.push (seqObj "list" vs.toArray 0)).get? b = some u := fun b u e => Heap.get?_push_of_some _ (k1 b u e)
  have E3 : W.EachIs (fun v (b : PV × V) => ∃ as, Reads (s1.heap.push (seqObj "list" vs.toArray 0)) v (toD b.1) as ∧ s1.heap.objs.size ∉ as) vs cs :=
    E2.mono fun v b ⟨as, r⟩ => ⟨as, PyProof.Rows.Reads.keeps kp r, fun z => Nat.lt_irrefl _ (Nat.lt_of_lt_of_le (reads_lt r _ z) hz)⟩
  have hnec : (cs.map (·.1)).all neTup = true := List.all_eq_true.mpr fun x hx => List.all_eq_true.mp hne x ((pc.map (·.1)).mem_iff.mp hx)
  refine wpAny_bind (wpAny_holding (W.list_sort_data (s := { s1 with heap := s1.heap.push (seqObj "list" vs.toArray 0) }) hoL E1 E3 oc.allAlike (sortable_of (by rw [hnec]; rfl)) (by rw [pc.length_eq, sizeLine_eq]; omega) (fun b hb => ?_) fun out ho2 eo => ?_))
  · have := room_of hu oc X.A (by omega) b hb
    show X.A.units + 1 + 1 + _ < _
    omega
  · have tot := W.sortLe_total (listOrd itemOrd) false fun b : PV × V => W.keyToks (toD b.1)
    have es2 : cs.mergeSort (W.dataLe false fun b => toD b.1) = bs := by
      refine sort_uniq _ _ ((List.mergeSort_perm _ _).trans pc) ?_ (asc_le o hasc)
      exact List.pairwise_mergeSort tot.trans (fun a b => by rw [Bool.or_eq_true]; exact tot.total a b) cs
    rw [es2] at eo
    obtain ⟨e2, he2⟩ := PyProof.Rows.sortedHeap_at (vs := vs) (out := out.toArray) hoL
    have hn : H s1.heap.objs.size = none := I.hok.fresh hz
    have kk : ∀ b u, s.heap.get? b = some u → (sortedHeap (s1.heap.push (seqObj "list" vs.toArray 0)) s1.heap.objs.size vs out.toArray).get? b = some u := fun b u e => by
      have hb : b < s1.heap.objs.size := Heap.lt_size (k1 b u e)
      rw [PyProof.Rows.sortedHeap_old (Nat.ne_of_lt hb) (by rw [size_push']; exact Nat.lt_succ_of_lt hb)]
      exact kp b u e
    obtain ⟨h1, g1', d1, t1, os1⟩ := s1
    dsimp only at g1 o1 kk he2 hn hz ⊢
    subst g1 o1
    have J : Inv X pins σ (upd H h1.objs.size (.lst (bs.map (·.2)))) { s with heap := sortedHeap (h1.push (seqObj "list" vs.toArray 0)) h1.objs.size vs out.toArray, gens := s.gens, drawn := d1, toks := t1 } :=
      I.call (ch := []) (Un.laid kk hz hn) (I.hok.laid kk hz ⟨by rw [List.length_map, sizeLine_eq]; omega, out, e2, each_vals eo, he2⟩) I.bare (fun _ z => nomatch z)
    exact wpAny_pure ⟨_, rfl, .ref h1.objs.size, _, J, rfl, q _ hn⟩
end
section
variable {X : Cx} {T : List (Addr × Str)} {W : XK} {pos : Pos}
def rSetU (X : Cx) (T : List (Addr × Str)) : List V → Hp → VK → Prop := fun vs H Q => rSetI X vs H Q ∨ rSetN X T vs H Q
def rSortU2 (X : Cx) (T : List (Addr × Str)) : List V → Hp → VK → Prop := fun vs H Q => rSortedSet X.w vs H Q ∨ rSortN X T vs H Q
theorem setU_P (hc : X.calm = true) (hu : X.A.units + 200 < cLine) : CallR X (.type "set") (rSetU X T) := fun pins s σ H vs us Q I r h => by
  rcases h with h | h
  · exact setC_P hc pins s σ H vs us Q I r h
  · exact setN_P hc hu pins s σ H vs us Q I r h
theorem sortU_P (hc : X.calm = true) (hu : X.A.units + 200 < cLine) : CallR X (.builtin "sorted") (rSortU2 X T) := fun pins s σ H vs us Q I r h => by
  rcases h with h | h
  · exact cr_sortedSet hc pins s σ H vs us Q I r h
  · exact sortN_P hu hc pins s σ H vs us Q I r h
theorem de_sset {a : Expr} {da : Fm → M PV} {p1 p2 q1 : Pos} (hu : X.A.units + 200 < cLine) (hc : X.calm = true) (hg : Gl X "sorted") (hm : X.mg "sorted" = none) (hg2 : Gl X "set") (hm2 : X.mg "set" = none) (ha : PE X a (tD (sy X T) .O W da)) (he : StarOk X.env [a]) :
    PE X (.Call (.Name "sorted" p1) [.Call (.Name "set" p2) [a] [] q1] [] pos) (tD (sy X T) .F W fun r => bnd (da r) fun x => opt (b1P .sortedSet x)) := by
  obtain ⟨h1, h2⟩ := he a [] rfl
  refine (pe_callB (sortU_P (T := T) hc hu) hg hm PyProof.Rows.boot_sorted (pa_cons (pe_callTy (pos := q1) (setU_P (T := T) hc hu) hg2 hm2 PyProof.Rows.boot_set (pa_cons ha pa_nil h1) (by decide) (by decide) h1 (h2 q1)) pa_nil rfl) (by decide) (by decide) rfl rfl).imp fun σ H Q ⟨G, m, s, H₀, r, at0, p⟩ => ?_
  refine ⟨G, m, s, H₀, r, at0, p.step (good_M _ _) fun x s1 G1 m1 H1 v e1 wd1 rx p1 => ?_⟩
  cases x with
  | lst xs =>
    obtain ⟨l, ws, rfl, hl1, _, rr⟩ := RepO.lst' wd1 rx
    cases q : intsOf xs with
    | none =>
      have e0 : b1P .sortedSet (.lst xs) = if keyS xs then some (.lst xs) else none := by simp only [b1P]; rw [q]
      rw [e0] at p1
      by_cases c : keyS xs = true
      · rw [if_pos c] at p1
        unfold keyS at c
        simp only [Bool.and_eq_true, decide_eq_true_eq] at c
        obtain ⟨c1, c2, c3, c4, c5⟩ := c
        have f1 := zip_fst rr
        have hr : ∀ b ∈ xs.zip ws, Rep (sy X T) G1 m1 b.1 b.2 := fun b hb => (zip_mem rr b hb).1
        have hk : ∀ b ∈ xs.zip ws, keyT b.1 = true := fun b hb => List.all_eq_true.mp c1 b.1 (zip_mem rr b hb).2
        have o := ord_of rr c2
        have hlen : (xs.zip ws).length < 76 := by rw [zip_len rr, ← rr.length]; exact c5
        have hasc : ascP ((xs.zip ws).map (·.1)) = true := by rw [f1]; exact c4
        refine .inr ⟨G1, m1, s1, l, xs.zip ws, rfl, wd1, by rw [zip_snd rr]; exact hl1, hr, hk, hlen, fun d L hd g1 g2 nd => ?_⟩
        have w1 := wd1.newExt (o := SetNO X.w d L) hd
        have w2 : Wd (sy X T) G1 m1 s1 (upd H1 d (SetNO X.w d L)) := wd1.new hd
        refine .inr ⟨G1, m1, s1, d, L, xs.zip ws, rfl, w2, upd_same, hr, hk, perm_of_got (asc_nodup o hasc hk) nd g1 g2, hlen, o, by rw [f1]; exact c3, hasc, fun e he => ?_⟩
        have hne : H1 e = none := w1.dom e he
        rw [zip_snd rr]
        exact p1 G1 m1 _ (.ref e) (w1.trans (w2.newExt he)) (w2.new he) (.lst upd_same (w2.mnone he) (w2.Gnone he) hne rr)
      · rw [if_neg c] at p1
        exact p1.elim
    | some ns =>
      by_cases c : ((setI ns).length < 64 && decide (xs.length < 4000)) = true
      · rw [show b1P .sortedSet (.lst xs) = some (.lst ((setI ns).map .int)) by simp only [b1P]; rw [q]; exact if_pos (by simpa using c)] at p1
        have hws := ints_spec rr q
        subst hws
        rw [Bool.and_eq_true, decide_eq_true_eq, decide_eq_true_eq] at c
        have hlen : xs.length = ns.length := by rw [rr.length, List.length_map]
        refine .inl ⟨l, ns, rfl, .inl (.inl (.inl hl1)), by unfold scanBound; omega, fun d hd => ?_⟩
        refine .inl ⟨d, _, _, rfl, upd_same, c.1, fun ns' e hpw hmem hlen' he => ?_⟩
        obtain ⟨k1, k2⟩ := setI_spec ns
        have heq : ns' = setI ns := pw_uniq hpw k1 fun k => by rw [hmem k, k2 k]; simp
        subst heq
        have w1 := wd1.newExt (o := SetO X.w d (fun j => decide (j ∈ ns)) (setI ns).length) hd
        have w2 : Wd (sy X T) G1 m1 s1 (upd H1 d (SetO X.w d (fun j => decide (j ∈ ns)) (setI ns).length)) := wd1.new hd
        have hne : H1 e = none := w1.dom e he
        exact p1 G1 m1 _ (.ref e) (w1.trans (w2.newExt he)) (w2.new he) (.lst upd_same (w2.mnone he) (w2.Gnone he) hne (reps_ints _))
      · rw [show b1P .sortedSet (.lst xs) = none by simp only [b1P]; rw [q]; exact if_neg (by simpa using c)] at p1
        exact p1.elim
  | tup xs =>
    obtain ⟨l, ws, rfl, _, hl1, rr⟩ := RepO.tup' wd1 rx
    cases q : intsOf xs with
    | none => rw [show b1P .sortedSet (.tup xs) = none by simp only [b1P]; rw [q]; rfl] at p1; exact p1.elim
    | some ns =>
      by_cases c : ((setI ns).length < 64 && decide (xs.length < 4000)) = true
      · rw [show b1P .sortedSet (.tup xs) = some (.lst ((setI ns).map .int)) by simp only [b1P]; rw [q]; exact if_pos (by simpa using c)] at p1
        have hws := ints_spec rr q
        subst hws
        rw [Bool.and_eq_true, decide_eq_true_eq, decide_eq_true_eq] at c
        have hlen : xs.length = ns.length := by rw [rr.length, List.length_map]
        refine .inl ⟨l, ns, rfl, .inr hl1, by unfold scanBound; omega, fun d hd => ?_⟩
        refine .inl ⟨d, _, _, rfl, upd_same, c.1, fun ns' e hpw hmem hlen' he => ?_⟩
        obtain ⟨k1, k2⟩ := setI_spec ns
        have heq : ns' = setI ns := pw_uniq hpw k1 fun k => by rw [hmem k, k2 k]; simp
        subst heq
        have w1 := wd1.newExt (o := SetO X.w d (fun j => decide (j ∈ ns)) (setI ns).length) hd
        have w2 : Wd (sy X T) G1 m1 s1 (upd H1 d (SetO X.w d (fun j => decide (j ∈ ns)) (setI ns).length)) := wd1.new hd
        have hne : H1 e = none := w1.dom e he
        exact p1 G1 m1 _ (.ref e) (w1.trans (w2.newExt he)) (w2.new he) (.lst upd_same (w2.mnone he) (w2.Gnone he) hne (reps_ints _))
      · rw [show b1P .sortedSet (.tup xs) = none by simp only [b1P]; rw [q]; exact if_neg (by simpa using c)] at p1
        exact p1.elim
  | _ => exact p1.elim
end
end RP

/-! Fw21: the check of an IR against the text. Own work. -/
namespace RP
open PySem PySem.Spec PyProof.Rows L2

/-- what the check leans on: the scope as it is (within a block: relabelled), as it is written, the slots' names, the defs, the module's constants, the built-ins -/
structure Ctx where
  sc : Scope
  sc0 : Scope
  N : List Str
  fns : List (Str × Nat × Nat)
  gcs : List Str
  bls : List Str
  exs : List Str
  gvn : List Str := []
  lms : List (Str × List (Str × Str)) := []
def Ctx.blk (c : Ctx) (scope : Scope) : Ctx := { c with sc := relS scope c.sc, sc0 := scope, lms := [] }
/-- within a lambda -/
def Ctx.lamC (c : Ctx) (scope : Scope) : Ctx := { c with sc := scope, sc0 := scope, lms := [] }
def noPar : Arguments → Bool
  | ⟨[], [], none, [], [], none, []⟩ => true
  | _ => false
def glB (c : Ctx) (x : Str) : Bool := decide (c.sc.names.lookup x = some .globalImplicit)
def visB (c : Ctx) (x : Str) : Bool := match c.sc.names.lookup x with
  | some .local => true
  | some .cell => true
  | some .free => true
  | _ => false
def tgB (c : Ctx) (x : Str) : Bool := match c.sc.names.lookup x with
  | some .local => true
  | some .cell => c.sc0.names.lookup x == some .cell
  | _ => false
def plainN (x : Str) : Bool := !(x == ("__debug__" : Str)) && !(x == ("__classdict__" : Str)) && decide (x ≠ "__name__")
def bltB (c : Ctx) (x y : Str) : Bool := decide (x = y) && glB c x && c.bls.contains x
def noStar : Expr → Bool
  | .Starred _ _ => false
  | _ => true
def attrB : Expr → Bool
  | .Call _ _ _ _ => false
  | _ => true
def ixB : Expr → Bool
  | .Slice _ _ _ _ => false
  | _ => true
def noSet : Expr → Bool
  | .Set _ _ _ => false
  | _ => true
def noComp : Expr → Bool
  | .ListComp _ _ _ _ => false
  | .SetComp _ _ _ _ => false
  | .DictComp _ _ _ _ _ => false
  | _ => true
def E.isVar : E → Bool
  | .var _ => true
  | _ => false
/-- results that are new -/
def fresh : E → Bool
  | .dead => true
  | .int _ => true
  | .str _ => true
  | .bl _ => true
  | .non => true
  | .tup _ => true
  | .lst _ => true
  | .lstR _ => true
  | .dnew => true
  | .d1 _ _ => true
  | .bin _ _ _ => true
  | .cmp _ _ _ => true
  | .chain _ _ _ _ _ => true
  | .isN _ => true
  | .notN _ => true
  | .not _ => true
  | .neg _ => true
  | .slLo _ _ => true
  | .slHi _ _ => true
  | .b1 op _ => match op with
    | .min => false
    | .max => false
    | .tuplex => false
    | _ => true
  | .isinst _ _ => true
  | .idx _ _ => true
  | .litget _ _ _ => true
  | .lrange _ => true
  | .lzip _ _ => true
  | .lc _ _ _ _ _ => true
  | .lc2 _ _ _ _ _ _ _ _ _ => true
  | .dc _ _ _ _ _ _ => true
  | _ => false
/-- a reading told by d, in all its ways -/
structure Snd (X : Cx) (T : List (Addr × Str)) (W : XK) (fr : Bool) (d : Bool → Fm → M PV) (a : Expr) : Prop where
  o : PE X a (tD (sy X T) .O W (d true))
  e : PE X a (tD (sy X T) .E W (d false))
  f : fr = true → PE X a (tD (sy X T) .F W (d false))
  t : PT X a (tDT (sy X T) W (d false))
  w : (∃ op vs p, a = .BoolOp op vs p) → PW X a (tDT (sy X T) W (d false))
  ns : noStar a = true
/-- an own class of errors, over ValueError -/
structure ExF (K : PySem.W.Frag) (mg : Str → Option Value) (x : Str) : Prop where
  ex : ∃ C, mg x = some (.ref C) ∧ PySem.W.excIn K C He.veBase "ValueError.__new__" = true ∧ PySem.W.keepIn K (.ref C) = true ∧ PySem.W.subIn K (.ref C) (.type "BaseException") = some true ∧ PySem.W.typeIn K (.ref C) = some (.type "type")
theorem takes0N {X : Cx} : L2N.Takes X (fun _ _ _ _ => False) := fun _ _ x => by
  obtain ⟨_, _, _, _, _, _, _, _, _, _, _, _, _, _, _, _, z⟩ := x
  exact z.elim
/-- the lambda's body, what it lets out told by L2N.CX -/
abbrev lamN (X : Cx) (A : Around) (outer : List Env) (s : Shared) (H : Hp) (E : XK) (scope : Scope) (f c' : Addr) : Cx :=
  (LamX.lamCx X A outer s H E scope f c').tr [] fun e s' => wpAny (model X.prog X.w) (A.deeper (LamX.lamEnv X scope s.heap.objs.size f c')) (leaving (LamX.lamEnv X scope s.heap.objs.size f c') e) (fun _ s2 => L2N.CX X.prog X.w outer H s E e s2) (fun e2 s2 => L2N.CX X.prog X.w outer H s E e2 s2) s'
/-- x(lambda: ..), x a def that tells -/
def LamF (X : Cx) (T : List (Addr × Str)) (k : Nat) (W : XK) (x : Str) (tab : List (Str × Str)) : Prop := ∀ (params : Arguments) (body : Expr) (scope : Scope) (db : Fm → M PV) (p lpos pos : Pos), Gl X x → noPar params = true → LamX.LamS X.env.scope scope →
  (∀ (A : Around) (outer : List Env) (s : Shared) (H : Hp) (E : XK) (f c' : Addr), Room k (A.deeper (LamX.lamEnv X scope s.heap.objs.size f c')) → PE (lamN X A outer s H E scope f c') body (tD (sy X T) .E E db)) →
  PE X (.Call (.Name x p) [.Lambda params body scope lpos] [] pos) (tD (sy X T) .E W fun r => lamD tab (db r))
structure CkX (X : Cx) (T : List (Addr × Str)) (c : Ctx) (k : Nat) (W : XK) (G : List Den) (GV : List (Str × Nat × Den)) (C : List PV) : Prop where
  ok : Cok X T c.N k W G GV C c.fns c.gcs c.bls
  sc : X.env.scope = c.sc
  fn : ∀ x, (c.sc0.names.lookup x == some .cell) = true → X.fn x = true
  fk : c.sc.kind = .function
  ex : ∀ x, x ∈ c.exs → ExF X.K X.mg x
  gv : ∀ x, x ∈ c.gvn → ∃ f, X.mg x = some (.ref f)
  lm : ∀ x tab, (x, tab) ∈ c.lms → ∃ k', LamF X T k' W x tab ∧ (∀ (j : Nat) (y : Str) (ar lv : Nat), c.fns[j]? = some (y, ar, lv) → lv ≤ k') ∧ ∀ p, p ∈ GV → ∃ lv, Callee X (sy X T) k' p.1 p.2.1 lv p.2.2
section
variable {X : Cx} {T : List (Addr × Str)} {c : Ctx} {k : Nat} {W : XK} {G : List Den} {GV : List (Str × Nat × Den)} {C : List PV} {a b t : Expr} {d : Fm → M PV}
theorem CkX.gl (K : CkX X T c k W G GV C) {x : Str} (h : glB c x = true) : Gl X x := by
  unfold Gl Env.kindOf
  rw [K.sc]
  exact of_decide_eq_true h
theorem CkX.vis (K : CkX X T c k W G GV C) {x : Str} (h : visB c x = true) : Vis X.env.scope x := by
  unfold Vis
  rw [K.sc]
  unfold visB at h
  split at h
  · exact .inl (by assumption)
  · exact .inr (.inl (by assumption))
  · exact .inr (.inr (by assumption))
  · cases h
theorem CkX.tg (K : CkX X T c k W G GV C) {x : Str} (h : tgB c x = true) : L2.Loc X.env.scope x ∧ (X.fn x = true ∨ X.env.scope.names.lookup x = some .local) := by
  unfold L2.Loc
  rw [K.sc]
  unfold tgB at h
  split at h
  · exact ⟨.inl (by assumption), .inr (by assumption)⟩
  · exact ⟨.inr (by assumption), .inl (K.fn _ h)⟩
  · cases h
theorem plain_parts {x : Str} (h : plainN x = true) : (x == ("__debug__" : Str)) = false ∧ (x == ("__classdict__" : Str)) = false ∧ x ≠ "__name__" := by
  unfold plainN at h
  simp only [Bool.and_eq_true, Bool.not_eq_true', decide_eq_true_eq] at h
  exact ⟨h.1.1, h.1.2, h.2⟩
theorem CkX.blt (K : CkX X T c k W G GV C) {x y : Str} (h : bltB c x y = true) : x = y ∧ Gl X y ∧ X.mg y = none := by
  unfold bltB at h
  simp only [Bool.and_eq_true, decide_eq_true_eq] at h
  obtain ⟨⟨rfl, h2⟩, h3⟩ := h
  exact ⟨rfl, K.gl h2, K.ok.bls x (List.contains_iff_mem.mp h3)⟩
theorem CkX.name (K : CkX X T c k W G GV C) {i : Nat} {x : Str} (h : c.N[i]? = some x) : X.N[i]? = some x := by rw [K.ok.eN]; exact h
theorem CkX.nd (K : CkX X T c k W G GV C) : X.N.Nodup := by rw [K.ok.eN]; exact K.ok.nd
theorem star_one {env : Env} (h : noStar a = true) : starEach [a] env = [(false, eval a env)] := by
  cases a <;> first | rfl | cases h
theorem star_cons {env : Env} {es : List Expr} (h : noStar a = true) : starEach (a :: es) env = (false, eval a env) :: starEach es env := by
  cases a <;> first | rfl | cases h
theorem starOk_one {env : Env} (h : noStar a = true) : StarOk env [a] := fun e0 e1 e => by
  cases e
  exact ⟨star_cons h, fun _ => rfl⟩
/-- within a block -/
theorem CkX.blk (K : CkX X T c k W G GV C) {scope : Scope} (hk : scope.kind = .function) (s : Shared) (H : Hp) (Ca : Addr) (cl : List (Str × Addr)) (fp : List Addr) : CkX (X.blk s H scope (compEnvC scope cl Ca X.env) fp) T (c.blk scope) k W0 G GV C := by
  have sc : (compEnvC scope cl Ca X.env).scope = relS scope c.sc := by rw [← K.sc]; rfl
  refine ⟨⟨K.ok.calm, K.ok.eN, K.ok.nd, K.ok.room, takes0N, fun j x ar lv h => let ⟨d, e, cc⟩ := K.ok.fns j x ar lv h; ⟨d, e, ⟨cc.ex, cc.le⟩⟩, fun p hp => let ⟨lv, cc⟩ := K.ok.gvs p hp; ⟨lv, ⟨cc.ex, cc.le⟩⟩, K.ok.gcs, K.ok.bls, ?_⟩, sc, fun x h => h, hk, K.ex, K.gv, fun x tab h => nomatch h⟩
  exact PassesOwn.never
/-- within a lambda -/
theorem CkX.lam (K : CkX X T c k W G GV C) {scope : Scope} {k' : Nat} (L : LamX.LamS X.env.scope scope) (hf : ∀ (j : Nat) (y : Str) (ar lv : Nat), c.fns[j]? = some (y, ar, lv) → lv ≤ k') (hv : ∀ p, p ∈ GV → ∃ lv, Callee X (sy X T) k' p.1 p.2.1 lv p.2.2)
    (A : Around) (outer : List Env) (s : Shared) (H : Hp) (E : XK) (f c' : Addr) (hr : Room k' (A.deeper (LamX.lamEnv X scope s.heap.objs.size f c'))) : CkX (lamN X A outer s H E scope f c') T (c.lamC scope) k' E G GV C := by
  refine ⟨⟨rfl, K.ok.eN, K.ok.nd, hr, L2N.takes_of rfl rfl rfl rfl, fun j x ar lv h => let ⟨d, e, cc⟩ := K.ok.fns j x ar lv h; ⟨d, e, ⟨cc.ex, hf j x ar lv h⟩⟩, fun p hp => let ⟨lv, cc⟩ := hv p hp; ⟨lv, ⟨cc.ex, cc.le⟩⟩, K.ok.gcs, K.ok.bls, passes_of rfl⟩, rfl, fun x h => ?_, L.kind, K.ex, K.gv, fun x tab h => nomatch h⟩
  exact absurd rfl (L.own _ (PySem.mem_of_lookup (eq_of_beq h))).2
/-- a value that is made anew -/
theorem Snd.ofF (h : PE X a (tD (sy X T) .F W d)) (ht : ∀ whole, isTrue a X.env whole = (do let v ← whole; standAt a.pos; holding [v] (truthy v))) (hw : ∀ op vs p, a ≠ .BoolOp op vs p) (hn : noStar a = true) : Snd X T W true (fun _ => d) a :=
  ⟨toO (toE h), toE h, fun _ => h, dt_val (toE h) ht, fun ⟨op, vs, p, e⟩ => (hw op vs p e).elim, hn⟩
theorem Snd.ofE (h : PE X a (tD (sy X T) .E W d)) (ht : ∀ whole, isTrue a X.env whole = (do let v ← whole; standAt a.pos; holding [v] (truthy v))) (hw : ∀ op vs p, a ≠ .BoolOp op vs p) (hn : noStar a = true) : Snd X T W false (fun _ => d) a :=
  ⟨toO h, h, (fun z => nomatch z), dt_val h ht, fun ⟨op, vs, p, e⟩ => (hw op vs p e).elim, hn⟩
theorem Snd.ofFT (h : PE X a (tD (sy X T) .F W d)) (ht : PT X a (tDT (sy X T) W d)) (hw : ∀ op vs p, a ≠ .BoolOp op vs p) (hn : noStar a = true) : Snd X T W true (fun _ => d) a :=
  ⟨toO (toE h), toE h, fun _ => h, ht, fun ⟨op, vs, p, e⟩ => (hw op vs p e).elim, hn⟩
theorem Snd.ofET (h : PE X a (tD (sy X T) .E W d)) (ht : PT X a (tDT (sy X T) W d)) (hw : ∀ op vs p, a ≠ .BoolOp op vs p) (hn : noStar a = true) : Snd X T W false (fun _ => d) a :=
  ⟨toO h, h, (fun z => nomatch z), ht, fun ⟨op, vs, p, e⟩ => (hw op vs p e).elim, hn⟩
theorem Snd.weak {fr : Bool} {d : Bool → Fm → M PV} (h : Snd X T W true d a) : Snd X T W fr d a := ⟨h.o, h.e, fun _ => h.f rfl, h.t, h.w, h.ns⟩
theorem snd_dead (hn : noStar a = true) : Snd X T W true (fun _ _ => stk) a := by
  have h : ∀ md, PE X a (tD (sy X T) md W fun _ => stk) := fun md => ⟨fun pins s σ H Q I h => by
    obtain ⟨G, m, s, H₀, r, _, p⟩ := h
    exact p.elim⟩
  refine ⟨h _, h _, fun _ => h _, ⟨fun pins s σ H Q I h => ?_⟩, fun _ => ⟨fun wh pins s σ H Q I h => ?_⟩, hn⟩
  · obtain ⟨G, m, s, H₀, r, _, p⟩ := h
    exact p.elim
  · obtain ⟨G, m, s, H₀, r, _, p⟩ := h
    exact p.elim
end
end RP

/-! Fw22: the check of expressions. Own work. -/
namespace RP
open PySem PySem.Spec PyProof.Rows L2

def Es.len : Es → Nat
  | .nil => 0
  | .cons _ es => es.len + 1
def chkTgs : List Nat → Ctx → List Expr → Bool
  | [], _, ts => (match ts with | [] => true | _ => false)
  | i :: is, c, ts => (match ts with
    | t :: ts => (match t with
      | .Name y _ => decide (c.N[i]? = some y) && tgB c y && chkTgs is c ts
      | _ => false)
    | [] => false)
def chkTg (t : Tg) (c : Ctx) (x : Expr) : Bool := match t with
  | .nm i => (match x with
    | .Name y _ => decide (c.N[i]? = some y) && tgB c y
    | _ => false)
  | .tup is => (match x with
    | .Tuple es _ _ => chkTgs is c es
    | _ => false)
def isTupE : Expr → Bool
  | .Tuple _ _ _ => true
  | _ => false
def ownOf (c : Ctx) (vs : List Nat) : List (Str × Nat) := vs.map fun i => (c.N.getD i "", i)
def subB (a b : List Nat) : Bool := a.all fun i => b.contains i
def b1N : B1 → Str
  | .len => "len"
  | .list => "list"
  | .tuple => "tuple"
  | .tuplex => "tuple"
  | .sorted => "sorted"
  | .dict => "dict"
  | .sum => "sum"
  | .min => "min"
  | .max => "max"
  | .all => "all"
  | .any => "any"
  | .int => "int"
  | .bool => "bool"
  | .abs => "abs"
  | _ => ""
def isTrueE : E → Bool
  | .bl true => true
  | _ => false
/-- a check of an expression -/
abbrev CE := Ctx → Expr → Bool
abbrev CEs := Ctx → List Expr → Bool
abbrev CI := Ctx → Expr → Expr → Bool
def ckVar (i : Nat) (c : Ctx) (t : Expr) : Bool := (match t with
    | .Name x _ => decide (c.N[i]? = some x) && visB c x && plainN x
    | _ => false)
def ckInt (i : Int) (c : Ctx) (t : Expr) : Bool := (match t with
    | .Constant v _ _ => (match v with | .int j => decide (i = j) | _ => false)
    | _ => false)
def ckStr (x : Str) (c : Ctx) (t : Expr) : Bool := (match t with
    | .Constant v _ _ => (match v with | .str y => decide (x = y) | _ => false)
    | _ => false)
def ckBl (b : Bool) (c : Ctx) (t : Expr) : Bool := (match t with
    | .Constant v _ _ => (match v with | .bool d => decide (b = d) | _ => false)
    | _ => false)
def ckNon  (c : Ctx) (t : Expr) : Bool := (match t with
    | .Constant v _ _ => (match v with | .none => true | _ => false)
    | _ => false)
def ckGc (j : Nat) (c : Ctx) (t : Expr) : Bool := (match t with
    | .Name x _ => decide (c.gcs[j]? = some x) && glB c x && plainN x
    | _ => false)
def ckTup (es : CEs) (n : Nat) (c : Ctx) (t : Expr) : Bool := (match t with
    | .Tuple xs _ _ => decide (n ≤ 1000) && es c xs
    | _ => false)
def ckLst (es : CEs) (n : Nat) (c : Ctx) (t : Expr) : Bool := (match t with
    | .List xs _ => decide (n ≤ 1000) && es c xs
    | _ => false)
def ckLstR (es : CEs) (n : Nat) (c : Ctx) (t : Expr) : Bool := (match t with
    | .List xs _ => decide (n ≤ 1000) && es c xs
    | _ => false)
def ckDnew  (c : Ctx) (t : Expr) : Bool := (match t with
    | .Dict ks vs _ => ks.isEmpty && vs.isEmpty
    | _ => false)
def ckD1 (k : CE) (v : CE) (c : Ctx) (t : Expr) : Bool := (match t with
    | .Dict ks vs _ => (match ks, vs with
      | [some x], [y] => k c x && v c y
      | _, _ => false)
    | _ => false)
def ckBin (op : BO) (a : CE) (b : CE) (c : Ctx) (t : Expr) : Bool := (match t with
    | .BinOp x o y _ => decide (o = opOf op) && a c x && b c y
    | _ => false)
def ckCmp (op : CO) (a : CE) (b : CE) (c : Ctx) (t : Expr) : Bool := (match t with
    | .Compare x os ys _ => (match os, ys with
      | [o], [y] => decide (o = copOf op) && !behindInMarks o y && a c x && b c y
      | _, _ => false)
    | _ => false)
def ckChain (op : CO) (op' : CO) (a : CE) (b : CE) (d : CE) (c : Ctx) (t : Expr) : Bool := (match t with
    | .Compare x os ys _ => (match os, ys with
      | [o, o'], [y, z] => decide (o = copOf op) && decide (o' = copOf op') && !lastMarks [o, o'] [y, z] && a c x && b c y && d c z
      | _, _ => false)
    | _ => false)
def ckIsN (a : CE) (c : Ctx) (t : Expr) : Bool := (match t with
    | .Compare x os ys _ => (match os, ys with
      | [.Is], [.Constant .none _ _] => a c x
      | _, _ => false)
    | _ => false)
def ckNotN (a : CE) (c : Ctx) (t : Expr) : Bool := (match t with
    | .Compare x os ys _ => (match os, ys with
      | [.IsNot], [.Constant .none _ _] => a c x
      | _, _ => false)
    | _ => false)
def ckAnd (a : CE) (b : CE) (c : Ctx) (t : Expr) : Bool := (match t with
    | .BoolOp op vs pos => (match op, vs with
      | .And, x :: y :: r => a c x && (match r with
        | [] => b c y
        | _ :: _ => b c (.BoolOp .And (y :: r) pos))
      | _, _ => false)
    | _ => false)
def ckOr (a : CE) (b : CE) (c : Ctx) (t : Expr) : Bool := (match t with
    | .BoolOp op vs pos => (match op, vs with
      | .Or, x :: y :: r => a c x && (match r with
        | [] => b c y
        | _ :: _ => b c (.BoolOp .Or (y :: r) pos))
      | _, _ => false)
    | _ => false)
def ckNot (a : CE) (c : Ctx) (t : Expr) : Bool := (match t with
    | .UnaryOp op x _ => (match op with | .Not => a c x | _ => false)
    | _ => false)
def ckNeg (a : CE) (c : Ctx) (t : Expr) : Bool := (match t with
    | .UnaryOp op x _ => (match op with | .USub => a c x | _ => false)
    | _ => false)
def ckIte (d : CE) (a : CE) (b : CE) (c : Ctx) (t : Expr) : Bool := (match t with
    | .IfExp x y z _ => d c x && a c y && b c z
    | _ => false)
def ckIx (a : CE) (b : CE) (c : Ctx) (t : Expr) : Bool := (match t with
    | .Subscript x y _ => ixB y && a c x && b c y
    | _ => false)
def ckSlLo (a : CE) (b : CE) (c : Ctx) (t : Expr) : Bool := (match t with
    | .Subscript x s _ => (match s with
      | .Slice lo hi st _ => (match lo, hi, st with
        | some y, none, none => a c x && b c y
        | _, _, _ => false)
      | _ => false)
    | _ => false)
def ckSlHi (a : CE) (b : CE) (c : Ctx) (t : Expr) : Bool := (match t with
    | .Subscript x s _ => (match s with
      | .Slice lo hi st _ => (match lo, hi, st with
        | none, some y, none => a c x && b c y
        | _, _, _ => false)
      | _ => false)
    | _ => false)
def ckCall (j : Nat) (es : CEs) (n : Nat) (c : Ctx) (t : Expr) : Bool := (match t with
    | .Call f as ks _ => (match f, ks, c.fns[j]? with
      | .Name x _, [], some (y, ar, _) => decide (x = y) && glB c x && plainN x && decide (n = ar) && es c as
      | _, _, _ => false)
    | _ => false)
def ckB1 (op : B1) (a : CE) (c : Ctx) (t : Expr) : Bool := (match t with
    | .Call f as ks _ => (match f, as, ks with
      | .Name x _, [y], [] => (match op with
        | .sortedSet => (match y with
          | .Call f2 as2 ks2 _ => (match f2, as2, ks2 with
            | .Name x2 _, [z], [] => bltB c x "sorted" && bltB c x2 "set" && a c z
            | _, _, _ => false)
          | _ => false)
        | .lenSet => false
        | _ => bltB c x (b1N op) && a c y)
      | _, _, _ => false)
    | _ => false)
def ckLrange (a : CE) (c : Ctx) (t : Expr) : Bool := (match t with
    | .Call (.Name x _) [.Call (.Name x2 _) [z] [] _] [] _ => bltB c x "list" && bltB c x2 "range" && a c z
    | _ => false)
def ckLzip (a b : CE) (c : Ctx) (t : Expr) : Bool := (match t with
    | .Call (.Name x _) [.Call (.Name x2 _) [y, z] [] _] [] _ => bltB c x "list" && bltB c x2 "zip" && a c y && b c z
    | _ => false)
def ckMin2 (a : CE) (b : CE) (c : Ctx) (t : Expr) : Bool := (match t with
    | .Call f as ks _ => (match f, as, ks with
      | .Name x _, [y, z], [] => bltB c x "min" && a c y && b c z
      | _, _, _ => false)
    | _ => false)
def ckMin2t (a : CE) (b : CE) (c : Ctx) (t : Expr) : Bool := ckMin2 a b c t
def ckMax2 (a : CE) (b : CE) (c : Ctx) (t : Expr) : Bool := (match t with
    | .Call f as ks _ => (match f, as, ks with
      | .Name x _, [y, z], [] => bltB c x "max" && a c y && b c z
      | _, _, _ => false)
    | _ => false)
def ckIsinst (ty : Ty) (a : CE) (c : Ctx) (t : Expr) : Bool := (match t with
    | .Call f as ks _ => (match f, as, ks with
      | .Name x _, [y, .Name z _], [] => bltB c x "isinstance" && bltB c z (tyName ty) && a c y
      | _, _, _ => false)
    | _ => false)
def ckIdx (a : CE) (b : CE) (c : Ctx) (t : Expr) : Bool := (match t with
    | .Call f as ks cp => (match f, as, ks with
      | .Attribute x m ap, [y], [] => decide (m = "index") && (ap.endLine == cp.line) && attrB x && a c x && b c y
      | _, _, _ => false)
    | _ => false)
def ckLitget (ps : List (Str × Str)) (a : CE) (d : Str) (c : Ctx) (t : Expr) : Bool := (match t with
    | .Call f as ks cp => (match f, as, ks, ps with
      | .Attribute (.Dict [some (.Constant (.str k1) _ _), some (.Constant (.str k2) _ _)] [.Constant (.str v1) _ _, .Constant (.str v2) _ _] _) m ap, [y, .Constant (.str d') _ _], [], [(k1', v1'), (k2', v2')] =>
        decide (m = "get") && (ap.endLine == cp.line) && decide (k1 = k1') && decide (k2 = k2') && decide (v1 = v1') && decide (v2 = v2') && decide (d = d') && !eqS k1 k2 && a c y
      | _, _, _, _ => false)
    | _ => false)
def ckLc (e : CE) (tg : Tg) (it : CI) (cd : CE) (cdT : Bool) (vs : List Nat) (c : Ctx) (t : Expr) : Bool := (match t with
    | .ListComp elt gs scope _ => (match gs with
      | [g] => (match g with
        | ⟨tx, iter, ifs, 0⟩ => blkC c.N c.sc scope (ownOf c vs) && subB tg.is vs && noSet iter && it c tx iter && chkTg tg (c.blk scope) tx && e (c.blk scope) elt && (match ifs with
          | [] => cdT
          | [x] => cd (c.blk scope) x
          | _ => false)
        | _ => false)
      | _ => false)
    | _ => false)
def ckLc2 (e : CE) (tg : Tg) (it : CI) (cd : CE) (cdT : Bool) (tg2 : Tg) (it2 : CI) (cd2 : CE) (cd2T : Bool) (vs : List Nat) (vs2 : List Nat) (c : Ctx) (t : Expr) : Bool := (match t with
    | .ListComp elt gs scope _ => (match gs with
      | [g, g2] => (match g, g2 with
        | ⟨tx, iter, ifs, 0⟩, ⟨tx2, iter2, ifs2, 0⟩ => blkC c.N c.sc scope (ownOf c vs) && subB tg.is vs && subB tg2.is vs2 && subB vs2 vs && noSet iter && noSet iter2 && it c tx iter && it2 (c.blk scope) tx2 iter2 && chkTg tg (c.blk scope) tx && chkTg tg2 (c.blk scope) tx2 && e (c.blk scope) elt && (match ifs with
          | [] => cdT
          | [x] => cd (c.blk scope) x
          | _ => false) && (match ifs2 with
          | [] => cd2T
          | [x] => cd2 (c.blk scope) x
          | _ => false)
        | _, _ => false)
      | _ => false)
    | _ => false)
def ckDc (ek : CE) (ev : CE) (tg : Tg) (it : CI) (cd : CE) (cdT : Bool) (vs : List Nat) (c : Ctx) (t : Expr) : Bool := (match t with
    | .DictComp kx vx gs scope _ => (match gs with
      | [g] => (match g with
        | ⟨tx, iter, ifs, 0⟩ => blkC c.N c.sc scope (ownOf c vs) && subB tg.is vs && noSet iter && it c tx iter && chkTg tg (c.blk scope) tx && ek (c.blk scope) kx && ev (c.blk scope) vx && (match ifs with
          | [] => cdT
          | [x] => cd (c.blk scope) x
          | _ => false)
        | _ => false)
      | _ => false)
    | _ => false)
def ckRange1 (a : CE) (c : Ctx) (tx t : Expr) : Bool := (match t with
    | .Call f as ks _ => (match f, as, ks with
      | .Name x _, [y], [] => bltB c x "range" && a c y
      | _, _, _ => false)
    | _ => false)
def ckEnum (a : CE) (c : Ctx) (tx t : Expr) : Bool := (match t with
    | .Call f as ks _ => (match f, as, ks with
      | .Name x _, [y], [] => isTupE tx && bltB c x "enumerate" && a c y
      | _, _, _ => false)
    | _ => false)
def ckZip (a : CE) (b : CE) (c : Ctx) (tx t : Expr) : Bool := (match t with
    | .Call f as ks _ => (match f, as, ks with
      | .Name x _, [y, z], [] => isTupE tx && bltB c x "zip" && a c y && b c z
      | _, _, _ => false)
    | _ => false)
def ckItems (a : CE) (c : Ctx) (tx t : Expr) : Bool := (match t with
    | .Call f as ks cp => (match f, as, ks with
      | .Attribute y m ap, [], [] => isTupE tx && decide (m = "items") && (ap.endLine == cp.line) && attrB y && a c y
      | _, _, _ => false)
    | _ => false)
def ckFnv (y : Str) (c : Ctx) (t : Expr) : Bool := (match t with
    | .Name x _ => decide (x = y) && glB c x && plainN x && c.gvn.contains x
    | _ => false)
def ckCallv (i : Nat) (fs : CEs) (c : Ctx) (t : Expr) : Bool := (match t with
    | .Call f as ks _ => (match f, as, ks with
      | .Name x _, _ :: _, [] => decide (c.N[i]? = some x) && visB c x && plainN x && fs c as
      | _, _, _ => false)
    | _ => false)
def ckLam (tab : List (Str × Str)) (fa : CE) (c : Ctx) (t : Expr) : Bool := (match t with
    | .Call f as ks _ => (match f, as, ks with
      | .Name x _, [.Lambda ps b sc _], [] => glB c x && c.lms.contains (x, tab) && noPar ps && LamX.lamSB c.sc sc && fa (c.lamC sc) b
      | _, _, _ => false)
    | _ => false)
mutual
def chkE : E → Ctx → Expr → Bool
  | .dead, _, t => noStar t
  | .var i, c, t => ckVar i c t
  | .int i, c, t => ckInt i c t
  | .str x, c, t => ckStr x c t
  | .bl b, c, t => ckBl b c t
  | .non, c, t => ckNon  c t
  | .gc j, c, t => ckGc j c t
  | .fnv y, c, t => ckFnv y c t
  | .tup es, c, t => ckTup (chkEs es) es.len c t
  | .lst es, c, t => ckLst (chkEs es) es.len c t
  | .lstR es, c, t => ckLstR (chkEs es) es.len c t
  | .dnew, c, t => ckDnew  c t
  | .d1 k v, c, t => ckD1 (chkE k) (chkE v) c t
  | .bin op a b, c, t => ckBin op (chkE a) (chkE b) c t
  | .cmp op a b, c, t => ckCmp op (chkE a) (chkE b) c t
  | .chain op op' a b d, c, t => ckChain op op' (chkE a) (chkE b) (chkE d) c t
  | .isN a, c, t => ckIsN (chkE a) c t
  | .notN a, c, t => ckNotN (chkE a) c t
  | .and a b, c, t => ckAnd (chkE a) (chkE b) c t
  | .or a b, c, t => ckOr (chkE a) (chkE b) c t
  | .not a, c, t => ckNot (chkE a) c t
  | .neg a, c, t => ckNeg (chkE a) c t
  | .ite d a b, c, t => ckIte (chkE d) (chkE a) (chkE b) c t
  | .ix a b, c, t => ckIx (chkE a) (chkE b) c t
  | .slLo a b, c, t => ckSlLo (chkE a) (chkE b) c t
  | .slHi a b, c, t => ckSlHi (chkE a) (chkE b) c t
  | .call j es, c, t => ckCall j (chkEs es) es.len c t
  | .callv i es, c, t => ckCallv i (chkEs es) c t
  | .b1 op a, c, t => ckB1 op (chkE a) c t
  | .min2 a b, c, t => ckMin2 (chkE a) (chkE b) c t
  | .max2 a b, c, t => ckMax2 (chkE a) (chkE b) c t
  | .min2t a b, c, t => ckMin2t (chkE a) (chkE b) c t
  | .isinst ty a, c, t => ckIsinst ty (chkE a) c t
  | .idx a b, c, t => ckIdx (chkE a) (chkE b) c t
  | .litget ps a d, c, t => ckLitget ps (chkE a) d c t
  | .lrange a, c, t => ckLrange (chkE a) c t
  | .lzip a b, c, t => ckLzip (chkE a) (chkE b) c t
  | .lc e tg it cd vs, c, t => ckLc (chkE e) tg (chkI it) (chkE cd) (isTrueE cd) vs c t
  | .lc2 e tg it cd tg2 it2 cd2 vs vs2, c, t => ckLc2 (chkE e) tg (chkI it) (chkE cd) (isTrueE cd) tg2 (chkI it2) (chkE cd2) (isTrueE cd2) vs vs2 c t
  | .dc ek ev tg it cd vs, c, t => ckDc (chkE ek) (chkE ev) tg (chkI it) (chkE cd) (isTrueE cd) vs c t
  | .lam tab e, c, t => ckLam tab (chkE e) c t
def chkEs : Es → Ctx → List Expr → Bool
  | .nil, _, ts => ts.isEmpty
  | .cons e es, c, ts => (match ts with
    | x :: xs => chkE e c x && chkEs es c xs
    | [] => false)
def chkI : It → Ctx → Expr → Expr → Bool
  | .seq e, c, _, t => chkE e c t
  | .keys e, c, _, t => chkE e c t
  | .range1 a, c, tx, t => ckRange1 (chkE a) c tx t
  | .enum a, c, tx, t => ckEnum (chkE a) c tx t
  | .zip a b, c, tx, t => ckZip (chkE a) (chkE b) c tx t
  | .items a, c, tx, t => ckItems (chkE a) c tx t
end
end RP

/-! Fw23: the check of expressions is sound. Own work. -/
namespace RP
open PySem PySem.Spec PyProof.Rows L2

theorem ix_plain {b : Expr} (h : ixB b = true) : PlainIx b := by
  intro o i
  cases b <;> first | rfl | cases h
theorem attr_plain {a : Expr} {m : Str} {env : Env} (h : attrB a = true) : attributeBase a m env (eval a env) = eval a env := by
  cases a <;> first | rfl | cases h
theorem set_plain {a : Expr} {env : Env} (h : noSet a = true) (x : Value) : foldedSetIterable a env x = pure x := by
  cases a <;> first | rfl | cases h
theorem sub_mem {a b : List Nat} (h : subB a b = true) : ∀ i, i ∈ a → i ∈ b := fun i hi => List.contains_iff_mem.mp (List.all_eq_true.mp h i hi)
theorem ownOf_snd (c : Ctx) (vs : List Nat) : (ownOf c vs).map (·.2) = vs := by
  unfold ownOf
  rw [List.map_map]
  exact List.map_id' vs
section
variable {T : List (Addr × Str)} {k : Nat} {G : List Den} {GV : List (Str × Nat × Den)} {C : List PV}
theorem denEs_len : ∀ (es : Es) (r : Fm) (s : AS) (vs : List PV) (s' : AS), denEs G GV C es r s = .ok vs s' → vs.length = es.len
  | .nil, r, s, vs, s', h => by cases h; rfl
  | .cons e es, r, s, vs, s', h => by
    have h : bnd (den G GV C e false r) (fun v => bnd (denEs G GV C es r) fun vs => ret (v :: vs)) s = .ok vs s' := h
    unfold bnd at h
    cases q : den G GV C e false r s with
    | ok v s1 =>
      rw [q] at h
      simp only [Res.andThen] at h
      cases q2 : denEs G GV C es r s1 with
      | ok us s2 =>
        rw [q2] at h
        simp only [Res.andThen, ret] at h
        cases h
        rw [List.length_cons, denEs_len es r s1 us _ q2]
        rfl
      | exc x s2 => rw [q2] at h; cases h
      | stuck => rw [q2] at h; cases h
    | exc x s1 => rw [q] at h; cases h
    | stuck => rw [q] at h; cases h
theorem few_of {es : Es} (h : es.len ≤ 1000) : Few (denEs G GV C es) := fun r s vs s' e => by rw [denEs_len es r s vs s' e]; exact h
theorem tgs_of {X : Cx} {W : XK} {c : Ctx} (K : CkX X T c k W G GV C) : ∀ (is : List Nat) (ts : List Expr), chkTgs is c ts = true → Tgs X ts is
  | [], [], _ => .nil
  | [], _ :: _, h => by simp [chkTgs] at h
  | i :: is, [], h => by simp [chkTgs] at h
  | i :: is, t :: ts, h => by
    cases t with
    | Name y p =>
      simp only [chkTgs, Bool.and_eq_true, decide_eq_true_eq] at h
      obtain ⟨⟨h1, h2⟩, h3⟩ := h
      exact .cons (K.name h1) (K.tg h2).1 (K.tg h2).2 (tgs_of K is ts h3)
    | _ => simp [chkTgs] at h
theorem tg_of {X : Cx} {W : XK} {c : Ctx} (K : CkX X T c k W G GV C) {t : Tg} {x : Expr} (h : chkTg t c x = true) : TgOk X x t := by
  cases t with
  | nm i =>
    cases x with
    | Name y p =>
      simp only [chkTg, Bool.and_eq_true, decide_eq_true_eq] at h
      exact .nm (K.name h.1) (K.tg h.2).1 (K.tg h.2).2
    | _ => simp [chkTg] at h
  | tup is =>
    cases x with
    | Tuple es kk p => exact .tup (tgs_of K is es h)
    | _ => simp [chkTg] at h
theorem Snd.md {X : Cx} {W : XK} {fr : Bool} {d : Bool → Fm → M PV} {a : Expr} (h : Snd X T W fr d a) (o : Bool) : PE X a (tD (sy X T) (RP.md o) W (d o)) := by
  cases o with
  | true => exact h.o
  | false => exact h.e
/-- a check is sound -/
def SA (T : List (Addr × Str)) (k : Nat) (G : List Den) (GV : List (Str × Nat × Den)) (C : List PV) (fa : CE) (fr : Bool) (d : Bool → Fm → M PV) : Prop := ∀ (X : Cx) (c : Ctx) (W : XK) (t : Expr), CkX X T c k W G GV C → fa c t = true → Snd X T W fr d t
def SAs (T : List (Addr × Str)) (k : Nat) (G : List Den) (GV : List (Str × Nat × Den)) (C : List PV) (fs : CEs) (ds : Fm → M (List PV)) : Prop := ∀ (X : Cx) (c : Ctx) (W : XK) (ts : List Expr), CkX X T c k W G GV C → fs c ts = true → PA X ts (tDA (sy X T) W ds) ∧ ∀ x, x ∈ ts → noStar x = true
def SAI (T : List (Addr × Str)) (k : Nat) (G : List Den) (GV : List (Str × Nat × Den)) (C : List PV) (fi : CI) (di : Bool → Fm → M (List PV)) : Prop := ∀ (X : Cx) (c : Ctx) (W : XK) (tx t : Expr), CkX X T c k W G GV C → fi c tx t = true → ∀ o, PI X tx t (tDI (sy X T) o W (di o))
variable {fa fb fd : CE} {ra rb rd : Bool} {da db dd : Bool → Fm → M PV} {fs : CEs} {ds : Fm → M (List PV)}
theorem sa_var (i : Nat) : SA T k G GV C (ckVar i) false (fun o r => match r.get i with
      | .sh v => ret v
      | .ow xs => if o then ret (.lst xs) else stk
      | .od kvs => if o then ret (.dct kvs) else stk
      | .no => stk) := by
  intro X c W t K h
  cases t with
  | Name x p =>
    simp only [ckVar, Bool.and_eq_true, decide_eq_true_eq] at h
    obtain ⟨⟨h1, h2⟩, h3⟩ := h
    obtain ⟨p1, p2, _⟩ := plain_parts h3
    have key := fun o => de_var (T := T) (W := W) (pos := p) (K.name h1) (K.vis h2) p1 p2 o
    exact ⟨key true, key false, (fun z => nomatch z), dt_val (key false) (fun _ => rfl), (fun ⟨_, _, _, e⟩ => nomatch e), rfl⟩
  | _ => simp [ckVar] at h
theorem sa_int (i : Int) : SA T k G GV C (ckInt i) true (fun _ _ => ret (.int i)) := by
  intro X c W t K h
  unfold ckInt at h
  split at h
  · split at h
    · simp only [decide_eq_true_eq] at h
      subst h
      exact Snd.ofF de_int (fun _ => rfl) (fun _ _ _ z => nomatch z) rfl
    · cases h
  · cases h
theorem sa_str (i : Str) : SA T k G GV C (ckStr i) true (fun _ _ => ret (.str i)) := by
  intro X c W t K h
  unfold ckStr at h
  split at h
  · split at h
    · simp only [decide_eq_true_eq] at h
      subst h
      exact Snd.ofF de_str (fun _ => rfl) (fun _ _ _ z => nomatch z) rfl
    · cases h
  · cases h
theorem sa_bl (i : Bool) : SA T k G GV C (ckBl i) true (fun _ _ => ret (.bl i)) := by
  intro X c W t K h
  unfold ckBl at h
  split at h
  · split at h
    · simp only [decide_eq_true_eq] at h
      subst h
      exact Snd.ofF de_bl (fun _ => rfl) (fun _ _ _ z => nomatch z) rfl
    · cases h
  · cases h
theorem sa_non : SA T k G GV C ckNon true (fun _ _ => ret .non) := by
  intro X c W t K h
  unfold ckNon at h
  split at h
  · split at h
    · exact Snd.ofF de_non (fun _ => rfl) (fun _ _ _ z => nomatch z) rfl
    · cases h
  · cases h
theorem sa_gc (j : Nat) : SA T k G GV C (ckGc j) false (fun _ _ => opt C[j]?) := by
  intro X c W t K h
  unfold ckGc at h
  split at h
  · simp only [Bool.and_eq_true, decide_eq_true_eq] at h
    obtain ⟨⟨h1, h2⟩, h3⟩ := h
    obtain ⟨p1, p2, _⟩ := plain_parts h3
    exact Snd.ofE (de_gc K.ok h1 (K.gl h2) p1) (fun _ => rfl) (fun _ _ _ z => nomatch z) rfl
  · cases h
theorem sa_tup {n : Nat} (hs : SAs T k G GV C fs ds) (hl : n ≤ 1000 → Few ds) : SA T k G GV C (ckTup fs n) true (fun _ r => bnd (ds r) fun vs => ret (.tup vs)) := by
  intro X c W t K h
  unfold ckTup at h
  split at h
  · simp only [Bool.and_eq_true, decide_eq_true_eq] at h
    exact Snd.ofF (de_tup (hs X c W _ K h.2).1 (hl h.1)) (fun _ => rfl) (fun _ _ _ z => nomatch z) rfl
  · cases h
theorem sa_lst {n : Nat} (hs : SAs T k G GV C fs ds) (hl : n ≤ 1000 → Few ds) : SA T k G GV C (ckLst fs n) true (fun _ r => bnd (ds r) fun vs => ret (.lst vs)) := by
  intro X c W t K h
  unfold ckLst at h
  split at h
  · simp only [Bool.and_eq_true, decide_eq_true_eq] at h
    exact Snd.ofF (de_lst (hs X c W _ K h.2).1 (hl h.1)) (fun _ => rfl) (fun _ _ _ z => nomatch z) rfl
  · cases h
theorem sa_lstR {n : Nat} (hs : SAs T k G GV C fs ds) (hl : n ≤ 1000 → Few ds) : SA T k G GV C (ckLstR fs n) true (fun _ r => bnd (ds r) fun vs => fun s => .ok (.ref s.length) (s ++ [.lst vs])) := by
  intro X c W t K h
  unfold ckLstR at h
  split at h
  · simp only [Bool.and_eq_true, decide_eq_true_eq] at h
    exact Snd.ofF (de_lstR (hs X c W _ K h.2).1 (hl h.1)) (fun _ => rfl) (fun _ _ _ z => nomatch z) rfl
  · cases h
theorem sa_dnew : SA T k G GV C ckDnew true (fun _ _ => ret (.dct [])) := by
  intro X c W t K h
  unfold ckDnew at h
  split at h
  · simp only [Bool.and_eq_true, List.isEmpty_iff] at h
    obtain ⟨rfl, rfl⟩ := h
    exact Snd.ofF de_dnew (fun _ => rfl) (fun _ _ _ z => nomatch z) rfl
  · cases h
theorem sa_d1 (ha : SA T k G GV C fa ra da) (hb : SA T k G GV C fb rb db) : SA T k G GV C (ckD1 fa fb) true (fun _ r => bnd (da false r) fun x => bnd (db false r) fun y => if keyT x then ret (.dct [(x, y)]) else stk) := by
  intro X c W t K h
  unfold ckD1 at h
  split at h
  · split at h
    · simp only [Bool.and_eq_true] at h
      exact Snd.ofF (de_d1 K.ok.un (ha X c W _ K h.1).e (hb X c W _ K h.2).e) (fun _ => rfl) (fun _ _ _ z => nomatch z) rfl
    · cases h
  · cases h
theorem sa_bin (op : BO) (ha : SA T k G GV C fa ra da) (hb : SA T k G GV C fb rb db) : SA T k G GV C (ckBin op fa fb) true (fun _ r => bnd (da true r) fun x => bnd (db true r) fun y => opt (binP op x y)) := by
  intro X c W t K h
  unfold ckBin at h
  split at h
  · simp only [Bool.and_eq_true, decide_eq_true_eq] at h
    obtain ⟨⟨rfl, h1⟩, h2⟩ := h
    exact Snd.ofF (de_bin (ha X c W _ K h1).o (hb X c W _ K h2).o) (fun _ => rfl) (fun _ _ _ z => nomatch z) rfl
  · cases h
theorem sa_cmp (op : CO) (ha : SA T k G GV C fa ra da) (hb : SA T k G GV C fb rb db) : SA T k G GV C (ckCmp op fa fb) true (fun _ r => bnd (da true r) fun x => bnd (db true r) fun y => opt ((cmpP op x y).map .bl)) := by
  intro X c W t K h
  unfold ckCmp at h
  split at h
  · split at h
    · simp only [Bool.and_eq_true, decide_eq_true_eq, Bool.not_eq_true'] at h
      obtain ⟨⟨⟨rfl, h0⟩, h1⟩, h2⟩ := h
      exact Snd.ofFT (de_cmp K.ok.un (ha X c W _ K h1).o (hb X c W _ K h2).o h0) (dt_cmp K.ok.un (ha X c W _ K h1).o (hb X c W _ K h2).o h0) (fun _ _ _ z => nomatch z) rfl
    · cases h
  · cases h
theorem sa_chain (op op' : CO) (ha : SA T k G GV C fa ra da) (hb : SA T k G GV C fb rb db) (hd : SA T k G GV C fd rd dd) : SA T k G GV C (ckChain op op' fa fb fd) true (fun _ r => bnd (da false r) fun x => bnd (db false r) fun y => bnd (opt (cmpP op x y)) fun k =>
      if k then bnd (dd false r) fun z => opt ((cmpP op' y z).map .bl) else ret (.bl false)) := by
  intro X c W t K h
  unfold ckChain at h
  split at h
  · split at h
    · simp only [Bool.and_eq_true, decide_eq_true_eq, Bool.not_eq_true'] at h
      obtain ⟨⟨⟨⟨⟨rfl, rfl⟩, h0⟩, h1⟩, h2⟩, h3⟩ := h
      exact Snd.ofFT (de_chain K.ok.un (ha X c W _ K h1).e (hb X c W _ K h2).e (hd X c W _ K h3).e h0) (dt_chain K.ok.un (ha X c W _ K h1).e (hb X c W _ K h2).e (hd X c W _ K h3).e h0) (fun _ _ _ z => nomatch z) rfl
    · cases h
  · cases h
theorem sa_isN (ha : SA T k G GV C fa ra da) : SA T k G GV C (ckIsN fa) true (fun _ r => bnd (da false r) fun x => ret (.bl (isNonP x))) := by
  intro X c W t K h
  unfold ckIsN at h
  split at h
  · split at h
    · exact Snd.ofFT (de_isN (ha X c W _ K h).e) (dt_isN (ha X c W _ K h).e) (fun _ _ _ z => nomatch z) rfl
    · cases h
  · cases h
theorem sa_notN (ha : SA T k G GV C fa ra da) : SA T k G GV C (ckNotN fa) true (fun _ r => bnd (da false r) fun x => ret (.bl (!isNonP x))) := by
  intro X c W t K h
  unfold ckNotN at h
  split at h
  · split at h
    · exact Snd.ofFT (de_notN (ha X c W _ K h).e) (dt_notN (ha X c W _ K h).e) (fun _ _ _ z => nomatch z) rfl
    · cases h
  · cases h
theorem sa_and (ha : SA T k G GV C fa ra da) (hb : SA T k G GV C fb rb db) : SA T k G GV C (ckAnd fa fb) false (fun _ r => tst (da false r) fun k => if k then db false r else ret (.bl false)) := by
  intro X c W t K h
  unfold ckAnd at h
  split at h
  · split at h
    · rename_i pos op vs x y rr
      simp only [Bool.and_eq_true] at h
      obtain ⟨h1, h2⟩ := h
      have sa := ha X c W _ K h1
      cases rr with
      | nil =>
        have sb := hb X c W _ K h2
        have e := de_and (pos := pos) (rest := []) sa.e (pe_one sb.e)
        have w := dw_and (pos := pos) (rest := []) sa.t (pw_and1 sb.t)
        exact ⟨toO e, e, (fun z => nomatch z), w.pt, fun _ => w, rfl⟩
      | cons z rr =>
        have sb := hb X c W _ K h2
        have e := de_and sa.e sb.e
        have w := dw_and sa.t (sb.w ⟨_, _, _, rfl⟩)
        exact ⟨toO e, e, (fun z => nomatch z), w.pt, fun _ => w, rfl⟩
    · cases h
  · cases h
theorem sa_or (ha : SA T k G GV C fa ra da) (hb : SA T k G GV C fb rb db) : SA T k G GV C (ckOr fa fb) false (fun _ r => tst (da false r) fun k => if k then ret (.bl true) else db false r) := by
  intro X c W t K h
  unfold ckOr at h
  split at h
  · split at h
    · rename_i pos op vs x y rr
      simp only [Bool.and_eq_true] at h
      obtain ⟨h1, h2⟩ := h
      have sa := ha X c W _ K h1
      cases rr with
      | nil =>
        have sb := hb X c W _ K h2
        have e := de_or (pos := pos) (rest := []) sa.e (pe_one sb.e)
        have w := dw_or (pos := pos) (rest := []) sa.t (pw_or1 sb.t)
        exact ⟨toO e, e, (fun z => nomatch z), w.pt, fun _ => w, rfl⟩
      | cons z rr =>
        have sb := hb X c W _ K h2
        have e := de_or sa.e sb.e
        have w := dw_or sa.t (sb.w ⟨_, _, _, rfl⟩)
        exact ⟨toO e, e, (fun z => nomatch z), w.pt, fun _ => w, rfl⟩
    · cases h
  · cases h
theorem sa_not (ha : SA T k G GV C fa ra da) : SA T k G GV C (ckNot fa) true (fun _ r => tst (da false r) fun k => ret (.bl (!k))) := by
  intro X c W t K h
  unfold ckNot at h
  split at h
  · split at h
    · exact Snd.ofFT (de_not (ha X c W _ K h).e) (dt_not (ha X c W _ K h).t) (fun _ _ _ z => nomatch z) rfl
    · cases h
  · cases h
theorem sa_neg (ha : SA T k G GV C fa ra da) : SA T k G GV C (ckNeg fa) true (fun _ r => bnd (da false r) fun x => match x with
    | .int i => ret (.int (-i))
    | _ => stk) := by
  intro X c W t K h
  unfold ckNeg at h
  split at h
  · split at h
    · exact Snd.ofF (de_neg (ha X c W _ K h).e) (fun _ => rfl) (fun _ _ _ z => nomatch z) rfl
    · cases h
  · cases h
theorem sa_ite (hd : SA T k G GV C fd rd dd) (ha : SA T k G GV C fa ra da) (hb : SA T k G GV C fb rb db) : SA T k G GV C (ckIte fd fa fb) false (fun _ r => tst (dd false r) fun k => if k then da false r else db false r) := by
  intro X c W t K h
  unfold ckIte at h
  split at h
  · simp only [Bool.and_eq_true] at h
    obtain ⟨⟨h1, h2⟩, h3⟩ := h
    have s1 := hd X c W _ K h1
    have s2 := ha X c W _ K h2
    have s3 := hb X c W _ K h3
    exact Snd.ofET (de_ite s1.t s2.e s3.e) (dt_ite s1.t s2.t s3.t) (fun _ _ _ z => nomatch z) rfl
  · cases h
theorem sa_ix (ha : SA T k G GV C fa ra da) (hb : SA T k G GV C fb rb db) : SA T k G GV C (ckIx fa fb) false (fun _ r => bnd (da true r) fun x => bnd (db false r) fun y => fun s => opt (ixP s x y) s) := by
  intro X c W t K h
  unfold ckIx at h
  split at h
  · simp only [Bool.and_eq_true] at h
    obtain ⟨⟨h1, h2⟩, h3⟩ := h
    exact Snd.ofE (de_ix K.ok.un (ha X c W _ K h2).o (hb X c W _ K h3).e (ix_plain h1)) (fun _ => rfl) (fun _ _ _ z => nomatch z) rfl
  · cases h
theorem sa_slLo (ha : SA T k G GV C fa ra da) (hb : SA T k G GV C fb rb db) : SA T k G GV C (ckSlLo fa fb) true (fun _ r => bnd (da true r) fun x => bnd (db false r) fun y => opt (slLoP x y)) := by
  intro X c W t K h
  unfold ckSlLo at h
  split at h
  · split at h
    · split at h
      · simp only [Bool.and_eq_true] at h
        exact Snd.ofF (de_slLo (ha X c W _ K h.1).o (hb X c W _ K h.2).e) (fun _ => rfl) (fun _ _ _ z => nomatch z) rfl
      · cases h
    · cases h
  · cases h
theorem sa_slHi (ha : SA T k G GV C fa ra da) (hb : SA T k G GV C fb rb db) : SA T k G GV C (ckSlHi fa fb) true (fun _ r => bnd (da true r) fun x => bnd (db false r) fun y => opt (slHiP x y)) := by
  intro X c W t K h
  unfold ckSlHi at h
  split at h
  · split at h
    · split at h
      · simp only [Bool.and_eq_true] at h
        exact Snd.ofF (de_slHi (ha X c W _ K h.1).o (hb X c W _ K h.2).e) (fun _ => rfl) (fun _ _ _ z => nomatch z) rfl
      · cases h
    · cases h
  · cases h
end
end RP

/-! Fw24: the check of expressions is sound, second half. Own work. -/
namespace RP
open PySem PySem.Spec PyProof.Rows L2
section
variable {T : List (Addr × Str)} {k : Nat} {G : List Den} {GV : List (Str × Nat × Den)} {C : List PV}
variable {fa fb fd : CE} {ra rb rd : Bool} {da db dd : Bool → Fm → M PV} {fs : CEs} {ds : Fm → M (List PV)}
theorem starEach_all {env : Env} : ∀ (ts : List Expr), (∀ x, x ∈ ts → noStar x = true) → ∀ pos, (backTo pos (starEach ts env)).any (·.1) = false := by
  intro ts
  induction ts with
  | nil => intro _ pos; rfl
  | cons t ts ih =>
    intro h pos
    rw [star_cons (h t List.mem_cons_self)]
    cases ts with
    | nil => rfl
    | cons u us =>
      have := ih (fun x hx => h x (List.mem_cons_of_mem _ hx)) pos
      rw [star_cons (h u (List.mem_cons_of_mem _ List.mem_cons_self))] at this ⊢
      simpa [backTo] using this
theorem starOk_all {env : Env} {ts : List Expr} (h : ∀ x, x ∈ ts → noStar x = true) : StarOk env ts := fun e0 e1 e => by
  subst e
  exact ⟨star_cons (h e0 List.mem_cons_self), starEach_all e1 fun x hx => h x (List.mem_cons_of_mem _ hx)⟩
theorem sa_call (j n : Nat) (hs : SAs T k G GV C fs ds) (h0 : ∀ c, fs c [] = false) (hl : ∀ r s vs s', ds r s = .ok vs s' → vs.length = n) : SA T k G GV C (ckCall j fs n) false (fun _ r => bnd (ds r) fun vs => getFn G j vs) := by
  intro X c W t K h
  cases t with
  | Call f as ks pos =>
    cases f with
    | Name x p =>
      cases ks with
      | nil =>
        cases hj : c.fns[j]? with
        | none => simp [ckCall, hj] at h
        | some q =>
          obtain ⟨y, ar, lv⟩ := q
          simp only [ckCall, hj, Bool.and_eq_true, decide_eq_true_eq] at h
          obtain ⟨⟨⟨⟨rfl, h1⟩, h2⟩, rfl⟩, h3⟩ := h
          obtain ⟨p1, p2, p3⟩ := plain_parts h2
          obtain ⟨hp, hn⟩ := hs X c W _ K h3
          cases as with
          | nil => rw [h0] at h3; cases h3
          | cons e es => exact Snd.ofE (de_call K.ok hj (K.gl h1) p1 hp hl (starOk_all hn)) (fun _ => rfl) (fun _ _ _ z => nomatch z) rfl
      | cons _ _ => simp [ckCall] at h
    | _ => simp [ckCall] at h
  | _ => simp [ckCall] at h
theorem sa_call0 (j : Nat) (h0 : ∀ c ts, fs c ts = true → ts = []) : SA T k G GV C (ckCall j fs 0) false (fun _ r => bnd (ret []) fun vs => getFn G j vs) := by
  intro X c W t K h
  cases t with
  | Call f as ks pos =>
    cases f with
    | Name x p =>
      cases ks with
      | nil =>
        cases hj : c.fns[j]? with
        | none => simp [ckCall, hj] at h
        | some q =>
          obtain ⟨y, ar, lv⟩ := q
          simp only [ckCall, hj, Bool.and_eq_true, decide_eq_true_eq] at h
          obtain ⟨⟨⟨⟨rfl, h1⟩, h2⟩, rfl⟩, h3⟩ := h
          obtain ⟨p1, p2, p3⟩ := plain_parts h2
          have := h0 c as h3
          subst this
          exact Snd.ofE (de_call0 K.ok hj (K.gl h1) p1) (fun _ => rfl) (fun _ _ _ z => nomatch z) rfl
      | cons _ _ => simp [ckCall] at h
    | _ => simp [ckCall] at h
  | _ => simp [ckCall] at h
def b1F : B1 → Bool
  | .min => false
  | .max => false
  | .tuplex => false
  | _ => true
theorem sa_b1 (op : B1) (ha : SA T k G GV C fa ra da) : SA T k G GV C (ckB1 op fa) (b1F op) (fun _ r => bnd (da true r) fun x => opt (b1P op x)) := by
  intro X c W t K h
  unfold ckB1 at h
  split at h
  · split at h
    · have hn : ∀ {s : String} {x : Str}, bltB c x (Str.ofString s) = true → x = Str.ofString s ∧ Gl X (Str.ofString s) ∧ X.mg (Str.ofString s) = none := fun hb => K.blt hb
      cases op with
      | sortedSet =>
        dsimp only at h
        split at h
        · split at h
          · simp only [Bool.and_eq_true] at h
            obtain ⟨⟨h1, h2⟩, h3⟩ := h
            obtain ⟨rfl, g1, m1⟩ := hn h1
            obtain ⟨rfl, g2, m2⟩ := hn h2
            have s1 := ha X c W _ K h3
            exact Snd.ofF (de_sset K.ok.un K.ok.calm g1 m1 g2 m2 s1.o (starOk_one s1.ns)) (fun _ => rfl) (fun _ _ _ z => nomatch z) rfl
          · cases h
        · cases h
      | lenSet => cases h
      | len =>
        simp only [Bool.and_eq_true, b1N] at h
        obtain ⟨rfl, g1, m1⟩ := hn h.1
        have s1 := ha X c W _ K h.2
        exact Snd.ofF (de_b1 len_P g1 m1 boot_len s1.o (by decide) (by decide) (starOk_one s1.ns)) (fun _ => rfl) (fun _ _ _ z => nomatch z) rfl
      | list =>
        simp only [Bool.and_eq_true, b1N] at h
        obtain ⟨rfl, g1, m1⟩ := hn h.1
        have s1 := ha X c W _ K h.2
        exact Snd.ofF (de_t1 (listD_P K.ok.calm) g1 m1 PyProof.Rows.boot_list s1.o (by decide) (by decide) (starOk_one s1.ns)) (fun _ => rfl) (fun _ _ _ z => nomatch z) rfl
      | tuple =>
        simp only [Bool.and_eq_true, b1N] at h
        obtain ⟨rfl, g1, m1⟩ := hn h.1
        have s1 := ha X c W _ K h.2
        exact Snd.ofF (de_t1 tuple_P g1 m1 PyProof.Rows.boot_tuple s1.o (by decide) (by decide) (starOk_one s1.ns)) (fun _ => rfl) (fun _ _ _ z => nomatch z) rfl
      | tuplex =>
        simp only [Bool.and_eq_true, b1N] at h
        obtain ⟨rfl, g1, m1⟩ := hn h.1
        have s1 := ha X c W _ K h.2
        exact Snd.ofE (de_t1 tuplex_P g1 m1 PyProof.Rows.boot_tuple s1.o (by decide) (by decide) (starOk_one s1.ns)) (fun _ => rfl) (fun _ _ _ z => nomatch z) rfl
      | sorted =>
        simp only [Bool.and_eq_true, b1N] at h
        obtain ⟨rfl, g1, m1⟩ := hn h.1
        have s1 := ha X c W _ K h.2
        exact Snd.ofF (de_b1 (sorted_P K.ok.un K.ok.calm) g1 m1 PyProof.Rows.boot_sorted s1.o (by decide) (by decide) (starOk_one s1.ns)) (fun _ => rfl) (fun _ _ _ z => nomatch z) rfl
      | dict =>
        simp only [Bool.and_eq_true, b1N] at h
        obtain ⟨rfl, g1, m1⟩ := hn h.1
        have s1 := ha X c W _ K h.2
        exact Snd.ofF (de_t1 (dict_P K.ok.un K.ok.calm) g1 m1 PyProof.Rows.boot_dict s1.o (by decide) (by decide) (starOk_one s1.ns)) (fun _ => rfl) (fun _ _ _ z => nomatch z) rfl
      | sum =>
        simp only [Bool.and_eq_true, b1N] at h
        obtain ⟨rfl, g1, m1⟩ := hn h.1
        have s1 := ha X c W _ K h.2
        exact Snd.ofF (de_b1 (sum_P K.ok.calm) g1 m1 boot_sum s1.o (by decide) (by decide) (starOk_one s1.ns)) (fun _ => rfl) (fun _ _ _ z => nomatch z) rfl
      | min =>
        simp only [Bool.and_eq_true, b1N] at h
        obtain ⟨rfl, g1, m1⟩ := hn h.1
        have s1 := ha X c W _ K h.2
        exact Snd.ofE (de_b1 (min_P K.ok.un K.ok.calm) g1 m1 boot_min s1.o (by decide) (by decide) (starOk_one s1.ns)) (fun _ => rfl) (fun _ _ _ z => nomatch z) rfl
      | max =>
        simp only [Bool.and_eq_true, b1N] at h
        obtain ⟨rfl, g1, m1⟩ := hn h.1
        have s1 := ha X c W _ K h.2
        exact Snd.ofE (de_b1 (max_P K.ok.un K.ok.calm) g1 m1 boot_max s1.o (by decide) (by decide) (starOk_one s1.ns)) (fun _ => rfl) (fun _ _ _ z => nomatch z) rfl
      | all =>
        simp only [Bool.and_eq_true, b1N] at h
        obtain ⟨rfl, g1, m1⟩ := hn h.1
        have s1 := ha X c W _ K h.2
        exact Snd.ofF (de_b1 (all_P K.ok.calm) g1 m1 boot_all s1.o (by decide) (by decide) (starOk_one s1.ns)) (fun _ => rfl) (fun _ _ _ z => nomatch z) rfl
      | any =>
        simp only [Bool.and_eq_true, b1N] at h
        obtain ⟨rfl, g1, m1⟩ := hn h.1
        have s1 := ha X c W _ K h.2
        exact Snd.ofF (de_b1 (any_P K.ok.calm) g1 m1 boot_any s1.o (by decide) (by decide) (starOk_one s1.ns)) (fun _ => rfl) (fun _ _ _ z => nomatch z) rfl
      | int =>
        simp only [Bool.and_eq_true, b1N] at h
        obtain ⟨rfl, g1, m1⟩ := hn h.1
        have s1 := ha X c W _ K h.2
        exact Snd.ofF (de_t1 int_P g1 m1 PyProof.Rows.boot_int s1.o (by decide) (by decide) (starOk_one s1.ns)) (fun _ => rfl) (fun _ _ _ z => nomatch z) rfl
      | bool =>
        simp only [Bool.and_eq_true, b1N] at h
        obtain ⟨rfl, g1, m1⟩ := hn h.1
        have s1 := ha X c W _ K h.2
        exact Snd.ofF (de_t1 bool_P g1 m1 PyProof.Rows.boot_bool s1.o (by decide) (by decide) (starOk_one s1.ns)) (fun _ => rfl) (fun _ _ _ z => nomatch z) rfl
      | abs =>
        simp only [Bool.and_eq_true, b1N] at h
        obtain ⟨rfl, g1, m1⟩ := hn h.1
        have s1 := ha X c W _ K h.2
        exact Snd.ofF (de_b1 abs_P g1 m1 PyProof.Rows.boot_abs s1.o (by decide) (by decide) (starOk_one s1.ns)) (fun _ => rfl) (fun _ _ _ z => nomatch z) rfl
    · cases h
  · cases h
theorem sa_min2 (ha : SA T k G GV C fa ra da) (hb : SA T k G GV C fb rb db) : SA T k G GV C (ckMin2 fa fb) false (fun _ r => bnd (da false r) fun x => bnd (db false r) fun y => match x, y with
    | .int i, .int j => ret (.int (if j < i then j else i))
    | _, _ => stk) := by
  intro X c W t K h
  unfold ckMin2 at h
  split at h
  · split at h
    · simp only [Bool.and_eq_true] at h
      obtain ⟨⟨h1, h2⟩, h3⟩ := h
      obtain ⟨rfl, g1, m1⟩ := K.blt h1
      have s1 := ha X c W _ K h2
      have s2 := hb X c W _ K h3
      exact (Snd.ofF (de_min2 K.ok.calm g1 m1 boot_min s1.e s2.e (by decide) (by decide) (starOk_all (by intro x hx; simp at hx; rcases hx with rfl | rfl; exact s1.ns; exact s2.ns)) (starOk_one s2.ns)) (fun _ => rfl) (fun _ _ _ z => nomatch z) rfl).weak
    · cases h
  · cases h
theorem sa_min2t (ha : SA T k G GV C fa ra da) (hb : SA T k G GV C fb rb db) : SA T k G GV C (ckMin2t fa fb) false (fun _ r => bnd (da false r) fun x => bnd (db false r) fun y => opt (if ordOk [x, y] then minP x [y] else none)) := by
  intro X c W t K h
  unfold ckMin2t ckMin2 at h
  split at h
  · split at h
    · simp only [Bool.and_eq_true] at h
      obtain ⟨⟨h1, h2⟩, h3⟩ := h
      obtain ⟨rfl, g1, m1⟩ := K.blt h1
      have s1 := ha X c W _ K h2
      have s2 := hb X c W _ K h3
      exact Snd.ofE (de_min2t K.ok.un K.ok.calm g1 m1 boot_min s1.e s2.e (by decide) (by decide) (starOk_all (by intro x hx; simp at hx; rcases hx with rfl | rfl; exact s1.ns; exact s2.ns)) (starOk_one s2.ns)) (fun _ => rfl) (fun _ _ _ z => nomatch z) rfl
    · cases h
  · cases h
theorem sa_max2 (ha : SA T k G GV C fa ra da) (hb : SA T k G GV C fb rb db) : SA T k G GV C (ckMax2 fa fb) false (fun _ r => bnd (da false r) fun x => bnd (db false r) fun y => match x, y with
    | .int i, .int j => ret (.int (if j > i then j else i))
    | _, _ => stk) := by
  intro X c W t K h
  unfold ckMax2 at h
  split at h
  · split at h
    · simp only [Bool.and_eq_true] at h
      obtain ⟨⟨h1, h2⟩, h3⟩ := h
      obtain ⟨rfl, g1, m1⟩ := K.blt h1
      have s1 := ha X c W _ K h2
      have s2 := hb X c W _ K h3
      exact (Snd.ofF (de_max2 K.ok.calm g1 m1 boot_max s1.e s2.e (by decide) (by decide) (starOk_all (by intro x hx; simp at hx; rcases hx with rfl | rfl; exact s1.ns; exact s2.ns)) (starOk_one s2.ns)) (fun _ => rfl) (fun _ _ _ z => nomatch z) rfl).weak
    · cases h
  · cases h
theorem boot_ty (t : Ty) : bootBuiltins (Str.ofString (tyName t)) = some (.type (tyName t)) ∧ Str.ofString (tyName t) ≠ "__name__" ∧ ((Str.ofString (tyName t)) == ("__debug__" : Str)) = false := by
  cases t <;> exact ⟨by decide +kernel, by decide +kernel, by decide +kernel⟩
theorem sa_isinst (ty : Ty) (ha : SA T k G GV C fa ra da) : SA T k G GV C (ckIsinst ty fa) true (fun _ r => bnd (da true r) fun x => opt ((isTyP ty x).map .bl)) := by
  intro X c W t K h
  unfold ckIsinst at h
  split at h
  · split at h
    · simp only [Bool.and_eq_true] at h
      obtain ⟨⟨h1, h2⟩, h3⟩ := h
      obtain ⟨rfl, g1, m1⟩ := K.blt h1
      obtain ⟨rfl, g2, m2⟩ := K.blt h2
      have s1 := ha X c W _ K h3
      obtain ⟨b1, b2, b3⟩ := boot_ty ty
      exact Snd.ofF (de_isinst g1 m1 boot_isinstance g2 m2 b1 s1.o (by decide) (by decide) b2 b3 (starOk_all (by intro x hx; simp at hx; rcases hx with rfl | rfl; exact s1.ns; rfl))) (fun _ => rfl) (fun _ _ _ z => nomatch z) rfl
    · cases h
  · cases h
theorem sa_idx (ha : SA T k G GV C fa ra da) (hb : SA T k G GV C fb rb db) : SA T k G GV C (ckIdx fa fb) true (fun _ r => bnd (da true r) fun x => if seqX x then bnd (db false r) fun y => opt (ixOf x y) else stk) := by
  intro X c W t K h
  unfold ckIdx at h
  split at h
  · split at h
    · simp only [Bool.and_eq_true, decide_eq_true_eq] at h
      obtain ⟨⟨⟨⟨rfl, h1⟩, h2⟩, h3⟩, h4⟩ := h
      have s2 := hb X c W _ K h4
      exact Snd.ofF (de_idx K.ok.un (ha X c W _ K h3).o s2.e (attr_plain h2) h1 (star_one s2.ns)) (fun _ => rfl) (fun _ _ _ z => nomatch z) rfl
    · cases h
  · cases h
theorem sa_litget (ps : List (Str × Str)) (d : Str) (ha : SA T k G GV C fa ra da) : SA T k G GV C (ckLitget ps fa d) true (fun _ r => bnd (da false r) fun x => opt (litP ps d x)) := by
  intro X c W t K h
  unfold ckLitget at h
  split at h
  · split at h
    · simp only [Bool.and_eq_true, decide_eq_true_eq, Bool.not_eq_true'] at h
      obtain ⟨⟨⟨⟨⟨⟨⟨⟨rfl, h1⟩, rfl⟩, rfl⟩, rfl⟩, rfl⟩, rfl⟩, h2⟩, h3⟩ := h
      have s1 := ha X c W _ K h3
      refine Snd.ofF (de_litget K.ok.un s1.e h2 ⟨rfl, ?_, h1, ?_⟩) (fun _ => rfl) (fun _ _ _ z => nomatch z) rfl
      · rw [star_cons s1.ns]; rfl
      · rw [star_cons s1.ns]; rfl
    · cases h
  · cases h
end
end RP

/-! Fw24b: list(range(n)). Own work. -/
namespace RP
open PySem PySem.Spec PyProof.Rows L2
theorem reps_rg {S : Sy} {G : Hp} {m : List Addr} : ∀ (n : Nat) (a : Int), Reps S G m (rangeP a n) ((List.range n).map fun i : Nat => V.int (a + (i : Nat)))
  | 0, _ => .nil
  | n + 1, a => by
    have h := reps_rg (S := S) (G := G) (m := m) n (a + 1)
    have e : ((List.range (n + 1)).map fun i : Nat => V.int (a + (i : Nat))) = V.int a :: (List.range n).map fun i : Nat => V.int (a + 1 + (i : Nat)) := by
      rw [List.range_succ_eq_map, List.map_cons, List.map_map]
      congr 1
      · congr 1
        omega
      · refine List.map_congr_left fun i _ => ?_
        show V.int (a + ((i + 1 : Nat) : Int)) = V.int (a + 1 + (i : Int))
        congr 1
        omega
    rw [rangeP, e]
    exact .cons (.int a) h
section
variable {X : Cx} {T : List (Addr × Str)} {W : XK} {pos : Pos}
theorem de_lrange {a : Expr} {da : Fm → M PV} {p1 p2 q1 : Pos} (hc : X.calm = true) (hg : Gl X "list") (hm : X.mg "list" = none) (hg2 : Gl X "range") (hm2 : X.mg "range" = none) (ha : PE X a (tD (sy X T) .E W da)) (na : starEach [a] X.env = (false, eval a X.env) :: starEach [] X.env) :
    PE X (.Call (.Name "list" p1) [.Call (.Name "range" p2) [a] [] q1] [] pos) (tD (sy X T) .F W fun r => bnd (da r) fun x => match x with
      | .int n => if -1000000 ≤ n ∧ n ≤ 1000000 then RP.ret (.lst (rangeP 0 n.toNat)) else stk
      | _ => stk) := by
  refine (pe_listRg hc hg hm (prg_1 (pos := q1) hg2 hm2 ha na)).imp fun σ H Q ⟨G, m, s, H₀, r, at0, p⟩ => ?_
  refine ⟨G, m, s, H₀, r, at0, p.step (good_M _ _) fun x s1 G1 m1 H1 v e1 wd1 rx p1 => ?_⟩
  cases x with
  | int n =>
    cases rx
    dsimp only at p1
    by_cases c : -1000000 ≤ n ∧ n ≤ 1000000
    · rw [if_pos c] at p1
      refine ⟨n, rfl, ⟨by omega, by omega, by omega, by omega, by omega⟩, fun q hq => fin_lst wd1 p1 hq ?_⟩
      have h := reps_rg (S := sy X T) (G := G1) (m := m1) n.toNat 0
      have e : (n - 0).toNat = n.toNat := by omega
      unfold rgV
      rw [e]
      exact h
    · rw [if_neg c] at p1
      exact p1.elim
  | _ => exact p1.elim
end
section
variable {T : List (Addr × Str)} {k : Nat} {G : List Den} {GV : List (Str × Nat × Den)} {C : List PV} {fa : CE} {ra : Bool} {da : Bool → Fm → M PV}
theorem sa_lrange (ha : SA T k G GV C fa ra da) : SA T k G GV C (ckLrange fa) true (fun _ r => bnd (da false r) fun x => match x with
      | .int n => if -1000000 ≤ n ∧ n ≤ 1000000 then RP.ret (.lst (rangeP 0 n.toNat)) else stk
      | _ => stk) := by
  intro X c W t K h
  unfold ckLrange at h
  split at h
  · simp only [Bool.and_eq_true] at h
    obtain ⟨⟨h1, h2⟩, h3⟩ := h
    obtain ⟨rfl, g1, m1⟩ := K.blt h1
    obtain ⟨rfl, g2, m2⟩ := K.blt h2
    have s1 := ha X c W _ K h3
    exact Snd.ofF (de_lrange K.ok.calm g1 m1 g2 m2 s1.e (star_one s1.ns)) (fun _ => rfl) (fun _ _ _ z => nomatch z) rfl
  · cases h
end
end RP

/-! Fz1: list(zip(a, b)) of two lists, at the library's level. Own work (lines of the library's list of items turned to it). -/
namespace RP
open PySem PySem.Calls PyProof.Rows PyProof.V PySem.Spec PySem.W
abbrev ZSt (z TI TO i1 i2 l1 l2 S : Addr) (xs ys : Array Value) (i : Nat) (h : Heap) : Prop := IsPair h TI (.ref i1) (.ref i2) ∧ h.IsListIter i1 l1 i ∧ h.IsListIter i2 l2 i ∧ h.IsList l1 xs ∧ h.IsList l2 ys ∧
  ((IsZip h z TI TO .none ∧ ∃ a b, IsPair h TO a b) ∨ ∃ T f oT, IsZipHeld h z TI TO T f ∧ h.get? T = some oT ∧ T ≠ z ∧ T ≠ i1 ∧ T ≠ i2 ∧ T ≠ S)
structure ZApart (z TI TO i1 i2 l1 l2 S : Addr) : Prop where
  D : ZipApart z TI TO i1 i2 l1 l2
  z : S ≠ z
  TI : S ≠ TI
  TO : S ≠ TO
  i1 : S ≠ i1
  i2 : S ≠ i2
  l1 : S ≠ l1
  l2 : S ≠ l2
theorem zs_keep {z TI TO i1 i2 l1 l2 S : Addr} {xs ys : Array Value} {i : Nat} {h h' : Heap} (D : ZApart z TI TO i1 i2 l1 l2 S) (st : ZSt z TI TO i1 i2 l1 l2 S xs ys i h) (hk : ∀ b o, b ≠ S → h.get? b = some o → h'.get? b = some o) : ZSt z TI TO i1 i2 l1 l2 S xs ys i h' := by
  obtain ⟨hTI, h1, h2, hl1, hl2, hz⟩ := st
  refine ⟨hk _ _ (Ne.symm D.TI) hTI, h1.at fun o e => hk _ o (Ne.symm D.i1) e, h2.at fun o e => hk _ o (Ne.symm D.i2) e, hl1.at fun o e => hk _ o (Ne.symm D.l1) e, hl2.at fun o e => hk _ o (Ne.symm D.l2) e, ?_⟩
  rcases hz with ⟨hz, a, b, hTO⟩ | ⟨T, f, oT, hz, hT, r1, r2, r3, r4⟩
  · exact .inl ⟨hk _ _ (Ne.symm D.z) hz, a, b, hk _ _ (Ne.symm D.TO) hTO⟩
  · exact .inr ⟨T, f, oT, hk _ _ (Ne.symm D.z) hz, hk _ _ r4 hT, r1, r2, r3, r4⟩
section
variable {prog : Program} {w : World} {A : Around} {E : Value → Shared → Prop} {s : Shared} {z TI TO i1 i2 l1 l2 S : Addr} {xs ys : Array Value} {i : Nat}
theorem zl_item {x y : Value} {Q : Option Value → Shared → Prop} (D : ZApart z TI TO i1 i2 l1 l2 S) (st : ZSt z TI TO i1 i2 l1 l2 S xs ys i s.heap) (ex : xs[i]? = some x) (ey : ys[i]? = some y) (hS : S < s.heap.objs.size)
    (hQ : ∀ h', ZSt z TI TO i1 i2 l1 l2 S xs ys (i + 1) h' → IsPair h' s.heap.objs.size x y → h'.objs.size = s.heap.objs.size + 1 → (∀ c o, c ≠ z → c ≠ TO → c ≠ i1 → c ≠ i2 → s.heap.get? c = some o → h'.get? c = some o) → Q (some (.ref s.heap.objs.size)) { s with heap := h' }) :
    wpAny (model prog w) A (pyNext (.ref z)) Q E s := by
  obtain ⟨hTI, h1, h2, hl1, hl2, hz⟩ := st
  have lt : ∀ {c o}, s.heap.get? c = some o → s.heap.objs.size ≠ c := fun e => Nat.ne_of_gt (Heap.lt_size e)
  have n1 : s.heap.objs.size ≠ i1 := let ⟨_, e, _⟩ := h1; lt e
  have n2 : s.heap.objs.size ≠ i2 := let ⟨_, e, _⟩ := h2; lt e
  rcases hz with ⟨hz, a, b, hTO⟩ | ⟨T, f, oT, hz, hT, r1, r2, r3, r4⟩
  · refine wpAny_pyNext_zip_item D.D hz hTI hTO h1 h2 hl1 hl2 ex ey fun h' a1 a2 a3 a4 a5 a6 hk => ?_
    exact hQ h' ⟨hk _ _ D.D.TIz D.D.TITO D.D.TIi1 D.D.TIi2 hTI, a3, a4, hl1.at fun o e => hk _ o D.D.l1z D.D.l1TO D.D.l1i1 D.D.l1i2 e, hl2.at fun o e => hk _ o D.D.l2z D.D.l2TO D.D.l2i1 D.D.l2i2 e,
        .inr ⟨s.heap.objs.size, false, _, a1, a5, lt hz, n1, n2, Nat.ne_of_gt hS⟩⟩ a5 a6 fun c o c1 c2 c3 c4 e => hk c o c1 c2 c3 c4 e
  · refine wpAny_pyNext_zip_item_held D.D hz hT hTI h1 h2 hl1 hl2 ex ey fun h' a1 a3 a4 a5 a6 hk => ?_
    exact hQ h' ⟨hk _ _ D.D.TIz D.D.TIi1 D.D.TIi2 hTI, a3, a4, hl1.at fun o e => hk _ o D.D.l1z D.D.l1i1 D.D.l1i2 e, hl2.at fun o e => hk _ o D.D.l2z D.D.l2i1 D.D.l2i2 e,
        .inr ⟨T, true, oT, a1, hk _ _ r1 r2 r3 hT, r1, r2, r3, r4⟩⟩ a5 a6 fun c o c1 _ c3 c4 e => hk c o c1 c3 c4 e
theorem zl_done {Q : Option Value → Shared → Prop} (hA : A.handled = none) (D : ZApart z TI TO i1 i2 l1 l2 S) (st : ZSt z TI TO i1 i2 l1 l2 S xs ys i s.heap) (hend : xs[i]? = none ∨ ys[i]? = none)
    (hQ : ∀ h', (∀ c o, c ≠ z → c ≠ TO → c ≠ i1 → c ≠ i2 → s.heap.get? c = some o → h'.get? c = some o) → Q none { s with heap := h' }) : wpAny (model prog w) A (pyNext (.ref z)) Q E s := by
  obtain ⟨hTI, h1, h2, hl1, hl2, hz⟩ := st
  rcases hz with ⟨hz, a, b, hTO⟩ | ⟨T, f, oT, hz, hT, r1, r2, r3, r4⟩
  · exact wpAny_pyNext_zip_end hA D.D hz hTI hTO h1 h2 hl1 hl2 hend fun h' hk => hQ h' fun c o c1 c2 c3 c4 e => hk c o c1 c2 c3 c4 e
  · exact wpAny_pyNext_zip_end_held hA D.D hz hT hTI h1 h2 hl1 hl2 hend fun h' hk => hQ h' fun c o c1 _ c3 c4 e => hk c o c1 c3 c4 e
end
/-- the pairs at their addresses -/
structure ZG (xs ys : Array Value) (lo : Addr) (h : Heap) (as : List Addr) : Prop where
  rise : as.Pairwise (· < ·)
  above : ∀ a ∈ as, lo ≤ a
  pairs : ∀ (j : Nat) (a : Addr), as[j]? = some a → ∃ x y, xs[j]? = some x ∧ ys[j]? = some y ∧ IsPair h a x y
theorem ZG.there {xs ys : Array Value} {lo : Addr} {h : Heap} {as : List Addr} (g : ZG xs ys lo h as) {a : Addr} (ha : a ∈ as) : a < h.objs.size := by
  obtain ⟨j, hj⟩ := List.mem_iff_getElem?.mp ha
  obtain ⟨_, _, _, _, e⟩ := g.pairs j a hj
  exact Heap.lt_size e
section
variable {prog : Program} {w : World} {A : Around} {s : Shared} {R : Result → Shared → Prop} {z TI TO i1 i2 l1 l2 : Addr} {xs ys : Array Value}
theorem zl_loop {S lo : Addr} (hh : A.handled = none) (D : ZApart z TI TO i1 i2 l1 l2 S) (hSl : S < lo) (hzl : z < lo) (hTl : TO < lo) (h1l : i1 < lo) (h2l : i2 < lo) (hn : min xs.size ys.size ≤ sizeLine) (res : Value) {h₁ : Heap}
    (hR : ∀ (h' : Heap) (tk : Nat) (acc : Array Value) (c : Nat) (as : List Addr), (∀ b o, b ≠ S → b ≠ z → b ≠ TO → b ≠ i1 → b ≠ i2 → h₁.get? b = some o → h'.get? b = some o) → h'.get? S = some { cls := .type "list", dict := none, data := .seq acc c, slots := #[] } → as.length = min xs.size ys.size → ZG xs ys lo h' as →
      acc.toList = as.map Value.ref → R (.ok (.ret res)) { s with heap := h', toks := tk }) :
    ∀ (k i : Nat) (h : Heap) (tk c : Nat) (acc : Array Value) (as : List Addr), min xs.size ys.size - i = k → i ≤ min xs.size ys.size → ZSt z TI TO i1 i2 l1 l2 S xs ys i h → (∀ b o, b ≠ S → b ≠ z → b ≠ TO → b ≠ i1 → b ≠ i2 → h₁.get? b = some o → h.get? b = some o) →
      h.get? S = some { cls := .type "list", dict := none, data := .seq acc c, slots := #[] } → acc.toList = as.map Value.ref → as.length = i → ZG xs ys lo h as → lo ≤ h.objs.size →
      codeAny (model prog w) A (.builtin "list.extend.loop" ⟨[.ref S, .ref z, res], []⟩) R { s with heap := h, toks := tk } := by
  intro k
  induction k with
  | zero =>
    intro i h tk c acc as hk hi hst hkeep hS hacc hal hG hIs
    have hin : i = min xs.size ys.size := by omega
    have hend : xs[i]? = none ∨ ys[i]? = none := by
      rcases Nat.le_total xs.size ys.size with h | h
      · exact .inl (Array.getElem?_eq_none (by omega))
      · exact .inr (Array.getElem?_eq_none (by omega))
    refine codeAny_builtin PySem.F.entry_extend_loop ?_
    rw [Around.under_plainId PySem.F.plain_extend_loop _]
    show wpAny _ A.in1 (pyNext (.ref z) >>= _) _ _ _
    refine wpAny_bind (zl_done (s := { s with heap := h, toks := tk }) (A := A.in1) hh D hst hend fun h' he => ?_)
    refine wpAny_pure (hR h' tk acc c as (fun b o b0 b1 b2 b3 b4 e => he b o b1 b2 b3 b4 (hkeep b o b0 b1 b2 b3 b4 e)) (he S _ D.z D.TO D.i1 D.i2 hS) (by omega) ⟨hG.rise, hG.above, fun j a hj => ?_⟩ hacc)
    obtain ⟨x, y, e1, e2, e3⟩ := hG.pairs j a hj
    have ha := hG.above a (List.mem_of_getElem? hj)
    exact ⟨x, y, e1, e2, he a _ (Nat.ne_of_gt (Nat.lt_of_lt_of_le hzl ha)) (Nat.ne_of_gt (Nat.lt_of_lt_of_le hTl ha)) (Nat.ne_of_gt (Nat.lt_of_lt_of_le h1l ha)) (Nat.ne_of_gt (Nat.lt_of_lt_of_le h2l ha)) e3⟩
  | succ k ih =>
    intro i h tk c acc as hk hi hst hkeep hS hacc hal hG hIs
    have hltx : i < xs.size := by omega
    have hlty : i < ys.size := by omega
    have hsz : acc.size = i := by rw [← Array.length_toList, hacc, List.length_map, hal]
    refine codeAny_builtin PySem.F.entry_extend_loop ?_
    rw [Around.under_plainId PySem.F.plain_extend_loop _]
    show wpAny _ A.in1 (pyNext (.ref z) >>= _) _ _ _
    refine wpAny_bind (zl_item (s := { s with heap := h, toks := tk }) (A := A.in1) D hst (Array.getElem?_eq_getElem hltx) (Array.getElem?_eq_getElem hlty) (Heap.lt_size hS) fun h' hst' ht hz hkp => ?_)
    dsimp only at ht hz hkp ⊢
    have hS' := hkp S _ D.z D.TO D.i1 D.i2 hS
    have up : ∀ b o, b ≠ S → h'.get? b = some o → (h'.update S (Obj.mapSeq (·.push (Value.ref h.objs.size)))).get? b = some o := fun b o hb e => (Heap.get?_update_other _ _ (Ne.symm hb)).trans e
    have hSl2 : S < h.objs.size := Heap.lt_size hS
    show wpAny _ A.in1 (updateSeq S (·.push (Value.ref h.objs.size)) >>= _) _ _ _
    refine wpAny_bind ?_
    refine wpAny_updateSeq hS' rfl (wpAny_pure ⟨plainId_quiet PySem.F.plain_extend_loop _, ih (i + 1) _ tk _ (acc.push (Value.ref h.objs.size)) (as ++ [h.objs.size]) (by omega) (by omega) (zs_keep D hst' up)
      (fun b o b0 b1 b2 b3 b4 e => up b o b0 (hkp b o b1 b2 b3 b4 (hkeep b o b0 b1 b2 b3 b4 e))) (Heap.get?_update_self _ hS' rfl) (by rw [Array.toList_push, hacc, List.map_append]; rfl) (by rw [List.length_append, hal]; rfl) ⟨?_, ?_, ?_⟩ ?_⟩) (by rw [hsz]; omega) (by show (acc.push (Value.ref h.objs.size)).size ≤ sizeLine + 1; rw [Array.size_push, hsz]; omega)
    · refine List.pairwise_append.mpr ⟨hG.rise, List.pairwise_singleton _ _, fun a ha b hb => ?_⟩
      rw [List.mem_singleton.mp hb]
      exact hG.there ha
    · intro a ha
      rcases List.mem_append.mp ha with ha | ha
      · exact hG.above a ha
      · rw [List.mem_singleton.mp ha]; exact hIs
    · intro j b hj
      rcases Nat.lt_trichotomy j as.length with h1 | h1 | h1
      · rw [List.getElem?_append_left h1] at hj
        obtain ⟨x', y', e1, e2, e3⟩ := hG.pairs j b hj
        have hb := hG.above b (List.mem_of_getElem? hj)
        exact ⟨x', y', e1, e2, up b _ (Nat.ne_of_gt (Nat.lt_of_lt_of_le hSl hb)) (hkp b _ (Nat.ne_of_gt (Nat.lt_of_lt_of_le hzl hb)) (Nat.ne_of_gt (Nat.lt_of_lt_of_le hTl hb)) (Nat.ne_of_gt (Nat.lt_of_lt_of_le h1l hb)) (Nat.ne_of_gt (Nat.lt_of_lt_of_le h2l hb)) e3)⟩
      · subst h1
        have hb : h.objs.size = b := by simpa using hj
        subst hb
        exact ⟨_, _, by rw [hal]; exact Array.getElem?_eq_getElem hltx, by rw [hal]; exact Array.getElem?_eq_getElem hlty, up _ _ (Nat.ne_of_gt hSl2) ht⟩
      · have hnone : (as ++ [h.objs.size])[j]? = none := List.getElem?_eq_none (by rw [List.length_append, List.length_singleton]; omega)
        rw [hnone] at hj; cases hj
    · have e : (h'.update S (Obj.mapSeq (·.push (Value.ref h.objs.size)))).get? h.objs.size = _ := up _ _ (Nat.ne_of_gt hSl2) ht
      exact Nat.le_of_lt (Nat.lt_of_le_of_lt hIs (Heap.lt_size e))
end
theorem zl_len : typeLookup (.type "zip") "__len__" = pure none := by rw [typeLookup_type, builtinLookup_eq_fast]; kernel_rfl
theorem zl_hint0 : typeLookup (.type "zip") "__length_hint__" = pure none := by rw [typeLookup_type, builtinLookup_eq_fast]; kernel_rfl
section
variable {prog : Program} {w : World} {A : Around} {E : Value → Shared → Prop} {s : Shared} {z TI TO i1 i2 l1 l2 : Addr} {xs ys : Array Value}
theorem zl_extend {S lo : Addr} {R : Result → Shared → Prop} (hh : A.handled = none) (D : ZApart z TI TO i1 i2 l1 l2 S) (hSl : S < lo) (hzl : z < lo) (hTl : TO < lo) (h1l : i1 < lo) (h2l : i2 < lo) (hn : min xs.size ys.size ≤ sizeLine) (hz : IsZip s.heap z TI TO .none) (hst : ZSt z TI TO i1 i2 l1 l2 S xs ys 0 s.heap) (hlo : lo ≤ s.heap.objs.size) (res : Value) (c₀ : Nat) (hS : s.heap.get? S = some { cls := .type "list", data := .seq #[] c₀ })
    (hR : ∀ (h' : Heap) (tk : Nat) (acc : Array Value) (c : Nat) (as : List Addr), (∀ b o, b ≠ S → b ≠ z → b ≠ TO → b ≠ i1 → b ≠ i2 → s.heap.get? b = some o → h'.get? b = some o) → h'.get? S = some { cls := .type "list", dict := none, data := .seq acc c, slots := #[] } → as.length = min xs.size ys.size → ZG xs ys lo h' as →
      acc.toList = as.map Value.ref → R (.ok (.ret res)) { s with heap := h', toks := tk }) :
    wpAny (model prog w) A.in1 (Builtin.List.listExtendWith (.ref S) (.ref z) res)
      (fun fin s' => match fin with | .done f => R (.ok f) s' | .again c' => c'.quiet = true ∧ codeAny (model prog w) A c' R s') (fun e s' => R (.error e) s') s := by
  have hT : s.TypeIs (.ref z) "zip" := ⟨_, hz, rfl⟩
  have key : ∀ (h : Heap) (c₁ tk : Nat), (∀ b o, b ≠ S → s.heap.get? b = some o → h.get? b = some o) → lo ≤ h.objs.size → h.get? S = some { cls := .type "list", data := .seq #[] c₁ } → codeAny (model prog w) A (.builtin "list.extend.loop" ⟨[.ref S, .ref z, res], []⟩) R { s with heap := h, toks := tk } := by
    intro h c₁ tk hk hl hS₁
    exact zl_loop (s := s) (h₁ := s.heap) hh D hSl hzl hTl h1l h2l hn res hR _ 0 h tk c₁ #[] [] (Nat.sub_zero _) (Nat.zero_le _) (zs_keep D hst hk) (fun b o b0 _ _ _ _ e => hk b o b0 e) hS₁ rfl rfl ⟨List.Pairwise.nil, (fun _ ha => nomatch ha), (fun j a hj => by simp at hj)⟩ hl
  unfold Builtin.List.listExtendWith
  refine wpAny_bind (wpAny_typeOf (T := "zip") hT ?_)
  have h1 : Builtin.List.listSameRef (.ref S) (.ref z) = false := by simp [Builtin.List.listSameRef, D.z]
  have h2 : (Value.type "zip" == Value.type "list") = false := by decide
  have h3 : (Value.type "zip" == Value.type "tuple") = false := by decide
  simp only [h1, h2, h3, Bool.or_false, Bool.false_eq_true, if_false]
  refine wpAny_bind (wpAny_pyIter_zip hz ?_)
  refine wpAny_bind (wpAny_holding ?_)
  unfold Builtin.List.listLengthHint
  refine wpAny_bind (wpAny_specialOf hT zl_len ?_)
  show wpAny _ A.in1 (specialOf (Value.ref z) (Str.ofString "__length_hint__") >>= _) _ _ _
  refine wpAny_bind (wpAny_specialOf hT zl_hint0 ?_)
  refine wpAny_pure ?_
  show wpAny _ A.in1 (rule "list.extend.makes-room" >>= fun _ => Builtin.List.listTouch (.ref S) >>= fun _ =>
    again (.builtin "list.extend.loop" ⟨[.ref S, .ref z, res], []⟩)) _ _ _
  refine wpAny_bind (wpAny_rule ?_)
  refine wpAny_bind ?_
  show wpAny _ A.in1 (updateSeq S (·.push .none) >>= fun _ => updateSeq S (·.pop)) _ _ _
  refine wpAny_bind (wpAny_updateSeq hS rfl ?_)
  have hS₂ := Heap.get?_update_self (Obj.mapSeq (·.push Value.none)) hS rfl
  refine wpAny_updateSeq (hz := by seq_fits) hS₂ rfl ?_
  have hS₃ := Heap.get?_update_self (Obj.mapSeq (·.pop)) hS₂ rfl
  have oth : ∀ b o, b ≠ S → s.heap.get? b = some o → ((s.heap.update S (Obj.mapSeq (·.push Value.none))).update S (Obj.mapSeq (·.pop))).get? b = some o :=
    fun b o hb e => (Heap.get?_update_other _ _ (Ne.symm hb)).trans ((Heap.get?_update_other _ _ (Ne.symm hb)).trans e)
  refine wpAny_pure ⟨plainId_quiet PySem.F.plain_extend_loop _, key _ _ _ oth ?_ hS₃⟩
  have e1 : ((s.heap.update S (Obj.mapSeq (·.push Value.none))).update S (Obj.mapSeq (·.pop))).objs.size = s.heap.objs.size := by
    first
      | simp
      | rw [Heap.size_update, Heap.size_update]
      | rfl
  rw [e1]
  exact hlo
theorem zl_init {S lo : Addr} {R : Result → Shared → Prop} (hh : A.handled = none) (D : ZApart z TI TO i1 i2 l1 l2 S) (hSl : S < lo) (hzl : z < lo) (hTl : TO < lo) (h1l : i1 < lo) (h2l : i2 < lo) (hn : min xs.size ys.size ≤ sizeLine) (hz : IsZip s.heap z TI TO .none) (hst : ZSt z TI TO i1 i2 l1 l2 S xs ys 0 s.heap) (hlo : lo ≤ s.heap.objs.size) (hS : s.heap.get? S = some { cls := .type "list", data := .seq #[] })
    (hR : ∀ (h' : Heap) (tk : Nat) (acc : Array Value) (c : Nat) (as : List Addr), (∀ b o, b ≠ S → b ≠ z → b ≠ TO → b ≠ i1 → b ≠ i2 → s.heap.get? b = some o → h'.get? b = some o) → h'.get? S = some { cls := .type "list", dict := none, data := .seq acc c, slots := #[] } → as.length = min xs.size ys.size → ZG xs ys lo h' as →
      acc.toList = as.map Value.ref → R (.ok (.ret .none)) { s with heap := h', toks := tk }) :
    wpAny (model prog w) A.in1 (Builtin.«list.__init__» ⟨[.ref S, .ref z], []⟩)
      (fun fin s' => match fin with | .done f => R (.ok f) s' | .again c' => c'.quiet = true ∧ codeAny (model prog w) A c' R s') (fun e s' => R (.error e) s') s := by
  show wpAny _ _ (do let old ← Builtin.List.listItems (.ref S); Builtin.List.listUpdate (.ref S) (fun _ => #[]); letGo old.toList.reverse; Builtin.List.listExtendWith (.ref S) (.ref z) .none) _ _ s
  refine wpAny_bind ?_
  unfold Builtin.List.listItems
  refine wpAny_bind (wpAny_seqItems hS rfl (wpAny_pure ?_))
  show wpAny _ _ (updateSeq S (fun _ => #[]) >>= fun _ => letGo (#[] : Array Value).toList.reverse >>= fun _ => Builtin.List.listExtendWith (.ref S) (.ref z) .none) _ _ s
  refine wpAny_bind (wpAny_updateSeq hS rfl ?_)
  have hS₂ := Heap.get?_update_self (Obj.mapSeq (fun _ => (#[] : Array Value))) hS rfl
  have oth : ∀ b o, b ≠ S → s.heap.get? b = some o → (s.heap.update S (Obj.mapSeq (fun _ => (#[] : Array Value)))).get? b = some o :=
    fun b o hb e => (Heap.get?_update_other _ _ (Ne.symm hb)).trans e
  refine wpAny_bind (wpAny_letGo ?_)
  refine zl_extend hh D hSl hzl hTl h1l h2l hn (oth z _ (Ne.symm D.z) hz) (zs_keep D hst oth) ?_ .none _ hS₂ fun h' tk acc c as hk hS' hl hG hacc => ?_
  · have e1 : (s.heap.update S (Obj.mapSeq (fun _ => (#[] : Array Value)))).objs.size = s.heap.objs.size := by
      first
        | simp
        | rw [Heap.size_update]
        | rfl
    show lo ≤ (s.heap.update S (Obj.mapSeq (fun _ => (#[] : Array Value)))).objs.size
    rw [e1]
    exact hlo
  · exact hR h' tk acc c as (fun b o b0 b1 b2 b3 b4 e => hk b o b0 b1 b2 b3 b4 (oth b o b0 e)) hS' hl hG hacc
/-- list(z) of a zip of two lists -/
theorem zl_call {Q : Value → Shared → Prop} (hh : A.handled = none) (D : ZipApart z TI TO i1 i2 l1 l2) (hn : min xs.size ys.size ≤ sizeLine) (hz : IsZip s.heap z TI TO .none) (hTI : IsPair s.heap TI (.ref i1) (.ref i2)) (hTO : ∃ a b, IsPair s.heap TO a b) (h1 : s.heap.IsListIter i1 l1 0) (h2 : s.heap.IsListIter i2 l2 0) (hl1 : s.heap.IsList l1 xs) (hl2 : s.heap.IsList l2 ys)
    (hQ : ∀ (h' : Heap) (tk : Nat) (acc : Array Value) (c : Nat) (as : List Addr), (∀ b o, b ≠ z → b ≠ TO → b ≠ i1 → b ≠ i2 → s.heap.get? b = some o → h'.get? b = some o) → h'.get? s.heap.objs.size = some { cls := .type "list", dict := none, data := .seq acc c, slots := #[] } → as.length = min xs.size ys.size → ZG xs ys (s.heap.objs.size + 1) h' as →
      acc.toList = as.map Value.ref → Q (.ref s.heap.objs.size) { s with heap := h', toks := tk }) :
    wpAny (model prog w) A (call (.type "list") [.ref z]) Q E s := by
  refine callType_codes (Q₁ := fun obj s₁ => obj = .ref s.heap.objs.size ∧ s₁ = { s with heap := s.heap.push { cls := .type "list", data := .seq #[] } }) PySem.F.called_list (PySem.F.typeCall_list_1 _) PySem.F.entry_list_init
    (code_list_new _ ⟨rfl, rfl⟩) fun obj s₁ h₁ => ?_
  obtain ⟨rfl, rfl⟩ := h₁
  have hS : (s.heap.push { cls := .type "list", data := .seq #[] }).get? s.heap.objs.size = some { cls := .type "list", data := .seq #[] } := Heap.get?_push_size _ rfl
  have lt : ∀ {c o}, s.heap.get? c = some o → c < s.heap.objs.size := fun e => Heap.lt_size e
  have zlt : z < s.heap.objs.size := lt hz
  have TIlt : TI < s.heap.objs.size := lt hTI
  have TOlt : TO < s.heap.objs.size := let ⟨_, _, e⟩ := hTO; lt e
  have i1lt : i1 < s.heap.objs.size := let ⟨_, e, _⟩ := h1; lt e
  have i2lt : i2 < s.heap.objs.size := let ⟨_, e, _⟩ := h2; lt e
  have l1lt : l1 < s.heap.objs.size := let ⟨_, e, _⟩ := hl1; lt e
  have l2lt : l2 < s.heap.objs.size := let ⟨_, e, _⟩ := hl2; lt e
  have DA : ZApart z TI TO i1 i2 l1 l2 s.heap.objs.size := ⟨D, Nat.ne_of_gt zlt, Nat.ne_of_gt TIlt, Nat.ne_of_gt TOlt, Nat.ne_of_gt i1lt, Nat.ne_of_gt i2lt, Nat.ne_of_gt l1lt, Nat.ne_of_gt l2lt⟩
  have up : ∀ b o, s.heap.get? b = some o → (s.heap.push { cls := .type "list", data := .seq #[] }).get? b = some o := fun b o e => Heap.get?_push_of_some _ e
  have st : ZSt z TI TO i1 i2 l1 l2 s.heap.objs.size xs ys 0 (s.heap.push { cls := .type "list", data := .seq #[] }) := ⟨up _ _ hTI, h1.at fun o e => up _ o e, h2.at fun o e => up _ o e, hl1.at fun o e => up _ o e, hl2.at fun o e => up _ o e, .inl ⟨up _ _ hz, let ⟨a, b, e⟩ := hTO; ⟨a, b, up _ _ e⟩⟩⟩
  have sz : (s.heap.push { cls := .type "list", data := .seq #[] }).objs.size = s.heap.objs.size + 1 := Heap.size_push ..
  refine ⟨⟨_, hS, rfl⟩, PySem.F.args_list_init_2 _ _, zl_init (lo := s.heap.objs.size + 1) (A := A.in1) hh DA (Nat.lt_succ_self _) (Nat.lt_succ_of_lt zlt) (Nat.lt_succ_of_lt TOlt) (Nat.lt_succ_of_lt i1lt) (Nat.lt_succ_of_lt i2lt) hn (up _ _ hz) st (by show s.heap.objs.size + 1 ≤ (s.heap.push _).objs.size; rw [sz]; exact Nat.le_refl _) hS fun h' tk acc c as hk hS' hl hG hacc => ?_⟩
  exact ⟨rfl, hQ h' tk acc c as (fun b o b1 b2 b3 b4 e => hk b o (Nat.ne_of_lt (Heap.lt_size e)) b1 b2 b3 b4 (up b o e)) hS' hl hG hacc⟩
end
end RP

/-! Fz2: list(zip(a, b)), over the hand layer. Own work (lines of HandS.ListItems turned to it). -/
namespace RP
open PySem PySem.Spec PyProof.Rows L2
def putZ : Hp → List Addr → List (V × V) → Hp
  | H, a :: as, p :: ps => putZ (upd H a (.tup [p.1, p.2])) as ps
  | H, _, _ => H
theorem putZ_off {b : Addr} : ∀ (as : List Addr) (ps : List (V × V)) (H : Hp), b ∉ as → putZ H as ps b = H b
  | [], _, _, _ => rfl
  | _ :: _, [], _, _ => rfl
  | a :: as, p :: ps, H, h => by
    show putZ (upd H a (.tup [p.1, p.2])) as ps b = H b
    rw [putZ_off as ps _ (fun z => h (List.mem_cons_of_mem _ z)), upd_ne (fun z => h (by rw [z]; exact List.mem_cons_self))]
theorem putZ_at : ∀ (as : List Addr) (ps : List (V × V)) (H : Hp), as.length = ps.length → as.Nodup → ∀ (j : Nat) (a : Addr) (p : V × V), as[j]? = some a → ps[j]? = some p → putZ H as ps a = some (.tup [p.1, p.2])
  | [], _, _, _, _, j, a, p, h, _ => by simp at h
  | a :: as, [], _, h, _, _, _, _, _, _ => by cases h
  | a :: as, q :: ps, H, hl, hn, j, b, p, h1, h2 => by
    have hn' := List.nodup_cons.mp hn
    cases j with
    | zero =>
      have e1 := Option.some.inj h1
      have e2 := Option.some.inj h2
      subst e1 e2
      show putZ (upd H a (.tup [q.1, q.2])) as ps a = _
      rw [putZ_off as ps _ hn'.1, upd_same]
    | succ j => exact putZ_at as ps _ (Nat.succ.inj hl) hn'.2 j b p h1 h2
theorem vals_get : ∀ {xs : List V} {vs : List Value}, Vals xs vs → ∀ {i : Nat} {v : Value}, vs[i]? = some v → ∃ x, xs[i]? = some x ∧ RelV x v
  | _, _, .nil, i, v, h => by simp at h
  | _, _, .cons r t, 0, v, h => by
    have e := Option.some.inj h
    subst e
    exact ⟨_, rfl, r⟩
  | _, _, .cons r t, i + 1, v, h => vals_get t h
section
variable {X : Cx} {e e2 : Expr} {ta : TA} {p p2 q pos : Pos}
theorem zip_laid {pins : List (Addr × Obj)} {σ : L2.St} {H : Hp} {s : Shared} {h' : Heap} {tk : Nat} {xs ys : List V} {its its2 : List Value} {S : Addr} {acc : Array Value} {c : Nat} {as : List Addr} (I : Inv X pins σ H s) (rv : Vals xs its) (rv2 : Vals ys its2) (hz : (xs.zip ys).length ≤ sizeLine)
    (hk : ∀ b o, s.heap.get? b = some o → h'.get? b = some o) (hS0 : s.heap.objs.size ≤ S) (hS : h'.get? S = some { cls := .type "list", dict := none, data := .seq acc c, slots := #[] }) (hl : as.length = (xs.zip ys).length) (hG : ZG its.toArray its2.toArray (S + 1) h' as) (hacc : acc.toList = as.map Value.ref) :
    H S = none ∧ (∀ t ∈ as, H t = none) ∧ S ∉ as ∧ as.Nodup ∧ Inv X pins σ (putZ (upd H S (.lst (as.map V.ref))) as (xs.zip ys)) { s with heap := h', toks := tk } := by
  have hSn : S ∉ as := fun z => Nat.lt_irrefl _ (hG.above _ z)
  have nd : as.Nodup := List.Pairwise.imp (fun {a b} (h : a < b) => Nat.ne_of_lt h) hG.rise
  have ab : ∀ t ∈ as, s.heap.objs.size ≤ t := fun t ht => Nat.le_trans hS0 (Nat.le_of_lt (hG.above t ht))
  have new : ∀ t ∈ as, H t = none := fun t ht => I.hok.fresh (ab t ht)
  have newS : H S = none := I.hok.fresh hS0
  have atP := putZ_at as (xs.zip ys) (upd H S (.lst (as.map V.ref))) hl nd
  have off : ∀ b, b ∉ as → b ≠ S → putZ (upd H S (.lst (as.map V.ref))) as (xs.zip ys) b = H b := fun b h1 h2 => by rw [putZ_off as _ _ h1, upd_ne h2]
  have low : ∀ b o, s.heap.get? b = some o → b ∉ as ∧ b ≠ S := fun b o e => ⟨fun z => absurd (Heap.lt_size e) (Nat.not_lt.mpr (ab b z)), fun z => absurd (Heap.lt_size e) (Nat.not_lt.mpr (by rw [z]; exact hS0))⟩
  have kp : ∀ b u, H b = some u → (putZ (upd H S (.lst (as.map V.ref))) as (xs.zip ys)) b = some u := fun b u e => by
    rw [off b (fun z => by rw [new b z] at e; cases e) (fun z => by rw [z, newS] at e; cases e)]
    exact e
  have eS : putZ (upd H S (.lst (as.map V.ref))) as (xs.zip ys) S = some (.lst (as.map V.ref)) := by rw [putZ_off as _ _ hSn, upd_same]
  refine ⟨newS, new, hSn, nd, ?_⟩
  refine I.call' (ch := []) rfl ⟨fun b o q _ _ _ => hk b o q, fun b o q _ _ _ => ⟨o.slots, hk b o q⟩, fun b o q n _ => ?_, fun b o q _ => ⟨o, hk b o q⟩, fun b xs q => kp b _ q, fun b o u q => kp b _ q, fun b ps q => ⟨#[], by rw [kp b _ q]; simp⟩⟩ (fun b u q => ?_) I.bare fun b z => by simp at z
  · obtain ⟨z1, z2⟩ := low b o q
    rw [off b z1 z2]
    exact n
  · by_cases hb : b ∈ as
    · obtain ⟨j, e1⟩ := List.mem_iff_getElem?.mp hb
      obtain ⟨vx, vy, f1, f2, f3⟩ := hG.pairs j b e1
      rw [List.getElem?_toArray] at f1 f2
      obtain ⟨x, g1, r1⟩ := vals_get rv f1
      obtain ⟨y, g2, r2⟩ := vals_get rv2 f2
      have e2 : (xs.zip ys)[j]? = some (x, y) := by
        rw [List.getElem?_zip_eq_some]
        exact ⟨g1, g2⟩
      rw [atP j b (x, y) e1 e2] at q
      cases q
      exact ⟨by show 2 ≤ sizeLine; decide, [vx, vy], .cons r1 (.cons r2 .nil), ⟨_, f3, rfl, _, rfl⟩⟩
    · by_cases hb2 : b = S
      · rw [hb2] at q ⊢
        rw [eS] at q
        cases q
        refine ⟨by rw [List.length_map]; omega, acc.toList, c, by rw [hacc]; exact LiI.vals_refs as, ?_⟩
        rw [Array.toArray_toList]
        exact hS
      · rw [off b hb hb2] at q
        exact (I.hok b u q).stay (fun d v _ y => hk d v y) (fun d y => kp d _ y) fun d xs y => kp d _ y
def tListZip (K : PySem.W.Frag) (ta : TA) : TE := fun σ H Q => ta σ H fun vs H1 => ∃ a b xs ys, vs = [.ref a, .ref b] ∧ SqL K H1 a xs ∧ SqL K H1 b ys ∧ (xs.zip ys).length ≤ sizeLine ∧
  ∀ (l : Addr) (ts : List Addr), H1 l = none → (∀ t ∈ ts, H1 t = none) → l ∉ ts → ts.Nodup → ts.length = (xs.zip ys).length → Q (.ref l) (putZ (upd H1 l (.lst (ts.map V.ref))) ts (xs.zip ys))
/-- list(zip(e, e2)) -/
theorem pe_listZip (hc : X.calm = true) (hg : Gl X "list") (hm : X.mg "list" = none) (hg2 : Gl X "zip") (hm2 : X.mg "zip" = none) (ha : PA X [e, e2] ta)
    (hs0 : starEach [.Call (.Name "zip" p2) [e, e2] [] q] X.env = (false, eval (.Call (.Name "zip" p2) [e, e2] [] q) X.env) :: starEach [] X.env := by rfl)
    (hs : starEach [e, e2] X.env = (false, eval e X.env) :: starEach [e2] X.env := by rfl) (hpl : (backTo q (starEach [e2] X.env)).any (·.1) = false := by rfl) :
    PE X (.Call (.Name "list" p) [.Call (.Name "zip" p2) [e, e2] [] q] [] pos) (tListZip X.K ta) := by
  refine ⟨fun pins s σ H Q I hq => ?_⟩
  refine Call_ (ld_blt I hg hm boot_list (PyProof.Rows.callWith_type1 ?_ hs0 rfl))
  rw [hs0]
  show wpAny _ _ (spliced ((false, eval (.Call (.Name "zip" p2) [e, e2] [] q) X.env) :: backTo pos (starEach [] X.env))) _ _ s
  refine Calls.spliced_cons ?_
  refine Call_ (ld_blt I hg2 hm2 PyProof.Rows.boot_zip (PyProof.Rows.callWith_type1 (thn (ha.run q pins s σ H _ I hq) fun us s1 ⟨vs, H1, I1, r1, q1⟩ => ?_) hs hpl))
  obtain ⟨a, b, xs, ys, ex, hqx, hqy, hz, q⟩ := q1
  subst ex
  cases r1 with
  | cons r rr =>
    cases rr with
    | cons r' rr =>
      cases rr
      cases r
      cases r'
      obtain ⟨its, rv, p1, _⟩ := I1.list hqx
      obtain ⟨its2, rv2, p2', _⟩ := I1.list hqy
      have la : a < s1.heap.objs.size := p1.lt
      have lb : b < s1.heap.objs.size := p2'.lt
      have lx : xs.length = its.length := Paired.length rv
      have ly : ys.length = its2.length := Paired.length rv2
      refine call_zip_2 p1.isList p2'.isList fun h' hz1 hTI hTO h1 h2 hsz hk => ?_
      have I2 : Inv X pins σ H1 { s1 with heap := h' } := I1.kept (t' := s1.toks) hk
      refine Calls.spliced_nil ?_
      have mn : min its.toArray.size its2.toArray.size = (xs.zip ys).length := by
        rw [List.size_toArray, List.size_toArray, List.length_zip, lx, ly]
      refine zl_call (I2.ok.hd hc) (PySem.W.ktu_apart s1.heap.objs.size a b la lb) (by rw [mn]; exact hz) hz1 hTI ⟨_, _, hTO⟩ h1 h2 (p1.isList.at fun o e => hk _ o e) (p2'.isList.at fun o e => hk _ o e) fun h2' tk acc c as hk2 hS hl hG hacc => ?_
      have below : ∀ c o, s1.heap.get? c = some o → h2'.get? c = some o := fun c o e => by
        have lt := Heap.lt_size e
        exact hk2 c o (Nat.ne_of_lt (Nat.lt_of_lt_of_le lt (Nat.le_add_right _ _))) (Nat.ne_of_lt (Nat.lt_of_lt_of_le lt (Nat.le_add_right _ _))) (Nat.ne_of_lt lt) (Nat.ne_of_lt (Nat.lt_of_lt_of_le lt (Nat.le_add_right _ _))) (hk c o e)
      obtain ⟨k1, k2, k3, k4, J⟩ := zip_laid (tk := tk) I1 rv rv2 hz below (S := h'.objs.size) (by rw [hsz]; exact Nat.le_add_right _ _) hS (by rw [hl, mn]) hG hacc
      exact ⟨.ref _, _, J, rfl, q _ as k1 k2 k3 k4 (by rw [hl, mn])⟩
end
end RP

/-! Fz3: list(zip(a, b)), by values. Own work. -/
namespace RP
open PySem PySem.Spec PyProof.Rows L2
theorem zip_len2 {xs ys : List PV} : (zipP xs ys).length = min xs.length ys.length := by
  induction xs generalizing ys with
  | nil => simp [zipP]
  | cons x xs ih =>
    cases ys with
    | nil => simp [zipP]
    | cons y ys =>
      show (zipP xs ys).length + 1 = _
      rw [ih, List.length_cons, List.length_cons]
      omega
section
variable {X : Cx} {T : List (Addr × Str)} {W : XK} {pos : Pos}
theorem zip_freeze {S : Sy} {m : List Addr} {s : AS} : ∀ (ts : List Addr) (xs ys : List PV) (vs us : List V) (G H : Hp), Wd S G m s H → (∀ t ∈ ts, H t = none) → ts.Nodup → Reps S G m xs vs → Reps S G m ys us → ts.length = (vs.zip us).length →
    ∃ G', Wd S G' m s (putZ H ts (vs.zip us)) ∧ Ext m m G G' H (putZ H ts (vs.zip us)) ∧ Reps S G' m (zipP xs ys) (ts.map V.ref) ∧ ∀ b, b ∉ ts → G' b = G b
  | [], xs, ys, vs, us, G, H, wd, _, _, r1, r2, hl => by
    have : zipP xs ys = [] := List.eq_nil_of_length_eq_zero (by rw [zip_len2, r1.length, r2.length]; rw [List.length_zip] at hl; exact hl.symm)
    rw [this]
    exact ⟨G, wd, Ext.refl, .nil, fun _ _ => rfl⟩
  | t :: ts, xs, ys, vs, us, G, H, wd, hn, nd, r1, r2, hl => by
    cases r1 with
    | nil => simp at hl
    | @cons x xs v vs rx r1 =>
      cases r2 with
      | nil => simp at hl
      | @cons y ys u us ry r2 =>
        have nd' := List.nodup_cons.mp nd
        have ht := hn t (by simp)
        have e1 := wd.newExt (o := .tup [v, u]) ht
        have w1 : Wd S G m s (upd H t (.tup [v, u])) := wd.new ht
        obtain ⟨le, w2⟩ := freezeG w1 upd_same (wd.mnone ht) ntbl_tup (wd.Gnone ht)
        have e2 : Ext m m G (upd G t (.tup [v, u])) H (upd H t (.tup [v, u])) := e1.freeze ht (wd.Gnone ht)
        have gx : ∀ b o, G b = some o → upd G t (.tup [v, u]) b = some o := le
        obtain ⟨G', w3, e3, r3, h3⟩ := zip_freeze ts xs ys vs us (upd G t (.tup [v, u])) (upd H t (.tup [v, u])) w2 (fun b hb => by rw [upd_ne (fun z => nd'.1 (by rw [← z]; exact hb))]; exact hn b (by simp [hb])) nd'.2 (r1.mono gx ⟨[], by simp⟩) (r2.mono gx ⟨[], by simp⟩) (by simpa using hl)
        refine ⟨G', w3, e2.trans e3, ?_, fun b hb => ?_⟩
        · have rt : Rep S (upd G t (.tup [v, u])) m (.tup [x, y]) (.ref t) := .tup (.inl (.inl upd_same)) (.cons (rx.mono gx ⟨[], by simp⟩) (.cons (ry.mono gx ⟨[], by simp⟩) .nil))
          exact .cons (rt.ext e3) r3
        · rw [h3 b (fun z => hb (by simp [z])), upd_ne (fun z => hb (by simp [z]))]
theorem de_lzip {a b : Expr} {da db : Fm → M PV} {p1 p2 q1 : Pos} (hc : X.calm = true) (hg : Gl X "list") (hm : X.mg "list" = none) (hg2 : Gl X "zip") (hm2 : X.mg "zip" = none) (ha : PE X a (tD (sy X T) .E W da)) (hb : PE X b (tD (sy X T) .E W db))
    (na : starEach [a, b] X.env = (false, eval a X.env) :: starEach [b] X.env) (nb : starEach [b] X.env = [(false, eval b X.env)]) :
    PE X (.Call (.Name "list" p1) [.Call (.Name "zip" p2) [a, b] [] q1] [] pos) (tD (sy X T) .F W fun r => bnd (da r) fun x => bnd (db r) fun y => match x, y with
      | .lst xs, .lst ys => if xs.length ≤ LIM then RP.ret (.lst (zipP xs ys)) else stk
      | _, _ => stk) := by
  refine (pe_listZip hc hg hm hg2 hm2 (pa_cons ha (pa_cons hb pa_nil (by rw [nb]; rfl)) na) rfl na (by rw [nb]; rfl)).imp fun σ H Q ⟨G, m, s, H₀, r, at0, p⟩ => ?_
  refine ⟨G, m, s, H₀, r, at0, p.step (good_M _ _) fun x s1 G1 m1 H1 v e1 wd1 rx p1 => ?_⟩
  refine ⟨G1, m1, s1, H₀, r, ⟨wd1, at0.2.ext e1⟩, p1.step (good_M _ _) fun y s2 G2 m2 H2 u e2 wd2 ry p2 => ?_⟩
  have rx' : Rep (sy X T) G2 m2 x v := Rep.ext rx e2
  cases x with
  | lst xs =>
    cases y with
    | lst ys =>
      by_cases hl : xs.length ≤ LIM
      · have p2 : Post (sy X T) (RepM (sy X T) .F) G2 m2 H2 ((if xs.length ≤ LIM then RP.ret (.lst (zipP xs ys)) else stk) s2) Q W := p2
        rw [if_pos hl] at p2
        obtain ⟨la, vs, rfl, hq, _, r1⟩ := RepO.lst' wd2 (.rep rx')
        obtain ⟨lb, us, rfl, hq2, _, r2⟩ := RepO.lst' wd2 (.rep ry)
        refine ⟨la, lb, vs, us, rfl, .inl (.inl hq), .inl (.inl hq2), ?_, fun l ts k1 k2 k3 k4 k5 => ?_⟩
        · rw [List.length_zip, ← r1.length]
          exact Nat.le_trans (Nat.min_le_left _ _) (Nat.le_trans hl LIM_le)
        · have e3 := wd2.newExt (o := .lst (ts.map V.ref)) k1
          obtain ⟨G', w', e', r', g'⟩ := zip_freeze ts xs ys vs us G2 (upd H2 l (.lst (ts.map V.ref))) (wd2.new k1) (fun t ht => by rw [upd_ne (fun z => k3 (by rw [← z]; exact ht))]; exact k2 t ht) k4 r1 r2 k5
          refine p2 G' m2 _ (.ref l) (e3.trans e') w' (.lst ?_ (wd2.mnone k1) ?_ k1 r')
          · rw [putZ_off _ _ _ k3, upd_same]
          · rw [g' l k3]
            exact wd2.Gnone k1
      · have p2 : Post (sy X T) (RepM (sy X T) .F) G2 m2 H2 ((if xs.length ≤ LIM then RP.ret (.lst (zipP xs ys)) else stk) s2) Q W := p2
        rw [if_neg hl] at p2
        exact p2.elim
    | _ => exact p2.elim
  | _ => exact p2.elim
end
section
variable {T : List (Addr × Str)} {k : Nat} {G : List Den} {GV : List (Str × Nat × Den)} {C : List PV} {fa fb : CE} {ra rb : Bool} {da db : Bool → Fm → M PV}
theorem sa_lzip (ha : SA T k G GV C fa ra da) (hb : SA T k G GV C fb rb db) : SA T k G GV C (ckLzip fa fb) true (fun _ r => bnd (da false r) fun x => bnd (db false r) fun y => match x, y with
      | .lst xs, .lst ys => if xs.length ≤ LIM then RP.ret (.lst (zipP xs ys)) else stk
      | _, _ => stk) := by
  intro X c W t K h
  unfold ckLzip at h
  split at h
  · simp only [Bool.and_eq_true] at h
    obtain ⟨⟨⟨h1, h2⟩, h3⟩, h4⟩ := h
    obtain ⟨rfl, g1, m1⟩ := K.blt h1
    obtain ⟨rfl, g2, m2⟩ := K.blt h2
    have s1 := ha X c W _ K h3
    have s2 := hb X c W _ K h4
    exact Snd.ofF (de_lzip K.ok.calm g1 m1 g2 m2 s1.e s2.e (star_cons s1.ns) (star_one s2.ns)) (fun _ => rfl) (fun _ _ _ z => nomatch z) rfl
  · cases h
end
end RP

/-! Fw25: the check of expressions is sound: comprehensions, the whole. Own work. -/
namespace RP
open PySem PySem.Spec PyProof.Rows L2
section
variable {T : List (Addr × Str)} {k : Nat} {G : List Den} {GV : List (Str × Nat × Den)} {C : List PV}
variable {fa fb fd fe : CE} {ra rb rd re : Bool} {da db dd de : Bool → Fm → M PV} {fi fi2 : CI} {di di2 : Bool → Fm → M (List PV)}
theorem blkB {N : List Str} {sc scope : Scope} {own : List (Str × Nat)} (h : blkC N sc scope own = true) : BlkOk N sc scope own ∧ scope.kind = .function := ⟨blkOk_by h, (blkOk_by h).kind⟩
/-- a clause's tests -/
def cdB (ifs : List Expr) (fd : CE) (dT : Bool) (c : Ctx) : Bool := match ifs with
  | [] => dT
  | [x] => fd c x
  | _ => false
theorem cl_of {X : Cx} {c : Ctx} {W : XK} {scope : Scope} {tx : Expr} {tg : Tg} {ifs : List Expr} {dT : Bool} (K : CkX X T c k W G GV C) (hk : scope.kind = .function) (ht : chkTg tg (c.blk scope) tx = true) (hd : SA T k G GV C fd rd dd) (hT : dT = true → dd false = fun _ => ret (.bl true)) (h : cdB ifs fd dT (c.blk scope) = true) : ClOk X T scope tx tg ifs (dd false) := by
  refine ⟨fun s H Ca cl fp => tg_of (K.blk hk s H Ca cl fp) ht, fun s H Ca cl fp => ?_⟩
  match ifs, h with
  | [], h => exact .inl ⟨rfl, hT h⟩
  | [x], h => exact .inr ⟨x, rfl, (hd _ _ W0 x (K.blk hk s H Ca cl fp) h).t⟩
theorem sa_lc (tg : Tg) (vs : List Nat) (dT : Bool) (he : SA T k G GV C fe re de) (hi : SAI T k G GV C fi di) (hd : SA T k G GV C fd rd dd) (hT : dT = true → dd false = fun _ => ret (.bl true)) :
    SA T k G GV C (ckLc fe tg fi fd dT vs) true (fun _ => lcD (di true) tg vs (dd false) (de false)) := by
  intro X c W t K h
  unfold ckLc at h
  split at h
  · split at h
    · split at h
      · rename_i elt scope pos gs g tx iter ifs
        simp only [Bool.and_eq_true] at h
        obtain ⟨⟨⟨⟨⟨⟨h1, h2⟩, h3⟩, h4⟩, h5⟩, h6⟩, h7⟩ := h
        obtain ⟨b1, hk⟩ := blkB h1
        have b2 : BlkOk X.N X.env.scope scope (ownOf c vs) := by rw [K.ok.eN, K.sc]; exact b1
        have key := de_lc (T := T) (W := W) (pos := pos) K.ok.calm K.nd (hi X c W tx iter K h4 true) b2 (cl_of K hk h5 hd hT h7) (fun i hi => by rw [ownOf_snd]; exact sub_mem h2 i hi)
          (fun s H Ca cl fp => (he _ _ W0 elt (K.blk hk s H Ca cl fp) h6).e) (set_plain h3)
        rw [ownOf_snd] at key
        exact Snd.ofF key (fun _ => rfl) (fun _ _ _ z => nomatch z) rfl
      · cases h
    · cases h
  · cases h
theorem sa_lc2 (tg tg2 : Tg) (vs vs2 : List Nat) (dT bT : Bool) (he : SA T k G GV C fe re de) (hi : SAI T k G GV C fi di) (hd : SA T k G GV C fd rd dd) (hT : dT = true → dd false = fun _ => ret (.bl true)) (hi2 : SAI T k G GV C fi2 di2) (hb : SA T k G GV C fb rb db) (hbT : bT = true → db false = fun _ => ret (.bl true)) :
    SA T k G GV C (ckLc2 fe tg fi fd dT tg2 fi2 fb bT vs vs2) true (fun _ => lcD2 (di true) tg vs (dd false) (di2 false) tg2 vs2 (db false) (de false)) := by
  intro X c W t K h
  unfold ckLc2 at h
  split at h
  · split at h
    · split at h
      · rename_i elt scope pos gs g g2 tx iter ifs tx2 iter2 ifs2
        simp only [Bool.and_eq_true] at h
        obtain ⟨⟨⟨⟨⟨⟨⟨⟨⟨⟨⟨⟨h1, h2⟩, h2'⟩, h2''⟩, h3⟩, h3'⟩, h4⟩, h4'⟩, h5⟩, h5'⟩, h6⟩, h7⟩, h8⟩ := h
        obtain ⟨b1, hk⟩ := blkB h1
        have b2 : BlkOk X.N X.env.scope scope (ownOf c vs) := by rw [K.ok.eN, K.sc]; exact b1
        have key := de_lc2 (T := T) (W := W) (pos := pos) (vs2 := vs2) K.ok.calm K.nd (hi X c W tx iter K h4 true) b2 (fun i hi => by rw [ownOf_snd]; exact sub_mem h2'' i hi) (cl_of K hk h5 hd hT h7) (cl_of K hk h5' hb hbT h8) (fun i hi => by rw [ownOf_snd]; exact sub_mem h2 i hi) (sub_mem h2')
          (fun s H Ca cl fp => hi2 _ _ W0 tx2 iter2 (K.blk hk s H Ca cl fp) h4' false) (fun s H Ca cl fp => (he _ _ W0 elt (K.blk hk s H Ca cl fp) h6).e) (set_plain h3) (fun env x => set_plain h3' x)
        rw [ownOf_snd] at key
        exact Snd.ofF key (fun _ => rfl) (fun _ _ _ z => nomatch z) rfl
      · cases h
    · cases h
  · cases h
theorem sa_dc (tg : Tg) (vs : List Nat) (dT : Bool) (ha : SA T k G GV C fa ra da) (he : SA T k G GV C fe re de) (hi : SAI T k G GV C fi di) (hd : SA T k G GV C fd rd dd) (hT : dT = true → dd false = fun _ => ret (.bl true)) :
    SA T k G GV C (ckDc fa fe tg fi fd dT vs) true (fun _ => dcD (di true) tg vs (dd false) (da false) (de false)) := by
  intro X c W t K h
  unfold ckDc at h
  split at h
  · split at h
    · split at h
      · rename_i kx vx scope pos gs g tx iter ifs
        simp only [Bool.and_eq_true] at h
        obtain ⟨⟨⟨⟨⟨⟨⟨h1, h2⟩, h3⟩, h4⟩, h5⟩, h6⟩, h6'⟩, h7⟩ := h
        obtain ⟨b1, hk⟩ := blkB h1
        have b2 : BlkOk X.N X.env.scope scope (ownOf c vs) := by rw [K.ok.eN, K.sc]; exact b1
        have key := de_dc (T := T) (W := W) (pos := pos) K.ok.un K.ok.calm K.nd (hi X c W tx iter K h4 true) b2 (cl_of K hk h5 hd hT h7) (fun i hi => by rw [ownOf_snd]; exact sub_mem h2 i hi)
          (fun s H Ca cl fp => (ha _ _ W0 kx (K.blk hk s H Ca cl fp) h6).e) (fun s H Ca cl fp => (he _ _ W0 vx (K.blk hk s H Ca cl fp) h6').e) (set_plain h3)
        rw [ownOf_snd] at key
        exact Snd.ofF key (fun _ => rfl) (fun _ _ _ z => nomatch z) rfl
      · cases h
    · cases h
  · cases h
/-! ### lists of expressions, iterables -/
theorem sas_nil : SAs T k G GV C (fun _ ts => ts.isEmpty) (fun _ => ret []) := by
  intro X c W ts K h
  have h := List.isEmpty_iff.mp h
  subst h
  exact ⟨da_nil, fun x hx => by simp at hx⟩
variable {fs : CEs} {ds : Fm → M (List PV)}
theorem sas_cons (ha : SA T k G GV C fa ra da) (hs : SAs T k G GV C fs ds) : SAs T k G GV C (fun c ts => match ts with
    | x :: xs => fa c x && fs c xs
    | [] => false) (fun r => bnd (da false r) fun v => bnd (ds r) fun vs => ret (v :: vs)) := by
  intro X c W ts K h
  cases ts with
  | nil => cases h
  | cons x xs =>
    simp only [Bool.and_eq_true] at h
    have s1 := ha X c W _ K h.1
    obtain ⟨s2, n2⟩ := hs X c W _ K h.2
    refine ⟨da_cons s1.e s2 (star_cons s1.ns), fun y hy => ?_⟩
    rcases List.mem_cons.mp hy with e | e
    · subst e; exact s1.ns
    · exact n2 y e
theorem sai_seq (ha : SA T k G GV C fa ra da) : SAI T k G GV C (fun c _ t => fa c t) (fun o r => bnd (da o r) fun x => opt (seqP x)) :=
  fun X c W tx t K h o => di_seq ((ha X c W _ K h).md o)
theorem sai_keys (ha : SA T k G GV C fa ra da) : SAI T k G GV C (fun c _ t => fa c t) (fun _ r => bnd (da false r) fun x => opt (keysOfD x)) :=
  fun X c W tx t K h o => di_keys (ha X c W _ K h).e
theorem sai_range1 (ha : SA T k G GV C fa ra da) : SAI T k G GV C (ckRange1 fa) (fun _ r => bnd (da false r) fun x => opt (rangeOf x)) := by
  intro X c W tx t K h o
  unfold ckRange1 at h
  split at h
  · split at h
    · simp only [Bool.and_eq_true] at h
      obtain ⟨rfl, g1, m1⟩ := K.blt h.1
      have s1 := ha X c W _ K h.2
      exact di_range1 g1 m1 s1.e (star_one s1.ns)
    · cases h
  · cases h
theorem tupE {tx : Expr} (h : isTupE tx = true) : ∃ es kk p, tx = .Tuple es kk p := by
  cases tx with
  | Tuple es kk p => exact ⟨es, kk, p, rfl⟩
  | _ => cases h
theorem sai_enum (ha : SA T k G GV C fa ra da) : SAI T k G GV C (ckEnum fa) (fun o r => bnd (da o r) fun x => opt (enumOf x)) := by
  intro X c W tx t K h o
  unfold ckEnum at h
  split at h
  · split at h
    · simp only [Bool.and_eq_true] at h
      obtain ⟨⟨h0, h1⟩, h2⟩ := h
      obtain ⟨rfl, g1, m1⟩ := K.blt h1
      obtain ⟨es, kk, p, rfl⟩ := tupE h0
      have s1 := ha X c W _ K h2
      exact di_enum g1 m1 (s1.md o) (star_one s1.ns)
    · cases h
  · cases h
theorem sai_zip (ha : SA T k G GV C fa ra da) (hb : SA T k G GV C fb rb db) : SAI T k G GV C (ckZip fa fb) (fun o r => bnd (da o r) fun x => bnd (db o r) fun y => opt (zipOf x y)) := by
  intro X c W tx t K h o
  unfold ckZip at h
  split at h
  · split at h
    · simp only [Bool.and_eq_true] at h
      obtain ⟨⟨⟨h0, h1⟩, h2⟩, h3⟩ := h
      obtain ⟨rfl, g1, m1⟩ := K.blt h1
      obtain ⟨es, kk, p, rfl⟩ := tupE h0
      have s1 := ha X c W _ K h2
      have s2 := hb X c W _ K h3
      exact di_zip g1 m1 (s1.md o) (s2.md o) (star_cons s1.ns) (star_one s2.ns)
    · cases h
  · cases h
theorem sai_items (ha : SA T k G GV C fa ra da) : SAI T k G GV C (ckItems fa) (fun _ r => bnd (da false r) fun x => opt (itemsOfD x)) := by
  intro X c W tx t K h o
  unfold ckItems at h
  split at h
  · split at h
    · simp only [Bool.and_eq_true, decide_eq_true_eq] at h
      obtain ⟨⟨⟨⟨h0, rfl⟩, h1⟩, h2⟩, h3⟩ := h
      obtain ⟨es, kk, p, rfl⟩ := tupE h0
      exact di_items (ha X c W _ K h3).e (attr_plain h2) h1
    · cases h
  · cases h
theorem isTrue_den {e : E} (h : isTrueE e = true) : den G GV C e false = fun _ => ret (.bl true) := by
  unfold isTrueE at h
  split at h
  · rfl
  · cases h
theorem sa_fnv (y : Str) : SA T k G GV C (ckFnv y) false (fun _ _ => ret (.fn y)) := by
  intro X c W t K h
  cases t with
  | Name x p =>
    simp only [ckFnv, Bool.and_eq_true, decide_eq_true_eq] at h
    obtain ⟨⟨⟨rfl, h1⟩, h2⟩, h3⟩ := h
    obtain ⟨f, hm⟩ := K.gv _ (by simpa using h3)
    exact Snd.ofE ((pe_glob (K.gl h1) hm (v := .ref f) rfl (plain_parts h2).1).imp fun σ H Q ⟨G', m, s, H₀, r, a, p⟩ => p.ret a.1 (.fn hm)) (fun _ => rfl) (fun _ _ _ z => nomatch z) rfl
  | _ => simp [ckFnv] at h
theorem sa_callv (i : Nat) (hs : SAs T k G GV C fs ds) : SA T k G GV C (ckCallv i fs) false (fun _ r => match r.get i with
    | .sh (.fn x) => (match callP GV x with
      | some p => bnd (ds r) fun vs => callN p vs
      | none => stk)
    | _ => stk) := by
  intro X c W t K h
  cases t with
  | Call f as ks pos =>
    cases f with
    | Name x p =>
      cases ks with
      | nil =>
        cases as with
        | nil => simp [ckCallv] at h
        | cons e es =>
          simp only [ckCallv, Bool.and_eq_true, decide_eq_true_eq] at h
          obtain ⟨⟨⟨h0, h1⟩, h2⟩, h3⟩ := h
          obtain ⟨p1, p2, p3⟩ := plain_parts h2
          obtain ⟨hp, hn⟩ := hs X c W _ K h3
          exact Snd.ofE (de_callv K.ok (K.name h0) (K.vis h1) p1 p2 hp (starOk_all hn)) (fun _ => rfl) (fun _ _ _ z => nomatch z) rfl
      | cons _ _ => simp [ckCallv] at h
    | _ => simp [ckCallv] at h
  | _ => simp [ckCallv] at h
theorem sa_lam (tab : List (Str × Str)) (ha : SA T k G GV C fa ra da) (hx : ∀ k, SA T k G GV C fa ra da) : SA T k G GV C (ckLam tab fa) false (fun _ r => lamD tab (da false r)) := by
  intro X c W t K h
  unfold ckLam at h
  split at h
  · split at h
    · rename_i x p ps b sc lp
      simp only [Bool.and_eq_true] at h
      obtain ⟨⟨⟨⟨h1, h2⟩, h3⟩, h4⟩, h5⟩ := h
      obtain ⟨k', lf, hf, hv⟩ := K.lm _ _ (by simpa using h2)
      have L : LamX.LamS X.env.scope sc := by rw [K.sc]; exact LamX.lamS_by h4
      refine Snd.ofE (lf ps b sc (da false) p lp _ (K.gl h1) h3 L fun A outer s H E f c' hr => ?_) (fun _ => rfl) (fun _ _ _ z => nomatch z) rfl
      exact (hx k' (lamN X A outer s H E sc f c') (c.lamC sc) E b (K.lam L hf hv A outer s H E f c' hr) h5).e
    · cases h
  · cases h
end
end RP

/-! Fw26: the check of expressions is sound. Own work. -/
namespace RP
open PySem PySem.Spec PyProof.Rows L2
section
variable (T : List (Addr × Str)) (G : List Den) (GV : List (Str × Nat × Den)) (C : List PV)
mutual
theorem sndE' : ∀ (e : E) (k : Nat), SA T k G GV C (chkE e) (fresh e) (fun o => den G GV C e o)
  | .dead, k => fun X c W t K h => snd_dead h
  | .var i, k => sa_var i
  | .int i, k => sa_int i
  | .str x, k => sa_str x
  | .bl b, k => sa_bl b
  | .non, k => sa_non
  | .gc j, k => sa_gc j
  | .fnv y, k => sa_fnv y
  | .tup es, k => sa_tup (sndEs' es k) few_of
  | .lst es, k => sa_lst (sndEs' es k) few_of
  | .lstR es, k => sa_lstR (sndEs' es k) few_of
  | .dnew, k => sa_dnew
  | .d1 x v, k => sa_d1 (sndE' x k) (sndE' v k)
  | .bin op a b, k => sa_bin op (sndE' a k) (sndE' b k)
  | .cmp op a b, k => sa_cmp op (sndE' a k) (sndE' b k)
  | .chain op op' a b d, k => sa_chain op op' (sndE' a k) (sndE' b k) (sndE' d k)
  | .isN a, k => sa_isN (sndE' a k)
  | .notN a, k => sa_notN (sndE' a k)
  | .and a b, k => sa_and (sndE' a k) (sndE' b k)
  | .or a b, k => sa_or (sndE' a k) (sndE' b k)
  | .not a, k => sa_not (sndE' a k)
  | .neg a, k => sa_neg (sndE' a k)
  | .ite d a b, k => sa_ite (sndE' d k) (sndE' a k) (sndE' b k)
  | .ix a b, k => sa_ix (sndE' a k) (sndE' b k)
  | .slLo a b, k => sa_slLo (sndE' a k) (sndE' b k)
  | .slHi a b, k => sa_slHi (sndE' a k) (sndE' b k)
  | .call j .nil, k => sa_call0 j fun c ts h => List.isEmpty_iff.mp h
  | .call j (.cons e es), k => sa_call j _ (sndEs' (.cons e es) k) (fun _ => rfl) fun r s vs s' h => denEs_len (.cons e es) r s vs s' h
  | .callv i es, k => sa_callv i (sndEs' es k)
  | .b1 op a, k => fun X c W t K h => by
    have := sa_b1 op (sndE' a k) X c W t K h
    cases op <;> exact this
  | .min2 a b, k => sa_min2 (sndE' a k) (sndE' b k)
  | .max2 a b, k => sa_max2 (sndE' a k) (sndE' b k)
  | .min2t a b, k => sa_min2t (sndE' a k) (sndE' b k)
  | .isinst ty a, k => sa_isinst ty (sndE' a k)
  | .idx a b, k => sa_idx (sndE' a k) (sndE' b k)
  | .litget ps a d, k => sa_litget ps d (sndE' a k)
  | .lrange a, k => sa_lrange (sndE' a k)
  | .lzip a b, k => sa_lzip (sndE' a k) (sndE' b k)
  | .lc e tg it cd vs, k => sa_lc tg vs (isTrueE cd) (sndE' e k) (sndI' it k) (sndE' cd k) isTrue_den
  | .lc2 e tg it cd tg2 it2 cd2 vs vs2, k => sa_lc2 tg tg2 vs vs2 (isTrueE cd) (isTrueE cd2) (sndE' e k) (sndI' it k) (sndE' cd k) isTrue_den (sndI' it2 k) (sndE' cd2 k) isTrue_den
  | .dc ek ev tg it cd vs, k => sa_dc tg vs (isTrueE cd) (sndE' ek k) (sndE' ev k) (sndI' it k) (sndE' cd k) isTrue_den
  | .lam tab e, k => sa_lam tab (sndE' e k) fun k2 => sndE' e k2
theorem sndEs' : ∀ (es : Es) (k : Nat), SAs T k G GV C (chkEs es) (denEs G GV C es)
  | .nil, k => sas_nil
  | .cons e es, k => sas_cons (sndE' e k) (sndEs' es k)
theorem sndI' : ∀ (it : It) (k : Nat), SAI T k G GV C (chkI it) (fun o => denIt G GV C it o)
  | .seq e, k => sai_seq (sndE' e k)
  | .keys e, k => sai_keys (sndE' e k)
  | .range1 a, k => sai_range1 (sndE' a k)
  | .enum a, k => sai_enum (sndE' a k)
  | .zip a b, k => sai_zip (sndE' a k) (sndE' b k)
  | .items a, k => sai_items (sndE' a k)
end
end
section
variable (T : List (Addr × Str)) (k : Nat) (G : List Den) (GV : List (Str × Nat × Den)) (C : List PV)
theorem sndE (e : E) : SA T k G GV C (chkE e) (fresh e) (fun o => den G GV C e o) := sndE' T G GV C e k
theorem sndEs (es : Es) : SAs T k G GV C (chkEs es) (denEs G GV C es) := sndEs' T G GV C es k
theorem sndI (it : It) : SAI T k G GV C (chkI it) (fun o => denIt G GV C it o) := sndI' T G GV C it k
end
end RP

/-! Fw27: what is seen of assignments. Own work. -/
namespace RP
open PySem PySem.Spec PyProof.Rows L2

theorem blockK {env : Env} (h : env.scope.kind = .function) : env.blockKind = .function := by
  unfold Env.blockKind
  rw [h]
  rfl
theorem swaps_plain {v : Expr} {o : Option Expr} {l : Nat} {env : Env} (h : noComp v = true) : swapsWith v o l env = pure false := by
  cases v <;> first | rfl | cases h
theorem sole_tuple {v : Expr} {ts : List Expr} {kk : Nat} {p : Pos} {l : Nat} {env : Env} : swapsWithSole [.Tuple ts kk p] v l env = pure false := by
  cases v <;> rfl
def notTupE : Expr → Bool
  | .Tuple _ _ _ => false
  | _ => true
theorem stores_plain {v : Expr} {ts : List Expr} {kk : Nat} {p : Pos} {env : Env} (h : notTupE v = true) : swappedStores [.Tuple ts kk p] v env = pure none := by
  cases v <;> first | rfl | cases h
theorem stores_const {ts vs : List Expr} {kk kk2 : Nat} {p p2 : Pos} {env : Env} (h : vs.all (foldedForSure 8) = true) : swappedStores [.Tuple ts kk p] (.Tuple vs kk2 p2) env = pure none := by
  unfold swappedStores
  dsimp only
  split
  · rfl
  · split
    · rfl
    · split
      · rfl
      · rfl
def isStar : Expr → Bool
  | .Starred _ _ => true
  | _ => false
theorem star_f {a : Expr} (h : noStar a = true) : (match a with | .Starred .. => true | _ => false) = false := by
  cases a <;> first | rfl | cases h
theorem dups2 {x y : Str} (h : x ≠ y) : [x, y].eraseDups.length = 2 := by
  have h1 : (y == x) = false := by simpa using fun e : y = x => h e.symm
  have h2 : (x == y) = false := by simpa using h
  simp [List.eraseDups, List.eraseDupsBy, List.eraseDupsBy.loop, h1, h2]
theorem dups3 {x y z : Str} (h : x ≠ y) (h' : x ≠ z) (h'' : y ≠ z) : [x, y, z].eraseDups.length = 3 := by
  have h1 : (y == x) = false := by simpa using fun e : y = x => h e.symm
  have h2 : (x == y) = false := by simpa using h
  have h3 : (z == x) = false := by simpa using fun e : z = x => h' e.symm
  have h4 : (x == z) = false := by simpa using h'
  have h5 : (z == y) = false := by simpa using fun e : z = y => h'' e.symm
  have h6 : (y == z) = false := by simpa using h''
  simp [List.eraseDups, List.eraseDupsBy, List.eraseDupsBy.loop, h1, h2, h3, h4, h5, h6]
theorem stores_2 {x y : Str} {px py : Pos} {a b : Expr} {kk kk2 : Nat} {p p2 : Pos} {env : Env} (hk : env.scope.kind = .function) (hx : env.scope.names.lookup x = some .local) (hy : env.scope.names.lookup y = some .local) (hl : (py.line == px.line) = true) (hne : x ≠ y)
    (na : noStar a = true) (nb : noStar b = true) (hf : [a, b].all (foldedForSure 8) = false) (hc : [a, b].all (constantsAlone 8) = false) :
    swappedStores [.Tuple [.Name x px, .Name y py] kk p] (.Tuple [a, b] kk2 p2) env = pure (some [x, y]) := by
  have kx : env.kindOf x = some .local := hx
  have ky : env.kindOf y = some .local := hy
  have hl : py.line = px.line := by simpa using hl
  have d1 := dups2 hne
  unfold swappedStores
  simp only [List.length_cons, List.length_nil, blockK hk, List.any_cons, List.any_nil, star_f na, star_f nb, Option.map, Option.getD, List.head?_cons, Expr.pos, List.filterMap_cons, List.filterMap_nil, kx, ky, hl, hf, hc]
  simp [d1]
  rintro (hh | hh)
  · cases a <;> first | exact Bool.noConfusion (show false = true from hh) | exact Bool.noConfusion (show false = true from na)
  · cases b <;> first | exact Bool.noConfusion (show false = true from hh) | exact Bool.noConfusion (show false = true from nb)
theorem stores_3 {x y z : Str} {px py pz : Pos} {a b c : Expr} {kk kk2 : Nat} {p p2 : Pos} {env : Env} (hk : env.scope.kind = .function) (hx : env.scope.names.lookup x = some .local) (hy : env.scope.names.lookup y = some .local) (hz : env.scope.names.lookup z = some .local) (hl : (py.line == px.line) = true) (hl' : (pz.line == px.line) = true) (hne : x ≠ y) (hne' : x ≠ z) (hne'' : y ≠ z)
    (na : noStar a = true) (nb : noStar b = true) (nc : noStar c = true) (hf : [a, b, c].all (foldedForSure 8) = false) (hc : [a, b, c].all (constantsAlone 8) = false) :
    swappedStores [.Tuple [.Name x px, .Name y py, .Name z pz] kk p] (.Tuple [a, b, c] kk2 p2) env = pure (some [x, y, z]) := by
  have kx : env.kindOf x = some .local := hx
  have ky : env.kindOf y = some .local := hy
  have kz : env.kindOf z = some .local := hz
  have hl : py.line = px.line := by simpa using hl
  have hl' : pz.line = px.line := by simpa using hl'
  have d1 := dups3 hne hne' hne''
  unfold swappedStores
  simp only [List.length_cons, List.length_nil, blockK hk, List.any_cons, List.any_nil, star_f na, star_f nb, star_f nc, Option.map, Option.getD, List.head?_cons, Expr.pos, List.filterMap_cons, List.filterMap_nil, kx, ky, kz, hl, hl', hf, hc]
  simp [d1]
  rintro (hh | hh | hh)
  · cases a <;> first | exact Bool.noConfusion (show false = true from hh) | exact Bool.noConfusion (show false = true from na)
  · cases b <;> first | exact Bool.noConfusion (show false = true from hh) | exact Bool.noConfusion (show false = true from nb)
  · cases c <;> first | exact Bool.noConfusion (show false = true from hh) | exact Bool.noConfusion (show false = true from nc)
end RP

/-! Fw28: the check of statements, and that it is sound. Own work. -/
namespace RP
open PySem PySem.Spec PyProof.Rows L2
abbrev CS := Ctx → Stmt → Bool
abbrev CSs := Ctx → List Stmt → Bool
def locB (c : Ctx) (x : Str) : Bool := decide (c.sc.names.lookup x = some .local)
def ckSet (f : CE) (i : Nat) (c : Ctx) (st : Stmt) : Bool := match st with
  | .Assign ts v _ => (match ts with
    | [.Name y _] => decide (c.N[i]? = some y) && tgB c y && noComp v && f c v
    | _ => false)
  | _ => false
def ckSetT (f : CE) (is : List Nat) (c : Ctx) (st : Stmt) : Bool := match st with
  | .Assign ts v _ => (match ts with
    | [.Tuple es _ _] => chkTgs is c es && notTupE v && f c v
    | _ => false)
  | _ => false
def ckSetC (f : CE) (is : List Nat) (c : Ctx) (st : Stmt) : Bool := match st with
  | .Assign ts v _ => (match ts with
    | [.Tuple es _ _] => (match v with
      | .Tuple vs _ _ => chkTgs is c es && vs.all (foldedForSure 8) && f c v
      | _ => false)
    | _ => false)
  | _ => false
def ckPar2 (fs : CEs) (i j : Nat) (c : Ctx) (st : Stmt) : Bool := match st with
  | .Assign ts v _ => (match ts with
    | [.Tuple [.Name x px, .Name y py] _ _] => (match v with
      | .Tuple [a, b] _ _ => decide (c.N[i]? = some x) && decide (c.N[j]? = some y) && decide (x ≠ y) && locB c x && locB c y && (py.line == px.line) && !([a, b].all (foldedForSure 8)) && !([a, b].all (constantsAlone 8)) && fs c [a, b]
      | _ => false)
    | _ => false)
  | _ => false
def ckPar3 (fs : CEs) (i j l : Nat) (c : Ctx) (st : Stmt) : Bool := match st with
  | .Assign ts v _ => (match ts with
    | [.Tuple [.Name x px, .Name y py, .Name z pz] _ _] => (match v with
      | .Tuple [a, b, d] _ _ => decide (c.N[i]? = some x) && decide (c.N[j]? = some y) && decide (c.N[l]? = some z) && decide (x ≠ y) && decide (x ≠ z) && decide (y ≠ z) && locB c x && locB c y && locB c z && (py.line == px.line) && (pz.line == px.line) && !([a, b, d].all (foldedForSure 8)) && !([a, b, d].all (constantsAlone 8)) && fs c [a, b, d]
      | _ => false)
    | _ => false)
  | _ => false
def ckParD (f : CE) (i j : Nat) (c : Ctx) (st : Stmt) : Bool := match st with
  | .Assign ts v _ => (match ts with
    | [.Tuple [.Name x px, .Name y py] _ _] => (match v with
      | .Tuple [.Dict [] [] dp, b] _ _ => decide (c.N[i]? = some x) && decide (c.N[j]? = some y) && decide (x ≠ y) && locB c x && locB c y && (py.line == px.line) && !([.Dict [] [] dp, b].all (foldedForSure 8)) && !([.Dict [] [] dp, b].all (constantsAlone 8)) && f c b
      | _ => false)
    | _ => false)
  | _ => false
def ckMeth (nm : Str) (f : CE) (i : Nat) (c : Ctx) (st : Stmt) : Bool := match st with
  | .Expr v _ => (match v with
    | .Call (.Attribute (.Name x _) m apos) [e] [] cpos => decide (m = nm) && decide (c.N[i]? = some x) && visB c x && plainN x && (apos.endLine == cpos.line) && f c e
    | _ => false)
  | _ => false
def ckSeti (fk f : CE) (i : Nat) (c : Ctx) (st : Stmt) : Bool := match st with
  | .Assign ts v _ => (match ts with
    | [.Subscript (.Name x _) ke _] => decide (c.N[i]? = some x) && visB c x && plainN x && noComp v && fk c ke && f c v
    | _ => false)
  | _ => false
def ckExpr (f : CE) (c : Ctx) (st : Stmt) : Bool := match st with
  | .Expr v _ => noComp v && f c v
  | _ => false
def ckRet (f : CE) (c : Ctx) (st : Stmt) : Bool := match st with
  | .Return (some v) _ => f c v
  | _ => false
def ckRetN (c : Ctx) (st : Stmt) : Bool := match st with
  | .Return none _ => true
  | _ => false
def ckIf (f : CE) (fa fb : CSs) (c : Ctx) (st : Stmt) : Bool := match st with
  | .If t a b _ => f c t && fa c a && fb c b
  | _ => false
def ckFor (t : Tg) (fi : CI) (fb : CSs) (c : Ctx) (st : Stmt) : Bool := match st with
  | .For tg iter body [] _ => noSet iter && fi c tg iter && chkTg t c tg && fb c body
  | _ => false
def ckWhile (f : CE) (fb : CSs) (c : Ctx) (st : Stmt) : Bool := match st with
  | .While t body [] _ => f c t && fb c body
  | _ => false
def ckPass (c : Ctx) (st : Stmt) : Bool := match st with
  | .Pass _ => true
  | _ => false
section
variable {T : List (Addr × Str)} {k : Nat} {G : List Den} {GV : List (Str × Nat × Den)} {C : List PV}
variable {fa fb fd fe : CE} {ra rb rd re : Bool} {da db dd de : Bool → Fm → M PV} {fi fi2 : CI} {di di2 : Bool → Fm → M (List PV)} {fs : CEs} {ds : Fm → M (List PV)}
def SaS (T : List (Addr × Str)) (k : Nat) (G : List Den) (GV : List (Str × Nat × Den)) (C : List PV) (f : CS) (d : Fm → M Fl) : Prop := ∀ (X : Cx) (c : Ctx) (W : XK) (st : Stmt), CkX X T c k W G GV C → f c st = true → PS X st (tS (sy X T) W d)
def SaSs (T : List (Addr × Str)) (k : Nat) (G : List Den) (GV : List (Str × Nat × Den)) (C : List PV) (f : CSs) (d : Fm → M Fl) : Prop := ∀ (X : Cx) (c : Ctx) (W : XK) (sts : List Stmt), CkX X T c k W G GV C → f c sts = true → PSs X sts (tS (sy X T) W d)
variable {ga gb : CSs} {ma mb : Fm → M Fl}
theorem ss_dead : SaS T k G GV C (fun _ _ => true) (fun _ => stk) := by
  intro X c W st K h
  refine ⟨fun pins s σ H D I ⟨G₀, m₀, H₀, Gb, mb, G, m, s1, r, a, p⟩ => ?_⟩
  exact p.elim
theorem ss_set (i : Nat) (he : SA T k G GV C fe re de) : SaS T k G GV C (ckSet fe i) (fun r => bnd (de false r) fun v => ret (.nx (r.set i (.sh v)))) := by
  intro X c W st K h
  unfold ckSet at h
  split at h
  · split at h
    · simp only [Bool.and_eq_true, decide_eq_true_eq] at h
      obtain ⟨⟨⟨h1, h2⟩, h3⟩, h4⟩ := h
      exact ds_set K.nd (K.name h1) (K.tg h2).1 (K.tg h2).2 (he X c W _ K h4).e (swaps_plain h3)
    · cases h
  · cases h
theorem ss_setO (i : Nat) (he : SA T k G GV C fe re de) : SaS T k G GV C (fun c st => re && ckSet fe i c st) (fun r => bnd (de false r) fun v => ret (.nx (r.set i (ofV v)))) := by
  intro X c W st K h
  simp only [Bool.and_eq_true] at h
  obtain ⟨h0, h⟩ := h
  unfold ckSet at h
  split at h
  · split at h
    · simp only [Bool.and_eq_true, decide_eq_true_eq] at h
      obtain ⟨⟨⟨h1, h2⟩, h3⟩, h4⟩ := h
      exact ds_setO K.nd (K.name h1) (K.tg h2).1 (K.tg h2).2 ((he X c W _ K h4).f h0) (swaps_plain h3)
    · cases h
  · cases h
theorem ss_setT (is : List Nat) (he : SA T k G GV C fe re de) : SaS T k G GV C (fun c st => ckSetT fe is c st || ckSetC fe is c st) (fun r => bnd (de true r) fun v => bnd (opt (bndN is v r)) fun r' => ret (.nx r')) := by
  intro X c W st K h
  simp only [Bool.or_eq_true] at h
  rcases h with h | h
  · unfold ckSetT at h
    split at h
    · split at h
      · simp only [Bool.and_eq_true] at h
        obtain ⟨⟨h1, h2⟩, h3⟩ := h
        exact ds_setT (tg := (by assumption)) K.nd K.ok.calm (tgs_of K _ _ h1) (he X c W _ K h3).o sole_tuple (stores_plain h2)
      · cases h
    · cases h
  · unfold ckSetC at h
    split at h
    · split at h
      · split at h
        · simp only [Bool.and_eq_true] at h
          obtain ⟨⟨h1, h2⟩, h3⟩ := h
          exact ds_setT (tg := (by assumption)) K.nd K.ok.calm (tgs_of K _ _ h1) (he X c W _ K h3).o sole_tuple (stores_const h2)
        · cases h
      · cases h
    · cases h
theorem locOk {X : Cx} {c : Ctx} {W : XK} (K : CkX X T c k W G GV C) {x : Str} (h : locB c x = true) : X.env.scope.names.lookup x = some .local := by
  rw [K.sc]
  exact of_decide_eq_true h
theorem kindOk {X : Cx} {c : Ctx} {W : XK} (K : CkX X T c k W G GV C) : X.env.scope.kind = .function := by rw [K.sc]; exact K.fk
theorem ne_ix {N : List Str} {i j : Nat} {x y : Str} (h : N[i]? = some x) (h' : N[j]? = some y) (hne : x ≠ y) : i ≠ j := fun e => by
  subst e
  rw [h] at h'
  exact hne (Option.some.inj h')
theorem ss_par2 (i j : Nat) (hs : SAs T k G GV C fs ds) : SaS T k G GV C (ckPar2 fs i j) (fun r => bnd (ds r) fun vs => bnd (opt (bindNs [i, j] vs r)) fun r' => ret (.nx r')) := by
  intro X c W st K h
  unfold ckPar2 at h
  split at h
  · split at h
    · split at h
      · simp only [Bool.and_eq_true, decide_eq_true_eq, Bool.not_eq_true'] at h
        obtain ⟨⟨⟨⟨⟨⟨⟨⟨h1, h2⟩, h3⟩, h4⟩, h5⟩, h6⟩, h7⟩, h8⟩, h9⟩ := h
        obtain ⟨pa, pn⟩ := hs X c W _ K h9
        exact ds_par2 K.ok.calm K.nd (K.name h1) (K.name h2) (ne_ix h1 h2 h3) (locOk K h4) (locOk K h5) pa (stores_2 (kindOk K) (locOk K h4) (locOk K h5) h6 h3 (pn _ (by simp)) (pn _ (by simp)) h7 h8)
      · cases h
    · cases h
  · cases h
theorem ss_par3 (i j l : Nat) (hs : SAs T k G GV C fs ds) : SaS T k G GV C (ckPar3 fs i j l) (fun r => bnd (ds r) fun vs => bnd (opt (bindNs [i, j, l] vs r)) fun r' => ret (.nx r')) := by
  intro X c W st K h
  unfold ckPar3 at h
  split at h
  · split at h
    · split at h
      · simp only [Bool.and_eq_true, decide_eq_true_eq, Bool.not_eq_true'] at h
        obtain ⟨⟨⟨⟨⟨⟨⟨⟨⟨⟨⟨⟨⟨h1, h2⟩, h3⟩, n1⟩, n2⟩, n3⟩, h4⟩, h5⟩, h5'⟩, h6⟩, h6'⟩, h7⟩, h8⟩, h9⟩ := h
        obtain ⟨pa, pn⟩ := hs X c W _ K h9
        exact ds_par3 K.ok.calm K.nd (K.name h1) (K.name h2) (K.name h3) (ne_ix h1 h2 n1) (ne_ix h1 h3 n2) (ne_ix h2 h3 n3) (locOk K h4) (locOk K h5) (locOk K h5') pa (stores_3 (kindOk K) (locOk K h4) (locOk K h5) (locOk K h5') h6 h6' n1 n2 n3 (pn _ (by simp)) (pn _ (by simp)) (pn _ (by simp)) h7 h8)
      · cases h
    · cases h
  · cases h
theorem ss_parD (i j : Nat) (he : SA T k G GV C fe re de) : SaS T k G GV C (ckParD fe i j) (fun r => bnd (de false r) fun v => ret (.nx ((r.set i (.od [])).set j (.sh v)))) := by
  intro X c W st K h
  unfold ckParD at h
  split at h
  · split at h
    · split at h
      · simp only [Bool.and_eq_true, decide_eq_true_eq, Bool.not_eq_true'] at h
        obtain ⟨⟨⟨⟨⟨⟨⟨⟨h1, h2⟩, h3⟩, h4⟩, h5⟩, h6⟩, h7⟩, h8⟩, h9⟩ := h
        have S := he X c W _ K h9
        exact ds_parD K.ok.calm K.nd (K.name h1) (K.name h2) (ne_ix h1 h2 h3) (locOk K h4) (locOk K h5) S.e (star_one S.ns) (stores_2 (kindOk K) (locOk K h4) (locOk K h5) h6 h3 rfl S.ns h7 h8)
      · cases h
    · cases h
  · cases h
theorem ss_app (i : Nat) (he : SA T k G GV C fe re de) : SaS T k G GV C (ckMeth "append" fe i) (fun r => match Fm.get r i with
      | .ow xs => bnd (de false r) fun v => if xs.length < LIM then ret (.nx (r.set i (.ow (xs ++ [v])))) else stk
      | _ => stk) := by
  intro X c W st K h
  unfold ckMeth at h
  split at h
  · split at h
    · simp only [Bool.and_eq_true, decide_eq_true_eq] at h
      obtain ⟨⟨⟨⟨⟨rfl, h1⟩, h2⟩, h3⟩, h4⟩, h5⟩ := h
      have S := he X c W _ K h5
      exact ds_app (K.name h1) (K.vis h2) (plain_parts h3).1 (plain_parts h3).2.1 S.e h4 (star_one S.ns)
    · cases h
  · cases h
theorem ss_ext (i : Nat) (he : SA T k G GV C fe re de) : SaS T k G GV C (ckMeth "extend" fe i) (fun r => match Fm.get r i with
      | .ow xs => bnd (de true r) fun v => match v with
        | .lst ys => if xs.length + ys.length ≤ LIM then ret (.nx (r.set i (.ow (xs ++ ys)))) else stk
        | _ => stk
      | _ => stk) := by
  intro X c W st K h
  unfold ckMeth at h
  split at h
  · split at h
    · simp only [Bool.and_eq_true, decide_eq_true_eq] at h
      obtain ⟨⟨⟨⟨⟨rfl, h1⟩, h2⟩, h3⟩, h4⟩, h5⟩ := h
      have S := he X c W _ K h5
      exact ds_ext (K.name h1) (K.vis h2) (plain_parts h3).1 (plain_parts h3).2.1 S.o h4 (star_one S.ns)
    · cases h
  · cases h
theorem ss_seti (i : Nat) (hk : SA T k G GV C fd rd dd) (he : SA T k G GV C fe re de) : SaS T k G GV C (ckSeti fd fe i) (fun r => bnd (de false r) fun v => if (Fm.get r i).isNo then stk else bnd (dd false r) fun y => bnd (setSl r i y v) fun r' => ret (.nx r')) := by
  intro X c W st K h
  unfold ckSeti at h
  split at h
  · split at h
    · simp only [Bool.and_eq_true, decide_eq_true_eq] at h
      obtain ⟨⟨⟨⟨⟨h1, h2⟩, h3⟩, h4⟩, h5⟩, h6⟩ := h
      exact ds_seti K.ok.un (K.name h1) (K.vis h2) (plain_parts h3).1 (plain_parts h3).2.1 (he X c W _ K h6).e (hk X c W _ K h5).e (swaps_plain h4)
    · cases h
  · cases h
theorem ss_expr (he : SA T k G GV C fe re de) : SaS T k G GV C (ckExpr fe) (fun r => bnd (de false r) fun _ => ret (.nx r)) := by
  intro X c W st K h
  unfold ckExpr at h
  split at h
  · simp only [Bool.and_eq_true] at h
    exact ds_expr (he X c W _ K h.2).e (swaps_plain h.1)
  · cases h
theorem ss_ret (he : SA T k G GV C fe re de) : SaS T k G GV C (ckRet fe) (fun r => bnd (de false r) fun v => ret (.rt v)) := by
  intro X c W st K h
  unfold ckRet at h
  split at h
  · exact ds_ret (he X c W _ K h).e
  · cases h
theorem ss_retN : SaS T k G GV C ckRetN (fun _ => ret (.rt .non)) := by
  intro X c W st K h
  unfold ckRetN at h
  split at h
  · exact ds_retN
  · cases h
theorem ss_if (he : SA T k G GV C fe re de) (ha : SaSs T k G GV C ga ma) (hb : SaSs T k G GV C gb mb) : SaS T k G GV C (ckIf fe ga gb) (fun r => tst (de false r) fun k => if k then ma r else mb r) := by
  intro X c W st K h
  unfold ckIf at h
  split at h
  · simp only [Bool.and_eq_true] at h
    exact ds_if (he X c W _ K h.1.1).t (ha X c W _ K h.1.2) (hb X c W _ K h.2)
  · cases h
theorem ss_for (t : Tg) (hi : SAI T k G GV C fi di) (hb : SaSs T k G GV C gb mb) : SaS T k G GV C (ckFor t fi gb) (fun r => bnd (di false r) fun xs => forGo (fun x r1 => bnd (opt (bindT t x r1)) fun r2 => mb r2) xs r) := by
  intro X c W st K h
  unfold ckFor at h
  split at h
  · simp only [Bool.and_eq_true] at h
    obtain ⟨⟨⟨h1, h2⟩, h3⟩, h4⟩ := h
    exact ds_for K.ok.pas K.ok.calm K.nd (hi X c W _ _ K h2 false) (tg_of K h3) (hb X c W _ K h4) (set_plain h1)
  · cases h
theorem ss_while (n : Nat) (he : SA T k G GV C fe re de) (hb : SaSs T k G GV C gb mb) : SaS T k G GV C (ckWhile fe gb) (fun r => whGo (fun r1 => de false r1) (fun r1 => mb r1) n r) := by
  intro X c W st K h
  unfold ckWhile at h
  split at h
  · simp only [Bool.and_eq_true] at h
    exact ds_while K.ok.pas (he X c W _ K h.1).t (hb X c W _ K h.2) n
  · cases h
theorem ss_pass : SaS T k G GV C ckPass (fun r => ret (.nx r)) := by
  intro X c W st K h
  unfold ckPass at h
  split at h
  · exact ds_pass
  · cases h
/-! ### a display's comprehension, stored straight -/
def anyB (v : Expr) (y : Str) : Bool := match v with
  | .ListComp _ _ s _ => s.names.any fun (n, k) => n == y && (k == .local || k == .cell)
  | .DictComp _ _ _ s _ => s.names.any fun (n, k) => n == y && (k == .local || k == .cell)
  | _ => true
def ckSetK (f : CE) (i : Nat) (c : Ctx) (st : Stmt) : Bool := match st with
  | .Assign ts v _ => (match ts with
    | [.Name y py] => decide (c.N[i]? = some y) && locB c y && (py.line == v.pos.line) && !(anyB v y) && f c v
    | _ => false)
  | _ => false
def celB (c : Ctx) (x : Str) : Bool := decide (c.sc.names.lookup x = some .cell)
/-- a comprehension in a cell -/
def ckSetQ (f : CE) (i : Nat) (c : Ctx) (st : Stmt) : Bool := match st with
  | .Assign ts v _ => (match ts with
    | [.Name y py] => decide (c.N[i]? = some y) && celB c y && tgB c y && f c v
    | _ => false)
  | _ => false
theorem sw_trueD {kx vx : Expr} {gs : List Comprehension} {scope : Scope} {pos py : Pos} {y : Str} {l : Nat} {env : Env} (hk : env.scope.kind = .function) (hy : env.scope.names.lookup y = some .local) (hl : (py.line == pos.line) = true)
    (ha : (scope.names.any fun (n, k) => n == y && (k == .local || k == .cell)) = false) : swapsWith (.DictComp kx vx gs scope pos) (some (.Name y py)) l env = pure true := by
  have ky : env.kindOf y = some .local := hy
  have hb : env.blockKind = .function := by unfold Env.blockKind; rw [hk]; rfl
  unfold swapsWith
  simp only [hb, ky, ha, Expr.pos, hl]
  rfl
theorem sw_cell {v : Expr} {py : Pos} {y : Str} {l : Nat} {env : Env} (hy : env.scope.names.lookup y = some .cell) : swapsWith v (some (.Name y py)) l env = pure false := by
  have ky : (env.kindOf y == some .local) = false := by
    rw [show env.kindOf y = some .cell from hy]
    rfl
  cases v <;> first | rfl | (unfold swapsWith; simp only [ky, Bool.and_false, Bool.false_and])
theorem ss_setQ (i : Nat) (he : SA T k G GV C fe re de) : SaS T k G GV C (fun c st => re && ckSetQ fe i c st) (fun r => bnd (de false r) fun v => ret (.nx (r.set i (ofV v)))) := by
  intro X c W st K h
  simp only [Bool.and_eq_true] at h
  obtain ⟨h0, h⟩ := h
  unfold ckSetQ at h
  split at h
  · split at h
    · simp only [Bool.and_eq_true, decide_eq_true_eq] at h
      obtain ⟨⟨⟨h1, h2⟩, h3⟩, h4⟩ := h
      exact ds_setO K.nd (K.name h1) (K.tg h3).1 (K.tg h3).2 ((he X c W _ K h4).f h0) (sw_cell (by rw [K.sc]; exact of_decide_eq_true h2))
    · cases h
  · cases h
theorem ss_setLc (i : Nat) (tg : Tg) (vs : List Nat) (dT : Bool) (he : SA T k G GV C fe re de) (hi : SAI T k G GV C fi di) (hd : SA T k G GV C fd rd dd) (hT : dT = true → dd false = fun _ => ret (.bl true)) :
    SaS T k G GV C (ckSetK (ckLc fe tg fi fd dT vs) i) (fun r => bnd (lcD (di true) tg vs (dd false) (de false) r) fun v => ret (.nx (r.set i (ofV v)))) := by
  intro X c W st K h
  unfold ckSetK at h
  split at h
  · rename_i ts v spos
    split at h
    · rename_i y py
      simp only [Bool.and_eq_true, decide_eq_true_eq, Bool.not_eq_true'] at h
      obtain ⟨⟨⟨⟨n1, n2⟩, n3⟩, n4⟩, h⟩ := h
      unfold ckLc at h
      split at h
      · split at h
        · split at h
          · rename_i elt scope pos gs g tx iter ifs
            simp only [Bool.and_eq_true] at h
            obtain ⟨⟨⟨⟨⟨⟨h1, h2⟩, h3⟩, h4⟩, h5⟩, h6⟩, h7⟩ := h
            obtain ⟨b1, hk⟩ := blkB h1
            have b2 : BlkOk X.N X.env.scope scope (ownOf c vs) := by rw [K.ok.eN, K.sc]; exact b1
            have key := ds_setLc (T := T) (W := W) (pos := pos) (spos := spos) K.ok.calm K.nd (K.name n1) (locOk K n2) (sw_true (kindOk K) (locOk K n2) n3 n4) (hi X c W tx iter K h4 true) b2 (cl_of K hk h5 hd hT h7) (fun i hi => by rw [ownOf_snd]; exact sub_mem h2 i hi)
              (fun s H Ca cl fp => (he _ _ W0 elt (K.blk hk s H Ca cl fp) h6).e) (set_plain h3)
            rw [ownOf_snd] at key
            exact key
          · cases h
        · cases h
      · cases h
    · cases h
  · cases h
theorem ss_setLc2 (i : Nat) (tg tg2 : Tg) (vs vs2 : List Nat) (dT bT : Bool) (he : SA T k G GV C fe re de) (hi : SAI T k G GV C fi di) (hd : SA T k G GV C fd rd dd) (hT : dT = true → dd false = fun _ => ret (.bl true)) (hi2 : SAI T k G GV C fi2 di2) (hb : SA T k G GV C fb rb db) (hbT : bT = true → db false = fun _ => ret (.bl true)) :
    SaS T k G GV C (ckSetK (ckLc2 fe tg fi fd dT tg2 fi2 fb bT vs vs2) i) (fun r => bnd (lcD2 (di true) tg vs (dd false) (di2 false) tg2 vs2 (db false) (de false) r) fun v => ret (.nx (r.set i (ofV v)))) := by
  intro X c W st K h
  unfold ckSetK at h
  split at h
  · rename_i ts v spos
    split at h
    · rename_i y py
      simp only [Bool.and_eq_true, decide_eq_true_eq, Bool.not_eq_true'] at h
      obtain ⟨⟨⟨⟨n1, n2⟩, n3⟩, n4⟩, h⟩ := h
      unfold ckLc2 at h
      split at h
      · split at h
        · split at h
          · rename_i elt scope pos gs g g2 tx iter ifs tx2 iter2 ifs2
            simp only [Bool.and_eq_true] at h
            obtain ⟨⟨⟨⟨⟨⟨⟨⟨⟨⟨⟨⟨h1, h2⟩, h2'⟩, h2''⟩, h3⟩, h3'⟩, h4⟩, h4'⟩, h5⟩, h5'⟩, h6⟩, h7⟩, h8⟩ := h
            obtain ⟨b1, hk⟩ := blkB h1
            have b2 : BlkOk X.N X.env.scope scope (ownOf c vs) := by rw [K.ok.eN, K.sc]; exact b1
            have key := ds_setLc2 (T := T) (W := W) (pos := pos) (spos := spos) (vs2 := vs2) K.ok.calm K.nd (K.name n1) (locOk K n2) (sw_true (kindOk K) (locOk K n2) n3 n4) (hi X c W tx iter K h4 true) b2 (fun i hi => by rw [ownOf_snd]; exact sub_mem h2'' i hi) (cl_of K hk h5 hd hT h7) (cl_of K hk h5' hb hbT h8) (fun i hi => by rw [ownOf_snd]; exact sub_mem h2 i hi) (sub_mem h2')
              (fun s H Ca cl fp => hi2 _ _ W0 tx2 iter2 (K.blk hk s H Ca cl fp) h4' false) (fun s H Ca cl fp => (he _ _ W0 elt (K.blk hk s H Ca cl fp) h6).e) (set_plain h3) (fun env x => set_plain h3' x)
            rw [ownOf_snd] at key
            exact key
          · cases h
        · cases h
      · cases h
    · cases h
  · cases h
theorem ss_setDc (i : Nat) (tg : Tg) (vs : List Nat) (dT : Bool) (ha : SA T k G GV C fa ra da) (he : SA T k G GV C fe re de) (hi : SAI T k G GV C fi di) (hd : SA T k G GV C fd rd dd) (hT : dT = true → dd false = fun _ => ret (.bl true)) :
    SaS T k G GV C (ckSetK (ckDc fa fe tg fi fd dT vs) i) (fun r => bnd (dcD (di true) tg vs (dd false) (da false) (de false) r) fun v => ret (.nx (r.set i (ofV v)))) := by
  intro X c W st K h
  unfold ckSetK at h
  split at h
  · rename_i ts v spos
    split at h
    · rename_i y py
      simp only [Bool.and_eq_true, decide_eq_true_eq, Bool.not_eq_true'] at h
      obtain ⟨⟨⟨⟨n1, n2⟩, n3⟩, n4⟩, h⟩ := h
      unfold ckDc at h
      split at h
      · split at h
        · split at h
          · rename_i kx vx scope pos gs g tx iter ifs
            simp only [Bool.and_eq_true] at h
            obtain ⟨⟨⟨⟨⟨⟨⟨h1, h2⟩, h3⟩, h4⟩, h5⟩, h6⟩, h6'⟩, h7⟩ := h
            obtain ⟨b1, hk⟩ := blkB h1
            have b2 : BlkOk X.N X.env.scope scope (ownOf c vs) := by rw [K.ok.eN, K.sc]; exact b1
            have key := ds_setDc (T := T) (W := W) (pos := pos) (spos := spos) K.ok.un K.ok.calm K.nd (K.name n1) (locOk K n2) (sw_trueD (kindOk K) (locOk K n2) n3 n4) (hi X c W tx iter K h4 true) b2 (cl_of K hk h5 hd hT h7) (fun i hi => by rw [ownOf_snd]; exact sub_mem h2 i hi)
              (fun s H Ca cl fp => (ha _ _ W0 kx (K.blk hk s H Ca cl fp) h6).e) (fun s H Ca cl fp => (he _ _ W0 vx (K.blk hk s H Ca cl fp) h6').e) (set_plain h3)
            rw [ownOf_snd] at key
            exact key
          · cases h
        · cases h
      · cases h
    · cases h
  · cases h
end
end RP

/-! Fw31: an owned dict that is read by an iterator, locked for the statement alone. Own work. -/
namespace RP
open PySem PySem.Spec PyProof.Rows L2
section
variable {S : Sy} {G G' H H' H₀ : Hp} {m m' : List Addr} {s : AS} {r : Fm} {σ : L2.St}
theorem ext_nil : Ext [] m (fun _ => none) G (fun _ => none) H :=
  ⟨fun _ _ h => (nomatch h), ⟨m, by simp⟩, fun _ _ => .inr rfl, fun _ _ _ => .inr rfl, fun _ _ h => (nomatch h), fun _ _ => rfl⟩
theorem Wd.put {b : Addr} {o o' : HO} (wd : Wd S G m s H) (hd : H b = some o) (nt : ntbl o) (hc : ∀ q, o ≠ LamX.CodeO b q) (hm : b ∉ m) (hg : G b = none) : Wd S G m s (upd H b o') :=
  (write_new ext_nil wd (by rw [hd]; exact fun z => nomatch z) hm hg rfl (fun ps z => by rw [hd] at z; cases z; exact nt ps rfl) (fun q z => by rw [hd] at z; cases z; exact hc q rfl)).2
theorem lock_sec {i : Nat} {kvs : List (PV × PV)} (a : At S G m s H₀ H r σ) (q : Fm.get r i = .od kvs) : ∃ b es, σ[i]? = some (some (.ref b)) ∧ H b = some (DctO S.P S.w b es) ∧ RepsD S G m kvs es ∧ b ∉ m ∧ ∀ od,
    At S G m s H₀ (upd H b (.frz od (DctO S.P S.w b es))) (r.set i .no) σ ∧ ∀ G' m' H' s', Ext m m' G G' (upd H b (.frz od (DctO S.P S.w b es))) H' → Wd S G' m' s' H' →
      H' b = some (.frz od (DctO S.P S.w b es)) ∧ Ext m m' G G' H (upd H' b (DctO S.P S.w b es)) ∧ Wd S G' m' s' (upd H' b (DctO S.P S.w b es)) ∧ ∀ x v, RepF S G' m' (upd H b (.frz od (DctO S.P S.w b es))) H' x v → RepF S G' m' H (upd H' b (DctO S.P S.w b es)) x v := by
  obtain ⟨wd, fm⟩ := a
  obtain ⟨oa, f⟩ := fm.at
  have O := f.ok i
  rw [q] at O
  obtain ⟨h1, ⟨es, h2, h3⟩, h4, h5, h6⟩ := O
  have hlt : i < r.length := by
    by_cases z : i < r.length
    · exact z
    · rw [get_out r (by omega)] at q; cases q
  refine ⟨oa i, es, h1, h2, h3, h4, fun od => ⟨⟨wd.put h2 ntbl_dct (fun _ => dct_ne_code) h4 h5, ?_⟩, fun G' m' H' s' e wd' => ?_⟩⟩
  · refine ⟨by simp [f.len], oa, fun j => ?_, fun j k hj hk ee => ?_⟩
    · by_cases hj : j = i
      · subst hj
        rw [get_set_same r j _ hlt]
        trivial
      · rw [get_set_ne r _ (Ne.symm hj)]
        have O := f.ok j
        cases p : Fm.get r j with
        | no => trivial
        | sh y =>
          rw [p] at O
          exact O
        | ow xs =>
          rw [p] at O
          have ne : oa j ≠ oa i := fun z => hj (f.inj j i (by rw [p]; rfl) (by rw [q]; rfl) z)
          obtain ⟨g1, ⟨vs, g2, g3⟩, g4, g5, g6⟩ := O
          exact ⟨g1, ⟨vs, by rw [upd_ne ne]; exact g2, g3⟩, g4, g5, g6⟩
        | od xs =>
          rw [p] at O
          have ne : oa j ≠ oa i := fun z => hj (f.inj j i (by rw [p]; rfl) (by rw [q]; rfl) z)
          obtain ⟨g1, ⟨vs, g2, g3⟩, g4, g5, g6⟩ := O
          exact ⟨g1, ⟨vs, by rw [upd_ne ne]; exact g2, g3⟩, g4, g5, g6⟩
    · have nj : j ≠ i := fun z => by rw [z, get_set_same r i _ hlt] at hj; cases hj
      have nk : k ≠ i := fun z => by rw [z, get_set_same r i _ hlt] at hk; cases hk
      rw [get_set_ne r _ (Ne.symm nj)] at hj
      rw [get_set_ne r _ (Ne.symm nk)] at hk
      exact f.inj j k hj hk ee
  · have hb : H' (oa i) = some (.frz od (DctO S.P S.w (oa i) es)) := e.keep _ _ upd_same h4 ntbl_frz
    have hm' : oa i ∉ m' := fun z => (e.newm _ z).elim h4 fun z => by rw [upd_same] at z; cases z
    have hg' : G' (oa i) = none := by
      cases p : G' (oa i) with
      | none => rfl
      | some o => exact ((e.newG _ _ p).elim (fun z => by rw [h5] at z; cases z) fun z => by rw [upd_same] at z; cases z)
    have back : ∀ c, upd H (oa i) (.frz od (DctO S.P S.w (oa i) es)) c = none → H c = none := fun c z => by
      by_cases hc : c = oa i
      · rw [hc, upd_same] at z; cases z
      · rw [upd_ne hc] at z; exact z
    have ne : ∀ c, H' c ≠ some (.frz od (DctO S.P S.w (oa i) es)) → c ≠ oa i := fun c z zz => z (by rw [zz]; exact hb)
    refine ⟨hb, ⟨e.le, e.pre, fun c h => (e.newm c h).imp id (back c), fun c o h => (e.newG c o h).imp id (back c), fun c o h g n => ?_, fun c h => ?_⟩, wd'.put hb ntbl_frz (fun q z => by exact nomatch (show HO.frz od (DctO S.P S.w (oa i) es) = LamX.CodeO (oa i) q from z)) hm' hg', fun x v rx => ?_⟩
    · by_cases hc : c = oa i
      · subst hc
        rw [h2] at h
        cases h
        exact upd_same
      · rw [upd_ne hc]
        exact e.keep c o (by rw [upd_ne hc]; exact h) g n
    · have hc : c ≠ oa i := fun z => by rw [z, upd_same] at h; cases h
      rw [upd_ne hc] at h
      exact back c (e.dom c h)
    · cases rx with
      | val hx h => exact .val hx h
      | lst h hm hg hn r => exact .lst (by rw [upd_ne (ne _ (fun z => by rw [h] at z; cases z))]; exact h) hm hg (back _ hn) r
      | dct h hm hg hn r => exact .dct (by rw [upd_ne (ne _ (fun z => by rw [h] at z; exact nomatch (Option.some.inj z)))]; exact h) hm hg (back _ hn) r
theorem iter_iO {a : Addr} {od : Obj} {kvs : List (PV × PV)} {es : List (NestedKey × Addr × V)} (h : H a = some (.frz od (DctO S.P S.w a es))) (hm : a ∉ m) (r : RepsD S G m kvs es) : IterOk S true G m H (kvs.map fun kv => .tup [kv.1, kv.2]) (ItiD S.P S.w a od es) := by
  intro G' m' s' H' wd' l e
  have q : H' a = some (.frz od (DctO S.P S.w a es)) := (e rfl).keep _ _ h hm ntbl_frz
  refine ⟨fun i hi => ⟨q, by rw [List.length_map, r.length] at hi; exact hi⟩, ⟨q, by rw [List.length_map, r.length]; exact Nat.le_refl _⟩, fun i x v H2 hx y => ?_⟩
  obtain ⟨p, T, hp, rfl, hT, rfl⟩ := y
  rw [List.getElem?_map] at hx
  cases c : kvs[i]? with
  | none => rw [c] at hx; cases hx
  | some kv =>
    rw [c] at hx
    cases hx
    obtain ⟨p', e1, e2, e3⟩ := repsD_get r c
    rw [hp] at e1
    cases e1
    exact pair_new wd' hT (e2.mono l.le l.pre) (e3.mono l.le l.pre)
end
end RP

/-! Fw32: name = [e for t in d.items() if c], d an owned dict that stays owned. Own work. -/
namespace RP
open PySem PySem.Spec PyProof.Rows L2
theorem lc_body {S : Sy} {t : Tg} {vs : List Nat} {dc de : Fm → M PV} {r : Fm} {σ : L2.St} {G1 H1 H₀ : Hp} {m1 : List Addr} {s1 : AS} {xs : List PV} {J : L2.It} {Q : VK} {W : XK} (ht : ∀ i, i ∈ t.is → i ∈ vs) (wd1 : Wd S G1 m1 s1 H1) (fm1 : FmOk S G1 m1 H₀ H1 r σ)
    (io : IterOk S true G1 m1 H1 xs J) (p1 : Post S (RepM S .F) G1 m1 H1 (noExc (bnd (lcGo (lcF t vs dc de r) xs []) finL) s1) Q W) : tLc (fun _ H R => R J H) (gTg S t) (tDT S W0 dc) (tD S .E W0 de) vs σ H1 Q := by
  intro D hD
  refine ⟨fun i n H => n = xs.length - i ∧ i ≤ xs.length ∧ ∃ G m s acc us, Ext m1 m G1 G H1 H ∧ Wd S G m s H ∧ H D = some (.lst us) ∧ D ∉ m ∧ G D = none ∧ Reps S G m acc us ∧
    Post S (RepM S .F) G1 m1 H1 (noExc (bnd (lcGo (lcF t vs dc de r) (xs.drop i) acc) finL) s) Q W,
    ⟨xs.length, rfl, Nat.zero_le _, G1, m1, s1, [], [], wd1.newExt hD, wd1.new hD, upd_same, wd1.mnone hD, wd1.Gnone hD, .nil, p1⟩, ?_⟩
  rintro i n H' ⟨rfl, hle, G2, m2, s2, acc, us, e2, wd2, hl, hm, hg, racc, p2⟩
  obtain ⟨hgo, hstop, hy⟩ := io G2 m2 s2 H' wd2 e2.lat fun _ => e2
  by_cases hlt : i < xs.length
  · refine .inr ⟨hgo i hlt, fun H' => ∃ G m s acc us, Ext m1 m G1 G H1 H' ∧ Wd S G m s H' ∧ H' D = some (.lst us) ∧ D ∉ m ∧ G D = none ∧ Reps S G m acc us ∧
      Post S (RepM S .F) G1 m1 H1 (noExc (bnd (lcGo (lcF t vs dc de r) (xs.drop (i + 1)) acc) finL) s) Q W, fun H' q => ⟨xs.length - (i + 1), by omega, rfl, hlt, q⟩, fun v H3 yl => ?_⟩
    obtain ⟨G3, e3, wd3, rv⟩ := hy i xs[i] v H3 (List.getElem?_eq_getElem hlt) yl
    rw [List.drop_eq_getElem_cons hlt] at p2
    have p2 : Post S (RepM S .F) G1 m1 H1 (noExc (bnd (bnd (bnd (opt (bindT t xs[i] (r.wipe vs))) fun r2 => tst (dc r2) fun k => if k then bnd (de r2) fun y => ret [y] else ret []) fun ys => lcGo (lcF t vs dc de r) (xs.drop (i + 1)) (acc ++ ys)) finL) s2) Q W := p2
    cases q : bindT t xs[i] (r.wipe vs) with
    | none => rw [q] at p2; exact p2.elim
    | some r3 =>
      rw [q] at p2
      have p2 : Post S (RepM S .F) G1 m1 H1 (noExc (bnd (bnd (tst (dc r3) fun k => if k then bnd (de r3) fun y => ret [y] else ret []) fun ys => lcGo (lcF t vs dc de r) (xs.drop (i + 1)) (acc ++ ys)) finL) s2) Q W := p2
      rw [bnd_assoc] at p2
      have e13 := e2.trans e3
      have fm3 : FmOk S G3 m2 H₀ H3 (r.wipe vs) (L2.wipe σ vs) := FmOk.wipe (fm1.ext e13) vs
      refine ⟨G3, m2, s2, H₀, r.wipe vs, xs[i], r3, ⟨wd3, fm3⟩, .rep rv, fun _ _ => rv, q, fun σ4 a4 hw => ⟨(hw vs ht).trans (wipe_wipe σ vs), ?_⟩⟩
      have hl3 := e3.keep _ _ hl hm ntbl_lst
      have hm3 := e3.notm hl hm
      have hg3 := e3.notG hl hg
      refine ⟨G3, m2, s2, H₀, r3, ⟨wd3, a4 H3 fm3⟩, ?_⟩
      unfold tst at p2
      rw [bnd_assoc] at p2
      refine Post.nx p2 fun k s5 G5 m5 H5 b e5 wd5 rb p5 => ?_
      have rb : k = b := rb
      subst rb
      have hl5 := e5.keep _ _ hl3 hm3 ntbl_lst
      have hm5 := e5.notm hl3 hm3
      have hg5 := e5.notG hl3 hg3
      have e15 := e13.trans e5
      have racc5 := (racc.ext e3).ext e5
      cases k with
      | false =>
        have p5 : Post S (RepM S .F) G1 m1 H1 (noExc (bnd (lcGo (lcF t vs dc de r) (xs.drop (i + 1)) (acc ++ [])) finL) s5) Q W := p5
        rw [List.append_nil] at p5
        exact ⟨G5, m5, s5, acc, us, e15, wd5, hl5, hm5, hg5, racc5, p5⟩
      | true =>
        have p5 : Post S (RepM S .F) G1 m1 H1 (noExc (bnd (bnd (de r3) fun y => ret [y]) fun ys => bnd (lcGo (lcF t vs dc de r) (xs.drop (i + 1)) (acc ++ ys)) finL) s5) Q W := p5
        rw [bnd_assoc] at p5
        rw [if_pos rfl]
        refine ⟨G5, m5, s5, H₀, r3, ⟨wd5, (a4 H3 fm3).ext e5⟩, Post.nx p5 fun y s6 G6 m6 H6 w e6 wd6 ry p6 => ?_⟩
        have ry : Rep S G6 m6 y w := ry
        have p6 : Post S (RepM S .F) G1 m1 H1 (noExc (bnd (lcGo (lcF t vs dc de r) (xs.drop (i + 1)) (acc ++ [y])) finL) s6) Q W := p6
        have hl6 := e6.keep _ _ hl5 hm5 ntbl_lst
        have hm6 := e6.notm hl5 hm5
        have hg6 := e6.notG hl5 hg5
        have racc6 := racc5.ext e6
        have hle6 := p6.acc_le
        obtain ⟨k1, k2⟩ := write_new (o := .lst (us ++ [w])) (e15.trans e6) wd6 (by rw [hl6]; exact fun z => nomatch z) hm6 hg6 hD (by rw [hl6]; exact fun _ z => nomatch z) (by rw [hl6]; exact fun _ z => nomatch z)
        refine ⟨us, hl6, ?_, G6, m6, s6, acc ++ [y], us ++ [w], k1, k2, upd_same, hm6, hg6, racc6.append (.cons ry .nil), p6⟩
        have := LIM_le
        rw [← racc.length]
        rw [List.length_append] at hle6
        simp at hle6
        omega
  · have e : i = xs.length := by omega
    subst e
    rw [List.drop_length] at p2
    have p2 : Post S (RepM S .F) G1 m1 H1 (noExc (finL acc) s2) Q W := p2
    refine .inl ⟨hstop, ?_⟩
    unfold finL at p2
    by_cases c : acc.length ≤ LIM
    · rw [if_pos c] at p2
      exact p2 G2 m2 H' (.ref D) e2 wd2 (.lst hl hm hg hD racc)
    · rw [if_neg c] at p2
      exact p2.elim
theorem noExc_exc {α : Type} {x : M α} {s s' : AS} {e : Exc} : noExc x s ≠ .exc e s' := fun h => by
  unfold noExc at h
  cases q : x s with
  | ok a b => rw [q] at h; cases h
  | exc a b => rw [q] at h; cases h
  | stuck => rw [q] at h; cases h
section
variable {X : Cx} {T : List (Addr × Str)} {W : XK}
variable {elt : Expr} {elts : List Expr} {kk : Nat} {ifs : List Expr} {scope : Scope} {own : List (Str × Nat)} {pos spos py px tpos apos cpos : Pos} {t : Tg} {dc de : Fm → M PV} {i j : Nat} {x y : Str}
def itemsX (kvs : List (PV × PV)) : List PV := kvs.map fun kv => .tup [kv.1, kv.2]
theorem ds_setLcO (hc : X.calm = true) (hN : X.N.Nodup) (hy : X.N[j]? = some y) (hyl : X.env.scope.names.lookup y = some .local) (hx : X.N[i]? = some x) (hv : Vis X.env.scope x) (hd : (x == ("__debug__" : Str)) = false) (hcd : (x == ("__classdict__" : Str)) = false) (hl : (apos.endLine == cpos.line) = true)
    (hsw : swapsWith (.ListComp elt [⟨.Tuple elts kk tpos, .Call (.Attribute (.Name x px) "items" apos) [] [] cpos, ifs, 0⟩] scope pos) (some (.Name y py)) spos.line X.env = pure true)
    (ok : BlkOk X.N X.env.scope scope own) (cl : ClOk X T scope (.Tuple elts kk tpos) t ifs dc) (ht : ∀ i, i ∈ t.is → i ∈ own.map (·.2))
    (he : ∀ (s : Shared) (H : Hp) (C : Addr) (cl : List (Str × Addr)) (fp : List Addr), PE (X.blk s H scope (compEnvC scope cl C X.env) fp) elt (tD (sy X T) .E W0 de)) :
    PS X (.Assign [.Name y py] (.ListComp elt [⟨.Tuple elts kk tpos, .Call (.Attribute (.Name x px) "items" apos) [] [] cpos, ifs, 0⟩] scope pos) spos) (tS (sy X T) W fun r => match Fm.get r i with
      | .od kvs => bnd (noExc (bnd (lcGo (lcF t (own.map (·.2)) dc de (r.set i .no)) (itemsX kvs) []) finL)) fun v => ret (.nx (r.set j (ofV v)))
      | _ => stk) := by
  refine (ps_lock (ps_setLc (g := gTg (sy X T) t) (tt := tDT (sy X T) W0 dc) hc hN hy hyl hsw (pi_itemsD (pe_var hx hv hd hcd) rfl hl) ok (fun s H C c fp => tg_ok (X := X.blk s H scope (compEnvC scope c C X.env) fp) (T := T) hN hc (cl.tg s H C c fp)) (fun s H C c fp => pts_of (T := T) (Y := X.blk s H scope (compEnvC scope c C X.env) fp) (cl.ifs s H C c fp)) he (fun _ => rfl))).imp fun D σ H ⟨G₀, m₀, H₀, Gb, mb, G, m, s, r, a, p⟩ => ?_
  dsimp only at p
  cases q : Fm.get r i with
  | no => rw [q] at p; exact p.elim
  | sh z => rw [q] at p; exact p.elim
  | ow z => rw [q] at p; exact p.elim
  | od kvs =>
    rw [q] at p
    obtain ⟨b, es, h1, h2, h3, h4, K⟩ := lock_sec a.at q
    refine ⟨b, _, h2, True.intro, fun od => ?_⟩
    obtain ⟨aL, back⟩ := K od
    have pp : Post (sy X T) (RepM (sy X T) .F) G m H (noExc (bnd (lcGo (lcF t (own.map (·.2)) dc de (r.set i .no)) (itemsX kvs) []) finL) s) (fun v H' => D.nx (σ.set j (some v)) H') W :=
      PostS.step a p fun x s1 G1 m1 H1 v e1 a1 rx p1 => p1 G1 m1 H1 _ a1.ext a1.lat ⟨a1.wd, a.fm.putF e1 a.ext.dom j rx⟩
    refine ⟨.ref b, h1, b, od, es, rfl, upd_same, ?_⟩
    refine lc_body (xs := itemsX kvs) (Q := fun x H' => H' b = some (.frz od (DctO (sy X T).P (sy X T).w b es)) ∧ D.nx (σ.set j (some x)) (upd H' b (DctO (sy X T).P (sy X T).w b es))) ht aL.1 aL.2 (iter_iO upd_same h4 h3) (?_ : Post (sy X T) (RepM (sy X T) .F) G m _ (noExc (bnd (lcGo (lcF t (own.map (·.2)) dc de (r.set i .no)) (itemsX kvs) []) finL) s) _ W)
    cases z : noExc (bnd (lcGo (lcF t (own.map (·.2)) dc de (r.set i .no)) (itemsX kvs) []) finL) s with
    | ok w s1 =>
      rw [z] at pp
      intro G' m' H' v e wd rv
      obtain ⟨k1, k2, k3, k4⟩ := back G' m' H' s1 e wd
      exact ⟨k1, pp G' m' _ v k2 k3 (k4 _ _ rv)⟩
    | exc w s1 => exact (noExc_exc z).elim
    | stuck =>
      rw [z] at pp
      exact pp.elim
end
end RP

/-! Fw33: a, b = e, []. Own work. -/
namespace RP
open PySem PySem.Spec PyProof.Rows L2
section
variable {X : Cx} {T : List (Addr × Str)} {W : XK} {pos : Pos}
theorem ds_parL {i j : Nat} {x y : Str} {a b : Expr} {da : Fm → M PV} {px py pt pt2 : Pos} {kt k2 : Nat} (hc : X.calm = true) (hN : X.N.Nodup) (hi : X.N[i]? = some x) (hj : X.N[j]? = some y) (hij : i ≠ j)
    (hx : X.env.scope.names.lookup x = some .local) (hy : X.env.scope.names.lookup y = some .local) (ha : PE X a (tD (sy X T) .E W da)) (hb : PE X b (tD (sy X T) .F W fun _ => RP.ret (.lst []))) (hsa : starEach [a, b] X.env = (false, eval a X.env) :: starEach [b] X.env) (hsb : starEach [b] X.env = [(false, eval b X.env)])
    (hw : swappedStores [.Tuple [.Name x px, .Name y py] kt pt] (.Tuple [a, b] k2 pt2) X.env = pure (some [x, y])) :
    PS X (.Assign [.Tuple [.Name x px, .Name y py] kt pt] (.Tuple [a, b] k2 pt2) pos) (tS (sy X T) W fun r => bnd (da r) fun v => RP.ret (.nx ((r.set i (.sh v)).set j (.ow [])))) := by
  refine (ps_par hc hN hi hj hij hx hy (pa_cons ha (pa_cons hb pa_nil (by rw [hsb]; rfl)) hsa) hw rfl).imp fun D σ H ⟨G₀, m₀, H₀, Gb, mb, G, m, s, r, a, p⟩ => ?_
  refine ⟨G, m, s, H₀, r, a.at, PostS.step a p fun v s2 G2 m2 H2 u e2 a2 rv p2 => ?_⟩
  refine ⟨G2, m2, s2, H₀, r, a2.at, PostS.step (x := RP.ret (PV.lst [])) (f := fun w : PV => RP.ret (Fl.nx ((r.set i (.sh v)).set j (ofV w)))) a2 p2 fun w s3 G3 m3 H3 v3 e3 a3 rx p3 => ⟨_, _, rfl, ?_⟩⟩
  exact p3 G3 m3 H3 _ a3.ext a3.lat ⟨a3.wd, (a2.fm.putSh i rv).putF e3 a2.ext.dom j rx⟩
theorem RepF.go {S : Sy} {G G2 H₀ H H2 : Hp} {m m2 : List Addr} {x : PV} {v : V} (h : RepF S G m H₀ H x v) (e : Ext m m2 G G2 H H2) : RepF S G2 m2 H₀ H2 x v := by
  cases h with
  | val hx r => exact .val hx (r.ext e)
  | lst h hm hg hn r => exact .lst (e.keep _ _ h hm ntbl_lst) (e.notm h hm) (e.notG h hg) hn (r.ext e)
  | dct h hm hg hn r => exact .dct (e.keep _ _ h hm ntbl_dct) (e.notm h hm) (e.notG h hg) hn (r.ext e)
/-- a, b = e, e2: the first is owned -/
theorem ds_parO {i j : Nat} {x y : Str} {a b : Expr} {da db : Fm → M PV} {px py pt pt2 : Pos} {kt k2 : Nat} (hc : X.calm = true) (hN : X.N.Nodup) (hi : X.N[i]? = some x) (hj : X.N[j]? = some y) (hij : i ≠ j)
    (hx : X.env.scope.names.lookup x = some .local) (hy : X.env.scope.names.lookup y = some .local) (ha : PE X a (tD (sy X T) .F W da)) (hb : PE X b (tD (sy X T) .E W db)) (hsa : starEach [a, b] X.env = (false, eval a X.env) :: starEach [b] X.env) (hsb : starEach [b] X.env = [(false, eval b X.env)])
    (hw : swappedStores [.Tuple [.Name x px, .Name y py] kt pt] (.Tuple [a, b] k2 pt2) X.env = pure (some [x, y])) :
    PS X (.Assign [.Tuple [.Name x px, .Name y py] kt pt] (.Tuple [a, b] k2 pt2) pos) (tS (sy X T) W fun r => bnd (da r) fun v => bnd (db r) fun w => RP.ret (.nx ((r.set i (ofV v)).set j (.sh w)))) := by
  refine (ps_par hc hN hi hj hij hx hy (pa_cons ha (pa_cons hb pa_nil (by rw [hsb]; rfl)) hsa) hw rfl).imp fun D σ H ⟨G₀, m₀, H₀, Gb, mb, G, m, s, r, a, p⟩ => ?_
  refine ⟨G, m, s, H₀, r, a.at, PostS.step a p fun v s2 G2 m2 H2 u e2 a2 rv p2 => ?_⟩
  refine ⟨G2, m2, s2, H₀, r, a2.at, PostS.step a2 p2 fun w s3 G3 m3 H3 v3 e3 a3 rx p3 => ⟨_, _, rfl, ?_⟩⟩
  have rv' : RepF (sy X T) G3 m3 H H3 v u := RepF.go rv e3
  have f := a.fm.putF (e2.trans e3) a.ext.dom i rv'
  exact p3 G3 m3 H3 _ a3.ext a3.lat ⟨a3.wd, f.putSh j rx⟩
end
def ckParL (f g : CE) (i j : Nat) (c : Ctx) (st : Stmt) : Bool := match st with
  | .Assign ts v _ => (match ts with
    | [.Tuple [.Name x px, .Name y py] _ _] => (match v with
      | .Tuple [a, b] _ _ => decide (c.N[i]? = some x) && decide (c.N[j]? = some y) && decide (x ≠ y) && locB c x && locB c y && (py.line == px.line) && !([a, b].all (foldedForSure 8)) && !([a, b].all (constantsAlone 8)) && f c a && g c b
      | _ => false)
    | _ => false)
  | _ => false
section
variable {T : List (Addr × Str)} {k : Nat} {G : List Den} {GV : List (Str × Nat × Den)} {C : List PV} {fe fg : CE} {re rg : Bool} {de : Bool → Fm → M PV}
theorem ss_parL (i j : Nat) (he : SA T k G GV C fe re de) (hg : SA T k G GV C fg true (fun _ _ => RP.ret (.lst []))) : SaS T k G GV C (ckParL fe fg i j) (fun r => bnd (de false r) fun v => RP.ret (.nx ((r.set i (.sh v)).set j (.ow [])))) := by
  intro X c W st K h
  unfold ckParL at h
  split at h
  · split at h
    · split at h
      · simp only [Bool.and_eq_true, decide_eq_true_eq, Bool.not_eq_true'] at h
        obtain ⟨⟨⟨⟨⟨⟨⟨⟨⟨h1, h2⟩, h3⟩, h4⟩, h5⟩, h6⟩, h7⟩, h8⟩, h9⟩, h10⟩ := h
        have S := he X c W _ K h9
        have S2 := hg X c W _ K h10
        exact ds_parL K.ok.calm K.nd (K.name h1) (K.name h2) (ne_ix h1 h2 h3) (locOk K h4) (locOk K h5) S.e (S2.f rfl) (star_cons S.ns) (star_one S2.ns) (stores_2 (kindOk K) (locOk K h4) (locOk K h5) h6 h3 S.ns S2.ns h7 h8)
      · cases h
    · cases h
  · cases h
theorem ss_parO {rf : Bool} {dg : Bool → Fm → M PV} (i j : Nat) (he : SA T k G GV C fe rf de) (hg : SA T k G GV C fg rg dg) : SaS T k G GV C (fun c st => rf && ckParL fe fg i j c st) (fun r => bnd (de false r) fun v => bnd (dg false r) fun w => RP.ret (.nx ((r.set i (ofV v)).set j (.sh w)))) := by
  intro X c W st K h
  rw [Bool.and_eq_true] at h
  obtain ⟨h0, h⟩ := h
  unfold ckParL at h
  split at h
  · split at h
    · split at h
      · simp only [Bool.and_eq_true, decide_eq_true_eq, Bool.not_eq_true'] at h
        obtain ⟨⟨⟨⟨⟨⟨⟨⟨⟨h1, h2⟩, h3⟩, h4⟩, h5⟩, h6⟩, h7⟩, h8⟩, h9⟩, h10⟩ := h
        have S := he X c W _ K h9
        have S2 := hg X c W _ K h10
        exact ds_parO K.ok.calm K.nd (K.name h1) (K.name h2) (ne_ix h1 h2 h3) (locOk K h4) (locOk K h5) (S.f h0) S2.e (star_cons S.ns) (star_one S2.ns) (stores_2 (kindOk K) (locOk K h4) (locOk K h5) h6 h3 S.ns S2.ns h7 h8)
      · cases h
    · cases h
  · cases h
end
/-! a, b = x, y where a target is a cell: no swap -/
def nameOf : Expr → Option Str
  | .Name x _ => some x
  | _ => none
theorem stores_cell {x y : Str} {px py : Pos} {vs : List Expr} {kk kk2 : Nat} {p p2 : Pos} {env : Env} (h : (env.kindOf x == some .local && env.kindOf y == some .local) = false) : swappedStores [.Tuple [.Name x px, .Name y py] kk p] (.Tuple vs kk2 p2) env = pure none := by
  unfold swappedStores
  dsimp only
  split
  · rfl
  · split
    · rfl
    · have hl : ∀ l : Nat, (List.filterMap (fun e : Expr => match e with
          | .Name id pos => if (env.kindOf id == some .local && pos.line == l) = true then some id else none
          | _ => none) [.Name x px, .Name y py]).length ≠ 2 := by
        intro l
        simp only [List.filterMap_cons, List.filterMap_nil]
        cases a : (env.kindOf x == some NameKind.local) <;> cases b : (env.kindOf y == some NameKind.local) <;> cases q1 : (px.line == l) <;> cases q2 : (py.line == l) <;> simp_all
      rw [if_pos]
      rw [Bool.or_eq_true]
      left
      rw [bne_iff_ne]
      exact hl _
def ckSetX (f : CE) (is : List Nat) (c : Ctx) (st : Stmt) : Bool := match st with
  | .Assign ts v _ => (match ts with
    | [.Tuple [.Name x px, .Name y py] _ _] => (match v with
      | .Tuple vs _ _ => chkTgs is c [.Name x px, .Name y py] && !(c.sc.names.lookup x == some .local && c.sc.names.lookup y == some .local) && f c v
      | _ => false)
    | _ => false)
  | _ => false
section
variable {T : List (Addr × Str)} {k : Nat} {G : List Den} {GV : List (Str × Nat × Den)} {C : List PV} {fe : CE} {re : Bool} {de : Bool → Fm → M PV}
theorem ss_setX (is : List Nat) (he : SA T k G GV C fe re de) : SaS T k G GV C (fun c st => (ckSetT fe is c st || ckSetC fe is c st) || ckSetX fe is c st) (fun r => bnd (de true r) fun v => bnd (opt (bndN is v r)) fun r' => RP.ret (.nx r')) := by
  intro X c W st K h
  rw [Bool.or_eq_true] at h
  rcases h with h | h
  · exact ss_setT is he X c W st K h
  · unfold ckSetX at h
    split at h
    · split at h
      · split at h
        · rename_i x px y py _ _ _ vs _ _
          simp only [Bool.and_eq_true, Bool.not_eq_true'] at h
          obtain ⟨⟨h1, h2⟩, h3⟩ := h
          refine ds_setT (tg := (by assumption)) K.nd K.ok.calm (tgs_of K _ _ h1) (he X c W _ K h3).o sole_tuple (stores_cell ?_)
          unfold Env.kindOf
          rw [K.sc]
          exact h2
        · cases h
      · cases h
    · cases h
end
end RP

/-! Fw34: raise X('text'), X an own class over ValueError. Own work. -/
namespace RP
open PySem PySem.Spec PyProof.Rows L2
def ckRaise (x : Str) (c : Ctx) (st : Stmt) : Bool := match st with
  | .Raise (some e) none _ => (match e with
    | .Call (.Name y _) [.Constant (.str _) _ _] [] _ => decide (y = x) && glB c x && plainN x && c.exs.contains x
    | _ => false)
  | _ => false
section
variable {T : List (Addr × Str)} {k : Nat} {G : List Den} {GV : List (Str × Nat × Den)} {C : List PV}
theorem ss_raise (x : Str) : SaS T k G GV C (ckRaise x) (fun _ => fun s => .exc (.mk x []) s) := by
  intro X c W st K h
  unfold ckRaise at h
  split at h
  · split at h
    · simp only [Bool.and_eq_true, decide_eq_true_eq] at h
      obtain ⟨⟨⟨rfl, h2⟩, h3⟩, h4⟩ := h
      obtain ⟨Ca, e1, e2, e3, e4, e5⟩ := (K.ex _ (by simpa using h4)).ex
      refine (L2N.ps_raise K.ok.calm K.ok.tk (L2N.pmk_own PySem.F.excBase_ValueError e2 e1 e3 (raises_own e4 e5) (K.gl h2) (plain_parts h3).1)).imp fun D σ H ⟨G₀, m₀, H₀, Gb, mb, G, m, s, r, a, p⟩ => ?_
      exact p G m H _ none a.ext a.wd ⟨Ca, e1, rfl, rfl⟩
    · cases h
  · cases h
end
end RP

/-! Fw35: a, b, c = e, e2, e3 with an owned first; x[k], y = (e, True). Own work. -/
namespace RP
open PySem PySem.Spec PyProof.Rows L2
section
variable {X : Cx} {T : List (Addr × Str)} {W : XK} {pos : Pos}
theorem ds_parO3 {i j l : Nat} {x y z : Str} {a b c : Expr} {da db dc : Fm → M PV} {px py pz pt pt2 : Pos} {kt k2 : Nat} (hc : X.calm = true) (hN : X.N.Nodup) (hi : X.N[i]? = some x) (hj : X.N[j]? = some y) (hl : X.N[l]? = some z) (hij : i ≠ j) (hil : i ≠ l) (hjl : j ≠ l)
    (hx : X.env.scope.names.lookup x = some .local) (hy : X.env.scope.names.lookup y = some .local) (hz : X.env.scope.names.lookup z = some .local) (ha : PE X a (tD (sy X T) .F W da)) (hb : PE X b (tD (sy X T) .E W db)) (hd : PE X c (tD (sy X T) .E W dc))
    (hsa : starEach [a, b, c] X.env = (false, eval a X.env) :: starEach [b, c] X.env) (hsb : starEach [b, c] X.env = (false, eval b X.env) :: starEach [c] X.env) (hsc : starEach [c] X.env = [(false, eval c X.env)])
    (hw : swappedStores [.Tuple [.Name x px, .Name y py, .Name z pz] kt pt] (.Tuple [a, b, c] k2 pt2) X.env = pure (some [x, y, z])) :
    PS X (.Assign [.Tuple [.Name x px, .Name y py, .Name z pz] kt pt] (.Tuple [a, b, c] k2 pt2) pos) (tS (sy X T) W fun r => bnd (da r) fun v => bnd (db r) fun w => bnd (dc r) fun u => RP.ret (.nx (((r.set i (ofV v)).set j (.sh w)).set l (.sh u)))) := by
  refine (ps_par3 hc hN hi hj hl hij hil hjl hx hy hz (pa_cons ha (pa_cons hb (pa_cons hd pa_nil (by rw [hsc]; rfl)) hsb) hsa) hw rfl).imp fun D σ H ⟨G₀, m₀, H₀, Gb, mb, G, m, s, r, a, p⟩ => ?_
  refine ⟨G, m, s, H₀, r, a.at, PostS.step a p fun v s2 G2 m2 H2 u e2 a2 rv p2 => ?_⟩
  refine ⟨G2, m2, s2, H₀, r, a2.at, PostS.step a2 p2 fun w s3 G3 m3 H3 v3 e3 a3 rx p3 => ?_⟩
  refine ⟨G3, m3, s3, H₀, r, a3.at, PostS.step a3 p3 fun z s4 G4 m4 H4 v4 e4 a4 ry p4 => ⟨_, _, _, rfl, ?_⟩⟩
  have rv' : RepF (sy X T) G4 m4 H H4 v u := RepF.go (RepF.go rv e3) e4
  have rx' : Rep (sy X T) G4 m4 w v3 := Rep.ext rx e4
  have f := a.fm.putF (e2.trans (e3.trans e4)) a.ext.dom i rv'
  exact p4 G4 m4 H4 _ a4.ext a4.lat ⟨a4.wd, (f.putSh j rx').putSh l ry⟩
theorem ds_parOO {i j l : Nat} {x y z : Str} {a b c : Expr} {da db dc : Fm → M PV} {px py pz pt pt2 : Pos} {kt k2 : Nat} (hc : X.calm = true) (hN : X.N.Nodup) (hi : X.N[i]? = some x) (hj : X.N[j]? = some y) (hl : X.N[l]? = some z) (hij : i ≠ j) (hil : i ≠ l) (hjl : j ≠ l)
    (hx : X.env.scope.names.lookup x = some .local) (hy : X.env.scope.names.lookup y = some .local) (hz : X.env.scope.names.lookup z = some .local) (ha : PE X a (tD (sy X T) .F W da)) (hb : PE X b (tD (sy X T) .F W db)) (hd : PE X c (tD (sy X T) .E W dc))
    (hsa : starEach [a, b, c] X.env = (false, eval a X.env) :: starEach [b, c] X.env) (hsb : starEach [b, c] X.env = (false, eval b X.env) :: starEach [c] X.env) (hsc : starEach [c] X.env = [(false, eval c X.env)])
    (hw : swappedStores [.Tuple [.Name x px, .Name y py, .Name z pz] kt pt] (.Tuple [a, b, c] k2 pt2) X.env = pure (some [x, y, z])) :
    PS X (.Assign [.Tuple [.Name x px, .Name y py, .Name z pz] kt pt] (.Tuple [a, b, c] k2 pt2) pos) (tS (sy X T) W fun r => bnd (da r) fun v => bnd (db r) fun w => bnd (dc r) fun u => RP.ret (.nx (((r.set i (ofV v)).set j (ofV w)).set l (.sh u)))) := by
  refine (ps_par3 hc hN hi hj hl hij hil hjl hx hy hz (pa_cons ha (pa_cons hb (pa_cons hd pa_nil (by rw [hsc]; rfl)) hsb) hsa) hw rfl).imp fun D σ H ⟨G₀, m₀, H₀, Gb, mb, G, m, s, r, a, p⟩ => ?_
  refine ⟨G, m, s, H₀, r, a.at, PostS.step a p fun v s2 G2 m2 H2 u e2 a2 rv p2 => ?_⟩
  refine ⟨G2, m2, s2, H₀, r, a2.at, PostS.step a2 p2 fun w s3 G3 m3 H3 v3 e3 a3 rx p3 => ?_⟩
  refine ⟨G3, m3, s3, H₀, r, a3.at, PostS.step a3 p3 fun z s4 G4 m4 H4 v4 e4 a4 ry p4 => ⟨_, _, _, rfl, ?_⟩⟩
  have rx' : RepF (sy X T) G4 m4 H2 H4 w v3 := RepF.go rx e4
  have f1 := a.fm.putF e2 a.ext.dom i rv
  have f2 := f1.putF (e3.trans e4) a2.ext.dom j rx'
  exact p4 G4 m4 H4 _ a4.ext a4.lat ⟨a4.wd, f2.putSh l ry⟩
/-! a subscript as a target among others -/
theorem assign_sub (o ke : Expr) (tpos : Pos) (env : Env) (u : Value) : ∃ ls : Value → Value → List Value, assign (.Subscript o ke tpos) env u = (do
      let ov ← holding [u] (eval o env)
      let iv ← holding [u, ov] (eval ke env)
      standAt tpos
      holding [u, ov, iv] (setItem ov iv u)
      release (ls ov iv) []) := ⟨fun ov iv => match ke with
    | .Slice _ _ none _ => [iv, u, ov]
    | _ => [u, ov, iv], rfl⟩
def gSubP (S : Sy) (W : XK) (i : Nat) (dk : Fm → M PV) : TG := fun v σ H Q => tVar i σ H fun o H1 => tD S .E W dk σ H1 fun y H2 => rSetP S W i σ o y v H2 fun H3 => Q σ H3
theorem pg_subP {i : Nat} {x : Str} {px tpos : Pos} {ke : Expr} {dk : Fm → M PV} (hu : X.A.units + 200 < cLine) (hN : X.N[i]? = some x) (hv : Vis X.env.scope x) (hd : (x == ("__debug__" : Str)) = false) (hcd : (x == ("__classdict__" : Str)) = false) (hk : PE X ke (tD (sy X T) .E W dk)) :
    PG X (.Subscript (.Name x px) ke tpos) (gSubP (sy X T) W i dk) := by
  refine ⟨fun pins s σ H v u Q I r h => ?_⟩
  obtain ⟨ls, ea⟩ := assign_sub (.Name x px) ke tpos X.env u
  rw [ea]
  refine wpAny_bind (wpAny_holding (thn ((pe_var hN hv hd hcd).run pins s σ H _ I h) fun ov s1 ⟨o, H1, I1, r1, q1⟩ => ?_))
  refine wpAny_bind (wpAny_holding (thn (hk.run pins s1 σ H1 _ I1 q1) fun iv s2 ⟨y, H2, I2, r2, q2⟩ => ?_))
  refine wpAny_bind (wpAny_standAt (wpAny_bind (wpAny_holding (thn (set_P (T := T) (W := W) hu i I2 r1 r2 r q2) fun _ s3 ⟨H3, I3, q3⟩ => ?_))))
  exact wpAny_release ⟨σ, H3, I3, q3⟩
theorem ds_setST {i j : Nat} {x y : Str} {px py spos pt : Pos} {kt : Nat} {e ke : Expr} {d dk : Fm → M PV} (hu : X.A.units + 200 < cLine) (hc : X.calm = true) (hN : X.N.Nodup) (hi : X.N[i]? = some x) (hv : Vis X.env.scope x) (hd : (x == ("__debug__" : Str)) = false) (hcd : (x == ("__classdict__" : Str)) = false)
    (hj : X.N[j]? = some y) (hx : Loc X.env.scope y) (hf : X.fn y = true ∨ X.env.scope.names.lookup y = some .local) (hk : PE X ke (tD (sy X T) .E W dk)) (he : PE X e (tD (sy X T) .O W d))
    (hw : swappedStores [.Tuple [.Subscript (.Name x px) ke spos, .Name y py] kt pt] e X.env = pure none) :
    PS X (.Assign [.Tuple [.Subscript (.Name x px) ke spos, .Name y py] kt pt] e pos) (tS (sy X T) W fun r => bnd (d r) fun v => match v with
      | .tup [p, .bl b] => if (Fm.get r i).isNo then stk else bnd (dk r) fun k => bnd (setSl r i k p) fun r' => RP.ret (.nx (r'.set j (.sh (.bl b))))
      | _ => stk) := by
  refine (ps_asg he (pg_tup hc (pgs_cons (pg_subP (T := T) (W := W) (tpos := spos) (px := px) hu hi hv hd hcd hk) (pgs_cons (pg_name (i := j) (pos := py) hN hj hx hf) pgs_nil rfl) rfl) rfl rfl) sole_tuple hw rfl).imp fun D σ H ⟨G₀, m₀, H₀, Gb, mb, G, m, st, r, a, p⟩ => ?_
  refine ⟨G, m, st, H₀, r, a.at, PostS.step a p fun v s1 G1 m1 H1 u e1 a1 rv p1 => ?_⟩
  have key : ∀ q b, v = .tup [q, .bl b] → gTup X.K 2 (gCons (gSubP (sy X T) W i dk) (gCons (gName j) gNil)) u σ H1 D.nx := by
    intro q b hvq
    subst hvq
    have p1 : PostS (sy X T) G₀ m₀ H₀ Gb mb ((if (Fm.get r i).isNo then stk else bnd (dk r) fun k => bnd (setSl r i k q) fun r' => RP.ret (.nx (r'.set j (.sh (.bl b)))) : M Fl) s1) D W := p1
    obtain ⟨ba, vs, rfl, _, hs, rs⟩ := rv.tup' a1.at.1
    cases rs with
    | cons rq t =>
      cases t with
      | cons rb t =>
        cases t with
        | nil =>
          cases rb
          obtain ⟨oa, f⟩ := a1.fm.at
          have O := f.ok i
          refine ⟨ba, _, rfl, hs, rfl, _, _, rfl, ?_⟩
          have go : ∀ o, σ[i]? = some (some o) → (Fm.get r i).isNo = false → gSubP (sy X T) W i dk _ σ H1 fun σ' H' => gCons (gName j) gNil [V.bl b] σ' H' D.nx := fun o ho hn => by
            rw [hn] at p1
            refine ⟨o, ho, G1, m1, s1, H₀, r, a1.at, PostS.step a1 p1 fun y s2 G2 m2 H2 w e3 a2 ry p2 => ?_⟩
            refine ⟨G₀, m₀, H₀, Gb, mb, G2, m2, s2, r, y, q, a2, ho, ry, Rep.ext rq e3, ?_⟩
            dsimp only [bnd] at p2
            cases qs : setSl r i y q s2 with
            | ok r' s' =>
              rw [qs] at p2
              exact fun G' m' H' a' => ⟨_, _, rfl, rfl, p2 G' m' H' _ a'.ext a'.lat ⟨a'.wd, a'.fm.putSh j (.bl b)⟩⟩
            | exc x s' => exact (setSl_noexc qs).elim
            | stuck =>
              rw [qs] at p2
              exact p2
          cases q2 : Fm.get r i with
          | no =>
            rw [q2] at p1
            exact p1.elim
          | sh y =>
            rw [q2] at O
            obtain ⟨w, h1, _⟩ := O
            exact go w h1 (by rw [q2]; rfl)
          | ow xs => rw [q2] at O; exact go _ O.1 (by rw [q2]; rfl)
          | od xs => rw [q2] at O; exact go _ O.1 (by rw [q2]; rfl)
  split at p1
  · exact key _ _ rfl
  · exact (show False from p1).elim
end
def ckParO3 (f g h : CE) (i j l : Nat) (c : Ctx) (st : Stmt) : Bool := match st with
  | .Assign ts v _ => (match ts with
    | [.Tuple [.Name x px, .Name y py, .Name z pz] _ _] => (match v with
      | .Tuple [a, b, d] _ _ => decide (c.N[i]? = some x) && decide (c.N[j]? = some y) && decide (c.N[l]? = some z) && decide (x ≠ y) && decide (x ≠ z) && decide (y ≠ z) && locB c x && locB c y && locB c z && (py.line == px.line) && (pz.line == px.line) && !([a, b, d].all (foldedForSure 8)) && !([a, b, d].all (constantsAlone 8)) && f c a && g c b && h c d
      | _ => false)
    | _ => false)
  | _ => false
def ckSetST (fk f : CE) (i j : Nat) (c : Ctx) (st : Stmt) : Bool := match st with
  | .Assign ts v _ => (match ts with
    | [.Tuple [.Subscript (.Name x _) ke _, .Name y _] _ _] => (match v with
      | .Tuple _ _ _ => decide (c.N[i]? = some x) && visB c x && plainN x && decide (c.N[j]? = some y) && tgB c y && fk c ke && f c v
      | _ => false)
    | _ => false)
  | _ => false
theorem stores_sub {o k : Expr} {ps : Pos} {y : Str} {py : Pos} {vs : List Expr} {kk kk2 : Nat} {p p2 : Pos} {env : Env} : swappedStores [.Tuple [.Subscript o k ps, .Name y py] kk p] (.Tuple vs kk2 p2) env = pure none := by
  unfold swappedStores
  dsimp only
  split
  · rfl
  · split
    · rfl
    · have hl : ∀ l : Nat, (List.filterMap (fun e : Expr => match e with
          | .Name id pos => if (env.kindOf id == some .local && pos.line == l) = true then some id else none
          | _ => none) [.Subscript o k ps, .Name y py]).length ≠ 2 := by
        intro l
        simp only [List.filterMap_cons, List.filterMap_nil]
        cases b : (env.kindOf y == some NameKind.local) <;> cases q2 : (py.line == l) <;> simp_all
      rw [if_pos]
      rw [Bool.or_eq_true]
      left
      rw [bne_iff_ne]
      exact hl _
section
variable {T : List (Addr × Str)} {k : Nat} {G : List Den} {GV : List (Str × Nat × Den)} {C : List PV} {fe fg fh : CE} {re rg rh : Bool} {de dg dh : Bool → Fm → M PV}
theorem ss_parO3 (i j l : Nat) (he : SA T k G GV C fe re de) (hg : SA T k G GV C fg rg dg) (hh : SA T k G GV C fh rh dh) : SaS T k G GV C (fun c st => re && ckParO3 fe fg fh i j l c st) (fun r => bnd (de false r) fun v => bnd (dg false r) fun w => bnd (dh false r) fun z => RP.ret (.nx (((r.set i (ofV v)).set j (.sh w)).set l (.sh z)))) := by
  intro X c W st K h
  rw [Bool.and_eq_true] at h
  obtain ⟨h0, h⟩ := h
  unfold ckParO3 at h
  split at h
  · split at h
    · split at h
      · simp only [Bool.and_eq_true, decide_eq_true_eq, Bool.not_eq_true'] at h
        obtain ⟨⟨⟨⟨⟨⟨⟨⟨⟨⟨⟨⟨⟨⟨⟨h1, h2⟩, h3⟩, n1⟩, n2⟩, n3⟩, h4⟩, h5⟩, h5'⟩, h6⟩, h6'⟩, h7⟩, h8⟩, h9⟩, h10⟩, h11⟩ := h
        have S1 := he X c W _ K h9
        have S2 := hg X c W _ K h10
        have S3 := hh X c W _ K h11
        exact ds_parO3 K.ok.calm K.nd (K.name h1) (K.name h2) (K.name h3) (ne_ix h1 h2 n1) (ne_ix h1 h3 n2) (ne_ix h2 h3 n3) (locOk K h4) (locOk K h5) (locOk K h5') (S1.f h0) S2.e S3.e (star_cons S1.ns) (star_cons S2.ns) (star_one S3.ns) (stores_3 (kindOk K) (locOk K h4) (locOk K h5) (locOk K h5') h6 h6' n1 n2 n3 S1.ns S2.ns S3.ns h7 h8)
      · cases h
    · cases h
  · cases h
theorem ss_parOO (i j l : Nat) (he : SA T k G GV C fe re de) (hg : SA T k G GV C fg rg dg) (hh : SA T k G GV C fh rh dh) : SaS T k G GV C (fun c st => re && (rg && ckParO3 fe fg fh i j l c st)) (fun r => bnd (de false r) fun v => bnd (dg false r) fun w => bnd (dh false r) fun z => RP.ret (.nx (((r.set i (ofV v)).set j (ofV w)).set l (.sh z)))) := by
  intro X c W st K h
  rw [Bool.and_eq_true, Bool.and_eq_true] at h
  obtain ⟨h0, h00, h⟩ := h
  unfold ckParO3 at h
  split at h
  · split at h
    · split at h
      · simp only [Bool.and_eq_true, decide_eq_true_eq, Bool.not_eq_true'] at h
        obtain ⟨⟨⟨⟨⟨⟨⟨⟨⟨⟨⟨⟨⟨⟨⟨h1, h2⟩, h3⟩, n1⟩, n2⟩, n3⟩, h4⟩, h5⟩, h5'⟩, h6⟩, h6'⟩, h7⟩, h8⟩, h9⟩, h10⟩, h11⟩ := h
        have S1 := he X c W _ K h9
        have S2 := hg X c W _ K h10
        have S3 := hh X c W _ K h11
        exact ds_parOO K.ok.calm K.nd (K.name h1) (K.name h2) (K.name h3) (ne_ix h1 h2 n1) (ne_ix h1 h3 n2) (ne_ix h2 h3 n3) (locOk K h4) (locOk K h5) (locOk K h5') (S1.f h0) (S2.f h00) S3.e (star_cons S1.ns) (star_cons S2.ns) (star_one S3.ns) (stores_3 (kindOk K) (locOk K h4) (locOk K h5) (locOk K h5') h6 h6' n1 n2 n3 S1.ns S2.ns S3.ns h7 h8)
      · cases h
    · cases h
  · cases h
theorem ss_setST (i j : Nat) (hk : SA T k G GV C fg rg dg) (he : SA T k G GV C fe re de) : SaS T k G GV C (ckSetST fg fe i j) (fun r => bnd (de true r) fun v => match v with
    | .tup [p, .bl b] => if (Fm.get r i).isNo then stk else bnd (dg false r) fun y => bnd (setSl r i y p) fun r' => RP.ret (.nx (r'.set j (.sh (.bl b))))
    | _ => stk) := by
  intro X c W st K h
  unfold ckSetST at h
  split at h
  · split at h
    · split at h
      · simp only [Bool.and_eq_true, decide_eq_true_eq] at h
        obtain ⟨⟨⟨⟨⟨⟨h1, h2⟩, h3⟩, h4⟩, h5⟩, h6⟩, h7⟩ := h
        exact ds_setST K.ok.un K.ok.calm K.nd (K.name h1) (K.vis h2) (plain_parts h3).1 (plain_parts h3).2.1 (K.name h4) (K.tg h5).1 (K.tg h5).2 (hk X c W _ K h6).e (he X c W _ K h7).o stores_sub
      · cases h
    · cases h
  · cases h
end
end RP

/-! Fw29: the check of blocks, and that it is sound. Own work. -/
namespace RP
open PySem PySem.Spec PyProof.Rows L2
def chkK (e : E) (i : Nat) (c : Ctx) (t : Stmt) : Bool := match e with
  | .lc el tg it cd vs => ckSetK (ckLc (chkE el) tg (chkI it) (chkE cd) (isTrueE cd) vs) i c t
  | .lc2 el tg it cd tg2 it2 cd2 vs vs2 => ckSetK (ckLc2 (chkE el) tg (chkI it) (chkE cd) (isTrueE cd) tg2 (chkI it2) (chkE cd2) (isTrueE cd2) vs vs2) i c t
  | .dc ek ev tg it cd vs => ckSetK (ckDc (chkE ek) (chkE ev) tg (chkI it) (chkE cd) (isTrueE cd) vs) i c t
  | _ => false
def chkO (e : E) (i : Nat) (c : Ctx) (t : Stmt) : Bool := (fresh e && ckSet (chkE e) i c t) || ((fresh e && ckSetQ (chkE e) i c t) || chkK e i c t)
def chkPar (is : List Nat) (es : Es) (c : Ctx) (t : Stmt) : Bool := match is with
  | [i, j] => ckPar2 (chkEs es) i j c t
  | [i, j, l] => ckPar3 (chkEs es) i j l c t
  | _ => false
def ckSetLcO (fe fd : CE) (dT : Bool) (tg : Tg) (vs : List Nat) (j i : Nat) (c : Ctx) (st : Stmt) : Bool := match st with
  | .Assign ts v _ => (match ts with
    | [.Name y py] => (match v with
      | .ListComp elt gs scope pos => (match gs with
        | [⟨.Tuple elts kk tpos, .Call (.Attribute (.Name x px) m apos) [] [] cpos, ifs, 0⟩] => decide (m = "items") && decide (c.N[j]? = some y) && locB c y && (py.line == pos.line) && !(scope.names.any fun (n, k) => n == y && (k == .local || k == .cell)) && decide (c.N[i]? = some x) && visB c x && plainN x && (apos.endLine == cpos.line) &&
          blkC c.N c.sc scope (ownOf c vs) && subB tg.is vs && chkTg tg (c.blk scope) (.Tuple elts kk tpos) && fe (c.blk scope) elt && cdB ifs fd dT (c.blk scope)
        | _ => false)
      | _ => false)
    | _ => false)
  | _ => false
mutual
def chkS : S → Ctx → Stmt → Bool
  | .dead, _, _ => true
  | .set i e, c, t => ckSet (chkE e) i c t
  | .setO i e, c, t => chkO e i c t
  | .setT is e, c, t => (ckSetT (chkE e) is c t || ckSetC (chkE e) is c t) || ckSetX (chkE e) is c t
  | .setLcO j i e g d vs, c, t => ckSetLcO (chkE e) (chkE d) (isTrueE d) g vs j i c t
  | .par is es, c, t => chkPar is es c t
  | .parD i j e, c, t => ckParD (chkE e) i j c t
  | .parL i j e, c, t => ckParL (chkE e) (chkE (.lst .nil)) i j c t
  | .parO i j e e2, c, t => fresh e && ckParL (chkE e) (chkE e2) i j c t
  | .parO3 i j l e e2 e3, c, t => fresh e && ckParO3 (chkE e) (chkE e2) (chkE e3) i j l c t
  | .parOO i j l e e2 e3, c, t => fresh e && (fresh e2 && ckParO3 (chkE e) (chkE e2) (chkE e3) i j l c t)
  | .setST i j kk e, c, t => ckSetST (chkE kk) (chkE e) i j c t
  | .app i e, c, t => ckMeth "append" (chkE e) i c t
  | .ext i e, c, t => ckMeth "extend" (chkE e) i c t
  | .seti i k e, c, t => ckSeti (chkE k) (chkE e) i c t
  | .expr e, c, t => ckExpr (chkE e) c t
  | .retE e, c, t => ckRet (chkE e) c t
  | .retN, c, t => ckRetN c t
  | .ife d a b, c, t => ckIf (chkE d) (chkSs a) (chkSs b) c t
  | .for_ g it b, c, t => ckFor g (chkI it) (chkSs b) c t
  | .while_ _ d b, c, t => ckWhile (chkE d) (chkSs b) c t
  | .raise_ x, c, t => ckRaise x c t
  | .pass, c, t => ckPass c t
def chkSs : Ss → Ctx → List Stmt → Bool
  | .nil, _, ts => ts.isEmpty
  | .cons s ss, c, ts => (match ts with
    | t :: ts => chkS s c t && chkSs ss c ts
    | [] => false)
  | .frz _ ss, c, ts => chkSs ss c ts
end
section
variable {T : List (Addr × Str)} {k : Nat} {G : List Den} {GV : List (Str × Nat × Den)} {C : List PV}
theorem isTrueE_ok {e : E} (h : isTrueE e = true) : den G GV C e false = fun _ => ret (.bl true) := by
  cases e with
  | bl b => cases b with
    | true => rfl
    | false => cases h
  | _ => cases h
theorem ss_or {f g : CS} {d : Fm → M Fl} (hf : SaS T k G GV C f d) (hg : SaS T k G GV C g d) : SaS T k G GV C (fun c t => f c t || g c t) d := by
  intro X c W st K h
  simp only [Bool.or_eq_true] at h
  rcases h with h | h
  · exact hf X c W st K h
  · exact hg X c W st K h
theorem ss_false {d : Fm → M Fl} : SaS T k G GV C (fun _ _ => false) d := fun _ _ _ _ _ h => nomatch h
theorem ss_K (e : E) (i : Nat) : SaS T k G GV C (chkK e i) (fun r => bnd (den G GV C e false r) fun v => ret (.nx (r.set i (ofV v)))) := by
  cases e with
  | lc el tg it cd vs => exact ss_setLc i tg vs (isTrueE cd) (sndE T k G GV C el) (sndI T k G GV C it) (sndE T k G GV C cd) isTrueE_ok
  | lc2 el tg it cd tg2 it2 cd2 vs vs2 => exact ss_setLc2 i tg tg2 vs vs2 (isTrueE cd) (isTrueE cd2) (sndE T k G GV C el) (sndI T k G GV C it) (sndE T k G GV C cd) isTrueE_ok (sndI T k G GV C it2) (sndE T k G GV C cd2) isTrueE_ok
  | dc ek ev tg it cd vs => exact ss_setDc i tg vs (isTrueE cd) (sndE T k G GV C ek) (sndE T k G GV C ev) (sndI T k G GV C it) (sndE T k G GV C cd) isTrueE_ok
  | _ => exact ss_false
theorem ss_O (e : E) (i : Nat) : SaS T k G GV C (chkO e i) (fun r => bnd (den G GV C e false r) fun v => ret (.nx (r.set i (ofV v)))) :=
  ss_or (ss_setO i (sndE T k G GV C e)) (ss_or (ss_setQ i (sndE T k G GV C e)) (ss_K e i))
theorem ss_Par (is : List Nat) (es : Es) : SaS T k G GV C (chkPar is es) (fun r => bnd (denEs G GV C es r) fun vs => bnd (opt (bindNs is vs r)) fun r' => ret (.nx r')) := by
  match is with
  | [] => exact ss_false
  | [_] => exact ss_false
  | [i, j] => exact ss_par2 i j (sndEs T k G GV C es)
  | [i, j, l] => exact ss_par3 i j l (sndEs T k G GV C es)
  | _ :: _ :: _ :: _ :: _ => exact ss_false
theorem ss_setLcO {fd fe : CE} {rd re : Bool} {dd de : Bool → Fm → M PV} (j i : Nat) (tg : Tg) (vs : List Nat) (dT : Bool) (he : SA T k G GV C fe re de) (hd : SA T k G GV C fd rd dd) (hT : dT = true → dd false = fun _ => ret (.bl true)) :
    SaS T k G GV C (ckSetLcO fe fd dT tg vs j i) (fun r => match Fm.get r i with
      | .od kvs => bnd (noExc (bnd (lcGo (lcF tg vs (dd false) (de false) (r.set i .no)) (itemsX kvs) []) finL)) fun v => ret (.nx (r.set j (ofV v)))
      | _ => stk) := by
  intro X c W st K h
  unfold ckSetLcO at h
  split at h
  · split at h
    · split at h
      · split at h
        · rename_i spos ts y py v elt scope pos gs elts kk tpos x px m apos cpos ifs
          simp only [Bool.and_eq_true, decide_eq_true_eq, Bool.not_eq_true'] at h
          obtain ⟨⟨⟨⟨⟨⟨⟨⟨⟨⟨⟨⟨⟨rfl, n1⟩, n2⟩, n3⟩, n4⟩, x1⟩, x2⟩, x3⟩, x4⟩, h1⟩, h2⟩, h5⟩, h6⟩, h7⟩ := h
          obtain ⟨b1, hk⟩ := blkB h1
          have b2 : BlkOk X.N X.env.scope scope (ownOf c vs) := by rw [K.ok.eN, K.sc]; exact b1
          have key := ds_setLcO (T := T) (W := W) (spos := spos) (pos := pos) (tpos := tpos) (px := px) (kk := kk) K.ok.calm K.nd (K.name n1) (locOk K n2) (K.name x1) (K.vis x2) (plain_parts x3).1 (plain_parts x3).2.1 x4 (sw_true (kindOk K) (locOk K n2) n3 n4) b2 (cl_of K hk h5 hd hT h7) (fun i hi => by rw [ownOf_snd]; exact sub_mem h2 i hi)
            (fun s H Ca cl fp => (he _ _ W0 _ (K.blk hk s H Ca cl fp) h6).e)
          rw [ownOf_snd] at key
          exact key
        · cases h
      · cases h
    · cases h
  · cases h
mutual
theorem sndS : ∀ s : S, SaS T k G GV C (chkS s) (denS G GV C s)
  | .dead => ss_dead
  | .set i e => ss_set i (sndE T k G GV C e)
  | .setO i e => ss_O e i
  | .setT is e => ss_setX is (sndE T k G GV C e)
  | .setLcO j i e g d vs => ss_setLcO j i g vs (isTrueE d) (sndE T k G GV C e) (sndE T k G GV C d) isTrueE_ok
  | .par is es => ss_Par is es
  | .parD i j e => ss_parD i j (sndE T k G GV C e)
  | .parL i j e => ss_parL i j (sndE T k G GV C e) (sndE T k G GV C (.lst .nil))
  | .parO i j e e2 => ss_parO i j (sndE T k G GV C e) (sndE T k G GV C e2)
  | .parO3 i j l e e2 e3 => ss_parO3 i j l (sndE T k G GV C e) (sndE T k G GV C e2) (sndE T k G GV C e3)
  | .parOO i j l e e2 e3 => ss_parOO i j l (sndE T k G GV C e) (sndE T k G GV C e2) (sndE T k G GV C e3)
  | .setST i j kk e => ss_setST i j (sndE T k G GV C kk) (sndE T k G GV C e)
  | .app i e => ss_app i (sndE T k G GV C e)
  | .ext i e => ss_ext i (sndE T k G GV C e)
  | .seti i kk e => ss_seti i (sndE T k G GV C kk) (sndE T k G GV C e)
  | .expr e => ss_expr (sndE T k G GV C e)
  | .retE e => ss_ret (sndE T k G GV C e)
  | .retN => ss_retN
  | .ife d a b => ss_if (sndE T k G GV C d) (sndSs a) (sndSs b)
  | .for_ g it b => ss_for g (sndI T k G GV C it) (sndSs b)
  | .while_ n d b => ss_while n (sndE T k G GV C d) (sndSs b)
  | .raise_ x => ss_raise x
  | .pass => ss_pass
theorem sndSs : ∀ ss : Ss, SaSs T k G GV C (chkSs ss) (denSs G GV C ss)
  | .nil => by
    intro X c W ts K h
    have h : ts.isEmpty = true := h
    rw [List.isEmpty_iff.mp h]
    exact dss_nil
  | .cons s ss => by
    intro X c W ts K h
    match ts, h with
    | t :: ts, h =>
      have h : (chkS s c t && chkSs ss c ts) = true := h
      simp only [Bool.and_eq_true] at h
      exact dss_cons (sndS s X c W t K h.1) (sndSs ss X c W ts K h.2)
  | .frz i ss => fun X c W ts K h => dss_frz i (sndSs ss X c W ts K h)
end
end
end RP

/-! Fw30: a def that is checked holds its promise. Own work. -/
namespace RP
open PySem PySem.Spec PyProof.Rows L2
section
variable {S : Sy} {G H H₀ : Hp} {m : List Addr}
theorem reps_get : ∀ {xs : List PV} {vs : List V} {i : Nat} {x : PV}, Reps S G m xs vs → xs[i]? = some x → ∃ v, vs[i]? = some v ∧ Rep S G m x v
  | _, _, 0, x, .cons h r, e => ⟨_, rfl, by
    have e : some _ = some x := e
    cases e
    exact h⟩
  | _, _, i + 1, x, .cons h r, e => reps_get (i := i) r e
theorem start_fm {args : List PV} {vs : List V} {N : List Str} (r : Reps S G m args vs) (hl : args.length ≤ N.length) : FmOk S G m H₀ H (args.map .sh ++ List.replicate (N.length - args.length) .no) (L2.start N vs) := by
  have e : args.length = vs.length := r.length
  have key : ∀ i, Fm.get (args.map .sh ++ List.replicate (N.length - args.length) .no) i = .no ∨ ∃ x, args[i]? = some x ∧ Fm.get (args.map .sh ++ List.replicate (N.length - args.length) .no) i = .sh x := by
    intro i
    unfold Fm.get
    by_cases hi : i < args.length
    · rw [List.getElem?_append_left (by simpa using hi)]
      simp only [List.getElem?_map, List.getElem?_eq_getElem hi, Option.map]
      exact .inr ⟨_, rfl, rfl⟩
    · rw [List.getElem?_append_right (by simpa using hi)]
      by_cases hj : i - (args.map Sl.sh).length < N.length - args.length
      · rw [List.getElem?_replicate, if_pos hj]
        exact .inl rfl
      · rw [List.getElem?_replicate, if_neg hj]
        exact .inl rfl
  refine ⟨?_, fun _ => 0, fun i => ?_, fun i j hi _ _ => ?_⟩
  · unfold L2.start
    simp only [List.length_append, List.length_map, List.length_replicate]
    omega
  · rcases key i with h | ⟨x, hx, h⟩
    · rw [h]
      exact True.intro
    · rw [h]
      obtain ⟨v, hv, rv⟩ := reps_get r hx
      refine ⟨v, ?_, rv⟩
      unfold L2.start
      have hi : i < vs.length := (List.getElem?_eq_some_iff.mp hv).1
      rw [List.getElem?_append_left (by simpa using hi)]
      simp [hv]
  · rcases key i with h | ⟨x, hx, h⟩
    · rw [h] at hi
      cases hi
    · rw [h] at hi
      cases hi
end
section
variable {P : Program} {w : World} {K : PySem.W.Frag} {mg : Str → Option Value} {base : Heap} {T : List (Addr × Str)}
/-- a def that may be called, with no context in sight -/
structure CalleeM (P : Program) (w : World) (K : PySem.W.Frag) (mg : Str → Option Value) (base : Heap) (T : List (Addr × Str)) (k : Nat) (x : Str) (ar lv : Nat) (d : Den) : Prop where
  ex : ∃ f fd ps, mg x = some (.ref f) ∧ PySem.W.keepIn K (.ref f) = true ∧ L2.Binds K fd ps [] ∧ ps.length = ar ∧ FnOk P w K mg base (L2N.CX P w) lv f fd ps (SpD ⟨P, w, K, mg, T⟩ ar d)
  le : lv ≤ k
structure ModOk (P : Program) (w : World) (K : PySem.W.Frag) (mg : Str → Option Value) (base : Heap) (T : List (Addr × Str)) (k : Nat) (c : Ctx) (G : List Den) (C : List PV) : Prop where
  fns : ∀ (j : Nat) (x : Str) (ar lv : Nat), c.fns[j]? = some (x, ar, lv) → ∃ d, G[j]? = some d ∧ CalleeM P w K mg base T k x ar lv d
  gcs : ∀ (j : Nat) (x : Str), c.gcs[j]? = some x → ∃ p u v, C[j]? = some p ∧ mg x = some u ∧ L2.RelV v u ∧ ∀ G m, Rep ⟨P, w, K, mg, T⟩ G m p v
  bls : ∀ x, x ∈ c.bls → mg x = none
  exs : ∀ x, x ∈ c.exs → ExF K mg x
  gvn : c.gvn = []
  lms : c.lms = []
/-- of a def at f with values that are defs, with lambdas -/
structure ModL (P : Program) (w : World) (K : PySem.W.Frag) (mg : Str → Option Value) (base : Heap) (T : List (Addr × Str)) (k : Nat) (c : Ctx) (G : List Den) (GV : List (Str × Nat × Den)) (C : List PV) (N : List Str) (qual : Str) (scope : Scope) (f : Addr) : Prop where
  fns : ∀ (j : Nat) (x : Str) (ar lv : Nat), c.fns[j]? = some (x, ar, lv) → ∃ d, G[j]? = some d ∧ CalleeM P w K mg base T k x ar lv d
  gcs : ∀ (j : Nat) (x : Str), c.gcs[j]? = some x → ∃ p u v, C[j]? = some p ∧ mg x = some u ∧ L2.RelV v u ∧ ∀ G m, Rep ⟨P, w, K, mg, T⟩ G m p v
  bls : ∀ x, x ∈ c.bls → mg x = none
  exs : ∀ x, x ∈ c.exs → ExF K mg x
  gvn : ∀ x, x ∈ c.gvn → ∃ f, mg x = some (.ref f)
  gvs : ∀ p, p ∈ GV → ∃ lv, CalleeM P w K mg base T k p.1 p.2.1 lv p.2.2
  lms : ∀ x tab, (x, tab) ∈ c.lms → ∃ k', (∀ (cdv : Value) (A : Around) (outer : List Env) (s : Shared) (H : Hp) (E : XK), (∃ oc od fd osl, K.lookup f = some ⟨oc, od, .func fd, osl⟩ ∧ fd.code = cdv) → Room k (A.deeper (envOfC qual scope s.heap.objs.size f cdv)) →
      LamF (cxOf (L2N.CX P w) P w K mg base N qual scope f cdv A outer s H E) T k' E x tab) ∧ (∀ (j : Nat) (y : Str) (ar lv : Nat), c.fns[j]? = some (y, ar, lv) → lv ≤ k') ∧ ∀ p, p ∈ GV → ∃ lv, CalleeM P w K mg base T k' p.1 p.2.1 lv p.2.2
theorem def_okL {x qual : Str} {params : Arguments} {body : List Stmt} {scope : Scope} {dvs : List V} {kws : List (Str × V)} {f : Addr} {fd : FuncData} {N ps : List Str} {k : Nat} {c : Ctx} {G : List Den} {GV : List (Str × Nat × Den)} {C : List PV} {b : Ss} (F : FunD K x qual params body scope dvs kws f fd) (hS : FnScope N ps scope) (M : ModL P w K mg base T k c G GV C N qual scope f)
    (h1 : c.sc = scope) (h2 : c.sc0 = scope) (h3 : c.N = N) (h : chkSs b c body = true) :
    FnOk P w K mg base (L2N.CX P w) (k + 1) f fd ps (SpD ⟨P, w, K, mg, T⟩ ps.length (run G GV C N.length b)) := by
  have hpl : ps.length ≤ N.length := by have := congrArg List.length hS.pre; rw [List.length_take] at this; omega
  obtain ⟨oc, od, dV, kV, doc, pm, an, cdv, ct, osl, efd, lk, hcd, _, _⟩ := F.ex
  subst efd
  refine fn_of lk hcd hS (fun vs H Q E h => h.len) fun A outer s H vs Q E hr ⟨G0, m0, s0, args, hl, wd, r, p⟩ => ?_
  refine ⟨_, sndSs (T := T) (k := k) (G := G) (GV := GV) (C := C) b _ c E _ ⟨⟨rfl, h3.symm, by rw [h3]; exact hS.nd, hr, L2N.takes_of rfl rfl rfl rfl, fun j x ar lv hj => ?_, fun p hp => let ⟨lv, cc⟩ := M.gvs p hp; ⟨lv, ⟨cc.ex, cc.le⟩⟩, fun j x hj => M.gcs j x hj, M.bls, passes_of rfl⟩, h1.symm, fun _ _ => rfl, ?_, M.exs, M.gvn, fun x tab hx => ?_⟩ h, ?_⟩
  · obtain ⟨d, e, cc⟩ := M.fns j x ar lv hj
    exact ⟨d, e, ⟨cc.ex, cc.le⟩⟩
  · rw [h1]
    exact hS.kind
  · obtain ⟨k', a1, a2, a3⟩ := M.lms x tab hx
    exact ⟨k', a1 cdv A outer s H E ⟨_, _, _, _, lk, rfl⟩ hr, a2, fun p hp => let ⟨lv, cc⟩ := a3 p hp; ⟨lv, ⟨cc.ex, cc.le⟩⟩⟩
  · refine ⟨G0, m0, H, G0, m0, G0, m0, s0, _, ⟨Ext.refl, Lat.refl, wd, start_fm r (by omega)⟩, ?_⟩
    have p : Post ⟨P, w, K, mg, T⟩ (RepM ⟨P, w, K, mg, T⟩ .E) G0 m0 H (bnd (denSs G GV C b (args.map .sh ++ List.replicate (N.length - args.length) .no)) endOf s0) Q E := p
    unfold bnd at p
    cases q : denSs G GV C b (args.map .sh ++ List.replicate (N.length - args.length) .no) s0 with
    | ok l s1 =>
      rw [q] at p
      cases l with
      | nx r1 => exact fun G' m' H' σ' e l a => p G' m' H' .non e a.1 .non
      | bk r1 => exact p.elim
      | ct r1 => exact p.elim
      | rt v => exact fun G' m' H' u e wd' rv => p G' m' H' u e wd' rv
    | exc y s1 =>
      rw [q] at p
      exact p
    | stuck =>
      rw [q] at p
      exact p
theorem def_ok {x qual : Str} {params : Arguments} {body : List Stmt} {scope : Scope} {dvs : List V} {kws : List (Str × V)} {f : Addr} {fd : FuncData} {N ps : List Str} {k : Nat} {c : Ctx} {G : List Den} {C : List PV} {b : Ss} (F : FunD K x qual params body scope dvs kws f fd) (hS : FnScope N ps scope) (M : ModOk P w K mg base T k c G C)
    (h1 : c.sc = scope) (h2 : c.sc0 = scope) (h3 : c.N = N) (h : chkSs b c body = true) :
    FnOk P w K mg base (L2N.CX P w) (k + 1) f fd ps (SpD ⟨P, w, K, mg, T⟩ ps.length (run G [] C N.length b)) :=
  def_okL F hS ⟨M.fns, M.gcs, M.bls, M.exs, fun x hx => (by rw [M.gvn] at hx; cases hx), (fun p hp => nomatch hp), fun x tab hx => (by rw [M.lms] at hx; cases hx)⟩ h1 h2 h3 h
end
end RP

/-! Jn0: the head's facts with tables of texts; a callee out of them; the law's end. Own work. -/
namespace RP
open PySem PySem.Spec PyProof.Rows L2
abbrev dd (x : Str) (st : Stmt) : He.DefD := ⟨(x, none), x, x, defArgs st, defBody st, defScope st, [], []⟩
/-- besides the defs: module's names that are tuples -/
abbrev Tu : Type := List (Str × List He.Dv)
abbrev AlT : Type := Bool × He.AlD
def obsT (fa : List He.Fa) (fn : List He.DefD) (tu : Tu) (K : PySem.W.Frag) : AlT := (tu.all fun t => He.tupB K t.1 t.2, He.obsD fa fn K)
def SaysT (fa : List He.Fa) (fn : List He.DefD) (tu : Tu) (K : PySem.W.Frag) : Prop := obsT fa fn tu K = (true, He.valD fn)
def obsTG (n : Nat) (fa : List He.Fa) (fn : List He.DefD) (tu : Tu) (g : Addr → Option Obj) : AlT := obsT fa fn tu (He.frG g (He.asD g n))
def hookT (n : Nat) (fa : List He.Fa) (fn : List He.DefD) (tu : Tu) : PySem.W.Hook where
  α := AlT
  obs := fun s => obsTG n fa fn tu s.heap.get?
  val := fun _ => (true, He.valD fn)
  says := fun _ h => ∃ K : PySem.W.Frag, K.In h ∧ SaysT fa fn tu K
  of := fun _ _ e => ⟨_, He.frG_in, e⟩
  keeps := fun _ _ _ ⟨K, hK, c⟩ k => ⟨K, PySem.W.Frag.In.keeps hK k, c⟩
theorem obsTG_eq {n : Nat} {fa : List He.Fa} {fn : List He.DefD} {tu : Tu} {g : Addr → Option Obj} {s : Shared} (h : ∀ a, g a = s.heap.get? a) : obsTG n fa fn tu g = (hookT n fa fn tu).obs s := by
  have e : g = s.heap.get? := funext h
  rw [e] <;> rfl
section
variable {fa : List He.Fa} {fn : List He.DefD} {tu : Tu} {K : PySem.W.Frag} {mg : Str → Option Value} {base : Heap}
theorem SaysT.d (c : SaysT fa fn tu K) : He.SaysD fa fn K := congrArg (fun z : AlT => z.2) c
theorem SaysT.tup (c : SaysT fa fn tu K) (i : Nat) {t : Str × List He.Dv} (h : tu[i]? = some t) (H : Hp) : L2.SqT K H (He.ga K t.1) (t.2.map (He.Dv.v K)) := by
  have c1 : (tu.all fun t => He.tupB K t.1 t.2) = true := congrArg (fun z : AlT => z.1) c
  exact He.tupB_ok (List.all_eq_true.mp c1 t (List.mem_of_getElem? h)) H
/-- what the head gives, at a heap -/
structure Jn (fa : List He.Fa) (fn : List He.DefD) (tu : Tu) (K : PySem.W.Frag) (mg : Str → Option Value) (base : Heap) : Prop where
  X : K.In base
  G : base.Ns mainGlobals mg
  c : SaysT fa fn tu K
theorem Jn.glo (J : Jn fa fn tu K mg base) {x : Str} (j : Nat) (h : fa[j]? = some (.glo x)) : mg x = some (.ref (He.ga K x)) := He.glo_ok J.X J.G (J.c.d.fact j h)
theorem Jn.free (J : Jn fa fn tu K mg base) {x : Str} (j : Nat) (h : fa[j]? = some (.free x)) : mg x = none := He.free_ok J.X J.G (J.c.d.fact j h)
theorem Jn.int (J : Jn fa fn tu K mg base) {x : Str} {i : Int} (j : Nat) (h : fa[j]? = some (.int x i)) : ∃ t, mg x = some (.int i t) := He.int_ok J.X J.G (J.c.d.fact j h)
/-- builtins that the module does not hide, by one look -/
theorem Jn.frees (J : Jn fa fn tu K mg base) (xs : List Str) (h : (xs.all fun x => fa.any fun f => match f with | .free y => decide (y = x) | _ => false) = true) : ∀ x, x ∈ xs → mg x = none := by
  intro x hx
  obtain ⟨f, hf, e⟩ := List.any_eq_true.mp (List.all_eq_true.mp h x hx)
  cases f with
  | free y =>
    have e : y = x := of_decide_eq_true e
    subst e
    obtain ⟨j, hj⟩ := List.getElem?_of_mem hf
    exact J.free j hj
  | _ => cases e
theorem Jn.excs (J : Jn fa fn tu K mg base) (xs : List Str) (h : (xs.all fun x => (fa.any fun f => match f with | .glo y => decide (y = x) | _ => false) && fa.any fun f => match f with | .exc y => decide (y = x) | _ => false) = true) : ∀ x, x ∈ xs → ExF K mg x := by
  intro x hx
  have h := List.all_eq_true.mp h x hx
  rw [Bool.and_eq_true] at h
  obtain ⟨f, hf, e⟩ := List.any_eq_true.mp h.1
  obtain ⟨g, hg, e2⟩ := List.any_eq_true.mp h.2
  have a : mg x = some (.ref (He.ga K x)) := by
    cases f with
    | glo y =>
      have e : y = x := of_decide_eq_true e
      subst e
      obtain ⟨j, hj⟩ := List.getElem?_of_mem hf
      exact J.glo j hj
    | _ => cases e
  cases g with
  | exc y =>
    have e2 : y = x := of_decide_eq_true e2
    subst e2
    obtain ⟨j, hj⟩ := List.getElem?_of_mem hg
    obtain ⟨b1, b2, b3, b4⟩ := He.exc_ok (J.c.d.fact j hj)
    exact ⟨_, a, b1, b2, b3, b4⟩
  | _ => cases e2
variable {P : Program} {w : World} {T : List (Addr × Str)}
/-- a def's facts and promise -/
structure Cal (P : Program) (w : World) (K : PySem.W.Frag) (mg : Str → Option Value) (base : Heap) (T : List (Addr × Str)) (x : Str) (ar lv : Nat) (d : Den) : Prop where
  ex : ∃ f fd ps, mg x = some (.ref f) ∧ PySem.W.keepIn K (.ref f) = true ∧ L2.Binds K fd ps [] ∧ ps.length = ar ∧ FnOk P w K mg base (L2N.CX P w) lv f fd ps (SpD ⟨P, w, K, mg, T⟩ ar d)
theorem Cal.m {x : Str} {ar lv k : Nat} {d : Den} (c : Cal P w K mg base T x ar lv d) (h : lv ≤ k) : CalleeM P w K mg base T k x ar lv d := ⟨c.ex, h⟩
/-- the parameters are plain -/
abbrev BindsP (x : Str) (st : Stmt) (ps : List Str) : Prop := ∀ (kV doc pm : Value) (an : Option Addr) (cdv ct : Value) (us : List Value), us.length = ps.length → bindArgs (PySem.W.fnOf x x (defArgs st) (defBody st) (defScope st) .none kV doc pm an cdv ct) ⟨us, []⟩ = pure (ps.zip us)
theorem cal_of {x : Str} {st : Stmt} {N ps : List Str} {ar k n : Nat} {c : Ctx} {G : List Den} {C : List PV} {b : Ss} (J : Jn fa fn tu K mg base) (i j : Nat) (hi : fn[i]? = some (dd x st)) (hj : fa[j]? = some (.glo x))
    (hS : FnScope N ps (defScope st)) (hB : BindsP x st ps) (M : ModOk P w K mg base T k c G C) (h1 : c.sc = defScope st) (h2 : c.sc0 = defScope st) (h3 : c.N = N) (h : chkSs b c (defBody st) = true) (hn : N.length = n) (ha : ps.length = ar) :
    Cal P w K mg base T x ar (k + 1) (run G [] C n b) := by
  obtain ⟨fd, F⟩ := J.c.d.def_ i (d := dd x st) hi
  have F : FunD K x x (defArgs st) (defBody st) (defScope st) [] [] (He.ga K x) fd := F
  subst hn ha
  exact ⟨_, fd, ps, J.glo j hj, F.kp, F.bindsN hB, rfl, def_ok F hS M h1 h2 h3 h⟩
/-- the law's def -/
theorem law_of {x : Str} {st : Stmt} {N ps : List Str} {ar k n : Nat} {c : Ctx} {G : List Den} {C : List PV} {b : Ss} (J : SaysT fa fn tu K) (i : Nat) (hi : fn[i]? = some (dd x st))
    (hS : FnScope N ps (defScope st)) (hB : BindsP x st ps) (h1 : c.sc = defScope st) (h2 : c.sc0 = defScope st) (h3 : c.N = N) (h : chkSs b c (defBody st) = true) (hn : N.length = n) (ha : ps.length = ar) :
    ∃ fd : FuncData, (∀ (s : Shared) (us : List Value), us.length = ps.length → BindsTo s fd ⟨us, []⟩ (ps.zip us)) ∧ ∀ base : Heap, ModOk P w K mg base T k c G C → FnOk P w K mg base (L2N.CX P w) (k + 1) (He.ga K x) fd ps (SpD ⟨P, w, K, mg, T⟩ ar (run G [] C n b)) := by
  obtain ⟨fd, F⟩ := J.d.def_ i (d := dd x st) hi
  have F : FunD K x x (defArgs st) (defBody st) (defScope st) [] [] (He.ga K x) fd := F
  subst hn ha
  exact ⟨fd, FunD.bindsA F hB, fun base M => def_ok F hS M h1 h2 h3 h⟩
/-- the module's constants -/
theorem gc_int (J : Jn fa fn tu K mg base) {x : Str} {i : Int} (j : Nat) (h : fa[j]? = some (.int x i)) : ∃ u v, mg x = some u ∧ L2.RelV v u ∧ ∀ G m, Rep ⟨P, w, K, mg, T⟩ G m (.int i) v := by
  obtain ⟨t, e⟩ := J.int j h
  exact ⟨_, .int i, e, ⟨t, rfl⟩, fun _ _ => .int i⟩
theorem reps_strs {S : Sy} {G : Hp} {m : List Addr} : ∀ zs : List Str, Reps S G m (zs.map .str) ((zs.map He.Dv.str).map (He.Dv.v S.K))
  | [] => .nil
  | z :: zs => .cons (.str z) (reps_strs zs)
theorem gc_strs (J : Jn fa fn tu K mg base) {x : Str} {zs : List Str} (j i : Nat) (h : fa[j]? = some (.glo x)) (ht : tu[i]? = some (x, zs.map He.Dv.str)) : ∃ u v, mg x = some u ∧ L2.RelV v u ∧ ∀ G m, Rep ⟨P, w, K, mg, T⟩ G m (.tup (zs.map .str)) v := by
  refine ⟨_, .ref (He.ga K x), J.glo j h, rfl, fun G m => .tup (J.c.tup i ht G) (reps_strs (S := ⟨P, w, K, mg, T⟩) zs)⟩
/-! lists of callees, of constants -/
inductive CalL (P : Program) (w : World) (K : PySem.W.Frag) (mg : Str → Option Value) (base : Heap) (T : List (Addr × Str)) (k : Nat) : List (Str × Nat × Nat) → List Den → Prop
  | nil : CalL P w K mg base T k [] []
  | cons {x : Str} {ar lv : Nat} {d : Den} {l : List (Str × Nat × Nat)} {G : List Den} (h : CalleeM P w K mg base T k x ar lv d) (r : CalL P w K mg base T k l G) : CalL P w K mg base T k ((x, ar, lv) :: l) (d :: G)
theorem CalL.get {k : Nat} : ∀ {l : List (Str × Nat × Nat)} {G : List Den}, CalL P w K mg base T k l G → ∀ (j : Nat) (x : Str) (ar lv : Nat), l[j]? = some (x, ar, lv) → ∃ d, G[j]? = some d ∧ CalleeM P w K mg base T k x ar lv d
  | _, _, .nil, j, x, ar, lv, e => by simp at e
  | _, _, .cons h r, 0, x, ar, lv, e => by
    simp only [List.getElem?_cons_zero, Option.some.injEq, Prod.mk.injEq] at e
    obtain ⟨e1, e2, e3⟩ := e
    subst e1 e2 e3
    exact ⟨_, rfl, h⟩
  | _, _, .cons h r, j + 1, x, ar, lv, e => by
    obtain ⟨d, h1, h2⟩ := r.get j x ar lv (by simpa using e)
    exact ⟨d, by simpa using h1, h2⟩
inductive GcL (S : Sy) : List Str → List PV → Prop
  | nil : GcL S [] []
  | cons {x : Str} {p : PV} {l : List Str} {C : List PV} (h : ∃ u v, S.mg x = some u ∧ L2.RelV v u ∧ ∀ G m, Rep S G m p v) (r : GcL S l C) : GcL S (x :: l) (p :: C)
theorem GcL.get {S : Sy} : ∀ {l : List Str} {C : List PV}, GcL S l C → ∀ (j : Nat) (x : Str), l[j]? = some x → ∃ p u v, C[j]? = some p ∧ S.mg x = some u ∧ L2.RelV v u ∧ ∀ G m, Rep S G m p v
  | _, _, .nil, j, x, e => by simp at e
  | _, _, .cons (p := p) h r, 0, x, e => by
    simp only [List.getElem?_cons_zero, Option.some.injEq] at e
    subst e
    obtain ⟨u, v, h⟩ := h
    exact ⟨p, u, v, rfl, h⟩
  | _, _, .cons h r, j + 1, x, e => by
    obtain ⟨p, u, v, h1, h2⟩ := r.get j x (by simpa using e)
    exact ⟨p, u, v, by simpa using h1, h2⟩
theorem mod_of {k : Nat} {c : Ctx} {G : List Den} {C : List PV} (J : Jn fa fn tu K mg base) (h1 : CalL P w K mg base T k c.fns G) (h2 : GcL ⟨P, w, K, mg, T⟩ c.gcs C) (h3 : (c.bls.all fun x => fa.any fun f => match f with | .free y => decide (y = x) | _ => false) = true) (h4 : (c.exs.all fun x => (fa.any fun f => match f with | .glo y => decide (y = x) | _ => false) && fa.any fun f => match f with | .exc y => decide (y = x) | _ => false) = true) (h5 : c.gvn = [] := by rfl) (h6 : c.lms = [] := by rfl) : ModOk P w K mg base T k c G C := ⟨h1.get, h2.get, J.frees c.bls h3, J.excs c.exs h4, h5, h6⟩
theorem reps_intsJ {S : Sy} {G : Hp} {m : List Addr} : ∀ ns : List Int, Reps S G m (ns.map .int) (ns.map V.int)
  | [] => .nil
  | n :: ns => .cons (.int n) (reps_intsJ ns)
/-- the law's promise, out of its pure law -/
theorem law_spT {S : Sy} {d : Den} {H : Hp} (hT : LamX.Tabs S.T H) {a : Addr} {ns : List Int} (hS : SqL S.K H a (ns.map V.int)) (h : ∃ s, d [.rol (ns.map .int)] [] = .ok (.bl true) s) : SpD S 1 d [.ref a] H (fun v _ => v = .bl true) fun _ _ _ => False := by
  obtain ⟨s, e⟩ := h
  have key : ∃ G : Hp, (∀ b o, G b = some o → H b = some o ∧ ntbl o) ∧ SqL S.K G a (ns.map V.int) := by
    have one : ∀ o : HO, H a = some o → ntbl o → ∀ b u, (if b = a then some o else none : Option HO) = some u → H b = some u ∧ ntbl u := by
      intro o h n b u e
      by_cases q : b = a
      · rw [if_pos q] at e
        cases e
        exact ⟨by rw [q]; exact h, n⟩
      · rw [if_neg q] at e
        cases e
    rcases hS with (h | ⟨o, h⟩) | h
    · exact ⟨fun b => if b = a then some _ else none, one _ h ntbl_lst, .inl (.inl (if_pos rfl))⟩
    · exact ⟨fun b => if b = a then some _ else none, one _ h (fun _ h => nomatch h), .inl (.inr ⟨o, if_pos rfl⟩)⟩
    · exact ⟨fun _ => none, fun b u e => (nomatch e), .inr h⟩
  obtain ⟨G, le, hG⟩ := key
  refine ⟨G, [], [], [.rol (ns.map .int)], rfl, ⟨fun b o e => ⟨(le b o e).1, by simp, (le b o e).2⟩, rfl, .nil, fun n b o h => by simp at h, hT⟩, .cons (.rol hG (reps_intsJ ns)) .nil, ?_⟩
  rw [e]
  intro G' m' H' v _ _ r
  have r : Rep S G' m' (.bl true) v := r
  cases r
  rfl
end
theorem law_sp {S : Sy} {d : Den} (hT : S.T = []) {H : Hp} {a : Addr} {ns : List Int} (hS : SqL S.K H a (ns.map V.int)) (h : ∃ s, d [.rol (ns.map .int)] [] = .ok (.bl true) s) : SpD S 1 d [.ref a] H (fun v _ => v = .bl true) fun _ _ _ => False :=
  law_spT (by rw [hT]; intro p hp; cases hp) hS h
/-- nothing flies out of the law -/
theorem noCX {P : Program} (w : World) (H : Hp) (s : Shared) (e : Value) (s' : Shared) (h : L2N.CX P w [] H s (fun _ _ _ => False) e s') : False := by
  obtain ⟨_, _, _, _, _, _, _, _, _, _, _, _, h⟩ := h
  exact h
end RP

/-! denotations, printed by gen.py. Own work. -/
namespace RP
open PySem
def tabK : List (Str × Str) := [("InvalidTrack", "InvalidTrack +"), ("InvalidEnd", "InvalidEnd +"), ("InvalidStanding", "InvalidStanding +"), ("InvalidTrain", "InvalidTrain +")]
def ir_all_standings : Ss := (.cons (.setO 1 (.lst (.cons (.tup .nil) .nil))) (.cons (.for_ (.nm 2) (.seq (.ix (.var 0) (.int 0))) (.cons (.setO 1 (.lc2 (.bin .add (.var 3) (.tup (.cons (.var 4) .nil))) (.nm 3) (.seq (.var 1)) (.bl true) (.nm 4) (.seq (.gc 0)) (.bl true) [3, 4] [4])) .nil)) (.frz 1 (.cons (.retE (.var 1)) .nil))))
def d_all_standings : Den := run [] [] [(.tup [(.str "b"), (.str "c")])] 5 ir_all_standings
def ir_index_of : Ss := (.cons (.retE (.ix (.lc (.var 2) (.tup [2, 3]) (.enum (.ix (.var 0) (.int 1))) (.cmp .isin (.var 1) (.slHi (.var 3) (.int 2))) [2, 3]) (.int 0))) .nil)
def d_index_of : Den := run [] [] [] 4 ir_index_of
def ir_are_apart : Ss := (.cons (.set 3 (.call 0 (.cons (.var 0) (.cons (.ix (.var 1) (.int 0)) .nil)))) (.cons (.ife (.cmp .ne (.var 3) (.call 0 (.cons (.var 0) (.cons (.ix (.var 2) (.int 0)) .nil)))) (.cons (.retE (.bl true)) .nil) .nil) (.cons (.retE (.and (.notN (.ix (.ix (.ix (.var 0) (.int 1)) (.var 3)) (.int 1))) (.cmp .eq (.ix (.var 1) (.int 0)) (.ix (.var 2) (.int 0))))) .nil)))
def d_are_apart : Den := run [d_index_of] [] [] 4 ir_are_apart
def ir_along : Ss := (.cons (.set 2 (.call 0 (.cons (.var 0) (.cons (.var 1) .nil)))) (.cons (.setT [3, 4, 5] (.ix (.ix (.var 0) (.int 1)) (.var 2))) (.cons (.ife (.isN (.var 4)) (.cons (.retE (.tup (.cons (.var 2) (.cons (.var 1) (.cons (.bin .mul (.int 2) (.var 5)) .nil))))) .nil) .nil) (.cons (.retE (.tup (.cons (.var 2) (.cons (.ite (.cmp .eq (.var 1) (.var 3)) (.var 4) (.var 3)) (.cons (.var 5) .nil))))) .nil))))
def d_along : Den := run [d_index_of] [] [] 6 ir_along
def ir_put : Ss := (.cons (.retE (.bin .add (.bin .add (.slHi (.var 0) (.var 1)) (.tup (.cons (.var 2) .nil))) (.slLo (.var 0) (.bin .add (.var 1) (.int 1))))) .nil)
def d_put : Den := run [] [] [] 3 ir_put
def ir_other_leg : Ss := (.cons (.retE (.litget [("b", "c"), ("c", "b")] (.var 0) "a")) .nil)
def d_other_leg : Den := run [] [] [] 1 ir_other_leg
def ir_over : Ss := (.cons (.setT [4, 5] (.var 1)) (.cons (.set 3 (.ite (.cmp .eq (.var 5) (.str "a")) (.ix (.var 2) (.var 4)) (.var 5))) (.cons (.ife (.cmp .eq (.ix (.ix (.var 0) (.int 0)) (.var 4)) (.str "lazy")) (.cons (.set 2 (.call 0 (.cons (.var 2) (.cons (.var 4) (.cons (.var 3) .nil))))) .nil) (.cons (.ife (.cmp .eq (.ix (.ix (.var 0) (.int 0)) (.var 4)) (.str "turning")) (.cons (.set 2 (.call 0 (.cons (.var 2) (.cons (.var 4) (.cons (.call 1 (.cons (.var 3) .nil)) .nil))))) .nil) .nil) .nil)) (.cons (.retE (.tup (.cons (.tup (.cons (.var 4) (.cons (.ite (.cmp .eq (.var 5) (.str "a")) (.var 3) (.str "a")) .nil))) (.cons (.var 2) .nil)))) .nil))))
def d_over : Den := run [d_put, d_other_leg] [] [] 6 ir_over
def ir_moved : Ss := (.cons (.ife (.cmp .gt (.ix (.var 1) (.int 1)) (.int 0)) (.cons (.retE (.tup (.cons (.var 1) (.cons (.var 2) .nil)))) .nil) .nil) (.cons (.setT [3, 2] (.call 1 (.cons (.var 0) (.cons (.ix (.var 1) (.int 0)) (.cons (.var 2) .nil))))) (.cons (.setT [4, 5, 6] (.call 0 (.cons (.var 0) (.cons (.var 3) .nil)))) (.cons (.retE (.tup (.cons (.tup (.cons (.var 5) (.cons (.var 6) .nil))) (.cons (.var 2) .nil)))) .nil))))
def d_moved : Den := run [d_along, d_over] [] [] 7 ir_moved
def ir_first_tick : Ss := (.cons (.parD 4 5 (.int 0)) (.cons (.while_ 20000 (.cmp .notin (.tup (.cons (.var 1) (.cons (.var 2) (.cons (.var 3) .nil)))) (.var 4)) (.cons (.seti 4 (.tup (.cons (.var 1) (.cons (.var 2) (.cons (.var 3) .nil)))) (.bl true)) (.cons (.ife (.or (.not (.call 0 (.cons (.var 0) (.cons (.var 1) (.cons (.var 2) .nil))))) (.and (.cmp .eq (.ix (.var 1) (.int 1)) (.int 0)) (.and (.cmp .eq (.ix (.var 2) (.int 1)) (.int 0)) (.cmp .eq (.ix (.ix (.var 1) (.int 0)) (.int 0)) (.ix (.ix (.var 2) (.int 0)) (.int 0)))))) (.cons (.retE (.var 5)) .nil) .nil) (.cons (.setT [1, 3] (.call 1 (.cons (.var 0) (.cons (.var 1) (.cons (.var 3) .nil))))) (.cons (.setT [2, 3] (.call 1 (.cons (.var 0) (.cons (.var 2) (.cons (.var 3) .nil))))) (.cons (.ife (.not (.call 0 (.cons (.var 0) (.cons (.var 1) (.cons (.var 2) .nil))))) (.cons (.retE (.var 5)) .nil) .nil) (.cons (.par [1, 2, 5] (.cons (.tup (.cons (.ix (.var 1) (.int 0)) (.cons (.bin .sub (.ix (.var 1) (.int 1)) (.int 1)) .nil))) (.cons (.tup (.cons (.ix (.var 2) (.int 0)) (.cons (.bin .sub (.ix (.var 2) (.int 1)) (.int 1)) .nil))) (.cons (.bin .add (.var 5) (.int 1)) .nil)))) .nil))))))) (.cons (.retE .non) .nil)))
def d_first_tick : Den := run [d_are_apart, d_moved] [] [] 6 ir_first_tick
def ir_all_safe : Ss := (.cons (.retE (.lc (.var 3) (.nm 3) (.seq (.call 0 (.cons (.var 0) .nil))) (.isN (.call 1 (.cons (.var 0) (.cons (.var 1) (.cons (.var 2) (.cons (.var 3) .nil)))))) [3])) .nil)
def d_all_safe : Den := run [d_all_standings, d_first_tick] [] [] 4 ir_all_safe
def ir_all_ends : Ss := (.cons (.retE (.lc2 (.tup (.cons (.var 1) (.cons (.var 2) .nil))) (.nm 1) (.range1 (.var 0)) (.bl true) (.nm 2) (.seq (.tup (.cons (.str "a") (.cons (.str "b") (.cons (.str "c") .nil))))) (.bl true) [1, 2] [2])) .nil)
def d_all_ends : Den := run [] [] [] 3 ir_all_ends
def ir_ends_in : Ss := (.cons (.retE (.lc2 (.var 2) (.nm 1) (.seq (.var 0)) (.bl true) (.nm 2) (.seq (.slHi (.var 1) (.int 2))) (.notN (.var 2)) [1, 2] [2])) .nil)
def d_ends_in : Den := run [] [] [] 3 ir_ends_in
def ir_is_int : Ss := (.cons (.retE (.and (.isinst .int (.var 0)) (.and (.not (.isinst .bool (.var 0))) (.chain .le .le (.var 1) (.var 0) (.var 2))))) .nil)
def d_is_int : Den := run [] [] [] 3 ir_is_int
def ir_is_word : Ss := (.cons (.retE (.and (.isinst .str (.var 0)) (.cmp .isin (.var 0) (.var 1)))) .nil)
def d_is_word : Den := run [] [] [] 2 ir_is_word
def ir_is_end_of : Ss := (.cons (.ife (.or (.not (.isinst .tuple (.var 1))) (.cmp .ne (.b1 .len (.var 1)) (.int 2))) (.cons (.retE (.bl false)) .nil) .nil) (.cons (.retE (.and (.call 0 (.cons (.ix (.var 1) (.int 0)) (.cons (.int 0) (.cons (.bin .sub (.var 0) (.int 1)) .nil)))) (.call 1 (.cons (.ix (.var 1) (.int 1)) (.cons (.tup (.cons (.str "a") (.cons (.str "b") (.cons (.str "c") .nil)))) .nil))))) .nil))
def d_is_end_of : Den := run [d_is_int, d_is_word] [] [] 2 ir_is_end_of
def ir_is_stretch : Ss := (.cons (.ife (.or (.not (.isinst .tuple (.var 1))) (.or (.cmp .ne (.b1 .len (.var 1)) (.int 3)) (.or (.not (.call 0 (.cons (.var 0) (.cons (.ix (.var 1) (.int 0)) .nil)))) (.not (.call 1 (.cons (.ix (.var 1) (.int 2)) (.cons (.int 1) (.cons (.int 2) .nil)))))))) (.cons (.retE (.bl false)) .nil) .nil) (.cons (.retE (.or (.isN (.ix (.var 1) (.int 1))) (.and (.call 0 (.cons (.var 0) (.cons (.ix (.var 1) (.int 1)) .nil))) (.cmp .lt (.ix (.var 1) (.int 0)) (.ix (.var 1) (.int 1)))))) .nil))
def d_is_stretch : Den := run [d_is_end_of, d_is_int] [] [] 2 ir_is_stretch
def ir_is_track : Ss := (.cons (.ife (.or (.not (.isinst .tuple (.var 0))) (.or (.cmp .ne (.b1 .len (.var 0)) (.int 2)) (.not (.b1 .all (.lc (.isinst .tuple (.var 4)) (.nm 4) (.seq (.var 0)) (.bl true) [4]))))) (.cons (.retE (.bl false)) .nil) .nil) (.cons (.setT [1, 2] (.var 0)) (.cons (.ife (.or (.not (.chain .le .le (.int 1) (.b1 .len (.var 1)) (.gc 0))) (.not (.b1 .all (.lc (.call 3 (.cons (.var 5) (.cons (.gc 1) .nil))) (.nm 5) (.seq (.var 1)) (.bl true) [5])))) (.cons (.retE (.bl false)) .nil) .nil) (.cons (.ife (.not (.b1 .all (.lc (.call 2 (.cons (.b1 .len (.var 1)) (.cons (.var 3) .nil))) (.nm 3) (.seq (.var 2)) (.bl true) [3]))) (.cons (.retE (.bl false)) .nil) .nil) (.cons (.ife (.not (.b1 .all (.lc (.cmp .lt (.ix (.var 3) (.int 0)) (.ix (.var 6) (.int 0))) (.tup [3, 6]) (.zip (.var 2) (.slLo (.var 2) (.int 1))) (.bl true) [3, 6]))) (.cons (.retE (.bl false)) .nil) .nil) (.cons (.retE (.cmp .eq (.b1 .sorted (.call 0 (.cons (.var 2) .nil))) (.call 1 (.cons (.b1 .len (.var 1)) .nil)))) .nil))))))
def d_is_track : Den := run [d_ends_in, d_all_ends, d_is_stretch, d_is_word] [] [(.int 3), (.tup [(.str "lazy"), (.str "sprung"), (.str "turning")])] 7 ir_is_track
def ir_need_track : Ss := (.cons (.ife (.not (.call 0 (.cons (.var 0) .nil))) (.cons .dead .nil) .nil) .nil)
def d_need_track : Den := run [d_is_track] [] [] 1 ir_need_track
def ir_safe_pairs : Ss := (.cons (.expr (.call 3 (.cons (.var 0) .nil))) (.cons (.par [2, 3] (.cons (.call 2 (.cons (.b1 .len (.ix (.var 0) (.int 0))) .nil)) (.cons (.b1 .len (.call 1 (.cons (.var 0) .nil))) .nil))) (.cons (.setO 1 (.lst .nil)) (.cons (.for_ (.tup [4, 5]) (.enum (.var 2)) (.cons (.for_ (.nm 6) (.seq (.slLo (.var 2) (.bin .add (.var 4) (.int 1)))) (.cons (.ife (.cmp .eq (.b1 .len (.call 0 (.cons (.var 0) (.cons (.tup (.cons (.var 5) (.cons (.int 0) .nil))) (.cons (.tup (.cons (.var 6) (.cons (.int 0) .nil))) .nil))))) (.var 3)) (.cons (.app 1 (.tup (.cons (.var 5) (.cons (.var 6) .nil)))) .nil) .nil) .nil)) .nil)) (.frz 1 (.cons (.retE (.var 1)) .nil))))))
def d_safe_pairs : Den := run [d_all_safe, d_all_standings, d_all_ends, d_need_track] [] [] 7 ir_safe_pairs
def ir_is_standing_of : Ss := (.cons (.retE (.and (.isinst .tuple (.var 1)) (.and (.cmp .eq (.b1 .len (.var 1)) (.b1 .len (.ix (.var 0) (.int 0)))) (.b1 .all (.lc (.call 0 (.cons (.var 2) (.cons (.gc 0) .nil))) (.nm 2) (.seq (.var 1)) (.bl true) [2]))))) .nil)
def d_is_standing_of : Den := run [d_is_word] [] [(.tup [(.str "b"), (.str "c")])] 3 ir_is_standing_of
def ir_need_standing : Ss := (.cons (.ife (.not (.call 0 (.cons (.var 0) (.cons (.var 1) .nil)))) (.cons .dead .nil) .nil) .nil)
def d_need_standing : Den := run [d_is_standing_of] [] [] 2 ir_need_standing
def ir_ticks_of : Ss := (.cons (.setT [2, 3, 4] (.ix (.ix (.var 0) (.int 1)) (.call 0 (.cons (.var 0) (.cons (.var 1) .nil))))) (.cons (.retE (.ite (.isN (.var 3)) (.bin .mul (.int 2) (.var 4)) (.var 4))) .nil))
def d_ticks_of : Den := run [d_index_of] [] [] 5 ir_ticks_of
def ir_is_train : Ss := (.cons (.ife (.or (.not (.isinst .tuple (.var 1))) (.or (.cmp .ne (.b1 .len (.var 1)) (.int 2)) (.not (.call 2 (.cons (.b1 .len (.ix (.var 0) (.int 0))) (.cons (.ix (.var 1) (.int 0)) .nil)))))) (.cons (.retE (.bl false)) .nil) .nil) (.cons (.retE (.call 0 (.cons (.ix (.var 1) (.int 1)) (.cons (.int 0) (.cons (.bin .sub (.call 1 (.cons (.var 0) (.cons (.ix (.var 1) (.int 0)) .nil))) (.int 1)) .nil))))) .nil))
def d_is_train : Den := run [d_is_int, d_ticks_of, d_is_end_of] [] [] 2 ir_is_train
def ir_need_trains : Ss := (.cons (.expr (.call 1 (.cons (.var 0) .nil))) (.cons (.for_ (.nm 3) (.seq (.tup (.cons (.var 1) (.cons (.var 2) .nil)))) (.cons (.ife (.not (.call 0 (.cons (.var 0) (.cons (.var 3) .nil)))) (.cons .dead .nil) .nil) .nil)) .nil))
def d_need_trains : Den := run [d_is_train, d_need_track] [] [] 4 ir_need_trains
def ir_meeting : Ss := (.cons (.expr (.call 2 (.cons (.var 0) (.cons (.var 1) (.cons (.var 2) .nil))))) (.cons (.expr (.call 1 (.cons (.var 0) (.cons (.var 3) .nil)))) (.cons (.retE (.call 0 (.cons (.var 0) (.cons (.var 1) (.cons (.var 2) (.cons (.var 3) .nil)))))) .nil)))
def d_meeting : Den := run [d_first_tick, d_need_standing, d_need_trains] [] [] 4 ir_meeting
def ir_step : Ss := (.cons (.setT [2, 3] (.call 1 (.cons (.var 0) (.cons (.ix (.var 1) (.int 0)) (.cons (.ix (.var 1) (.int 1)) .nil))))) (.cons (.setT [4, 5, 6] (.call 0 (.cons (.var 0) (.cons (.var 2) .nil)))) (.cons (.retE (.tup (.cons (.tup (.cons (.var 5) (.cons (.var 3) .nil))) (.cons (.var 4) (.cons (.var 6) .nil))))) .nil)))
def d_step : Den := run [d_along, d_over] [] [] 7 ir_step
def ir_need_end : Ss := (.cons (.ife (.not (.call 0 (.cons (.b1 .len (.ix (.var 0) (.int 0))) (.cons (.var 1) .nil)))) (.cons .dead .nil) .nil) .nil)
def d_need_end : Den := run [d_is_end_of] [] [] 2 ir_need_end
def ir_need_place : Ss := (.cons (.expr (.call 2 (.cons (.var 0) .nil))) (.cons (.expr (.call 1 (.cons (.var 0) (.cons (.var 1) .nil)))) (.cons (.expr (.call 0 (.cons (.var 0) (.cons (.var 2) .nil)))) .nil)))
def d_need_place : Den := run [d_need_standing, d_need_end, d_need_track] [] [] 3 ir_need_place
def ir_passed : Ss := (.cons (.expr (.call 1 (.cons (.var 0) (.cons (.var 1) (.cons (.var 2) .nil))))) (.cons (.setT [3, 4, 5] (.call 0 (.cons (.var 0) (.cons (.tup (.cons (.var 1) (.cons (.var 2) .nil))) .nil)))) (.cons (.retE (.tup (.cons (.ix (.var 3) (.int 0)) (.cons (.ix (.var 3) (.int 1)) (.cons (.var 5) .nil))))) .nil)))
def d_passed : Den := run [d_step, d_need_place] [] [] 6 ir_passed
def ir__law_standings : Ss := (.cons (.set 1 (.lst (.cons (.tup .nil) .nil))) (.cons (.for_ (.nm 2) (.seq (.ix (.var 0) (.int 0))) (.cons (.set 3 (.lst .nil)) (.cons (.for_ (.nm 4) (.seq (.var 1)) (.cons (.set 3 (.bin .add (.var 3) (.lst (.cons (.bin .add (.var 4) (.tup (.cons (.str "b") .nil))) (.cons (.bin .add (.var 4) (.tup (.cons (.str "c") .nil))) .nil))))) .nil)) (.cons (.set 1 (.var 3)) .nil)))) (.cons (.retE (.var 1)) .nil)))
def d__law_standings : Den := run [] [] [] 5 ir__law_standings
def ir_safe_standings : Ss := (.cons (.expr (.call 1 (.cons (.var 0) (.cons (.var 1) (.cons (.var 2) .nil))))) (.cons (.retE (.call 0 (.cons (.var 0) (.cons (.var 1) (.cons (.var 2) .nil))))) .nil))
def d_safe_standings : Den := run [d_all_safe, d_need_trains] [] [] 3 ir_safe_standings
def ir__law_tap : Ss := (.cons (.ife (.cmp .gt (.ix (.var 0) (.int 0)) (.int 0)) (.cons (.set 2 (.bin .mod (.b1 .int (.ix (.var 0) (.int 0))) (.var 1))) (.cons (.seti 0 (.int 0) (.bin .fdiv (.ix (.var 0) (.int 0)) (.var 1))) (.cons (.retE (.var 2)) .nil))) .nil) (.cons (.setT [2, 3] (.tup (.cons (.int 0) (.cons (.int 1) .nil)))) (.cons (.while_ 40 (.or (.cmp .lt (.var 3) (.var 1)) (.cmp .eq (.var 3) (.int 1))) (.cons (.seti 0 (.int 1) (.bin .mod (.b1 .int (.bin .add (.bin .mul (.ix (.var 0) (.int 1)) (.int 31337)) (.int 53))) (.int 2147483311))) (.cons (.set 2 (.bin .add (.bin .mul (.var 2) (.int 8192)) (.bin .mod (.b1 .int (.bin .fdiv (.ix (.var 0) (.int 1)) (.int 65563))) (.int 8192)))) (.cons (.set 3 (.bin .mul (.var 3) (.int 8192))) .nil)))) (.cons (.retE (.bin .mod (.b1 .int (.var 2)) (.var 1))) .nil))))
def d__law_tap : Den := run [] [] [] 4 ir__law_tap
def ir__law_any_of : Ss := (.cons (.retE (.ix (.var 1) (.call 0 (.cons (.var 0) (.cons (.b1 .len (.var 1)) .nil))))) .nil)
def d__law_any_of : Den := run [d__law_tap] [] [] 2 ir__law_any_of
def ir__law_ends : Ss := (.cons (.set 1 (.lst .nil)) (.cons (.for_ (.nm 2) (.range1 (.var 0)) (.cons (.set 1 (.bin .add (.var 1) (.lst (.cons (.tup (.cons (.var 2) (.cons (.str "a") .nil))) (.cons (.tup (.cons (.var 2) (.cons (.str "b") .nil))) (.cons (.tup (.cons (.var 2) (.cons (.str "c") .nil))) .nil)))))) .nil)) (.cons (.retE (.var 1)) .nil)))
def d__law_ends : Den := run [] [] [] 3 ir__law_ends
def ir__law_joints : Ss := (.cons (.parL 2 3 (.call 1 (.cons (.var 1) .nil))) (.cons (.while_ 200 (.cmp .ne (.var 2) (.lst .nil)) (.cons (.par [4, 2] (.cons (.ix (.var 2) (.int 0)) (.cons (.slLo (.var 2) (.int 1)) .nil))) (.cons (.par [5, 6] (.cons (.bin .add (.int 1) (.call 0 (.cons (.var 0) (.cons (.int 2) .nil)))) (.cons (.call 0 (.cons (.var 0) (.cons (.int 5) .nil))) .nil))) (.cons (.ife (.or (.cmp .eq (.var 2) (.lst .nil)) (.cmp .eq (.var 6) (.int 0))) (.cons (.app 3 (.tup (.cons (.var 4) (.cons .non (.cons (.var 5) .nil))))) .nil) (.cons (.set 7 (.call 0 (.cons (.var 0) (.cons (.b1 .len (.var 2)) .nil)))) (.cons (.app 3 (.tup (.cons (.var 4) (.cons (.ix (.var 2) (.var 7)) (.cons (.var 5) .nil))))) (.cons (.set 2 (.bin .add (.slHi (.var 2) (.var 7)) (.slLo (.var 2) (.bin .add (.var 7) (.int 1))))) .nil)))) .nil)))) (.cons (.retE (.b1 .tuple (.var 3))) .nil)))
def d__law_joints : Den := run [d__law_tap, d__law_ends] [] [] 8 ir__law_joints
def ir__law_track : Ss := (.cons (.set 2 (.bin .add (.int 1) (.call 2 (.cons (.var 0) (.cons (.var 1) .nil))))) (.cons (.set 3 (.b1 .tuple (.lc (.call 1 (.cons (.var 0) (.cons (.lst (.cons (.str "lazy") (.cons (.str "lazy") (.cons (.str "sprung") (.cons (.str "turning") .nil))))) .nil))) (.nm 4) (.range1 (.var 2)) (.bl true) [4]))) (.cons (.retE (.tup (.cons (.var 3) (.cons (.call 0 (.cons (.var 0) (.cons (.var 2) .nil))) .nil)))) .nil)))
def d__law_track : Den := run [d__law_joints, d__law_any_of, d__law_tap] [] [] 5 ir__law_track
def ir__law_churn : Ss := (.cons (.set 2 (.bin .add (.bin .mul (.int 77773) (.var 1)) (.int 37))) (.cons (.ife (.cmp .lt (.var 1) (.b1 .len (.var 0))) (.cons (.set 2 (.bin .mod (.b1 .abs (.b1 .int (.ix (.var 0) (.var 1)))) (.bin .mul (.bin .mul (.bin .mul (.bin .pow (.int 10) (.int 60)) (.bin .pow (.int 10) (.int 60))) (.bin .pow (.int 10) (.int 60))) (.bin .pow (.int 10) (.int 58))))) .nil) (.cons (.ife (.cmp .gt (.b1 .len (.var 0)) (.int 0)) (.cons (.set 2 (.bin .add (.var 2) (.bin .mod (.b1 .abs (.b1 .int (.ix (.var 0) (.int 0)))) (.int 1000231)))) .nil) .nil) .nil)) (.cons (.retE (.lstR (.cons (.ite (.cmp .ge (.var 2) (.bin .pow (.int 10) (.int 18))) (.var 2) (.int 0)) (.cons (.bin .add (.bin .mod (.b1 .int (.bin .add (.bin .add (.bin .mul (.bin .mod (.var 2) (.int 2147483311)) (.int 9)) (.bin .mul (.int 43) (.var 1))) (.int 9))) (.int 2147483311)) (.int 1)) .nil)))) .nil)))
def d__law_churn : Den := run [] [] [] 3 ir__law_churn
def ir_law : Ss := (.cons (.for_ (.nm 1) (.range1 (.max2 (.int 1) (.min2 (.int 4) (.b1 .len (.var 0))))) (.cons (.set 3 (.call 8 (.cons (.var 0) (.cons (.var 1) .nil)))) (.cons (.set 2 (.call 7 (.cons (.var 3) (.cons (.int 3) .nil)))) (.cons (.par [5, 6] (.cons (.call 0 (.cons (.var 2) .nil)) (.cons (.call 6 (.cons (.b1 .len (.ix (.var 2) (.int 0))) .nil)) .nil))) (.cons (.ife (.or (.cmp .ne (.var 5) (.b1 .sortedSet (.var 5))) (.cmp .ne (.lc (.var 11) (.nm 11) (.seq (.var 5)) (.not (.cmp .lt (.ix (.var 11) (.int 0)) (.ix (.var 11) (.int 1)))) [11]) (.lst .nil))) (.cons (.retE (.bl false)) .nil) .nil) (.cons (.for_ (.nm 4) (.range1 (.int 20)) (.cons (.par [7, 8] (.cons (.call 5 (.cons (.var 3) (.cons (.var 6) .nil))) (.cons (.call 5 (.cons (.var 3) (.cons (.var 6) .nil))) .nil))) (.cons (.ife (.cmp .lt (.var 7) (.var 8)) (.cons (.set 9 (.call 4 (.cons (.var 2) (.cons (.tup (.cons (.var 7) (.cons (.int 0) .nil))) (.cons (.tup (.cons (.var 8) (.cons (.int 0) .nil))) .nil))))) (.cons (.ife (.cmp .ne (.cmp .isin (.tup (.cons (.var 7) (.cons (.var 8) .nil))) (.var 5)) (.cmp .eq (.var 9) (.call 3 (.cons (.var 2) .nil)))) (.cons (.retE (.bl false)) .nil) .nil) (.cons (.ife (.and (.cmp .eq (.ix (.var 7) (.int 0)) (.ix (.var 8) (.int 0))) (.cmp .ne (.var 9) (.lst .nil))) (.cons (.retE (.bl false)) .nil) .nil) (.cons (.for_ (.nm 10) (.seq (.slHi (.var 9) (.int 2))) (.cons (.setT [12, 13, 14] (.call 2 (.cons (.var 2) (.cons (.var 7) (.cons (.var 10) .nil))))) (.cons (.setT [15, 16, 17] (.call 2 (.cons (.var 2) (.cons (.var 8) (.cons (.var 13) .nil))))) (.cons (.ife (.notN (.call 1 (.cons (.var 2) (.cons (.tup (.cons (.var 12) (.cons (.bin .sub (.var 14) (.int 1)) .nil))) (.cons (.tup (.cons (.var 15) (.cons (.bin .sub (.var 17) (.int 1)) .nil))) (.cons (.var 16) .nil)))))) (.cons (.retE (.bl false)) .nil) .nil) .nil)))) .nil)))) .nil) .nil))) .nil)))))) (.cons (.set 2 (.tup (.cons (.tup (.cons (.str "lazy") .nil)) (.cons (.tup (.cons (.tup (.cons (.tup (.cons (.int 0) (.cons (.str "a") .nil))) (.cons .non (.cons (.int 1) .nil)))) (.cons (.tup (.cons (.tup (.cons (.int 0) (.cons (.str "b") .nil))) (.cons (.tup (.cons (.int 0) (.cons (.str "c") .nil))) (.cons (.int 2) .nil)))) .nil))) .nil)))) (.cons (.retE (.cmp .eq (.call 0 (.cons (.var 2) .nil)) (.lst .nil))) .nil)))
def d_law : Den := run [d_safe_pairs, d_meeting, d_passed, d__law_standings, d_safe_standings, d__law_any_of, d__law_ends, d__law_track, d__law_churn] [] [] 18 ir_law
end RP

/-! Sm1: ends, standings, places, tracks as plain data, and how they stand as values. Own work. -/
namespace RP
open PySem
theorem bnd_ok {α β : Type} {x : M α} {f : α → M β} {s s' : AS} {a : α} (h : x s = .ok a s') : bnd x f s = f a s' := by
  unfold bnd
  rw [h]
  rfl
inductive Lg where
  | a | b | c
  deriving DecidableEq
def Lg.s : Lg → Str
  | .a => "a"
  | .b => "b"
  | .c => "c"
def Lg.n : Lg → Nat
  | .a => 0
  | .b => 1
  | .c => 2
def Lg.ot : Lg → Lg
  | .a => .a
  | .b => .c
  | .c => .b
inductive Kd where
  | lz | sp | tu
  deriving DecidableEq
def Kd.s : Kd → Str
  | .lz => "lazy"
  | .sp => "sprung"
  | .tu => "turning"
abbrev En : Type := Nat × Lg
abbrev Sd : Type := List Lg
abbrev Pl : Type := En × Sd
structure Jt where
  e : En
  o : Option En
  l : Nat
structure Tk where
  ks : List Kd
  js : List Jt
def Tk.n (t : Tk) : Nat := t.ks.length
def lP (l : Lg) : PV := .str l.s
def eP (e : En) : PV := .tup [.int e.1, lP e.2]
def oP : Option En → PV
  | none => .non
  | some e => eP e
def sP (st : Sd) : PV := .tup (st.map lP)
def pP (p : Pl) : PV := .tup [eP p.1, sP p.2]
def kP (k : Kd) : PV := .str k.s
def jP (j : Jt) : PV := .tup [eP j.e, oP j.o, .int j.l]
def tP (t : Tk) : PV := .tup [.tup (t.ks.map kP), .tup (t.js.map jP)]
/-! equality -/
theorem eqP_l (x y : Lg) : eqP (lP x) (lP y) = decide (x = y) := by cases x <;> cases y <;> decide +kernel
theorem beq_l (x y : Lg) : PV.beq (lP x) (lP y) = decide (x = y) := by cases x <;> cases y <;> decide +kernel
theorem eqP_k (x y : Kd) : eqP (kP x) (kP y) = decide (x = y) := by cases x <;> cases y <;> decide +kernel
theorem eqP_i (x y : Int) : eqP (.int x) (.int y) = decide (x = y) := rfl
theorem nat_int (x y : Nat) : decide ((x : Int) = (y : Int)) = decide (x = y) := by
  by_cases h : x = y
  · rw [decide_eq_true h, decide_eq_true (by rw [h])]
  · rw [decide_eq_false h, decide_eq_false (by omega)]
theorem and_dec {p q r : Prop} [Decidable p] [Decidable q] [Decidable r] (h : r ↔ p ∧ q) : (decide p && decide q) = decide r := by
  by_cases hp : p <;> by_cases hq : q
  · rw [decide_eq_true hp, decide_eq_true hq, decide_eq_true (h.mpr ⟨hp, hq⟩)]; rfl
  · rw [decide_eq_true hp, decide_eq_false hq, decide_eq_false (fun z => hq (h.mp z).2)]; rfl
  · rw [decide_eq_false hp, decide_eq_false (fun z => hp (h.mp z).1)]; rfl
  · rw [decide_eq_false hp, decide_eq_false (fun z => hp (h.mp z).1)]; rfl
theorem eqP_e (x y : En) : eqP (eP x) (eP y) = decide (x = y) := by
  obtain ⟨a, l⟩ := x
  obtain ⟨b, m⟩ := y
  show (decide ((a : Int) = (b : Int)) && (eqP (lP l) (lP m) && true)) = _
  rw [eqP_l, Bool.and_true, nat_int]
  exact and_dec (by rw [Prod.mk.injEq])
theorem beq_e (x y : En) : PV.beq (eP x) (eP y) = decide (x = y) := by
  obtain ⟨a, l⟩ := x
  obtain ⟨b, m⟩ := y
  show (((a : Int) == (b : Int)) && (PV.beq (lP l) (lP m) && true)) = _
  rw [beq_l, Bool.and_true, show ((a : Int) == (b : Int)) = decide ((a : Int) = (b : Int)) from rfl, nat_int]
  exact and_dec (by rw [Prod.mk.injEq])
theorem eqPs_map {α : Type} [DecidableEq α] {f : α → PV} (h : ∀ x y, eqP (f x) (f y) = decide (x = y)) : ∀ xs ys : List α, eqPs (xs.map f) (ys.map f) = decide (xs = ys)
  | [], [] => rfl
  | [], _ :: _ => rfl
  | _ :: _, [] => rfl
  | x :: xs, y :: ys => by
    show (eqP (f x) (f y) && eqPs (xs.map f) (ys.map f)) = _
    rw [h, eqPs_map h]
    exact and_dec (by rw [List.cons.injEq])
theorem beqs_map {α : Type} [DecidableEq α] {f : α → PV} (h : ∀ x y, PV.beq (f x) (f y) = decide (x = y)) : ∀ xs ys : List α, PV.beqs (xs.map f) (ys.map f) = decide (xs = ys)
  | [], [] => rfl
  | [], _ :: _ => rfl
  | _ :: _, [] => rfl
  | x :: xs, y :: ys => by
    show (PV.beq (f x) (f y) && PV.beqs (xs.map f) (ys.map f)) = _
    rw [h, beqs_map h]
    exact and_dec (by rw [List.cons.injEq])
theorem eqP_s (x y : Sd) : eqP (sP x) (sP y) = decide (x = y) := eqPs_map eqP_l x y
theorem beq_s (x y : Sd) : PV.beq (sP x) (sP y) = decide (x = y) := beqs_map beq_l x y
theorem eqP_p (x y : Pl) : eqP (pP x) (pP y) = decide (x = y) := by
  obtain ⟨a, l⟩ := x
  obtain ⟨b, m⟩ := y
  show (eqP (eP a) (eP b) && (eqP (sP l) (sP m) && true)) = _
  rw [eqP_e, eqP_s, Bool.and_true]
  exact and_dec (by rw [Prod.mk.injEq])
theorem beq_p (x y : Pl) : PV.beq (pP x) (pP y) = decide (x = y) := by
  obtain ⟨a, l⟩ := x
  obtain ⟨b, m⟩ := y
  show (PV.beq (eP a) (eP b) && (PV.beq (sP l) (sP m) && true)) = _
  rw [beq_e, beq_s, Bool.and_true]
  exact and_dec (by rw [Prod.mk.injEq])
/-! data, keys -/
theorem dat_l (n : Nat) (x : Lg) : dat n (lP x) = true := by cases x <;> (unfold lP dat; decide +kernel)
theorem dat_k (n : Nat) (x : Kd) : dat n (kP x) = true := by cases x <;> (unfold kP dat; decide +kernel)
theorem dats_map {α : Type} {f : α → PV} {n : Nat} (h : ∀ x, dat n (f x) = true) : ∀ xs : List α, dats n (xs.map f) = true
  | [] => by simp [dats]
  | x :: xs => by simp only [List.map_cons, dats, h, dats_map h, Bool.and_self]
theorem dats_all {n : Nat} : ∀ {xs : List PV}, (∀ x ∈ xs, dat n x = true) → dats n xs = true
  | [], _ => by simp [dats]
  | x :: xs, h => by
    simp only [dats]
    rw [h x (by simp), dats_all (fun y hy => h y (by simp [hy]))]
    rfl
theorem dat_i (n : Nat) (i : Int) : dat n (.int i) = true := by simp [dat]
theorem dat_non (n : Nat) : dat n .non = true := by simp [dat]
theorem dat_e (n : Nat) (x : En) : dat (n + 1) (eP x) = true := by
  unfold eP
  simp only [dat, dats, dat_l, Bool.and_self, Bool.and_true]
theorem dat_o (n : Nat) (x : Option En) : dat (n + 1) (oP x) = true := by
  cases x with
  | none => exact dat_non _
  | some e => exact dat_e n e
theorem dat_s (n : Nat) (x : Sd) : dat (n + 1) (sP x) = true := by
  unfold sP
  simp only [dat]
  exact dats_map (dat_l n) x
theorem dat_p (n : Nat) (x : Pl) : dat (n + 2) (pP x) = true := by
  unfold pP
  simp only [dat, dats, dat_e, dat_s, Bool.and_self]
theorem key_l (n : Nat) (x : Lg) : keyOk n (lP x) = true := by unfold lP; simp [keyOk]
theorem keys_map {α : Type} {f : α → PV} {n : Nat} (h : ∀ x, keyOk n (f x) = true) : ∀ xs : List α, keyOks n (xs.map f) = true
  | [] => by simp [keyOks]
  | x :: xs => by simp only [List.map_cons, keyOks, h, keys_map h, Bool.and_self]
theorem key_i (n : Nat) (i : Int) : keyOk n (.int i) = true := by simp [keyOk]
theorem key_e (n : Nat) (x : En) : keyOk (n + 1) (eP x) = true := by
  unfold eP
  simp only [keyOk, keyOks, key_l, Bool.and_self, Bool.and_true]
theorem key_s (n : Nat) (x : Sd) : keyOk (n + 1) (sP x) = true := by
  unfold sP
  simp only [keyOk]
  exact keys_map (key_l n) x
theorem key_p (n : Nat) (x : Pl) : keyOk (n + 2) (pP x) = true := by
  unfold pP
  simp only [keyOk, keyOks, key_e, key_s, Bool.and_self]
theorem keyT_p (x : Pl) : keyT (pP x) = true := by
  unfold keyT
  rw [key_p 6 x]
  rfl
/-! comparisons of values -/
theorem cmp_eq {x y : PV} {b : Bool} (h1 : dat DEP x = true) (h2 : dat DEP y = true) (h : eqP x y = b) : cmpP .eq x y = some b := by
  show (if dat DEP x && dat DEP y then some (eqP x y) else none) = some b
  rw [h1, h2, h]
  rfl
theorem cmp_ne {x y : PV} {b : Bool} (h1 : dat DEP x = true) (h2 : dat DEP y = true) (h : eqP x y = b) : cmpP .ne x y = some (!b) := by
  show (if dat DEP x && dat DEP y then some (!eqP x y) else none) = some (!b)
  rw [h1, h2, h]
  rfl
theorem cmp_lt {x y : PV} {b : Bool} (h1 : dat DEP x = true) (h2 : dat DEP y = true) (h : ltP x y = some b) : cmpP .lt x y = some b := by
  show (if dat DEP x && dat DEP y then ltP x y else none) = some b
  rw [h1, h2, h]
  rfl
theorem cmp_isinL {x : PV} {ys : List PV} (h1 : dat DEP x = true) (h2 : datS ys = true) : cmpP .isin x (.lst ys) = some (ys.any fun y => eqP y x) := by
  show (if dat DEP x && datS ys then some (ys.any fun y => eqP y x) else none) = _
  rw [h1, h2]
  rfl
theorem cmp_isinT {x : PV} {ys : List PV} (h1 : dat DEP x = true) (h2 : datS ys = true) : cmpP .isin x (.tup ys) = some (ys.any fun y => eqP y x) := by
  show (if dat DEP x && datS ys then some (ys.any fun y => eqP y x) else none) = _
  rw [h1, h2]
  rfl
theorem any_mem {α : Type} [DecidableEq α] {f : α → PV} (h : ∀ x y, eqP (f x) (f y) = decide (x = y)) (x : α) (ys : List α) : ((ys.map f).any fun y => eqP y (f x)) = decide (x ∈ ys) := by
  induction ys with
  | nil => rfl
  | cons y ys ih =>
    rw [List.map_cons, List.any_cons, ih, h]
    have k : (decide (y = x) || decide (x ∈ ys)) = decide (x ∈ y :: ys) := by
      by_cases e : y = x
      · subst e
        simp
      · by_cases m : x ∈ ys
        · simp [m]
        · have e2 : ¬ x = y := fun z => e z.symm
          simp [m, e, e2]
    exact k
/-! loops over plain data -/
theorem lc_typed {α : Type} {f : PV → M (List PV)} {enc : α → PV} {g : α → List PV} {s : AS} : ∀ (ys : List α) (acc : List PV), (∀ y ∈ ys, f (enc y) s = .ok (g y) s) → lcGo f (ys.map enc) acc s = .ok (acc ++ ys.flatMap g) s
  | [], acc, _ => by simp [lcGo, ret]
  | y :: ys, acc, h => by
    rw [List.map_cons, lcGo, bnd_ok (h y (by simp)), lc_typed ys _ (fun z hz => h z (by simp [hz]))]
    simp [List.append_assoc]
theorem flatMap_one {α β : Type} (f : α → β) (xs : List α) : xs.flatMap (fun x => [f x]) = xs.map f := by
  induction xs with
  | nil => rfl
  | cons x xs ih => simp [ih]
theorem flatMap_if {α β : Type} (p : α → Bool) (f : α → β) (xs : List α) : xs.flatMap (fun x => if p x then [f x] else []) = (xs.filter p).map f := by
  induction xs with
  | nil => rfl
  | cons x xs ih =>
    rw [List.flatMap_cons, ih, List.filter_cons]
    cases p x <;> simp
theorem noExc_ok {α : Type} {x : M α} {s s' : AS} {a : α} (h : x s = .ok a s') : noExc x s = .ok a s' := by
  unfold noExc
  rw [h]
theorem finL_ok {ys : List PV} {s : AS} (h : ys.length ≤ LIM) : finL ys s = .ok (.lst ys) s := by
  unfold finL
  rw [if_pos h]
  rfl
theorem tst_ok {α : Type} {x : M PV} {f : Bool → M α} {s s' : AS} {b : Bool} (h : x s = .ok (.bl b) s') : tst x f s = f b s' := by
  unfold tst
  refine bnd_ok ?_
  unfold tb
  rw [bnd_ok h]
  rfl
section
variable {G : List Den} {GV : List (Str × Nat × Den)} {C : List PV} {s : AS} {r : Fm}
/-- a comprehension over plain data -/
theorem ev_lc {α : Type} {e c : E} {t : Tg} {it : It} {vs : List Nat} {enc : α → PV} {ys : List α} {o : Bool} (p : α → Bool) (f : α → PV) (r2 : α → Fm) (hi : denIt G GV C it true r s = .ok (ys.map enc) s)
    (hb : ∀ y ∈ ys, bindT t (enc y) (r.wipe vs) = some (r2 y)) (hc : ∀ y ∈ ys, den G GV C c false (r2 y) s = .ok (.bl (p y)) s) (he : ∀ y ∈ ys, p y = true → den G GV C e false (r2 y) s = .ok (f y) s) (hl : ys.length ≤ LIM) :
    den G GV C (.lc e t it c vs) o r s = .ok (.lst ((ys.filter p).map f)) s := by
  rw [den, bnd_ok hi]
  refine noExc_ok ?_
  have key := lc_typed (f := fun x => bnd (opt (bindT t x (r.wipe vs))) fun r2 => tst (den G GV C c false r2) fun k => if k then bnd (den G GV C e false r2) fun y => ret [y] else ret []) (enc := enc) (g := fun y => if p y then [f y] else []) (s := s) ys [] (fun y hy => by
    rw [hb y hy]
    show tst (den G GV C c false (r2 y)) _ s = _
    rw [tst_ok (hc y hy)]
    cases q : p y with
    | false => rfl
    | true =>
      show bnd (den G GV C e false (r2 y)) (fun y => ret [y]) s = _
      rw [bnd_ok (he y hy q)]
      rfl)
  rw [List.nil_append, flatMap_if] at key
  rw [bnd_ok key]
  refine finL_ok ?_
  rw [List.length_map]
  exact Nat.le_trans (List.length_filter_le _ _) hl
end
end RP

/-! Sm2: a pass. Own work. -/
namespace RP
open PySem
theorem at_nat {xs : List PV} {k : Nat} (h : k < xs.length) : at' xs (k : Int) = xs[k]? := by
  unfold at' nrm
  rw [if_pos (by omega), if_pos (by omega)]
  rfl
theorem at_map {α : Type} {f : α → PV} {xs : List α} {k : Nat} (h : k < xs.length) : at' (xs.map f) (k : Int) = some (f xs[k]) := by
  rw [at_nat (by simpa using h)]
  simp [h]
theorem ix_tup {α : Type} {f : α → PV} {xs : List α} {k : Nat} {s : AS} (h : k < xs.length) : ixP s (.tup (xs.map f)) (.int (k : Int)) = some (f xs[k]) := at_map h
theorem ix_lst {α : Type} {f : α → PV} {xs : List α} {k : Nat} {s : AS} (h : k < xs.length) : ixP s (.lst (xs.map f)) (.int (k : Int)) = some (f xs[k]) := at_map h
theorem ix_s {st : Sd} {k : Nat} {s : AS} (h : k < st.length) : ixP s (sP st) (.int (k : Int)) = some (lP st[k]) := at_map h
theorem ix_t0 {t : Tk} {s : AS} : ixP s (tP t) (.int 0) = some (.tup (t.ks.map kP)) := rfl
theorem ix_t1 {t : Tk} {s : AS} : ixP s (tP t) (.int 1) = some (.tup (t.js.map jP)) := rfl
theorem ix_p0 {p : Pl} {s : AS} : ixP s (pP p) (.int 0) = some (eP p.1) := rfl
theorem ix_p1 {p : Pl} {s : AS} : ixP s (pP p) (.int 1) = some (sP p.2) := rfl
theorem ix_e0 {e : En} {s : AS} : ixP s (eP e) (.int 0) = some (.int e.1) := rfl
theorem ix_e1 {e : En} {s : AS} : ixP s (eP e) (.int 1) = some (lP e.2) := rfl
/-! put, other_leg -/
theorem put_list {st : Sd} {p : Nat} {l : Lg} (h : p < st.length) : st.take p ++ [l] ++ st.drop (p + 1) = st.set p l := by
  rw [List.set_eq_take_append_cons_drop, if_pos h]
  simp
theorem clip_nat {n k : Nat} (h : k ≤ n) : clip n (k : Int) = k := by
  unfold clip
  rw [if_neg (by omega)]
  show min (Int.toNat (k : Int)) n = k
  rw [Int.toNat_natCast]
  omega
theorem slHi_s {st : Sd} {p : Nat} (h : p ≤ st.length) : slHiP (sP st) (.int (p : Int)) = some (sP (st.take p)) := by
  show some (PV.tup ((st.map lP).take (clip (st.map lP).length (p : Int)))) = _
  rw [clip_nat (by simpa using h)]
  unfold sP
  rw [List.map_take]
theorem slLo_s {st : Sd} {p : Nat} (h : p ≤ st.length) : slLoP (sP st) (.int (p : Int)) = some (sP (st.drop p)) := by
  show some (PV.tup ((st.map lP).drop (clip (st.map lP).length (p : Int)))) = _
  rw [clip_nat (by simpa using h)]
  unfold sP
  rw [List.map_drop]
theorem add_s {x y : Sd} (h : x.length + y.length ≤ 1000) : binP .add (sP x) (sP y) = some (sP (x ++ y)) := by
  show (if (x.map lP).length + (y.map lP).length ≤ LIM then some (PV.tup (x.map lP ++ y.map lP)) else none) = _
  rw [if_pos (by rw [List.length_map, List.length_map]; unfold LIM; omega)]
  unfold sP
  rw [List.map_append]
theorem one_s (l : Lg) : PV.tup [lP l] = sP [l] := rfl
theorem put_ok {st : Sd} {p : Nat} {l : Lg} {s : AS} (h : p < st.length) (h2 : st.length ≤ 100) : d_put [sP st, .int (p : Int), lP l] s = .ok (sP (st.set p l)) s := by
  have e1 := slHi_s (st := st) (p := p) (by omega)
  have e2 : slLoP (sP st) (.int ((p : Int) + 1)) = some (sP (st.drop (p + 1))) := slLo_s (st := st) (p := p + 1) (by omega)
  have e5 : binP .add (.int (p : Int)) (.int 1) = some (.int ((p : Int) + 1)) := rfl
  obtain ⟨AB, e3, e4⟩ : ∃ AB, binP .add (sP (st.take p)) (.tup [lP l]) = some AB ∧ binP .add AB (sP (st.drop (p + 1))) = some (sP (st.set p l)) := by
    refine ⟨_, add_s (x := st.take p) (y := [l]) (by simp; omega), ?_⟩
    have e4 := add_s (x := st.take p ++ [l]) (y := st.drop (p + 1)) (by simp; omega)
    rw [put_list h] at e4
    exact e4
  generalize sP (st.take p) = A at *
  generalize sP (st.drop (p + 1)) = B at *
  generalize sP (st.set p l) = D at *
  simp [d_put, run, ir_put, denSs, denS, den, denEs, Fm.get, bnd, ret, opt, Res.andThen, endOf, e1, e2, e3, e4, e5]
theorem ot_lit (l : Lg) : litP [("b", "c"), ("c", "b")] "a" (lP l) = some (lP l.ot) := by cases l <;> rfl
theorem other_ok {l : Lg} {s : AS} : d_other_leg [lP l] s = .ok (lP l.ot) s := by
  simp only [d_other_leg, run, ir_other_leg, denSs, denS, den, denEs, Fm.get, bnd, ret, opt, Res.andThen, endOf, List.map, List.length, List.replicate, List.append, HAppend.hAppend, Append.append, List.getElem?_cons_zero, List.getElem?_cons_succ, ot_lit]
/-! over -/
def us (e : En) (st : Sd) : Lg := if e.2 = .a then st.getD e.1 .a else e.2
def Tk.ov (t : Tk) (e : En) (st : Sd) : En × Sd := ((e.1, if e.2 = .a then us e st else .a), match t.ks.getD e.1 .lz with
  | .lz => st.set e.1 (us e st)
  | .tu => st.set e.1 (us e st).ot
  | .sp => st)
theorem cmp_k (k k' : Kd) : cmpP .eq (kP k) (kP k') = some (decide (k = k')) := cmp_eq (dat_k _ _) (dat_k _ _) (eqP_k k k')
theorem cmp_l (k k' : Lg) : cmpP .eq (lP k) (lP k') = some (decide (k = k')) := cmp_eq (dat_l _ _) (dat_l _ _) (eqP_l k k')
theorem cmp_lne (k k' : Lg) : cmpP .ne (lP k) (lP k') = some (!decide (k = k')) := cmp_ne (dat_l _ _) (dat_l _ _) (eqP_l k k')
theorem str_a : PV.str "a" = lP .a := rfl
theorem str_b : PV.str "b" = lP .b := rfl
theorem str_c : PV.str "c" = lP .c := rfl
theorem str_lz : PV.str "lazy" = kP .lz := rfl
theorem str_sp : PV.str "sprung" = kP .sp := rfl
theorem str_tu : PV.str "turning" = kP .tu := rfl
theorem bndN_e {i j : Nat} {p : Nat} {l : Lg} {r : Fm} : bndN [i, j] (eP (p, l)) r = some ((r.set i (.sh (.int p))).set j (.sh (lP l))) := rfl
theorem tup_e (p : Nat) (l : Lg) : PV.tup [.int (p : Int), lP l] = eP (p, l) := rfl
theorem over_ok {t : Tk} {e : En} {st : Sd} {s : AS} (h1 : e.1 < t.n) (h2 : st.length = t.n) (h3 : t.n ≤ 3) : d_over [tP t, eP e, sP st] s = .ok (.tup [eP (t.ov e st).1, sP (t.ov e st).2]) s := by
  obtain ⟨p, l⟩ := e
  have hk : p < t.ks.length := h1
  have hs : p < st.length := by omega
  have gk : t.ks.getD p .lz = t.ks[p] := by simp [hk]
  have gs : st.getD p .a = st[p] := by simp [hs]
  have pu : ∀ l : Lg, d_put [sP st, .int (p : Int), lP l] s = .ok (sP (st.set p l)) s := fun l => put_ok hs (by omega)
  unfold Tk.ov us
  dsimp only
  rw [gk, gs]
  cases q : t.ks[p] <;> cases l <;> simp [d_over, run, ir_over, denSs, denS, den, denEs, getFn, Fm.get, bnd, ret, opt, Res.andThen, endOf, tst, tb, truth, bndN_e, str_a, str_lz, str_tu, ix_t0, ix_tup hk, ix_s hs, cmp_k, cmp_l, q, pu, other_ok, tup_e]
end RP

/-! Sm3: stretches, steps, turnings. Own work. -/
namespace RP
open PySem
def hasE (e : En) (j : Jt) : Bool := decide (j.e = e) || decide (j.o = some e)
def en (n : Nat) : List Jt → List (Nat × Jt)
  | [] => []
  | j :: js => (n, j) :: en (n + 1) js
def qP (q : Nat × Jt) : PV := .tup [.int q.1, jP q.2]
theorem enumP_en : ∀ (js : List Jt) (n : Nat), enumP n (js.map jP) = (en n js).map qP
  | [], _ => rfl
  | j :: js, n => by
    rw [List.map_cons, enumP, enumP_en js (n + 1)]
    rfl
theorem en_length : ∀ (js : List Jt) (n : Nat), (en n js).length = js.length
  | [], _ => rfl
  | j :: js, n => by rw [en, List.length_cons, List.length_cons, en_length js]
theorem en_head (e : En) : ∀ (js : List Jt) (n : Nat), (∃ j ∈ js, hasE e j = true) → (((en n js).filter fun q => hasE e q.2).map fun q => PV.int q.1)[0]? = some (.int ((n + js.findIdx (hasE e) : Nat) : Int))
  | [], _, h => by obtain ⟨_, h, _⟩ := h; cases h
  | j :: js, n, h => by
    rw [en, List.filter_cons, List.findIdx_cons]
    cases q : hasE e j with
    | true => simp [q]
    | false =>
      have h' : ∃ j ∈ js, hasE e j = true := by
        obtain ⟨x, hx, hq⟩ := h
        rcases List.mem_cons.mp hx with z | z
        · rw [z, q] at hq; cases hq
        · exact ⟨x, z, hq⟩
      have := en_head e js (n + 1) h'
      simp only [q, cond_false]
      rw [if_neg (by simp)]
      rw [this]
      congr 2
      omega
def Tk.idx (t : Tk) (e : En) : Nat := t.js.findIdx (hasE e)
theorem eqP_o (o : Option En) (e : En) : eqP (oP o) (eP e) = decide (o = some e) := by
  cases o with
  | none => rfl
  | some x =>
    show eqP (eP x) (eP e) = _
    rw [eqP_e]
    by_cases h : x = e
    · rw [decide_eq_true h, decide_eq_true (by rw [h])]
    · rw [decide_eq_false h, decide_eq_false (fun z => h (by cases z; rfl))]
theorem isin_j (e : En) (j : Jt) : cmpP .isin (eP e) (.tup [eP j.e, oP j.o]) = some (hasE e j) := by
  rw [cmp_isinT (dat_e _ _) (by unfold datS; simp [dats, dat_e, dat_o, DEP])]
  show some (eqP (eP j.e) (eP e) || (eqP (oP j.o) (eP e) || false)) = _
  rw [eqP_e, eqP_o, Bool.or_false]
  rfl
theorem index_ok {t : Tk} {e : En} {s : AS} (h : ∃ j ∈ t.js, hasE e j = true) (hl : t.js.length ≤ 1000) : d_index_of [tP t, eP e] s = .ok (.int (t.idx e)) s := by
  have L : den [] [] [] (.lc (.var 2) (.tup [2, 3]) (.enum (.ix (.var 0) (.int 1))) (.cmp .isin (.var 1) (.slHi (.var 3) (.int 2))) [2, 3]) true [.sh (tP t), .sh (eP e), .no, .no] s = .ok (.lst (((en 0 t.js).filter fun q => hasE e q.2).map fun q => PV.int q.1)) s := by
    refine ev_lc (enc := qP) (fun q => hasE e q.2) (fun q => PV.int q.1) (fun q => [.sh (tP t), .sh (eP e), .sh (.int q.1), .sh (jP q.2)]) ?_ (fun q _ => rfl) (fun q _ => ?_) (fun q _ _ => rfl) (by rw [en_length]; unfold LIM; omega)
    · show opt (some (enumP 0 (t.js.map jP))) s = _
      rw [enumP_en]
      rfl
    · show opt ((cmpP .isin (eP e) (.tup [eP q.2.e, oP q.2.o])).map PV.bl) s = _
      rw [isin_j]
      rfl
  have D : den [] [] [] (.ix (.lc (.var 2) (.tup [2, 3]) (.enum (.ix (.var 0) (.int 1))) (.cmp .isin (.var 1) (.slHi (.var 3) (.int 2))) [2, 3]) (.int 0)) false [.sh (tP t), .sh (eP e), .no, .no] s = .ok (.int (t.idx e)) s := by
    rw [den, bnd_ok L]
    show opt (at' (((en 0 t.js).filter fun q => hasE e q.2).map fun q => PV.int q.1) ((0 : Nat) : Int)) s = _
    have z := en_head e t.js 0 h
    have zl : 0 < (((en 0 t.js).filter fun q => hasE e q.2).map fun q => PV.int q.1).length := (List.getElem?_eq_some_iff.mp z).1
    rw [at_nat zl, z, Nat.zero_add]
    rfl
  have z : denSs [] [] [] ir_index_of [.sh (tP t), .sh (eP e), .no, .no] s = .ok (.rt (.int (t.idx e))) s := by
    unfold ir_index_of
    rw [denSs]
    have : denS [] [] [] (.retE (.ix (.lc (.var 2) (.tup [2, 3]) (.enum (.ix (.var 0) (.int 1))) (.cmp .isin (.var 1) (.slHi (.var 3) (.int 2))) [2, 3]) (.int 0))) [.sh (tP t), .sh (eP e), .no, .no] s = .ok (.rt (.int (t.idx e))) s := by
      rw [denS, bnd_ok D]
      rfl
    rw [bnd_ok this]
    rfl
  unfold d_index_of run
  exact bnd_ok z
/-! along -/
def Jt.to (j : Jt) (e : En) : En := match j.o with
  | none => e
  | some o => if e = j.e then o else j.e
def Jt.tk (j : Jt) : Nat := match j.o with
  | none => 2 * j.l
  | some _ => j.l
def Tk.jt (t : Tk) (i : Nat) : Jt := t.js.getD i ⟨(0, .a), none, 1⟩
def Tk.to (t : Tk) (e : En) : En := (t.jt (t.idx e)).to e
def Tk.tk (t : Tk) (e : En) : Nat := (t.jt (t.idx e)).tk
theorem idx_lt {t : Tk} {e : En} (h : ∃ j ∈ t.js, hasE e j = true) : t.idx e < t.js.length := List.findIdx_lt_length.mpr (by
  obtain ⟨j, h1, h2⟩ := h
  exact ⟨j, h1, h2⟩)
theorem bndN_j {i j k : Nat} {x : Jt} {r : Fm} : bndN [i, j, k] (jP x) r = some (((r.set i (.sh (eP x.e))).set j (.sh (oP x.o))).set k (.sh (.int x.l))) := rfl
theorem wide_l {l : Nat} (h : l ≤ 100) : wide (l : Int) = true := by
  have h2 : (101 : Nat) ≤ 2 ^ 4096 := by decide +kernel
  exact decide_eq_true (by show ((l : Int)).natAbs < 2 ^ 4096; rw [Int.natAbs_natCast]; omega)
theorem cmp_e (k k' : En) : cmpP .eq (eP k) (eP k') = some (decide (k = k')) := cmp_eq (dat_e _ _) (dat_e _ _) (eqP_e k k')
theorem nonP_e (e : En) : isNonP (eP e) = false := rfl
theorem along_ok {t : Tk} {e : En} {s : AS} (h : ∃ j ∈ t.js, hasE e j = true) (hl : t.js.length ≤ 1000) (hj : ∀ j ∈ t.js, j.l ≤ 2) : d_along [tP t, eP e] s = .ok (.tup [.int (t.idx e), eP (t.to e), .int (t.tk e)]) s := by
  have i1 := index_ok (s := s) h hl
  have i2 := idx_lt h
  have gj : t.jt (t.idx e) = t.js[t.idx e] := by unfold Tk.jt; simp [i2]
  have lj := hj _ (List.getElem_mem i2)
  have w1 := wide_l (l := (t.js[t.idx e]).l) (by omega)
  have w2 : wide 2 = true := wide_l (l := 2) (by omega)
  unfold Tk.to Tk.tk
  rw [gj]
  have e1 := ix_tup (f := jP) (s := s) i2
  generalize t.js[t.idx e] = j at *
  obtain ⟨je, jo, jl⟩ := j
  cases jo with
  | none => simp [d_along, run, ir_along, denSs, denS, den, denEs, getFn, Fm.get, bnd, ret, opt, Res.andThen, endOf, tst, tb, truth, ix_t1, i1, e1, bndN_j, isNonP, oP, binP, w1, w2, Jt.to, Jt.tk]
  | some o =>
    by_cases q : e = je
    · subst q
      simp [d_along, run, ir_along, denSs, denS, den, denEs, getFn, Fm.get, bnd, ret, opt, Res.andThen, endOf, tst, tb, truth, ix_t1, i1, e1, bndN_j, nonP_e, oP, binP, w1, w2, Jt.to, Jt.tk, cmp_e]
    · simp [d_along, run, ir_along, denSs, denS, den, denEs, getFn, Fm.get, bnd, ret, opt, Res.andThen, endOf, tst, tb, truth, ix_t1, i1, e1, bndN_j, nonP_e, oP, binP, w1, w2, Jt.to, Jt.tk, cmp_e, q]
/-! a step -/
def Tk.st (t : Tk) (p : Pl) : Pl := (t.to (t.ov p.1 p.2).1, (t.ov p.1 p.2).2)
def Tk.si (t : Tk) (p : Pl) : Nat := t.idx (t.ov p.1 p.2).1
def Tk.sk (t : Tk) (p : Pl) : Nat := t.tk (t.ov p.1 p.2).1
/-- a track that holds together -/
structure VT (t : Tk) : Prop where
  n1 : 1 ≤ t.n
  n3 : t.n ≤ 3
  jl : t.js.length ≤ 1000
  j0 : 1 ≤ t.js.length
  len : ∀ j ∈ t.js, 1 ≤ j.l ∧ j.l ≤ 2
  inn : ∀ j ∈ t.js, j.e.1 < t.n ∧ ∀ o, j.o = some o → o.1 < t.n
  has : ∀ e : En, e.1 < t.n → ∃ j ∈ t.js, hasE e j = true
/-- a place of the track -/
structure PlOk (t : Tk) (p : Pl) : Prop where
  e : p.1.1 < t.n
  s : p.2.length = t.n
  l : ∀ x ∈ p.2, x ≠ .a
theorem bndN_2 {i j : Nat} {x y : PV} {r : Fm} : bndN [i, j] (.tup [x, y]) r = some ((r.set i (.sh x)).set j (.sh y)) := rfl
theorem bndN_3 {i j k : Nat} {x y z : PV} {r : Fm} : bndN [i, j, k] (.tup [x, y, z]) r = some (((r.set i (.sh x)).set j (.sh y)).set k (.sh z)) := rfl
theorem bndN_p {i j : Nat} {p : Pl} {r : Fm} : bndN [i, j] (pP p) r = some ((r.set i (.sh (eP p.1))).set j (.sh (sP p.2))) := rfl
theorem tup_p (e : En) (st : Sd) : PV.tup [eP e, sP st] = pP (e, st) := rfl
theorem ov_lt {t : Tk} {e : En} {st : Sd} (h : e.1 < t.n) : (t.ov e st).1.1 < t.n := h
theorem step_ok {t : Tk} {p : Pl} {s : AS} (V : VT t) (h : PlOk t p) : d_step [tP t, pP p] s = .ok (.tup [pP (t.st p), .int (t.si p), .int (t.sk p)]) s := by
  obtain ⟨e, st⟩ := p
  have o : d_over [tP t, eP e, sP st] s = .ok (.tup [eP (t.ov e st).1, sP (t.ov e st).2]) s := over_ok (s := s) h.e h.s V.n3
  have a := along_ok (s := s) (V.has (t.ov e st).1 (ov_lt h.e)) V.jl (fun j hj => (V.len j hj).2)
  unfold Tk.st Tk.si Tk.sk
  simp [d_step, run, ir_step, denSs, denS, den, denEs, getFn, Fm.get, bnd, ret, opt, Res.andThen, endOf, ix_p0, ix_p1, o, a, bndN_p, bndN_3, tup_p]
theorem us_ne {t : Tk} {e : En} {st : Sd} (h : PlOk t (e, st)) : us e st ≠ .a := by
  have hs : e.1 < st.length := by
    have h1 := h.s
    have h2 := h.e
    simp only at h1 h2
    omega
  unfold us
  by_cases q : e.2 = .a
  · rw [if_pos q]
    have : st.getD e.1 .a = st[e.1] := by simp [hs]
    rw [this]
    exact h.l _ (List.getElem_mem hs)
  · rw [if_neg q]
    exact q
theorem ot_ne {l : Lg} (h : l ≠ .a) : l.ot ≠ .a := by cases l <;> simp_all [Lg.ot]
theorem set_ne {st : Sd} {k : Nat} {l : Lg} (h : ∀ x ∈ st, x ≠ Lg.a) (hl : l ≠ .a) : ∀ x ∈ st.set k l, x ≠ Lg.a := by
  intro x hx
  rcases List.mem_or_eq_of_mem_set hx with z | z
  · exact h x z
  · rw [z]; exact hl
theorem ov_sd {t : Tk} {e : En} {st : Sd} (h : PlOk t (e, st)) : (t.ov e st).2.length = t.n ∧ ∀ x ∈ (t.ov e st).2, x ≠ Lg.a := by
  have u := us_ne h
  have hs : st.length = t.n := h.s
  unfold Tk.ov
  dsimp only
  cases t.ks.getD e.1 .lz with
  | lz => exact ⟨by rw [List.length_set]; exact hs, set_ne h.l u⟩
  | tu => exact ⟨by rw [List.length_set]; exact hs, set_ne h.l (ot_ne u)⟩
  | sp => exact ⟨hs, h.l⟩
theorem to_lt {t : Tk} {e : En} (V : VT t) (h : e.1 < t.n) : (t.to e).1 < t.n := by
  have i2 := idx_lt (V.has e h)
  have gj : t.jt (t.idx e) = t.js[t.idx e] := by unfold Tk.jt; simp [i2]
  unfold Tk.to
  rw [gj]
  have k := V.inn _ (List.getElem_mem i2)
  unfold Jt.to
  cases q : (t.js[t.idx e]).o with
  | none => exact h
  | some o =>
    dsimp only
    by_cases z : e = (t.js[t.idx e]).e
    · rw [if_pos z]; exact k.2 o q
    · rw [if_neg z]; exact k.1
theorem step_pl {t : Tk} {p : Pl} (V : VT t) (h : PlOk t p) : PlOk t (t.st p) := ⟨to_lt V (ov_lt h.e), (ov_sd (e := p.1) (st := p.2) h).1, (ov_sd (e := p.1) (st := p.2) h).2⟩
theorem si_lt {t : Tk} {p : Pl} (V : VT t) (h : PlOk t p) : t.si p < t.js.length := idx_lt (V.has _ (ov_lt h.e))
/-! turned, choices -/
def tu (p : Pl) (k : Nat) : Pl := (p.1, p.2.set k (p.2.getD k .a).ot)
end RP

/-! Sm4: all ends, standings, places; a track is a track. Own work. -/
namespace RP
open PySem
def allE (n : Nat) : List En := (List.range n).flatMap fun p => [(p, .a), (p, .b), (p, .c)]
def allS : Nat → List Sd
  | 0 => [[]]
  | n + 1 => (allS n).flatMap fun x => [x ++ [.b], x ++ [.c]]
def allP (n : Nat) : List Pl := (allE n).flatMap fun e => (allS n).map fun st => (e, st)
theorem ks_cases {t : Tk} (h1 : 1 ≤ t.n) (h3 : t.n ≤ 3) : (∃ a, t.ks = [a]) ∨ (∃ a b, t.ks = [a, b]) ∨ ∃ a b c, t.ks = [a, b, c] := by
  unfold Tk.n at h1 h3
  match h : t.ks with
  | [] => rw [h] at h1; simp at h1
  | [a] => exact .inl ⟨a, rfl⟩
  | [a, b] => exact .inr (.inl ⟨a, b, rfl⟩)
  | [a, b, c] => exact .inr (.inr ⟨a, b, c, rfl⟩)
  | _ :: _ :: _ :: _ :: _ => rw [h] at h3; simp at h3
theorem allEnds_ok : ∀ n : Nat, n ≤ 3 → ∀ s, d_all_ends [.int n] s = .ok (.lst ((allE n).map eP)) s
  | 0, _, s => by kernel_rfl
  | 1, _, s => by kernel_rfl
  | 2, _, s => by kernel_rfl
  | 3, _, s => by kernel_rfl
  | n + 4, h, s => absurd h (by omega)
theorem lawEnds_ok : ∀ n : Nat, n ≤ 3 → ∀ s, d__law_ends [.int n] s = .ok (.lst ((allE n).map eP)) s
  | 0, _, s => by kernel_rfl
  | 1, _, s => by kernel_rfl
  | 2, _, s => by kernel_rfl
  | 3, _, s => by kernel_rfl
  | n + 4, h, s => absurd h (by omega)
theorem mem_allE {n : Nat} {e : En} : e ∈ allE n ↔ e.1 < n := by
  obtain ⟨p, l⟩ := e
  unfold allE
  rw [List.mem_flatMap]
  constructor
  · rintro ⟨q, hq, h⟩
    have hq := List.mem_range.mp hq
    simp only [List.mem_cons, List.not_mem_nil, or_false, Prod.mk.injEq] at h
    rcases h with ⟨e, _⟩ | ⟨e, _⟩ | ⟨e, _⟩ <;> (show p < n; omega)
  · intro h
    refine ⟨p, List.mem_range.mpr h, ?_⟩
    cases l <;> simp
theorem mem_allS : ∀ {n : Nat} {st : Sd}, st ∈ allS n ↔ st.length = n ∧ ∀ x ∈ st, x ≠ Lg.a
  | 0, st => by
    unfold allS
    rw [List.mem_singleton]
    constructor
    · intro h; subst h; exact ⟨rfl, fun x hx => nomatch hx⟩
    · intro h; exact List.eq_nil_of_length_eq_zero h.1
  | n + 1, st => by
    unfold allS
    rw [List.mem_flatMap]
    constructor
    · rintro ⟨x, hx, h⟩
      obtain ⟨h1, h2⟩ := mem_allS.mp hx
      simp only [List.mem_cons, List.not_mem_nil, or_false] at h
      rcases h with h | h <;> subst h <;> refine ⟨by simp [h1], fun y hy => ?_⟩ <;> rcases List.mem_append.mp hy with z | z
      · exact h2 y z
      · simp at z; subst z; decide
      · exact h2 y z
      · simp at z; subst z; decide
    · rintro ⟨h1, h2⟩
      have hne : st ≠ [] := by intro z; rw [z] at h1; simp at h1
      have e := List.dropLast_concat_getLast hne
      refine ⟨st.dropLast, mem_allS.mpr ⟨by rw [List.length_dropLast]; omega, fun x hx => h2 x ((List.dropLast_sublist st).subset hx)⟩, ?_⟩
      have hl := h2 _ (List.getLast_mem hne)
      cases q : st.getLast hne with
      | a => exact absurd q hl
      | b => rw [q] at e; simp [e]
      | c => rw [q] at e; simp [e]
theorem mem_allP {t : Tk} {p : Pl} : p ∈ allP t.n ↔ PlOk t p := by
  unfold allP
  rw [List.mem_flatMap]
  constructor
  · rintro ⟨e, he, h⟩
    obtain ⟨st, hs, rfl⟩ := List.mem_map.mp h
    obtain ⟨h1, h2⟩ := mem_allS.mp hs
    exact ⟨mem_allE.mp he, h1, h2⟩
  · intro h
    exact ⟨p.1, mem_allE.mpr h.e, List.mem_map.mpr ⟨p.2, mem_allS.mpr ⟨h.s, h.l⟩, rfl⟩⟩
theorem allP_len : ∀ n : Nat, n ≤ 3 → (allP n).length ≤ 72
  | 0, _ => by decide +kernel
  | 1, _ => by decide +kernel
  | 2, _ => by decide +kernel
  | 3, _ => by decide +kernel
  | n + 4, h => absurd h (by omega)
/-! order of ends -/
def er (e : En) : Nat := 3 * e.1 + e.2.n
theorem lg_lt (l : Lg) : l.n < 3 := by cases l <;> decide
theorem er_inj {x y : En} (h : er x = er y) : x = y := by
  obtain ⟨p, l⟩ := x
  obtain ⟨q, m⟩ := y
  have h1 := lg_lt l
  have h2 := lg_lt m
  unfold er at h
  dsimp only at h
  have e1 : p = q := by omega
  have e2 : l.n = m.n := by omega
  subst e1
  cases l <;> cases m <;> first | rfl | cases e2
theorem lt_l (x y : Lg) : ltP (lP x) (lP y) = some (decide (x.n < y.n)) := by cases x <;> cases y <;> decide +kernel
theorem lt_e (x y : En) : ltP (eP x) (eP y) = some (decide (er x < er y)) := by
  obtain ⟨p, l⟩ := x
  obtain ⟨q, m⟩ := y
  have h1 := lg_lt l
  have h2 := lg_lt m
  have a : ltPs [lP l] [lP m] = some (decide (l.n < m.n)) := by
    show (if eqP (lP l) (lP m) then some false else ltP (lP l) (lP m)) = _
    rw [eqP_l, lt_l]
    by_cases z : l = m
    · subst z; simp
    · rw [if_neg (by simpa using z)]
  show (match ltPs [lP l] [lP m] with
    | none => none
    | some k => if eqP (.int (p : Int)) (.int (q : Int)) then some k else ltP (.int (p : Int)) (.int (q : Int))) = _
  rw [a]
  show (if decide ((p : Int) = (q : Int)) then some (decide (l.n < m.n)) else some (decide ((p : Int) < (q : Int)))) = _
  unfold er
  dsimp only
  by_cases z : (p : Int) = (q : Int)
  · rw [if_pos (decide_eq_true z)]
    congr 1
    exact decide_eq_decide.mpr (by omega)
  · rw [if_neg (by simpa using z)]
    congr 1
    exact decide_eq_decide.mpr (by omega)
theorem cmp_lte (x y : En) : cmpP .lt (eP x) (eP y) = some (decide (er x < er y)) := cmp_lt (dat_e _ _) (dat_e _ _) (lt_e x y)
def insE (x : En) : List En → List En
  | [] => [x]
  | y :: ys => if er y < er x then y :: insE x ys else x :: y :: ys
def srt : List En → List En
  | [] => []
  | x :: xs => insE x (srt xs)
theorem insP_e (x : En) : ∀ ys : List En, insP (eP x) (ys.map eP) = some ((insE x ys).map eP)
  | [] => rfl
  | y :: ys => by
    rw [List.map_cons, insP, lt_e]
    by_cases h : er y < er x
    · rw [decide_eq_true h, insE, if_pos h]
      simp only
      rw [insP_e x ys]
      rfl
    · rw [decide_eq_false h, insE, if_neg h]
      rfl
theorem sortP_e : ∀ xs : List En, sortP (xs.map eP) = some ((srt xs).map eP)
  | [] => rfl
  | x :: xs => by
    rw [List.map_cons, sortP, sortP_e xs]
    exact insP_e x (srt xs)
theorem mem_insE {x z : En} : ∀ {ys : List En}, z ∈ insE x ys ↔ z = x ∨ z ∈ ys
  | [] => by simp [insE]
  | y :: ys => by
    rw [insE]
    by_cases h : er y < er x
    · rw [if_pos h, List.mem_cons, mem_insE, List.mem_cons]
      constructor
      · rintro (a | a | a) <;> simp [a]
      · rintro (a | a | a) <;> simp [a]
    · rw [if_neg h]
      simp
theorem mem_srt {z : En} : ∀ {xs : List En}, z ∈ srt xs ↔ z ∈ xs
  | [] => by simp [srt]
  | x :: xs => by rw [srt, mem_insE, mem_srt, List.mem_cons]
theorem ins_sorted {x : En} : ∀ {ys : List En}, ys.Pairwise (fun a b => er a < er b) → (∀ y ∈ ys, y ≠ x) → (insE x ys).Pairwise (fun a b => er a < er b)
  | [], _, _ => by simp [insE]
  | y :: ys, h, hn => by
    rw [insE]
    have h := List.pairwise_cons.mp h
    by_cases q : er y < er x
    · rw [if_pos q]
      refine List.pairwise_cons.mpr ⟨fun z hz => ?_, ins_sorted h.2 fun z hz => hn z (by simp [hz])⟩
      rcases mem_insE.mp hz with e | e
      · rw [e]; exact q
      · exact h.1 z e
    · rw [if_neg q]
      have ne : er y ≠ er x := fun z => hn y (by simp) (er_inj z)
      refine List.pairwise_cons.mpr ⟨fun z hz => ?_, List.pairwise_cons.mpr h⟩
      rcases List.mem_cons.mp hz with e | e
      · rw [e]; omega
      · have := h.1 z e; omega
theorem srt_sorted : ∀ {xs : List En}, xs.Nodup → (srt xs).Pairwise (fun a b => er a < er b)
  | [], _ => by simp [srt]
  | x :: xs, h => by
    have h := List.nodup_cons.mp h
    exact ins_sorted (srt_sorted h.2) fun y hy e => h.1 (by rw [← e]; exact mem_srt.mp hy)
theorem sorted_eq : ∀ (l1 l2 : List En), l1.Pairwise (fun a b => er a < er b) → l2.Pairwise (fun a b => er a < er b) → (∀ x, x ∈ l1 ↔ x ∈ l2) → l1 = l2
  | [], [], _, _, _ => rfl
  | [], y :: ys, _, _, h => absurd ((h y).mpr (by simp)) (by simp)
  | x :: xs, [], _, _, h => absurd ((h x).mp (by simp)) (by simp)
  | x :: xs, y :: ys, h1, h2, h => by
    have h1 := List.pairwise_cons.mp h1
    have h2 := List.pairwise_cons.mp h2
    have e : x = y := by
      have a := (h x).mp (by simp)
      have b := (h y).mpr (by simp)
      rcases List.mem_cons.mp a with a | a
      · exact a
      · rcases List.mem_cons.mp b with b | b
        · exact b.symm
        · have p := h1.1 y b
          have q := h2.1 x a
          omega
    subst e
    congr 1
    refine sorted_eq xs ys h1.2 h2.2 fun z => ?_
    constructor
    · intro hz
      rcases List.mem_cons.mp ((h z).mp (by simp [hz])) with q | q
      · have := h1.1 z hz
        rw [q] at this
        omega
      · exact q
    · intro hz
      rcases List.mem_cons.mp ((h z).mpr (by simp [hz])) with q | q
      · have := h2.1 z hz
        rw [q] at this
        omega
      · exact q
theorem allE_sorted : ∀ n : Nat, n ≤ 3 → (allE n).Pairwise (fun a b => er a < er b)
  | 0, _ => by decide +kernel
  | 1, _ => by decide +kernel
  | 2, _ => by decide +kernel
  | 3, _ => by decide +kernel
  | n + 4, h => absurd h (by omega)
theorem srt_all {n : Nat} {xs : List En} (h3 : n ≤ 3) (hn : xs.Nodup) (hm : ∀ x, x ∈ xs ↔ x.1 < n) : srt xs = allE n :=
  sorted_eq _ _ (srt_sorted hn) (allE_sorted n h3) fun x => by rw [mem_srt, hm, mem_allE]
end RP

/-! Sm5: what is asked of tracks, ends, standings, stretches. Own work. -/
namespace RP
open PySem
theorem isInt_ok {i lo hi : Int} (h1 : lo ≤ i) (h2 : i ≤ hi) (s : AS) : d_is_int [.int i, .int lo, .int hi] s = .ok (.bl true) s := by
  simp [d_is_int, run, ir_is_int, denSs, denS, den, denEs, Fm.get, bnd, ret, opt, Res.andThen, endOf, tst, tb, truth, isTyP, isTy, cmpP, h1, h2]
theorem isLeg_ok (l : Lg) (s : AS) : d_is_word [lP l, .tup [.str "a", .str "b", .str "c"]] s = .ok (.bl true) s := by
  cases l <;> kernel_rfl
theorem isLeg2_ok {l : Lg} (h : l ≠ .a) (s : AS) : d_is_word [lP l, .tup [.str "b", .str "c"]] s = .ok (.bl true) s := by
  cases l with
  | a => exact absurd rfl h
  | b => kernel_rfl
  | c => kernel_rfl
theorem tyTup (xs : List PV) : isTyP .tuple (.tup xs) = some true := rfl
theorem isEnd_ok {e : En} {n : Nat} (h : e.1 < n) (s : AS) : d_is_end_of [.int n, eP e] s = .ok (.bl true) s := by
  have a := isInt_ok (i := (e.1 : Int)) (lo := 0) (hi := (n : Int) - 1) (by omega) (by omega) s
  have b := isLeg_ok e.2 s
  have c : cmpP .ne (.int 2) (.int 2) = some false := rfl
  have d : b1P .len (eP e) = some (.int 2) := rfl
  have t : isTyP .tuple (eP e) = some true := rfl
  simp [d_is_end_of, run, ir_is_end_of, denSs, denS, den, denEs, getFn, Fm.get, bnd, ret, opt, Res.andThen, endOf, tst, tb, truth, t, c, d, ix_e0, ix_e1, a, b, binP]
theorem ix_j0 {j : Jt} {s : AS} : ixP s (jP j) (.int 0) = some (eP j.e) := rfl
theorem ix_j1 {j : Jt} {s : AS} : ixP s (jP j) (.int 1) = some (oP j.o) := rfl
theorem ix_j2 {j : Jt} {s : AS} : ixP s (jP j) (.int 2) = some (.int j.l) := rfl
theorem isStretch_ok {j : Jt} {n : Nat} (h1 : j.e.1 < n) (h2 : 1 ≤ j.l ∧ j.l ≤ 2) (h3 : ∀ o, j.o = some o → o.1 < n ∧ er j.e < er o) (s : AS) : d_is_stretch [.int n, jP j] s = .ok (.bl true) s := by
  have a := isInt_ok (i := (j.l : Int)) (lo := 1) (hi := 2) (by omega) (by omega) s
  have b := isEnd_ok h1 s
  have c : cmpP .ne (.int 3) (.int 3) = some false := rfl
  have d : b1P .len (jP j) = some (.int 3) := rfl
  have t : isTyP .tuple (jP j) = some true := rfl
  cases q : j.o with
  | none =>
    have o : isNonP (oP none) = true := rfl
    simp [d_is_stretch, run, ir_is_stretch, denSs, denS, den, denEs, getFn, Fm.get, bnd, ret, opt, Res.andThen, endOf, tst, tb, truth, t, c, d, ix_j0, ix_j1, ix_j2, a, b, q, o]
  | some x =>
    obtain ⟨g1, g2⟩ := h3 x q
    have o : isNonP (oP (some x)) = false := rfl
    have o2 : oP (some x) = eP x := rfl
    have b2 := isEnd_ok g1 s
    have l := cmp_lte j.e x
    rw [decide_eq_true g2] at l
    simp [d_is_stretch, run, ir_is_stretch, denSs, denS, den, denEs, getFn, Fm.get, bnd, ret, opt, Res.andThen, endOf, tst, tb, truth, t, c, d, ix_j0, ix_j1, ix_j2, a, b, q, o2, nonP_e, b2, l]
/-! a track is a track -/
def Jt.es (j : Jt) : List En := j.e :: j.o.toList
structure VX (t : Tk) : Prop extends VT t where
  ord : t.js.Pairwise (fun x y => er x.e < er y.e)
  lo : ∀ j ∈ t.js, ∀ o, j.o = some o → er j.e < er o
  nd : (t.js.flatMap Jt.es).Nodup
  all : ∀ x, x ∈ t.js.flatMap Jt.es ↔ x.1 < t.n
theorem all_true {α : Type} (xs : List α) : b1P .all (.lst (xs.map fun _ => PV.bl true)) = some (.bl true) := by
  have h : boolsOf (xs.map fun _ => PV.bl true) = some (xs.map fun _ => true) := by
    induction xs with
    | nil => rfl
    | cons x xs ih => rw [List.map_cons, boolsOf, ih]; rfl
  show (boolsOf (xs.map fun _ => PV.bl true)).map _ = _
  rw [h]
  simp
theorem filter_true {α : Type} (xs : List α) : xs.filter (fun _ => true) = xs := by simp
abbrev GT : List Den := [d_ends_in, d_all_ends, d_is_stretch, d_is_word]
abbrev CT : List PV := [(.int 3), (.tup [(.str "lazy"), (.str "sprung"), (.str "turning")])]
def kS (t : Tk) : PV := .tup (t.ks.map kP)
def jS (t : Tk) : PV := .tup (t.js.map jP)
def itA : S := .ife (.or (.not (.isinst .tuple (.var 0))) (.or (.cmp .ne (.b1 .len (.var 0)) (.int 2)) (.not (.b1 .all (.lc (.isinst .tuple (.var 4)) (.nm 4) (.seq (.var 0)) (.bl true) [4]))))) (.cons (.retE (.bl false)) .nil) .nil
def itB : S := .ife (.or (.not (.chain .le .le (.int 1) (.b1 .len (.var 1)) (.gc 0))) (.not (.b1 .all (.lc (.call 3 (.cons (.var 5) (.cons (.gc 1) .nil))) (.nm 5) (.seq (.var 1)) (.bl true) [5])))) (.cons (.retE (.bl false)) .nil) .nil
def itCe : E := .lc (.call 2 (.cons (.b1 .len (.var 1)) (.cons (.var 3) .nil))) (.nm 3) (.seq (.var 2)) (.bl true) [3]
def itC : S := .ife (.not (.b1 .all itCe)) (.cons (.retE (.bl false)) .nil) .nil
def itDe : E := .lc (.cmp .lt (.ix (.var 3) (.int 0)) (.ix (.var 6) (.int 0))) (.tup [3, 6]) (.zip (.var 2) (.slLo (.var 2) (.int 1))) (.bl true) [3, 6]
def itD : S := .ife (.not (.b1 .all itDe)) (.cons (.retE (.bl false)) .nil) .nil
def itE : S := .retE (.cmp .eq (.b1 .sorted (.call 0 (.cons (.var 2) .nil))) (.call 1 (.cons (.b1 .len (.var 1)) .nil)))
theorem ir_is_track_eq : ir_is_track = .cons itA (.cons (.setT [1, 2] (.var 0)) (.cons itB (.cons itC (.cons itD (.cons itE .nil))))) := rfl
abbrev fT (t : Tk) : Fm := [.sh (tP t), .sh (kS t), .sh (jS t), .no, .no, .no, .no]
theorem it_a (t : Tk) (s : AS) : denS GT [] CT itA [.sh (tP t), .no, .no, .no, .no, .no, .no] s = .ok (.nx [.sh (tP t), .no, .no, .no, .no, .no, .no]) s := by kernel_rfl
theorem it_b {t : Tk} (h1 : 1 ≤ t.n) (h3 : t.n ≤ 3) (s : AS) : denS GT [] CT itB (fT t) s = .ok (.nx (fT t)) s := by
  obtain ⟨ks, js⟩ := t
  rcases ks_cases h1 h3 with ⟨a, h⟩ | ⟨a, b, h⟩ | ⟨a, b, c, h⟩ <;> (simp only at h; subst h)
  · cases a <;> kernel_rfl
  · cases a <;> cases b <;> kernel_rfl
  · cases a <;> cases b <;> cases c <;> kernel_rfl
/-- no return where the test holds -/
theorem ife_not {G : List Den} {C : List PV} {e : E} {b : Ss} {r : Fm} {s : AS} (h : den G [] C e false r s = .ok (.bl true) s) : denS G [] C (.ife (.not e) b .nil) r s = .ok (.nx r) s := by
  have : den G [] C (.not e) false r s = .ok (.bl false) s := by
    rw [den, tst_ok h]
    rfl
  rw [denS, tst_ok this]
  rfl
theorem all_of {G : List Den} {C : List PV} {e : E} {α : Type} {xs : List α} {r : Fm} {s : AS} (h : den G [] C e true r s = .ok (.lst (xs.map fun _ => .bl true)) s) : den G [] C (.b1 .all e) false r s = .ok (.bl true) s := by
  rw [den, bnd_ok h]
  show opt (b1P .all (.lst (xs.map fun _ => .bl true))) s = _
  rw [all_true]
  rfl
theorem it_c {t : Tk} (V : VX t) (s : AS) : denS GT [] CT itC (fT t) s = .ok (.nx (fT t)) s := by
  refine ife_not (all_of (xs := t.js.filter fun _ => true) ?_)
  refine ev_lc (enc := jP) (fun _ => true) (fun _ => .bl true) (fun j => [.sh (tP t), .sh (kS t), .sh (jS t), .sh (jP j), .no, .no, .no]) rfl (fun j _ => rfl) (fun j _ => rfl) (fun j hj _ => ?_) (by have := V.jl; unfold LIM; omega)
  have l : b1P .len (kS t) = some (.int t.n) := by
    show some (PV.int ((t.ks.map kP).length : Int)) = _
    rw [List.length_map]
    rfl
  have i := V.inn j hj
  have k := isStretch_ok i.1 (V.len j hj) (fun o ho => ⟨i.2 o ho, V.lo j hj o ho⟩) s
  simp [den, denEs, getFn, Fm.get, bnd, ret, opt, Res.andThen, l, k]
def zp {α : Type} : List α → List (α × α)
  | x :: y :: r => (x, y) :: zp (y :: r)
  | _ => []
theorem zip_zp {α : Type} (f : α → PV) : ∀ xs : List α, zipP (xs.map f) ((xs.map f).drop 1) = (zp xs).map fun q => .tup [f q.1, f q.2]
  | [] => rfl
  | [_] => rfl
  | x :: y :: r => by
    have ih := zip_zp f (y :: r)
    show PV.tup [f x, f y] :: zipP ((y :: r).map f) (((y :: r).map f).drop 1) = _
    rw [ih]
    rfl
theorem zp_len {α : Type} : ∀ xs : List α, (zp xs).length ≤ xs.length
  | [] => Nat.le_refl _
  | [_] => by simp [zp]
  | x :: y :: r => by
    have := zp_len (y :: r)
    simp only [zp, List.length_cons] at this ⊢
    omega
theorem zp_ord {α : Type} {R : α → α → Prop} : ∀ {xs : List α}, xs.Pairwise R → ∀ q ∈ zp xs, R q.1 q.2
  | [], _, q, hq => by simp [zp] at hq
  | [_], _, q, hq => by simp [zp] at hq
  | x :: y :: r, h, q, hq => by
    have h := List.pairwise_cons.mp h
    rw [zp] at hq
    rcases List.mem_cons.mp hq with e | e
    · rw [e]; exact h.1 y (by simp)
    · exact zp_ord h.2 q e
theorem it_d {t : Tk} (V : VX t) (s : AS) : denS GT [] CT itD (fT t) s = .ok (.nx (fT t)) s := by
  refine ife_not (all_of (xs := (zp t.js).filter fun _ => true) ?_)
  refine ev_lc (enc := fun q : Jt × Jt => .tup [jP q.1, jP q.2]) (fun _ => true) (fun _ => .bl true) (fun q => [.sh (tP t), .sh (kS t), .sh (jS t), .sh (jP q.1), .no, .no, .sh (jP q.2)]) ?_ (fun j _ => rfl) (fun j _ => rfl) (fun q hq _ => ?_) (by have := V.jl; have := zp_len t.js; unfold LIM; omega)
  · show opt (some (zipP (t.js.map jP) ((t.js.map jP).drop (clip (t.js.map jP).length ((1 : Nat) : Int))))) s = _
    have c : clip (t.js.map jP).length ((1 : Nat) : Int) = 1 := clip_nat (by have := V.j0; simpa using this)
    rw [c, zip_zp]
    rfl
  · have l := cmp_lte q.1.e q.2.e
    rw [decide_eq_true (zp_ord V.ord q hq)] at l
    simp [den, denEs, getFn, Fm.get, bnd, ret, opt, Res.andThen, ix_j0, l]
/-- a comprehension of two clauses over plain data -/
theorem ev_lc2 {G : List Den} {GV : List (Str × Nat × Den)} {C : List PV} {s : AS} {r : Fm} {α β : Type} {e c c2 : E} {t t2 : Tg} {it it2 : It} {vs vs2 : List Nat} {enc : α → PV} {enc2 : β → PV} {ys : List α} {o : Bool} (p : α → Bool) (zs : α → List β) (p2 : α → β → Bool) (f : α → β → PV) (r2 : α → Fm) (r3 : α → β → Fm)
    (hi : denIt G GV C it true r s = .ok (ys.map enc) s)
    (hb : ∀ y ∈ ys, bindT t (enc y) (r.wipe vs) = some (r2 y)) (hc : ∀ y ∈ ys, den G GV C c false (r2 y) s = .ok (.bl (p y)) s) (hi2 : ∀ y ∈ ys, p y = true → denIt G GV C it2 false (r2 y) s = .ok ((zs y).map enc2) s)
    (hb2 : ∀ y ∈ ys, ∀ z ∈ zs y, bindT t2 (enc2 z) ((r2 y).wipe vs2) = some (r3 y z)) (hc2 : ∀ y ∈ ys, ∀ z ∈ zs y, den G GV C c2 false (r3 y z) s = .ok (.bl (p2 y z)) s) (he : ∀ y ∈ ys, ∀ z ∈ zs y, p2 y z = true → den G GV C e false (r3 y z) s = .ok (f y z) s)
    (hl : (ys.flatMap fun y => if p y then ((zs y).filter (p2 y)).map (f y) else []).length ≤ LIM) :
    den G GV C (.lc2 e t it c t2 it2 c2 vs vs2) o r s = .ok (.lst (ys.flatMap fun y => if p y then ((zs y).filter (p2 y)).map (f y) else [])) s := by
  rw [den, bnd_ok hi]
  refine noExc_ok ?_
  have key := lc_typed (f := fun x => bnd (opt (bindT t x (r.wipe vs))) fun r2 => tst (den G GV C c false r2) fun k => if k then
      bnd (denIt G GV C it2 false r2) fun zs => lcGo (fun z => bnd (opt (bindT t2 z (r2.wipe vs2))) fun r3 => tst (den G GV C c2 false r3) fun k => if k then bnd (den G GV C e false r3) fun y => ret [y] else ret []) zs [] else ret []) (enc := enc) (g := fun y => if p y then ((zs y).filter (p2 y)).map (f y) else []) (s := s) ys [] (fun y hy => by
    rw [hb y hy]
    show tst (den G GV C c false (r2 y)) _ s = _
    rw [tst_ok (hc y hy)]
    cases q : p y with
    | false => rfl
    | true =>
      show bnd (denIt G GV C it2 false (r2 y)) _ s = _
      rw [bnd_ok (hi2 y hy q)]
      have k2 := lc_typed (f := fun z => bnd (opt (bindT t2 z ((r2 y).wipe vs2))) fun r3 => tst (den G GV C c2 false r3) fun k => if k then bnd (den G GV C e false r3) fun y => ret [y] else ret []) (enc := enc2) (g := fun z => if p2 y z then [f y z] else []) (s := s) (zs y) [] (fun z hz => by
        rw [hb2 y hy z hz]
        show tst (den G GV C c2 false (r3 y z)) _ s = _
        rw [tst_ok (hc2 y hy z hz)]
        cases q2 : p2 y z with
        | false => rfl
        | true =>
          show bnd (den G GV C e false (r3 y z)) (fun y => ret [y]) s = _
          rw [bnd_ok (he y hy z hz q2)]
          rfl)
      rw [List.nil_append, flatMap_if] at k2
      exact k2)
  rw [List.nil_append] at key
  rw [bnd_ok key]
  exact finL_ok hl
theorem es_len (js : List Jt) : (js.flatMap Jt.es).length ≤ 2 * js.length := by
  induction js with
  | nil => simp
  | cons j js ih =>
    rw [List.flatMap_cons, List.length_append, List.length_cons]
    have : (Jt.es j).length ≤ 2 := by
      unfold Jt.es
      cases j.o <;> simp
    omega
theorem ends_in_ok {t : Tk} (V : VX t) (s : AS) : d_ends_in [jS t] s = .ok (.lst ((t.js.flatMap Jt.es).map eP)) s := by
  have e : ∀ js : List Jt, (js.flatMap fun j => if true then (([some j.e, j.o].filter fun o => o.isSome).map oP) else []) = (js.flatMap Jt.es).map eP := by
    intro js
    induction js with
    | nil => rfl
    | cons j js ih =>
      rw [List.flatMap_cons, List.flatMap_cons, List.map_append, ih]
      congr 1
      unfold Jt.es
      cases j.o <;> rfl
  have L : den [] [] [] (.lc2 (.var 2) (.nm 1) (.seq (.var 0)) (.bl true) (.nm 2) (.seq (.slHi (.var 1) (.int 2))) (.notN (.var 2)) [1, 2] [2]) false [.sh (jS t), .no, .no] s = .ok (.lst ((t.js.flatMap Jt.es).map eP)) s := by
    rw [← e]
    refine ev_lc2 (enc := jP) (enc2 := oP) (ys := t.js) (fun _ => true) (fun j => [some j.e, j.o]) (fun _ o => o.isSome) (fun _ o => oP o) (fun j => [.sh (jS t), .sh (jP j), .no]) (fun j o => [.sh (jS t), .sh (jP j), .sh (oP o)]) rfl (fun j _ => rfl) (fun j _ => rfl) (fun j _ _ => rfl) (fun j _ o _ => rfl) (fun j _ o _ => ?_) (fun j _ o _ _ => rfl) ?_
    · cases o <;> rfl
    · rw [e, List.length_map]
      have := es_len t.js
      have := V.jl
      unfold LIM
      omega
  have z : denSs [] [] [] ir_ends_in [.sh (jS t), .no, .no] s = .ok (.rt (.lst ((t.js.flatMap Jt.es).map eP))) s := by
    unfold ir_ends_in
    rw [denSs]
    have : denS [] [] [] (.retE (.lc2 (.var 2) (.nm 1) (.seq (.var 0)) (.bl true) (.nm 2) (.seq (.slHi (.var 1) (.int 2))) (.notN (.var 2)) [1, 2] [2])) [.sh (jS t), .no, .no] s = .ok (.rt (.lst ((t.js.flatMap Jt.es).map eP))) s := by
      rw [denS, bnd_ok L]
      rfl
    rw [bnd_ok this]
    rfl
  unfold d_ends_in run
  exact bnd_ok z
theorem sorted_b1 {n : Nat} {xs : List En} (h3 : n ≤ 3) (hn : xs.Nodup) (hm : ∀ x, x ∈ xs ↔ x.1 < n) : b1P .sorted (.lst (xs.map eP)) = some (.lst ((allE n).map eP)) := by
  have d : datS (xs.map eP) = true := dats_map (fun x => dat_e _ x) xs
  have al : ∀ x y : En, alikeP (eP x) (eP y) = true := fun x y => rfl
  have o : ordOk (xs.map eP) = true := by
    unfold ordOk alkAll
    rw [d]
    simp [al, isNonP, eP]
    intros
    rfl
  have ne : (xs.map eP).all neTup = true := by simp [eP, neTup]
  show (if ordOk (xs.map eP) && ((xs.map eP).all neTup || (xs.map eP).all noTup) then (sortP (xs.map eP)).map PV.lst else none) = _
  rw [o, ne, sortP_e, srt_all h3 hn hm]
  rfl
theorem it_e {t : Tk} (V : VX t) (s : AS) : denS GT [] CT itE (fT t) s = .ok (.rt (.bl true)) s := by
  have l : b1P .len (kS t) = some (.int t.n) := by
    show some (PV.int ((t.ks.map kP).length : Int)) = _
    rw [List.length_map]
    rfl
  have a := ends_in_ok V s
  have b := sorted_b1 V.n3 V.nd V.all
  have c := allEnds_ok t.n V.n3 s
  have d : cmpP .eq (.lst ((allE t.n).map eP)) (.lst ((allE t.n).map eP)) = some true := by
    have dd : dat DEP (.lst ((allE t.n).map eP)) = true := by
      show dats _ ((allE t.n).map eP) = true
      exact dats_map (fun x => dat_e _ x) _
    refine cmp_eq dd dd ?_
    show eqPs _ _ = true
    rw [eqPs_map eqP_e]
    exact decide_eq_true rfl
  simp [itE, denS, den, denEs, getFn, Fm.get, bnd, ret, opt, Res.andThen, l, a, b, c, d]
theorem isTrack_ok {t : Tk} (V : VX t) (s : AS) : d_is_track [tP t] s = .ok (.bl true) s := by
  have z : denSs GT [] CT ir_is_track [.sh (tP t), .no, .no, .no, .no, .no, .no] s = .ok (.rt (.bl true)) s := by
    have e : denS GT [] CT (.setT [1, 2] (.var 0)) [.sh (tP t), .no, .no, .no, .no, .no, .no] s = .ok (.nx (fT t)) s := rfl
    rw [ir_is_track_eq, denSs, bnd_ok (it_a t s)]
    simp only
    rw [denSs, bnd_ok e]
    simp only
    rw [denSs, bnd_ok (it_b V.n1 V.n3 s)]
    simp only
    rw [denSs, bnd_ok (it_c V s)]
    simp only
    rw [denSs, bnd_ok (it_d V s)]
    simp only
    rw [denSs, bnd_ok (it_e V s)]
    rfl
  unfold d_is_track run
  exact bnd_ok z
theorem needTrack_ok {t : Tk} (V : VX t) (s : AS) : d_need_track [tP t] s = .ok .non s := by
  have a := isTrack_ok V s
  simp [d_need_track, run, ir_need_track, denSs, denS, den, denEs, getFn, Fm.get, bnd, ret, opt, Res.andThen, endOf, tst, tb, truth, a]
/-! ends, standings, stretches, hands -/
theorem len_ks (t : Tk) : b1P .len (.tup (t.ks.map kP)) = some (.int t.n) := by
  show some (PV.int ((t.ks.map kP).length : Int)) = _
  rw [List.length_map]
  rfl
theorem len_js (t : Tk) : b1P .len (.tup (t.js.map jP)) = some (.int t.js.length) := by
  show some (PV.int ((t.js.map jP).length : Int)) = _
  rw [List.length_map]
theorem needEnd_ok {t : Tk} {e : En} (h : e.1 < t.n) (s : AS) : d_need_end [tP t, eP e] s = .ok .non s := by
  have a := isEnd_ok h s
  simp [d_need_end, run, ir_need_end, denSs, denS, den, denEs, getFn, Fm.get, bnd, ret, opt, Res.andThen, endOf, tst, tb, truth, ix_t0, len_ks, a]
theorem isStanding_ok {t : Tk} {st : Sd} (h1 : st.length = t.n) (h3 : t.n ≤ 3) (h2 : ∀ x ∈ st, x ≠ Lg.a) (s : AS) : d_is_standing_of [tP t, sP st] s = .ok (.bl true) s := by
  have A : den [d_is_word] [] [(.tup [(.str "b"), (.str "c")])] (.b1 .all (.lc (.call 0 (.cons (.var 2) (.cons (.gc 0) .nil))) (.nm 2) (.seq (.var 1)) (.bl true) [2])) false [.sh (tP t), .sh (sP st), .no] s = .ok (.bl true) s := by
    refine all_of (xs := st.filter fun _ => true) ?_
    refine ev_lc (enc := lP) (fun _ => true) (fun _ => .bl true) (fun l => [.sh (tP t), .sh (sP st), .sh (lP l)]) rfl (fun _ _ => rfl) (fun _ _ => rfl) (fun l hl _ => isLeg2_ok (h2 l hl) s) (by unfold LIM; omega)
  have l : b1P .len (sP st) = some (.int t.n) := by
    show some (PV.int ((st.map lP).length : Int)) = _
    rw [List.length_map, h1]
  have ty : isTyP .tuple (sP st) = some true := rfl
  have c : cmpP .eq (.int (t.n : Int)) (.int (t.n : Int)) = some true := by
    rw [cmp_eq (dat_i _ _) (dat_i _ _) (eqP_i _ _)]
    simp
  have B : den [d_is_word] [] [(.tup [(.str "b"), (.str "c")])] (.cmp .eq (.b1 .len (.var 1)) (.b1 .len (.ix (.var 0) (.int 0)))) false [.sh (tP t), .sh (sP st), .no] s = .ok (.bl true) s := by
    simp [den, Fm.get, bnd, ret, opt, Res.andThen, ix_t0, len_ks, l, c]
  have D : den [d_is_word] [] [(.tup [(.str "b"), (.str "c")])] (.isinst .tuple (.var 1)) false [.sh (tP t), .sh (sP st), .no] s = .ok (.bl true) s := rfl
  have R : den [d_is_word] [] [(.tup [(.str "b"), (.str "c")])] (.and (.isinst .tuple (.var 1)) (.and (.cmp .eq (.b1 .len (.var 1)) (.b1 .len (.ix (.var 0) (.int 0)))) (.b1 .all (.lc (.call 0 (.cons (.var 2) (.cons (.gc 0) .nil))) (.nm 2) (.seq (.var 1)) (.bl true) [2])))) false [.sh (tP t), .sh (sP st), .no] s = .ok (.bl true) s := by
    rw [den, tst_ok D, if_pos rfl, den, tst_ok B, if_pos rfl]
    exact A
  have z : denSs [d_is_word] [] [(.tup [(.str "b"), (.str "c")])] ir_is_standing_of [.sh (tP t), .sh (sP st), .no] s = .ok (.rt (.bl true)) s := by
    unfold ir_is_standing_of
    rw [denSs]
    have : denS [d_is_word] [] [(.tup [(.str "b"), (.str "c")])] (.retE (.and (.isinst .tuple (.var 1)) (.and (.cmp .eq (.b1 .len (.var 1)) (.b1 .len (.ix (.var 0) (.int 0)))) (.b1 .all (.lc (.call 0 (.cons (.var 2) (.cons (.gc 0) .nil))) (.nm 2) (.seq (.var 1)) (.bl true) [2]))))) [.sh (tP t), .sh (sP st), .no] s = .ok (.rt (.bl true)) s := by
      rw [denS, bnd_ok R]
      rfl
    rw [bnd_ok this]
    rfl
  unfold d_is_standing_of run
  exact bnd_ok z
theorem needStanding_ok {t : Tk} {st : Sd} (h1 : st.length = t.n) (h3 : t.n ≤ 3) (h2 : ∀ x ∈ st, x ≠ Lg.a) (s : AS) : d_need_standing [tP t, sP st] s = .ok .non s := by
  have a := isStanding_ok h1 h3 h2 s
  simp [d_need_standing, run, ir_need_standing, denSs, denS, den, denEs, getFn, Fm.get, bnd, ret, opt, Res.andThen, endOf, tst, tb, truth, a]
theorem needPlace_ok {t : Tk} {p : Pl} (V : VX t) (h : PlOk t p) (s : AS) : d_need_place [tP t, eP p.1, sP p.2] s = .ok .non s := by
  have a := needTrack_ok V s
  have b := needEnd_ok h.e s
  have c := needStanding_ok h.s V.n3 h.l s
  simp [d_need_place, run, ir_need_place, denSs, denS, den, denEs, getFn, Fm.get, bnd, ret, opt, Res.andThen, endOf, a, b, c]
theorem passed_ok {t : Tk} {p : Pl} (V : VX t) (h : PlOk t p) (s : AS) : d_passed [tP t, eP p.1, sP p.2] s = .ok (.tup [eP (t.st p).1, sP (t.st p).2, .int (t.sk p)]) s := by
  have a := needPlace_ok V h s
  have b : d_step [tP t, .tup [eP p.1, sP p.2]] s = .ok (.tup [pP (t.st p), .int (t.si p), .int (t.sk p)]) s := step_ok V.toVT h
  simp [d_passed, run, ir_passed, denSs, denS, den, denEs, getFn, Fm.get, bnd, ret, opt, Res.andThen, endOf, a, b, bndN_3, ix_p0, ix_p1]
end RP

namespace RP
theorem wide_of {i : Int} (h0 : 0 ≤ i) (h : i < 4294967296) : wide i = true := by
  have h1 : i.natAbs < 4294967296 := by omega
  have h2 : (4294967296 : Nat) < 2 ^ 4096 := by decide +kernel
  exact decide_eq_true (Nat.lt_trans h1 h2)
/-! the churn's statements -/
def qchS1 : S := .set 2 (.bin .add (.bin .mul (.int 77773) (.var 1)) (.int 37))
def qchBig : E := .bin .mul (.bin .mul (.bin .mul (.bin .pow (.int 10) (.int 60)) (.bin .pow (.int 10) (.int 60))) (.bin .pow (.int 10) (.int 60))) (.bin .pow (.int 10) (.int 58))
def qchA : S := .set 2 (.bin .mod (.b1 .abs (.b1 .int (.ix (.var 0) (.var 1)))) qchBig)
def qchB : S := .set 2 (.bin .add (.var 2) (.bin .mod (.b1 .abs (.b1 .int (.ix (.var 0) (.int 0)))) (.int 1000231)))
def qchI2 : S := .ife (.cmp .gt (.b1 .len (.var 0)) (.int 0)) (.cons qchB .nil) .nil
def qchI1 : S := .ife (.cmp .lt (.var 1) (.b1 .len (.var 0))) (.cons qchA .nil) (.cons qchI2 .nil)
def qchR : S := .retE (.lstR (.cons (.ite (.cmp .ge (.var 2) (.bin .pow (.int 10) (.int 18))) (.var 2) (.int 0)) (.cons (.bin .add (.bin .mod (.b1 .int (.bin .add (.bin .add (.bin .mul (.bin .mod (.var 2) (.int 2147483311)) (.int 9)) (.bin .mul (.int 43) (.var 1))) (.int 9))) (.int 2147483311)) (.int 1)) .nil)))
theorem ch_ir : ir__law_churn = .cons qchS1 (.cons qchI1 (.cons qchR .nil)) := rfl
def BIG : Int := 10 ^ 60 * 10 ^ 60 * 10 ^ 60 * 10 ^ 58
theorem ch_big (r : Fm) (s : AS) : den [] [] [] qchBig true r s = .ok (.int BIG) s := by kernel_rfl
abbrev rr (xs : List PV) (k : Int) (c : Int) : Fm := [.sh (.rol xs), .sh (.int k), .sh (.int c)]
theorem ch_s1 (xs : List PV) (s : AS) : ∀ k : Nat, k < 12 → ∃ c, denS [] [] [] qchS1 [.sh (.rol xs), .sh (.int k), .no] s = .ok (.nx (rr xs k c)) s
  | 0, _ => ⟨37, by kernel_rfl⟩
  | 1, _ => ⟨77773 + 37, by kernel_rfl⟩
  | 2, _ => ⟨77773 * 2 + 37, by kernel_rfl⟩
  | 3, _ => ⟨77773 * 3 + 37, by kernel_rfl⟩
  | 4, _ => ⟨77773 * 4 + 37, by kernel_rfl⟩
  | 5, _ => ⟨77773 * 5 + 37, by kernel_rfl⟩
  | 6, _ => ⟨77773 * 6 + 37, by kernel_rfl⟩
  | 7, _ => ⟨77773 * 7 + 37, by kernel_rfl⟩
  | 8, _ => ⟨77773 * 8 + 37, by kernel_rfl⟩
  | 9, _ => ⟨77773 * 9 + 37, by kernel_rfl⟩
  | 10, _ => ⟨77773 * 10 + 37, by kernel_rfl⟩
  | 11, _ => ⟨77773 * 11 + 37, by kernel_rfl⟩
  | n + 12, h => absurd h (by omega)
theorem at_lt {xs : List PV} {k : Nat} (h : k < xs.length) : at' xs (k : Int) = xs[k]? := by
  unfold at' nrm
  rw [if_pos (by omega), if_pos (by omega)]
  rfl
theorem ch_a {ns : List Int} {k : Nat} (hk : k < ns.length) (c : Int) (s : AS) : ∃ c', denS [] [] [] qchA (rr (ns.map .int) k c) s = .ok (.nx (rr (ns.map .int) k c')) s := by
  have e : at' (ns.map PV.int) (k : Int) = some (.int (ns[k])) := by
    rw [at_lt (by simpa using hk)]
    simp [hk]
  unfold qchA
  unfold denS
  have e1 : den [] [] [] (.b1 .abs (.b1 .int (.ix (.var 0) (.var 1)))) true (rr (ns.map .int) k c) s = .ok (.int (if ns[k] < 0 then -ns[k] else ns[k])) s := by
    simp [den, rr, Fm.get, bnd, ret, opt, Res.andThen, ixP, e, b1P]
  have e2 : den [] [] [] (.bin .mod (.b1 .abs (.b1 .int (.ix (.var 0) (.var 1)))) qchBig) false (rr (ns.map .int) k c) s = .ok (.int ((if ns[k] < 0 then -ns[k] else ns[k]) % BIG)) s := by
    rw [den, bnd_ok e1, bnd_ok (ch_big _ _)]
    simp only [binP]
    rw [if_pos (by decide +kernel)]
    rfl
  exact ⟨_, by rw [bnd_ok e2]; rfl⟩
theorem ch_b {ns : List Int} {k : Nat} (hk : 0 < ns.length) (c : Int) (s : AS) : ∃ c', denS [] [] [] qchB (rr (ns.map .int) k c) s = .ok (.nx (rr (ns.map .int) k c')) s := by
  have e : at' (ns.map PV.int) (0 : Int) = some (.int (ns[0])) := by
    rw [show ((0 : Int) = ((0 : Nat) : Int)) from rfl, at_lt (by simpa using hk)]
    simp [hk]
  unfold qchB
  refine ⟨c + (if ns[0] < 0 then -ns[0] else ns[0]) % 1000231, ?_⟩
  simp [denS, den, rr, Fm.get, bnd, ret, opt, Res.andThen, ixP, e, b1P, binP]
theorem ch_i1 {ns : List Int} {k : Nat} (c : Int) (s : AS) : ∃ c', denS [] [] [] qchI1 (rr (ns.map .int) k c) s = .ok (.nx (rr (ns.map .int) k c')) s := by
  have t : tb (den [] [] [] (.cmp .lt (.var 1) (.b1 .len (.var 0))) false (rr (ns.map .int) k c)) s = .ok (decide ((k : Int) < ns.length)) s := by
    simp [tb, den, rr, Fm.get, bnd, ret, opt, Res.andThen, b1P, cmpP, dat, ltP, truth]
  unfold qchI1
  rw [denS, tst, bnd_ok t]
  by_cases h : k < ns.length
  · rw [if_pos (decide_eq_true (by omega))]
    obtain ⟨c', e⟩ := ch_a h c s
    exact ⟨c', by rw [denSs, bnd_ok e]; simp only [denSs]; rfl⟩
  · rw [if_neg (fun z => h (by have := of_decide_eq_true z; omega))]
    have t2 : tb (den [] [] [] (.cmp .gt (.b1 .len (.var 0)) (.int 0)) false (rr (ns.map .int) k c)) s = .ok (decide ((0 : Int) < ns.length)) s := by
      simp [tb, den, rr, Fm.get, bnd, ret, opt, Res.andThen, b1P, cmpP, truth]
    have key : ∃ c', denS [] [] [] qchI2 (rr (ns.map .int) k c) s = .ok (.nx (rr (ns.map .int) k c')) s := by
      unfold qchI2
      rw [denS, tst, bnd_ok t2]
      by_cases h2 : 0 < ns.length
      · rw [if_pos (decide_eq_true (by omega))]
        obtain ⟨c', e⟩ := ch_b (k := k) h2 c s
        exact ⟨c', by rw [denSs, bnd_ok e]; simp only [denSs]; rfl⟩
      · rw [if_neg (fun z => h2 (by have := of_decide_eq_true z; omega))]
        exact ⟨c, by rw [denSs]; rfl⟩
    obtain ⟨c', e⟩ := key
    exact ⟨c', by rw [denSs, bnd_ok e]; simp only [denSs]; rfl⟩
theorem ch_r (xs : List PV) (k : Nat) (hk : k < 12) (c : Int) (s : AS) : ∃ u t : Int, 0 ≤ t ∧ t < 4294967296 ∧ denS [] [] [] qchR (rr xs k c) s = .ok (.rt (.ref s.length)) (s ++ [.lst [.int u, .int t]]) := by
  have w1 : wide (c % 2147483311) = true := wide_of (by omega) (by omega)
  have w2 : wide 9 = true := wide_of (by omega) (by omega)
  have w3 : wide 43 = true := wide_of (by omega) (by omega)
  have w4 : wide (k : Int) = true := wide_of (by omega) (by omega)
  refine ⟨if 10 ^ 18 ≤ c then c else 0, (c % 2147483311 * 9 + 43 * k + 9) % 2147483311 + 1, by omega, by omega, ?_⟩
  unfold qchR
  by_cases h : (10 : Int) ^ 18 ≤ c
  · rw [if_pos h]
    simp [denS, den, denEs, rr, Fm.get, bnd, ret, opt, Res.andThen, b1P, binP, cmpP, tst, tb, truth, w1, w2, w3, w4]
    simp only [show (1000000000000000000 : Int) ≤ c from h, if_true]
    rfl
  · rw [if_neg h]
    simp [denS, den, denEs, rr, Fm.get, bnd, ret, opt, Res.andThen, b1P, binP, cmpP, tst, tb, truth, w1, w2, w3, w4]
    simp only [show ¬ (1000000000000000000 : Int) ≤ c from h, if_false]
    rfl
theorem churn_ok (ns : List Int) (k : Nat) (hk : k < 12) (s : AS) : ∃ u t : Int, 0 ≤ t ∧ t < 4294967296 ∧ d__law_churn [.rol (ns.map .int), .int k] s = .ok (.ref s.length) (s ++ [.lst [.int u, .int t]]) := by
  obtain ⟨c1, e1⟩ := ch_s1 (ns.map .int) s k hk
  obtain ⟨c2, e2⟩ := ch_i1 (ns := ns) (k := k) c1 s
  obtain ⟨u, t, h1, h2, e3⟩ := ch_r (ns.map .int) k hk c2 s
  refine ⟨u, t, h1, h2, ?_⟩
  have e : denSs [] [] [] ir__law_churn [.sh (.rol (ns.map .int)), .sh (.int k), .no] s = .ok (.rt (.ref s.length)) (s ++ [.lst [.int u, .int t]]) := by
    rw [ch_ir, denSs, bnd_ok e1]
    simp only
    rw [denSs, bnd_ok e2]
    simp only
    rw [denSs, bnd_ok e3]
    rfl
  unfold d__law_churn run
  exact (bnd_ok e)
/-! the tap -/
def tpI : S := .ife (.cmp .gt (.ix (.var 0) (.int 0)) (.int 0)) (.cons (.set 2 (.bin .mod (.b1 .int (.ix (.var 0) (.int 0))) (.var 1))) (.cons (.seti 0 (.int 0) (.bin .fdiv (.ix (.var 0) (.int 0)) (.var 1))) (.cons (.retE (.var 2)) .nil))) .nil
def tpT : S := .setT [2, 3] (.tup (.cons (.int 0) (.cons (.int 1) .nil)))
def tpC : E := .or (.cmp .lt (.var 3) (.var 1)) (.cmp .eq (.var 3) (.int 1))
def tpB1 : S := .seti 0 (.int 1) (.bin .mod (.b1 .int (.bin .add (.bin .mul (.ix (.var 0) (.int 1)) (.int 31337)) (.int 53))) (.int 2147483311))
def tpB2 : S := .set 2 (.bin .add (.bin .mul (.var 2) (.int 8192)) (.bin .mod (.b1 .int (.bin .fdiv (.ix (.var 0) (.int 1)) (.int 65563))) (.int 8192)))
def tpB3 : S := .set 3 (.bin .mul (.var 3) (.int 8192))
def tpB : Ss := .cons tpB1 (.cons tpB2 (.cons tpB3 .nil))
def tpR : S := .retE (.bin .mod (.b1 .int (.var 2)) (.var 1))
theorem tp_ir : ir__law_tap = .cons tpI (.cons tpT (.cons (.while_ 40 tpC tpB) (.cons tpR .nil))) := rfl
theorem set_same {s : AS} {n : Nat} {a b : AObj} : (s.set n a).set n b = s.set n b := by simp
theorem get_set {s : AS} {n : Nat} {a b : AObj} (h : s[n]? = some a) : (s.set n b)[n]? = some b := by
  have := (List.getElem?_eq_some_iff.mp h).1
  simp [this]
abbrev tf (n : Nat) (m : Int) (a b : Sl) : Fm := [.sh (.ref n), .sh (.int m), a, b]
theorem tap_pos {s : AS} {n : Nat} {u t m : Int} (h : s[n]? = some (.lst [.int u, .int t])) (hm : 0 < m) (hm2 : m < 8192) (hu : 0 < u) : denS [] [] [] tpI (tf n m .no .no) s = .ok (.rt (.int (u % m))) (s.set n (.lst [.int (u / m), .int t])) := by
  have a0 : at' [PV.int u, .int t] 0 = some (.int u) := rfl
  have n0 : nrm 2 0 = some 0 := rfl
  have h2 : m < 1073741824 := by omega
  simp [tpI, denS, denSs, den, tf, Fm.get, bnd, ret, opt, Res.andThen, b1P, binP, cmpP, tst, tb, truth, ixP, h, a0, hu, hm, h2, setSl, n0, Sl.isNo]
theorem tap_neg {s : AS} {n : Nat} {u t m : Int} (h : s[n]? = some (.lst [.int u, .int t])) (hu : ¬ 0 < u) : denS [] [] [] tpI (tf n m .no .no) s = .ok (.nx (tf n m .no .no)) s := by
  have a0 : at' [PV.int u, .int t] 0 = some (.int u) := rfl
  simp [tpI, denS, denSs, den, tf, Fm.get, bnd, ret, opt, Res.andThen, b1P, binP, cmpP, tst, tb, truth, ixP, h, a0, hu]
theorem tap_b1 {s : AS} {n : Nat} {u t m : Int} {a b : Sl} (h : s[n]? = some (.lst [.int u, .int t])) (h0 : 0 ≤ t) (h1 : t < 4294967296) : denS [] [] [] tpB1 (tf n m a b) s = .ok (.nx (tf n m a b)) (s.set n (.lst [.int u, .int ((t * 31337 + 53) % 2147483311)])) := by
  have a1 : at' [PV.int u, .int t] 1 = some (.int t) := rfl
  have n1 : nrm 2 1 = some 1 := rfl
  have w1 := wide_of h0 h1
  have w2 : wide 31337 = true := wide_of (by omega) (by omega)
  simp [tpB1, denS, den, tf, Fm.get, bnd, ret, opt, Res.andThen, b1P, binP, ixP, h, a1, w1, w2, setSl, n1, Sl.isNo]
theorem tap_b2 {s : AS} {n : Nat} {u t m : Int} {b : Sl} (h : s[n]? = some (.lst [.int u, .int t])) : denS [] [] [] tpB2 (tf n m (.sh (.int 0)) b) s = .ok (.nx (tf n m (.sh (.int (t / 65563 % 8192))) b)) s := by
  have a1 : at' [PV.int u, .int t] 1 = some (.int t) := rfl
  have w1 : wide 0 = true := wide_of (by omega) (by omega)
  have w2 : wide 8192 = true := wide_of (by omega) (by omega)
  simp [tpB2, denS, den, tf, Fm.get, bnd, ret, opt, Res.andThen, b1P, binP, ixP, h, a1, w1, w2]
theorem tap_b3 {s : AS} {n : Nat} {m f : Int} : denS [] [] [] tpB3 (tf n m (.sh (.int f)) (.sh (.int 1))) s = .ok (.nx (tf n m (.sh (.int f)) (.sh (.int 8192)))) s := by
  have w1 : wide 1 = true := wide_of (by omega) (by omega)
  have w2 : wide 8192 = true := wide_of (by omega) (by omega)
  simp [tpB3, denS, den, tf, Fm.get, bnd, ret, opt, Res.andThen, binP, w1, w2]
theorem tap_c1 {s : AS} {n : Nat} {m : Int} {a : Sl} : tb (den [] [] [] tpC false (tf n m a (.sh (.int 1)))) s = .ok true s := by
  by_cases h : (1 : Int) < m
  · simp [tpC, den, tf, Fm.get, bnd, ret, opt, Res.andThen, cmpP, tst, tb, truth, dat, ltP, h]
  · simp [tpC, den, tf, Fm.get, bnd, ret, opt, Res.andThen, cmpP, tst, tb, truth, dat, ltP, eqP, h]
theorem tap_c2 {s : AS} {n : Nat} {m : Int} {a : Sl} (hm : m < 8192) : tb (den [] [] [] tpC false (tf n m a (.sh (.int 8192)))) s = .ok false s := by
  have h : ¬ (8192 : Int) < m := by omega
  simp [tpC, den, tf, Fm.get, bnd, ret, opt, Res.andThen, cmpP, tst, tb, truth, dat, ltP, eqP, h]
theorem tap_b {s : AS} {n : Nat} {u t m : Int} (h : s[n]? = some (.lst [.int u, .int t])) (h0 : 0 ≤ t) (h1 : t < 4294967296) : ∃ f t' : Int, 0 ≤ t' ∧ t' < 4294967296 ∧ denSs [] [] [] tpB (tf n m (.sh (.int 0)) (.sh (.int 1))) s = .ok (.nx (tf n m (.sh (.int f)) (.sh (.int 8192)))) (s.set n (.lst [.int u, .int t'])) := by
  have g := get_set (b := .lst [.int u, .int ((t * 31337 + 53) % 2147483311)]) h
  refine ⟨(t * 31337 + 53) % 2147483311 / 65563 % 8192, (t * 31337 + 53) % 2147483311, by omega, by omega, ?_⟩
  unfold tpB
  rw [denSs, bnd_ok (tap_b1 h h0 h1)]
  simp only
  rw [denSs, bnd_ok (tap_b2 g)]
  simp only
  rw [denSs, bnd_ok tap_b3]
  simp only [denSs]
  rfl
theorem tap_ok {s : AS} {n : Nat} {u t : Int} {m : Int} (h : s[n]? = some (.lst [.int u, .int t])) (h0 : 0 ≤ t) (h1 : t < 4294967296) (hm : 0 < m) (hm2 : m < 8192) : ∃ v u' t' : Int, 0 ≤ v ∧ v < m ∧ 0 ≤ t' ∧ t' < 4294967296 ∧ d__law_tap [.ref n, .int m] s = .ok (.int v) (s.set n (.lst [.int u', .int t'])) := by
  by_cases hu : 0 < u
  · refine ⟨u % m, u / m, t, Int.emod_nonneg _ (by omega), Int.emod_lt_of_pos _ hm, h0, h1, ?_⟩
    have e : denSs [] [] [] ir__law_tap (tf n m .no .no) s = .ok (.rt (.int (u % m))) (s.set n (.lst [.int (u / m), .int t])) := by
      rw [tp_ir, denSs, bnd_ok (tap_pos h hm hm2 hu)]
      rfl
    unfold d__law_tap run
    exact bnd_ok e
  · obtain ⟨f, t', k0, k1, eb⟩ := tap_b (m := m) h h0 h1
    refine ⟨f % m, u, t', Int.emod_nonneg _ (by omega), Int.emod_lt_of_pos _ hm, k0, k1, ?_⟩
    have e : denSs [] [] [] ir__law_tap (tf n m .no .no) s = .ok (.rt (.int (f % m))) (s.set n (.lst [.int u, .int t'])) := by
      have et : denS [] [] [] tpT (tf n m .no .no) s = .ok (.nx (tf n m (.sh (.int 0)) (.sh (.int 1)))) s := by kernel_rfl
      have ew : denS [] [] [] (.while_ 40 tpC tpB) (tf n m (.sh (.int 0)) (.sh (.int 1))) s = .ok (.nx (tf n m (.sh (.int f)) (.sh (.int 8192)))) (s.set n (.lst [.int u, .int t'])) := by
        rw [denS, whGo, tst, bnd_ok tap_c1, if_pos rfl, bnd_ok eb]
        simp only
        rw [whGo, tst, bnd_ok (tap_c2 hm2)]
        rfl
      have er : denS [] [] [] tpR (tf n m (.sh (.int f)) (.sh (.int 8192))) (s.set n (.lst [.int u, .int t'])) = .ok (.rt (.int (f % m))) (s.set n (.lst [.int u, .int t'])) := by
        simp [tpR, denS, den, tf, Fm.get, bnd, ret, opt, Res.andThen, b1P, binP, hm]
      rw [tp_ir, denSs, bnd_ok (tap_neg h hu)]
      simp only
      rw [denSs, bnd_ok et]
      simp only
      rw [denSs, bnd_ok ew]
      simp only
      rw [denSs, bnd_ok er]
      rfl
    unfold d__law_tap run
    exact bnd_ok e
end RP

/-! Sm12: what the law draws. Own work. -/
namespace RP
open PySem
theorem rangeP_eq : ∀ (n : Nat) (lo : Nat), rangeP lo n = (List.range' lo n).map fun i : Nat => PV.int (i : Int)
  | 0, _ => rfl
  | n + 1, lo => by
    have := rangeP_eq n (lo + 1)
    rw [rangeP, List.range'_succ, List.map_cons, ← this]
    rfl
theorem rangeOf_ok {n : Nat} (h : n ≤ 1000) : rangeOf (.int (n : Int)) = some ((List.range n).map fun i : Nat => PV.int (i : Int)) := by
  show (if -1000000 ≤ (n : Int) ∧ (n : Int) ≤ 1000000 then some (rangeP 0 (n : Int).toNat) else none) = _
  rw [if_pos (by omega), Int.toNat_natCast]
  have := rangeP_eq n 0
  rw [List.range_eq_range']
  rw [← this]
  rfl
/-- the object at n is a churn -/
def Ch (s : AS) (n : Nat) : Prop := ∃ u t : Int, s[n]? = some (.lst [.int u, .int t]) ∧ 0 ≤ t ∧ t < 4294967296
theorem Ch.set {s : AS} {n : Nat} (h : Ch s n) {u t : Int} (h0 : 0 ≤ t) (h1 : t < 4294967296) : Ch (s.set n (.lst [.int u, .int t])) n := by
  obtain ⟨u', t', e, _, _⟩ := h
  exact ⟨u, t, get_set e, h0, h1⟩
theorem tapC {s : AS} {n m : Nat} (h : Ch s n) (hm : 0 < m) (hm2 : m < 8192) : ∃ (v : Nat) (s' : AS), v < m ∧ Ch s' n ∧ d__law_tap [.ref n, .int (m : Int)] s = .ok (.int (v : Int)) s' := by
  have h' := h
  obtain ⟨u, t, e, h0, h1⟩ := h'
  obtain ⟨v, u', t', a, b, c, d, z⟩ := tap_ok (m := (m : Int)) e h0 h1 (by omega) (by omega)
  refine ⟨v.toNat, s.set n (.lst [.int u', .int t']), by omega, h.set c d, ?_⟩
  rw [z, Int.toNat_of_nonneg a]
theorem anyC {α : Type} {enc : α → PV} {xs : List α} {s : AS} {n : Nat} (h : Ch s n) (h0 : xs ≠ []) (hl : xs.length < 8192) : ∃ x ∈ xs, ∃ s', Ch s' n ∧ d__law_any_of [.ref n, .lst (xs.map enc)] s = .ok (enc x) s' := by
  have hp : 0 < (xs.map enc).length := by
    rw [List.length_map]
    exact List.length_pos_iff.mpr h0
  obtain ⟨v, s', hv, hc, e⟩ := tapC h hp (by rw [List.length_map]; exact hl)
  rw [List.length_map] at hv
  refine ⟨xs[v], List.getElem_mem hv, s', hc, ?_⟩
  have a := at_map (f := enc) hv
  have c : den [d__law_tap] [] [] (.call 0 (.cons (.var 0) (.cons (.b1 .len (.var 1)) .nil))) false [.sh (.ref n), .sh (.lst (xs.map enc))] s = .ok (.int (v : Int)) s' := e
  have d : den [d__law_tap] [] [] (.ix (.var 1) (.call 0 (.cons (.var 0) (.cons (.b1 .len (.var 1)) .nil)))) false [.sh (.ref n), .sh (.lst (xs.map enc))] s = .ok (enc xs[v]) s' := by
    rw [den]
    have v1 : den [d__law_tap] [] [] (.var 1) true [.sh (.ref n), .sh (.lst (xs.map enc))] s = .ok (.lst (xs.map enc)) s := rfl
    rw [bnd_ok v1, bnd_ok c]
    show opt (at' (xs.map enc) (v : Int)) s' = _
    rw [a]
    rfl
  have z : denSs [d__law_tap] [] [] ir__law_any_of [.sh (.ref n), .sh (.lst (xs.map enc))] s = .ok (.rt (enc xs[v])) s' := by
    unfold ir__law_any_of
    rw [denSs]
    have : denS [d__law_tap] [] [] (.retE (.ix (.var 1) (.call 0 (.cons (.var 0) (.cons (.b1 .len (.var 1)) .nil))))) [.sh (.ref n), .sh (.lst (xs.map enc))] s = .ok (.rt (enc xs[v])) s' := by
      rw [denS, bnd_ok d]
      rfl
    rw [bnd_ok this]
    rfl
  unfold d__law_any_of run
  exact bnd_ok z
theorem perm_erase {α : Type} : ∀ {l : List α} {i : Nat} (h : i < l.length), (l[i] :: l.eraseIdx i).Perm l
  | [], i, h => absurd h (by simp)
  | x :: l, 0, h => List.Perm.refl _
  | x :: l, i + 1, h => by
    have := perm_erase (l := l) (i := i) (by simpa using h)
    exact (List.Perm.swap x (l[i]'(by simpa using h)) (l.eraseIdx i)).trans (this.cons x)
/-! stretches -/
structure Kn (m : Nat) (left : List En) (found : List Jt) : Prop where
  so : left.Pairwise (fun a b => er a < er b)
  pm : (found.flatMap Jt.es ++ left).Perm (allE m)
  ln : ∀ j ∈ found, 1 ≤ j.l ∧ j.l ≤ 2
  lo : ∀ j ∈ found, ∀ o, j.o = some o → er j.e < er o
  od : found.Pairwise (fun x y => er x.e < er y.e)
  be : ∀ j ∈ found, ∀ e ∈ left, er j.e < er e
theorem Kn.add {m : Nat} {e : En} {rest left' : List En} {found : List Jt} {j : Jt} (k : Kn m (e :: rest) found) (hj : j.e = e) (hl : 1 ≤ j.l ∧ j.l ≤ 2) (ho : ∀ o, j.o = some o → o ∈ rest) (hs : left'.Sublist rest) (hp : (j.o.toList ++ left').Perm rest) : Kn m left' (found ++ [j]) := by
  have so := List.pairwise_cons.mp k.so
  refine ⟨so.2.sublist hs, ?_, ?_, ?_, ?_, ?_⟩
  · refine List.Perm.trans ?_ k.pm
    rw [List.flatMap_append, List.append_assoc]
    refine List.Perm.append_left _ ?_
    show ((Jt.es j ++ []) ++ left').Perm (e :: rest)
    rw [List.append_nil]
    unfold Jt.es
    rw [hj]
    exact hp.cons e
  · intro x hx
    rcases List.mem_append.mp hx with z | z
    · exact k.ln x z
    · rw [List.mem_singleton] at z
      rw [z]; exact hl
  · intro x hx o h
    rcases List.mem_append.mp hx with z | z
    · exact k.lo x z o h
    · rw [List.mem_singleton] at z
      subst z
      rw [hj]
      exact so.1 o (ho o h)
  · refine List.pairwise_append.mpr ⟨k.od, List.pairwise_singleton _ _, fun a ha b hb => ?_⟩
    rw [List.mem_singleton] at hb
    rw [hb, hj]
    exact k.be a ha e (by simp)
  · intro x hx y hy
    rcases List.mem_append.mp hx with z | z
    · exact k.be x z y (by simp [hs.subset hy])
    · rw [List.mem_singleton] at z
      rw [z, hj]
      exact so.1 y (hs.subset hy)
theorem allE_nodup {m : Nat} (h : m ≤ 3) : (allE m).Nodup := (allE_sorted m h).imp fun h e => by rw [e] at h; omega
/-- the stretches make a track -/
theorem Kn.vx {m : Nat} {js : List Jt} {ks : List Kd} (k : Kn m [] js) (h1 : 1 ≤ m) (h3 : m ≤ 3) (hk : ks.length = m) : VX ⟨ks, js⟩ := by
  have pm : (js.flatMap Jt.es).Perm (allE m) := by
    have := k.pm
    rw [List.append_nil] at this
    exact this
  have mem : ∀ x, x ∈ js.flatMap Jt.es ↔ x.1 < m := fun x => by rw [pm.mem_iff, mem_allE]
  have nd : (js.flatMap Jt.es).Nodup := pm.nodup_iff.mpr (allE_nodup h3)
  have le : js.length ≤ (js.flatMap Jt.es).length := by
    clear k pm mem nd
    induction js with
    | nil => simp
    | cons j js ih =>
      rw [List.flatMap_cons, List.length_append, List.length_cons]
      have : 1 ≤ (Jt.es j).length := by unfold Jt.es; simp
      omega
  have al : (allE m).length = 3 * m := by
    match m, h3 with
    | 0, _ => rfl
    | 1, _ => rfl
    | 2, _ => rfl
    | 3, _ => rfl
  have pl := pm.length_eq
  have n : Tk.n ⟨ks, js⟩ = m := hk
  have esm : ∀ j ∈ js, ∀ e ∈ Jt.es j, e.1 < m := fun j hj e he => (mem e).mp (List.mem_flatMap.mpr ⟨j, hj, he⟩)
  refine { n1 := by rw [n]; exact h1, n3 := by rw [n]; exact h3, jl := by show js.length ≤ 1000; omega, j0 := ?_, len := k.ln, inn := fun j hj => ?_, has := fun e he => ?_, ord := k.od, lo := k.lo, nd := nd, all := fun x => by rw [n]; exact mem x }
  · show 1 ≤ js.length
    cases js with
    | nil =>
      have : ((0, Lg.a) : En) ∈ ([] : List Jt).flatMap Jt.es := (mem _).mpr (by show 0 < m; omega)
      simp at this
    | cons j js => simp
  · rw [n]
    exact ⟨esm j hj j.e (by unfold Jt.es; simp), fun o ho => esm j hj o (by unfold Jt.es; rw [ho]; simp)⟩
  · rw [n] at he
    obtain ⟨j, hj, hx⟩ := List.mem_flatMap.mp ((mem e).mpr he)
    refine ⟨j, hj, ?_⟩
    unfold Jt.es at hx
    unfold hasE
    rcases List.mem_cons.mp hx with z | z
    · rw [decide_eq_true z.symm]; rfl
    · have : j.o = some e := by simpa using z
      rw [decide_eq_true this, Bool.or_true]
abbrev GJ : List Den := [d__law_tap, d__law_ends]
def ljC : E := .cmp .ne (.var 2) (.lst .nil)
def ljB1 : S := .par [4, 2] (.cons (.ix (.var 2) (.int 0)) (.cons (.slLo (.var 2) (.int 1)) .nil))
def ljB2 : S := .par [5, 6] (.cons (.bin .add (.int 1) (.call 0 (.cons (.var 0) (.cons (.int 2) .nil)))) (.cons (.call 0 (.cons (.var 0) (.cons (.int 5) .nil))) .nil))
def ljX : Ss := .cons (.app 3 (.tup (.cons (.var 4) (.cons .non (.cons (.var 5) .nil))))) .nil
def ljY : Ss := .cons (.set 7 (.call 0 (.cons (.var 0) (.cons (.b1 .len (.var 2)) .nil)))) (.cons (.app 3 (.tup (.cons (.var 4) (.cons (.ix (.var 2) (.var 7)) (.cons (.var 5) .nil))))) (.cons (.set 2 (.bin .add (.slHi (.var 2) (.var 7)) (.slLo (.var 2) (.bin .add (.var 7) (.int 1))))) .nil))
def ljB3 : S := .ife (.or (.cmp .eq (.var 2) (.lst .nil)) (.cmp .eq (.var 6) (.int 0))) ljX ljY
def ljB : Ss := .cons ljB1 (.cons ljB2 (.cons ljB3 .nil))
theorem ir_joints_eq : ir__law_joints = .cons (.parL 2 3 (.call 1 (.cons (.var 1) .nil))) (.cons (.while_ 200 ljC ljB) (.cons (.retE (.b1 .tuple (.var 3))) .nil)) := rfl
def eL (l : List En) : PV := .lst (l.map eP)
theorem eL_dat (l : List En) : dat DEP (eL l) = true := by
  show dats _ (l.map eP) = true
  exact dats_map (fun x => dat_e _ x) l
theorem eL_ne (l : List En) : cmpP .ne (eL l) (.lst []) = some (!decide (l = [])) := by
  refine cmp_ne (eL_dat l) rfl ?_
  cases l with
  | nil => rfl
  | cons p ps => rfl
theorem eL_eq (l : List En) : cmpP .eq (eL l) (.lst []) = some (decide (l = [])) := by
  refine cmp_eq (eL_dat l) rfl ?_
  cases l with
  | nil => rfl
  | cons p ps => rfl
abbrev jF (n m : Nat) (l : List En) (f : List Jt) (x4 x5 x6 x7 : Sl) : Fm := [.sh (.ref n), .sh (.int (m : Int)), .sh (eL l), .ow (f.map jP), x4, x5, x6, x7]
theorem tap_call {n : Nat} {r : Fm} {k : Nat} {v : PV} {s s' : AS} (h0 : Fm.get r 0 = .sh (.ref n)) (e : d__law_tap [.ref n, .int (k : Int)] s = .ok v s') : den GJ [] [] (.call 0 (.cons (.var 0) (.cons (.int (k : Int)) .nil))) false r s = .ok v s' := by
  have : denEs GJ [] [] (.cons (.var 0) (.cons (.int (k : Int)) .nil)) r s = .ok [.ref n, .int (k : Int)] s := by
    simp [denEs, den, h0, bnd, ret, Res.andThen]
  rw [den, bnd_ok this]
  exact e
theorem lj_b {n m : Nat} {e : En} {rest : List En} {f : List Jt} {x4 x5 x6 x7 : Sl} {s : AS} (k : Kn m (e :: rest) f) (h : Ch s n) (hf : f.length ≤ 1000) (hr : rest.length ≤ 1000) : ∃ l' f' y4 y5 y6 y7 s', l'.length ≤ rest.length ∧ f'.length ≤ f.length + 1 ∧ Kn m l' f' ∧ Ch s' n ∧
    denSs GJ [] [] ljB (jF n m (e :: rest) f x4 x5 x6 x7) s = .ok (.nx (jF n m l' f' y4 y5 y6 y7)) s' := by
  obtain ⟨v1, s1, hv1, c1, e1⟩ := tapC (m := 2) h (by omega) (by omega)
  obtain ⟨v2, s2, hv2, c2, e2⟩ := tapC (m := 5) c1 (by omega) (by omega)
  have b1 : denS GJ [] [] ljB1 (jF n m (e :: rest) f x4 x5 x6 x7) s = .ok (.nx (jF n m rest f (.sh (eP e)) x5 x6 x7)) s := by
    have i0 : ixP s (eL (e :: rest)) (.int 0) = some (eP e) := at_map (f := eP) (xs := e :: rest) (k := 0) (by simp)
    have sl : slLoP (eL (e :: rest)) (.int 1) = some (eL rest) := by
      show some (PV.lst (((e :: rest).map eP).drop (clip ((e :: rest).map eP).length ((1 : Nat) : Int)))) = _
      rw [clip_nat (by simp)]
      rfl
    simp [ljB1, denS, denEs, den, Fm.get, bnd, ret, opt, Res.andThen, i0, sl, bindNs]
  have b2 : denS GJ [] [] ljB2 (jF n m rest f (.sh (eP e)) x5 x6 x7) s = .ok (.nx (jF n m rest f (.sh (eP e)) (.sh (.int ((1 + v1 : Nat) : Int))) (.sh (.int (v2 : Int))) x7)) s2 := by
    have t1 := tap_call (r := jF n m rest f (.sh (eP e)) x5 x6 x7) (n := n) (k := 2) rfl e1
    have t2 := tap_call (r := jF n m rest f (.sh (eP e)) x5 x6 x7) (n := n) (k := 5) rfl e2
    have a1 : den GJ [] [] (.bin .add (.int 1) (.call 0 (.cons (.var 0) (.cons (.int 2) .nil)))) false (jF n m rest f (.sh (eP e)) x5 x6 x7) s = .ok (.int ((1 + v1 : Nat) : Int)) s1 := by
      have o : den GJ [] [] (.int 1) true (jF n m rest f (.sh (eP e)) x5 x6 x7) s = .ok (.int 1) s := rfl
      have t1' : den GJ [] [] (.call 0 (.cons (.var 0) (.cons (.int 2) .nil))) true (jF n m rest f (.sh (eP e)) x5 x6 x7) s = .ok (.int (v1 : Int)) s1 := t1
      have c : ((1 + v1 : Nat) : Int) = 1 + (v1 : Int) := by omega
      rw [den, bnd_ok o, bnd_ok t1', c]
      rfl
    have t2' : den GJ [] [] (.call 0 (.cons (.var 0) (.cons (.int 5) .nil))) false (jF n m rest f (.sh (eP e)) x5 x6 x7) s1 = .ok (.int (v2 : Int)) s2 := t2
    have es : denEs GJ [] [] (.cons (.bin .add (.int 1) (.call 0 (.cons (.var 0) (.cons (.int 2) .nil)))) (.cons (.call 0 (.cons (.var 0) (.cons (.int 5) .nil))) .nil)) (jF n m rest f (.sh (eP e)) x5 x6 x7) s = .ok [.int ((1 + v1 : Nat) : Int), .int (v2 : Int)] s2 := by
      rw [denEs, bnd_ok a1]
      have : denEs GJ [] [] (.cons (.call 0 (.cons (.var 0) (.cons (.int 5) .nil))) .nil) (jF n m rest f (.sh (eP e)) x5 x6 x7) s1 = .ok [.int (v2 : Int)] s2 := by
        rw [denEs, bnd_ok t2']
        rfl
      rw [bnd_ok this]
      rfl
    unfold ljB2
    rw [denS, bnd_ok es]
    rfl
  have cd : den GJ [] [] (.or (.cmp .eq (.var 2) (.lst .nil)) (.cmp .eq (.var 6) (.int 0))) false (jF n m rest f (.sh (eP e)) (.sh (.int ((1 + v1 : Nat) : Int))) (.sh (.int (v2 : Int))) x7) s2 = .ok (.bl (decide (rest = []) || decide (v2 = 0))) s2 := by
    have d1 : den GJ [] [] (.cmp .eq (.var 2) (.lst .nil)) false (jF n m rest f (.sh (eP e)) (.sh (.int ((1 + v1 : Nat) : Int))) (.sh (.int (v2 : Int))) x7) s2 = .ok (.bl (decide (rest = []))) s2 := by
      show opt ((cmpP .eq (eL rest) (.lst [])).map PV.bl) s2 = _
      rw [eL_eq]
      rfl
    have d2 : den GJ [] [] (.cmp .eq (.var 6) (.int 0)) false (jF n m rest f (.sh (eP e)) (.sh (.int ((1 + v1 : Nat) : Int))) (.sh (.int (v2 : Int))) x7) s2 = .ok (.bl (decide (v2 = 0))) s2 := by
      show opt ((cmpP .eq (.int (v2 : Int)) (.int ((0 : Nat) : Int))).map PV.bl) s2 = _
      rw [cmp_eq (dat_i _ _) (dat_i _ _) (eqP_i _ _), nat_int]
      rfl
    rw [den, tst_ok d1]
    cases decide (rest = []) with
    | true => rfl
    | false => exact d2
  have lim : (f.map jP).length < LIM := by rw [List.length_map]; unfold LIM; omega
  have fin : ∀ l' f' y7 s', denS GJ [] [] ljB3 (jF n m rest f (.sh (eP e)) (.sh (.int ((1 + v1 : Nat) : Int))) (.sh (.int (v2 : Int))) x7) s2 = .ok (.nx (jF n m l' f' (.sh (eP e)) (.sh (.int ((1 + v1 : Nat) : Int))) (.sh (.int (v2 : Int))) y7)) s' → denSs GJ [] [] ljB (jF n m (e :: rest) f x4 x5 x6 x7) s = .ok (.nx (jF n m l' f' (.sh (eP e)) (.sh (.int ((1 + v1 : Nat) : Int))) (.sh (.int (v2 : Int))) y7)) s' := by
    intro l' f' y7 s' z
    unfold ljB
    rw [denSs, bnd_ok b1]
    simp only
    rw [denSs, bnd_ok b2]
    simp only
    rw [denSs, bnd_ok z]
    rfl
  have jm : ∀ j : Jt, f.map jP ++ [jP j] = (f ++ [j]).map jP := fun j => by rw [List.map_append]; rfl
  have l2 : 1 ≤ 1 + v1 ∧ 1 + v1 ≤ 2 := by omega
  cases q : (decide (rest = []) || decide (v2 = 0)) with
  | true =>
    rw [q] at cd
    refine ⟨rest, f ++ [⟨e, none, 1 + v1⟩], .sh (eP e), .sh (.int ((1 + v1 : Nat) : Int)), .sh (.int (v2 : Int)), x7, s2, Nat.le_refl _, by simp, k.add rfl l2 (fun o ho => (nomatch ho)) (List.Sublist.refl _) (List.Perm.refl _), c2, fin _ _ _ _ ?_⟩
    have a : denS GJ [] [] (.app 3 (.tup (.cons (.var 4) (.cons .non (.cons (.var 5) .nil))))) (jF n m rest f (.sh (eP e)) (.sh (.int ((1 + v1 : Nat) : Int))) (.sh (.int (v2 : Int))) x7) s2 = .ok (.nx (jF n m rest (f ++ [⟨e, none, 1 + v1⟩]) (.sh (eP e)) (.sh (.int ((1 + v1 : Nat) : Int))) (.sh (.int (v2 : Int))) x7)) s2 := by
      show (if (f.map jP).length < LIM then ret (Fl.nx (jF n m rest f (.sh (eP e)) (.sh (.int ((1 + v1 : Nat) : Int))) (.sh (.int (v2 : Int))) x7 |>.set 3 (.ow (f.map jP ++ [jP ⟨e, none, 1 + v1⟩])))) else stk) s2 = _
      rw [if_pos lim, jm]
      rfl
    unfold ljB3
    rw [denS, tst_ok cd, if_pos rfl]
    unfold ljX
    rw [denSs, bnd_ok a]
    rfl
  | false =>
    rw [q] at cd
    have rn : rest ≠ [] := fun z => by rw [z] at q; simp at q
    have rp : 0 < rest.length := List.length_pos_iff.mpr rn
    obtain ⟨v, s3, hv, c3, e3⟩ := tapC (m := rest.length) c2 rp (by omega)
    have pe := perm_erase hv
    refine ⟨rest.eraseIdx v, f ++ [⟨e, some rest[v], 1 + v1⟩], .sh (eP e), .sh (.int ((1 + v1 : Nat) : Int)), .sh (.int (v2 : Int)), .sh (.int (v : Int)), s3, (List.eraseIdx_sublist _ _).length_le, by simp, k.add (j := ⟨e, some rest[v], 1 + v1⟩) rfl l2 (fun o ho => by cases ho; exact List.getElem_mem hv) (List.eraseIdx_sublist _ _) pe, c3, fin _ _ _ _ ?_⟩
    have a1 : denS GJ [] [] (.set 7 (.call 0 (.cons (.var 0) (.cons (.b1 .len (.var 2)) .nil)))) (jF n m rest f (.sh (eP e)) (.sh (.int ((1 + v1 : Nat) : Int))) (.sh (.int (v2 : Int))) x7) s2 = .ok (.nx (jF n m rest f (.sh (eP e)) (.sh (.int ((1 + v1 : Nat) : Int))) (.sh (.int (v2 : Int))) (.sh (.int (v : Int))))) s3 := by
      have l : b1P .len (eL rest) = some (.int (rest.length : Int)) := by
        show some (PV.int ((rest.map eP).length : Int)) = _
        rw [List.length_map]
      have es : denEs GJ [] [] (.cons (.var 0) (.cons (.b1 .len (.var 2)) .nil)) (jF n m rest f (.sh (eP e)) (.sh (.int ((1 + v1 : Nat) : Int))) (.sh (.int (v2 : Int))) x7) s2 = .ok [.ref n, .int (rest.length : Int)] s2 := by
        simp [denEs, den, Fm.get, bnd, ret, opt, Res.andThen, l]
      have c : den GJ [] [] (.call 0 (.cons (.var 0) (.cons (.b1 .len (.var 2)) .nil))) false (jF n m rest f (.sh (eP e)) (.sh (.int ((1 + v1 : Nat) : Int))) (.sh (.int (v2 : Int))) x7) s2 = .ok (.int (v : Int)) s3 := by
        rw [den, bnd_ok es]
        exact e3
      rw [denS, bnd_ok c]
      rfl
    have a2 : denS GJ [] [] (.app 3 (.tup (.cons (.var 4) (.cons (.ix (.var 2) (.var 7)) (.cons (.var 5) .nil))))) (jF n m rest f (.sh (eP e)) (.sh (.int ((1 + v1 : Nat) : Int))) (.sh (.int (v2 : Int))) (.sh (.int (v : Int)))) s3 = .ok (.nx (jF n m rest (f ++ [⟨e, some rest[v], 1 + v1⟩]) (.sh (eP e)) (.sh (.int ((1 + v1 : Nat) : Int))) (.sh (.int (v2 : Int))) (.sh (.int (v : Int))))) s3 := by
      have i : ixP s3 (eL rest) (.int (v : Int)) = some (eP rest[v]) := at_map (f := eP) hv
      have es : den GJ [] [] (.tup (.cons (.var 4) (.cons (.ix (.var 2) (.var 7)) (.cons (.var 5) .nil)))) false (jF n m rest f (.sh (eP e)) (.sh (.int ((1 + v1 : Nat) : Int))) (.sh (.int (v2 : Int))) (.sh (.int (v : Int)))) s3 = .ok (jP ⟨e, some rest[v], 1 + v1⟩) s3 := by
        have ii : den GJ [] [] (.ix (.var 2) (.var 7)) false (jF n m rest f (.sh (eP e)) (.sh (.int ((1 + v1 : Nat) : Int))) (.sh (.int (v2 : Int))) (.sh (.int (v : Int)))) s3 = .ok (eP rest[v]) s3 := by
          show opt (ixP s3 (eL rest) (.int (v : Int))) s3 = _
          rw [i]
          rfl
        have e4 : den GJ [] [] (.var 4) false (jF n m rest f (.sh (eP e)) (.sh (.int ((1 + v1 : Nat) : Int))) (.sh (.int (v2 : Int))) (.sh (.int (v : Int)))) s3 = .ok (eP e) s3 := rfl
        have e5 : denEs GJ [] [] (.cons (.var 5) .nil) (jF n m rest f (.sh (eP e)) (.sh (.int ((1 + v1 : Nat) : Int))) (.sh (.int (v2 : Int))) (.sh (.int (v : Int)))) s3 = .ok [.int ((1 + v1 : Nat) : Int)] s3 := rfl
        have e6 : denEs GJ [] [] (.cons (.var 4) (.cons (.ix (.var 2) (.var 7)) (.cons (.var 5) .nil))) (jF n m rest f (.sh (eP e)) (.sh (.int ((1 + v1 : Nat) : Int))) (.sh (.int (v2 : Int))) (.sh (.int (v : Int)))) s3 = .ok [eP e, eP rest[v], .int ((1 + v1 : Nat) : Int)] s3 := by
          have e7 : denEs GJ [] [] (.cons (.ix (.var 2) (.var 7)) (.cons (.var 5) .nil)) (jF n m rest f (.sh (eP e)) (.sh (.int ((1 + v1 : Nat) : Int))) (.sh (.int (v2 : Int))) (.sh (.int (v : Int)))) s3 = .ok [eP rest[v], .int ((1 + v1 : Nat) : Int)] s3 := by
            rw [denEs, bnd_ok ii, bnd_ok e5]
            rfl
          rw [denEs, bnd_ok e4, bnd_ok e7]
          rfl
        rw [den, bnd_ok e6]
        rfl
      have g : denS GJ [] [] (.app 3 (.tup (.cons (.var 4) (.cons (.ix (.var 2) (.var 7)) (.cons (.var 5) .nil))))) (jF n m rest f (.sh (eP e)) (.sh (.int ((1 + v1 : Nat) : Int))) (.sh (.int (v2 : Int))) (.sh (.int (v : Int)))) s3 = bnd (den GJ [] [] (.tup (.cons (.var 4) (.cons (.ix (.var 2) (.var 7)) (.cons (.var 5) .nil)))) false (jF n m rest f (.sh (eP e)) (.sh (.int ((1 + v1 : Nat) : Int))) (.sh (.int (v2 : Int))) (.sh (.int (v : Int))))) (fun w => if (f.map jP).length < LIM then ret (Fl.nx (jF n m rest f (.sh (eP e)) (.sh (.int ((1 + v1 : Nat) : Int))) (.sh (.int (v2 : Int))) (.sh (.int (v : Int))) |>.set 3 (.ow (f.map jP ++ [w])))) else stk) s3 := rfl
      rw [g, bnd_ok es, if_pos lim, jm]
      rfl
    have a3 : denS GJ [] [] (.set 2 (.bin .add (.slHi (.var 2) (.var 7)) (.slLo (.var 2) (.bin .add (.var 7) (.int 1))))) (jF n m rest (f ++ [⟨e, some rest[v], 1 + v1⟩]) (.sh (eP e)) (.sh (.int ((1 + v1 : Nat) : Int))) (.sh (.int (v2 : Int))) (.sh (.int (v : Int)))) s3 = .ok (.nx (jF n m (rest.eraseIdx v) (f ++ [⟨e, some rest[v], 1 + v1⟩]) (.sh (eP e)) (.sh (.int ((1 + v1 : Nat) : Int))) (.sh (.int (v2 : Int))) (.sh (.int (v : Int))))) s3 := by
      have h1 : slHiP (eL rest) (.int (v : Int)) = some (eL (rest.take v)) := by
        show some (PV.lst ((rest.map eP).take (clip (rest.map eP).length (v : Int)))) = _
        rw [clip_nat (by rw [List.length_map]; omega)]
        unfold eL
        rw [List.map_take]
      have h2 : slLoP (eL rest) (.int ((v : Int) + 1)) = some (eL (rest.drop (v + 1))) := by
        show some (PV.lst ((rest.map eP).drop (clip (rest.map eP).length ((v + 1 : Nat) : Int)))) = _
        rw [clip_nat (by rw [List.length_map]; omega)]
        unfold eL
        rw [List.map_drop]
      have h3 : binP .add (eL (rest.take v)) (eL (rest.drop (v + 1))) = some (eL (rest.eraseIdx v)) := by
        show (if ((rest.take v).map eP).length + ((rest.drop (v + 1)).map eP).length ≤ LIM then some (PV.lst ((rest.take v).map eP ++ (rest.drop (v + 1)).map eP)) else none) = _
        rw [if_pos (by simp [LIM]; omega), ← List.map_append, ← List.eraseIdx_eq_take_drop_succ]
        rfl
      have h4 : binP .add (.int (v : Int)) (.int 1) = some (.int ((v : Int) + 1)) := rfl
      simp [denS, den, Fm.get, bnd, ret, opt, Res.andThen, h1, h2, h3, h4]
    unfold ljB3
    rw [denS, tst_ok cd]
    show denSs GJ [] [] ljY _ s2 = _
    unfold ljY
    rw [denSs, bnd_ok a1]
    simp only
    rw [denSs, bnd_ok a2]
    simp only
    rw [denSs, bnd_ok a3]
    rfl
theorem lj_loop {n m : Nat} : ∀ (q : Nat) (l : List En) (f : List Jt) (x4 x5 x6 x7 : Sl) (s : AS), l.length < q → l.length ≤ 500 → f.length + l.length ≤ 500 → Kn m l f → Ch s n → ∃ f' y4 y5 y6 y7 s', Kn m [] f' ∧ Ch s' n ∧
    whGo (fun r1 => den GJ [] [] ljC false r1) (fun r1 => denSs GJ [] [] ljB r1) q (jF n m l f x4 x5 x6 x7) s = .ok (.nx (jF n m [] f' y4 y5 y6 y7)) s'
  | 0, l, f, x4, x5, x6, x7, s, hq, _, _, _, _ => absurd hq (by omega)
  | q + 1, l, f, x4, x5, x6, x7, s, hq, hl, hf, k, h => by
    have c : den GJ [] [] ljC false (jF n m l f x4 x5 x6 x7) s = .ok (.bl (!decide (l = []))) s := by
      show opt ((cmpP .ne (eL l) (.lst [])).map PV.bl) s = _
      rw [eL_ne]
      rfl
    rw [whGo, tst_ok c]
    cases l with
    | nil => exact ⟨f, x4, x5, x6, x7, s, k, h, rfl⟩
    | cons e rest =>
      simp only [List.length_cons] at hq hl hf
      obtain ⟨l', f', y4, y5, y6, y7, s1, b1, b2, k', h', z⟩ := lj_b (x4 := x4) (x5 := x5) (x6 := x6) (x7 := x7) k h (by omega) (by omega)
      obtain ⟨f2, z4, z5, z6, z7, s2, k2, h2, y⟩ := lj_loop q l' f' y4 y5 y6 y7 s1 (by omega) (by omega) (by omega) k' h'
      refine ⟨f2, z4, z5, z6, z7, s2, k2, h2, ?_⟩
      show bnd (fun s => denSs GJ [] [] ljB (jF n m (e :: rest) f x4 x5 x6 x7) s) _ s = _
      rw [bnd_ok z]
      exact y
theorem joints_ok {n m : Nat} {s : AS} (h1 : 1 ≤ m) (h3 : m ≤ 3) (h : Ch s n) : ∃ js s', Kn m [] js ∧ Ch s' n ∧ d__law_joints [.ref n, .int (m : Int)] s = .ok (.tup (js.map jP)) s' := by
  have al : (allE m).length ≤ 9 := by
    match m, h3 with
    | 0, _ => decide
    | 1, _ => decide
    | 2, _ => decide
    | 3, _ => decide
  have k0 : Kn m (allE m) [] := ⟨allE_sorted m h3, List.Perm.refl _, fun j hj => (nomatch hj), fun j hj => (nomatch hj), .nil, fun j hj => (nomatch hj)⟩
  obtain ⟨js, y4, y5, y6, y7, s', k, c, z⟩ := lj_loop (n := n) 200 (allE m) [] .no .no .no .no s (by omega) (by omega) (by simp; omega) k0 h
  refine ⟨js, s', k, c, ?_⟩
  have a1 : denS GJ [] [] (.parL 2 3 (.call 1 (.cons (.var 1) .nil))) [.sh (.ref n), .sh (.int (m : Int)), .no, .no, .no, .no, .no, .no] s = .ok (.nx (jF n m (allE m) [] .no .no .no .no)) s := by
    show bnd (d__law_ends [.int (m : Int)]) _ s = _
    rw [bnd_ok (lawEnds_ok m h3 s)]
    rfl
  have a2 : denS GJ [] [] (.while_ 200 ljC ljB) (jF n m (allE m) [] .no .no .no .no) s = .ok (.nx (jF n m [] js y4 y5 y6 y7)) s' := by
    rw [denS]
    exact z
  have f : denSs GJ [] [] ir__law_joints [.sh (.ref n), .sh (.int (m : Int)), .no, .no, .no, .no, .no, .no] s = .ok (.rt (.tup (js.map jP))) s' := by
    rw [ir_joints_eq, denSs, bnd_ok a1]
    simp only
    rw [denSs, bnd_ok a2]
    rfl
  unfold d__law_joints run
  exact bnd_ok f
/-! a track -/
theorem kinds_go {n : Nat} {f : PV → M (List PV)} (hf : ∀ x s, Ch s n → ∃ k s', Ch s' n ∧ f x s = .ok [kP k] s') : ∀ (xs : List PV) (acc : List PV) (s : AS), Ch s n → ∃ (ks : List Kd) (s' : AS), ks.length = xs.length ∧ Ch s' n ∧ lcGo f xs acc s = .ok (acc ++ ks.map kP) s'
  | [], acc, s, h => ⟨[], s, rfl, h, by simp [lcGo, ret]⟩
  | x :: xs, acc, s, h => by
    obtain ⟨k, s1, h1, e⟩ := hf x s h
    obtain ⟨ks, s2, l, h2, z⟩ := kinds_go hf xs (acc ++ [kP k]) s1 h1
    refine ⟨k :: ks, s2, by simp [l], h2, ?_⟩
    rw [lcGo, bnd_ok e, z, List.append_assoc]
    rfl
abbrev GTr : List Den := [d__law_joints, d__law_any_of, d__law_tap]
def ltK : E := .lc (.call 1 (.cons (.var 0) (.cons (.lst (.cons (.str "lazy") (.cons (.str "lazy") (.cons (.str "sprung") (.cons (.str "turning") .nil))))) .nil))) (.nm 4) (.range1 (.var 2)) (.bl true) [4]
theorem ir_track_eq : ir__law_track = .cons (.set 2 (.bin .add (.int 1) (.call 2 (.cons (.var 0) (.cons (.var 1) .nil))))) (.cons (.set 3 (.b1 .tuple ltK)) (.cons (.retE (.tup (.cons (.var 3) (.cons (.call 0 (.cons (.var 0) (.cons (.var 2) .nil))) .nil)))) .nil)) := rfl
theorem track_ok {n : Nat} {s : AS} (h : Ch s n) : ∃ t s', VX t ∧ Ch s' n ∧ d__law_track [.ref n, .int 3] s = .ok (tP t) s' := by
  obtain ⟨v, s1, hv, c1, e1⟩ := tapC (m := 3) h (by omega) (by omega)
  have a1 : denS GTr [] [] (.set 2 (.bin .add (.int 1) (.call 2 (.cons (.var 0) (.cons (.var 1) .nil))))) [.sh (.ref n), .sh (.int 3), .no, .no, .no] s = .ok (.nx [.sh (.ref n), .sh (.int 3), .sh (.int ((1 + v : Nat) : Int)), .no, .no]) s1 := by
    have o : den GTr [] [] (.int 1) true [.sh (.ref n), .sh (.int 3), .no, .no, .no] s = .ok (.int 1) s := rfl
    have t1 : den GTr [] [] (.call 2 (.cons (.var 0) (.cons (.var 1) .nil))) true [.sh (.ref n), .sh (.int 3), .no, .no, .no] s = .ok (.int (v : Int)) s1 := e1
    have c : ((1 + v : Nat) : Int) = 1 + (v : Int) := by omega
    have e : den GTr [] [] (.bin .add (.int 1) (.call 2 (.cons (.var 0) (.cons (.var 1) .nil)))) false [.sh (.ref n), .sh (.int 3), .no, .no, .no] s = .ok (.int ((1 + v : Nat) : Int)) s1 := by
      rw [den, bnd_ok o, bnd_ok t1, c]
      rfl
    rw [denS, bnd_ok e]
    rfl
  have kg := kinds_go (n := n) (f := fun x => bnd (opt (bindT (.nm 4) x (Fm.wipe [.sh (.ref n), .sh (.int 3), .sh (.int ((1 + v : Nat) : Int)), .no, .no] [4]))) fun r2 => tst (den GTr [] [] (.bl true) false r2) fun k => if k then bnd (den GTr [] [] (.call 1 (.cons (.var 0) (.cons (.lst (.cons (.str "lazy") (.cons (.str "lazy") (.cons (.str "sprung") (.cons (.str "turning") .nil))))) .nil))) false r2) fun y => ret [y] else ret []) (fun x s h => by
    obtain ⟨k, hk, s', h', e⟩ := anyC (enc := kP) (xs := [.lz, .lz, .sp, .tu]) h (by simp) (by simp)
    refine ⟨k, s', h', ?_⟩
    have e2 : den GTr [] [] (.call 1 (.cons (.var 0) (.cons (.lst (.cons (.str "lazy") (.cons (.str "lazy") (.cons (.str "sprung") (.cons (.str "turning") .nil))))) .nil))) false [.sh (.ref n), .sh (.int 3), .sh (.int ((1 + v : Nat) : Int)), .no, .sh x] s = .ok (kP k) s' := e
    show bnd (den GTr [] [] (.call 1 (.cons (.var 0) (.cons (.lst (.cons (.str "lazy") (.cons (.str "lazy") (.cons (.str "sprung") (.cons (.str "turning") .nil))))) .nil))) false [.sh (.ref n), .sh (.int 3), .sh (.int ((1 + v : Nat) : Int)), .no, .sh x]) (fun y => ret [y]) s = _
    rw [bnd_ok e2]
    rfl)
  obtain ⟨ks, s2, kl, c2, z2⟩ := kg ((List.range (1 + v)).map fun i : Nat => PV.int (i : Int)) [] s1 c1
  rw [List.length_map, List.length_range] at kl
  have a2 : denS GTr [] [] (.set 3 (.b1 .tuple ltK)) [.sh (.ref n), .sh (.int 3), .sh (.int ((1 + v : Nat) : Int)), .no, .no] s1 = .ok (.nx [.sh (.ref n), .sh (.int 3), .sh (.int ((1 + v : Nat) : Int)), .sh (.tup (ks.map kP)), .no]) s2 := by
    have it : denIt GTr [] [] (.range1 (.var 2)) true [.sh (.ref n), .sh (.int 3), .sh (.int ((1 + v : Nat) : Int)), .no, .no] s1 = .ok ((List.range (1 + v)).map fun i : Nat => PV.int (i : Int)) s1 := by
      show opt (rangeOf (.int ((1 + v : Nat) : Int))) s1 = _
      rw [rangeOf_ok (by omega)]
      rfl
    have L : den GTr [] [] ltK true [.sh (.ref n), .sh (.int 3), .sh (.int ((1 + v : Nat) : Int)), .no, .no] s1 = .ok (.lst (ks.map kP)) s2 := by
      unfold ltK
      rw [den, bnd_ok it]
      rw [List.nil_append] at z2
      refine noExc_ok ((bnd_ok z2).trans (finL_ok ?_))
      rw [List.length_map, kl]
      unfold LIM
      omega
    have b : den GTr [] [] (.b1 .tuple ltK) false [.sh (.ref n), .sh (.int 3), .sh (.int ((1 + v : Nat) : Int)), .no, .no] s1 = .ok (.tup (ks.map kP)) s2 := by
      rw [den, bnd_ok L]
      rfl
    rw [denS, bnd_ok b]
    rfl
  obtain ⟨js, s3, k3, c3, z3⟩ := joints_ok (m := 1 + v) (by omega) (by omega) c2
  refine ⟨⟨ks, js⟩, s3, k3.vx (by omega) (by omega) kl, c3, ?_⟩
  have a3 : denS GTr [] [] (.retE (.tup (.cons (.var 3) (.cons (.call 0 (.cons (.var 0) (.cons (.var 2) .nil))) .nil)))) [.sh (.ref n), .sh (.int 3), .sh (.int ((1 + v : Nat) : Int)), .sh (.tup (ks.map kP)), .no] s2 = .ok (.rt (tP ⟨ks, js⟩)) s3 := by
    have e1 : den GTr [] [] (.var 3) false [.sh (.ref n), .sh (.int 3), .sh (.int ((1 + v : Nat) : Int)), .sh (.tup (ks.map kP)), .no] s2 = .ok (.tup (ks.map kP)) s2 := rfl
    have e2 : den GTr [] [] (.call 0 (.cons (.var 0) (.cons (.var 2) .nil))) false [.sh (.ref n), .sh (.int 3), .sh (.int ((1 + v : Nat) : Int)), .sh (.tup (ks.map kP)), .no] s2 = .ok (.tup (js.map jP)) s3 := z3
    have e3 : denEs GTr [] [] (.cons (.call 0 (.cons (.var 0) (.cons (.var 2) .nil))) .nil) [.sh (.ref n), .sh (.int 3), .sh (.int ((1 + v : Nat) : Int)), .sh (.tup (ks.map kP)), .no] s2 = .ok [.tup (js.map jP)] s3 := by
      rw [denEs, bnd_ok e2]
      rfl
    have e4 : denEs GTr [] [] (.cons (.var 3) (.cons (.call 0 (.cons (.var 0) (.cons (.var 2) .nil))) .nil)) [.sh (.ref n), .sh (.int 3), .sh (.int ((1 + v : Nat) : Int)), .sh (.tup (ks.map kP)), .no] s2 = .ok [.tup (ks.map kP), .tup (js.map jP)] s3 := by
      rw [denEs, bnd_ok e1, bnd_ok e3]
      rfl
    have e5 : den GTr [] [] (.tup (.cons (.var 3) (.cons (.call 0 (.cons (.var 0) (.cons (.var 2) .nil))) .nil))) false [.sh (.ref n), .sh (.int 3), .sh (.int ((1 + v : Nat) : Int)), .sh (.tup (ks.map kP)), .no] s2 = .ok (tP ⟨ks, js⟩) s3 := by
      rw [den, bnd_ok e4]
      rfl
    rw [denS, bnd_ok e5]
    rfl
  have f : denSs GTr [] [] ir__law_track [.sh (.ref n), .sh (.int 3), .no, .no, .no] s = .ok (.rt (tP ⟨ks, js⟩)) s3 := by
    rw [ir_track_eq, denSs, bnd_ok a1]
    simp only
    rw [denSs, bnd_ok a2]
    simp only
    rw [denSs, bnd_ok a3]
    rfl
  unfold d__law_track run
  exact bnd_ok f
end RP

/-! Sr7: ways. Own work. -/
namespace RP
open PySem
section
variable {G : List Den} {GV : List (Str × Nat × Den)} {C : List PV} {r r' : Fm} {s s' : AS}
theorem ss_nx {S : S} {ss : Ss} {z : Res Fl} (h : denS G GV C S r s = .ok (.nx r') s') (k : denSs G GV C ss r' s' = z) : denSs G GV C (.cons S ss) r s = z := by
  rw [denSs, bnd_ok h]
  exact k
theorem ss_rt {S : S} {ss : Ss} {v : PV} (h : denS G GV C S r s = .ok (.rt v) s') : denSs G GV C (.cons S ss) r s = .ok (.rt v) s' := by
  rw [denSs, bnd_ok h]
  rfl
theorem s_set {i : Nat} {e : E} {v : PV} (h : den G GV C e false r s = .ok v s') : denS G GV C (.set i e) r s = .ok (.nx (r.set i (.sh v))) s' := by
  rw [denS, bnd_ok h]
  rfl
theorem s_ret {e : E} {v : PV} (h : den G GV C e false r s = .ok v s') : denS G GV C (.retE e) r s = .ok (.rt v) s' := by
  rw [denS, bnd_ok h]
  rfl
theorem s_expr {e : E} {v : PV} (h : den G GV C e false r s = .ok v s') : denS G GV C (.expr e) r s = .ok (.nx r) s' := by
  rw [denS, bnd_ok h]
  rfl
theorem s_setT {is : List Nat} {e : E} {v : PV} (h : den G GV C e true r s = .ok v s') (hb : bndN is v r = some r') : denS G GV C (.setT is e) r s = .ok (.nx r') s' := by
  rw [denS, bnd_ok h, hb]
  rfl
theorem s_ifF {c : E} {a : Ss} (h : den G GV C c false r s = .ok (.bl false) s') : denS G GV C (.ife c a .nil) r s = .ok (.nx r) s' := by
  rw [denS, tst_ok h]
  rfl
theorem s_app {i : Nat} {e : E} {xs : List PV} {v : PV} (hi : Fm.get r i = .ow xs) (h : den G GV C e false r s = .ok v s') (hl : xs.length < LIM) : denS G GV C (.app i e) r s = .ok (.nx (r.set i (.ow (xs ++ [v])))) s' := by
  rw [denS, hi]
  show bnd _ _ s = _
  rw [bnd_ok h]
  show (if xs.length < LIM then ret _ else stk) s' = _
  rw [if_pos hl]
  rfl
theorem d_add {op : BO} {a b : E} {x y z : PV} {o : Bool} {s2 : AS} (h1 : den G GV C a true r s = .ok x s') (h2 : den G GV C b true r s' = .ok y s2) (h : binP op x y = some z) : den G GV C (.bin op a b) o r s = .ok z s2 := by
  rw [den, bnd_ok h1, bnd_ok h2, h]
  rfl
theorem d_slHi {a b : E} {x y z : PV} {o : Bool} {s2 : AS} (h1 : den G GV C a true r s = .ok x s') (h2 : den G GV C b false r s' = .ok y s2) (h : slHiP x y = some z) : den G GV C (.slHi a b) o r s = .ok z s2 := by
  rw [den, bnd_ok h1, bnd_ok h2, h]
  rfl
theorem d_call {j : Nat} {es : Es} {vs : List PV} {v : PV} {o : Bool} {s2 : AS} (h1 : denEs G GV C es r s = .ok vs s') (h2 : getFn G j vs s' = .ok v s2) : den G GV C (.call j es) o r s = .ok v s2 := by
  rw [den, bnd_ok h1]
  exact h2
theorem es_nil : denEs G GV C .nil r s = .ok [] s := rfl
theorem es_cons {e : E} {es : Es} {v : PV} {vs : List PV} {s2 : AS} (h1 : den G GV C e false r s = .ok v s') (h2 : denEs G GV C es r s' = .ok vs s2) : denEs G GV C (.cons e es) r s = .ok (v :: vs) s2 := by
  rw [denEs, bnd_ok h1, bnd_ok h2]
  rfl
theorem run_ok {n : Nat} {b : Ss} {args : List PV} {v : PV} (h : denSs G GV C b (args.map .sh ++ List.replicate (n - args.length) .no) s = .ok (.rt v) s') : run G GV C n b args s = .ok v s' := bnd_ok h
theorem run_nx {n : Nat} {b : Ss} {args : List PV} (h : denSs G GV C b (args.map .sh ++ List.replicate (n - args.length) .no) s = .ok (.nx r') s') : run G GV C n b args s = .ok .non s' := bnd_ok h
end
abbrev Rw : Type := Pl × Nat × Nat
def rP (x : Rw) : PV := .tup [pP x.1, .int x.2.1, .int x.2.2]
def Tk.row (t : Tk) (p : Pl) : Rw := (t.st p, t.si p, t.sk p)
def Tk.way (t : Tk) : Nat → Pl → List Rw
  | 0, _ => []
  | n + 1, p => t.row p :: t.way n (t.st p)
theorem way_len (t : Tk) : ∀ (n : Nat) (p : Pl), (t.way n p).length = n
  | 0, _ => rfl
  | n + 1, p => by rw [Tk.way, List.length_cons, way_len t n]
theorem map_add {α β : Type} (f : α → β) (xs : List α) (x : α) : xs.map f ++ [f x] = (xs ++ [x]).map f := by rw [List.map_append]; rfl
end RP

/-! Sr8: refusals. Own work. -/
namespace RP
open PySem
theorem bnd_exc {α β : Type} {x : M α} {f : α → M β} {s s' : AS} {e : Exc} (h : x s = .exc e s') : bnd x f s = .exc e s' := by
  unfold bnd
  rw [h]
  rfl
section
variable {G : List Den} {GV : List (Str × Nat × Den)} {C : List PV} {r r' : Fm} {s s' : AS} {x : Exc}
theorem ss_exc {S : S} {ss : Ss} (h : denS G GV C S r s = .exc x s') : denSs G GV C (.cons S ss) r s = .exc x s' := by
  rw [denSs, bnd_exc h]
theorem s_exprX {e : E} (h : den G GV C e false r s = .exc x s') : denS G GV C (.expr e) r s = .exc x s' := by
  rw [denS, bnd_exc h]
theorem d_callX {j : Nat} {es : Es} {vs : List PV} {o : Bool} {s2 : AS} (h1 : denEs G GV C es r s = .ok vs s') (h2 : getFn G j vs s' = .exc x s2) : den G GV C (.call j es) o r s = .exc x s2 := by
  rw [den, bnd_ok h1]
  exact h2
theorem run_exc {n : Nat} {b : Ss} {args : List PV} (h : denSs G GV C b (args.map .sh ++ List.replicate (n - args.length) .no) s = .exc x s') : run G GV C n b args s = .exc x s' := bnd_exc h
theorem d_cmp {op : CO} {a b : E} {y z : PV} {k o : Bool} {s2 : AS} (h1 : den G GV C a true r s = .ok y s') (h2 : den G GV C b true r s' = .ok z s2) (h : cmpP op y z = some k) : den G GV C (.cmp op a b) o r s = .ok (.bl k) s2 := by
  rw [den, bnd_ok h1, bnd_ok h2, h]
  rfl
theorem d_orF {a b : E} {o : Bool} {s2 : AS} (h1 : den G GV C a false r s = .ok (.bl false) s') (h2 : den G GV C b false r s' = .ok (.bl false) s2) : den G GV C (.or a b) o r s = .ok (.bl false) s2 := by
  rw [den, tst_ok h1]
  exact h2
theorem d_lamX {tab : List (Str × Str)} {e : E} {c w : Str} {o : Bool} (h : den G GV C e false r s = .exc (.mk c []) s') (hw : tab.lookup c = some w) : den G GV C (.lam tab e) o r s = .ok (.tup [.str w]) s' := by
  rw [den]
  unfold lamD
  rw [h]
  simp only
  rw [hw]
theorem d_callvX {i : Nat} {es : Es} {f : Str} {p : Str × Nat × Den} {vs : List PV} {o : Bool} {s2 : AS} (hg : Fm.get r i = .sh (.fn f)) (hp : callP GV f = some p) (he : denEs G GV C es r s = .ok vs s') (hl : vs.length = p.2.1) (hd : p.2.2 vs s' = .exc x s2) : den G GV C (.callv i es) o r s = .exc x s2 := by
  rw [den, hg]
  simp only
  rw [hp]
  simp only
  rw [bnd_ok he]
  unfold callN
  rw [if_pos hl]
  exact hd
/-- a loop that keeps all but its own slot -/
theorem for_keep {F : Sl → Fm} {i : Nat} {b : Ss} (hF : ∀ y x, (F y).set i (.sh x) = F (.sh x)) : ∀ (xs : List PV), (∀ x ∈ xs, denSs G GV C b (F (.sh x)) s = .ok (.nx (F (.sh x))) s) → ∀ y, ∃ y', forGo (fun x r1 => bnd (opt (bindT (.nm i) x r1)) fun r2 => denSs G GV C b r2) xs (F y) s = .ok (.nx (F y')) s
  | [], _, y => ⟨y, rfl⟩
  | x :: xs, h, y => by
    obtain ⟨y', z⟩ := for_keep hF xs (fun x hx => h x (by simp [hx])) (.sh x)
    refine ⟨y', ?_⟩
    have g : bnd (opt (bindT (.nm i) x (F y))) (fun r2 => denSs G GV C b r2) s = .ok (.nx (F (.sh x))) s := by
      show denSs G GV C b ((F y).set i (.sh x)) s = _
      rw [hF]
      exact h x (by simp)
    rw [forGo, bnd_ok g]
    exact z
theorem s_for {t : Tg} {it : It} {b : Ss} {xs : List PV} {z : Res Fl} (hi : denIt G GV C it false r s = .ok xs s') (h : forGo (fun x r1 => bnd (opt (bindT t x r1)) fun r2 => denSs G GV C b r2) xs r s' = z) : denS G GV C (.for_ t it b) r s = z := by
  rw [denS, bnd_ok hi]
  exact h
end
end RP

/-! Kx1: two trains, in plain data. Own work. -/
namespace RP
open PySem
theorem nodup_le {α : Type} [DecidableEq α] : ∀ {xs ys : List α}, xs.Nodup → (∀ x ∈ xs, x ∈ ys) → xs.length ≤ ys.length
  | [], _, _, _ => Nat.zero_le _
  | x :: xs, ys, h, hs => by
    have h := List.nodup_cons.mp h
    have hx : x ∈ ys := hs x (by simp)
    have le := nodup_le (xs := xs) (ys := ys.erase x) h.2 fun y hy => (List.mem_erase_of_ne (fun e => h.1 (by rw [← e]; exact hy))).mpr (hs y (by simp [hy]))
    have l := List.length_erase_of_mem hx
    have p := List.length_pos_of_mem hx
    rw [List.length_cons]
    omega
abbrev Tn : Type := En × Nat
abbrev TS : Type := Tn × Tn × Sd
def apart (t : Tk) (a b : Tn) : Bool := !decide (t.idx a.1 = t.idx b.1) || ((t.jt (t.idx a.1)).o.isSome && decide (a.1 = b.1))
def mv (t : Tk) (a : Tn) (st : Sd) : Tn × Sd := if 0 < a.2 then (a, st) else ((t.to (t.ov a.1 st).1, t.tk (t.ov a.1 st).1), (t.ov a.1 st).2)
def stop (t : Tk) (a b : Tn) : Bool := !apart t a b || (decide (a.2 = 0) && (decide (b.2 = 0) && decide (a.1.1 = b.1.1)))
def dn1 (a : Tn) : Tn := (a.1, a.2 - 1)
def nx (t : Tk) (x : TS) : Option TS := if stop t x.1 x.2.1 then none else
  if apart t (mv t x.1 x.2.2).1 (mv t x.2.1 (mv t x.1 x.2.2).2).1 then some (dn1 (mv t x.1 x.2.2).1, dn1 (mv t x.2.1 (mv t x.1 x.2.2).2).1, (mv t x.2.1 (mv t x.1 x.2.2).2).2) else none
def lp (t : Tk) : Nat → List TS → TS → Nat → Option Nat
  | 0, _, _, _ => none
  | f + 1, seen, x, k => if x ∈ seen then none else match nx t x with
    | none => some k
    | some y => lp t f (seen ++ [x]) y (k + 1)
/-! the other way about -/
def sw (x : TS) : TS := (x.2.1, x.1, x.2.2)
theorem sw_sw (x : TS) : sw (sw x) = x := rfl
theorem apart_comm (t : Tk) (a b : Tn) : apart t b a = apart t a b := by
  unfold apart
  by_cases h : t.idx a.1 = t.idx b.1
  · rw [decide_eq_true h, decide_eq_true h.symm, h]
    by_cases k : a.1 = b.1
    · rw [decide_eq_true k, decide_eq_true k.symm]
    · rw [decide_eq_false k, decide_eq_false (fun z => k z.symm)]
  · rw [decide_eq_false h, decide_eq_false (fun z => h z.symm)]
    rfl
theorem stop_comm (t : Tk) (a b : Tn) : stop t b a = stop t a b := by
  unfold stop
  rw [apart_comm]
  by_cases h1 : a.2 = 0 <;> by_cases h2 : b.2 = 0 <;> by_cases h3 : a.1.1 = b.1.1
  all_goals simp [h1, h2, h3, eq_comm]
  all_goals (intro _ z; exact absurd z.symm h3)
theorem ov_other {t : Tk} {a b : En} {st : Sd} (h : a.1 ≠ b.1) : (t.ov b (t.ov a st).2).1 = (t.ov b st).1 ∧ us b (t.ov a st).2 = us b st := by
  have g : (t.ov a st).2.getD b.1 .a = st.getD b.1 .a := by
    unfold Tk.ov
    dsimp only
    cases t.ks.getD a.1 .lz with
    | lz => simp [List.getD_eq_getElem?_getD, List.getElem?_set_ne h]
    | tu => simp [List.getD_eq_getElem?_getD, List.getElem?_set_ne h]
    | sp => rfl
  have u : us b (t.ov a st).2 = us b st := by unfold us; rw [g]
  refine ⟨?_, u⟩
  show (b.1, if b.2 = .a then us b (t.ov a st).2 else Lg.a) = (b.1, if b.2 = .a then us b st else Lg.a)
  rw [u]
theorem ov_set (t : Tk) (a : En) (st : Sd) : (t.ov a st).2 = match t.ks.getD a.1 .lz with
  | .lz => st.set a.1 (us a st)
  | .tu => st.set a.1 (us a st).ot
  | .sp => st := rfl
theorem ov_comm {t : Tk} {a b : En} {st : Sd} (h : a.1 ≠ b.1) : (t.ov b (t.ov a st).2).2 = (t.ov a (t.ov b st).2).2 := by
  have u1 := (ov_other (t := t) (st := st) h).2
  have u2 := (ov_other (t := t) (st := st) (a := b) (b := a) (Ne.symm h)).2
  rw [ov_set t b (t.ov a st).2, ov_set t a (t.ov b st).2, u1, u2, ov_set t a st, ov_set t b st]
  cases t.ks.getD a.1 .lz <;> cases t.ks.getD b.1 .lz <;> simp [List.set_comm _ _ h]
theorem mv_pos {t : Tk} {a : Tn} {st : Sd} (h : 0 < a.2) : mv t a st = (a, st) := by unfold mv; rw [if_pos h]
theorem mv_zero {t : Tk} {a : Tn} {st : Sd} (h : ¬ 0 < a.2) : mv t a st = ((t.to (t.ov a.1 st).1, t.tk (t.ov a.1 st).1), (t.ov a.1 st).2) := by unfold mv; rw [if_neg h]
theorem mv_comm {t : Tk} {a b : Tn} {st : Sd} (h : stop t a b = false) : (mv t a (mv t b st).2).1 = (mv t a st).1 ∧ (mv t b (mv t a st).2).1 = (mv t b st).1 ∧ (mv t a (mv t b st).2).2 = (mv t b (mv t a st).2).2 := by
  by_cases ha : 0 < a.2
  · by_cases hb : 0 < b.2
    · rw [mv_pos hb, mv_pos ha, mv_pos hb]; exact ⟨rfl, rfl, rfl⟩
    · rw [mv_pos ha, mv_pos ha]; exact ⟨rfl, rfl, rfl⟩
  · by_cases hb : 0 < b.2
    · rw [mv_pos hb, mv_pos hb]; exact ⟨rfl, rfl, rfl⟩
    · have hp : a.1.1 ≠ b.1.1 := fun z => by
        unfold stop at h
        rw [decide_eq_true (show a.2 = 0 by omega), decide_eq_true (show b.2 = 0 by omega), decide_eq_true z] at h
        simp at h
      rw [mv_zero ha, mv_zero hb, mv_zero ha, mv_zero hb]
      dsimp only
      rw [(ov_other (t := t) (st := st) hp).1, (ov_other (t := t) (st := st) (a := b.1) (b := a.1) (Ne.symm hp)).1, ov_comm hp]
      exact ⟨rfl, rfl, rfl⟩
theorem nx_sw (t : Tk) (x : TS) : nx t (sw x) = (nx t x).map sw := by
  obtain ⟨a, b, st⟩ := x
  unfold nx sw
  dsimp only
  rw [stop_comm]
  cases h : stop t a b with
  | true => rfl
  | false =>
    obtain ⟨h1, h2, h3⟩ := mv_comm (t := t) (a := a) (b := b) (st := st) h
    rw [h1, h2, h3, apart_comm]
    cases apart t (mv t a st).1 (mv t b st).1 with
    | true => rfl
    | false => rfl
theorem sw_mem {x : TS} {seen : List TS} : sw x ∈ seen.map sw ↔ x ∈ seen := by
  rw [List.mem_map]
  constructor
  · rintro ⟨y, hy, e⟩
    have : sw (sw y) = sw (sw x) := by rw [e]
    rw [sw_sw, sw_sw] at this
    rw [← this]; exact hy
  · intro h; exact ⟨x, h, rfl⟩
theorem lp_sw (t : Tk) : ∀ (f : Nat) (seen : List TS) (x : TS) (k : Nat), lp t f (seen.map sw) (sw x) k = lp t f seen x k
  | 0, _, _, _ => rfl
  | f + 1, seen, x, k => by
    rw [lp, lp]
    by_cases h : x ∈ seen
    · rw [if_pos (sw_mem.mpr h), if_pos h]
    · rw [if_neg (fun z => h (sw_mem.mp z)), if_neg h, nx_sw]
      cases nx t x with
      | none => rfl
      | some y =>
        show lp t f (seen.map sw ++ [sw x]) (sw y) (k + 1) = lp t f (seen ++ [x]) y (k + 1)
        rw [← lp_sw t f (seen ++ [x]) y (k + 1), List.map_append]
        rfl
/-! all states -/
structure TOk (t : Tk) (x : TS) : Prop where
  a : x.1.1.1 < t.n
  ak : x.1.2 ≤ 3
  b : x.2.1.1.1 < t.n
  bk : x.2.1.2 ≤ 3
  s : x.2.2.length = t.n
  l : ∀ y ∈ x.2.2, y ≠ Lg.a
def prod {α β γ : Type} (f : α → β → γ) (xs : List α) (ys : List β) : List γ := xs.flatMap fun x => ys.map (f x)
theorem prod_len {α β γ : Type} (f : α → β → γ) (xs : List α) (ys : List β) : (prod f xs ys).length = xs.length * ys.length := by
  unfold prod
  induction xs with
  | nil => simp
  | cons x xs ih =>
    rw [List.flatMap_cons, List.length_append, ih, List.length_map, List.length_cons, Nat.succ_mul]
    omega
theorem mem_prod {α β γ : Type} {f : α → β → γ} {xs : List α} {ys : List β} {x : α} {y : β} (hx : x ∈ xs) (hy : y ∈ ys) : f x y ∈ prod f xs ys := List.mem_flatMap.mpr ⟨x, hx, List.mem_map.mpr ⟨y, hy, rfl⟩⟩
def allT (n : Nat) : List Tn := prod (fun e k => (e, k)) (allE n) (List.range 4)
def allX (n : Nat) : List TS := prod (fun a x => (a, x)) (allT n) (prod (fun b st => (b, st)) (allT n) (allS n))
theorem mem_allX {t : Tk} {x : TS} (h : TOk t x) : x ∈ allX t.n := by
  have ha : x.1 ∈ allT t.n := mem_prod (f := fun e k => (e, k)) (mem_allE.mpr h.a) (List.mem_range.mpr (Nat.lt_succ_of_le h.ak))
  have hb : x.2.1 ∈ allT t.n := mem_prod (f := fun e k => (e, k)) (mem_allE.mpr h.b) (List.mem_range.mpr (Nat.lt_succ_of_le h.bk))
  have hs : x.2.2 ∈ allS t.n := mem_allS.mpr ⟨h.s, h.l⟩
  exact mem_prod (f := fun a x => (a, x)) ha (mem_prod (f := fun b st => (b, st)) hb hs)
theorem allX_len {n : Nat} (h : n ≤ 3) : (allX n).length ≤ 10368 := by
  have e : (allE n).length ≤ 9 ∧ (allS n).length ≤ 8 := by
    match n, h with
    | 0, _ => decide
    | 1, _ => decide
    | 2, _ => decide
    | 3, _ => decide
  unfold allX allT
  simp only [prod_len, List.length_range]
  have a : (allE n).length * 4 ≤ 36 := by omega
  have b : (allE n).length * 4 * (allS n).length ≤ 36 * 8 := Nat.mul_le_mul a e.2
  exact Nat.le_trans (Nat.mul_le_mul (n₁ := (allE n).length * 4) (m₁ := (allE n).length * 4 * (allS n).length) (n₂ := 36) (m₂ := 288) a b) (by decide)
theorem seen_len {t : Tk} (V : VT t) {seen : List TS} (h : ∀ x ∈ seen, TOk t x) (hd : seen.Nodup) : seen.length ≤ 10368 :=
  Nat.le_trans (nodup_le hd fun x hx => mem_allX (h x hx)) (allX_len V.n3)
theorem tk_bd {t : Tk} {e : En} (V : VT t) (h : e.1 < t.n) : 1 ≤ t.tk e ∧ t.tk e ≤ 4 := by
  have i2 := idx_lt (V.has e h)
  have gj : t.jt (t.idx e) = t.js[t.idx e] := by unfold Tk.jt; simp [i2]
  have l := V.len _ (List.getElem_mem i2)
  unfold Tk.tk
  rw [gj]
  unfold Jt.tk
  cases (t.js[t.idx e]).o with
  | none => dsimp only; omega
  | some o => dsimp only; omega
theorem mv_ok {t : Tk} {a : Tn} {st : Sd} (V : VT t) (ha : a.1.1 < t.n) (hk : a.2 ≤ 3) (hs : st.length = t.n) (hl : ∀ y ∈ st, y ≠ Lg.a) : (mv t a st).1.1.1 < t.n ∧ 1 ≤ (mv t a st).1.2 ∧ (mv t a st).1.2 ≤ 4 ∧ (mv t a st).2.length = t.n ∧ ∀ y ∈ (mv t a st).2, y ≠ Lg.a := by
  by_cases h : 0 < a.2
  · rw [mv_pos h]
    exact ⟨ha, h, by show a.2 ≤ 4; omega, hs, hl⟩
  · rw [mv_zero h]
    have p : PlOk t (a.1, st) := ⟨ha, hs, hl⟩
    have k := tk_bd V (e := (t.ov a.1 st).1) (ov_lt ha)
    exact ⟨to_lt V (ov_lt ha), k.1, k.2, (ov_sd p).1, (ov_sd p).2⟩
theorem nx_ok {t : Tk} (V : VT t) {x y : TS} (h : TOk t x) (e : nx t x = some y) : TOk t y := by
  unfold nx at e
  split at e
  · cases e
  · split at e
    · cases e
      obtain ⟨a1, a2, a3, a4, a5⟩ := mv_ok (a := x.1) V h.a h.ak h.s h.l
      obtain ⟨b1, b2, b3, b4, b5⟩ := mv_ok (a := x.2.1) V h.b h.bk a4 a5
      exact ⟨a1, by show _ - 1 ≤ 3; omega, b1, by show _ - 1 ≤ 3; omega, b4, b5⟩
    · cases e
end RP

/-! Kx2: two trains in the program: apart, moved, the first tick. Own work. -/
namespace RP
open PySem
section
variable {G : List Den} {GV : List (Str × Nat × Den)} {C : List PV} {r r' : Fm} {s s' : AS}
theorem d_tup {es : Es} {vs : List PV} {o : Bool} (h : denEs G GV C es r s = .ok vs s') : den G GV C (.tup es) o r s = .ok (.tup vs) s' := by
  rw [den, bnd_ok h]
  rfl
theorem d_lst {es : Es} {vs : List PV} {o : Bool} (h : denEs G GV C es r s = .ok vs s') : den G GV C (.lst es) o r s = .ok (.lst vs) s' := by
  rw [den, bnd_ok h]
  rfl
theorem d_b1 {op : B1} {a : E} {x y : PV} {o : Bool} (h : den G GV C a true r s = .ok x s') (hv : b1P op x = some y) : den G GV C (.b1 op a) o r s = .ok y s' := by
  rw [den, bnd_ok h, hv]
  rfl
theorem d_ix {a b : E} {x y z : PV} {o : Bool} (h1 : den G GV C a true r s = .ok x s) (h2 : den G GV C b false r s = .ok y s) (h : ixP s x y = some z) : den G GV C (.ix a b) o r s = .ok z s := by
  rw [den, bnd_ok h1, bnd_ok h2, h]
  rfl
theorem d_or {a b : E} {o : Bool} {p q : Bool} (h1 : den G GV C a false r s = .ok (.bl p) s) (h2 : p = false → den G GV C b false r s = .ok (.bl q) s) : den G GV C (.or a b) o r s = .ok (.bl (p || q)) s := by
  rw [den, tst_ok h1]
  cases p with
  | true => rfl
  | false => exact h2 rfl
theorem d_and {a b : E} {o : Bool} {p q : Bool} (h1 : den G GV C a false r s = .ok (.bl p) s) (h2 : p = true → den G GV C b false r s = .ok (.bl q) s) : den G GV C (.and a b) o r s = .ok (.bl (p && q)) s := by
  rw [den, tst_ok h1]
  cases p with
  | true => exact h2 rfl
  | false => rfl
theorem d_not {a : E} {o : Bool} {p : Bool} (h1 : den G GV C a false r s = .ok (.bl p) s) : den G GV C (.not a) o r s = .ok (.bl (!p)) s := by
  rw [den, tst_ok h1]
  rfl
theorem d_isN {a : E} {o : Bool} {v : PV} {p : Bool} (h1 : den G GV C a false r s = .ok v s) (h : isNonP v = p) : den G GV C (.isN a) o r s = .ok (.bl p) s := by
  rw [den, bnd_ok h1, h]
  rfl
theorem d_notN {a : E} {o : Bool} {v : PV} {p : Bool} (h1 : den G GV C a false r s = .ok v s) (h : isNonP v = p) : den G GV C (.notN a) o r s = .ok (.bl (!p)) s := by
  rw [den, bnd_ok h1, h]
  rfl
theorem s_if {c : E} {a b : Ss} {p : Bool} {z : Res Fl} (h : den G GV C c false r s = .ok (.bl p) s') (k1 : p = true → denSs G GV C a r s' = z) (k2 : p = false → denSs G GV C b r s' = z) : denS G GV C (.ife c a b) r s = z := by
  rw [denS, tst_ok h]
  cases p with
  | true => exact k1 rfl
  | false => exact k2 rfl
theorem ss_one {S : S} (h : denS G GV C S r s = .ok (.nx r') s') : denSs G GV C (.cons S .nil) r s = .ok (.nx r') s' := ss_nx h rfl
theorem ss_rt' {S : S} {ss : Ss} {z : Res Fl} {v : PV} (h : denS G GV C S r s = .ok (.rt v) s') (e : .ok (.rt v) s' = z) : denSs G GV C (.cons S ss) r s = z := by
  rw [← e]
  exact ss_rt h
theorem s_setO {i : Nat} {e : E} {v : PV} (h : den G GV C e false r s = .ok v s') : denS G GV C (.setO i e) r s = .ok (.nx (r.set i (ofV v))) s' := by
  rw [denS, bnd_ok h]
  rfl
theorem s_setiD {i : Nat} {k e : E} {v x : PV} {kvs : List (PV × PV)} (hi : Fm.get r i = .od kvs) (h1 : den G GV C e false r s = .ok v s) (h2 : den G GV C k false r s = .ok x s) (hk : keyT x = true) (hl : kvs.length < LIM) : denS G GV C (.seti i k e) r s = .ok (.nx (r.set i (.od (putP kvs x v)))) s := by
  rw [denS, bnd_ok h1, hi]
  show bnd (den G GV C k false r) _ s = _
  rw [bnd_ok h2]
  have e1 : setSl r i x v s = .ok (r.set i (.od (putP kvs x v))) s := by
    unfold setSl
    rw [hi]
    show (if (keyT x && decide (kvs.length < LIM)) = true then ret _ else stk) s = _
    rw [hk, decide_eq_true hl]
    rfl
  rw [bnd_ok e1]
  rfl
theorem s_par {is : List Nat} {es : Es} {vs : List PV} (h : denEs G GV C es r s = .ok vs s') (hb : bindNs is vs r = some r') : denS G GV C (.par is es) r s = .ok (.nx r') s' := by
  rw [denS, bnd_ok h, hb]
  rfl
end
/-! trains as values -/
def tnP (a : Tn) : PV := .tup [eP a.1, .int (a.2 : Int)]
def tsP (x : TS) : PV := .tup [tnP x.1, tnP x.2.1, sP x.2.2]
theorem eqP_tn (x y : Tn) : eqP (tnP x) (tnP y) = decide (x = y) := by
  obtain ⟨a, l⟩ := x
  obtain ⟨b, m⟩ := y
  show (eqP (eP a) (eP b) && (decide ((l : Int) = (m : Int)) && true)) = _
  rw [eqP_e, nat_int, Bool.and_true]
  exact and_dec (by rw [Prod.mk.injEq])
theorem beq_n (x y : Nat) : ((x : Int) == (y : Int)) = decide (x = y) := by
  by_cases h : x = y
  · subst h; simp
  · have : (x : Int) ≠ (y : Int) := by omega
    simp [h, this]
theorem beq_tn (x y : Tn) : PV.beq (tnP x) (tnP y) = decide (x = y) := by
  obtain ⟨a, l⟩ := x
  obtain ⟨b, m⟩ := y
  show (PV.beq (eP a) (eP b) && (((l : Int) == (m : Int)) && true)) = _
  rw [beq_e, beq_n, Bool.and_true]
  exact and_dec (by rw [Prod.mk.injEq])
theorem eqP_ts (x y : TS) : eqP (tsP x) (tsP y) = decide (x = y) := by
  obtain ⟨a, b, l⟩ := x
  obtain ⟨a', b', l'⟩ := y
  show (eqP (tnP a) (tnP a') && (eqP (tnP b) (tnP b') && (eqP (sP l) (sP l') && true))) = _
  rw [eqP_tn, eqP_tn, eqP_s, Bool.and_true, and_dec (r := (b, l) = (b', l')) (by rw [Prod.mk.injEq])]
  exact and_dec (by rw [Prod.mk.injEq])
theorem beq_ts (x y : TS) : PV.beq (tsP x) (tsP y) = decide (x = y) := by
  obtain ⟨a, b, l⟩ := x
  obtain ⟨a', b', l'⟩ := y
  show (PV.beq (tnP a) (tnP a') && (PV.beq (tnP b) (tnP b') && (PV.beq (sP l) (sP l') && true))) = _
  rw [beq_tn, beq_tn, beq_s, Bool.and_true, and_dec (r := (b, l) = (b', l')) (by rw [Prod.mk.injEq])]
  exact and_dec (by rw [Prod.mk.injEq])
theorem dat_tn (n : Nat) (x : Tn) : dat (n + 2) (tnP x) = true := by
  unfold tnP
  simp only [dat, dats, dat_e, Bool.and_self]
theorem dat_ts (n : Nat) (x : TS) : dat (n + 3) (tsP x) = true := by
  unfold tsP
  simp only [dat, dats, dat_tn, dat_s, Bool.and_self]
theorem key_tn (n : Nat) (x : Tn) : keyOk (n + 2) (tnP x) = true := by
  unfold tnP
  simp only [keyOk, keyOks, key_e, Bool.and_self]
theorem key_ts (n : Nat) (x : TS) : keyOk (n + 3) (tsP x) = true := by
  unfold tsP
  simp only [keyOk, keyOks, key_tn, key_s, Bool.and_self]
theorem keyT_ts (x : TS) : keyT (tsP x) = true := by
  unfold keyT
  rw [key_ts 5 x]
  rfl
def snP (x : TS) : PV × PV := (tsP x, .bl true)
theorem sn_any (dn : List TS) (q : TS) : ((dn.map snP).any fun kv => PV.beq kv.1 (tsP q)) = decide (q ∈ dn) := by
  rw [List.any_map]
  have e : ((fun kv => PV.beq kv.1 (tsP q)) ∘ snP) = fun x : TS => decide (x = q) := funext fun x => beq_ts x q
  rw [e]
  induction dn with
  | nil => rfl
  | cons x dn ih =>
    rw [List.any_cons, ih]
    by_cases h : x = q
    · subst h; simp
    · have h2 : ¬ q = x := fun z => h z.symm
      simp [h, h2]
theorem sn_notin (dn : List TS) (q : TS) : cmpP .notin (tsP q) (.dct (dn.map snP)) = some (!decide (q ∈ dn)) := by
  have h : isinP (tsP q) (.dct (dn.map snP)) = some (decide (q ∈ dn)) := by
    show (if keyOk 8 (tsP q) = true then some ((dn.map snP).any fun kv => PV.beq kv.1 (tsP q)) else none) = _
    rw [if_pos (key_ts 5 q), sn_any]
  show (isinP (tsP q) (.dct (dn.map snP))).map (!·) = _
  rw [h]
  rfl
theorem sn_put (dn : List TS) (q : TS) (h : q ∉ dn) : putP (dn.map snP) (tsP q) (.bl true) = (dn ++ [q]).map snP := by
  unfold putP
  rw [sn_any, decide_eq_false h, List.map_append]
  rfl
/-! numbers -/
theorem cmp_i (op : CO) (a b : Int) (k : Bool) (h : (op = .eq ∧ k = decide (a = b)) ∨ (op = .ne ∧ k = !decide (a = b))) : cmpP op (.int a) (.int b) = some k := by
  rcases h with ⟨rfl, rfl⟩ | ⟨rfl, rfl⟩
  · exact cmp_eq (dat_i _ _) (dat_i _ _) (eqP_i _ _)
  · exact cmp_ne (dat_i _ _) (dat_i _ _) (eqP_i _ _)
theorem cmp_n (a b : Nat) : cmpP .eq (.int (a : Int)) (.int (b : Int)) = some (decide (a = b)) := cmp_i _ _ _ _ (.inl ⟨rfl, (nat_int a b).symm⟩)
theorem cmp_nn (a b : Nat) : cmpP .ne (.int (a : Int)) (.int (b : Int)) = some (!decide (a = b)) := cmp_i _ _ _ _ (.inr ⟨rfl, by rw [nat_int]⟩)
theorem cmp_n0 (a : Nat) : cmpP .eq (.int (a : Int)) (.int 0) = some (decide (a = 0)) := cmp_n a 0
theorem cmp_gt0 (a : Nat) : cmpP .gt (.int (a : Int)) (.int 0) = some (decide (0 < a)) := by
  show some (decide ((0 : Int) < (a : Int))) = _
  by_cases h : 0 < a
  · rw [decide_eq_true h, decide_eq_true (by omega)]
  · rw [decide_eq_false h, decide_eq_false (by omega)]
section
variable {t : Tk} {s : AS}
theorem idx_ok (V : VT t) {e : En} (h : e.1 < t.n) : d_index_of [tP t, eP e] s = .ok (.int (t.idx e)) s := index_ok (V.has e h) V.jl
theorem jo_ok (V : VT t) {e : En} (h : e.1 < t.n) : ixP s (.tup (t.js.map jP)) (.int (t.idx e)) = some (jP (t.jt (t.idx e))) := by
  have i2 := idx_lt (V.has e h)
  have gj : t.jt (t.idx e) = t.js[t.idx e] := by unfold Tk.jt; simp [i2]
  rw [gj]
  exact ix_tup i2
theorem isNon_o (o : Option En) : isNonP (oP o) = !o.isSome := by cases o <;> rfl
theorem apart_ok (V : VT t) {a b : Tn} (ha : a.1.1 < t.n) (hb : b.1.1 < t.n) : d_are_apart [tP t, tnP a, tnP b] s = .ok (.bl (apart t a b)) s := by
  have ia := idx_ok (s := s) V ha
  have ib := idx_ok (s := s) V hb
  have ja := jo_ok (s := s) V ha
  unfold d_are_apart
  refine run_ok (ss_nx (s_set (d_call (es_cons rfl (es_cons rfl es_nil)) ia)) ?_)
  have c : den [d_index_of] [] [] (.cmp .ne (.var 3) (.call 0 (.cons (.var 0) (.cons (.ix (.var 2) (.int 0)) .nil)))) false [.sh (tP t), .sh (tnP a), .sh (tnP b), .sh (.int (t.idx a.1))] s = .ok (.bl (!decide (t.idx a.1 = t.idx b.1))) s :=
    d_cmp rfl (d_call (es_cons rfl (es_cons rfl es_nil)) ib) (cmp_nn _ _)
  by_cases q : t.idx a.1 = t.idx b.1
  · rw [decide_eq_true q] at c
    refine ss_nx (s_if c (fun z => nomatch z) fun _ => rfl) (ss_rt' (s_ret (d_and (d_notN (d_ix (d_ix (d_ix rfl rfl ix_t1) rfl ja) rfl ix_j1) (isNon_o _)) fun _ => d_cmp rfl rfl (cmp_e a.1 b.1))) ?_)
    unfold apart
    rw [decide_eq_true q, Bool.not_not]
    rfl
  · rw [decide_eq_false q] at c
    refine ss_rt' (s_if c (fun _ => ss_rt (s_ret rfl)) (fun z => nomatch z)) ?_
    unfold apart
    rw [decide_eq_false q]
    rfl
theorem moved_ok (V : VT t) {a : Tn} {st : Sd} (ha : a.1.1 < t.n) (hs : st.length = t.n) : d_moved [tP t, tnP a, sP st] s = .ok (.tup [tnP (mv t a st).1, sP (mv t a st).2]) s := by
  have ov := over_ok (t := t) (e := a.1) (st := st) (s := s) ha hs V.n3
  have al := along_ok (t := t) (s := s) (e := (t.ov a.1 st).1) (V.has _ (ov_lt ha)) V.jl (fun j hj => (V.len j hj).2)
  have c : den [d_along, d_over] [] [] (.cmp .gt (.ix (.var 1) (.int 1)) (.int 0)) false [.sh (tP t), .sh (tnP a), .sh (sP st), .no, .no, .no, .no] s = .ok (.bl (decide (0 < a.2))) s := d_cmp rfl rfl (cmp_gt0 a.2)
  unfold d_moved
  refine run_ok ?_
  by_cases q : 0 < a.2
  · rw [decide_eq_true q] at c
    rw [mv_pos q]
    exact ss_rt' (s_if c (fun _ => ss_rt (s_ret rfl)) (fun z => nomatch z)) rfl
  · rw [decide_eq_false q] at c
    rw [mv_zero q]
    exact ss_nx (s_if c (fun z => nomatch z) fun _ => rfl) (ss_nx (s_setT (d_call (es_cons rfl (es_cons rfl (es_cons rfl es_nil))) ov) rfl) (ss_nx (s_setT (d_call (es_cons rfl (es_cons rfl es_nil)) al) rfl) (ss_rt (s_ret rfl))))
end
end RP

/-! Kx3: the first tick, meeting, safe standings in the program. Own work. -/
namespace RP
open PySem
abbrev GF : List Den := [d_are_apart, d_moved]
def ft1 : S := .parD 4 5 (.int 0)
def ft2_1 : S := .seti 4 (.tup (.cons (.var 1) (.cons (.var 2) (.cons (.var 3) .nil)))) (.bl true)
def ft2_2c : E := .or (.not (.call 0 (.cons (.var 0) (.cons (.var 1) (.cons (.var 2) .nil))))) (.and (.cmp .eq (.ix (.var 1) (.int 1)) (.int 0)) (.and (.cmp .eq (.ix (.var 2) (.int 1)) (.int 0)) (.cmp .eq (.ix (.ix (.var 1) (.int 0)) (.int 0)) (.ix (.ix (.var 2) (.int 0)) (.int 0)))))
def ft2_2 : S := .ife ft2_2c (.cons (.retE (.var 5)) .nil) .nil
def ft2_3 : S := .setT [1, 3] (.call 1 (.cons (.var 0) (.cons (.var 1) (.cons (.var 3) .nil))))
def ft2_4 : S := .setT [2, 3] (.call 1 (.cons (.var 0) (.cons (.var 2) (.cons (.var 3) .nil))))
def ft2_5c : E := .not (.call 0 (.cons (.var 0) (.cons (.var 1) (.cons (.var 2) .nil))))
def ft2_5 : S := .ife ft2_5c (.cons (.retE (.var 5)) .nil) .nil
def ft2_6 : S := .par [1, 2, 5] (.cons (.tup (.cons (.ix (.var 1) (.int 0)) (.cons (.bin .sub (.ix (.var 1) (.int 1)) (.int 1)) .nil))) (.cons (.tup (.cons (.ix (.var 2) (.int 0)) (.cons (.bin .sub (.ix (.var 2) (.int 1)) (.int 1)) .nil))) (.cons (.bin .add (.var 5) (.int 1)) .nil)))
def ftb2 : Ss := .cons ft2_1 (.cons ft2_2 (.cons ft2_3 (.cons ft2_4 (.cons ft2_5 (.cons ft2_6 .nil)))))
def ft2 : S := .while_ 20000 (.cmp .notin (.tup (.cons (.var 1) (.cons (.var 2) (.cons (.var 3) .nil)))) (.var 4)) ftb2
def ft3 : S := .retE .non
def ftb : Ss := .cons ft1 (.cons ft2 (.cons ft3 .nil))
theorem ir_first_tick_eq : ir_first_tick = ftb := rfl
abbrev ftF (t : Tk) (a b : Tn) (st : Sd) (seen : List TS) (k : Nat) : Fm := [.sh (tP t), .sh (tnP a), .sh (tnP b), .sh (sP st), .od (seen.map snP), .sh (.int (k : Int))]
section
variable {t : Tk} {s : AS}
theorem stop_or (t : Tk) (a b : Tn) : (!apart t a b || (decide (a.2 = 0) && (decide (b.2 = 0) && decide (a.1.1 = b.1.1)))) = stop t a b := rfl
theorem dn1_ok {a : Tn} (h : 1 ≤ a.2) {G : List Den} {GV : List (Str × Nat × Den)} {C : List PV} {r : Fm} {i : Nat} {o : Bool} (hi : Fm.get r i = .sh (tnP a)) : den G GV C (.tup (.cons (.ix (.var i) (.int 0)) (.cons (.bin .sub (.ix (.var i) (.int 1)) (.int 1)) .nil))) o r s = .ok (tnP (dn1 a)) s := by
  have v : ∀ o, den G GV C (.var i) o r s = .ok (tnP a) s := fun o => by rw [den, hi]; rfl
  refine d_tup (vs := [eP a.1, .int ((a.2 - 1 : Nat) : Int)]) (es_cons (d_ix (v true) rfl rfl) (es_cons (d_add (x := .int (a.2 : Int)) (y := .int 1) (d_ix (v true) rfl rfl) rfl ?_) es_nil))
  show some (PV.int ((a.2 : Int) - 1)) = _
  rw [show ((a.2 : Int) - 1) = ((a.2 - 1 : Nat) : Int) by omega]
theorem ft_stop (V : VT t) {a b : Tn} (ha : a.1.1 < t.n) (hb : b.1.1 < t.n) (st : Sd) (seen : List TS) (k : Nat) : den GF [] [] ft2_2c false (ftF t a b st seen k) s = .ok (.bl (stop t a b)) s := by
  have ap := apart_ok (s := s) V ha hb
  rw [← stop_or]
  exact d_or (d_not (d_call (es_cons rfl (es_cons rfl (es_cons rfl es_nil))) ap)) fun _ => d_and (d_cmp rfl rfl (cmp_n0 a.2)) fun _ => d_and (d_cmp rfl rfl (cmp_n0 b.2)) fun _ => d_cmp rfl rfl (cmp_n a.1.1 b.1.1)
theorem ft_round (V : VT t) {x : TS} (h : TOk t x) {seen : List TS} (hx : x ∉ seen) (hl : seen.length ≤ 20000) (k : Nat) : denSs GF [] [] ftb2 (ftF t x.1 x.2.1 x.2.2 seen k) s = .ok (match nx t x with | none => .rt (.int (k : Int)) | some y => .nx (ftF t y.1 y.2.1 y.2.2 (seen ++ [x]) (k + 1))) s := by
  obtain ⟨a, b, st⟩ := x
  have e1 : denS GF [] [] ft2_1 (ftF t a b st seen k) s = .ok (.nx (ftF t a b st (seen ++ [(a, b, st)]) k)) s := by
    have p := s_setiD (G := GF) (GV := []) (C := []) (r := ftF t a b st seen k) (s := s) (i := 4) (k := .tup (.cons (.var 1) (.cons (.var 2) (.cons (.var 3) .nil)))) (e := .bl true) (v := .bl true) (x := tsP (a, b, st)) (kvs := seen.map snP) rfl rfl rfl (keyT_ts _) (by rw [List.length_map]; unfold LIM; omega)
    rw [sn_put _ _ hx] at p
    exact p
  refine ss_nx e1 ?_
  have c1 := ft_stop (s := s) V h.a h.b st (seen ++ [(a, b, st)]) k
  unfold nx
  cases q : stop t a b with
  | true =>
    rw [q] at c1
    exact ss_rt' (s_if c1 (fun _ => ss_rt (s_ret rfl)) (fun z => nomatch z)) rfl
  | false =>
    rw [q] at c1
    obtain ⟨a1, a2, a3, a4, a5⟩ := mv_ok (a := a) V h.a h.ak h.s h.l
    obtain ⟨b1, b2, b3, b4, b5⟩ := mv_ok (a := b) V h.b h.bk a4 a5
    have m1 := moved_ok (s := s) V (a := a) (st := st) h.a h.s
    have m2 := moved_ok (s := s) V (a := b) (st := (mv t a st).2) h.b a4
    have ap := apart_ok (s := s) V a1 b1
    refine ss_nx (s_if c1 (fun z => nomatch z) fun _ => rfl) (ss_nx (s_setT (d_call (es_cons rfl (es_cons rfl (es_cons rfl es_nil))) m1) rfl) (ss_nx (s_setT (d_call (es_cons rfl (es_cons rfl (es_cons rfl es_nil))) m2) rfl) ?_))
    have c2 : den GF [] [] ft2_5c false (ftF t (mv t a st).1 (mv t b (mv t a st).2).1 (mv t b (mv t a st).2).2 (seen ++ [(a, b, st)]) k) s = .ok (.bl (!apart t (mv t a st).1 (mv t b (mv t a st).2).1)) s := d_not (d_call (es_cons rfl (es_cons rfl (es_cons rfl es_nil))) ap)
    dsimp only
    rw [if_neg (by simp)]
    cases q2 : apart t (mv t a st).1 (mv t b (mv t a st).2).1 with
    | false =>
      rw [q2] at c2
      exact ss_rt' (s_if c2 (fun _ => ss_rt (s_ret rfl)) (fun z => nomatch z)) (by rw [if_neg (by simp)])
    | true =>
      rw [q2] at c2
      rw [if_pos rfl]
      refine ss_nx (s_if c2 (fun z => nomatch z) fun _ => rfl) (ss_one (s_par (es_cons (dn1_ok a2 rfl) (es_cons (dn1_ok b2 rfl) (es_cons (v := .int ((k + 1 : Nat) : Int)) (d_add (x := .int (k : Int)) (y := .int 1) rfl rfl rfl) es_nil))) rfl))
theorem nodup_snoc {α : Type} {xs : List α} {x : α} (h : xs.Nodup) (hx : x ∉ xs) : (xs ++ [x]).Nodup := by
  rw [List.nodup_append]
  refine ⟨h, by simp, fun a ha b hb e => ?_⟩
  rw [List.mem_singleton] at hb
  subst hb
  subst e
  exact hx ha
def flP (o : Option Nat) (r : Fm) : Fl := match o with
  | some k => .rt (.int (k : Int))
  | none => .nx r
theorem ft_loop (V : VT t) : ∀ (f : Nat) (seen : List TS) (x : TS) (k : Nat), TOk t x → (∀ y ∈ seen, TOk t y) → seen.Nodup → 10369 ≤ seen.length + f →
    ∃ r', whGo (fun r1 => den GF [] [] (.cmp .notin (.tup (.cons (.var 1) (.cons (.var 2) (.cons (.var 3) .nil)))) (.var 4)) false r1) (fun r1 => denSs GF [] [] ftb2 r1) f (ftF t x.1 x.2.1 x.2.2 seen k) s = .ok (flP (lp t f seen x k) r') s
  | 0, seen, x, k, _, hs, hd, hf => by
    have := seen_len V hs hd
    omega
  | f + 1, seen, x, k, hx, hs, hd, hf => by
    have sl := seen_len V hs hd
    have c : den GF [] [] (.cmp .notin (.tup (.cons (.var 1) (.cons (.var 2) (.cons (.var 3) .nil)))) (.var 4)) false (ftF t x.1 x.2.1 x.2.2 seen k) s = .ok (.bl (!decide (x ∈ seen))) s := d_cmp (y := tsP x) (z := .dct (seen.map snP)) rfl rfl (sn_notin seen x)
    rw [lp]
    by_cases q : x ∈ seen
    · rw [decide_eq_true q] at c
      refine ⟨ftF t x.1 x.2.1 x.2.2 seen k, ?_⟩
      rw [whGo, tst_ok c, if_pos q]
      rfl
    · rw [decide_eq_false q] at c
      have z := ft_round (s := s) V hx q (by omega) k
      rw [if_neg q]
      cases w : nx t x with
      | none =>
        rw [w] at z
        refine ⟨[], ?_⟩
        rw [whGo, tst_ok c]
        show bnd (fun s2 => denSs GF [] [] ftb2 (ftF t x.1 x.2.1 x.2.2 seen k) s2) _ s = _
        rw [bnd_ok z]
        rfl
      | some y =>
        rw [w] at z
        obtain ⟨r', g⟩ := ft_loop V f (seen ++ [x]) y (k + 1) (nx_ok V hx w) (fun u hu => by
          rcases List.mem_append.mp hu with h | h
          · exact hs u h
          · rw [List.mem_singleton] at h; rw [h]; exact hx) (nodup_snoc hd q) (by rw [List.length_append, List.length_singleton]; omega)
        refine ⟨r', ?_⟩
        rw [whGo, tst_ok c]
        show bnd (fun s2 => denSs GF [] [] ftb2 (ftF t x.1 x.2.1 x.2.2 seen k) s2) _ s = _
        rw [bnd_ok z]
        exact g
def fst (t : Tk) (x : TS) : Option Nat := lp t 20000 [] x 0
def onP (o : Option Nat) : PV := match o with
  | some k => .int (k : Int)
  | none => .non
theorem firstTick_ok (V : VT t) {x : TS} (h : TOk t x) : d_first_tick [tP t, tnP x.1, tnP x.2.1, sP x.2.2] s = .ok (onP (fst t x)) s := by
  obtain ⟨r', g⟩ := ft_loop (s := s) V 20000 [] x 0 h (fun y hy => nomatch hy) (List.nodup_nil) (by simp)
  have w : denS GF [] [] ft2 (ftF t x.1 x.2.1 x.2.2 [] 0) s = .ok (flP (lp t 20000 [] x 0) r') s := by
    unfold ft2
    rw [denS]
    exact g
  unfold d_first_tick
  rw [ir_first_tick_eq]
  refine run_ok (ss_nx (S := ft1) (r' := ftF t x.1 x.2.1 x.2.2 [] 0) rfl ?_)
  unfold fst
  cases q : lp t 20000 [] x 0 with
  | some k =>
    rw [q] at w
    exact ss_rt' w rfl
  | none =>
    rw [q] at w
    exact ss_nx w rfl
/-! trains and no trains -/
theorem ticks_ok (V : VT t) {e : En} (h : e.1 < t.n) : d_ticks_of [tP t, eP e] s = .ok (.int (t.tk e)) s := by
  have i1 := idx_ok (s := s) V h
  have i2 := jo_ok (s := s) V h
  have l1 : (t.jt (t.idx e)).l ≤ 2 := by
    have i2 := idx_lt (V.has e h)
    have gj : t.jt (t.idx e) = t.js[t.idx e] := by unfold Tk.jt; simp [i2]
    rw [gj]
    exact (V.len _ (List.getElem_mem i2)).2
  unfold Tk.tk
  unfold d_ticks_of
  generalize t.jt (t.idx e) = j at *
  obtain ⟨je, jo, jl⟩ := j
  have w1 := wide_l (l := jl) (by exact Nat.le_trans l1 (by omega))
  have w2 : wide 2 = true := wide_l (l := 2) (by omega)
  refine run_ok (ss_nx (s_setT (d_ix (d_ix rfl rfl ix_t1) (d_call (es_cons rfl (es_cons rfl es_nil)) i1) i2) bndN_j) ?_)
  cases jo with
  | none => simp [denSs, denS, den, Fm.get, bnd, ret, opt, Res.andThen, tst, tb, truth, isNonP, oP, binP, w1, w2, Jt.tk]
  | some o => simp [denSs, denS, den, Fm.get, bnd, ret, opt, Res.andThen, tst, tb, truth, nonP_e, oP, Jt.tk]
abbrev GI : List Den := [d_is_int, d_ticks_of, d_is_end_of]
theorem isTrain_e (V : VT t) {e : En} {w : PV} {b : Bool} (he : e.1 < t.n) (hi : d_is_int [w, .int 0, .int ((t.tk e : Int) - 1)] s = .ok (.bl b) s) : d_is_train [tP t, .tup [eP e, w]] s = .ok (.bl b) s := by
  have ie := isEnd_ok he s
  have tk := ticks_ok (s := s) V he
  have n : den GI [] [] (.b1 .len (.ix (.var 0) (.int 0))) false [.sh (tP t), .sh (.tup [eP e, w])] s = .ok (.int t.n) s := d_b1 (d_ix rfl rfl ix_t0) (len_ks t)
  have c := d_or (o := false) (p := false) (q := false) (G := GI) (GV := []) (C := []) (r := [.sh (tP t), .sh (.tup [eP e, w])]) (s := s) (a := .not (.isinst .tuple (.var 1))) (b := .or (.cmp .ne (.b1 .len (.var 1)) (.int 2)) (.not (.call 2 (.cons (.b1 .len (.ix (.var 0) (.int 0))) (.cons (.ix (.var 1) (.int 0)) .nil))))) rfl
    fun _ => d_or (p := false) (q := false) (d_cmp (y := .int 2) (z := .int 2) rfl rfl (cmp_nn 2 2)) fun _ => d_not (p := true) (d_call (es_cons n (es_cons rfl es_nil)) ie)
  unfold d_is_train
  refine run_ok (ss_nx (s_if c (fun z => nomatch z) fun _ => rfl) (ss_rt (s_ret (d_call (es_cons rfl (es_cons rfl (es_cons (d_add (x := .int (t.tk e)) (y := .int 1) (d_call (es_cons rfl (es_cons rfl es_nil)) tk) rfl rfl) es_nil))) hi))))
theorem isTrain_ok (V : VT t) {a : Tn} (ha : a.1.1 < t.n) (hk : a.2 < t.tk a.1) : d_is_train [tP t, tnP a] s = .ok (.bl true) s := isTrain_e V ha (isInt_ok (by omega) (by omega) s)
abbrev GNT : List Den := [d_is_train, d_need_track]
def ntB : Ss := .cons (.ife (.not (.call 0 (.cons (.var 0) (.cons (.var 3) .nil)))) (.cons .dead .nil) .nil) .nil
theorem needTrains_ok (V : VX t) {a b : Tn} (ha : a.1.1 < t.n) (hk : a.2 < t.tk a.1) (hb : b.1.1 < t.n) (hk2 : b.2 < t.tk b.1) : d_need_trains [tP t, tnP a, tnP b] s = .ok .non s := by
  have n := needTrack_ok V s
  have i1 := isTrain_ok (s := s) V.toVT ha hk
  have i2 := isTrain_ok (s := s) V.toVT hb hk2
  have g : ∀ (v : PV) (x3 : Sl), d_is_train [tP t, v] s = .ok (.bl true) s → bnd (opt (bindT (.nm 3) v [.sh (tP t), .sh (tnP a), .sh (tnP b), x3])) (fun r2 => denSs GNT [] [] ntB r2) s = .ok (.nx [.sh (tP t), .sh (tnP a), .sh (tnP b), .sh v]) s := fun v x3 i => by
    have c : den GNT [] [] (.not (.call 0 (.cons (.var 0) (.cons (.var 3) .nil)))) false [.sh (tP t), .sh (tnP a), .sh (tnP b), .sh v] s = .ok (.bl false) s := d_not (p := true) (d_call (es_cons rfl (es_cons rfl es_nil)) i)
    show denSs GNT [] [] ntB [.sh (tP t), .sh (tnP a), .sh (tnP b), .sh v] s = _
    exact ss_one (s_if c (fun z => nomatch z) fun _ => rfl)
  have f : forGo (fun x r1 => bnd (opt (bindT (.nm 3) x r1)) fun r2 => denSs GNT [] [] ntB r2) [tnP a, tnP b] [.sh (tP t), .sh (tnP a), .sh (tnP b), .no] s = .ok (.nx [.sh (tP t), .sh (tnP a), .sh (tnP b), .sh (tnP b)]) s := by
    rw [forGo, bnd_ok (g (tnP a) .no i1)]
    show forGo _ [tnP b] _ s = _
    rw [forGo, bnd_ok (g (tnP b) (.sh (tnP a)) i2)]
    rfl
  unfold d_need_trains
  exact run_nx (r' := [.sh (tP t), .sh (tnP a), .sh (tnP b), .sh (tnP b)]) (ss_nx (s_expr (d_call (es_cons rfl es_nil) n)) (ss_one (s_for (xs := [tnP a, tnP b]) rfl f)))
/-- two trains and a standing of the track -/
structure TrOk (t : Tk) (a b : Tn) : Prop where
  ea : a.1.1 < t.n
  wa : a.2 < t.tk a.1
  eb : b.1.1 < t.n
  wb : b.2 < t.tk b.1
theorem TrOk.sw {a b : Tn} (h : TrOk t a b) : TrOk t b a := ⟨h.eb, h.wb, h.ea, h.wa⟩
theorem TrOk.ts (V : VT t) {a b : Tn} (h : TrOk t a b) {st : Sd} (hs : st ∈ allS t.n) : TOk t (a, b, st) := by
  have k1 := (tk_bd V h.ea).2
  have k2 := (tk_bd V h.eb).2
  have a1 := h.wa
  have b1 := h.wb
  exact ⟨h.ea, by show a.2 ≤ 3; omega, h.eb, by show b.2 ≤ 3; omega, (mem_allS.mp hs).1, (mem_allS.mp hs).2⟩
theorem meeting_ok (V : VX t) {a b : Tn} (h : TrOk t a b) {st : Sd} (hs : st ∈ allS t.n) : d_meeting [tP t, tnP a, tnP b, sP st] s = .ok (onP (fst t (a, b, st))) s := by
  have n1 := needTrains_ok (s := s) V h.ea h.wa h.eb h.wb
  have n2 := needStanding_ok (mem_allS.mp hs).1 V.n3 (mem_allS.mp hs).2 s
  have f := firstTick_ok (s := s) V.toVT (h.ts V.toVT hs)
  unfold d_meeting
  exact run_ok (ss_nx (s_expr (d_call (es_cons rfl (es_cons rfl (es_cons rfl es_nil))) n1)) (ss_nx (s_expr (d_call (es_cons rfl (es_cons rfl es_nil)) n2)) (ss_rt (s_ret (d_call (es_cons rfl (es_cons rfl (es_cons rfl (es_cons rfl es_nil)))) f)))))
theorem allSt_ok (V : VT t) : d_all_standings [tP t] s = .ok (.lst ((allS t.n).map sP)) s := by
  have n1 := V.n1
  have n3 := V.n3
  clear V
  obtain ⟨ks, js⟩ := t
  rcases ks_cases n1 n3 with ⟨a, q⟩ | ⟨a, b, q⟩ | ⟨a, b, c, q⟩ <;> (simp only at q; subst q) <;> kernel_rfl
theorem lawSt_ok (V : VT t) : d__law_standings [tP t] s = .ok (.lst ((allS t.n).map sP)) s := by
  have n1 := V.n1
  have n3 := V.n3
  clear V
  obtain ⟨ks, js⟩ := t
  rcases ks_cases n1 n3 with ⟨a, q⟩ | ⟨a, b, q⟩ | ⟨a, b, c, q⟩ <;> (simp only at q; subst q) <;> kernel_rfl
theorem allS_len : ∀ n : Nat, n ≤ 3 → (allS n).length ≤ 8
  | 0, _ => by decide
  | 1, _ => by decide
  | 2, _ => by decide
  | 3, _ => by decide
  | n + 4, h => absurd h (by omega)
theorem isNon_on (o : Option Nat) : isNonP (onP o) = o.isNone := by cases o <;> rfl
def sfe (t : Tk) (a b : Tn) : List Sd := (allS t.n).filter fun st => (fst t (a, b, st)).isNone
theorem allSafe_ok (V : VT t) {a b : Tn} (h : TrOk t a b) : d_all_safe [tP t, tnP a, tnP b] s = .ok (.lst ((sfe t a b).map sP)) s := by
  have al := allSt_ok (s := s) V
  unfold d_all_safe
  refine run_ok (ss_rt (s_ret ?_))
  have c : ∀ st ∈ allS t.n, den [d_all_standings, d_first_tick] [] [] (.isN (.call 1 (.cons (.var 0) (.cons (.var 1) (.cons (.var 2) (.cons (.var 3) .nil)))))) false [.sh (tP t), .sh (tnP a), .sh (tnP b), .sh (sP st)] s = .ok (.bl (fst t (a, b, st)).isNone) s := fun st hs => by
    have f : d_first_tick [tP t, tnP a, tnP b, sP st] s = .ok (onP (fst t (a, b, st))) s := firstTick_ok (s := s) (x := (a, b, st)) V (h.ts V hs)
    generalize fst t (a, b, st) = o at f ⊢
    have d : den [d_all_standings, d_first_tick] [] [] (.call 1 (.cons (.var 0) (.cons (.var 1) (.cons (.var 2) (.cons (.var 3) .nil))))) false [.sh (tP t), .sh (tnP a), .sh (tnP b), .sh (sP st)] s = .ok (onP o) s := d_call (es_cons rfl (es_cons rfl (es_cons rfl (es_cons rfl es_nil)))) f
    exact d_isN d (isNon_on o)
  have it : denIt [d_all_standings, d_first_tick] [] [] (.seq (.call 0 (.cons (.var 0) .nil))) true [.sh (tP t), .sh (tnP a), .sh (tnP b), .no] s = .ok ((allS t.n).map sP) s := by
    have d : den [d_all_standings, d_first_tick] [] [] (.call 0 (.cons (.var 0) .nil)) true [.sh (tP t), .sh (tnP a), .sh (tnP b), .no] s = .ok (.lst ((allS t.n).map sP)) s := d_call (es_cons rfl es_nil) al
    rw [denIt, bnd_ok d]
    rfl
  exact ev_lc (enc := sP) (ys := allS t.n) (fun st => (fst t (a, b, st)).isNone) sP (fun st => [.sh (tP t), .sh (tnP a), .sh (tnP b), .sh (sP st)]) it (fun _ _ => rfl) c (fun _ _ _ => rfl) (by have := allS_len t.n V.n3; unfold LIM; omega)
theorem safe_ok (V : VX t) {a b : Tn} (h : TrOk t a b) : d_safe_standings [tP t, tnP a, tnP b] s = .ok (.lst ((sfe t a b).map sP)) s := by
  have n1 := needTrains_ok (s := s) V h.ea h.wa h.eb h.wb
  have f := allSafe_ok (s := s) V.toVT h
  unfold d_safe_standings
  exact run_ok (ss_nx (s_expr (d_call (es_cons rfl (es_cons rfl (es_cons rfl es_nil))) n1)) (ss_rt (s_ret (d_call (es_cons rfl (es_cons rfl (es_cons rfl es_nil))) f))))
end
end RP

/-! Ky1: trains that never meet; pairs in their order. Own work. -/
namespace RP
open PySem
/-! never to stop -/
def orb (t : Tk) : Nat → TS → Option TS
  | 0, x => some x
  | n + 1, x => (nx t x).bind (orb t n)
def Lives (t : Tk) (x : TS) : Prop := ∀ n y, orb t n x = some y → ∃ z, nx t y = some z
theorem Lives.next {t : Tk} {x y : TS} (h : Lives t x) (e : nx t x = some y) : Lives t y := fun n z hz => h (n + 1) z (by
  show (nx t x).bind (orb t n) = _
  rw [e]
  exact hz)
theorem Lives.of {t : Tk} {x y : TS} (e : nx t x = some y) (h : Lives t y) : Lives t x := fun n z hz => by
  cases n with
  | zero => cases hz; exact ⟨y, e⟩
  | succ n =>
    have hz : (nx t x).bind (orb t n) = some z := hz
    rw [e] at hz
    exact h n z hz
theorem lives_closed {t : Tk} {seen : List TS} (h : ∀ z ∈ seen, ∃ y, nx t z = some y ∧ y ∈ seen) : ∀ z ∈ seen, Lives t z := by
  have key : ∀ n, ∀ z ∈ seen, ∀ y, orb t n z = some y → y ∈ seen := by
    intro n
    induction n with
    | zero => intro z hz y e; cases e; exact hz
    | succ n ih =>
      intro z hz y e
      obtain ⟨u, e1, hu⟩ := h z hz
      have e : (nx t z).bind (orb t n) = some y := e
      rw [e1] at e
      exact ih u hu y e
  intro z hz n y e
  obtain ⟨u, e1, _⟩ := h y (key n z hz y e)
  exact ⟨u, e1⟩
theorem lp_lives {t : Tk} (V : VT t) : ∀ (f : Nat) (seen : List TS) (x : TS) (k : Nat), TOk t x → (∀ y ∈ seen, TOk t y) → seen.Nodup → 10369 ≤ seen.length + f → (∀ z ∈ seen, ∃ y, nx t z = some y ∧ (y ∈ seen ∨ y = x)) → lp t f seen x k = none → Lives t x
  | 0, seen, x, k, _, hs, hd, hf, _, _ => by
    have := seen_len V hs hd
    omega
  | f + 1, seen, x, k, hx, hs, hd, hf, hc, e => by
    rw [lp] at e
    by_cases q : x ∈ seen
    · refine lives_closed (seen := seen) (fun z hz => ?_) x q
      obtain ⟨y, e1, h | h⟩ := hc z hz
      · exact ⟨y, e1, h⟩
      · exact ⟨y, e1, by rw [h]; exact q⟩
    · rw [if_neg q] at e
      cases w : nx t x with
      | none => rw [w] at e; cases e
      | some y =>
        rw [w] at e
        refine Lives.of w (lp_lives V f (seen ++ [x]) y (k + 1) (nx_ok V hx w) (fun u hu => ?_) (nodup_snoc hd q) (by rw [List.length_append, List.length_singleton]; omega) (fun z hz => ?_) e)
        · rcases List.mem_append.mp hu with h | h
          · exact hs u h
          · rw [List.mem_singleton] at h; rw [h]; exact hx
        · rcases List.mem_append.mp hz with h | h
          · obtain ⟨u, e1, h2 | h2⟩ := hc z h
            · exact ⟨u, e1, .inl (List.mem_append_left _ h2)⟩
            · exact ⟨u, e1, .inl (List.mem_append_right _ (by rw [h2]; simp))⟩
          · rw [List.mem_singleton] at h
            rw [h]
            exact ⟨y, w, .inr rfl⟩
theorem lives_lp {t : Tk} : ∀ (f : Nat) (seen : List TS) (x : TS) (k : Nat), Lives t x → lp t f seen x k = none
  | 0, _, _, _, _ => rfl
  | f + 1, seen, x, k, h => by
    rw [lp]
    by_cases q : x ∈ seen
    · rw [if_pos q]
    · rw [if_neg q]
      obtain ⟨y, e⟩ := h 0 x rfl
      rw [e]
      exact lives_lp f (seen ++ [x]) y (k + 1) (h.next e)
theorem fst_none {t : Tk} (V : VT t) {x : TS} (h : TOk t x) (e : fst t x = none) : ∃ y, nx t x = some y ∧ fst t y = none := by
  have l := lp_lives V 20000 [] x 0 h (fun y hy => nomatch hy) List.nodup_nil (by simp) (fun z hz => nomatch hz) e
  obtain ⟨y, w⟩ := l 0 x rfl
  exact ⟨y, w, lives_lp _ _ _ _ (l.next w)⟩
theorem fst_stop {t : Tk} {x : TS} (h : stop t x.1 x.2.1 = true) : fst t x = some 0 := by
  have n : nx t x = none := by
    unfold nx
    rw [h]
    rfl
  show lp t (19999 + 1) [] x 0 = _
  rw [lp, if_neg (by simp), n]
/-! both ends of a stretch are of one stretch -/
theorem hasE_es {e : En} {j : Jt} : hasE e j = true ↔ e ∈ Jt.es j := by
  unfold hasE Jt.es
  rw [Bool.or_eq_true, decide_eq_true_eq, decide_eq_true_eq, List.mem_cons]
  constructor
  · rintro (h | h)
    · exact .inl h.symm
    · exact .inr (by rw [h]; simp)
  · rintro (h | h)
    · exact .inl h.symm
    · cases q : j.o with
      | none => rw [q] at h; cases h
      | some o =>
        rw [q] at h
        have h : e = o := by simpa using h
        exact .inr (by rw [h])
theorem idx_of {t : Tk} (V : VX t) {e : En} {i : Nat} (hi : i < t.js.length) (h : hasE e t.js[i] = true) : t.idx e = i := by
  unfold Tk.idx
  rw [List.findIdx_eq hi]
  refine ⟨h, fun k hk => ?_⟩
  cases q : hasE e t.js[k] with
  | false => rfl
  | true =>
    exfalso
    have nd := V.nd
    unfold List.Nodup at nd
    rw [List.pairwise_flatMap] at nd
    have p := List.pairwise_iff_getElem.mp nd.2 k i (by omega) hi hk
    exact p e (hasE_es.mp q) e (hasE_es.mp h) rfl
theorem tk_to {t : Tk} (V : VX t) {e : En} (h : e.1 < t.n) : t.tk (t.to e) = t.tk e := by
  have hx := V.has e h
  have i2 := idx_lt hx
  have he : hasE e t.js[t.idx e] = true := List.findIdx_getElem (w := i2)
  have gj : t.jt (t.idx e) = t.js[t.idx e] := by unfold Tk.jt; simp [i2]
  have ht : hasE (t.to e) t.js[t.idx e] = true := by
    unfold Tk.to
    rw [gj]
    generalize t.js[t.idx e] = j at he
    obtain ⟨je, jo, jl⟩ := j
    cases jo with
    | none => exact he
    | some o =>
      show hasE (if e = je then o else je) ⟨je, some o, jl⟩ = true
      by_cases q : e = je
      · rw [if_pos q]; unfold hasE; simp
      · rw [if_neg q]; unfold hasE; simp
  unfold Tk.tk
  rw [idx_of V i2 ht]
/-! pairs -/
abbrev Pr : Type := En × En
def prP (p : Pr) : PV := .tup [eP p.1, eP p.2]
def prs : List En → List Pr
  | [] => []
  | x :: xs => xs.map (fun y => (x, y)) ++ prs xs
def PLt (p q : Pr) : Prop := er p.1 < er q.1 ∨ (p.1 = q.1 ∧ er p.2 < er q.2)
theorem mem_prs : ∀ {xs : List En} {p : Pr}, p ∈ prs xs → p.1 ∈ xs ∧ p.2 ∈ xs
  | [], p, h => by cases h
  | x :: xs, p, h => by
    rcases List.mem_append.mp h with h | h
    · obtain ⟨y, hy, rfl⟩ := List.mem_map.mp h
      exact ⟨List.mem_cons_self, List.mem_cons_of_mem _ hy⟩
    · obtain ⟨a, b⟩ := mem_prs h
      exact ⟨List.mem_cons_of_mem _ a, List.mem_cons_of_mem _ b⟩
theorem prs_lt : ∀ {xs : List En}, xs.Pairwise (fun a b => er a < er b) → ∀ p ∈ prs xs, er p.1 < er p.2
  | [], _, p, h => by cases h
  | x :: xs, hp, p, h => by
    have c := List.pairwise_cons.mp hp
    rcases List.mem_append.mp h with h | h
    · obtain ⟨y, hy, rfl⟩ := List.mem_map.mp h
      exact c.1 y hy
    · exact prs_lt c.2 p h
theorem prs_mem : ∀ {xs : List En}, xs.Pairwise (fun a b => er a < er b) → ∀ {a b : En}, a ∈ xs → b ∈ xs → er a < er b → (a, b) ∈ prs xs
  | [], _, a, b, h, _, _ => by cases h
  | x :: xs, hp, a, b, ha, hb, hab => by
    have c := List.pairwise_cons.mp hp
    rcases List.mem_cons.mp ha with e | ha2
    · rcases List.mem_cons.mp hb with e2 | hb2
      · rw [e, e2] at hab; omega
      · exact List.mem_append_left _ (List.mem_map.mpr ⟨b, hb2, by rw [e]⟩)
    · rcases List.mem_cons.mp hb with e2 | hb2
      · have := c.1 a ha2
        rw [e2] at hab
        omega
      · exact List.mem_append_right _ (prs_mem c.2 ha2 hb2 hab)
theorem prs_sorted : ∀ {xs : List En}, xs.Pairwise (fun a b => er a < er b) → (prs xs).Pairwise PLt
  | [], _ => .nil
  | x :: xs, hp => by
    have c := List.pairwise_cons.mp hp
    show (xs.map (fun y => (x, y)) ++ prs xs).Pairwise PLt
    rw [List.pairwise_append]
    refine ⟨List.pairwise_map.mpr (c.2.imp fun h => .inr ⟨rfl, h⟩), prs_sorted c.2, fun p hp q hq => ?_⟩
    obtain ⟨y, hy, rfl⟩ := List.mem_map.mp hp
    exact .inl (c.1 _ (mem_prs hq).1)
theorem lt_pr {p q : Pr} (h : PLt p q) : ltP (prP p) (prP q) = some true := by
  obtain ⟨a, b⟩ := p
  obtain ⟨c, d⟩ := q
  have i : ltPs [eP b] [eP d] = some (if b = d then false else decide (er b < er d)) := by
    show (if eqP (eP b) (eP d) then some false else ltP (eP b) (eP d)) = _
    rw [eqP_e, lt_e]
    by_cases z : b = d
    · rw [if_pos z, if_pos (decide_eq_true z)]
    · rw [if_neg z, if_neg (by simpa using z)]
  show (match ltPs [eP b] [eP d] with
    | none => none
    | some k => if eqP (eP a) (eP c) then some k else ltP (eP a) (eP c)) = _
  rw [i]
  show (if eqP (eP a) (eP c) then some (if b = d then false else decide (er b < er d)) else ltP (eP a) (eP c)) = _
  rw [eqP_e, lt_e]
  rcases h with h | ⟨h1, h2⟩
  · have h : er a < er c := h
    have n : a ≠ c := fun z => by rw [z] at h; omega
    rw [if_neg (by simpa using n), decide_eq_true h]
  · have h1 : a = c := h1
    have h2 : er b < er d := h2
    have n : b ≠ d := fun z => by rw [z] at h2; omega
    rw [if_pos (decide_eq_true h1), if_neg n, decide_eq_true h2]
theorem dat_pr (n : Nat) (p : Pr) : dat (n + 2) (prP p) = true := by
  unfold prP
  simp only [dat, dats, dat_e, Bool.and_self]
theorem key_pr (p : Pr) : keyT (prP p) = true := by
  have k : keyOk 8 (prP p) = true := by
    unfold prP
    simp only [keyOk, keyOks, key_e, Bool.and_self]
  unfold keyT
  rw [k]
  rfl
theorem eqP_pr (p q : Pr) : eqP (prP p) (prP q) = decide (p = q) := by
  obtain ⟨a, b⟩ := p
  obtain ⟨c, d⟩ := q
  show (eqP (eP a) (eP c) && (eqP (eP b) (eP d) && true)) = _
  rw [eqP_e, eqP_e, Bool.and_true]
  exact and_dec (by rw [Prod.mk.injEq])
theorem alike_l (x y : Lg) : alikeP (lP x) (lP y) = true := by cases x <;> cases y <;> rfl
theorem alike_pr (p q : Pr) : alikeP (prP p) (prP q) = true := by
  obtain ⟨⟨a, l⟩, ⟨b, m⟩⟩ := p
  obtain ⟨⟨c, l'⟩, ⟨d, m'⟩⟩ := q
  show ((true && (alikeP (lP l) (lP l') && true)) && ((true && (alikeP (lP m) (lP m') && true)) && true)) = true
  rw [alike_l, alike_l]
  rfl
theorem asc_pr : ∀ {ps : List Pr}, ps.Pairwise PLt → ascP (ps.map prP) = true
  | [], _ => rfl
  | p :: ps, h => by
    have c := List.pairwise_cons.mp h
    rw [List.map_cons, ascP, asc_pr c.2, Bool.and_true, List.all_eq_true]
    intro y hy
    obtain ⟨q, hq, rfl⟩ := List.mem_map.mp hy
    exact decide_eq_true (lt_pr (c.1 q hq))
theorem prs_len : ∀ n : Nat, n ≤ 3 → (prs (allE n)).length ≤ 36
  | 0, _ => by decide
  | 1, _ => by decide
  | 2, _ => by decide
  | 3, _ => by decide
  | n + 4, h => absurd h (by omega)
theorem sset_pr {ps : List Pr} (h : ps.Pairwise PLt) (hl : ps.length ≤ 36) : b1P .sortedSet (.lst (ps.map prP)) = some (.lst (ps.map prP)) := by
  cases ps with
  | nil => rfl
  | cons p ps =>
    have hi : intsOf ((p :: ps).map prP) = none := rfl
    have k : keyS ((p :: ps).map prP) = true := by
      unfold keyS
      simp only [Bool.and_eq_true, decide_eq_true_eq]
      refine ⟨?_, ?_, ?_, asc_pr h, by rw [List.length_map]; omega⟩
      · rw [List.all_eq_true]
        intro x hx
        obtain ⟨q, _, rfl⟩ := List.mem_map.mp hx
        exact key_pr q
      · unfold ordOk
        simp only [Bool.and_eq_true]
        refine ⟨dats_map (n := 40) (dat_pr 38) (p :: ps), ?_, ?_⟩
        · unfold alkAll
          rw [List.all_eq_true]
          intro x hx
          rw [List.all_eq_true]
          intro y hy
          obtain ⟨q, _, rfl⟩ := List.mem_map.mp hx
          obtain ⟨r, _, rfl⟩ := List.mem_map.mp hy
          exact alike_pr q r
        · rw [List.all_eq_true]
          intro x hx
          obtain ⟨q, _, rfl⟩ := List.mem_map.mp hx
          rfl
      · rw [List.all_eq_true]
        intro x hx
        obtain ⟨q, _, rfl⟩ := List.mem_map.mp hx
        rfl
    simp only [b1P]
    rw [hi]
    show (if keyS ((p :: ps).map prP) = true then _ else _) = _
    rw [if_pos k]
end RP

/-! Ky2: safe pairs in the program. Own work. -/
namespace RP
open PySem
abbrev GP : List Den := [d_all_safe, d_all_standings, d_all_ends, d_need_track]
def sp1 : S := .expr (.call 3 (.cons (.var 0) .nil))
def sp2 : S := .par [2, 3] (.cons (.call 2 (.cons (.b1 .len (.ix (.var 0) (.int 0))) .nil)) (.cons (.b1 .len (.call 1 (.cons (.var 0) .nil))) .nil))
def sp3 : S := .setO 1 (.lst .nil)
def spC : E := .cmp .eq (.b1 .len (.call 0 (.cons (.var 0) (.cons (.tup (.cons (.var 5) (.cons (.int 0) .nil))) (.cons (.tup (.cons (.var 6) (.cons (.int 0) .nil))) .nil))))) (.var 3)
def sp4_1_1 : S := .ife spC (.cons (.app 1 (.tup (.cons (.var 5) (.cons (.var 6) .nil)))) .nil) .nil
def spb4_1 : Ss := .cons sp4_1_1 .nil
def sp4_1 : S := .for_ (.nm 6) (.seq (.slLo (.var 2) (.bin .add (.var 4) (.int 1)))) spb4_1
def spb4 : Ss := .cons sp4_1 .nil
def sp4 : S := .for_ (.tup [4, 5]) (.enum (.var 2)) spb4
def sp5 : S := .retE (.var 1)
def spb : Ss := .cons sp1 (.cons sp2 (.cons sp3 (.cons sp4 (.frz 1 (.cons sp5 .nil)))))
theorem ir_safe_pairs_eq : ir_safe_pairs = spb := rfl
section
variable {t : Tk} {s : AS}
def safeP (t : Tk) (p : Pr) : Bool := decide ((sfe t (p.1, 0) (p.2, 0)).length = (allS t.n).length)
def pairs (t : Tk) : List Pr := (prs (allE t.n)).filter (safeP t)
abbrev spF (t : Tk) (acc : List Pr) (x4 x5 x6 : Sl) : Fm := [.sh (tP t), .ow (acc.map prP), .sh (.lst ((allE t.n).map eP)), .sh (.int ((allS t.n).length : Int)), x4, x5, x6]
theorem tr0 (V : VT t) {a b : En} (ha : a.1 < t.n) (hb : b.1 < t.n) : TrOk t (a, 0) (b, 0) := ⟨ha, (tk_bd V ha).1, hb, (tk_bd V hb).1⟩
theorem sp_b (V : VT t) {a b : En} (ha : a.1 < t.n) (hb : b.1 < t.n) {acc : List Pr} (hl : acc.length ≤ 1000) (x4 : Sl) : denSs GP [] [] spb4_1 (spF t acc x4 (.sh (eP a)) (.sh (eP b))) s = .ok (.nx (spF t (acc ++ ([b].filter fun y => safeP t (a, y)).map fun y => (a, y)) x4 (.sh (eP a)) (.sh (eP b)))) s := by
  have sf := allSafe_ok (s := s) V (tr0 V ha hb)
  have l : den GP [] [] (.b1 .len (.call 0 (.cons (.var 0) (.cons (.tup (.cons (.var 5) (.cons (.int 0) .nil))) (.cons (.tup (.cons (.var 6) (.cons (.int 0) .nil))) .nil))))) true (spF t acc x4 (.sh (eP a)) (.sh (eP b))) s = .ok (.int ((sfe t (a, 0) (b, 0)).length : Int)) s := by
    refine d_b1 (d_call (vs := [tP t, tnP (a, 0), tnP (b, 0)]) (es_cons rfl (es_cons rfl (es_cons rfl es_nil))) sf) ?_
    show some (PV.int (((sfe t (a, 0) (b, 0)).map sP).length : Int)) = _
    rw [List.length_map]
  have c : den GP [] [] spC false (spF t acc x4 (.sh (eP a)) (.sh (eP b))) s = .ok (.bl (safeP t (a, b))) s := d_cmp l rfl (cmp_n _ _)
  cases q : safeP t (a, b) with
  | true =>
    rw [q] at c
    have e : acc ++ ([b].filter fun y => safeP t (a, y)).map (fun y => (a, y)) = acc ++ [(a, b)] := by simp [q]
    rw [e]
    refine ss_one (s_if c (fun _ => ?_) (fun z => nomatch z))
    have p := s_app (G := GP) (GV := []) (C := []) (r := spF t acc x4 (.sh (eP a)) (.sh (eP b))) (s := s) (s' := s) (i := 1) (e := .tup (.cons (.var 5) (.cons (.var 6) .nil))) (v := prP (a, b)) (xs := acc.map prP) rfl rfl (by rw [List.length_map]; unfold LIM; omega)
    rw [map_add] at p
    exact ss_one p
  | false =>
    rw [q] at c
    have e : acc ++ ([b].filter fun y => safeP t (a, y)).map (fun y => (a, y)) = acc := by simp [q]
    rw [e]
    exact ss_one (s_if c (fun z => nomatch z) fun _ => rfl)
theorem sp_in (V : VT t) {a : En} (ha : a.1 < t.n) : ∀ (os : List En) (acc : List Pr) (x4 x6 : Sl), (∀ o ∈ os, o.1 < t.n) → acc.length + os.length ≤ 1000 → ∃ y6,
    forGo (fun x r1 => bnd (opt (bindT (.nm 6) x r1)) fun r2 => denSs GP [] [] spb4_1 r2) (os.map eP) (spF t acc x4 (.sh (eP a)) x6) s = .ok (.nx (spF t (acc ++ (os.filter fun y => safeP t (a, y)).map fun y => (a, y)) x4 (.sh (eP a)) y6)) s
  | [], acc, x4, x6, _, _ => ⟨x6, by simp only [List.filter_nil, List.map_nil, List.append_nil]; rfl⟩
  | b :: os, acc, x4, x6, h, hl => by
    rw [List.length_cons] at hl
    have g := sp_b (s := s) V ha (h b (by simp)) (acc := acc) (by omega) x4
    have g2 : bnd (opt (bindT (.nm 6) (eP b) (spF t acc x4 (.sh (eP a)) x6))) (fun r2 => denSs GP [] [] spb4_1 r2) s = _ := g
    have l1 : (([b].filter fun y => safeP t (a, y)).map fun y => (a, y)).length ≤ 1 := by
      rw [List.length_map]
      exact Nat.le_trans (List.length_filter_le _ _) (by simp)
    obtain ⟨y6, z⟩ := sp_in V ha os (acc ++ ([b].filter fun y => safeP t (a, y)).map fun y => (a, y)) x4 (.sh (eP b)) (fun o ho => h o (by simp [ho])) (by rw [List.length_append]; omega)
    refine ⟨y6, ?_⟩
    rw [List.map_cons, forGo, bnd_ok g2]
    show forGo _ (os.map eP) _ s = _
    rw [z]
    have e : acc ++ ((b :: os).filter fun y => safeP t (a, y)).map (fun y => (a, y)) = (acc ++ ([b].filter fun y => safeP t (a, y)).map fun y => (a, y)) ++ (os.filter fun y => safeP t (a, y)).map fun y => (a, y) := by
      rw [List.append_assoc, ← List.map_append, ← List.filter_append]
      rfl
    rw [e]
theorem sp_go (V : VT t) : ∀ (rest pre : List En) (acc : List Pr) (x4 x5 x6 : Sl), pre ++ rest = allE t.n → acc.length + (prs rest).length ≤ 1000 → ∃ y4 y5 y6,
    forGo (fun x r1 => bnd (opt (bindT (.tup [4, 5]) x r1)) fun r2 => denSs GP [] [] spb4 r2) (enumP pre.length (rest.map eP)) (spF t acc x4 x5 x6) s = .ok (.nx (spF t (acc ++ (prs rest).filter (safeP t)) y4 y5 y6)) s
  | [], pre, acc, x4, x5, x6, _, _ => ⟨x4, x5, x6, by simp only [prs, List.filter_nil, List.append_nil]; rfl⟩
  | a :: rest, pre, acc, x4, x5, x6, hp, hl => by
    have hm : ∀ o ∈ a :: rest, o.1 < t.n := fun o ho => mem_allE.mp (by rw [← hp]; exact List.mem_append_right _ ho)
    have hl : acc.length + (rest.map (fun y => (a, y)) ++ prs rest).length ≤ 1000 := hl
    rw [List.length_append, List.length_map] at hl
    obtain ⟨y6, z⟩ := sp_in (s := s) V (hm a (by simp)) rest acc (.sh (.int (pre.length : Int))) x6 (fun o ho => hm o (by simp [ho])) (by omega)
    have it : denIt GP [] [] (.seq (.slLo (.var 2) (.bin .add (.var 4) (.int 1)))) false (spF t acc (.sh (.int (pre.length : Int))) (.sh (eP a)) x6) s = .ok (rest.map eP) s := by
      have d : den GP [] [] (.slLo (.var 2) (.bin .add (.var 4) (.int 1))) false (spF t acc (.sh (.int (pre.length : Int))) (.sh (eP a)) x6) s = .ok (.lst (rest.map eP)) s := by
        have sl : slLoP (.lst ((allE t.n).map eP)) (.int ((pre.length + 1 : Nat) : Int)) = some (.lst (rest.map eP)) := by
          show some (PV.lst (((allE t.n).map eP).drop (clip ((allE t.n).map eP).length ((pre.length + 1 : Nat) : Int)))) = _
          rw [clip_nat (by rw [List.length_map, ← hp, List.length_append, List.length_cons]; omega), ← hp, ← List.map_drop]
          rw [show pre ++ a :: rest = (pre ++ [a]) ++ rest by simp, List.drop_left' (by simp)]
        rw [den]
        have d2 : den GP [] [] (.bin .add (.var 4) (.int 1)) false (spF t acc (.sh (.int (pre.length : Int))) (.sh (eP a)) x6) s = .ok (.int ((pre.length + 1 : Nat) : Int)) s := rfl
        have d1 : den GP [] [] (.var 2) true (spF t acc (.sh (.int (pre.length : Int))) (.sh (eP a)) x6) s = .ok (.lst ((allE t.n).map eP)) s := rfl
        rw [bnd_ok d1, bnd_ok d2, sl]
        rfl
      rw [denIt, bnd_ok d]
      rfl
    have g : bnd (opt (bindT (.tup [4, 5]) (.tup [.int (pre.length : Int), eP a]) (spF t acc x4 x5 x6))) (fun r2 => denSs GP [] [] spb4 r2) s = .ok (.nx (spF t (acc ++ (rest.filter fun y => safeP t (a, y)).map fun y => (a, y)) (.sh (.int (pre.length : Int))) (.sh (eP a)) y6)) s := by
      show denSs GP [] [] spb4 (spF t acc (.sh (.int (pre.length : Int))) (.sh (eP a)) x6) s = _
      exact ss_one (s_for it z)
    have l1 : ((rest.filter fun y => safeP t (a, y)).map fun y => (a, y)).length ≤ rest.length := by
      rw [List.length_map]
      exact List.length_filter_le _ _
    obtain ⟨z4, z5, z6, w⟩ := sp_go V rest (pre ++ [a]) (acc ++ (rest.filter fun y => safeP t (a, y)).map fun y => (a, y)) (.sh (.int (pre.length : Int))) (.sh (eP a)) y6 (by rw [← hp]; simp) (by rw [List.length_append]; omega)
    refine ⟨z4, z5, z6, ?_⟩
    rw [List.map_cons, enumP, forGo, bnd_ok g]
    show forGo _ (enumP (pre.length + 1) (rest.map eP)) _ s = _
    rw [List.length_append, List.length_singleton] at w
    rw [w]
    have e : acc ++ (prs (a :: rest)).filter (safeP t) = (acc ++ (rest.filter fun y => safeP t (a, y)).map fun y => (a, y)) ++ (prs rest).filter (safeP t) := by
      rw [prs, List.filter_append, List.append_assoc, List.filter_map]
      rfl
    rw [e]
theorem safePairs_ok (V : VX t) : d_safe_pairs [tP t] s = .ok (.lst ((pairs t).map prP)) s := by
  have n1 := needTrack_ok V s
  have ae := allEnds_ok t.n V.n3 s
  have as := allSt_ok (s := s) V.toVT
  have pl := prs_len t.n V.n3
  obtain ⟨y4, y5, y6, w⟩ := sp_go (s := s) V.toVT (allE t.n) [] [] .no .no .no rfl (by rw [List.length_nil]; omega)
  have n2 : den GP [] [] (.b1 .len (.ix (.var 0) (.int 0))) false [.sh (tP t), .no, .no, .no, .no, .no, .no] s = .ok (.int t.n) s := d_b1 (d_ix rfl rfl ix_t0) (len_ks t)
  have n3 : den GP [] [] (.b1 .len (.call 1 (.cons (.var 0) .nil))) false [.sh (tP t), .no, .no, .no, .no, .no, .no] s = .ok (.int ((allS t.n).length : Int)) s := by
    refine d_b1 (d_call (es_cons rfl es_nil) as) ?_
    show some (PV.int (((allS t.n).map sP).length : Int)) = _
    rw [List.length_map]
  have a2 : denS GP [] [] sp2 [.sh (tP t), .no, .no, .no, .no, .no, .no] s = .ok (.nx [.sh (tP t), .no, .sh (.lst ((allE t.n).map eP)), .sh (.int ((allS t.n).length : Int)), .no, .no, .no]) s :=
    s_par (es_cons (d_call (es_cons n2 es_nil) ae) (es_cons n3 es_nil)) rfl
  have a4 : denS GP [] [] sp4 (spF t [] .no .no .no) s = .ok (.nx (spF t (pairs t) y4 y5 y6)) s := by
    refine s_for (xs := enumP 0 ((allE t.n).map eP)) (s' := s) ?_ w
    rfl
  unfold d_safe_pairs
  rw [ir_safe_pairs_eq]
  refine run_ok (ss_nx (s_expr (d_call (es_cons rfl es_nil) n1)) (ss_nx a2 (ss_nx (s_setO (v := .lst []) rfl) (ss_nx a4 ?_))))
  rfl
end
end RP

/-! Ky3: k07's law. Own work. -/
namespace RP
open PySem
def lq1_1 : S := .set 3 (.call 8 (.cons (.var 0) (.cons (.var 1) .nil)))
def lq1_2 : S := .set 2 (.call 7 (.cons (.var 3) (.cons (.int 3) .nil)))
def lq1_3 : S := .par [5, 6] (.cons (.call 0 (.cons (.var 2) .nil)) (.cons (.call 6 (.cons (.b1 .len (.ix (.var 2) (.int 0))) .nil)) .nil))
def lq1_4e : E := .lc (.var 11) (.nm 11) (.seq (.var 5)) (.not (.cmp .lt (.ix (.var 11) (.int 0)) (.ix (.var 11) (.int 1)))) [11]
def lq1_4 : S := .ife (.or (.cmp .ne (.var 5) (.b1 .sortedSet (.var 5))) (.cmp .ne lq1_4e (.lst .nil))) (.cons (.retE (.bl false)) .nil) .nil
def lq1_5_1 : S := .par [7, 8] (.cons (.call 5 (.cons (.var 3) (.cons (.var 6) .nil))) (.cons (.call 5 (.cons (.var 3) (.cons (.var 6) .nil))) .nil))
def lqA1 : S := .set 9 (.call 4 (.cons (.var 2) (.cons (.tup (.cons (.var 7) (.cons (.int 0) .nil))) (.cons (.tup (.cons (.var 8) (.cons (.int 0) .nil))) .nil))))
def lqA2c : E := .cmp .ne (.cmp .isin (.tup (.cons (.var 7) (.cons (.var 8) .nil))) (.var 5)) (.cmp .eq (.var 9) (.call 3 (.cons (.var 2) .nil)))
def lqA2 : S := .ife lqA2c (.cons (.retE (.bl false)) .nil) .nil
def lqA3c : E := .and (.cmp .eq (.ix (.var 7) (.int 0)) (.ix (.var 8) (.int 0))) (.cmp .ne (.var 9) (.lst .nil))
def lqA3 : S := .ife lqA3c (.cons (.retE (.bl false)) .nil) .nil
def lqA4_1 : S := .setT [12, 13, 14] (.call 2 (.cons (.var 2) (.cons (.var 7) (.cons (.var 10) .nil))))
def lqA4_2 : S := .setT [15, 16, 17] (.call 2 (.cons (.var 2) (.cons (.var 8) (.cons (.var 13) .nil))))
def lqA4_3c : E := .call 1 (.cons (.var 2) (.cons (.tup (.cons (.var 12) (.cons (.bin .sub (.var 14) (.int 1)) .nil))) (.cons (.tup (.cons (.var 15) (.cons (.bin .sub (.var 17) (.int 1)) .nil))) (.cons (.var 16) .nil))))
def lqA4_3 : S := .ife (.notN lqA4_3c) (.cons (.retE (.bl false)) .nil) .nil
def lqA4b : Ss := .cons lqA4_1 (.cons lqA4_2 (.cons lqA4_3 .nil))
def lqA4 : S := .for_ (.nm 10) (.seq (.slHi (.var 9) (.int 2))) lqA4b
def lqA : Ss := .cons lqA1 (.cons lqA2 (.cons lqA3 (.cons lqA4 .nil)))
def lq1_5_2 : S := .ife (.cmp .lt (.var 7) (.var 8)) lqA .nil
def lqb1_5 : Ss := .cons lq1_5_1 (.cons lq1_5_2 .nil)
def lq1_5 : S := .for_ (.nm 4) (.range1 (.int 20)) lqb1_5
def lqb1 : Ss := .cons lq1_1 (.cons lq1_2 (.cons lq1_3 (.cons lq1_4 (.cons lq1_5 .nil))))
def lq1 : S := .for_ (.nm 1) (.range1 (.max2 (.int 1) (.min2 (.int 4) (.b1 .len (.var 0))))) lqb1
def lq2 : S := .set 2 (.tup (.cons (.tup (.cons (.str "lazy") .nil)) (.cons (.tup (.cons (.tup (.cons (.tup (.cons (.int 0) (.cons (.str "a") .nil))) (.cons .non (.cons (.int 1) .nil)))) (.cons (.tup (.cons (.tup (.cons (.int 0) (.cons (.str "b") .nil))) (.cons (.tup (.cons (.int 0) (.cons (.str "c") .nil))) (.cons (.int 2) .nil)))) .nil))) .nil)))
def lq3 : S := .retE (.cmp .eq (.call 0 (.cons (.var 2) .nil)) (.lst .nil))
def lqb : Ss := .cons lq1 (.cons lq2 (.cons lq3 .nil))
theorem ir_law_eq : ir_law = lqb := rfl
abbrev GW : List Den := [d_safe_pairs, d_meeting, d_passed, d__law_standings, d_safe_standings, d__law_any_of, d__law_ends, d__law_track, d__law_churn]
abbrev lw (ns : List Int) (x1 x2 x3 x4 x5 x6 x7 x8 x9 x10 x11 x12 x13 x14 x15 x16 x17 : Sl) : Fm := [.sh (.rol (ns.map .int)), x1, x2, x3, x4, x5, x6, x7, x8, x9, x10, x11, x12, x13, x14, x15, x16, x17]
theorem ne_nil : cmpP .ne (.lst []) (.lst []) = some false := cmp_ne (b := true) rfl rfl rfl
theorem ne_prs (ps : List Pr) : cmpP .ne (.lst (ps.map prP)) (.lst (ps.map prP)) = some false := by
  have d : dat DEP (.lst (ps.map prP)) = true := dats_map (n := 39) (dat_pr 37) ps
  refine cmp_ne (b := true) d d ?_
  show eqPs (ps.map prP) (ps.map prP) = true
  rw [eqPs_map eqP_pr]
  simp
theorem in_prs (p : Pr) (ps : List Pr) : cmpP .isin (prP p) (.lst (ps.map prP)) = some (decide (p ∈ ps)) := by
  rw [cmp_isinL (dat_pr 38 p) (dats_map (n := 40) (dat_pr 38) ps), List.any_map]
  have e : ((fun y => eqP y (prP p)) ∘ prP) = fun q : Pr => decide (q = p) := funext fun q => eqP_pr q p
  rw [e]
  congr 1
  induction ps with
  | nil => rfl
  | cons q ps ih =>
    rw [List.any_cons, ih]
    by_cases h : q = p
    · subst h; simp
    · have h2 : ¬ p = q := fun z => h z.symm
      simp [h, h2]
theorem eq_sts (xs ys : List Sd) : cmpP .eq (.lst (xs.map sP)) (.lst (ys.map sP)) = some (decide (xs = ys)) := by
  have d : ∀ zs : List Sd, dat DEP (.lst (zs.map sP)) = true := fun zs => dats_map (n := 39) (dat_s 38) zs
  exact cmp_eq (d xs) (d ys) (eqPs_map eqP_s xs ys)
theorem ne_bl (x : Bool) : cmpP .ne (.bl x) (.bl x) = some false := by cases x <;> exact cmp_ne (b := true) rfl rfl rfl
section
variable {ns : List Int} {t : Tk} {n : Nat} {s : AS}
theorem pairs_sorted (V : VT t) : (pairs t).Pairwise PLt := (prs_sorted (allE_sorted t.n V.n3)).filter _
theorem pairs_len (V : VT t) : (pairs t).length ≤ 36 := Nat.le_trans (List.length_filter_le _ _) (prs_len t.n V.n3)
theorem pairs_lt (V : VT t) : ∀ p ∈ pairs t, er p.1 < er p.2 := fun p hp => prs_lt (allE_sorted t.n V.n3) p ((List.mem_filter.mp hp).1)
theorem filter_len {α : Type} (p : α → Bool) : ∀ l : List α, (l.filter p).length = l.length ↔ l.filter p = l := fun l =>
  ⟨fun h => (List.filter_sublist (p := p) (l := l)).eq_of_length h, fun h => by rw [h]⟩
theorem pairs_iff (V : VT t) {a b : En} (ha : a.1 < t.n) (hb : b.1 < t.n) (hab : er a < er b) : decide ((a, b) ∈ pairs t) = decide (sfe t (a, 0) (b, 0) = allS t.n) := by
  refine decide_eq_decide.mpr ?_
  unfold pairs
  rw [List.mem_filter]
  have m := prs_mem (allE_sorted t.n V.n3) (mem_allE.mpr ha) (mem_allE.mpr hb) hab
  unfold safeP
  rw [decide_eq_true_eq]
  exact ⟨fun h => (filter_len _ _).mp h.2, fun h => ⟨m, (filter_len _ _).mpr h⟩⟩
theorem sfe_point {a b : En} (h : a.1 = b.1) : sfe t (a, 0) (b, 0) = [] := by
  unfold sfe
  rw [List.filter_eq_nil_iff]
  intro st _
  have st1 : stop t (a, 0) (b, 0) = true := by
    unfold stop
    dsimp only
    rw [decide_eq_true h]
    simp
  rw [fst_stop (t := t) (x := ((a, 0), (b, 0), st)) st1]
  simp
theorem nx_00 {a b : En} {st : Sd} {y : TS} (e : nx t ((a, 0), (b, 0), st) = some y) : y = (((t.st (a, st)).1, t.sk (a, st) - 1), ((t.st (b, (t.st (a, st)).2)).1, t.sk (b, (t.st (a, st)).2) - 1), (t.st (b, (t.st (a, st)).2)).2) := by
  unfold nx at e
  dsimp only at e
  rw [mv_zero (a := (a, 0)) (by simp), mv_zero (a := (b, 0)) (by simp)] at e
  split at e
  · cases e
  · split at e
    · cases e; rfl
    · cases e
abbrev FA (ns : List Int) (t : Tk) (a b : En) (x1 x3 x4 x5 x6 x9 x10 x11 x12 x13 x14 x15 x16 x17 : Sl) : Fm := lw ns x1 (.sh (tP t)) x3 x4 x5 x6 (.sh (eP a)) (.sh (eP b)) x9 x10 x11 x12 x13 x14 x15 x16 x17
theorem lqA4_b (V : VX t) {a b : En} (ha : a.1 < t.n) (hb : b.1 < t.n) {st : Sd} (hs : st ∈ sfe t (a, 0) (b, 0)) (x1 x3 x4 x5 x6 x9 x11 x12 x13 x14 x15 x16 x17 : Sl) : ∃ y12 y13 y14 y15 y16 y17,
    denSs GW [] [] lqA4b (FA ns t a b x1 x3 x4 x5 x6 x9 (.sh (sP st)) x11 x12 x13 x14 x15 x16 x17) s = .ok (.nx (FA ns t a b x1 x3 x4 x5 x6 x9 (.sh (sP st)) x11 y12 y13 y14 y15 y16 y17)) s := by
  have hm := List.mem_filter.mp hs
  have hst := mem_allS.mp hm.1
  have f0 : fst t ((a, 0), (b, 0), st) = none := by
    have := hm.2
    cases q : fst t ((a, 0), (b, 0), st) with
    | none => rfl
    | some k => rw [q] at this; cases this
  have T := (tr0 V.toVT ha hb).ts V.toVT hm.1
  obtain ⟨y, e, fy⟩ := fst_none V.toVT T f0
  rw [nx_00 e] at fy
  have pa : PlOk t (a, st) := ⟨ha, hst.1, hst.2⟩
  have qa := step_pl V.toVT pa
  have pb : PlOk t (b, (t.st (a, st)).2) := ⟨hb, qa.s, qa.l⟩
  have qb := step_pl V.toVT pb
  have c1 := passed_ok V pa s
  have c2 := passed_ok V pb s
  have ta := tk_bd V.toVT (e := (t.ov a st).1) (ov_lt ha)
  have tb := tk_bd V.toVT (e := (t.ov b (t.st (a, st)).2).1) (ov_lt hb)
  have ea : t.tk (t.st (a, st)).1 = t.sk (a, st) := tk_to V (e := (t.ov a st).1) (ov_lt ha)
  have eb : t.tk (t.st (b, (t.st (a, st)).2)).1 = t.sk (b, (t.st (a, st)).2) := tk_to V (e := (t.ov b (t.st (a, st)).2).1) (ov_lt hb)
  have ka : 1 ≤ t.sk (a, st) := ta.1
  have kb : 1 ≤ t.sk (b, (t.st (a, st)).2) := tb.1
  have T2 : TrOk t ((t.st (a, st)).1, t.sk (a, st) - 1) ((t.st (b, (t.st (a, st)).2)).1, t.sk (b, (t.st (a, st)).2) - 1) :=
    ⟨qa.e, by show t.sk (a, st) - 1 < t.tk (t.st (a, st)).1; omega, qb.e, by show t.sk (b, (t.st (a, st)).2) - 1 < t.tk (t.st (b, (t.st (a, st)).2)).1; omega⟩
  have m := meeting_ok (s := s) V T2 (st := (t.st (b, (t.st (a, st)).2)).2) (mem_allS.mpr ⟨qb.s, qb.l⟩)
  rw [fy] at m
  have sb : ∀ (k : Nat), 1 ≤ k → PV.int ((k : Int) - 1) = PV.int ((k - 1 : Nat) : Int) := fun k hk => by rw [show ((k : Int) - 1) = ((k - 1 : Nat) : Int) by omega]
  have c3 : den GW [] [] lqA4_3c false (FA ns t a b x1 x3 x4 x5 x6 x9 (.sh (sP st)) x11 (.sh (eP (t.st (a, st)).1)) (.sh (sP (t.st (a, st)).2)) (.sh (.int (t.sk (a, st)))) (.sh (eP (t.st (b, (t.st (a, st)).2)).1)) (.sh (sP (t.st (b, (t.st (a, st)).2)).2)) (.sh (.int (t.sk (b, (t.st (a, st)).2))))) s = .ok .non s := by
    have u1 : den GW [] [] (.tup (.cons (.var 12) (.cons (.bin .sub (.var 14) (.int 1)) .nil))) false (FA ns t a b x1 x3 x4 x5 x6 x9 (.sh (sP st)) x11 (.sh (eP (t.st (a, st)).1)) (.sh (sP (t.st (a, st)).2)) (.sh (.int (t.sk (a, st)))) (.sh (eP (t.st (b, (t.st (a, st)).2)).1)) (.sh (sP (t.st (b, (t.st (a, st)).2)).2)) (.sh (.int (t.sk (b, (t.st (a, st)).2))))) s = .ok (tnP ((t.st (a, st)).1, t.sk (a, st) - 1)) s := by
      refine d_tup (vs := [eP (t.st (a, st)).1, .int ((t.sk (a, st) - 1 : Nat) : Int)]) (es_cons rfl (es_cons (d_add (x := .int (t.sk (a, st))) (y := .int 1) rfl rfl ?_) es_nil))
      show some (PV.int ((t.sk (a, st) : Int) - 1)) = _
      rw [sb _ ka]
    have u2 : den GW [] [] (.tup (.cons (.var 15) (.cons (.bin .sub (.var 17) (.int 1)) .nil))) false (FA ns t a b x1 x3 x4 x5 x6 x9 (.sh (sP st)) x11 (.sh (eP (t.st (a, st)).1)) (.sh (sP (t.st (a, st)).2)) (.sh (.int (t.sk (a, st)))) (.sh (eP (t.st (b, (t.st (a, st)).2)).1)) (.sh (sP (t.st (b, (t.st (a, st)).2)).2)) (.sh (.int (t.sk (b, (t.st (a, st)).2))))) s = .ok (tnP ((t.st (b, (t.st (a, st)).2)).1, t.sk (b, (t.st (a, st)).2) - 1)) s := by
      refine d_tup (vs := [eP (t.st (b, (t.st (a, st)).2)).1, .int ((t.sk (b, (t.st (a, st)).2) - 1 : Nat) : Int)]) (es_cons rfl (es_cons (d_add (x := .int (t.sk (b, (t.st (a, st)).2))) (y := .int 1) rfl rfl ?_) es_nil))
      show some (PV.int ((t.sk (b, (t.st (a, st)).2) : Int) - 1)) = _
      rw [sb _ kb]
    exact d_call (es_cons rfl (es_cons u1 (es_cons u2 (es_cons rfl es_nil)))) m
  refine ⟨_, _, _, _, _, _, ss_nx (s_setT (d_call (es_cons rfl (es_cons rfl (es_cons rfl es_nil))) c1) rfl) (ss_nx (s_setT (d_call (vs := [tP t, eP b, sP (t.st (a, st)).2]) (es_cons rfl (es_cons rfl (es_cons rfl es_nil))) c2) rfl) (ss_one (s_if (p := false) (d_notN (p := true) c3 rfl) (fun z => nomatch z) fun _ => rfl)))⟩
theorem lqA4_go (V : VX t) {a b : En} (ha : a.1 < t.n) (hb : b.1 < t.n) : ∀ (sts : List Sd), (∀ st ∈ sts, st ∈ sfe t (a, 0) (b, 0)) → ∀ (x1 x3 x4 x5 x6 x9 x10 x11 x12 x13 x14 x15 x16 x17 : Sl), ∃ y10 y12 y13 y14 y15 y16 y17,
    forGo (fun x r1 => bnd (opt (bindT (.nm 10) x r1)) fun r2 => denSs GW [] [] lqA4b r2) (sts.map sP) (FA ns t a b x1 x3 x4 x5 x6 x9 x10 x11 x12 x13 x14 x15 x16 x17) s = .ok (.nx (FA ns t a b x1 x3 x4 x5 x6 x9 y10 x11 y12 y13 y14 y15 y16 y17)) s
  | [], _, x1, x3, x4, x5, x6, x9, x10, x11, x12, x13, x14, x15, x16, x17 => ⟨x10, x12, x13, x14, x15, x16, x17, rfl⟩
  | st :: sts, h, x1, x3, x4, x5, x6, x9, x10, x11, x12, x13, x14, x15, x16, x17 => by
    obtain ⟨y12, y13, y14, y15, y16, y17, g0⟩ := lqA4_b (ns := ns) (s := s) V ha hb (h st (by simp)) x1 x3 x4 x5 x6 x9 x11 x12 x13 x14 x15 x16 x17
    obtain ⟨z10, z12, z13, z14, z15, z16, z17, z⟩ := lqA4_go V ha hb sts (fun u hu => h u (by simp [hu])) x1 x3 x4 x5 x6 x9 (.sh (sP st)) x11 y12 y13 y14 y15 y16 y17
    refine ⟨z10, z12, z13, z14, z15, z16, z17, ?_⟩
    have g : bnd (opt (bindT (.nm 10) (sP st) (FA ns t a b x1 x3 x4 x5 x6 x9 x10 x11 x12 x13 x14 x15 x16 x17))) (fun r2 => denSs GW [] [] lqA4b r2) s = _ := g0
    rw [List.map_cons, forGo, bnd_ok g]
    exact z
theorem lqA_ok (V : VX t) {a b : En} (ha : a.1 < t.n) (hb : b.1 < t.n) (hab : er a < er b) (x1 x3 x4 x6 x9 x10 x11 x12 x13 x14 x15 x16 x17 : Sl) : ∃ y9 y10 y12 y13 y14 y15 y16 y17,
    denSs GW [] [] lqA (FA ns t a b x1 x3 x4 (.sh (.lst ((pairs t).map prP))) x6 x9 x10 x11 x12 x13 x14 x15 x16 x17) s = .ok (.nx (FA ns t a b x1 x3 x4 (.sh (.lst ((pairs t).map prP))) x6 y9 y10 x11 y12 y13 y14 y15 y16 y17)) s := by
  have sf := safe_ok (s := s) V (tr0 V.toVT ha hb)
  have ls := lawSt_ok (s := s) V.toVT
  have a1 : denS GW [] [] lqA1 (FA ns t a b x1 x3 x4 (.sh (.lst ((pairs t).map prP))) x6 x9 x10 x11 x12 x13 x14 x15 x16 x17) s = .ok (.nx (FA ns t a b x1 x3 x4 (.sh (.lst ((pairs t).map prP))) x6 (.sh (.lst ((sfe t (a, 0) (b, 0)).map sP))) x10 x11 x12 x13 x14 x15 x16 x17)) s :=
    s_set (d_call (vs := [tP t, tnP (a, 0), tnP (b, 0)]) (es_cons rfl (es_cons rfl (es_cons rfl es_nil))) sf)
  have c2 : den GW [] [] lqA2c false (FA ns t a b x1 x3 x4 (.sh (.lst ((pairs t).map prP))) x6 (.sh (.lst ((sfe t (a, 0) (b, 0)).map sP))) x10 x11 x12 x13 x14 x15 x16 x17) s = .ok (.bl false) s := by
    refine d_cmp (y := .bl (decide ((a, b) ∈ pairs t))) (z := .bl (decide (sfe t (a, 0) (b, 0) = allS t.n))) (d_cmp (y := prP (a, b)) rfl rfl (in_prs _ _)) (d_cmp rfl (d_call (es_cons rfl es_nil) ls) (eq_sts _ _)) ?_
    rw [pairs_iff V.toVT ha hb hab]
    exact ne_bl _
  have c3 : den GW [] [] lqA3c false (FA ns t a b x1 x3 x4 (.sh (.lst ((pairs t).map prP))) x6 (.sh (.lst ((sfe t (a, 0) (b, 0)).map sP))) x10 x11 x12 x13 x14 x15 x16 x17) s = .ok (.bl false) s := by
    have d := d_and (G := GW) (GV := []) (C := []) (o := false) (s := s) (r := FA ns t a b x1 x3 x4 (.sh (.lst ((pairs t).map prP))) x6 (.sh (.lst ((sfe t (a, 0) (b, 0)).map sP))) x10 x11 x12 x13 x14 x15 x16 x17) (p := decide (a.1 = b.1)) (q := false) (a := .cmp .eq (.ix (.var 7) (.int 0)) (.ix (.var 8) (.int 0))) (b := .cmp .ne (.var 9) (.lst .nil)) (d_cmp rfl rfl (cmp_n a.1 b.1)) fun h => by
      have e := sfe_point (t := t) (of_decide_eq_true h)
      rw [e]
      exact d_cmp (y := .lst []) (z := .lst []) rfl rfl ne_nil
    rw [Bool.and_false] at d
    exact d
  have it : denIt GW [] [] (.seq (.slHi (.var 9) (.int 2))) false (FA ns t a b x1 x3 x4 (.sh (.lst ((pairs t).map prP))) x6 (.sh (.lst ((sfe t (a, 0) (b, 0)).map sP))) x10 x11 x12 x13 x14 x15 x16 x17) s = .ok (((sfe t (a, 0) (b, 0)).take (clip ((sfe t (a, 0) (b, 0)).map sP).length 2)).map sP) s := by
    have d : den GW [] [] (.slHi (.var 9) (.int 2)) false (FA ns t a b x1 x3 x4 (.sh (.lst ((pairs t).map prP))) x6 (.sh (.lst ((sfe t (a, 0) (b, 0)).map sP))) x10 x11 x12 x13 x14 x15 x16 x17) s = .ok (.lst (((sfe t (a, 0) (b, 0)).take (clip ((sfe t (a, 0) (b, 0)).map sP).length 2)).map sP)) s := by
      refine d_slHi (x := .lst ((sfe t (a, 0) (b, 0)).map sP)) (y := .int 2) rfl rfl ?_
      show some (PV.lst (((sfe t (a, 0) (b, 0)).map sP).take (clip ((sfe t (a, 0) (b, 0)).map sP).length 2))) = _
      rw [← List.map_take]
    rw [denIt, bnd_ok d]
    rfl
  obtain ⟨y10, y12, y13, y14, y15, y16, y17, z⟩ := lqA4_go (ns := ns) (s := s) V ha hb ((sfe t (a, 0) (b, 0)).take (clip ((sfe t (a, 0) (b, 0)).map sP).length 2)) (fun st hs => List.mem_of_mem_take hs) x1 x3 x4 (.sh (.lst ((pairs t).map prP))) x6 (.sh (.lst ((sfe t (a, 0) (b, 0)).map sP))) x10 x11 x12 x13 x14 x15 x16 x17
  exact ⟨_, y10, y12, y13, y14, y15, y16, y17, ss_nx a1 (ss_nx (s_ifF c2) (ss_nx (s_ifF c3) (ss_one (s_for it z))))⟩
abbrev FC (ns : List Int) (n : Nat) (t : Tk) (x1 x4 x7 x8 x9 x10 x11 x12 x13 x14 x15 x16 x17 : Sl) : Fm := lw ns x1 (.sh (tP t)) (.sh (.ref n)) x4 (.sh (.lst ((pairs t).map prP))) (.sh (.lst ((allE t.n).map eP))) x7 x8 x9 x10 x11 x12 x13 x14 x15 x16 x17
theorem lq15_b (V : VX t) (h : Ch s n) (x1 x4 x7 x8 x9 x10 x11 x12 x13 x14 x15 x16 x17 : Sl) : ∃ y7 y8 y9 y10 y12 y13 y14 y15 y16 y17 s', Ch s' n ∧
    denSs GW [] [] lqb1_5 (FC ns n t x1 x4 x7 x8 x9 x10 x11 x12 x13 x14 x15 x16 x17) s = .ok (.nx (FC ns n t x1 x4 y7 y8 y9 y10 x11 y12 y13 y14 y15 y16 y17)) s' := by
  have l9 : (allE t.n).length ≤ 9 := by
    have n3 := V.n3
    match t.n, n3 with
    | 0, _ => decide
    | 1, _ => decide
    | 2, _ => decide
    | 3, _ => decide
  have hne : allE t.n ≠ [] := fun z => by
    have m : ((0, .a) : En) ∈ allE t.n := mem_allE.mpr V.n1
    rw [z] at m
    cases m
  obtain ⟨a, ha, s1, c1, e1⟩ := anyC (enc := eP) h hne (by omega)
  obtain ⟨b, hb, s2, c2, e2⟩ := anyC (enc := eP) c1 hne (by omega)
  have ha := mem_allE.mp ha
  have hb := mem_allE.mp hb
  have a1 : denS GW [] [] lq1_5_1 (FC ns n t x1 x4 x7 x8 x9 x10 x11 x12 x13 x14 x15 x16 x17) s = .ok (.nx (FC ns n t x1 x4 (.sh (eP a)) (.sh (eP b)) x9 x10 x11 x12 x13 x14 x15 x16 x17)) s2 :=
    s_par (es_cons (d_call (es_cons rfl (es_cons rfl es_nil)) e1) (es_cons (d_call (es_cons rfl (es_cons rfl es_nil)) e2) es_nil)) rfl
  have c : den GW [] [] (.cmp .lt (.var 7) (.var 8)) false (FC ns n t x1 x4 (.sh (eP a)) (.sh (eP b)) x9 x10 x11 x12 x13 x14 x15 x16 x17) s2 = .ok (.bl (decide (er a < er b))) s2 := d_cmp rfl rfl (cmp_lte a b)
  by_cases q : er a < er b
  · rw [decide_eq_true q] at c
    obtain ⟨y9, y10, y12, y13, y14, y15, y16, y17, z⟩ := lqA_ok (ns := ns) (s := s2) V ha hb q x1 (.sh (.ref n)) x4 (.sh (.lst ((allE t.n).map eP))) x9 x10 x11 x12 x13 x14 x15 x16 x17
    exact ⟨.sh (eP a), .sh (eP b), y9, y10, y12, y13, y14, y15, y16, y17, s2, c2, ss_nx a1 (ss_one (s_if c (fun _ => z) (fun z => nomatch z)))⟩
  · rw [decide_eq_false q] at c
    exact ⟨.sh (eP a), .sh (eP b), x9, x10, x12, x13, x14, x15, x16, x17, s2, c2, ss_nx a1 (ss_one (s_if c (fun z => nomatch z) fun _ => rfl))⟩
theorem lq15_go (V : VX t) : ∀ (xs : List PV) (x1 x4 x7 x8 x9 x10 x11 x12 x13 x14 x15 x16 x17 : Sl) (s : AS), Ch s n → ∃ y4 y7 y8 y9 y10 y12 y13 y14 y15 y16 y17 s', Ch s' n ∧
    forGo (fun x r1 => bnd (opt (bindT (.nm 4) x r1)) fun r2 => denSs GW [] [] lqb1_5 r2) xs (FC ns n t x1 x4 x7 x8 x9 x10 x11 x12 x13 x14 x15 x16 x17) s = .ok (.nx (FC ns n t x1 y4 y7 y8 y9 y10 x11 y12 y13 y14 y15 y16 y17)) s'
  | [], x1, x4, x7, x8, x9, x10, x11, x12, x13, x14, x15, x16, x17, s, h => ⟨x4, x7, x8, x9, x10, x12, x13, x14, x15, x16, x17, s, h, rfl⟩
  | x :: xs, x1, x4, x7, x8, x9, x10, x11, x12, x13, x14, x15, x16, x17, s, h => by
    obtain ⟨y7, y8, y9, y10, y12, y13, y14, y15, y16, y17, s1, c1, g0⟩ := lq15_b (ns := ns) V h x1 (.sh x) x7 x8 x9 x10 x11 x12 x13 x14 x15 x16 x17
    obtain ⟨z4, z7, z8, z9, z10, z12, z13, z14, z15, z16, z17, s2, c2, z⟩ := lq15_go V xs x1 (.sh x) y7 y8 y9 y10 x11 y12 y13 y14 y15 y16 y17 s1 c1
    refine ⟨z4, z7, z8, z9, z10, z12, z13, z14, z15, z16, z17, s2, c2, ?_⟩
    have g : bnd (opt (bindT (.nm 4) x (FC ns n t x1 x4 x7 x8 x9 x10 x11 x12 x13 x14 x15 x16 x17))) (fun r2 => denSs GW [] [] lqb1_5 r2) s = _ := g0
    rw [forGo, bnd_ok g]
    exact z
/-! a round -/
theorem lq1_body (ns : List Int) (k : Nat) (hk : k < 12) (x2 x3 x4 x5 x6 x7 x8 x9 x10 x11 x12 x13 x14 x15 x16 x17 : Sl) (s : AS) : ∃ y2 y3 y4 y5 y6 y7 y8 y9 y10 y11 y12 y13 y14 y15 y16 y17 s',
    denSs GW [] [] lqb1 (lw ns (.sh (.int (k : Int))) x2 x3 x4 x5 x6 x7 x8 x9 x10 x11 x12 x13 x14 x15 x16 x17) s = .ok (.nx (lw ns (.sh (.int (k : Int))) y2 y3 y4 y5 y6 y7 y8 y9 y10 y11 y12 y13 y14 y15 y16 y17)) s' := by
  obtain ⟨u, tt, h0, h1, e1⟩ := churn_ok ns k hk s
  have c1 : Ch (s ++ [.lst [.int u, .int tt]]) s.length := ⟨u, tt, by simp, h0, h1⟩
  obtain ⟨t, s2, V, c2, e2⟩ := track_ok c1
  have sp := safePairs_ok (s := s2) V
  have le := lawEnds_ok t.n V.n3 s2
  have nn : den GW [] [] (.b1 .len (.ix (.var 2) (.int 0))) false (lw ns (.sh (.int (k : Int))) (.sh (tP t)) (.sh (.ref s.length)) x4 x5 x6 x7 x8 x9 x10 x11 x12 x13 x14 x15 x16 x17) s2 = .ok (.int t.n) s2 := d_b1 (d_ix rfl rfl ix_t0) (len_ks t)
  have a3 : denS GW [] [] lq1_3 (lw ns (.sh (.int (k : Int))) (.sh (tP t)) (.sh (.ref s.length)) x4 x5 x6 x7 x8 x9 x10 x11 x12 x13 x14 x15 x16 x17) s2 = .ok (.nx (FC ns s.length t (.sh (.int (k : Int))) x4 x7 x8 x9 x10 x11 x12 x13 x14 x15 x16 x17)) s2 :=
    s_par (es_cons (d_call (es_cons rfl es_nil) sp) (es_cons (d_call (es_cons nn es_nil) le) es_nil)) rfl
  have L := ev_lc (G := GW) (GV := []) (C := []) (s := s2) (r := FC ns s.length t (.sh (.int (k : Int))) x4 x7 x8 x9 x10 x11 x12 x13 x14 x15 x16 x17) (it := .seq (.var 5)) (e := .var 11) (c := .not (.cmp .lt (.ix (.var 11) (.int 0)) (.ix (.var 11) (.int 1)))) (t := .nm 11) (vs := [11]) (o := true) (enc := prP) (ys := pairs t) (fun _ => false) prP (fun p => FC ns s.length t (.sh (.int (k : Int))) x4 x7 x8 x9 x10 (.sh (prP p)) x12 x13 x14 x15 x16 x17) rfl (fun _ _ => rfl) (fun p hp => d_not (p := true) (d_cmp (y := eP p.1) (z := eP p.2) rfl rfl (by rw [cmp_lte, decide_eq_true (pairs_lt V.toVT p hp)]))) (fun _ _ z => nomatch z) (by have := pairs_len V.toVT; unfold LIM; omega)
  have L2 : den GW [] [] lq1_4e true (FC ns s.length t (.sh (.int (k : Int))) x4 x7 x8 x9 x10 x11 x12 x13 x14 x15 x16 x17) s2 = .ok (.lst []) s2 := by
    have e : ((pairs t).filter fun _ => false).map prP = [] := by simp
    rw [e] at L
    exact L
  have a4 : denS GW [] [] lq1_4 (FC ns s.length t (.sh (.int (k : Int))) x4 x7 x8 x9 x10 x11 x12 x13 x14 x15 x16 x17) s2 = .ok (.nx (FC ns s.length t (.sh (.int (k : Int))) x4 x7 x8 x9 x10 x11 x12 x13 x14 x15 x16 x17)) s2 :=
    s_ifF (d_orF (d_cmp (y := .lst ((pairs t).map prP)) (z := .lst ((pairs t).map prP)) rfl (d_b1 (x := .lst ((pairs t).map prP)) rfl (sset_pr (pairs_sorted V.toVT) (pairs_len V.toVT))) (ne_prs _)) (d_cmp L2 rfl ne_nil))
  obtain ⟨y4, y7, y8, y9, y10, y12, y13, y14, y15, y16, y17, s3, c3, g⟩ := lq15_go (ns := ns) V (rangeP 0 20) (.sh (.int (k : Int))) x4 x7 x8 x9 x10 x11 x12 x13 x14 x15 x16 x17 s2 c2
  refine ⟨.sh (tP t), .sh (.ref s.length), y4, .sh (.lst ((pairs t).map prP)), .sh (.lst ((allE t.n).map eP)), y7, y8, y9, y10, x11, y12, y13, y14, y15, y16, y17, s3, ?_⟩
  refine ss_nx (s_set (d_call (vs := [.rol (ns.map .int), .int (k : Int)]) (es_cons rfl (es_cons rfl es_nil)) e1)) ?_
  refine ss_nx (s_set (d_call (vs := [.ref s.length, .int 3]) (es_cons rfl (es_cons rfl es_nil)) e2)) ?_
  exact ss_nx a3 (ss_nx a4 (ss_one (s_for (xs := rangeP 0 20) rfl g)))
end
theorem rangeP_mem : ∀ (n : Nat) (lo : Nat) (x : PV), x ∈ rangeP lo n → ∃ k : Nat, k < lo + n ∧ x = .int k
  | 0, lo, x, h => by simp [rangeP] at h
  | n + 1, lo, x, h => by
    rw [rangeP] at h
    rcases List.mem_cons.mp h with h | h
    · exact ⟨lo, by omega, h⟩
    · obtain ⟨k, h1, h2⟩ := rangeP_mem n (lo + 1) x (by simpa using h)
      exact ⟨k, by omega, h2⟩
theorem lq_for (ns : List Int) : ∀ (xs : List PV), (∀ x ∈ xs, ∃ k : Nat, k < 12 ∧ x = .int k) → ∀ (x1 x2 x3 x4 x5 x6 x7 x8 x9 x10 x11 x12 x13 x14 x15 x16 x17 : Sl) (s : AS),
    ∃ y1 y2 y3 y4 y5 y6 y7 y8 y9 y10 y11 y12 y13 y14 y15 y16 y17 s', forGo (fun x r1 => bnd (opt (bindT (.nm 1) x r1)) fun r2 => denSs GW [] [] lqb1 r2) xs (lw ns x1 x2 x3 x4 x5 x6 x7 x8 x9 x10 x11 x12 x13 x14 x15 x16 x17) s = .ok (.nx (lw ns y1 y2 y3 y4 y5 y6 y7 y8 y9 y10 y11 y12 y13 y14 y15 y16 y17)) s'
  | [], _, x1, x2, x3, x4, x5, x6, x7, x8, x9, x10, x11, x12, x13, x14, x15, x16, x17, s => ⟨_, _, _, _, _, _, _, _, _, _, _, _, _, _, _, _, _, s, rfl⟩
  | x :: xs, h, x1, x2, x3, x4, x5, x6, x7, x8, x9, x10, x11, x12, x13, x14, x15, x16, x17, s => by
    obtain ⟨k, hk, rfl⟩ := h x (by simp)
    obtain ⟨y2, y3, y4, y5, y6, y7, y8, y9, y10, y11, y12, y13, y14, y15, y16, y17, s1, z⟩ := lq1_body ns k hk x2 x3 x4 x5 x6 x7 x8 x9 x10 x11 x12 x13 x14 x15 x16 x17 s
    obtain ⟨z1, z2, z3, z4, z5, z6, z7, z8, z9, z10, z11, z12, z13, z14, z15, z16, z17, s2, y⟩ := lq_for ns xs (fun x hx => h x (by simp [hx])) (.sh (.int (k : Int))) y2 y3 y4 y5 y6 y7 y8 y9 y10 y11 y12 y13 y14 y15 y16 y17 s1
    refine ⟨z1, z2, z3, z4, z5, z6, z7, z8, z9, z10, z11, z12, z13, z14, z15, z16, z17, s2, ?_⟩
    have b : bnd (opt (bindT (.nm 1) (PV.int (k : Int)) (lw ns x1 x2 x3 x4 x5 x6 x7 x8 x9 x10 x11 x12 x13 x14 x15 x16 x17))) (fun r2 => denSs GW [] [] lqb1 r2) s = .ok (.nx (lw ns (.sh (.int (k : Int))) y2 y3 y4 y5 y6 y7 y8 y9 y10 y11 y12 y13 y14 y15 y16 y17)) s1 := z
    rw [forGo, bnd_ok b]
    exact y
abbrev lw0 (ns : List Int) : Fm := lw ns .no .no .no .no .no .no .no .no .no .no .no .no .no .no .no .no .no
theorem lq_it (ns : List Int) (s : AS) : ∃ xs, (∀ x ∈ xs, ∃ k : Nat, k < 12 ∧ x = .int k) ∧ denIt GW [] [] (.range1 (.max2 (.int 1) (.min2 (.int 4) (.b1 .len (.var 0))))) false (lw0 ns) s = .ok xs s := by
  have key : ∃ n : Int, n ≤ 12 ∧ 1 ≤ n ∧ den GW [] [] (.max2 (.int 1) (.min2 (.int 4) (.b1 .len (.var 0)))) false (lw0 ns) s = .ok (.int n) s := by
    refine ⟨if (if (ns.length : Int) < 4 then (ns.length : Int) else 4) > 1 then (if (ns.length : Int) < 4 then (ns.length : Int) else 4) else 1, by split <;> (try split) <;> omega, by split <;> omega, ?_⟩
    simp [den, Fm.get, bnd, ret, opt, Res.andThen, b1P]
  obtain ⟨n, h1, h2, e⟩ := key
  refine ⟨rangeP 0 n.toNat, fun x hx => ?_, ?_⟩
  · obtain ⟨k, q1, q2⟩ := rangeP_mem n.toNat 0 x (by simpa using hx)
    exact ⟨k, by omega, q2⟩
  · rw [denIt, bnd_ok e]
    simp only [rangeOf]
    rw [if_pos (by omega)]
    rfl
theorem lq3_ok (ns : List Int) (y1 y3 y4 y5 y6 y7 y8 y9 y10 y11 y12 y13 y14 y15 y16 y17 : Sl) (s : AS) : denS GW [] [] lq3 (lw ns y1 (.sh (.tup [.tup [.str "lazy"], .tup [.tup [.tup [.int 0, .str "a"], .non, .int 1], .tup [.tup [.int 0, .str "b"], .tup [.int 0, .str "c"], .int 2]]])) y3 y4 y5 y6 y7 y8 y9 y10 y11 y12 y13 y14 y15 y16 y17) s = .ok (.rt (.bl true)) s := by kernel_rfl
theorem law_true (ns : List Int) : ∃ s, d_law [.rol (ns.map .int)] [] = .ok (.bl true) s := by
  obtain ⟨xs, hx, e1⟩ := lq_it ns []
  obtain ⟨y1, y2, y3, y4, y5, y6, y7, y8, y9, y10, y11, y12, y13, y14, y15, y16, y17, s, e2⟩ := lq_for ns xs hx .no .no .no .no .no .no .no .no .no .no .no .no .no .no .no .no .no []
  refine ⟨s, ?_⟩
  unfold d_law
  exact run_ok (ss_nx (s_for e1 e2) (ss_nx (s_set rfl) (ss_rt (lq3_ok ns y1 y3 y4 y5 y6 y7 y8 y9 y10 y11 y12 y13 y14 y15 y16 y17 s))))
end RP

/-! IR, printed by gen.py. Own work. -/
namespace RP
open PySem PySem.Spec PyProof.Rows L2
def top (i : Nat) : Stmt := PySem.Challenge.pw_railpoints_k07_whole_pairs_of_trains_tha.main.body.getD i (.Pass ⟨0, 0, 0, 0⟩)
abbrev st_all_standings : Stmt := top 17
def cx_all_standings : Ctx := ⟨defScope st_all_standings, defScope st_all_standings, ["track", "found", "kind", "standing", "leg"], [], ["LEGS"], [], [], [], []⟩
theorem ck_all_standings : chkSs ir_all_standings cx_all_standings (defBody st_all_standings) = true := by decide +kernel
abbrev st_index_of : Stmt := top 19
def cx_index_of : Ctx := ⟨defScope st_index_of, defScope st_index_of, ["track", "end", "index", "joint"], [], [], ["enumerate"], [], [], []⟩
theorem ck_index_of : chkSs ir_index_of cx_index_of (defBody st_index_of) = true := by decide +kernel
abbrev st_are_apart : Stmt := top 34
def cx_are_apart : Ctx := ⟨defScope st_are_apart, defScope st_are_apart, ["track", "one", "other", "index"], [("index_of", 2, 1)], [], [], [], [], []⟩
theorem ck_are_apart : chkSs ir_are_apart cx_are_apart (defBody st_are_apart) = true := by decide +kernel
abbrev st_along : Stmt := top 28
def cx_along : Ctx := ⟨defScope st_along, defScope st_along, ["track", "left", "index", "end", "other", "length"], [("index_of", 2, 1)], [], [], [], [], []⟩
theorem ck_along : chkSs ir_along cx_along (defBody st_along) = true := by decide +kernel
abbrev st_put : Stmt := top 26
def cx_put : Ctx := ⟨defScope st_put, defScope st_put, ["standing", "point", "leg"], [], [], [], [], [], []⟩
theorem ck_put : chkSs ir_put cx_put (defBody st_put) = true := by decide +kernel
abbrev st_other_leg : Stmt := top 20
def cx_other_leg : Ctx := ⟨defScope st_other_leg, defScope st_other_leg, ["leg"], [], [], [], [], [], []⟩
theorem ck_other_leg : chkSs ir_other_leg cx_other_leg (defBody st_other_leg) = true := by decide +kernel
abbrev st_over : Stmt := top 27
def cx_over : Ctx := ⟨defScope st_over, defScope st_over, ["track", "end", "standing", "used", "point", "leg"], [("put", 3, 1), ("other_leg", 1, 1)], [], [], [], [], []⟩
theorem ck_over : chkSs ir_over cx_over (defBody st_over) = true := by decide +kernel
abbrev st_moved : Stmt := top 35
def cx_moved : Ctx := ⟨defScope st_moved, defScope st_moved, ["track", "train", "standing", "left", "index", "end", "ticks"], [("along", 2, 2), ("over", 3, 2)], [], [], [], [], []⟩
theorem ck_moved : chkSs ir_moved cx_moved (defBody st_moved) = true := by decide +kernel
abbrev st_first_tick : Stmt := top 36
def cx_first_tick : Ctx := ⟨defScope st_first_tick, defScope st_first_tick, ["track", "one", "other", "standing", "met", "tick"], [("are_apart", 3, 2), ("moved", 3, 3)], [], [], [], [], []⟩
theorem ck_first_tick : chkSs ir_first_tick cx_first_tick (defBody st_first_tick) = true := by decide +kernel
abbrev st_all_safe : Stmt := top 39
def cx_all_safe : Ctx := ⟨defScope st_all_safe, defScope st_all_safe, ["track", "one", "other", "standing"], [("all_standings", 1, 1), ("first_tick", 4, 4)], [], [], [], [], []⟩
theorem ck_all_safe : chkSs ir_all_safe cx_all_safe (defBody st_all_safe) = true := by decide +kernel
abbrev st_all_ends : Stmt := top 16
def cx_all_ends : Ctx := ⟨defScope st_all_ends, defScope st_all_ends, ["many", "point", "leg"], [], [], ["range"], [], [], []⟩
theorem ck_all_ends : chkSs ir_all_ends cx_all_ends (defBody st_all_ends) = true := by decide +kernel
abbrev st_ends_in : Stmt := top 14
def cx_ends_in : Ctx := ⟨defScope st_ends_in, defScope st_ends_in, ["joints", "joint", "end"], [], [], [], [], [], []⟩
theorem ck_ends_in : chkSs ir_ends_in cx_ends_in (defBody st_ends_in) = true := by decide +kernel
abbrev st_is_int : Stmt := top 10
def cx_is_int : Ctx := ⟨defScope st_is_int, defScope st_is_int, ["value", "low", "high"], [], [], ["isinstance", "int", "bool"], [], [], []⟩
theorem ck_is_int : chkSs ir_is_int cx_is_int (defBody st_is_int) = true := by decide +kernel
abbrev st_is_word : Stmt := top 11
def cx_is_word : Ctx := ⟨defScope st_is_word, defScope st_is_word, ["value", "words"], [], [], ["isinstance", "str"], [], [], []⟩
theorem ck_is_word : chkSs ir_is_word cx_is_word (defBody st_is_word) = true := by decide +kernel
abbrev st_is_end_of : Stmt := top 12
def cx_is_end_of : Ctx := ⟨defScope st_is_end_of, defScope st_is_end_of, ["many", "value"], [("is_int", 3, 1), ("is_word", 2, 1)], [], ["isinstance", "tuple", "len"], [], [], []⟩
theorem ck_is_end_of : chkSs ir_is_end_of cx_is_end_of (defBody st_is_end_of) = true := by decide +kernel
abbrev st_is_stretch : Stmt := top 13
def cx_is_stretch : Ctx := ⟨defScope st_is_stretch, defScope st_is_stretch, ["many", "value"], [("is_end_of", 2, 2), ("is_int", 3, 1)], [], ["isinstance", "tuple", "len"], [], [], []⟩
theorem ck_is_stretch : chkSs ir_is_stretch cx_is_stretch (defBody st_is_stretch) = true := by decide +kernel
abbrev st_is_track : Stmt := top 15
def cx_is_track : Ctx := ⟨defScope st_is_track, defScope st_is_track, ["value", "kinds", "joints", "joint", "part", "kind", "later"], [("ends_in", 1, 1), ("all_ends", 1, 1), ("is_stretch", 2, 3), ("is_word", 2, 1)], ["MOST_POINTS", "KINDS"], ["sorted", "len", "all", "zip", "isinstance", "tuple"], [], [], []⟩
theorem ck_is_track : chkSs ir_is_track cx_is_track (defBody st_is_track) = true := by decide +kernel
abbrev st_need_track : Stmt := top 21
def cx_need_track : Ctx := ⟨defScope st_need_track, defScope st_need_track, ["track"], [("is_track", 1, 4)], [], [], [], [], []⟩
theorem ck_need_track : chkSs ir_need_track cx_need_track (defBody st_need_track) = true := by decide +kernel
abbrev st_safe_pairs : Stmt := top 41
def cx_safe_pairs : Ctx := ⟨defScope st_safe_pairs, defScope st_safe_pairs, ["track", "found", "ends", "many", "at", "end", "other"], [("all_safe", 3, 5), ("all_standings", 1, 1), ("all_ends", 1, 1), ("need_track", 1, 5)], [], ["enumerate", "len"], [], [], []⟩
theorem ck_safe_pairs : chkSs ir_safe_pairs cx_safe_pairs (defBody st_safe_pairs) = true := by decide +kernel
abbrev st_is_standing_of : Stmt := top 18
def cx_is_standing_of : Ctx := ⟨defScope st_is_standing_of, defScope st_is_standing_of, ["track", "value", "leg"], [("is_word", 2, 1)], ["LEGS"], ["isinstance", "tuple", "len", "all"], [], [], []⟩
theorem ck_is_standing_of : chkSs ir_is_standing_of cx_is_standing_of (defBody st_is_standing_of) = true := by decide +kernel
abbrev st_need_standing : Stmt := top 23
def cx_need_standing : Ctx := ⟨defScope st_need_standing, defScope st_need_standing, ["track", "standing"], [("is_standing_of", 2, 2)], [], [], [], [], []⟩
theorem ck_need_standing : chkSs ir_need_standing cx_need_standing (defBody st_need_standing) = true := by decide +kernel
abbrev st_ticks_of : Stmt := top 32
def cx_ticks_of : Ctx := ⟨defScope st_ticks_of, defScope st_ticks_of, ["track", "end", "end_so", "other", "length"], [("index_of", 2, 1)], [], [], [], [], []⟩
theorem ck_ticks_of : chkSs ir_ticks_of cx_ticks_of (defBody st_ticks_of) = true := by decide +kernel
abbrev st_is_train : Stmt := top 33
def cx_is_train : Ctx := ⟨defScope st_is_train, defScope st_is_train, ["track", "value"], [("is_int", 3, 1), ("ticks_of", 2, 2), ("is_end_of", 2, 2)], [], ["isinstance", "tuple", "len"], [], [], []⟩
theorem ck_is_train : chkSs ir_is_train cx_is_train (defBody st_is_train) = true := by decide +kernel
abbrev st_need_trains : Stmt := top 37
def cx_need_trains : Ctx := ⟨defScope st_need_trains, defScope st_need_trains, ["track", "one_train", "other_train", "train"], [("is_train", 2, 3), ("need_track", 1, 5)], [], [], [], [], []⟩
theorem ck_need_trains : chkSs ir_need_trains cx_need_trains (defBody st_need_trains) = true := by decide +kernel
abbrev st_meeting : Stmt := top 38
def cx_meeting : Ctx := ⟨defScope st_meeting, defScope st_meeting, ["track", "one_train", "other_train", "standing"], [("first_tick", 4, 4), ("need_standing", 2, 3), ("need_trains", 3, 6)], [], [], [], [], []⟩
theorem ck_meeting : chkSs ir_meeting cx_meeting (defBody st_meeting) = true := by decide +kernel
abbrev st_step : Stmt := top 29
def cx_step : Ctx := ⟨defScope st_step, defScope st_step, ["track", "place", "left", "standing", "index", "end", "ticks"], [("along", 2, 2), ("over", 3, 2)], [], [], [], [], []⟩
theorem ck_step : chkSs ir_step cx_step (defBody st_step) = true := by decide +kernel
abbrev st_need_end : Stmt := top 22
def cx_need_end : Ctx := ⟨defScope st_need_end, defScope st_need_end, ["track", "end"], [("is_end_of", 2, 2)], [], ["len"], [], [], []⟩
theorem ck_need_end : chkSs ir_need_end cx_need_end (defBody st_need_end) = true := by decide +kernel
abbrev st_need_place : Stmt := top 24
def cx_need_place : Ctx := ⟨defScope st_need_place, defScope st_need_place, ["track", "end", "standing"], [("need_standing", 2, 3), ("need_end", 2, 3), ("need_track", 1, 5)], [], [], [], [], []⟩
theorem ck_need_place : chkSs ir_need_place cx_need_place (defBody st_need_place) = true := by decide +kernel
abbrev st_passed : Stmt := top 30
def cx_passed : Ctx := ⟨defScope st_passed, defScope st_passed, ["track", "end", "standing", "there", "index", "ticks"], [("step", 2, 3), ("need_place", 3, 6)], [], [], [], [], []⟩
theorem ck_passed : chkSs ir_passed cx_passed (defBody st_passed) = true := by decide +kernel
abbrev st__law_standings : Stmt := top 49
def cx__law_standings : Ctx := ⟨defScope st__law_standings, defScope st__law_standings, ["_law_track_here", "_law_found", "_law_kind", "_law_longer", "_law_row"], [], [], [], [], [], []⟩
theorem ck__law_standings : chkSs ir__law_standings cx__law_standings (defBody st__law_standings) = true := by decide +kernel
abbrev st_safe_standings : Stmt := top 40
def cx_safe_standings : Ctx := ⟨defScope st_safe_standings, defScope st_safe_standings, ["track", "one_train", "other_train"], [("all_safe", 3, 5), ("need_trains", 3, 6)], [], [], [], [], []⟩
theorem ck_safe_standings : chkSs ir_safe_standings cx_safe_standings (defBody st_safe_standings) = true := by decide +kernel
abbrev st__law_tap : Stmt := top 44
def cx__law_tap : Ctx := ⟨defScope st__law_tap, defScope st__law_tap, ["_law_churn_here", "_law_many", "_law_found", "_law_wide"], [], [], ["int"], [], [], []⟩
theorem ck__law_tap : chkSs ir__law_tap cx__law_tap (defBody st__law_tap) = true := by decide +kernel
abbrev st__law_any_of : Stmt := top 45
def cx__law_any_of : Ctx := ⟨defScope st__law_any_of, defScope st__law_any_of, ["_law_churn_here", "_law_things"], [("_law_tap", 2, 1)], [], ["len"], [], [], []⟩
theorem ck__law_any_of : chkSs ir__law_any_of cx__law_any_of (defBody st__law_any_of) = true := by decide +kernel
abbrev st__law_ends : Stmt := top 46
def cx__law_ends : Ctx := ⟨defScope st__law_ends, defScope st__law_ends, ["_law_many", "_law_found", "_law_point"], [], [], ["range"], [], [], []⟩
theorem ck__law_ends : chkSs ir__law_ends cx__law_ends (defBody st__law_ends) = true := by decide +kernel
abbrev st__law_joints : Stmt := top 47
def cx__law_joints : Ctx := ⟨defScope st__law_joints, defScope st__law_joints, ["_law_churn_here", "_law_many", "_law_left_so", "_law_found", "_law_end", "_law_length", "_law_way", "_law_at"], [("_law_tap", 2, 1), ("_law_ends", 1, 1)], [], ["tuple", "len"], [], [], []⟩
theorem ck__law_joints : chkSs ir__law_joints cx__law_joints (defBody st__law_joints) = true := by decide +kernel
abbrev st__law_track : Stmt := top 48
def cx__law_track : Ctx := ⟨defScope st__law_track, defScope st__law_track, ["_law_churn_here", "_law_most", "_law_many", "_law_kinds", "_law_point"], [("_law_joints", 2, 2), ("_law_any_of", 2, 2), ("_law_tap", 2, 1)], [], ["tuple", "range"], [], [], []⟩
theorem ck__law_track : chkSs ir__law_track cx__law_track (defBody st__law_track) = true := by decide +kernel
abbrev st__law_churn : Stmt := top 43
def cx__law_churn : Ctx := ⟨defScope st__law_churn, defScope st__law_churn, ["_law_script", "_law_k", "_law_cell"], [], [], ["int", "len", "abs"], [], [], []⟩
theorem ck__law_churn : chkSs ir__law_churn cx__law_churn (defBody st__law_churn) = true := by decide +kernel
abbrev st_law : Stmt := top 50
def cx_law : Ctx := ⟨defScope st_law, defScope st_law, ["_law_script", "_law_k", "_law_track_here", "_law_churn_here", "_law_turn", "_law_known", "_law_ends_here", "_law_end", "_law_other", "_law_some", "_law_standing", "_law_pair", "_law_there", "_law_later", "_law_ticks", "_law_late", "_law_last", "_law_wait"], [("safe_pairs", 1, 6), ("meeting", 4, 7), ("passed", 3, 7), ("_law_standings", 1, 1), ("safe_standings", 3, 7), ("_law_any_of", 2, 2), ("_law_ends", 1, 1), ("_law_track", 2, 3), ("_law_churn", 2, 1)], [], ["range", "max", "min", "len", "sorted", "set"], [], [], []⟩
theorem ck_law : chkSs ir_law cx_law (defBody st_law) = true := by decide +kernel
end RP

/-! the join, printed by gen.py. Own work. -/
namespace RP
open PySem PySem.Spec PyProof.Rows L2
def fa_0 : List He.Fa := [.free "enumerate", .free "range", .free "isinstance", .free "int", .free "bool", .free "str", .free "tuple", .free "len", .free "sorted", .free "all", .free "zip", .free "abs", .free "max", .free "min", .free "set", .glo "LEGS", .int "MOST_POINTS" 3, .glo "KINDS", .glo "all_standings", .glo "index_of", .glo "are_apart", .glo "along", .glo "put", .glo "other_leg", .glo "over", .glo "moved", .glo "first_tick", .glo "all_safe", .glo "all_ends", .glo "ends_in"]
def fa_1 : List He.Fa := [.glo "is_int", .glo "is_word", .glo "is_end_of", .glo "is_stretch", .glo "is_track", .glo "need_track", .glo "safe_pairs", .glo "is_standing_of", .glo "need_standing", .glo "ticks_of", .glo "is_train", .glo "need_trains", .glo "meeting", .glo "step", .glo "need_end", .glo "need_place", .glo "passed", .glo "_law_standings", .glo "safe_standings", .glo "_law_tap", .glo "_law_any_of", .glo "_law_ends", .glo "_law_joints", .glo "_law_track", .glo "_law_churn", .glo "law"]
def fa : List He.Fa := fa_0 ++ fa_1
def fn_0 : List He.DefD := [dd "all_standings" st_all_standings, dd "index_of" st_index_of, dd "are_apart" st_are_apart, dd "along" st_along, dd "put" st_put, dd "other_leg" st_other_leg, dd "over" st_over, dd "moved" st_moved, dd "first_tick" st_first_tick, dd "all_safe" st_all_safe, dd "all_ends" st_all_ends, dd "ends_in" st_ends_in, dd "is_int" st_is_int, dd "is_word" st_is_word, dd "is_end_of" st_is_end_of, dd "is_stretch" st_is_stretch, dd "is_track" st_is_track, dd "need_track" st_need_track, dd "safe_pairs" st_safe_pairs, dd "is_standing_of" st_is_standing_of, dd "need_standing" st_need_standing, dd "ticks_of" st_ticks_of, dd "is_train" st_is_train, dd "need_trains" st_need_trains, dd "meeting" st_meeting, dd "step" st_step, dd "need_end" st_need_end, dd "need_place" st_need_place, dd "passed" st_passed, dd "_law_standings" st__law_standings]
def fn_1 : List He.DefD := [dd "safe_standings" st_safe_standings, dd "_law_tap" st__law_tap, dd "_law_any_of" st__law_any_of, dd "_law_ends" st__law_ends, dd "_law_joints" st__law_joints, dd "_law_track" st__law_track, dd "_law_churn" st__law_churn, dd "law" st_law]
def fn : List He.DefD := fn_0 ++ fn_1
def jtu : Tu := [("LEGS", (["b", "c"] : List Str).map He.Dv.str), ("KINDS", (["lazy", "sprung", "turning"] : List Str).map He.Dv.str)]
section
variable {P : Program} {w : World} {K : PySem.W.Frag} {mg : Str → Option Value} {base : Heap}
theorem sc_all_standings : FnScope ["track", "found", "kind", "standing", "leg"] ["track"] (defScope st_all_standings) := ⟨by kernel_rfl, by kernel_rfl, by kernel_rfl, by decide +kernel, by kernel_rfl, by decide +kernel, by decide +kernel⟩
theorem bp_all_standings : BindsP "all_standings" st_all_standings ["track"] := fun kV doc pm an cdv ct us hl => match us, hl with | [_], _ => by kernel_rfl
theorem mo_all_standings (J : Jn fa fn jtu K mg base) : ModOk P w K mg base [] 0 cx_all_standings [] [(.tup [(.str "b"), (.str "c")])] := (mod_of J CalL.nil (GcL.cons (gc_strs J 15 0 (zs := ["b", "c"]) (by kernel_rfl) (by kernel_rfl)) GcL.nil) (by decide +kernel) (by decide +kernel))
theorem cal_all_standings (J : Jn fa fn jtu K mg base) : Cal P w K mg base [] "all_standings" 1 1 d_all_standings := cal_of (k := 0) J 0 18 (by kernel_rfl) (by kernel_rfl) sc_all_standings bp_all_standings (mo_all_standings J) rfl rfl rfl ck_all_standings rfl rfl
theorem sc_index_of : FnScope ["track", "end", "index", "joint"] ["track", "end"] (defScope st_index_of) := ⟨by kernel_rfl, by kernel_rfl, by kernel_rfl, by decide +kernel, by kernel_rfl, by decide +kernel, by decide +kernel⟩
theorem bp_index_of : BindsP "index_of" st_index_of ["track", "end"] := fun kV doc pm an cdv ct us hl => match us, hl with | [_, _], _ => by kernel_rfl
theorem mo_index_of (J : Jn fa fn jtu K mg base) : ModOk P w K mg base [] 0 cx_index_of [] [] := (mod_of J CalL.nil GcL.nil (by decide +kernel) (by decide +kernel))
theorem cal_index_of (J : Jn fa fn jtu K mg base) : Cal P w K mg base [] "index_of" 2 1 d_index_of := cal_of (k := 0) J 1 19 (by kernel_rfl) (by kernel_rfl) sc_index_of bp_index_of (mo_index_of J) rfl rfl rfl ck_index_of rfl rfl
theorem sc_are_apart : FnScope ["track", "one", "other", "index"] ["track", "one", "other"] (defScope st_are_apart) := ⟨by kernel_rfl, by kernel_rfl, by kernel_rfl, by decide +kernel, by kernel_rfl, by decide +kernel, by decide +kernel⟩
theorem bp_are_apart : BindsP "are_apart" st_are_apart ["track", "one", "other"] := fun kV doc pm an cdv ct us hl => match us, hl with | [_, _, _], _ => by kernel_rfl
theorem mo_are_apart (J : Jn fa fn jtu K mg base) : ModOk P w K mg base [] 1 cx_are_apart [d_index_of] [] := (mod_of J (CalL.cons ((cal_index_of J).m (by decide)) CalL.nil) GcL.nil (by decide +kernel) (by decide +kernel))
theorem cal_are_apart (J : Jn fa fn jtu K mg base) : Cal P w K mg base [] "are_apart" 3 2 d_are_apart := cal_of (k := 1) J 2 20 (by kernel_rfl) (by kernel_rfl) sc_are_apart bp_are_apart (mo_are_apart J) rfl rfl rfl ck_are_apart rfl rfl
theorem sc_along : FnScope ["track", "left", "index", "end", "other", "length"] ["track", "left"] (defScope st_along) := ⟨by kernel_rfl, by kernel_rfl, by kernel_rfl, by decide +kernel, by kernel_rfl, by decide +kernel, by decide +kernel⟩
theorem bp_along : BindsP "along" st_along ["track", "left"] := fun kV doc pm an cdv ct us hl => match us, hl with | [_, _], _ => by kernel_rfl
theorem mo_along (J : Jn fa fn jtu K mg base) : ModOk P w K mg base [] 1 cx_along [d_index_of] [] := (mod_of J (CalL.cons ((cal_index_of J).m (by decide)) CalL.nil) GcL.nil (by decide +kernel) (by decide +kernel))
theorem cal_along (J : Jn fa fn jtu K mg base) : Cal P w K mg base [] "along" 2 2 d_along := cal_of (k := 1) J 3 21 (by kernel_rfl) (by kernel_rfl) sc_along bp_along (mo_along J) rfl rfl rfl ck_along rfl rfl
theorem sc_put : FnScope ["standing", "point", "leg"] ["standing", "point", "leg"] (defScope st_put) := ⟨by kernel_rfl, by kernel_rfl, by kernel_rfl, by decide +kernel, by kernel_rfl, by decide +kernel, by decide +kernel⟩
theorem bp_put : BindsP "put" st_put ["standing", "point", "leg"] := fun kV doc pm an cdv ct us hl => match us, hl with | [_, _, _], _ => by kernel_rfl
theorem mo_put (J : Jn fa fn jtu K mg base) : ModOk P w K mg base [] 0 cx_put [] [] := (mod_of J CalL.nil GcL.nil (by decide +kernel) (by decide +kernel))
theorem cal_put (J : Jn fa fn jtu K mg base) : Cal P w K mg base [] "put" 3 1 d_put := cal_of (k := 0) J 4 22 (by kernel_rfl) (by kernel_rfl) sc_put bp_put (mo_put J) rfl rfl rfl ck_put rfl rfl
theorem sc_other_leg : FnScope ["leg"] ["leg"] (defScope st_other_leg) := ⟨by kernel_rfl, by kernel_rfl, by kernel_rfl, by decide +kernel, by kernel_rfl, by decide +kernel, by decide +kernel⟩
theorem bp_other_leg : BindsP "other_leg" st_other_leg ["leg"] := fun kV doc pm an cdv ct us hl => match us, hl with | [_], _ => by kernel_rfl
theorem mo_other_leg (J : Jn fa fn jtu K mg base) : ModOk P w K mg base [] 0 cx_other_leg [] [] := (mod_of J CalL.nil GcL.nil (by decide +kernel) (by decide +kernel))
theorem cal_other_leg (J : Jn fa fn jtu K mg base) : Cal P w K mg base [] "other_leg" 1 1 d_other_leg := cal_of (k := 0) J 5 23 (by kernel_rfl) (by kernel_rfl) sc_other_leg bp_other_leg (mo_other_leg J) rfl rfl rfl ck_other_leg rfl rfl
theorem sc_over : FnScope ["track", "end", "standing", "used", "point", "leg"] ["track", "end", "standing"] (defScope st_over) := ⟨by kernel_rfl, by kernel_rfl, by kernel_rfl, by decide +kernel, by kernel_rfl, by decide +kernel, by decide +kernel⟩
theorem bp_over : BindsP "over" st_over ["track", "end", "standing"] := fun kV doc pm an cdv ct us hl => match us, hl with | [_, _, _], _ => by kernel_rfl
theorem mo_over (J : Jn fa fn jtu K mg base) : ModOk P w K mg base [] 1 cx_over [d_put, d_other_leg] [] := (mod_of J (CalL.cons ((cal_put J).m (by decide)) (CalL.cons ((cal_other_leg J).m (by decide)) CalL.nil)) GcL.nil (by decide +kernel) (by decide +kernel))
theorem cal_over (J : Jn fa fn jtu K mg base) : Cal P w K mg base [] "over" 3 2 d_over := cal_of (k := 1) J 6 24 (by kernel_rfl) (by kernel_rfl) sc_over bp_over (mo_over J) rfl rfl rfl ck_over rfl rfl
theorem sc_moved : FnScope ["track", "train", "standing", "left", "index", "end", "ticks"] ["track", "train", "standing"] (defScope st_moved) := ⟨by kernel_rfl, by kernel_rfl, by kernel_rfl, by decide +kernel, by kernel_rfl, by decide +kernel, by decide +kernel⟩
theorem bp_moved : BindsP "moved" st_moved ["track", "train", "standing"] := fun kV doc pm an cdv ct us hl => match us, hl with | [_, _, _], _ => by kernel_rfl
theorem mo_moved (J : Jn fa fn jtu K mg base) : ModOk P w K mg base [] 2 cx_moved [d_along, d_over] [] := (mod_of J (CalL.cons ((cal_along J).m (by decide)) (CalL.cons ((cal_over J).m (by decide)) CalL.nil)) GcL.nil (by decide +kernel) (by decide +kernel))
theorem cal_moved (J : Jn fa fn jtu K mg base) : Cal P w K mg base [] "moved" 3 3 d_moved := cal_of (k := 2) J 7 25 (by kernel_rfl) (by kernel_rfl) sc_moved bp_moved (mo_moved J) rfl rfl rfl ck_moved rfl rfl
theorem sc_first_tick : FnScope ["track", "one", "other", "standing", "met", "tick"] ["track", "one", "other", "standing"] (defScope st_first_tick) := ⟨by kernel_rfl, by kernel_rfl, by kernel_rfl, by decide +kernel, by kernel_rfl, by decide +kernel, by decide +kernel⟩
theorem bp_first_tick : BindsP "first_tick" st_first_tick ["track", "one", "other", "standing"] := fun kV doc pm an cdv ct us hl => match us, hl with | [_, _, _, _], _ => by kernel_rfl
theorem mo_first_tick (J : Jn fa fn jtu K mg base) : ModOk P w K mg base [] 3 cx_first_tick [d_are_apart, d_moved] [] := (mod_of J (CalL.cons ((cal_are_apart J).m (by decide)) (CalL.cons ((cal_moved J).m (by decide)) CalL.nil)) GcL.nil (by decide +kernel) (by decide +kernel))
theorem cal_first_tick (J : Jn fa fn jtu K mg base) : Cal P w K mg base [] "first_tick" 4 4 d_first_tick := cal_of (k := 3) J 8 26 (by kernel_rfl) (by kernel_rfl) sc_first_tick bp_first_tick (mo_first_tick J) rfl rfl rfl ck_first_tick rfl rfl
theorem sc_all_safe : FnScope ["track", "one", "other", "standing"] ["track", "one", "other"] (defScope st_all_safe) := ⟨by kernel_rfl, by kernel_rfl, by kernel_rfl, by decide +kernel, by kernel_rfl, by decide +kernel, by decide +kernel⟩
theorem bp_all_safe : BindsP "all_safe" st_all_safe ["track", "one", "other"] := fun kV doc pm an cdv ct us hl => match us, hl with | [_, _, _], _ => by kernel_rfl
theorem mo_all_safe (J : Jn fa fn jtu K mg base) : ModOk P w K mg base [] 4 cx_all_safe [d_all_standings, d_first_tick] [] := (mod_of J (CalL.cons ((cal_all_standings J).m (by decide)) (CalL.cons ((cal_first_tick J).m (by decide)) CalL.nil)) GcL.nil (by decide +kernel) (by decide +kernel))
theorem cal_all_safe (J : Jn fa fn jtu K mg base) : Cal P w K mg base [] "all_safe" 3 5 d_all_safe := cal_of (k := 4) J 9 27 (by kernel_rfl) (by kernel_rfl) sc_all_safe bp_all_safe (mo_all_safe J) rfl rfl rfl ck_all_safe rfl rfl
theorem sc_all_ends : FnScope ["many", "point", "leg"] ["many"] (defScope st_all_ends) := ⟨by kernel_rfl, by kernel_rfl, by kernel_rfl, by decide +kernel, by kernel_rfl, by decide +kernel, by decide +kernel⟩
theorem bp_all_ends : BindsP "all_ends" st_all_ends ["many"] := fun kV doc pm an cdv ct us hl => match us, hl with | [_], _ => by kernel_rfl
theorem mo_all_ends (J : Jn fa fn jtu K mg base) : ModOk P w K mg base [] 0 cx_all_ends [] [] := (mod_of J CalL.nil GcL.nil (by decide +kernel) (by decide +kernel))
theorem cal_all_ends (J : Jn fa fn jtu K mg base) : Cal P w K mg base [] "all_ends" 1 1 d_all_ends := cal_of (k := 0) J 10 28 (by kernel_rfl) (by kernel_rfl) sc_all_ends bp_all_ends (mo_all_ends J) rfl rfl rfl ck_all_ends rfl rfl
theorem sc_ends_in : FnScope ["joints", "joint", "end"] ["joints"] (defScope st_ends_in) := ⟨by kernel_rfl, by kernel_rfl, by kernel_rfl, by decide +kernel, by kernel_rfl, by decide +kernel, by decide +kernel⟩
theorem bp_ends_in : BindsP "ends_in" st_ends_in ["joints"] := fun kV doc pm an cdv ct us hl => match us, hl with | [_], _ => by kernel_rfl
theorem mo_ends_in (J : Jn fa fn jtu K mg base) : ModOk P w K mg base [] 0 cx_ends_in [] [] := (mod_of J CalL.nil GcL.nil (by decide +kernel) (by decide +kernel))
theorem cal_ends_in (J : Jn fa fn jtu K mg base) : Cal P w K mg base [] "ends_in" 1 1 d_ends_in := cal_of (k := 0) J 11 29 (by kernel_rfl) (by kernel_rfl) sc_ends_in bp_ends_in (mo_ends_in J) rfl rfl rfl ck_ends_in rfl rfl
theorem sc_is_int : FnScope ["value", "low", "high"] ["value", "low", "high"] (defScope st_is_int) := ⟨by kernel_rfl, by kernel_rfl, by kernel_rfl, by decide +kernel, by kernel_rfl, by decide +kernel, by decide +kernel⟩
theorem bp_is_int : BindsP "is_int" st_is_int ["value", "low", "high"] := fun kV doc pm an cdv ct us hl => match us, hl with | [_, _, _], _ => by kernel_rfl
theorem mo_is_int (J : Jn fa fn jtu K mg base) : ModOk P w K mg base [] 0 cx_is_int [] [] := (mod_of J CalL.nil GcL.nil (by decide +kernel) (by decide +kernel))
theorem cal_is_int (J : Jn fa fn jtu K mg base) : Cal P w K mg base [] "is_int" 3 1 d_is_int := cal_of (k := 0) J 12 30 (by kernel_rfl) (by kernel_rfl) sc_is_int bp_is_int (mo_is_int J) rfl rfl rfl ck_is_int rfl rfl
theorem sc_is_word : FnScope ["value", "words"] ["value", "words"] (defScope st_is_word) := ⟨by kernel_rfl, by kernel_rfl, by kernel_rfl, by decide +kernel, by kernel_rfl, by decide +kernel, by decide +kernel⟩
theorem bp_is_word : BindsP "is_word" st_is_word ["value", "words"] := fun kV doc pm an cdv ct us hl => match us, hl with | [_, _], _ => by kernel_rfl
theorem mo_is_word (J : Jn fa fn jtu K mg base) : ModOk P w K mg base [] 0 cx_is_word [] [] := (mod_of J CalL.nil GcL.nil (by decide +kernel) (by decide +kernel))
theorem cal_is_word (J : Jn fa fn jtu K mg base) : Cal P w K mg base [] "is_word" 2 1 d_is_word := cal_of (k := 0) J 13 31 (by kernel_rfl) (by kernel_rfl) sc_is_word bp_is_word (mo_is_word J) rfl rfl rfl ck_is_word rfl rfl
theorem sc_is_end_of : FnScope ["many", "value"] ["many", "value"] (defScope st_is_end_of) := ⟨by kernel_rfl, by kernel_rfl, by kernel_rfl, by decide +kernel, by kernel_rfl, by decide +kernel, by decide +kernel⟩
theorem bp_is_end_of : BindsP "is_end_of" st_is_end_of ["many", "value"] := fun kV doc pm an cdv ct us hl => match us, hl with | [_, _], _ => by kernel_rfl
theorem mo_is_end_of (J : Jn fa fn jtu K mg base) : ModOk P w K mg base [] 1 cx_is_end_of [d_is_int, d_is_word] [] := (mod_of J (CalL.cons ((cal_is_int J).m (by decide)) (CalL.cons ((cal_is_word J).m (by decide)) CalL.nil)) GcL.nil (by decide +kernel) (by decide +kernel))
theorem cal_is_end_of (J : Jn fa fn jtu K mg base) : Cal P w K mg base [] "is_end_of" 2 2 d_is_end_of := cal_of (k := 1) J 14 32 (by kernel_rfl) (by kernel_rfl) sc_is_end_of bp_is_end_of (mo_is_end_of J) rfl rfl rfl ck_is_end_of rfl rfl
theorem sc_is_stretch : FnScope ["many", "value"] ["many", "value"] (defScope st_is_stretch) := ⟨by kernel_rfl, by kernel_rfl, by kernel_rfl, by decide +kernel, by kernel_rfl, by decide +kernel, by decide +kernel⟩
theorem bp_is_stretch : BindsP "is_stretch" st_is_stretch ["many", "value"] := fun kV doc pm an cdv ct us hl => match us, hl with | [_, _], _ => by kernel_rfl
theorem mo_is_stretch (J : Jn fa fn jtu K mg base) : ModOk P w K mg base [] 2 cx_is_stretch [d_is_end_of, d_is_int] [] := (mod_of J (CalL.cons ((cal_is_end_of J).m (by decide)) (CalL.cons ((cal_is_int J).m (by decide)) CalL.nil)) GcL.nil (by decide +kernel) (by decide +kernel))
theorem cal_is_stretch (J : Jn fa fn jtu K mg base) : Cal P w K mg base [] "is_stretch" 2 3 d_is_stretch := cal_of (k := 2) J 15 33 (by kernel_rfl) (by kernel_rfl) sc_is_stretch bp_is_stretch (mo_is_stretch J) rfl rfl rfl ck_is_stretch rfl rfl
theorem sc_is_track : FnScope ["value", "kinds", "joints", "joint", "part", "kind", "later"] ["value"] (defScope st_is_track) := ⟨by kernel_rfl, by kernel_rfl, by kernel_rfl, by decide +kernel, by kernel_rfl, by decide +kernel, by decide +kernel⟩
theorem bp_is_track : BindsP "is_track" st_is_track ["value"] := fun kV doc pm an cdv ct us hl => match us, hl with | [_], _ => by kernel_rfl
theorem mo_is_track (J : Jn fa fn jtu K mg base) : ModOk P w K mg base [] 3 cx_is_track [d_ends_in, d_all_ends, d_is_stretch, d_is_word] [(.int 3), (.tup [(.str "lazy"), (.str "sprung"), (.str "turning")])] := (mod_of J (CalL.cons ((cal_ends_in J).m (by decide)) (CalL.cons ((cal_all_ends J).m (by decide)) (CalL.cons ((cal_is_stretch J).m (by decide)) (CalL.cons ((cal_is_word J).m (by decide)) CalL.nil)))) (GcL.cons (gc_int J 16 (by kernel_rfl)) (GcL.cons (gc_strs J 17 1 (zs := ["lazy", "sprung", "turning"]) (by kernel_rfl) (by kernel_rfl)) GcL.nil)) (by decide +kernel) (by decide +kernel))
theorem cal_is_track (J : Jn fa fn jtu K mg base) : Cal P w K mg base [] "is_track" 1 4 d_is_track := cal_of (k := 3) J 16 34 (by kernel_rfl) (by kernel_rfl) sc_is_track bp_is_track (mo_is_track J) rfl rfl rfl ck_is_track rfl rfl
theorem sc_need_track : FnScope ["track"] ["track"] (defScope st_need_track) := ⟨by kernel_rfl, by kernel_rfl, by kernel_rfl, by decide +kernel, by kernel_rfl, by decide +kernel, by decide +kernel⟩
theorem bp_need_track : BindsP "need_track" st_need_track ["track"] := fun kV doc pm an cdv ct us hl => match us, hl with | [_], _ => by kernel_rfl
theorem mo_need_track (J : Jn fa fn jtu K mg base) : ModOk P w K mg base [] 4 cx_need_track [d_is_track] [] := (mod_of J (CalL.cons ((cal_is_track J).m (by decide)) CalL.nil) GcL.nil (by decide +kernel) (by decide +kernel))
theorem cal_need_track (J : Jn fa fn jtu K mg base) : Cal P w K mg base [] "need_track" 1 5 d_need_track := cal_of (k := 4) J 17 35 (by kernel_rfl) (by kernel_rfl) sc_need_track bp_need_track (mo_need_track J) rfl rfl rfl ck_need_track rfl rfl
theorem sc_safe_pairs : FnScope ["track", "found", "ends", "many", "at", "end", "other"] ["track"] (defScope st_safe_pairs) := ⟨by kernel_rfl, by kernel_rfl, by kernel_rfl, by decide +kernel, by kernel_rfl, by decide +kernel, by decide +kernel⟩
theorem bp_safe_pairs : BindsP "safe_pairs" st_safe_pairs ["track"] := fun kV doc pm an cdv ct us hl => match us, hl with | [_], _ => by kernel_rfl
theorem mo_safe_pairs (J : Jn fa fn jtu K mg base) : ModOk P w K mg base [] 5 cx_safe_pairs [d_all_safe, d_all_standings, d_all_ends, d_need_track] [] := (mod_of J (CalL.cons ((cal_all_safe J).m (by decide)) (CalL.cons ((cal_all_standings J).m (by decide)) (CalL.cons ((cal_all_ends J).m (by decide)) (CalL.cons ((cal_need_track J).m (by decide)) CalL.nil)))) GcL.nil (by decide +kernel) (by decide +kernel))
theorem cal_safe_pairs (J : Jn fa fn jtu K mg base) : Cal P w K mg base [] "safe_pairs" 1 6 d_safe_pairs := cal_of (k := 5) J 18 36 (by kernel_rfl) (by kernel_rfl) sc_safe_pairs bp_safe_pairs (mo_safe_pairs J) rfl rfl rfl ck_safe_pairs rfl rfl
theorem sc_is_standing_of : FnScope ["track", "value", "leg"] ["track", "value"] (defScope st_is_standing_of) := ⟨by kernel_rfl, by kernel_rfl, by kernel_rfl, by decide +kernel, by kernel_rfl, by decide +kernel, by decide +kernel⟩
theorem bp_is_standing_of : BindsP "is_standing_of" st_is_standing_of ["track", "value"] := fun kV doc pm an cdv ct us hl => match us, hl with | [_, _], _ => by kernel_rfl
theorem mo_is_standing_of (J : Jn fa fn jtu K mg base) : ModOk P w K mg base [] 1 cx_is_standing_of [d_is_word] [(.tup [(.str "b"), (.str "c")])] := (mod_of J (CalL.cons ((cal_is_word J).m (by decide)) CalL.nil) (GcL.cons (gc_strs J 15 0 (zs := ["b", "c"]) (by kernel_rfl) (by kernel_rfl)) GcL.nil) (by decide +kernel) (by decide +kernel))
theorem cal_is_standing_of (J : Jn fa fn jtu K mg base) : Cal P w K mg base [] "is_standing_of" 2 2 d_is_standing_of := cal_of (k := 1) J 19 37 (by kernel_rfl) (by kernel_rfl) sc_is_standing_of bp_is_standing_of (mo_is_standing_of J) rfl rfl rfl ck_is_standing_of rfl rfl
theorem sc_need_standing : FnScope ["track", "standing"] ["track", "standing"] (defScope st_need_standing) := ⟨by kernel_rfl, by kernel_rfl, by kernel_rfl, by decide +kernel, by kernel_rfl, by decide +kernel, by decide +kernel⟩
theorem bp_need_standing : BindsP "need_standing" st_need_standing ["track", "standing"] := fun kV doc pm an cdv ct us hl => match us, hl with | [_, _], _ => by kernel_rfl
theorem mo_need_standing (J : Jn fa fn jtu K mg base) : ModOk P w K mg base [] 2 cx_need_standing [d_is_standing_of] [] := (mod_of J (CalL.cons ((cal_is_standing_of J).m (by decide)) CalL.nil) GcL.nil (by decide +kernel) (by decide +kernel))
theorem cal_need_standing (J : Jn fa fn jtu K mg base) : Cal P w K mg base [] "need_standing" 2 3 d_need_standing := cal_of (k := 2) J 20 38 (by kernel_rfl) (by kernel_rfl) sc_need_standing bp_need_standing (mo_need_standing J) rfl rfl rfl ck_need_standing rfl rfl
theorem sc_ticks_of : FnScope ["track", "end", "end_so", "other", "length"] ["track", "end"] (defScope st_ticks_of) := ⟨by kernel_rfl, by kernel_rfl, by kernel_rfl, by decide +kernel, by kernel_rfl, by decide +kernel, by decide +kernel⟩
theorem bp_ticks_of : BindsP "ticks_of" st_ticks_of ["track", "end"] := fun kV doc pm an cdv ct us hl => match us, hl with | [_, _], _ => by kernel_rfl
theorem mo_ticks_of (J : Jn fa fn jtu K mg base) : ModOk P w K mg base [] 1 cx_ticks_of [d_index_of] [] := (mod_of J (CalL.cons ((cal_index_of J).m (by decide)) CalL.nil) GcL.nil (by decide +kernel) (by decide +kernel))
theorem cal_ticks_of (J : Jn fa fn jtu K mg base) : Cal P w K mg base [] "ticks_of" 2 2 d_ticks_of := cal_of (k := 1) J 21 39 (by kernel_rfl) (by kernel_rfl) sc_ticks_of bp_ticks_of (mo_ticks_of J) rfl rfl rfl ck_ticks_of rfl rfl
theorem sc_is_train : FnScope ["track", "value"] ["track", "value"] (defScope st_is_train) := ⟨by kernel_rfl, by kernel_rfl, by kernel_rfl, by decide +kernel, by kernel_rfl, by decide +kernel, by decide +kernel⟩
theorem bp_is_train : BindsP "is_train" st_is_train ["track", "value"] := fun kV doc pm an cdv ct us hl => match us, hl with | [_, _], _ => by kernel_rfl
theorem mo_is_train (J : Jn fa fn jtu K mg base) : ModOk P w K mg base [] 2 cx_is_train [d_is_int, d_ticks_of, d_is_end_of] [] := (mod_of J (CalL.cons ((cal_is_int J).m (by decide)) (CalL.cons ((cal_ticks_of J).m (by decide)) (CalL.cons ((cal_is_end_of J).m (by decide)) CalL.nil))) GcL.nil (by decide +kernel) (by decide +kernel))
theorem cal_is_train (J : Jn fa fn jtu K mg base) : Cal P w K mg base [] "is_train" 2 3 d_is_train := cal_of (k := 2) J 22 40 (by kernel_rfl) (by kernel_rfl) sc_is_train bp_is_train (mo_is_train J) rfl rfl rfl ck_is_train rfl rfl
theorem sc_need_trains : FnScope ["track", "one_train", "other_train", "train"] ["track", "one_train", "other_train"] (defScope st_need_trains) := ⟨by kernel_rfl, by kernel_rfl, by kernel_rfl, by decide +kernel, by kernel_rfl, by decide +kernel, by decide +kernel⟩
theorem bp_need_trains : BindsP "need_trains" st_need_trains ["track", "one_train", "other_train"] := fun kV doc pm an cdv ct us hl => match us, hl with | [_, _, _], _ => by kernel_rfl
theorem mo_need_trains (J : Jn fa fn jtu K mg base) : ModOk P w K mg base [] 5 cx_need_trains [d_is_train, d_need_track] [] := (mod_of J (CalL.cons ((cal_is_train J).m (by decide)) (CalL.cons ((cal_need_track J).m (by decide)) CalL.nil)) GcL.nil (by decide +kernel) (by decide +kernel))
theorem cal_need_trains (J : Jn fa fn jtu K mg base) : Cal P w K mg base [] "need_trains" 3 6 d_need_trains := cal_of (k := 5) J 23 41 (by kernel_rfl) (by kernel_rfl) sc_need_trains bp_need_trains (mo_need_trains J) rfl rfl rfl ck_need_trains rfl rfl
theorem sc_meeting : FnScope ["track", "one_train", "other_train", "standing"] ["track", "one_train", "other_train", "standing"] (defScope st_meeting) := ⟨by kernel_rfl, by kernel_rfl, by kernel_rfl, by decide +kernel, by kernel_rfl, by decide +kernel, by decide +kernel⟩
theorem bp_meeting : BindsP "meeting" st_meeting ["track", "one_train", "other_train", "standing"] := fun kV doc pm an cdv ct us hl => match us, hl with | [_, _, _, _], _ => by kernel_rfl
theorem mo_meeting (J : Jn fa fn jtu K mg base) : ModOk P w K mg base [] 6 cx_meeting [d_first_tick, d_need_standing, d_need_trains] [] := (mod_of J (CalL.cons ((cal_first_tick J).m (by decide)) (CalL.cons ((cal_need_standing J).m (by decide)) (CalL.cons ((cal_need_trains J).m (by decide)) CalL.nil))) GcL.nil (by decide +kernel) (by decide +kernel))
theorem cal_meeting (J : Jn fa fn jtu K mg base) : Cal P w K mg base [] "meeting" 4 7 d_meeting := cal_of (k := 6) J 24 42 (by kernel_rfl) (by kernel_rfl) sc_meeting bp_meeting (mo_meeting J) rfl rfl rfl ck_meeting rfl rfl
theorem sc_step : FnScope ["track", "place", "left", "standing", "index", "end", "ticks"] ["track", "place"] (defScope st_step) := ⟨by kernel_rfl, by kernel_rfl, by kernel_rfl, by decide +kernel, by kernel_rfl, by decide +kernel, by decide +kernel⟩
theorem bp_step : BindsP "step" st_step ["track", "place"] := fun kV doc pm an cdv ct us hl => match us, hl with | [_, _], _ => by kernel_rfl
theorem mo_step (J : Jn fa fn jtu K mg base) : ModOk P w K mg base [] 2 cx_step [d_along, d_over] [] := (mod_of J (CalL.cons ((cal_along J).m (by decide)) (CalL.cons ((cal_over J).m (by decide)) CalL.nil)) GcL.nil (by decide +kernel) (by decide +kernel))
theorem cal_step (J : Jn fa fn jtu K mg base) : Cal P w K mg base [] "step" 2 3 d_step := cal_of (k := 2) J 25 43 (by kernel_rfl) (by kernel_rfl) sc_step bp_step (mo_step J) rfl rfl rfl ck_step rfl rfl
theorem sc_need_end : FnScope ["track", "end"] ["track", "end"] (defScope st_need_end) := ⟨by kernel_rfl, by kernel_rfl, by kernel_rfl, by decide +kernel, by kernel_rfl, by decide +kernel, by decide +kernel⟩
theorem bp_need_end : BindsP "need_end" st_need_end ["track", "end"] := fun kV doc pm an cdv ct us hl => match us, hl with | [_, _], _ => by kernel_rfl
theorem mo_need_end (J : Jn fa fn jtu K mg base) : ModOk P w K mg base [] 2 cx_need_end [d_is_end_of] [] := (mod_of J (CalL.cons ((cal_is_end_of J).m (by decide)) CalL.nil) GcL.nil (by decide +kernel) (by decide +kernel))
theorem cal_need_end (J : Jn fa fn jtu K mg base) : Cal P w K mg base [] "need_end" 2 3 d_need_end := cal_of (k := 2) J 26 44 (by kernel_rfl) (by kernel_rfl) sc_need_end bp_need_end (mo_need_end J) rfl rfl rfl ck_need_end rfl rfl
theorem sc_need_place : FnScope ["track", "end", "standing"] ["track", "end", "standing"] (defScope st_need_place) := ⟨by kernel_rfl, by kernel_rfl, by kernel_rfl, by decide +kernel, by kernel_rfl, by decide +kernel, by decide +kernel⟩
theorem bp_need_place : BindsP "need_place" st_need_place ["track", "end", "standing"] := fun kV doc pm an cdv ct us hl => match us, hl with | [_, _, _], _ => by kernel_rfl
theorem mo_need_place (J : Jn fa fn jtu K mg base) : ModOk P w K mg base [] 5 cx_need_place [d_need_standing, d_need_end, d_need_track] [] := (mod_of J (CalL.cons ((cal_need_standing J).m (by decide)) (CalL.cons ((cal_need_end J).m (by decide)) (CalL.cons ((cal_need_track J).m (by decide)) CalL.nil))) GcL.nil (by decide +kernel) (by decide +kernel))
theorem cal_need_place (J : Jn fa fn jtu K mg base) : Cal P w K mg base [] "need_place" 3 6 d_need_place := cal_of (k := 5) J 27 45 (by kernel_rfl) (by kernel_rfl) sc_need_place bp_need_place (mo_need_place J) rfl rfl rfl ck_need_place rfl rfl
theorem sc_passed : FnScope ["track", "end", "standing", "there", "index", "ticks"] ["track", "end", "standing"] (defScope st_passed) := ⟨by kernel_rfl, by kernel_rfl, by kernel_rfl, by decide +kernel, by kernel_rfl, by decide +kernel, by decide +kernel⟩
theorem bp_passed : BindsP "passed" st_passed ["track", "end", "standing"] := fun kV doc pm an cdv ct us hl => match us, hl with | [_, _, _], _ => by kernel_rfl
theorem mo_passed (J : Jn fa fn jtu K mg base) : ModOk P w K mg base [] 6 cx_passed [d_step, d_need_place] [] := (mod_of J (CalL.cons ((cal_step J).m (by decide)) (CalL.cons ((cal_need_place J).m (by decide)) CalL.nil)) GcL.nil (by decide +kernel) (by decide +kernel))
theorem cal_passed (J : Jn fa fn jtu K mg base) : Cal P w K mg base [] "passed" 3 7 d_passed := cal_of (k := 6) J 28 46 (by kernel_rfl) (by kernel_rfl) sc_passed bp_passed (mo_passed J) rfl rfl rfl ck_passed rfl rfl
theorem sc__law_standings : FnScope ["_law_track_here", "_law_found", "_law_kind", "_law_longer", "_law_row"] ["_law_track_here"] (defScope st__law_standings) := ⟨by kernel_rfl, by kernel_rfl, by kernel_rfl, by decide +kernel, by kernel_rfl, by decide +kernel, by decide +kernel⟩
theorem bp__law_standings : BindsP "_law_standings" st__law_standings ["_law_track_here"] := fun kV doc pm an cdv ct us hl => match us, hl with | [_], _ => by kernel_rfl
theorem mo__law_standings (J : Jn fa fn jtu K mg base) : ModOk P w K mg base [] 0 cx__law_standings [] [] := (mod_of J CalL.nil GcL.nil (by decide +kernel) (by decide +kernel))
theorem cal__law_standings (J : Jn fa fn jtu K mg base) : Cal P w K mg base [] "_law_standings" 1 1 d__law_standings := cal_of (k := 0) J 29 47 (by kernel_rfl) (by kernel_rfl) sc__law_standings bp__law_standings (mo__law_standings J) rfl rfl rfl ck__law_standings rfl rfl
theorem sc_safe_standings : FnScope ["track", "one_train", "other_train"] ["track", "one_train", "other_train"] (defScope st_safe_standings) := ⟨by kernel_rfl, by kernel_rfl, by kernel_rfl, by decide +kernel, by kernel_rfl, by decide +kernel, by decide +kernel⟩
theorem bp_safe_standings : BindsP "safe_standings" st_safe_standings ["track", "one_train", "other_train"] := fun kV doc pm an cdv ct us hl => match us, hl with | [_, _, _], _ => by kernel_rfl
theorem mo_safe_standings (J : Jn fa fn jtu K mg base) : ModOk P w K mg base [] 6 cx_safe_standings [d_all_safe, d_need_trains] [] := (mod_of J (CalL.cons ((cal_all_safe J).m (by decide)) (CalL.cons ((cal_need_trains J).m (by decide)) CalL.nil)) GcL.nil (by decide +kernel) (by decide +kernel))
theorem cal_safe_standings (J : Jn fa fn jtu K mg base) : Cal P w K mg base [] "safe_standings" 3 7 d_safe_standings := cal_of (k := 6) J 30 48 (by kernel_rfl) (by kernel_rfl) sc_safe_standings bp_safe_standings (mo_safe_standings J) rfl rfl rfl ck_safe_standings rfl rfl
theorem sc__law_tap : FnScope ["_law_churn_here", "_law_many", "_law_found", "_law_wide"] ["_law_churn_here", "_law_many"] (defScope st__law_tap) := ⟨by kernel_rfl, by kernel_rfl, by kernel_rfl, by decide +kernel, by kernel_rfl, by decide +kernel, by decide +kernel⟩
theorem bp__law_tap : BindsP "_law_tap" st__law_tap ["_law_churn_here", "_law_many"] := fun kV doc pm an cdv ct us hl => match us, hl with | [_, _], _ => by kernel_rfl
theorem mo__law_tap (J : Jn fa fn jtu K mg base) : ModOk P w K mg base [] 0 cx__law_tap [] [] := (mod_of J CalL.nil GcL.nil (by decide +kernel) (by decide +kernel))
theorem cal__law_tap (J : Jn fa fn jtu K mg base) : Cal P w K mg base [] "_law_tap" 2 1 d__law_tap := cal_of (k := 0) J 31 49 (by kernel_rfl) (by kernel_rfl) sc__law_tap bp__law_tap (mo__law_tap J) rfl rfl rfl ck__law_tap rfl rfl
theorem sc__law_any_of : FnScope ["_law_churn_here", "_law_things"] ["_law_churn_here", "_law_things"] (defScope st__law_any_of) := ⟨by kernel_rfl, by kernel_rfl, by kernel_rfl, by decide +kernel, by kernel_rfl, by decide +kernel, by decide +kernel⟩
theorem bp__law_any_of : BindsP "_law_any_of" st__law_any_of ["_law_churn_here", "_law_things"] := fun kV doc pm an cdv ct us hl => match us, hl with | [_, _], _ => by kernel_rfl
theorem mo__law_any_of (J : Jn fa fn jtu K mg base) : ModOk P w K mg base [] 1 cx__law_any_of [d__law_tap] [] := (mod_of J (CalL.cons ((cal__law_tap J).m (by decide)) CalL.nil) GcL.nil (by decide +kernel) (by decide +kernel))
theorem cal__law_any_of (J : Jn fa fn jtu K mg base) : Cal P w K mg base [] "_law_any_of" 2 2 d__law_any_of := cal_of (k := 1) J 32 50 (by kernel_rfl) (by kernel_rfl) sc__law_any_of bp__law_any_of (mo__law_any_of J) rfl rfl rfl ck__law_any_of rfl rfl
theorem sc__law_ends : FnScope ["_law_many", "_law_found", "_law_point"] ["_law_many"] (defScope st__law_ends) := ⟨by kernel_rfl, by kernel_rfl, by kernel_rfl, by decide +kernel, by kernel_rfl, by decide +kernel, by decide +kernel⟩
theorem bp__law_ends : BindsP "_law_ends" st__law_ends ["_law_many"] := fun kV doc pm an cdv ct us hl => match us, hl with | [_], _ => by kernel_rfl
theorem mo__law_ends (J : Jn fa fn jtu K mg base) : ModOk P w K mg base [] 0 cx__law_ends [] [] := (mod_of J CalL.nil GcL.nil (by decide +kernel) (by decide +kernel))
theorem cal__law_ends (J : Jn fa fn jtu K mg base) : Cal P w K mg base [] "_law_ends" 1 1 d__law_ends := cal_of (k := 0) J 33 51 (by kernel_rfl) (by kernel_rfl) sc__law_ends bp__law_ends (mo__law_ends J) rfl rfl rfl ck__law_ends rfl rfl
theorem sc__law_joints : FnScope ["_law_churn_here", "_law_many", "_law_left_so", "_law_found", "_law_end", "_law_length", "_law_way", "_law_at"] ["_law_churn_here", "_law_many"] (defScope st__law_joints) := ⟨by kernel_rfl, by kernel_rfl, by kernel_rfl, by decide +kernel, by kernel_rfl, by decide +kernel, by decide +kernel⟩
theorem bp__law_joints : BindsP "_law_joints" st__law_joints ["_law_churn_here", "_law_many"] := fun kV doc pm an cdv ct us hl => match us, hl with | [_, _], _ => by kernel_rfl
theorem mo__law_joints (J : Jn fa fn jtu K mg base) : ModOk P w K mg base [] 1 cx__law_joints [d__law_tap, d__law_ends] [] := (mod_of J (CalL.cons ((cal__law_tap J).m (by decide)) (CalL.cons ((cal__law_ends J).m (by decide)) CalL.nil)) GcL.nil (by decide +kernel) (by decide +kernel))
theorem cal__law_joints (J : Jn fa fn jtu K mg base) : Cal P w K mg base [] "_law_joints" 2 2 d__law_joints := cal_of (k := 1) J 34 52 (by kernel_rfl) (by kernel_rfl) sc__law_joints bp__law_joints (mo__law_joints J) rfl rfl rfl ck__law_joints rfl rfl
theorem sc__law_track : FnScope ["_law_churn_here", "_law_most", "_law_many", "_law_kinds", "_law_point"] ["_law_churn_here", "_law_most"] (defScope st__law_track) := ⟨by kernel_rfl, by kernel_rfl, by kernel_rfl, by decide +kernel, by kernel_rfl, by decide +kernel, by decide +kernel⟩
theorem bp__law_track : BindsP "_law_track" st__law_track ["_law_churn_here", "_law_most"] := fun kV doc pm an cdv ct us hl => match us, hl with | [_, _], _ => by kernel_rfl
theorem mo__law_track (J : Jn fa fn jtu K mg base) : ModOk P w K mg base [] 2 cx__law_track [d__law_joints, d__law_any_of, d__law_tap] [] := (mod_of J (CalL.cons ((cal__law_joints J).m (by decide)) (CalL.cons ((cal__law_any_of J).m (by decide)) (CalL.cons ((cal__law_tap J).m (by decide)) CalL.nil))) GcL.nil (by decide +kernel) (by decide +kernel))
theorem cal__law_track (J : Jn fa fn jtu K mg base) : Cal P w K mg base [] "_law_track" 2 3 d__law_track := cal_of (k := 2) J 35 53 (by kernel_rfl) (by kernel_rfl) sc__law_track bp__law_track (mo__law_track J) rfl rfl rfl ck__law_track rfl rfl
theorem sc__law_churn : FnScope ["_law_script", "_law_k", "_law_cell"] ["_law_script", "_law_k"] (defScope st__law_churn) := ⟨by kernel_rfl, by kernel_rfl, by kernel_rfl, by decide +kernel, by kernel_rfl, by decide +kernel, by decide +kernel⟩
theorem bp__law_churn : BindsP "_law_churn" st__law_churn ["_law_script", "_law_k"] := fun kV doc pm an cdv ct us hl => match us, hl with | [_, _], _ => by kernel_rfl
theorem mo__law_churn (J : Jn fa fn jtu K mg base) : ModOk P w K mg base [] 0 cx__law_churn [] [] := (mod_of J CalL.nil GcL.nil (by decide +kernel) (by decide +kernel))
theorem cal__law_churn (J : Jn fa fn jtu K mg base) : Cal P w K mg base [] "_law_churn" 2 1 d__law_churn := cal_of (k := 0) J 36 54 (by kernel_rfl) (by kernel_rfl) sc__law_churn bp__law_churn (mo__law_churn J) rfl rfl rfl ck__law_churn rfl rfl
theorem sc_law : FnScope ["_law_script", "_law_k", "_law_track_here", "_law_churn_here", "_law_turn", "_law_known", "_law_ends_here", "_law_end", "_law_other", "_law_some", "_law_standing", "_law_pair", "_law_there", "_law_later", "_law_ticks", "_law_late", "_law_last", "_law_wait"] ["_law_script"] (defScope st_law) := ⟨by kernel_rfl, by kernel_rfl, by kernel_rfl, by decide +kernel, by kernel_rfl, by decide +kernel, by decide +kernel⟩
theorem bp_law : BindsP "law" st_law ["_law_script"] := fun kV doc pm an cdv ct us hl => match us, hl with | [_], _ => by kernel_rfl
theorem mo_law (J : Jn fa fn jtu K mg base) : ModOk P w K mg base [] 7 cx_law [d_safe_pairs, d_meeting, d_passed, d__law_standings, d_safe_standings, d__law_any_of, d__law_ends, d__law_track, d__law_churn] [] := (mod_of J (CalL.cons ((cal_safe_pairs J).m (by decide)) (CalL.cons ((cal_meeting J).m (by decide)) (CalL.cons ((cal_passed J).m (by decide)) (CalL.cons ((cal__law_standings J).m (by decide)) (CalL.cons ((cal_safe_standings J).m (by decide)) (CalL.cons ((cal__law_any_of J).m (by decide)) (CalL.cons ((cal__law_ends J).m (by decide)) (CalL.cons ((cal__law_track J).m (by decide)) (CalL.cons ((cal__law_churn J).m (by decide)) CalL.nil))))))))) GcL.nil (by decide +kernel) (by decide +kernel))
theorem facts (c : SaysT fa fn jtu K) : ∃ fd : FuncData, (∀ (s : Shared) (v : Value), BindsTo s fd ⟨[v], []⟩ [("_law_script", v)]) ∧ ∀ base : Heap, K.In base → base.Ns mainGlobals mg → FnOk P w K mg base (L2N.CX P w) 8 (He.ga K "law") fd ["_law_script"] (SpD ⟨P, w, K, mg, []⟩ 1 d_law) := by
  obtain ⟨fd, hb, hF⟩ := law_of (P := P) (w := w) (mg := mg) (T := []) (k := 7) (ar := 1) (n := 18) (C := []) (G := [d_safe_pairs, d_meeting, d_passed, d__law_standings, d_safe_standings, d__law_any_of, d__law_ends, d__law_track, d__law_churn]) (b := ir_law) (c := cx_law) c 37 (by kernel_rfl) sc_law bp_law rfl rfl rfl ck_law rfl rfl
  exact ⟨fd, fun s v => hb s [v] rfl, fun base X G => hF base (mo_law ⟨X, G, c⟩)⟩
theorem facts_glo (X : K.In base) (G : base.Ns mainGlobals mg) (c : SaysT fa fn jtu K) : mg "law" = some (.ref (He.ga K "law")) := Jn.glo ⟨X, G, c⟩ 55 (by kernel_rfl)
end
abbrev R : PySem.W.OpenRow := PySem.W.OpenLaw.row PySem.Challenge.rw_railpoints_k07_whole_pairs_of_trains_tha
abbrev hk : PySem.W.Hook := hookT 2 fa fn jtu
def ob (s : PySem.W.SharedT) : AlT := obsTG 2 fa fn jtu (HandSHeadRun.getT s)
theorem ob_eq (s : PySem.W.SharedT) : ob s = hk.obs s.abs := obsTG_eq (HandSHeadRun.getT_eq s)
def loose_0 : List Str := ["RailError", "InvalidTrack", "InvalidEnd", "InvalidStanding", "InvalidTrain", "KINDS", "LEGS", "MOST_POINTS", "is_int", "is_word", "is_end_of", "is_stretch", "ends_in", "is_track", "all_ends", "all_standings", "is_standing_of", "index_of", "other_leg", "need_track", "need_end", "need_standing", "need_place", "put", "over", "along", "step", "passed", "ticks_of", "is_train"]
def loose_1 : List Str := ["are_apart", "moved", "first_tick", "need_trains", "meeting", "all_safe", "safe_standings", "safe_pairs", "_law_churn", "_law_tap", "_law_any_of", "_law_ends", "_law_joints", "_law_track", "_law_standings"]
def loose : List Str := loose_0 ++ loose_1
theorem headrun (w : World) : HandSHeadRun.RunEq R (PySem.W.view R.prog [50]) hk ob 20000 loose w := by
  intro os
  kernel_rfl
end RP

open PySem PySem.W PySem.Calls PyProof.Rows
theorem RP.fin07 : PySem.Challenge.rw_railpoints_k07_whole_pairs_of_trains_tha.Holds := by
  w_on; o_law
  refine HandSHeadRun.head_any (r := OpenLaw.row PySem.Challenge.rw_railpoints_k07_whole_pairs_of_trains_tha) (q := view (OpenLaw.row PySem.Challenge.rw_railpoints_k07_whole_pairs_of_trains_tha).prog [50]) (H := RP.hk) (ob := RP.ob) (M := 20000) (loose := RP.loose) (d := HandSHeadRun.topDef (OpenLaw.row PySem.Challenge.rw_railpoints_k07_whole_pairs_of_trains_tha).prog 50) (kwd := []) RP.ob_eq
    (by kernel_rfl) (fun s => by kernel_rfl) RP.headrun (by kernel_rfl) (by kernel_rfl) (by kernel_rfl) (by rfl) (by first | assumption | decide +kernel) (by decide +kernel) ⟨rfl, rfl, rfl, rfl, rfl, by decide +kernel⟩ ?hw ?hc
  case hw => w_witness2
  case hc =>
    refine LamX.walk_ofTsE (l := PySem.Challenge.rw_railpoints_k07_whole_pairs_of_trains_tha) (n := 63) (k := 8) (x := "_law_script") (CX := fun w => L2N.CX (PySem.Challenge.rw_railpoints_k07_whole_pairs_of_trains_tha).prog w) rfl (by decide) (by kernel_rfl) ⟨rfl, by decide, by decide⟩ ?F (fun w H s e s' h => RP.noCX w H s e s' h)
    intro w mg f h Y G hmg0
    obtain ⟨K, KX, c⟩ := Y
    have hmg : mg ("law" : PySem.Str) = some (.ref f) := by
      have e : (HandSHeadRun.topDef (OpenLaw.row PySem.Challenge.rw_railpoints_k07_whole_pairs_of_trains_tha).prog 50).name = ("law" : PySem.Str) := by kernel_rfl
      rw [← e]
      exact hmg0
    have e := hmg.symm.trans (RP.facts_glo KX G c)
    cases e
    obtain ⟨fd, hb, hF⟩ := RP.facts (P := (PySem.Challenge.rw_railpoints_k07_whole_pairs_of_trains_tha).prog) (w := w) (mg := mg) c
    exact ⟨K, KX, fd, [], _, (fun p hp => nomatch hp), (fun p hp => nomatch hp), (fun p hp => nomatch hp), hb, fun H a ns hl _ _ hS => RP.law_sp rfl hS (RP.law_true ns), fun base X G _ => hF base X G⟩

theorem PySem.Challenge.cw_railpoints_k07_whole_pairs_of_trains_tha_holds : PySem.Challenge.rw_railpoints_k07_whole_pairs_of_trains_tha.Holds :=
  RP.fin07

