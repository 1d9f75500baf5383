import PyProof.Rows.All
import Wide.All
import OpenK.AllK
import Wide.FinOn
import HandS.ForMost
import KE.SortData
import KE.KDictKeyed
import HandS.TupAny
import HandS.TupMul
import HandS.TupLe
import HandS.Deep
import HandS.IsInst
import HandS.Flow
import PyProof.ListMulAny
import KE.LtData
import HandS.Comp
import HandS.Zip
import HandS.Iter
import HandS.Exc
import HandS.ExcOwn
import HandS.WordsExc
import KE.KDictWalk
import HandS.Defaults
import HandS.TupLen
import HandS.Dict
import HandS.DictTup
import KE.DataMinMax
import KE.DataFind
import KE.SortKeyHeap
import HandS.SortKw
import KE.KDictCopyH
import KE.KDictSum
import HandS.DictComp
import KE.KDictPairs
import HandS.TupSets
import KE.KEqDict
import PyProof.ListRange
import HandS.Sort
import KE.KDictZip
import KE.KItemsList
import KE.GoesEnum
import HandS.Head2
import HandS.HeadEnd
import HandS.HeadHook1
import HandS.HeadHook2
import KE.DatumOrd
import PySem.Challenge.RW_morsematch_k32_cancel_by_hand
set_option Elab.async false
set_option linter.all false
set_option maxRecDepth 100000
/-! Mx1: the evaluator over plain data. -/
namespace Mx
open PySem

abbrev D := PyData
/-- a slot's value: data, an object of the world, a def of the module -/
inductive Vl where
  | d (x : D)
  | ob (i : Nat)
  | fn (f : Nat)
/-- an object that several frames may change -/
inductive Wo where
  | cell (xs : List D)
  | dct (kvs : List (D × D))
  | ins (c : Nat) (fs : List (Str × Vl))
abbrev Wd := List Wo
abbrev Env := List (Option Vl)
inductive Res (α : Type) where
  | ok (a : α) (w : Wd)
  | exc (c : Nat) (xs : List D) (w : Wd)
  | stuck
def Res.bind {α β : Type} (r : Res α) (f : α → Wd → Res β) : Res β := match r with
  | .ok a w => f a w
  | .exc c x w => .exc c x w
  | .stuck => .stuck
theorem Res.bind_ok {α β : Type} (a : α) (w : Wd) (f : α → Wd → Res β) : (Res.ok a w).bind f = f a w := rfl
theorem Res.bind_eq {α β : Type} {r : Res α} {f : α → Wd → Res β} {b : β} {w' : Wd} (h : r.bind f = .ok b w') : ∃ a w, r = .ok a w ∧ f a w = .ok b w' := by
  cases r with
  | ok a w => exact ⟨a, w, rfl, h⟩
  | exc c x w => cases h
  | stuck => cases h
def ofO {α : Type} (o : Option α) (w : Wd) : Res α := match o with
  | some a => .ok a w
  | none => .stuck
theorem ofO_ok {α : Type} {o : Option α} {w w' : Wd} {a : α} (h : ofO o w = .ok a w') : o = some a ∧ w' = w := by
  cases o with
  | none => cases h
  | some b => cases h; exact ⟨rfl, rfl⟩
def Vl.dat? : Vl → Option D
  | .d x => some x
  | _ => none

/-- the greatest length that is served -/
def most : Nat := 16777216
def fits (n : Nat) : Bool := Nat.ble n most

inductive Bop where | add | sub | mul | fdiv | mod | pow
  deriving DecidableEq
inductive Cop where | eq | ne | lt | le | gt | ge | inn | nin | is | isnt
  deriving DecidableEq
/-- what is called with one value -/
inductive B1 where | len | abs | int | str | dict
  deriving DecidableEq
/-- what is called with an iterable -/
inductive Bi where | tuple | list | sorted | all | any | sum | min | max | lenset | srtset
  deriving DecidableEq
inductive Ty where | int | bool | tuple | str | dict | list
  deriving DecidableEq

/-! ### operations on data -/
def small (i : Int) : Bool := decide (-(2 ^ 64) < i) && decide (i < 2 ^ 64)
def binD : Bop → D → D → Option D
  | .add, .int a, .int b => some (.int (a + b))
  | .add, .tuple xs, .tuple ys => if fits (xs.length + ys.length) then some (.tuple (xs ++ ys)) else none
  | .add, .list xs, .list ys => if fits (xs.length + ys.length) then some (.list (xs ++ ys)) else none
  | .add, .str x, .str y => if fits (x.length + y.length) then some (.str (x ++ y)) else none
  | .sub, .int a, .int b => some (.int (a - b))
  | .mul, .int a, .int b => if small a || small b then some (.int (a * b)) else none
  | .mul, .list xs, .int k => if decide (-(2 ^ 63) ≤ k) && decide (k < 2 ^ 63) && fits (xs.length * k.toNat) then some (.list (List.replicate k.toNat xs).flatten) else none
  | .fdiv, .int a, .int b => if b != 0 && decide (b.natAbs < 1073741824) then some (.int (a.fdiv b)) else none
  | .mod, .int a, .int b => if b != 0 then some (.int (a.fmod b)) else none
  | .pow, .int a, .int b => if decide (0 ≤ b) && decide (b ≤ 1000000) && decide (a.natAbs < 2 ^ 64) then some (.int (a ^ b.toNat)) else none
  | _, _, _ => none
/-- op= on ints -/
def augD : Bop → D → D → Option D
  | .add, .int a, .int b => some (.int (a + b))
  | .sub, .int a, .int b => some (.int (a - b))
  | .mul, .int a, .int b => if small a || small b then some (.int (a * b)) else none
  | _, _, _ => none
def shp (d : D) : Bool := SeqAt.shaped d
/-- == of data -/
def eqD (a b : D) : Option Bool := if shp a && b.canLay0 then some (PyData.eqv a b) else none
def low (d : D) : Bool := Nat.ble d.depth 64
def ltD (a b : D) : Option Bool := if PySem.W.alike a b && low a then some (PySem.W.dataLt a b) else none
def inL (x : D) (xs : List D) : Option Bool := if shp x && PyData.canLayAll0 xs then some (xs.any fun y => PyData.eqv y x) else none
/-! ### dicts -/
mutual
/-- what may stand in a key that is a tuple -/
def keyIn : D → Bool
  | .none => true
  | .bool _ => true
  | .int _ => true
  | .str _ => true
  | .tuple xs => keyIns xs
  | .list _ => false
  | .dict _ => false
def keyIns : List D → Bool
  | [] => true
  | x :: xs => keyIn x && keyIns xs
end
/-- a key: a tuple of such, to depth 8 -/
def isTupKey : D → Bool
  | .tuple xs => keyIns xs && Nat.ble (PyData.depth (.tuple xs)) 8
  | _ => false
def isIntKey : D → Bool
  | .int _ => true
  | _ => false
def keyFor (_ : List (D × D)) (k : D) : Bool := isTupKey k
def dGet (kvs : List (D × D)) (k : D) : Option D := (kvs.find? fun p => PyData.eqv p.1 k).map (·.2)
def dHas (kvs : List (D × D)) (k : D) : Bool := kvs.any fun p => PyData.eqv p.1 k
def dPut (kvs : List (D × D)) (k v : D) : List (D × D) := if dHas kvs k then kvs.map fun p => if PyData.eqv p.1 k then (p.1, v) else p else kvs ++ [(k, v)]
def dDel (kvs : List (D × D)) (k : D) : List (D × D) := kvs.filter fun p => !PyData.eqv p.1 k
def dPutAll (kvs : List (D × D)) : List (D × D) → List (D × D)
  | [] => kvs
  | p :: r => dPutAll (dPut kvs p.1 p.2) r
/-- every key fits in turn -/
def keysOk : List (D × D) → List (D × D) → Bool
  | _, [] => true
  | kvs, p :: r => keyFor kvs p.1 && keysOk (dPut kvs p.1 p.2) r

def cmpD : Cop → D → D → Option Bool
  | .eq, a, b => eqD a b
  | .ne, a, b => (eqD a b).map (!·)
  | .lt, .int a, .int b => some (decide (a < b))
  | .le, .int a, .int b => some (decide (a ≤ b))
  | .gt, .int a, .int b => some (decide (b < a))
  | .ge, .int a, .int b => some (decide (b ≤ a))
  | .lt, .tuple xs, .tuple ys => ltD (.tuple xs) (.tuple ys)
  | .inn, x, .list xs => inL x xs
  | .inn, x, .tuple xs => inL x xs
  | .inn, x, .dict kvs => if keyFor kvs x then some (dHas kvs x) else none
  | .nin, x, .list xs => (inL x xs).map (!·)
  | .nin, x, .tuple xs => (inL x xs).map (!·)
  | .nin, x, .dict kvs => if keyFor kvs x then some (!dHas kvs x) else none
  | .inn, .str x, .str y => some (!(Builtin.Str.occurrences y x 0 y.length 1).isEmpty)
  | .nin, .str x, .str y => some (!(!(Builtin.Str.occurrences y x 0 y.length 1).isEmpty))
  | _, _, _ => none
def cmpG (op : Cop) (a b : D) : Option D := (cmpD op a b).map .bool
def Vl.isN : Vl → Bool
  | .d .none => true
  | _ => false
def idxD : D → D → Option D
  | .list xs, .int i => L2.atI xs i
  | .tuple xs, .int i => L2.atI xs i
  | .str z, .int i => if fits z.length then (L2.atI z.cps.toList i).map fun c => .str ⟨#[c]⟩ else none
  | .dict kvs, k => if keyFor kvs k then dGet kvs k else none
  | _, _ => none
def cut {α : Type} (xs : List α) (lo hi : Option Int) : List α := (xs.drop (HT.sIx xs.length 0 lo)).take (HT.sIx xs.length xs.length hi - HT.sIx xs.length 0 lo)
def sliD : D → Option Int → Option Int → Option D
  | .list xs, lo, hi => some (.list (cut xs lo hi))
  | .tuple xs, lo, hi => some (.tuple (cut xs lo hi))
  | _, _, _ => none
/-- xs[k::2] for k = 0, 1, 2: every second item -/
def seconds {α : Type} : List α → List α
  | [] => []
  | [x] => [x]
  | x :: _ :: r => x :: seconds r
def sl3D : D → Nat → Int → Option D
  | .tuple xs, k, 2 => some (.tuple (seconds (xs.drop k)))
  | .tuple xs, 0, -1 => some (.tuple xs.reverse)
  | _, _, _ => none
def lenD : D → Option D
  | .list xs => some (.int xs.length)
  | .tuple xs => some (.int xs.length)
  | .dict kvs => some (.int kvs.length)
  | .str z => if fits z.length then some (.int z.length) else none
  | _ => none
def pairsD : List D → Option (List (D × D))
  | [] => some []
  | .tuple [k, v] :: r => (pairsD r).map fun l => (k, v) :: l
  | _ => none
def itemsD : D → Option (List D)
  | .list xs => some xs
  | .tuple xs => some xs
  | _ => none
def b1D : B1 → D → Option D
  | .len, d => lenD d
  | .abs, .int i => some (.int (if i < 0 then -i else i))
  | .int, .bool b => some (.int (if b then 1 else 0))
  | .dict, .tuple xs => (pairsD xs).bind fun ps => if keysOk [] ps then some (.dict (dPutAll [] ps)) else none
  | _, _ => none
def allB : List D → Option (List Bool)
  | [] => some []
  | .bool b :: r => (allB r).map fun l => b :: l
  | _ => none
def allI : List D → Option (List Int)
  | [] => some []
  | .int i :: r => (allI r).map fun l => i :: l
  | _ => none
/-- all items can be compared with each other -/
def allAlike (xs : List D) : Bool := xs.all fun x => xs.all fun y => PySem.W.alike x y
def isTup1 : D → Bool
  | .tuple (_ :: _) => true
  | _ => false
def isOther : D → Bool
  | .none => false
  | .tuple _ => false
  | _ => true
def sortable (ks : List D) : Bool := allAlike ks && ks.all low && (ks.all isTup1 || ks.all isOther)
/-- a stable sort that the kernel can run -/
def ins {α : Type} (le : α → α → Bool) (x : α) : List α → List α
  | [] => [x]
  | y :: ys => if le x y then x :: y :: ys else y :: ins le x ys
def isort {α : Type} (le : α → α → Bool) : List α → List α
  | [] => []
  | x :: xs => ins le x (isort le xs)
def leD (a b : D) : Bool := !PySem.W.dataLt b a
/-- sorted by a key that goes with each item -/
def sortBy (ks : List (D × D)) : List D := (isort (fun a b => leD a.1 b.1) ks).map (·.2)
def sortD (xs : List D) : Option (List D) := if sortable xs then some (isort leD xs) else none
/-- without what stood ahead -/
def dedup : List D → List D
  | [] => []
  | x :: xs => x :: (dedup xs).filter fun y => !PyData.eqv y x
/-- tuples of ints -/
def intTups : List D → Option (List (List Int))
  | [] => some []
  | .tuple xs :: r => (allI xs).bind fun is => (intTups r).map fun l => is :: l
  | _ => none
def dedupK : List (List Int) → List (List Int)
  | [] => []
  | x :: xs => x :: (dedupK xs).filter fun y => !decide (y = x)
def least : List D → Option D
  | [] => none
  | x :: xs => some (xs.foldl (fun a b => if PySem.W.dataLt b a then b else a) x)
def greatest : List D → Option D
  | [] => none
  | x :: xs => some (xs.foldl (fun a b => if PySem.W.dataLt a b then b else a) x)
/-- the items of what is walked -/
def seqD : D → Option (List D)
  | .list xs => some xs
  | .tuple xs => some xs
  | .dict kvs => some (kvs.map (·.1))
  | _ => none
def listD : D → Option (List D)
  | .list xs => some xs
  | _ => none
def mmD (g : List D → Option D) (x : D) : Option D := (itemsD x).bind fun xs => if sortable xs then g xs else none
def bitD : Bi → D → Option D
  | .tuple, x => (itemsD x).map .tuple
  | .list, x => (itemsD x).map .list
  | .sorted, x => (listD x).bind fun xs => if fits xs.length then (sortD xs).map .list else none
  | .all, x => (listD x).bind fun xs => (allB xs).map fun bs => .bool (bs.all id)
  | .any, x => (listD x).bind fun xs => (allB xs).map fun bs => .bool (bs.any id)
  | .sum, x => (listD x).bind fun xs => (allI xs).map fun is => .int is.sum
  | .min, x => mmD least x
  | .max, x => mmD greatest x
  | .lenset, x => (listD x).bind fun xs => (intTups xs).bind fun ks => if Nat.blt ks.length 64 then some (.int (dedupK ks).length) else none
  | .srtset, x => (itemsD x).bind fun xs => if (xs.all isTupKey || xs.all isIntKey) && sortable xs then some (.list (isort leD (dedup xs))) else none
def cntG (xs : List D) (y : D) : Option D := if shp y && PyData.canLayAll0 xs then some (.int (xs.countP fun z => PyData.eqv z y)) else none
def idxG (xs : List D) (y : D) : Option D := if shp y && PyData.canLayAll0 xs then (xs.findIdx? fun z => PyData.eqv z y).map fun j => .int j else none
def isiD : D → Ty → Bool
  | .int _, .int => true
  | .bool _, .int => true
  | .bool _, .bool => true
  | .tuple _, .tuple => true
  | .list _, .list => true
  | .str _, .str => true
  | .dict _, .dict => true
  | _, _ => false

/-! ### the text -/
inductive Tg where
  | name (i : Nat)
  | tup (is : List Nat)
mutual
inductive E where
  | slot (i : Nat)
  | cst (d : D)
  | glo (x : Nat) (d : D)
  | fn (x : Nat)
  | bin (op : Bop) (a b : E)
  | neg (a : E)
  | not (a : E)
  | and (es : Es)
  | or (es : Es)
  | cmp (op : Cop) (a b : E)
  | cmp2 (op op' : Cop) (a b c : E)
  | ite (c a b : E)
  | tup (es : Es)
  | lst (es : Es)
  | idx (a i : E)
  | sli (a : E) (lo hi : Eo)
  | sl3 (a : E) (k : Nat) (c : Int)
  | call (f : Nat) (es : Es)
  | callB (f : Nat) (es : Es)
  | callV (i : Nat) (es : Es)
  | b1 (b : B1) (e : E)
  | bit (b : Bi) (it : It)
  | srtK (f : Nat) (it : It)
  | isi (e : E) (t : Ty)
  | lc (own : List Nat) (tg : Tg) (it : It) (ifs : Eo) (elt : E)
  | lc2 (own : List Nat) (tg : Tg) (it : It) (tg2 : Tg) (it2 : It) (ifs : Eo) (elt : E)
  | dc (own : List Nat) (tg : Tg) (it : It) (k v : E)
  | dc2 (own : List Nat) (tg : Tg) (it : It) (tg2 : Tg) (it2 : It) (k v : E)
  | dct (ks vs : Es)
  | cnt (a b : E)
  | index (a b : E)
  | get (a b c : E)
  | oidx (o i : E)
  | fld (o : E) (cl : Nat) (f : Str)
  | meth (o : E) (c m : Nat) (x : Str) (es : Es)
  | mk (c m : Nat) (es : Es)
  | cell (e : E)
  | dcell (e : E)
  | rd (o : E)
  | deq0 (neg : Bool) (e : E)
  | stuck
inductive Es where
  | nil
  | cons (e : E) (r : Es)
inductive Eo where
  | none
  | some (e : E)
inductive It where
  | seq (e : E)
  | rng1 (a : E)
  | rng2 (a b : E)
  | rng3 (a b : E) (c : Int)
  | zip (a b : E)
  | zip3 (a b c : E)
  | enu (e : E)
  | keys (e : E)
  | vals (e : E)
  | items (e : E)
end
mutual
inductive S where
  | asg (i : Nat) (e : E)
  | asgT (is : List Nat) (e : E)
  | par (i j : Nat) (a b : E)
  | mv (i j : Nat)
  | app (i : Nat) (e : E)
  | appMv (i j : Nat)
  | ext (i : Nat) (e : E)
  | put (i : Nat) (k v : E)
  | popK (i : Nat) (k : E)
  | upd (i : Nat) (e : E)
  | oput (o : E) (k v : E)
  | oapp (o : E) (e : E)
  | fset (i cl : Nat) (f : Str) (e : E)
  | aug (i : Nat) (op : Bop) (e : E)
  | expr (e : E)
  | ret (e : E)
  | retN
  | ite (c : E) (a b : Ss)
  | for_ (tg : Tg) (it : It) (b : Ss)
  | while_ (c : E) (b : Ss)
  | raise (c : Nat) (es : Es)
  | cont
  | brk
  | pass
  | stuck
inductive Ss where
  | nil
  | cons (s : S) (r : Ss)
end

/-! ### running -/
def Tg.ix : Tg → List Nat
  | .name i => [i]
  | .tup is => is
def setAll (env : Env) : List Nat → List D → Option Env
  | [], [] => some env
  | i :: is, x :: xs => setAll (env.set i (some (.d x))) is xs
  | _, _ => none
def bindTg (env : Env) : Tg → D → Option Env
  | .name i, x => some (env.set i (some (.d x)))
  | .tup is, .tuple xs => setAll env is xs
  | .tup _, _ => none
def wipeE (env : Env) : List Nat → Env
  | [] => env
  | v :: vs => (wipeE env vs).set v none
def rangeD (lo : Int) : Nat → List D
  | 0 => []
  | n + 1 => .int lo :: rangeD (lo + 1) n
def in62 (i : Int) : Bool := decide (-(2 ^ 62) ≤ i) && decide (i < 2 ^ 62)
def rng3D (lo c : Int) : Nat → List D
  | 0 => []
  | n + 1 => .int lo :: rng3D (lo + c) c n
def zipD : List D → List D → List D
  | x :: xs, y :: ys => .tuple [x, y] :: zipD xs ys
  | _, _ => []
def zipX : D → D → Option (List D)
  | .list xs, .list ys => some (zipD xs ys)
  | .tuple xs, .tuple ys => some (zipD xs ys)
  | _, _ => none
def lzD : D → D → Option D
  | .tuple xs, .tuple ys => some (.list (zipD xs ys))
  | _, _ => none
def zip3D : List D → List D → List D → List D
  | x :: xs, y :: ys, z :: zs => .tuple [x, y, z] :: zip3D xs ys zs
  | _, _, _ => []
def enuD (n : Int) : List D → List D
  | [] => []
  | x :: xs => .tuple [.int n, x] :: enuD (n + 1) xs
def dctOf : D → Option (List (D × D))
  | .dict kvs => some kvs
  | _ => none
mutual
/-- no list and no dict within -/
def flat : D → Bool
  | .list _ => false
  | .dict _ => false
  | .tuple xs => flats xs
  | .none => true
  | .bool _ => true
  | .int _ => true
  | .str _ => true
def flats : List D → Bool
  | [] => true
  | x :: xs => flat x && flats xs
end
def Vl.flat : Vl → Bool
  | .d x => Mx.flat x
  | _ => false
def Wo.flat : Wo → Bool
  | .cell xs => flats xs
  | .dct kvs => kvs.all fun p => Mx.flat p.1 && Mx.flat p.2
  | .ins _ _ => false

/-- a loop of a comprehension: each item gives at most one -/
def lcL (step : D → Wd → Res (Option D)) : List D → Wd → Res (List D)
  | [], w => .ok [] w
  | x :: xs, w => (step x w).bind fun o w => (lcL step xs w).bind fun r w => match o with
    | some y => .ok (y :: r) w
    | none => .ok r w
/-- each item gives a list -/
def lcLL (step : D → Wd → Res (List D)) : List D → Wd → Res (List D)
  | [], w => .ok [] w
  | x :: xs, w => (step x w).bind fun o w => (lcLL step xs w).bind fun r w => .ok (o ++ r) w
/-- keys by a call of their own -/
def keyL (call : D → Wd → Res Vl) : List D → Wd → Res (List (D × D))
  | [], w => .ok [] w
  | x :: xs, w => (call x w).bind fun k w => match k with
    | .d k => (keyL call xs w).bind fun r w => .ok ((k, x) :: r) w
    | _ => .stuck

structure Cfg where
  call : Nat → List Vl → Wd → Res Vl
  fuel : Nat

def datOf (v : Vl) (w : Wd) : Res D := ofO v.dat? w
def boolOf (v : Vl) (w : Wd) : Res Bool := match v with
  | .d (.bool b) => .ok b w
  | _ => .stuck
def intOf (v : Vl) (w : Wd) : Res Int := match v with
  | .d (.int i) => .ok i w
  | _ => .stuck
def fldOf (w : Wd) (i : Nat) (cl : Nat) (f : Str) : Option Vl := match w[i]? with
  | some (.ins cl' fs) => if cl' = cl then fs.lookup f else none
  | _ => none
def putFs (f : Str) (v : Vl) : List (Str × Vl) → List (Str × Vl)
  | [] => [(f, v)]
  | (g, x) :: r => if g = f then (g, v) :: r else (g, x) :: putFs f v r
def Res.dat (r : Res Vl) : Res D := r.bind datOf
def Res.tru (r : Res Vl) : Res Bool := r.bind boolOf
def Res.num (r : Res Vl) : Res Int := r.bind intOf

def oget (w : Wd) (o : Nat) : Option D := match w[o]? with
  | some (.cell xs) => some (.list xs)
  | some (.dct kvs) => some (.dict kvs)
  | _ => none
/-- an instance of the class, without a field of that name -/
def insAt (w : Wd) (v : Vl) (cl : Nat) (x : Str) : Option Nat := match v with
  | .ob i => (match w[i]? with
    | some (.ins cl' fs) => if cl' = cl && (fs.lookup x).isNone then some i else none
    | _ => none)
  | _ => none
mutual
def ev (c : Cfg) : E → Env → Wd → Res Vl
  | .slot i, env, w => match env[i]? with
    | some (some v) => .ok v w
    | _ => .stuck
  | .cst d, _, w => .ok (.d d) w
  | .glo _ d, _, w => .ok (.d d) w
  | .fn x, _, w => .ok (.fn x) w
  | .bin op a b, env, w => (ev c a env w).dat.bind fun x w => (ev c b env w).dat.bind fun y w => (ofO (binD op x y) w).bind fun z w => .ok (.d z) w
  | .neg a, env, w => (ev c a env w).dat.bind fun x w => match x with
    | .int i => .ok (.d (.int (-i))) w
    | _ => .stuck
  | .not a, env, w => (ev c a env w).tru.bind fun b w => .ok (.d (.bool (!b))) w
  | .and es, env, w => (evAnd c es env w).bind fun b w => .ok (.d (.bool b)) w
  | .or es, env, w => (evOr c es env w).bind fun b w => .ok (.d (.bool b)) w
  | .cmp op a b, env, w => match op with
    | .is => (ev c a env w).bind fun x w => .ok (.d (.bool x.isN)) w
    | .isnt => (ev c a env w).bind fun x w => .ok (.d (.bool (!x.isN))) w
    | op => (ev c a env w).dat.bind fun x w => (ev c b env w).dat.bind fun y w => (ofO (cmpG op x y) w).bind fun z w => .ok (.d z) w
  | .cmp2 op op' a b e, env, w => (ev c a env w).dat.bind fun x w => (ev c b env w).dat.bind fun y w => (ofO (cmpD op x y) w).bind fun r w =>
      if r then (ev c e env w).dat.bind fun z w => (ofO (cmpD op' y z) w).bind fun r w => .ok (.d (.bool r)) w else .ok (.d (.bool false)) w
  | .ite t a b, env, w => (ev c t env w).tru.bind fun x w => if x then ev c a env w else ev c b env w
  | .tup es, env, w => (evs c es env w).bind fun xs w => if fits xs.length then .ok (.d (.tuple xs)) w else .stuck
  | .lst es, env, w => (evs c es env w).bind fun xs w => if fits xs.length then .ok (.d (.list xs)) w else .stuck
  | .idx a i, env, w => (ev c a env w).dat.bind fun x w => (ev c i env w).dat.bind fun y w => (ofO (idxD x y) w).bind fun z w => .ok (.d z) w
  | .sli a lo hi, env, w => (ev c a env w).dat.bind fun x w => (evO c lo env w).bind fun l w => (evO c hi env w).bind fun h w => (ofO (sliD x l h) w).bind fun z w => .ok (.d z) w
  | .sl3 a k st, env, w => (ev c a env w).dat.bind fun x w => (ofO (sl3D x k st) w).bind fun z w => .ok (.d z) w
  | .call f es, env, w => (evA c es env w).bind fun xs w => c.call f xs w
  | .callB f es, env, w => (evA c es env w).bind fun xs w => (c.call f xs w).bind fun r w => if r.flat && w.all Wo.flat then .ok r w else .stuck
  | .callV i es, env, w => (evA c es env w).bind fun xs w => match env[i]? with
    | some (some (.fn f)) => c.call f xs w
    | _ => .stuck
  | .b1 b e, env, w => (ev c e env w).dat.bind fun x w => (ofO (b1D b x) w).bind fun z w => .ok (.d z) w
  | .bit b (.seq e), env, w => (ev c e env w).dat.bind fun x w => (ofO (bitD b x) w).bind fun z w => .ok (.d z) w
  | .bit .list (.zip a b), env, w => (ev c a env w).dat.bind fun x w => (ev c b env w).dat.bind fun y w => (ofO (lzD x y) w).bind fun z w => .ok (.d z) w
  | .bit b it, env, w => (evI c it env w).bind fun xs w => if fits xs.length then (ofO (bitD b (.list xs)) w).bind fun z w => .ok (.d z) w else .stuck
  | .srtK f it, env, w => (evI c it env w).bind fun xs w => (keyL (fun x w => c.call f [.d x] w) xs w).bind fun ks w =>
      if fits xs.length && sortable (ks.map (·.1)) then .ok (.d (.list (sortBy ks))) w else .stuck
  | .isi e t, env, w => (ev c e env w).dat.bind fun x w => .ok (.d (.bool (isiD x t))) w
  | .lc own tg it ifs elt, env, w => (evI c it env w).bind fun xs w => (lcL (fun x w => (ofO (bindTg (wipeE env own) tg x) w).bind fun env' w => (evT c ifs env' w).bind fun t w =>
      if t then (ev c elt env' w).dat.bind fun y w => .ok (some y) w else .ok none w) xs w).bind fun ys w => if fits ys.length then .ok (.d (.list ys)) w else .stuck
  | .lc2 own tg it tg2 it2 ifs elt, env, w => (evI c it env w).bind fun xs w => (lcLL (fun x w => (ofO (bindTg (wipeE env own) tg x) w).bind fun env' w => (evI c it2 env' w).bind fun xs2 w =>
      (lcL (fun x w => (ofO (bindTg (wipeE env' tg2.ix) tg2 x) w).bind fun env2 w => (evT c ifs env2 w).bind fun t w => if t then (ev c elt env2 w).dat.bind fun y w => .ok (some y) w else .ok none w) xs2 w)) xs w).bind fun ys w =>
        if fits ys.length then .ok (.d (.list ys)) w else .stuck
  | .dc own tg it k v, env, w => (evI c it env w).bind fun xs w => (lcL (fun x w => (ofO (bindTg (wipeE env own) tg x) w).bind fun env' w => (ev c k env' w).dat.bind fun kd w => (ev c v env' w).dat.bind fun vd w => .ok (some (.tuple [kd, vd])) w) xs w).bind fun ys w =>
      match pairsD ys with
      | some ps => if fits ys.length && keysOk [] ps then .ok (.d (.dict (dPutAll [] ps))) w else .stuck
      | none => .stuck
  | .dc2 own tg it tg2 it2 k v, env, w => (evI c it env w).bind fun xs w => (lcLL (fun x w => (ofO (bindTg (wipeE env own) tg x) w).bind fun env' w => (evI c it2 env' w).bind fun xs2 w =>
      (lcL (fun x w => (ofO (bindTg (wipeE env' tg2.ix) tg2 x) w).bind fun env2 w => (ev c k env2 w).dat.bind fun kd w => (ev c v env2 w).dat.bind fun vd w => .ok (some (.tuple [kd, vd])) w) xs2 w)) xs w).bind fun ys w =>
      match pairsD ys with
      | some ps => if fits ys.length && keysOk [] ps then .ok (.d (.dict (dPutAll [] ps))) w else .stuck
      | none => .stuck
  | .dct ks vs, env, w => (evs c ks env w).bind fun kz w => (evs c vs env w).bind fun vz w => if keysOk [] (kz.zip vz) && Nat.beq kz.length vz.length && Nat.ble kz.length 15 then .ok (.d (.dict (dPutAll [] (kz.zip vz)))) w else .stuck
  | .cnt a b, env, w => (ev c a env w).dat.bind fun x w => (ev c b env w).dat.bind fun y w => (ofO ((listD x).bind fun xs => cntG xs y) w).bind fun z w => .ok (.d z) w
  | .index a b, env, w => (ev c a env w).dat.bind fun x w => (ev c b env w).dat.bind fun y w => (ofO ((listD x).bind fun xs => idxG xs y) w).bind fun z w => .ok (.d z) w
  | .get a b e, env, w => (ev c a env w).dat.bind fun x w => (ev c b env w).dat.bind fun y w => (ev c e env w).dat.bind fun z w => match x with
    | .dict kvs => if keyFor kvs y then .ok (.d ((dGet kvs y).getD z)) w else .stuck
    | _ => .stuck
  | .oidx o i, env, w => (ev c o env w).bind fun x w => (ev c i env w).dat.bind fun y w => match x with
    | .ob j => (ofO ((oget w j).bind fun d => idxD d y) w).bind fun z w => .ok (.d z) w
    | _ => .stuck
  | .fld o cl f, env, w => (ev c o env w).bind fun x w => match x with
    | .ob i => ofO (fldOf w i cl f) w
    | _ => .stuck
  | .meth o cl m x es, env, w => (ev c o env w).bind fun v w => (ofO (insAt w v cl x) w).bind fun i w => (evA c es env w).bind fun xs w => c.call m (.ob i :: xs) w
  | .mk cl m es, env, w => (evA c es env w).bind fun xs w => (c.call m (.ob w.length :: xs) (w ++ [.ins cl []])).bind fun r w' => match r with
    | .d .none => .ok (.ob w.length) w'
    | _ => .stuck
  | .cell e, env, w => (ev c e env w).dat.bind fun x w => match x with
    | .list xs => if flats xs then .ok (.ob w.length) (w ++ [.cell xs]) else .stuck
    | _ => .stuck
  | .dcell e, env, w => (ev c e env w).dat.bind fun x w => match x with
    | .dict kvs => .ok (.ob w.length) (w ++ [.dct kvs])
    | _ => .stuck
  | .deq0 neg e, env, w => (ev c e env w).dat.bind fun x w => match x with
    | .dict kvs => .ok (.d (.bool (if neg then !kvs.isEmpty else kvs.isEmpty))) w
    | _ => .stuck
  | .rd o, env, w => (ev c o env w).bind fun x w => match x with
    | .ob i => (ofO (oget w i) w).bind fun z w => .ok (.d z) w
    | _ => .stuck
  | .stuck, _, _ => .stuck
def evAnd (c : Cfg) : Es → Env → Wd → Res Bool
  | .nil, _, _ => .stuck
  | .cons e .nil, env, w => (ev c e env w).tru
  | .cons e (.cons e2 r), env, w => (ev c e env w).tru.bind fun x w => if x then evAnd c (.cons e2 r) env w else .ok false w
def evOr (c : Cfg) : Es → Env → Wd → Res Bool
  | .nil, _, _ => .stuck
  | .cons e .nil, env, w => (ev c e env w).tru
  | .cons e (.cons e2 r), env, w => (ev c e env w).tru.bind fun x w => if x then .ok true w else evOr c (.cons e2 r) env w
def evs (c : Cfg) : Es → Env → Wd → Res (List D)
  | .nil, _, w => .ok [] w
  | .cons e r, env, w => (ev c e env w).dat.bind fun x w => (evs c r env w).bind fun xs w => .ok (x :: xs) w
def evA (c : Cfg) : Es → Env → Wd → Res (List Vl)
  | .nil, _, w => .ok [] w
  | .cons e r, env, w => (ev c e env w).bind fun v w => (evA c r env w).bind fun xs w => .ok (v :: xs) w
def evO (c : Cfg) : Eo → Env → Wd → Res (Option Int)
  | .none, _, w => .ok none w
  | .some e, env, w => (ev c e env w).num.bind fun i w => .ok (some i) w
def evT (c : Cfg) : Eo → Env → Wd → Res Bool
  | .none, _, w => .ok true w
  | .some e, env, w => (ev c e env w).tru
def evI (c : Cfg) : It → Env → Wd → Res (List D)
  | .seq e, env, w => (ev c e env w).dat.bind fun x w => match x with
    | .list xs => .ok xs w
    | .tuple xs => .ok xs w
    | .dict kvs => .ok (kvs.map (·.1)) w
    | _ => .stuck
  | .rng1 a, env, w => (ev c a env w).num.bind fun n w => if in62 n then .ok (rangeD 0 n.toNat) w else .stuck
  | .rng2 a b, env, w => (ev c a env w).num.bind fun m w => (ev c b env w).num.bind fun n w => if in62 m && in62 n then .ok (rangeD m (n - m).toNat) w else .stuck
  | .rng3 a b st, env, w => (ev c a env w).num.bind fun m w => (ev c b env w).num.bind fun n w => if in62 m && in62 n && decide (st = 2) then .ok (rng3D m st ((n - m + 1) / 2).toNat) w else .stuck
  | .zip a b, env, w => (ev c a env w).dat.bind fun x w => (ev c b env w).dat.bind fun y w => match zipX x y with
    | some zs => .ok zs w
    | none => .stuck
  | .zip3 a b e, env, w => (ev c a env w).dat.bind fun x w => (ev c b env w).dat.bind fun y w => (ev c e env w).dat.bind fun z w => match itemsD x, itemsD y, itemsD z with
    | some xs, some ys, some zs => .ok (zip3D xs ys zs) w
    | _, _, _ => .stuck
  | .enu e, env, w => (ev c e env w).dat.bind fun x w => (ofO (itemsD x) w).bind fun xs w => .ok (enuD 0 xs) w
  | .keys e, env, w => (ev c e env w).dat.bind fun x w => (ofO (dctOf x) w).bind fun kvs w => .ok (kvs.map (·.1)) w
  | .vals e, env, w => (ev c e env w).dat.bind fun x w => (ofO (dctOf x) w).bind fun kvs w => .ok (kvs.map (·.2)) w
  | .items e, env, w => (ev c e env w).dat.bind fun x w => (ofO (dctOf x) w).bind fun kvs w => .ok (kvs.map fun p => .tuple [p.1, p.2]) w
end
end Mx
namespace Mx
open PySem
/-! ### statements -/
inductive Fl where
  | nx (env : Env)
  | rt (v : Vl)
  | bk (env : Env)
  | ct (env : Env)
def forL (step : D → Env → Wd → Res Fl) : List D → Env → Wd → Res Fl
  | [], env, w => .ok (.nx env) w
  | x :: xs, env, w => (step x env w).bind fun fl w => match fl with
    | .nx env' => forL step xs env' w
    | .ct env' => forL step xs env' w
    | .bk env' => .ok (.nx env') w
    | .rt v => .ok (.rt v) w
def whlL (test : Env → Wd → Res Bool) (body : Env → Wd → Res Fl) : Nat → Env → Wd → Res Fl
  | 0, _, _ => .stuck
  | n + 1, env, w => (test env w).bind fun b w => if b then (body env w).bind fun fl w => match fl with
    | .nx env' => whlL test body n env' w
    | .ct env' => whlL test body n env' w
    | .bk env' => .ok (.nx env') w
    | .rt v => .ok (.rt v) w
    else .ok (.nx env) w
def putIn : D → D → D → Option D
  | .list xs, .int i, v => (L2.ixN xs.length i).map fun j => .list (xs.set j v)
  | .dict kvs, k, v => if keyFor kvs k && fits (kvs.length + 1) then some (.dict (dPut kvs k v)) else none
  | _, _, _ => none
def appIn : D → D → Option D
  | .list xs, x => if fits (xs.length + 1) then some (.list (xs ++ [x])) else none
  | _, _ => none
def extIn : D → D → Option D
  | .list xs, .list ys => if fits (xs.length + ys.length) then some (.list (xs ++ ys)) else none
  | _, _ => none
def popIn : D → D → Option D
  | .dict kvs, k => if keyFor kvs k && dHas kvs k && fits kvs.length then some (.dict (dDel kvs k)) else none
  | _, _ => none
def updIn : D → D → Option D
  | .dict kvs, .dict more => if keysOk kvs more && fits (kvs.length + more.length) then some (.dict (dPutAll kvs more)) else none
  | _, _ => none
def slotD (env : Env) (i : Nat) : Option D := match env[i]? with
  | some (some (.d x)) => some x
  | _ => none
def oputW (w : Wd) (o : Nat) (k v : D) : Option Wd := match w[o]? with
  | some (.cell xs) => (match k with
    | .int i => if flat v then (L2.ixN xs.length i).map fun j => w.set o (.cell (xs.set j v)) else none
    | _ => none)
  | some (.dct kvs) => if keyFor kvs k && fits (kvs.length + 1) then some (w.set o (.dct (dPut kvs k v))) else none
  | _ => none
def oappW (w : Wd) (o : Nat) (v : D) : Option Wd := match w[o]? with
  | some (.cell xs) => if flat v && fits (xs.length + 1) then some (w.set o (.cell (xs ++ [v]))) else none
  | _ => none
def cellAt (w : Wd) : Vl → Option Nat
  | .ob j => (match w[j]? with
    | some (.cell _) => some j
    | _ => none)
  | _ => none
def fsetW (w : Wd) (o : Nat) (cl : Nat) (f : Str) (v : Vl) : Option Wd := match w[o]? with
  | some (.ins c fs) => if c = cl && Nat.blt fs.length 1000 then some (w.set o (.ins c (putFs f v fs))) else none
  | _ => none
mutual
def ex (c : Cfg) : S → Env → Wd → Res Fl
  | .asg i e, env, w => (ev c e env w).bind fun v w => .ok (.nx (env.set i (some v))) w
  | .asgT is e, env, w => (ev c e env w).dat.bind fun x w => (ofO (bindTg env (.tup is) x) w).bind fun env' w => .ok (.nx env') w
  | .par i j a b, env, w => (ev c a env w).bind fun x w => (ev c b env w).bind fun y w => .ok (.nx ((env.set i (some x)).set j (some y))) w
  | .mv i j, env, w => match env[j]? with
    | some (some v) => .ok (.nx ((env.set j none).set i (some v))) w
    | _ => .stuck
  | .app i e, env, w => (ev c e env w).dat.bind fun x w => (ofO ((slotD env i).bind fun l => appIn l x) w).bind fun l w => .ok (.nx (env.set i (some (.d l)))) w
  | .appMv i j, env, w => (ofO ((slotD env j).bind fun x => (slotD env i).bind fun l => appIn l x) w).bind fun l w => .ok (.nx ((env.set j none).set i (some (.d l)))) w
  | .ext i e, env, w => (ev c e env w).dat.bind fun x w => (ofO ((slotD env i).bind fun l => extIn l x) w).bind fun l w => .ok (.nx (env.set i (some (.d l)))) w
  | .put i k v, env, w => (ev c v env w).dat.bind fun x w => (ev c k env w).dat.bind fun y w => (ofO ((slotD env i).bind fun l => putIn l y x) w).bind fun l w => .ok (.nx (env.set i (some (.d l)))) w
  | .popK i k, env, w => (ev c k env w).dat.bind fun y w => (ofO ((slotD env i).bind fun l => popIn l y) w).bind fun l w => .ok (.nx (env.set i (some (.d l)))) w
  | .upd i e, env, w => (ev c e env w).dat.bind fun x w => (ofO ((slotD env i).bind fun l => updIn l x) w).bind fun l w => .ok (.nx (env.set i (some (.d l)))) w
  | .oput o k v, env, w => (ev c v env w).dat.bind fun x w => (ev c o env w).bind fun ov w => (ev c k env w).dat.bind fun y w => match ov with
    | .ob o => (ofO (oputW w o y x) w).bind fun w' _ => .ok (.nx env) w'
    | _ => .stuck
  | .oapp o e, env, w => (ev c o env w).bind fun ov w => (ofO (cellAt w ov) w).bind fun j w => (ev c e env w).dat.bind fun x w => (ofO (oappW w j x) w).bind fun w' _ => .ok (.nx env) w'
  | .fset i cl f e, env, w => (ev c e env w).bind fun x w => match env[i]? with
    | some (some (.ob o)) => (ofO (fsetW w o cl f x) w).bind fun w' _ => .ok (.nx env) w'
    | _ => .stuck
  | .aug i op e, env, w => (ofO (slotD env i) w).bind fun x w => (ev c e env w).dat.bind fun y w => (ofO (augD op x y) w).bind fun z w => .ok (.nx (env.set i (some (.d z)))) w
  | .expr e, env, w => (ev c e env w).bind fun _ w => .ok (.nx env) w
  | .ret e, env, w => (ev c e env w).bind fun v w => .ok (.rt v) w
  | .retN, _, w => .ok (.rt (.d .none)) w
  | .ite t a b, env, w => (ev c t env w).tru.bind fun x w => if x then exs c a env w else exs c b env w
  | .for_ tg it b, env, w => (evI c it env w).bind fun xs w => forL (fun x env w => (ofO (bindTg env tg x) w).bind fun env' w => exs c b env' w) xs env w
  | .while_ t b, env, w => whlL (fun env w => (ev c t env w).tru) (fun env w => exs c b env w) c.fuel env w
  | .raise cl es, env, w => (evs c es env w).bind fun xs w => .exc cl xs w
  | .cont, env, w => .ok (.ct env) w
  | .brk, env, w => .ok (.bk env) w
  | .pass, env, w => .ok (.nx env) w
  | .stuck, _, _ => .stuck
def exs (c : Cfg) : Ss → Env → Wd → Res Fl
  | .nil, env, w => .ok (.nx env) w
  | .cons s r, env, w => (ex c s env w).bind fun fl w => match fl with
    | .nx env' => exs c r env' w
    | fl => .ok fl w
end
/-- a def: its parameters, its names by slot, the slots whose lists and dicts it changes, its body -/
structure Df where
  ps : List Str
  N : List Str
  mo : List Nat
  body : Ss
def startE (N : List Str) (vs : List Vl) : Env := vs.map some ++ List.replicate (N.length - vs.length) none
abbrev Tbl := List (Nat × Df)
def closedV (n : Nat) : Vl → Bool
  | .ob i => Nat.blt i n
  | _ => true
def closedO (n : Nat) : Wo → Bool
  | .ins _ fs => fs.all fun p => closedV n p.2
  | _ => true
/-- what a call made is forgotten, if nobody can reach it -/
def trim (n : Nat) (v : Vl) (w : Wd) : Wd := if Nat.beq w.length n then w else match v with
  | .d _ => if (w.take n).all (closedO n) then w.take n else w
  | _ => w
theorem trim_self (v : Vl) (w : Wd) : trim w.length v w = w := by
  unfold trim
  rw [Nat.beq_refl, if_pos rfl]
def callN (tb : Tbl) (F : Nat) : Nat → Nat → List Vl → Wd → Res Vl
  | 0, _, _, _ => .stuck
  | n + 1, f, vs, w0 => match tb.lookup f with
    | some d => if Nat.beq vs.length d.ps.length then (exs ⟨callN tb F n, F⟩ d.body (startE d.N vs) w0).bind fun fl w => match fl with
      | .rt v => .ok v (trim w0.length v w)
      | .nx _ => .ok (.d .none) (trim w0.length (.d .none) w)
      | _ => .stuck
      else .stuck
    | none => .stuck
theorem t_ev_tup (c : Cfg) (es : Es) (env : Env) (w : Wd) : ev c (.tup es) env w = (evs c es env w).bind fun xs w => if fits xs.length then .ok (.d (.tuple xs)) w else .stuck := rfl
example : (match ev ⟨fun _ _ _ => .stuck, 0⟩ (.bit .sorted (.seq (.cst (.list [.int 3, .int 1, .int 2])))) [] [] with | .ok (.d x) _ => PyData.eqv x (.list [.int 1, .int 2, .int 3]) | _ => false) = true := by decide +kernel
end Mx

set_option Elab.async false
set_option linter.all false
set_option maxRecDepth 100000
/-! Mx2: data that stand in the abstract heap. -/
namespace Mx
open PySem PySem.Spec L2

structure Cn where
  P : Program
  w : World
  K : PySem.W.Frag
  mg : Str → Option Value
  nm : Nat → Str

/-- a list that nobody changes: the script -/
def FrzL (K : PySem.W.Frag) (H : Hp) (a : Addr) (xs : List V) : Prop :=
  (∃ o, H a = some (.frz o (.lst xs))) ∨
    ∃ (o : Obj) (its : Array Value) (n : Nat), K.lookup a = some o ∧ o.cls = .type "list" ∧ o.dict = none ∧ o.data = .seq its n ∧ its.size ≤ sizeLine ∧ Vals xs its.toList
theorem FrzL.sq {K : PySem.W.Frag} {H : Hp} {a : Addr} {xs : List V} (h : FrzL K H a xs) : SqL K H a xs := by
  rcases h with ⟨o, h⟩ | h
  · exact .inl (.inr ⟨o, h⟩)
  · exact .inr h

/-- a tuple that has no dict of its own -/
def TupP (K : PySem.W.Frag) (H : Hp) (a : Addr) (xs : List V) : Prop :=
  (∃ o, H a = some (.frz o (.tup xs)) ∧ o.dict = none) ∨
    ∃ (o : Obj) (its : Array Value) (n : Nat), K.lookup a = some o ∧ o.cls = .type "tuple" ∧ o.dict = none ∧ o.data = .seq its n ∧ its.size ≤ sizeLine ∧ Vals xs its.toList
theorem TupP.sq {K : PySem.W.Frag} {H : Hp} {a : Addr} {xs : List V} (h : TupP K H a xs) : SqT K H a xs := by
  rcases h with ⟨o, h, _⟩ | ⟨o, its, n, h1, h2, _, h3, h4, h5⟩
  · exact .inl (.inr ⟨o, h⟩)
  · exact .inr ⟨o, its, n, h1, h2, h3, h4, h5⟩
/-- a dict by its raw entries -/
def dRaw (a : Addr) (L : List DictEntry) (ep : Nat) : HO := .ext fun h => (a == sysModules) = false ∧ L.length ≤ sizeLine ∧ ∃ o es, h.get? a = some o ∧ o.ExactDict ∧ o.data = .dict es ep ∧ es.toList = L

mutual
/-- the key that a datum is -/
def nk : D → NestedKey
  | .none => .none
  | .bool b => .num (if b then 1 else 0)
  | .int i => .num i
  | .str x => .text x
  | .tuple xs => .tup (nks xs)
  | .list _ => .none
  | .dict _ => .none
def nks : List D → List NestedKey
  | [] => []
  | x :: xs => nk x :: nks xs
end

/-- the keys of a dict: all different -/
def KOk (kvs : List (D × D)) : Prop := (kvs.map fun p => nk p.1).Nodup ∧ ∀ p ∈ kvs, isTupKey p.1 = true
mutual
/-- the value stands for the datum; the lists and dicts of it avoid A -/
inductive Rep (c : Cn) (H : Hp) (A : Addr → Prop) : V → D → Prop
  | non : Rep c H A .non .none
  | bl (b : Bool) : Rep c H A (.bl b) (.bool b)
  | int (i : Int) : Rep c H A (.int i) (.int i)
  | str (x : Str) : Rep c H A (.str x) (.str x)
  | lst {a : Addr} {xs : List V} {ds : List D} : H a = some (.lst xs) → ¬ A a → Reps c H A xs ds → Rep c H A (.ref a) (.list ds)
  | flst {a : Addr} {xs : List V} {ds : List D} : FrzL c.K H a xs → Reps c H A xs ds → Rep c H A (.ref a) (.list ds)
  | tup {a : Addr} {xs : List V} {ds : List D} : TupP c.K H a xs → Reps c H A xs ds → Rep c H A (.ref a) (.tuple ds)
  | dct {a : Addr} {L : List DictEntry} {ep : Nat} {kvs : List (D × D)} : H a = some (dRaw a L ep) → ¬ A a → KOk kvs → Ents c H A L kvs → Rep c H A (.ref a) (.dict kvs)
inductive Reps (c : Cn) (H : Hp) (A : Addr → Prop) : List V → List D → Prop
  | nil : Reps c H A [] []
  | cons {v : V} {vs : List V} {d : D} {ds : List D} : Rep c H A v d → Reps c H A vs ds → Reps c H A (v :: vs) (d :: ds)
/-- entries of a dict -/
inductive Ents (c : Cn) (H : Hp) (A : Addr → Prop) : List DictEntry → List (D × D) → Prop
  | nil : Ents c H A [] []
  | tk {ka : Addr} {u : Value} {v : V} {k d : D} {L : List DictEntry} {kvs : List (D × D)} : Rep c H A (.ref ka) k → isTupKey k = true → RelV v u → Rep c H A v d → Ents c H A L kvs →
      Ents c H A (⟨(nk k).hash c.w, .ref ka, u⟩ :: L) ((k, d) :: kvs)
end

/-- what must be kept of the heap -/
structure Kp (K : PySem.W.Frag) (A A' : Addr → Prop) (H H' : Hp) : Prop where
  lst : ∀ b o, ¬ A b → H b = some o → H' b = some o ∧ ¬ A' b
  tup : ∀ b xs, TupP K H b xs → TupP K H' b xs
  frz : ∀ b xs, FrzL K H b xs → FrzL K H' b xs
section
variable {c : Cn} {H H' : Hp} {A A' : Addr → Prop}
mutual
theorem Rep.keep (k : Kp c.K A A' H H') : ∀ {v : V} {d : D}, Rep c H A v d → Rep c H' A' v d
  | _, _, .non => .non
  | _, _, .bl b => .bl b
  | _, _, .int i => .int i
  | _, _, .str x => .str x
  | _, _, .lst h a r => .lst (k.lst _ _ a h).1 (k.lst _ _ a h).2 (Reps.keep k r)
  | _, _, .flst h r => .flst (k.frz _ _ h) (Reps.keep k r)
  | _, _, .tup h r => .tup (k.tup _ _ h) (Reps.keep k r)
  | _, _, .dct h a z r => .dct (k.lst _ _ a h).1 (k.lst _ _ a h).2 z (Ents.keep k r)
theorem Reps.keep (k : Kp c.K A A' H H') : ∀ {vs : List V} {ds : List D}, Reps c H A vs ds → Reps c H' A' vs ds
  | _, _, .nil => .nil
  | _, _, .cons h r => .cons (Rep.keep k h) (Reps.keep k r)
theorem Ents.keep (k : Kp c.K A A' H H') : ∀ {L : List DictEntry} {kvs : List (D × D)}, Ents c H A L kvs → Ents c H' A' L kvs
  | _, _, .nil => .nil
  | _, _, .tk h1 h2 h3 h4 r => .tk (Rep.keep k h1) h2 h3 (Rep.keep k h4) (Ents.keep k r)
end
theorem Reps.length : ∀ {vs : List V} {ds : List D}, Reps c H A vs ds → vs.length = ds.length
  | _, _, .nil => rfl
  | _, _, .cons _ r => by rw [List.length_cons, List.length_cons, Reps.length r]
theorem Reps.append : ∀ {vs ws : List V} {ds es : List D}, Reps c H A vs ds → Reps c H A ws es → Reps c H A (vs ++ ws) (ds ++ es)
  | _, _, _, _, .nil, s => s
  | _, _, _, _, .cons h r, s => .cons h (Reps.append r s)
theorem Reps.take : ∀ {vs : List V} {ds : List D} (n : Nat), Reps c H A vs ds → Reps c H A (vs.take n) (ds.take n)
  | _, _, 0, _ => by rw [List.take_zero, List.take_zero]; exact .nil
  | _, _, n + 1, .nil => .nil
  | _, _, n + 1, .cons h r => .cons h (Reps.take n r)
theorem Reps.drop : ∀ {vs : List V} {ds : List D} (n : Nat), Reps c H A vs ds → Reps c H A (vs.drop n) (ds.drop n)
  | _, _, 0, r => r
  | _, _, n + 1, .nil => .nil
  | _, _, n + 1, .cons h r => Reps.drop n r
theorem Reps.get : ∀ {vs : List V} {ds : List D} {i : Nat} {d : D}, Reps c H A vs ds → ds[i]? = some d → ∃ v, vs[i]? = some v ∧ Rep c H A v d
  | _, _, _, _, .nil, e => by simp at e
  | _, _, 0, _, .cons h r, e => by simp at e; subst e; exact ⟨_, rfl, h⟩
  | _, _, i + 1, d, .cons h r, e => by
    obtain ⟨v, h1, h2⟩ := Reps.get (i := i) (d := d) r (by simpa using e)
    exact ⟨v, by simpa using h1, h2⟩
theorem Reps.getV : ∀ {vs : List V} {ds : List D} {i : Nat} {v : V}, Reps c H A vs ds → vs[i]? = some v → ∃ d, ds[i]? = some d ∧ Rep c H A v d
  | _, _, _, _, .nil, e => by simp at e
  | _, _, 0, _, .cons h r, e => by simp at e; subst e; exact ⟨_, rfl, h⟩
  | _, _, i + 1, v, .cons h r, e => by
    obtain ⟨d, h1, h2⟩ := Reps.getV (i := i) (v := v) r (by simpa using e)
    exact ⟨d, by simpa using h1, h2⟩
theorem Reps.set {v : V} {d : D} (h : Rep c H A v d) : ∀ {vs : List V} {ds : List D} (i : Nat), Reps c H A vs ds → Reps c H A (vs.set i v) (ds.set i d)
  | _, _, _, .nil => .nil
  | _, _, 0, .cons _ r => .cons h r
  | _, _, i + 1, .cons q r => .cons q (Reps.set h i r)
theorem Reps.reverse : ∀ {vs : List V} {ds : List D}, Reps c H A vs ds → Reps c H A vs.reverse ds.reverse
  | _, _, .nil => .nil
  | _, _, .cons h r => by rw [List.reverse_cons, List.reverse_cons]; exact Reps.append (Reps.reverse r) (.cons h .nil)
theorem Reps.rep {vs : List V} {ds : List D} (h : Reps c H A vs ds) : ∀ k : Nat, Reps c H A (List.replicate k vs).flatten (List.replicate k ds).flatten
  | 0 => .nil
  | k + 1 => by
    rw [List.replicate_succ, List.replicate_succ, List.flatten_cons, List.flatten_cons]
    exact Reps.append h (Reps.rep h k)
theorem Reps.nil_iff {vs : List V} {ds : List D} (r : Reps c H A vs ds) : vs = [] ↔ ds = [] := by
  cases r with
  | nil => simp
  | cons _ _ => simp
theorem Reps.cut {vs : List V} {ds : List D} (r : Reps c H A vs ds) (lo hi : Option Int) : Reps c H A (cutV vs lo hi) (Mx.cut ds lo hi) := by
  unfold cutV Mx.cut
  rw [r.length]
  exact (r.drop _).take _
end

/-! ### what a step of an expression does to the heap: the world's objects at m may turn, new ones come -/
structure Fr (K : PySem.W.Frag) (m m' : List Addr) (H H' : Hp) : Prop where
  pre : ∃ r, m' = m ++ r
  new : ∀ b ∈ m', b ∈ m ∨ H b = none
  ext : ∀ b o, H b = some o → b ∉ m → H' b = some o
  tup : ∀ b xs, TupP K H b xs → TupP K H' b xs
  frz : ∀ b xs, FrzL K H b xs → FrzL K H' b xs
section
variable {K : PySem.W.Frag} {m m1 m2 : List Addr} {H H1 H2 : Hp}
theorem Fr.refl : Fr K m m H H := ⟨⟨[], by simp⟩, fun _ h => .inl h, fun _ _ h _ => h, fun _ _ h => h, fun _ _ h => h⟩
theorem Fr.trans (a : Fr K m m1 H H1) (b : Fr K m1 m2 H1 H2) : Fr K m m2 H H2 where
  pre := by
    obtain ⟨r, e⟩ := a.pre
    obtain ⟨r2, e2⟩ := b.pre
    exact ⟨r ++ r2, by rw [e2, e, List.append_assoc]⟩
  new := fun x hx => by
    rcases b.new x hx with h | h
    · exact a.new x h
    · by_cases hm : x ∈ m
      · exact .inl hm
      · refine .inr ?_
        cases q : H x with
        | none => rfl
        | some o => rw [a.ext x o q hm] at h; cases h
  ext := fun x o h hm => b.ext x o (a.ext x o h hm) fun h1 => by
    rcases a.new x h1 with h2 | h2
    · exact hm h2
    · rw [h2] at h; cases h
  tup := fun x xs h => b.tup x xs (a.tup x xs h)
  frz := fun x xs h => b.frz x xs (a.frz x xs h)
theorem Fr.mem (a : Fr K m m1 H H1) {b : Addr} (h : b ∈ m) : b ∈ m1 := by
  obtain ⟨r, e⟩ := a.pre
  rw [e]; exact List.mem_append_left _ h
theorem Fr.get (a : Fr K m m1 H H1) {i : Nat} {b : Addr} (h : m[i]? = some b) : m1[i]? = some b := by
  obtain ⟨r, e⟩ := a.pre
  rw [e, List.getElem?_append_left (List.getElem?_eq_some_iff.mp h).1]; exact h
/-- nothing but new objects -/
theorem Fr.upd {p : Addr} {o : HO} (hp : H p = none) : Fr K m m H (upd H p o) where
  pre := ⟨[], by simp⟩
  new := fun _ h => .inl h
  ext := fun b u h _ => by rw [upd_ne (ne_of_none h hp)]; exact h
  tup := fun b xs h => by
    rcases h with ⟨o, h, hd⟩ | h
    · exact .inl ⟨o, by rw [upd_ne (ne_of_none h hp)]; exact h, hd⟩
    · exact .inr h
  frz := fun b xs h => by
    rcases h with ⟨o, h⟩ | h
    · exact .inl ⟨o, by rw [upd_ne (ne_of_none h hp)]; exact h⟩
    · exact .inr h
end
end Mx

set_option Elab.async false
set_option linter.all false
set_option maxRecDepth 100000
/-! Mx3: the state that a frame bears; readings of expressions. -/
namespace Mx
open PySem PySem.Spec L2

def RepV (c : Cn) (H : Hp) (A : Addr → Prop) (m : List Addr) : Vl → V → Prop
  | .d x, v => Rep c H A v x
  | .ob i, v => ∃ a, m[i]? = some a ∧ v = .ref a
  | .fn f, v => ∃ fa, c.mg (c.nm f) = some (.ref fa) ∧ v = .ref fa
def isMut : D → Bool
  | .list _ => true
  | .dict _ => true
  | _ => false
/-- a list or dict that stands at a, its parts avoiding A -/
def Own (c : Cn) (H : Hp) (A : Addr → Prop) (a : Addr) : D → Prop
  | .list ds => ∃ vs, H a = some (.lst vs) ∧ Reps c H A vs ds
  | .dict kvs => ∃ L ep, H a = some (dRaw a L ep) ∧ KOk kvs ∧ Ents c H A L kvs
  | _ => False
/-- a value that is looked at: its own list or dict may be anybody's but the objects at m -/
inductive RepB (c : Cn) (H : Hp) (A : Addr → Prop) (m : List Addr) : V → D → Prop
  | of {v : V} {d : D} : Rep c H A v d → RepB c H A m v d
  | own {a : Addr} {d : D} : Own c H A a d → a ∉ m → RepB c H A m (.ref a) d
def Flds (c : Cn) (H : Hp) (A : Addr → Prop) (m : List Addr) : List (Str × V) → List (Str × Vl) → Prop := Paired fun p q => p.1 = q.1 ∧ RepV c H A m q.2 p.2
def Ob (c : Cn) (H : Hp) (A : Addr → Prop) (m : List Addr) (a : Addr) : Wo → Prop
  | .cell xs => flats xs = true ∧ Own c H A a (.list xs)
  | .dct kvs => Own c H A a (.dict kvs)
  | .ins cl fs => ∃ C dx gs, c.mg (c.nm cl) = some (.ref C) ∧ H a = some (.ins C dx gs) ∧ Flds c H A m gs fs
abbrev Ow := List (Nat × Addr)
def Av (own : Ow) (X : Addr → Prop) (m : List Addr) : Addr → Prop := fun b => b ∈ m ∨ (∃ i, (i, b) ∈ own) ∨ X b
/-- the world -/
structure WOk (c : Cn) (own : Ow) (X : Addr → Prop) (m : List Addr) (H : Hp) (w : Wd) : Prop where
  len : m.length = w.length
  nd : m.Nodup
  ob : ∀ (i : Nat) a o, m[i]? = some a → w[i]? = some o → Ob c H (Av own X m) m a o
  dis : ∀ b ∈ m, (∀ i, (i, b) ∉ own) ∧ ¬ X b
/-- the frame's slots -/
structure EOk (c : Cn) (mo : Nat → Bool) (own : Ow) (X : Addr → Prop) (m : List Addr) (H : Hp) (env : Env) (σ : St) : Prop where
  len : env.length = σ.length
  xd : ∀ b, X b → ∃ o, H b = some o
  ndA : (own.map (·.2)).Nodup
  ndI : (own.map (·.1)).Nodup
  hown : ∀ (i : Nat) a, (i, a) ∈ own → mo i = true ∧ ¬ X a ∧ ∃ d, env[i]? = some (some (.d d)) ∧ σ[i]? = some (some (.ref a)) ∧ Own c H (Av own X m) a d
  sh : ∀ (i : Nat) x, env[i]? = some (some x) → (∀ a, (i, a) ∉ own) → ∃ v, σ[i]? = some (some v) ∧ RepV c H (Av own X m) m x v
  hmut : ∀ (i : Nat) d, mo i = true → env[i]? = some (some (.d d)) → isMut d = true → ∃ a, (i, a) ∈ own

section
variable {c : Cn} {own : Ow} {X : Addr → Prop} {m m' : List Addr} {H H' : Hp} {w w' : Wd} {mo : Nat → Bool} {env : Env} {σ : St} {A A' : Addr → Prop}
theorem WOk.tracked (W : WOk c own X m H w) {b : Addr} (h : b ∈ m) : ∃ o, H b = some o := by
  obtain ⟨i, hi, e⟩ := List.mem_iff_getElem.mp h
  have e1 : m[i]? = some b := by rw [List.getElem?_eq_getElem hi, e]
  have hw : i < w.length := by rw [← W.len]; exact hi
  have q := W.ob i b _ e1 (List.getElem?_eq_getElem hw)
  cases z : w[i] with
  | cell xs => rw [z] at q; obtain ⟨_, vs, h, _⟩ := q; exact ⟨_, h⟩
  | dct kvs => rw [z] at q; obtain ⟨L, ep, h, _⟩ := q; exact ⟨_, h⟩
  | ins cl fs => rw [z] at q; obtain ⟨C, dx, gs, _, h, _⟩ := q; exact ⟨_, h⟩
theorem Own.tracked {a : Addr} {d : D} (h : Own c H A a d) : ∃ o, H a = some o := by
  cases d with
  | list ds => obtain ⟨vs, h, _⟩ := h; exact ⟨_, h⟩
  | dict kvs => obtain ⟨L, ep, h, _⟩ := h; exact ⟨_, h⟩
  | _ => exact h.elim
theorem Own.keep (k : Kp c.K A A' H H') {a : Addr} {d : D} (ha : ∀ o, H a = some o → H' a = some o) (h : Own c H A a d) : Own c H' A' a d := by
  cases d with
  | list ds => obtain ⟨vs, h, r⟩ := h; exact ⟨vs, ha _ h, r.keep k⟩
  | dict kvs => obtain ⟨L, ep, h, z, r⟩ := h; exact ⟨L, ep, ha _ h, z, r.keep k⟩
  | _ => exact h.elim
/-- what a step keeps of shared data -/
theorem Fr.kp (f : Fr c.K m m' H H') (hm : ∀ b ∈ m', ∀ o, H b = some o → b ∈ m) : Kp c.K (Av own X m) (Av own X m') H H' where
  lst := fun b o hb h => by
    have h1 : b ∉ m := fun z => hb (.inl z)
    refine ⟨f.ext b o h h1, fun z => hb ?_⟩
    rcases z with z | z
    · exact .inl (hm b z o h)
    · exact .inr z
  tup := f.tup
  frz := f.frz
theorem Fr.kp' (f : Fr c.K m m' H H') : Kp c.K (Av own X m) (Av own X m') H H' := f.kp fun b hb o h => by
  rcases f.new b hb with z | z
  · exact z
  · rw [z] at h; cases h
theorem RepV.keep (f : Fr c.K m m' H H') {x : Vl} {v : V} (k : Kp c.K A A' H H') (h : RepV c H A m x v) : RepV c H' A' m' x v := by
  cases x with
  | d y => exact Rep.keep k h
  | ob i => obtain ⟨a, e, r⟩ := h; exact ⟨a, f.get e, r⟩
  | fn g => exact h
theorem RepB.keep (f : Fr c.K m m' H H') {v : V} {d : D} (h : RepB c H (Av own X m) m v d) : RepB c H' (Av own X m') m' v d := by
  cases h with
  | of h => exact .of (h.keep f.kp')
  | own h hn =>
    obtain ⟨o, e⟩ := h.tracked
    refine .own (h.keep f.kp' fun o e => f.ext _ o e hn) fun z => ?_
    rcases f.new _ z with z | z
    · exact hn z
    · rw [z] at e; cases e
theorem RepB.all {v : V} {d : D} (h : RepB c H A m v d) : RepB c H A [] v d := by
  cases h with
  | of h => exact .of h
  | own h hn => exact .own h (by simp)
theorem EOk.step (E : EOk c mo own X m H env σ) (f : Fr c.K m m' H H') (W : WOk c own X m H w) : EOk c mo own X m' H' env σ where
  len := E.len
  xd := fun b hb => by
    obtain ⟨o, h⟩ := E.xd b hb
    exact ⟨o, f.ext b o h fun z => (W.dis b z).2 hb⟩
  ndA := E.ndA
  ndI := E.ndI
  hown := fun i a h => by
    obtain ⟨h1, h2, d, e1, e2, q⟩ := E.hown i a h
    exact ⟨h1, h2, d, e1, e2, q.keep f.kp' fun o e => f.ext a o e fun z => (W.dis a z).1 i h⟩
  sh := fun i x e h => by
    obtain ⟨v, e2, r⟩ := E.sh i x e h
    exact ⟨v, e2, r.keep f f.kp'⟩
  hmut := E.hmut
end

/-- how a result may be used: looked at at once, looked at, kept, owned -/
inductive Mode where | peek | look | keep | fresh
/-- a result that is data; H: the heap ahead of it -/
def RepD (c : Cn) (md : Mode) (H H' : Hp) (A : Addr → Prop) (m' : List Addr) (v : V) (d : D) : Prop :=
  match md with
  | .peek => RepB c H' A [] v d
  | .look => RepB c H' A m' v d
  | .keep => Rep c H' A v d
  | .fresh => (isMut d = false ∧ Rep c H' A v d) ∨ ∃ a, v = .ref a ∧ H a = none ∧ ¬ A a ∧ Own c H' (fun b => A b ∨ b = a) a d
/-- the avoided, and one more -/
def Plus (Xv : Addr → Prop) (p : Addr) : Addr → Prop := fun b => Xv b ∨ b = p
def Mode.isFresh : Mode → Bool
  | .fresh => true
  | _ => false
/-- the world knows nothing of a new list or dict -/
def FW (c : Cn) (own : Ow) (X : Addr → Prop) (md : Mode) (m' : List Addr) (H' : Hp) (w' : Wd) (d : D) (v : V) : Prop := md.isFresh = true → isMut d = true → ∀ a, v = .ref a → WOk c own (Plus X a) m' H' w'
def RepM (c : Cn) (own : Ow) (X : Addr → Prop) (md : Mode) (H : Hp) (m' : List Addr) (H' : Hp) (w' : Wd) (x : Vl) (v : V) : Prop :=
  match x with
  | .d d => RepD c md H H' (Av own X m') m' v d ∧ FW c own X md m' H' w' d v
  | x => RepV c H' (Av own X m') m' x v
theorem FW.non {c : Cn} {own : Ow} {X : Addr → Prop} {md : Mode} {m' : List Addr} {H' : Hp} {w' : Wd} {d : D} {v : V} (h : isMut d = false) : FW c own X md m' H' w' d v := fun _ z => by rw [h] at z; cases z
/-- md' serves where md is asked -/
def Mode.le : Mode → Mode → Bool
  | .peek, _ => true
  | .look, .peek => false
  | .look, _ => true
  | .keep, .keep => true
  | .keep, .fresh => true
  | .fresh, .fresh => true
  | _, _ => false
section
variable {c : Cn} {H H' : Hp} {A : Addr → Prop} {m : List Addr}
theorem Kp.less {K : PySem.W.Frag} {A B : Addr → Prop} {H : Hp} (h : ∀ b, ¬ A b → ¬ B b) : Kp K A B H H := ⟨fun b o ha e => ⟨e, h b ha⟩, fun _ _ e => e, fun _ _ e => e⟩
theorem RepD.fresh_keep {v : V} {d : D} (h : RepD c .fresh H H' A m v d) : Rep c H' A v d := by
  rcases h with ⟨_, h⟩ | ⟨a, rfl, h1, h2, h3⟩
  · exact h
  · have k : Kp c.K (fun b => A b ∨ b = a) A H' H' := .less fun b hb z => hb (.inl z)
    cases d with
    | list ds => obtain ⟨vs, e, r⟩ := h3; exact .lst e h2 (r.keep k)
    | dict kvs => obtain ⟨L, ep, e, z, r⟩ := h3; exact .dct e h2 z (r.keep k)
    | _ => exact h3.elim
theorem RepD.le {md md' : Mode} {v : V} {d : D} (l : md.le md' = true) (h : RepD c md' H H' A m v d) : RepD c md H H' A m v d := by
  cases md with
  | peek => cases md' with
    | peek => exact h
    | look => exact RepB.all (m := m) h
    | keep => exact .of h
    | fresh => exact .of (RepD.fresh_keep h)
  | look => cases md' with
    | peek => cases l
    | look => exact h
    | keep => exact .of h
    | fresh => exact .of (RepD.fresh_keep h)
  | keep => cases md' with
    | keep => exact h
    | fresh => exact RepD.fresh_keep h
    | _ => cases l
  | fresh => cases md' with
    | fresh => exact h
    | _ => cases l
end
theorem FW.low {c : Cn} {own : Ow} {X : Addr → Prop} {md : Mode} {m' : List Addr} {H' : Hp} {w' : Wd} {d : D} {v : V} (h : md.le .keep = true) : FW c own X md m' H' w' d v := fun z => by cases md <;> first | (cases z; done) | (cases h; done)
/-- it ends well, and so -/
def Res.sat {α : Type} (r : Res α) (P : α → Wd → Prop) : Prop := match r with
  | .ok a w => P a w
  | _ => False
theorem sat_bind {α β : Type} {r : Res α} {f : α → Wd → Res β} {P : β → Wd → Prop} : (r.bind f).sat P ↔ r.sat fun a w => (f a w).sat P := by
  cases r <;> exact Iff.rfl
theorem sat_ofO {α : Type} {o : Option α} {w : Wd} {P : α → Wd → Prop} : (ofO o w).sat P ↔ ∃ a, o = some a ∧ P a w := by
  cases o with
  | none => exact ⟨fun h => h.elim, fun ⟨_, e, _⟩ => nomatch e⟩
  | some a => exact ⟨fun h => ⟨a, rfl, h⟩, fun ⟨_, e, h⟩ => by cases e; exact h⟩
theorem sat_dat {r : Res Vl} {P : D → Wd → Prop} : r.dat.sat P ↔ r.sat fun v w => ∃ x, v = .d x ∧ P x w := by
  cases r with
  | ok v w => cases v with
    | d x => exact ⟨fun h => ⟨x, rfl, h⟩, fun ⟨_, e, h⟩ => by cases e; exact h⟩
    | ob i => exact ⟨fun h => h.elim, fun ⟨_, e, _⟩ => nomatch e⟩
    | fn f => exact ⟨fun h => h.elim, fun ⟨_, e, _⟩ => nomatch e⟩
  | exc c x w => exact Iff.rfl
  | stuck => exact Iff.rfl
theorem sat_tru {r : Res Vl} {P : Bool → Wd → Prop} : r.tru.sat P ↔ r.sat fun v w => ∃ x, v = .d (.bool x) ∧ P x w := by
  cases r with
  | ok v w => cases v with
    | d x => cases x with
      | bool b => exact ⟨fun h => ⟨b, rfl, h⟩, fun ⟨_, e, h⟩ => by cases e; exact h⟩
      | _ => exact ⟨fun h => h.elim, fun ⟨_, e, _⟩ => nomatch e⟩
    | ob i => exact ⟨fun h => h.elim, fun ⟨_, e, _⟩ => nomatch e⟩
    | fn f => exact ⟨fun h => h.elim, fun ⟨_, e, _⟩ => nomatch e⟩
  | exc c x w => exact Iff.rfl
  | stuck => exact Iff.rfl
theorem sat_num {r : Res Vl} {P : Int → Wd → Prop} : r.num.sat P ↔ r.sat fun v w => ∃ x, v = .d (.int x) ∧ P x w := by
  cases r with
  | ok v w => cases v with
    | d x => cases x with
      | int b => exact ⟨fun h => ⟨b, rfl, h⟩, fun ⟨_, e, h⟩ => by cases e; exact h⟩
      | _ => exact ⟨fun h => h.elim, fun ⟨_, e, _⟩ => nomatch e⟩
    | ob i => exact ⟨fun h => h.elim, fun ⟨_, e, _⟩ => nomatch e⟩
    | fn f => exact ⟨fun h => h.elim, fun ⟨_, e, _⟩ => nomatch e⟩
  | exc c x w => exact Iff.rfl
  | stuck => exact Iff.rfl
theorem sat_mono {α : Type} {r : Res α} {P P' : α → Wd → Prop} (h : r.sat P) (i : ∀ a w, P a w → P' a w) : r.sat P' := by
  cases r with
  | ok a w => exact i a w h
  | exc c x w => exact h
  | stuck => exact h
/-- the reading of an expression -/
def tE (c : Cn) (cf : Cfg) (mo : Nat → Bool) (md : Mode) (e : E) : TE := fun σ H Q => ∃ (own : Ow) (X : Addr → Prop) (m : List Addr) (env : Env) (w : Wd), EOk c mo own X m H env σ ∧ WOk c own X m H w ∧
  (ev cf e env w).sat fun x w' => ∀ v m' H', Fr c.K m m' H H' → WOk c own X m' H' w' → RepM c own X md H m' H' w' x v → Q v H'

theorem PE_imp {X : Cx} {e : Expr} {t t' : TE} (h : PE X e t) (i : ∀ σ H Q, t' σ H Q → t σ H Q) : PE X e t' := ⟨fun pins s σ H Q I q => h.run pins s σ H Q I (i σ H Q q)⟩
theorem PT_imp {X : Cx} {e : Expr} {t t' : TT} (h : PT X e t) (i : ∀ σ H Q, t' σ H Q → t σ H Q) : PT X e t' := ⟨fun pins s σ H Q I q => h.run pins s σ H Q I (i σ H Q q)⟩
theorem PW_imp {X : Cx} {e : Expr} {t t' : TT} (h : PW X e t) (i : ∀ σ H Q, t' σ H Q → t σ H Q) : PW X e t' := ⟨fun wh pins s σ H Q I q => h.run wh pins s σ H Q I (i σ H Q q)⟩
theorem PA_imp {X : Cx} {es : List Expr} {t t' : TA} (h : PA X es t) (i : ∀ σ H Q, t' σ H Q → t σ H Q) : PA X es t' := ⟨fun pos pins s σ H Q I q => h.run pos pins s σ H Q I (i σ H Q q)⟩
theorem PS_imp {X : Cx} {st : Stmt} {t t' : TS} (h : PS X st t) (i : ∀ D σ H, t' D σ H → t D σ H) : PS X st t' := ⟨fun pins s σ H D I q => h.run pins s σ H D I (i D σ H q)⟩
theorem PSs_imp {X : Cx} {st : List Stmt} {t t' : TS} (h : PSs X st t) (i : ∀ D σ H, t' D σ H → t D σ H) : PSs X st t' := ⟨fun pins s σ H D I q => h.run pins s σ H D I (i D σ H q)⟩
theorem PI_imp {X : Cx} {tg it : Expr} {t t' : TI} (h : PI X tg it t) (i : ∀ σ H R, t' σ H R → t σ H R) : PI X tg it t' := ⟨fun pins s σ H R I q => h.run pins s σ H R I (i σ H R q)⟩
end Mx

set_option Elab.async false
set_option linter.all false
set_option maxRecDepth 100000
set_option maxHeartbeats 1000000
/-! Mx4: operations by values. -/
namespace Mx
open PySem PySem.Spec L2

def cn (X : Cx) (nm : Nat → Str) : Cn := ⟨X.prog, X.w, X.K, X.mg, nm⟩
def Dom (A : Addr → Prop) (H : Hp) : Prop := ∀ b, A b → ∃ o, H b = some o
/-- nothing, or one new object -/
inductive New (H : Hp) : Hp → Prop
  | same : New H H
  | one {p : Addr} {o : HO} : H p = none → New H (upd H p o)
section
variable {c : Cn} {H H' : Hp} {A : Addr → Prop} {m : List Addr} {own : Ow} {Xv : Addr → Prop} {w : Wd} {mo : Nat → Bool} {env : Env} {σ : L2.St}
theorem New.fr {K : PySem.W.Frag} (h : New H H') : Fr K m m H H' := by
  cases h with
  | same => exact Fr.refl
  | one hp => exact Fr.upd hp
theorem New.at (h : New H H') {b : Addr} {o : HO} (e : H b = some o) : H' b = some o := by
  cases h with
  | same => exact e
  | one hp => rw [upd_ne (ne_of_none e hp)]; exact e
theorem New.kp {K : PySem.W.Frag} (h : New H H') : Kp K A A H H' := ⟨fun b o ha e => ⟨h.at e, ha⟩, (h.fr (m := [])).tup, (h.fr (m := [])).frz⟩
theorem Flds.keep {A' : Addr → Prop} {m' : List Addr} (f : Fr c.K m m' H H') (k : Kp c.K A A' H H') {gs : List (Str × V)} {fs : List (Str × Vl)} (h : Flds c H A m gs fs) : Flds c H' A' m' gs fs := Paired.mapP h fun _ _ q => ⟨q.1, q.2.keep f k⟩
theorem Ob.keep {A' : Addr → Prop} {m' : List Addr} (f : Fr c.K m m' H H') (k : Kp c.K A A' H H') {a : Addr} (ha : ∀ o, H a = some o → H' a = some o) {o : Wo} (h : Ob c H A m a o) : Ob c H' A' m' a o := by
  cases o with
  | cell xs => exact ⟨h.1, h.2.keep k ha⟩
  | dct kvs => exact Own.keep (d := .dict kvs) k ha h
  | ins cl fs => obtain ⟨C, dx, gs, h1, h2, h3⟩ := h; exact ⟨C, dx, gs, h1, ha _ h2, h3.keep f k⟩
theorem WOk.new (W : WOk c own Xv m H w) (h : New H H') : WOk c own Xv m H' w := ⟨W.len, W.nd, fun i a o e1 e2 => (W.ob i a o e1 e2).keep h.fr h.kp fun _ e => h.at e, W.dis⟩
theorem av_plus {p b : Addr} : Av own (Plus Xv p) m b ↔ Av own Xv m b ∨ b = p := by
  unfold Av Plus
  constructor
  · rintro (h | h | h | h)
    · exact .inl (.inl h)
    · exact .inl (.inr (.inl h))
    · exact .inl (.inr (.inr h))
    · exact .inr h
  · rintro ((h | h | h) | h)
    · exact .inl h
    · exact .inr (.inl h)
    · exact .inr (.inr (.inl h))
    · exact .inr (.inr (.inr h))
/-- a world and a new object to be avoided -/
theorem WOk.plus {p : Addr} {o : HO} (W : WOk c own Xv m H w) (hp : H p = none) : WOk c own (Plus Xv p) m (L2.upd H p o) w where
  len := W.len
  nd := W.nd
  ob := fun i a u e1 e2 => (W.ob i a u e1 e2).keep (Fr.upd hp) ⟨fun b u ha e => ⟨(New.one hp).at e, fun z => (av_plus.mp z).elim ha (ne_of_none e hp)⟩, (Fr.upd (m := []) hp).tup, (Fr.upd (m := []) hp).frz⟩ fun _ e => (New.one hp).at e
  dis := fun b hb => ⟨(W.dis b hb).1, fun z => z.elim (W.dis b hb).2 fun e => by
    obtain ⟨u, hu⟩ := W.tracked hb
    rw [e, hp] at hu; cases hu⟩
theorem FW.new {md : Mode} {d : D} {v : V} {m1 : List Addr} (n : New H H') (W : WOk c own Xv m H w) (h : RepD c .fresh H H' A m1 v d) : FW c own Xv md m H' w d v := fun _ hm a e => by
  rcases h with ⟨h, _⟩ | ⟨b, e2, h1, h2, h3⟩
  · rw [h] at hm; cases hm
  · rw [e] at e2
    cases e2
    obtain ⟨o, ho⟩ := h3.tracked
    cases n with
    | same => rw [h1] at ho; cases ho
    | one hp =>
      rename_i p o'
      by_cases z : a = p
      · subst z; exact W.plus hp
      · rw [upd_ne z, h1] at ho; cases ho
theorem WOk.dom (W : WOk c own Xv m H w) (E : EOk c mo own Xv m H env σ) : Dom (Av own Xv m) H := fun b hb => by
  rcases hb with hb | ⟨i, hb⟩ | hb
  · exact W.tracked hb
  · obtain ⟨_, _, d, _, _, q⟩ := E.hown i b hb
    exact q.tracked
  · exact E.xd b hb
/-- what is free behind a step was free ahead of it -/
theorem Fr.back {m' : List Addr} (f : Fr c.K m m' H H') (W : WOk c own Xv m' H' w) {a : Addr} (h : H' a = none) : H a = none := by
  cases q : H a with
  | none => rfl
  | some o =>
    by_cases hm : a ∈ m
    · obtain ⟨o', e⟩ := W.tracked (f.mem hm)
      rw [h] at e; cases e
    · rw [f.ext a o q hm] at h; cases h
theorem Kp.upd {K : PySem.W.Frag} {p : Addr} {o : HO} (hp : H p = none) : Kp K A (fun b => A b ∨ b = p) H (upd H p o) := ⟨fun b u ha e => ⟨(New.one hp).at e, fun z => z.elim ha (ne_of_none e hp)⟩, (Fr.upd (m := []) hp).tup, (Fr.upd (m := []) hp).frz⟩
theorem Dom.no {p : Addr} (hA : Dom A H) (hp : H p = none) : ¬ A p := fun z => by
  obtain ⟨o, e⟩ := hA p z
  rw [hp] at e; cases e
theorem freshL {p : Addr} {vs : List V} {ds : List D} (hp : H p = none) (hA : Dom A H) (r : Reps c H A vs ds) : RepD c .fresh H (upd H p (.lst vs)) A m (.ref p) (.list ds) :=
  .inr ⟨p, rfl, hp, hA.no hp, vs, upd_same, r.keep (Kp.upd hp)⟩
theorem freshT {p : Addr} {o : Obj} {vs : List V} {ds : List D} (hp : H p = none) (ho : o.dict = none) (r : Reps c H A vs ds) : RepD c .fresh H (upd H p (.frz o (.tup vs))) A m (.ref p) (.tuple ds) :=
  .inl ⟨rfl, .tup (.inl ⟨o, upd_same, ho⟩) (r.keep (New.one hp).kp)⟩
theorem freshS {v : V} {d : D} (h : Rep c H A v d) (hd : isMut d = false) {H1 : Hp} : RepD c .fresh H1 H A m v d := .inl ⟨hd, h⟩

/-! ### what a datum's kind says of its value -/
theorem RepB.int {v : V} {i : Int} (h : RepB c H A m v (.int i)) : v = .int i := by
  cases h with
  | of h => cases h; rfl
  | own h => exact h.elim
theorem RepB.bl {v : V} {b : Bool} (h : RepB c H A m v (.bool b)) : v = .bl b := by
  cases h with
  | of h => cases h; rfl
  | own h => exact h.elim
theorem RepB.non {v : V} (h : RepB c H A m v .none) : v = .non := by
  cases h with
  | of h => cases h; rfl
  | own h => exact h.elim
theorem RepB.str {v : V} {x : Str} (h : RepB c H A m v (.str x)) : v = .str x := by
  cases h with
  | of h => cases h; rfl
  | own h => exact h.elim
theorem RepB.tup {v : V} {ds : List D} (h : RepB c H A m v (.tuple ds)) : ∃ a xs, v = .ref a ∧ TupP c.K H a xs ∧ Reps c H A xs ds := by
  cases h with
  | of h => cases h with | tup h r => exact ⟨_, _, rfl, h, r⟩
  | own h => exact h.elim
theorem RepB.lst {v : V} {ds : List D} (h : RepB c H A m v (.list ds)) : ∃ a xs, v = .ref a ∧ SqL c.K H a xs ∧ Reps c H A xs ds := by
  cases h with
  | of h => cases h with
    | lst h _ r => exact ⟨_, _, rfl, .inl (.inl h), r⟩
    | flst h r => exact ⟨_, _, rfl, h.sq, r⟩
  | own h _ => obtain ⟨vs, h, r⟩ := h; exact ⟨_, _, rfl, .inl (.inl h), r⟩
theorem RepB.dct {v : V} {kvs : List (D × D)} (h : RepB c H A m v (.dict kvs)) : ∃ a L ep, v = .ref a ∧ H a = some (dRaw a L ep) ∧ KOk kvs ∧ Ents c H A L kvs := by
  cases h with
  | of h => cases h with | dct h _ z r => exact ⟨_, _, _, rfl, h, z, r⟩
  | own h _ => obtain ⟨L, ep, h, z, r⟩ := h; exact ⟨_, L, ep, rfl, h, z, r⟩
end

/-- two data in, one out -/
def rG (c : Cn) (md : Mode) (g : D → D → Option D) : R2 := fun x y H Q => ∃ (A : Addr → Prop) (dx dy z : D), Dom A H ∧ RepB c H A [] x dx ∧ RepB c H A [] y dy ∧ g dx dy = some z ∧ ∀ v H', New H H' → RepD c md H H' A [] v z → Q v H'
theorem fits_le {n : Nat} (h : fits n = true) : n ≤ sizeLine := by
  rw [sizeLine_eq]; exact Nat.le_of_ble_eq_true h

section
variable {X : Cx} {nm : Nat → Str}
theorem add_lstM {pins : List (Addr × Obj)} {s : Shared} {σ : L2.St} {H : Hp} {l b : Addr} {xs ys : List V} {Q : VK} (I : Inv X pins σ H s) (hl : SqL X.K H l xs) (hb : SqL X.K H b ys) (hz : xs.length + ys.length ≤ sizeLine)
    (q : ∀ p, H p = none → Q (.ref p) (upd H p (.lst (xs ++ ys)))) : wpAny (model X.prog X.w) X.A (binaryOp .Add (.ref l) (.ref b)) (EP X pins σ Q) X.xe s := by
  obtain ⟨its, r, ⟨⟨cls, dd, data, sl⟩, n, ho, hc, hdn, hd⟩, z1⟩ := I.list hl
  obtain ⟨its2, r2, ⟨⟨cls2, dd2, data2, sl2⟩, n2, ho2, hc2, hdn2, hd2⟩, z2⟩ := I.list hb
  simp only at hc hd hc2 hd2
  subst hc hd hc2 hd2
  refine concat_meets ⟨_, ho, rfl⟩ ⟨_, ho2, rfl⟩ noFill_list_add seq_list_add F.slot_list_add F.entry_list_add (F.args_list_add_2 _ _)
    (PyProof.Rows.list_addW l b its.toArray its2.toArray n n2 dd dd2 sl sl2 (by rw [List.size_toArray, List.size_toArray, ← r.length, ← r2.length]; exact hz)) ⟨ho, ho2, ?_⟩
  have ea : its.toArray ++ its2.toArray = (its ++ its2).toArray := by simp
  rw [ea]
  exact ⟨.ref _, _, I.lnew (t' := s.toks) (r.append r2) (by rw [List.length_append]; exact hz), rfl, q _ I.fresh⟩
/-- a new tuple -/
theorem lay_tup {pins : List (Addr × Obj)} {s : Shared} {σ : L2.St} {H : Hp} {vs : List V} {its : List Value} (I : Inv X pins σ H s) (r : Vals vs its) (hz : vs.length ≤ sizeLine) :
    Inv X pins σ (upd H s.heap.objs.size (.frz { cls := .type "tuple", data := .seq its.toArray } (.tup vs))) { s with heap := s.heap.push { cls := .type "tuple", data := .seq its.toArray } } :=
  I.laid (t' := s.toks) (fun b ob q => Heap.get?_push_of_some _ q) (Nat.le_refl _) ⟨Heap.get?_push_size _ rfl, hz, its, r, PyProof.Rows.IsTup.new _ _⟩
/-- t + u: a new tuple, or one of the two -/
theorem op_catP : OpR X (binaryOp .Add) (fun x y H Q => ∃ a b xs ys, x = .ref a ∧ y = .ref b ∧ SqT X.K H a xs ∧ SqT X.K H b ys ∧ xs.length + ys.length ≤ sizeLine ∧
    (xs = [] → Q (.ref b) H) ∧ (xs ≠ [] → ys = [] → Q (.ref a) H) ∧ (xs ≠ [] → ys ≠ [] → ∀ p o, H p = none → o.dict = none → Q (.ref p) (upd H p (.frz o (.tup (xs ++ ys)))))) := by
  rintro pins s σ H x y v u Q I rx ry ⟨a, b, xs, ys, rfl, rfl, ha, hb, hz, q0, q1, q2⟩
  cases rx
  cases ry
  obtain ⟨its, r1, p1, _⟩ := I.tuple ha
  obtain ⟨its2, r2, p2, _⟩ := I.tuple hb
  by_cases hx : xs = []
  · subst hx
    cases r1
    exact cat_tup0 p1 p2 ⟨.ref b, H, I, rfl, q0 rfl⟩
  · refine HT.cat_tup p1 p2 (fun z => hx (r1.nil_iff.mp z)) (fun z => ⟨.ref a, H, I, rfl, q1 hx (r2.nil_iff.mp z)⟩) (fun z => ?_) (by rw [← r1.length, ← r2.length]; exact hz)
    exact ⟨.ref s.heap.objs.size, _, lay_tup I (r1.append r2) (by rw [List.length_append]; exact hz), rfl, q2 hx (fun w => z (r2.nil_iff.mpr w)) _ _ (I.hok.fresh (Nat.le_refl _)) rfl⟩
theorem op_addM : OpR X (binaryOp .Add) (rG (cn X nm) .fresh (binD .add)) := by
  intro pins s σ H x y v u Q I rx ry ⟨A, dx, dy, z, hA, hx, hy, hg, q⟩
  cases dx with
  | int a => cases dy with
    | int b =>
      obtain rfl := hx.int; obtain rfl := hy.int
      cases hg
      exact op_add pins s σ H _ _ v u Q I rx ry ⟨a, b, rfl, rfl, q _ _ .same (freshS (.int _) rfl)⟩
    | _ => cases hg
  | str a => cases dy with
    | str b =>
      obtain rfl := hx.str; obtain rfl := hy.str
      have hg : (if fits (a.length + b.length) then some (PyData.str (a ++ b)) else none) = some z := hg
      split at hg
      · rename_i hf
        cases hg
        exact op_add_str pins s σ H _ _ v u Q I rx ry ⟨a, b, rfl, rfl, fits_le hf, q _ _ .same (freshS (.str _) rfl)⟩
      · cases hg
    | _ => cases hg
  | tuple xs => cases dy with
    | tuple ys =>
      obtain ⟨a, vs, rfl, ha, ra⟩ := hx.tup
      obtain ⟨b, us, rfl, hb, rb⟩ := hy.tup
      have hg : (if fits (xs.length + ys.length) then some (PyData.tuple (xs ++ ys)) else none) = some z := hg
      split at hg
      · rename_i hf
        cases hg
        refine op_catP pins s σ H _ _ v u Q I rx ry ⟨a, b, vs, us, rfl, rfl, ha.sq, hb.sq, by rw [ra.length, rb.length]; exact fits_le hf, fun e => ?_, fun _ e => ?_, fun _ _ p o hp ho => ?_⟩
        · have e1 : xs = [] := ra.nil_iff.mp e
          subst e1
          exact q _ _ .same (freshS (.tup hb rb) rfl)
        · have e1 : ys = [] := rb.nil_iff.mp e
          subst e1
          exact q _ _ .same (freshS (by rw [List.append_nil]; exact .tup ha ra) rfl)
        · exact q _ _ (.one hp) (freshT hp ho (ra.append rb))
      · cases hg
    | _ => cases hg
  | list xs => cases dy with
    | list ys =>
      obtain ⟨a, vs, rfl, ha, ra⟩ := hx.lst
      obtain ⟨b, us, rfl, hb, rb⟩ := hy.lst
      have hg : (if fits (xs.length + ys.length) then some (PyData.list (xs ++ ys)) else none) = some z := hg
      split at hg
      · rename_i hf
        cases hg
        cases rx; cases ry
        exact add_lstM I ha hb (by rw [ra.length, rb.length]; exact fits_le hf) fun p hp => q _ _ (.one hp) (freshL hp hA (ra.append rb))
      · cases hg
    | _ => cases hg
  | _ => cases dy <;> cases hg
theorem op_subM : OpR X (binaryOp .Sub) (rG (cn X nm) .fresh (binD .sub)) := by
  intro pins s σ H x y v u Q I rx ry ⟨A, dx, dy, z, hA, hx, hy, hg, q⟩
  cases dx <;> cases dy <;> first
    | (cases hg; done)
    | (obtain rfl := hx.int; obtain rfl := hy.int; cases hg
       exact op_sub pins s σ H _ _ v u Q I rx ry ⟨_, _, rfl, rfl, q _ _ .same (freshS (.int _) rfl)⟩)
theorem small_ok {i : Int} (h : small i = true) : -(2 ^ 64) < i ∧ i < 2 ^ 64 := by
  unfold small at h
  rw [Bool.and_eq_true] at h
  exact ⟨of_decide_eq_true h.1, of_decide_eq_true h.2⟩
theorem mul_lstM {pins : List (Addr × Obj)} {s : Shared} {σ : L2.St} {H : Hp} {l : Addr} {xs : List V} {k : Int} {t : Tok} {Q : VK} (I : Inv X pins σ H s) (hl : SqL X.K H l xs) (h1 : -(2 ^ 63) ≤ k) (h2 : k < 2 ^ 63) (hz : xs.length * k.toNat ≤ sizeLine)
    (q : ∀ p, H p = none → Q (.ref p) (upd H p (.lst (List.replicate k.toNat xs).flatten))) : wpAny (model X.prog X.w) X.A (binaryOp .Mult (.ref l) (.int k t)) (EP X pins σ Q) X.xe s := by
  obtain ⟨its, r, ⟨⟨cls, dd, data, sl⟩, n, ho, hc, hdn, hd⟩, z1⟩ := I.list hl
  simp only at hc hd
  subst hc hd
  have hlen : its.toArray.size * k.toNat ≤ sizeLine := by rw [List.size_toArray, ← r.length]; exact hz
  have hcap : ¬ its.toArray.size * k.toNat > (2 ^ 63 - 1) / 8 := by
    have : (sizeLine : Nat) ≤ (2 ^ 63 - 1) / 8 := by decide
    omega
  have hfit : ¬ (!Builtin.List.listFitsIndex k) = true := by
    rw [fitsIndex_both h1 h2]
    exact Bool.false_ne_true
  have hlong : ¬ Builtin.List.listTooLong (its.toArray.size * k.toNat) = true := by
    rw [notLongL hlen]
    exact Bool.false_ne_true
  have hnew : List.foldl (fun x1 x2 => x1 ++ x2) #[] (List.replicate (if its.toArray.isEmpty = true then 0 else k.toNat) its.toArray) = (List.replicate k.toNat its).flatten.toArray := by
    have f0 : ∀ m : Nat, List.foldl (fun x1 x2 => x1 ++ x2) #[] (List.replicate m its.toArray) = (List.replicate m its).flatten.toArray := fun m => by
      have := L2.foldl_rep its m []
      rw [List.nil_append] at this
      exact this
    rw [f0]
    cases its with
    | nil => simp
    | cons a r' => rw [if_neg (by simp)]
  refine wpAny_binaryOp_repeat_ref (T := "list") (U := "int") (by decide) ⟨_, ho, rfl⟩ (fun s' => typeIs_int s' k t) noFill_list_mul F.fills_int_mul F.slot_int_rmul repeat_list F.slot_int_index.lookup
    (call_meets F.slot_int_rmul (typeIs_int s k t) F.entry_int_rmul (F.args_int_rmul_2 _ _) (lm_int_rmul_list_any k t l its.toArray n dd sl)
      ⟨ho, rfl, ⟨_, ho, rfl⟩, call_meets F.slot_list_mul ⟨_, ho, rfl⟩ F.entry_list_mul (F.args_list_mul_2 _ _) (lm_list_mul_any l its.toArray n dd sl k t hfit hcap hlong) ⟨ho, ?_⟩⟩)
  rw [hnew]
  exact ⟨.ref _, _, I.lnew (t' := s.toks) (r.rep k.toNat) (by rw [PyProof.Rows.lm_len_rep_flat, Nat.mul_comm]; exact hz), rfl, q _ I.fresh⟩
theorem op_mulM : OpR X (binaryOp .Mult) (rG (cn X nm) .fresh (binD .mul)) := by
  intro pins s σ H x y v u Q I rx ry ⟨A, dx, dy, z, hA, hx, hy, hg, q⟩
  cases dx with
  | int a => cases dy with
    | int b =>
      obtain rfl := hx.int; obtain rfl := hy.int
      have hg : (if small a || small b then some (PyData.int (a * b)) else none) = some z := hg
      split at hg
      · rename_i hf
        cases hg
        refine op_mul pins s σ H _ _ v u Q I rx ry ⟨a, b, rfl, rfl, ?_, q _ _ .same (freshS (.int _) rfl)⟩
        rcases Bool.or_eq_true_iff.mp hf with z | z
        · exact .inl (small_ok z)
        · exact .inr (small_ok z)
      · cases hg
    | _ => cases hg
  | list xs => cases dy with
    | int k =>
      obtain ⟨a, vs, rfl, ha, ra⟩ := hx.lst
      obtain rfl := hy.int
      have hg : (if decide (-(2 ^ 63) ≤ k) && decide (k < 2 ^ 63) && fits (xs.length * k.toNat) then some (PyData.list (List.replicate k.toNat xs).flatten) else none) = some z := hg
      split at hg
      · rename_i hf
        rw [Bool.and_eq_true, Bool.and_eq_true] at hf
        cases hg
        cases rx
        obtain ⟨t, rfl⟩ := ry
        exact mul_lstM I ha (of_decide_eq_true hf.1.1) (of_decide_eq_true hf.1.2) (by rw [ra.length]; exact fits_le hf.2) fun p hp => q _ _ (.one hp) (freshL hp hA (ra.rep _))
      · cases hg
    | _ => cases hg
  | _ => cases dy <;> cases hg
theorem op_fdivM : OpR X (binaryOp .FloorDiv) (rG (cn X nm) .fresh (binD .fdiv)) := by
  intro pins s σ H x y v u Q I rx ry ⟨A, dx, dy, z, hA, hx, hy, hg, q⟩
  cases dx with
  | int a => cases dy with
    | int b =>
      obtain rfl := hx.int; obtain rfl := hy.int
      have hg : (if b != 0 && decide (b.natAbs < 1073741824) then some (PyData.int (a.fdiv b)) else none) = some z := hg
      split at hg
      · rename_i hf
        rw [Bool.and_eq_true] at hf
        cases hg
        exact op_fdivN pins s σ H _ _ v u Q I rx ry ⟨a, b, rfl, rfl, ⟨by simpa using hf.1, of_decide_eq_true hf.2⟩, q _ _ .same (freshS (.int _) rfl)⟩
      · cases hg
    | _ => cases hg
  | _ => cases dy <;> cases hg
theorem op_modM : OpR X (binaryOp .Mod) (rG (cn X nm) .fresh (binD .mod)) := by
  intro pins s σ H x y v u Q I rx ry ⟨A, dx, dy, z, hA, hx, hy, hg, q⟩
  cases dx with
  | int a => cases dy with
    | int b =>
      obtain rfl := hx.int; obtain rfl := hy.int
      have hg : (if b != 0 then some (PyData.int (a.fmod b)) else none) = some z := hg
      split at hg
      · rename_i hf
        cases hg
        exact op_modN pins s σ H _ _ v u Q I rx ry ⟨a, b, rfl, rfl, (by simpa using hf), q _ _ .same (freshS (.int _) rfl)⟩
      · cases hg
    | _ => cases hg
  | _ => cases dy <;> cases hg
theorem op_powM : OpR X (binaryOp .Pow) (rG (cn X nm) .fresh (binD .pow)) := by
  intro pins s σ H x y v u Q I rx ry ⟨A, dx, dy, z, hA, hx, hy, hg, q⟩
  cases dx with
  | int a => cases dy with
    | int b =>
      obtain rfl := hx.int; obtain rfl := hy.int
      have hg : (if decide (0 ≤ b) && decide (b ≤ 1000000) && decide (a.natAbs < 2 ^ 64) then some (PyData.int (a ^ b.toNat)) else none) = some z := hg
      split at hg
      · rename_i hf
        rw [Bool.and_eq_true, Bool.and_eq_true] at hf
        cases hg
        exact op_pow pins s σ H _ _ v u Q I rx ry ⟨a, b, rfl, rfl, ⟨of_decide_eq_true hf.1.1, of_decide_eq_true hf.1.2, of_decide_eq_true hf.2⟩, q _ _ .same (freshS (.int _) rfl)⟩
      · cases hg
    | _ => cases hg
  | _ => cases dy <;> cases hg
end
end Mx

set_option Elab.async false
set_option linter.all false
set_option maxRecDepth 100000
set_option maxHeartbeats 1000000
/-! Mx5: comparisons, items, slices. -/
namespace Mx
open PySem PySem.Spec L2
section
variable {X : Cx} {nm : Nat → Str} {pins : List (Addr × Obj)} {σ : L2.St} {H : Hp} {s : Shared} {A : Addr → Prop} {m : List Addr}
theorem Inv.raw (I : Inv X pins σ H s) {a : Addr} {L : List DictEntry} {ep : Nat} (h : H a = some (dRaw a L ep)) : (a == sysModules) = false ∧ L.length ≤ sizeLine ∧ ∃ o es, s.heap.get? a = some o ∧ o.ExactDict ∧ o.data = .dict es ep ∧ es.toList = L := (I.hok a _ h).1
mutual
theorem Rep.reads (I : Inv X pins σ H s) : ∀ {v : V} {d : D} {u : Value}, Rep (cn X nm) H A v d → RelV v u → ∃ as, Reads s.heap u d as
  | _, _, _, .non, r => by cases r; exact ⟨_, .none⟩
  | _, _, _, .bl b, r => by cases r; exact ⟨_, .bool b⟩
  | _, _, _, .int i, r => by obtain ⟨t, rfl⟩ := r; exact ⟨_, .int i t⟩
  | _, _, _, .str x, r => by obtain ⟨t, rfl⟩ := r; exact ⟨_, .str x t⟩
  | _, _, _, .lst h _ q, r => by
    cases r
    obtain ⟨its, rv, ⟨o, n, ho, hc, _, hd⟩, _⟩ := I.list (SqL.of h)
    obtain ⟨as, hr⟩ := Reps.reads I q rv
    exact ⟨_, .list ho hc hd hr⟩
  | _, _, _, .flst h q, r => by
    cases r
    obtain ⟨its, rv, ⟨o, n, ho, hc, _, hd⟩, _⟩ := I.list (FrzL.sq h)
    obtain ⟨as, hr⟩ := Reps.reads I q rv
    exact ⟨_, .list ho hc hd hr⟩
  | _, _, _, .tup h q, r => by
    cases r
    obtain ⟨its, rv, ⟨o, ho, hc, n, hd⟩, _⟩ := I.tuple (TupP.sq h)
    obtain ⟨as, hr⟩ := Reps.reads I q rv
    exact ⟨_, .tuple ho hc hd hr⟩
  | _, _, _, .dct h _ _ q, r => by
    cases r
    obtain ⟨_, _, o, es, ho, hx, hd, rfl⟩ := Inv.raw I h
    obtain ⟨as, bs, h1, h2⟩ := Ents.reads I q
    exact ⟨_, .dict ho hx.1 hd h1 h2⟩
theorem Reps.reads (I : Inv X pins σ H s) : ∀ {vs : List V} {ds : List D} {us : List Value}, Reps (cn X nm) H A vs ds → Vals vs us → ∃ as, ReadsAll s.heap us ds as
  | _, _, _, .nil, r => by cases r; exact ⟨_, .nil⟩
  | _, _, _, .cons h q, r => by
    cases r with
    | cons r1 r2 =>
      obtain ⟨as, h1⟩ := Rep.reads I h r1
      obtain ⟨bs, h2⟩ := Reps.reads I q r2
      exact ⟨_, .cons h1 h2⟩
theorem Ents.reads (I : Inv X pins σ H s) : ∀ {L : List DictEntry} {kvs : List (D × D)}, Ents (cn X nm) H A L kvs → ∃ as bs, ReadsAll s.heap (L.map (·.key)) (kvs.map (·.1)) as ∧ ReadsAll s.heap (L.map (·.val)) (kvs.map (·.2)) bs
  | _, _, .nil => ⟨_, _, .nil, .nil⟩
  | _, _, .tk h1 _ h3 h4 q => by
    obtain ⟨as, bs, e1, e2⟩ := Ents.reads I q
    obtain ⟨a1, z1⟩ := Rep.reads I h1 (u := .ref _) rfl
    obtain ⟨a2, z2⟩ := Rep.reads I h4 h3
    exact ⟨_, _, .cons z1 e1, .cons z2 e2⟩
end
theorem RepB.reads (I : Inv X pins σ H s) {v : V} {d : D} {u : Value} (h : RepB (cn X nm) H A m v d) (r : RelV v u) : ∃ as, Reads s.heap u d as := by
  cases h with
  | of h => exact h.reads I r
  | own h _ => cases d with
    | list ds =>
      obtain ⟨vs, h, q⟩ := h
      cases r
      obtain ⟨its, rv, ⟨o, n, ho, hc, _, hd⟩, _⟩ := I.list (SqL.of h)
      obtain ⟨as, hr⟩ := q.reads I rv
      exact ⟨_, .list ho hc hd hr⟩
    | dict kvs =>
      obtain ⟨L, ep, h, _, q⟩ := h
      cases r
      obtain ⟨_, _, o, es, ho, hx, hd, rfl⟩ := Inv.raw I h
      obtain ⟨as, bs, h1, h2⟩ := q.reads I
      exact ⟨_, .dict ho hx.1 hd h1 h2⟩
    | _ => exact h.elim
end

section
variable {X : Cx} {nm : Nat → Str}
theorem eqD_ok {a b : D} {r : Bool} (h : eqD a b = some r) : a.canLay0 = true ∧ b.canLay0 = true ∧ a.depth ≤ 64 ∧ r = PyData.eqv a b := by
  unfold eqD at h
  split at h
  · rename_i hf
    rw [Bool.and_eq_true] at hf
    cases h
    exact ⟨SeqAt.canLay_of_shaped hf.1, hf.2, SeqAt.depth_of_shaped hf.1, rfl⟩
  · cases h
theorem room_min {A : Around} {a b : D} (h : a.depth ≤ 64) (hu : A.units + 66 < cLine) : A.units + min a.depth b.depth < cLine := by
  have : min a.depth b.depth ≤ a.depth := Nat.min_le_left _ _
  omega
theorem op_eqM (hu : X.A.units + 66 < cLine) : OpR X (compareOp .Eq) (rG (cn X nm) .fresh (cmpG .eq)) := by
  intro pins s σ H x y v u Q I rx ry ⟨A, dx, dy, z, hA, hx, hy, hg, q⟩
  obtain ⟨r, e, rfl⟩ := Option.map_eq_some_iff.mp hg
  have e' : eqD dx dy = some r := by
    cases dx <;> cases dy <;> exact e
  obtain ⟨h1, h2, h3, rfl⟩ := eqD_ok e'
  obtain ⟨as, r1⟩ := hx.reads I rx
  obtain ⟨bs, r2⟩ := hy.reads I ry
  exact SeqAt.compareEq_reads r1 r2 h1 h2 (room_min h3 hu) ⟨.bl _, H, I, rfl, q _ _ .same (freshS (.bl _) rfl)⟩
theorem op_neM (hu : X.A.units + 66 < cLine) : OpR X (compareOp .NotEq) (rG (cn X nm) .fresh (cmpG .ne)) := by
  intro pins s σ H x y v u Q I rx ry ⟨A, dx, dy, z, hA, hx, hy, hg, q⟩
  obtain ⟨r, e, rfl⟩ := Option.map_eq_some_iff.mp hg
  have e' : (eqD dx dy).map (!·) = some r := by
    cases dx <;> cases dy <;> exact e
  obtain ⟨r', e2, rfl⟩ := Option.map_eq_some_iff.mp e'
  obtain ⟨h1, h2, h3, rfl⟩ := eqD_ok e2
  obtain ⟨as, r1⟩ := hx.reads I rx
  obtain ⟨bs, r2⟩ := hy.reads I ry
  exact SeqAt.compareNe_reads r1 r2 h1 h2 (room_min h3 hu) ⟨.bl _, H, I, rfl, q _ _ .same (freshS (.bl _) rfl)⟩
theorem op_ltM (hu : X.A.units + 66 < cLine) : OpR X (compareOp .Lt) (rG (cn X nm) .fresh (cmpG .lt)) := by
  intro pins s σ H x y v u Q I rx ry ⟨A, dx, dy, z, hA, hx, hy, hg, q⟩
  obtain ⟨r, e, rfl⟩ := Option.map_eq_some_iff.mp hg
  cases dx with
  | int a => cases dy with
    | int b =>
      obtain rfl := hx.int; obtain rfl := hy.int
      cases e
      exact op_lt pins s σ H _ _ v u Q I rx ry ⟨a, b, rfl, rfl, q _ _ .same (freshS (.bl _) rfl)⟩
    | _ => cases e
  | tuple xs => cases dy with
    | tuple ys =>
      have e : ltD (.tuple xs) (.tuple ys) = some r := e
      unfold ltD at e
      split at e
      · rename_i hf
        rw [Bool.and_eq_true] at hf
        cases e
        obtain ⟨as, r1⟩ := hx.reads I rx
        obtain ⟨bs, r2⟩ := hy.reads I ry
        exact PySem.W.rcLt_alike _ _ X.A s v u as bs r1 r2 hf.1 (fun z => nomatch z) (room_min (Nat.le_of_ble_eq_true hf.2) hu) _ _ _ _ ⟨.bl _, H, I, rfl, q _ _ .same (freshS (.bl _) rfl)⟩
      · cases e
    | _ => cases e
  | _ => cases dy <;> cases e
theorem op_leM : OpR X (compareOp .LtE) (rG (cn X nm) .fresh (cmpG .le)) := by
  intro pins s σ H x y v u Q I rx ry ⟨A, dx, dy, z, hA, hx, hy, hg, q⟩
  obtain ⟨r, e, rfl⟩ := Option.map_eq_some_iff.mp hg
  cases dx <;> cases dy <;> first
    | (cases e; done)
    | (obtain rfl := hx.int; obtain rfl := hy.int; cases e
       exact op_le pins s σ H _ _ v u Q I rx ry ⟨_, _, rfl, rfl, q _ _ .same (freshS (.bl _) rfl)⟩)
theorem op_gtM : OpR X (compareOp .Gt) (rG (cn X nm) .fresh (cmpG .gt)) := by
  intro pins s σ H x y v u Q I rx ry ⟨A, dx, dy, z, hA, hx, hy, hg, q⟩
  obtain ⟨r, e, rfl⟩ := Option.map_eq_some_iff.mp hg
  cases dx <;> cases dy <;> first
    | (cases e; done)
    | (obtain rfl := hx.int; obtain rfl := hy.int; cases e
       exact op_gt pins s σ H _ _ v u Q I rx ry ⟨_, _, rfl, rfl, q _ _ .same (freshS (.bl _) rfl)⟩)
theorem op_geM : OpR X (compareOp .GtE) (rG (cn X nm) .fresh (cmpG .ge)) := by
  intro pins s σ H x y v u Q I rx ry ⟨A, dx, dy, z, hA, hx, hy, hg, q⟩
  obtain ⟨r, e, rfl⟩ := Option.map_eq_some_iff.mp hg
  cases dx <;> cases dy <;> first
    | (cases e; done)
    | (obtain rfl := hx.int; obtain rfl := hy.int; cases e
       exact op_ge pins s σ H _ _ v u Q I rx ry ⟨_, _, rfl, rfl, q _ _ .same (freshS (.bl _) rfl)⟩)
end
end Mx

set_option Elab.async false
set_option linter.all false
set_option maxRecDepth 100000
set_option maxHeartbeats 1000000
/-! Mx6: dicts whose keys are tuples. -/
namespace Mx
open PySem PySem.Spec L2
/-! ### keys -/
mutual
theorem eqv_nk : ∀ (a b : D), keyIn a = true → keyIn b = true → PyData.eqv a b = decide (nk a = nk b)
  | .none, b, _, hb => by cases b <;> simp_all [PyData.eqv, nk, keyIn]
  | .bool x, b, _, hb => by
    cases b with
    | bool y => cases x <;> cases y <;> simp [PyData.eqv, nk]
    | int y => cases x <;> simp [PyData.eqv, nk, Bool.beq_eq_decide_eq]
    | _ => simp_all [PyData.eqv, nk, keyIn]
  | .int x, b, _, hb => by
    cases b with
    | bool y => cases y <;> simp [PyData.eqv, nk, Bool.beq_eq_decide_eq]
    | int y => simp [PyData.eqv, nk, Bool.beq_eq_decide_eq]
    | _ => simp_all [PyData.eqv, nk, keyIn]
  | .str x, b, _, hb => by
    cases b with
    | str y =>
      simp only [PyData.eqv, nk]
      rw [Bool.eq_iff_iff]
      simp
    | _ => simp_all [PyData.eqv, nk, keyIn]
  | .tuple xs, b, ha, hb => by
    cases b with
    | tuple ys =>
      simp only [PyData.eqv, nk]
      rw [eqv_nks xs ys (by simpa [keyIn] using ha) (by simpa [keyIn] using hb), Bool.eq_iff_iff]
      simp
    | _ => simp_all [PyData.eqv, nk, keyIn]
  | .list _, _, ha, _ => by simp [keyIn] at ha
  | .dict _, _, ha, _ => by simp [keyIn] at ha
theorem eqv_nks : ∀ (a b : List D), keyIns a = true → keyIns b = true → PyData.eqvAll a b = decide (nks a = nks b)
  | [], [], _, _ => by simp [PyData.eqvAll, nks]
  | [], _ :: _, _, _ => by simp [PyData.eqvAll, nks]
  | _ :: _, [], _, _ => by simp [PyData.eqvAll, nks]
  | x :: xs, y :: ys, ha, hb => by
    rw [keyIns, Bool.and_eq_true] at ha hb
    simp only [PyData.eqvAll, nks]
    rw [eqv_nk x y ha.1 hb.1, eqv_nks xs ys ha.2 hb.2, Bool.eq_iff_iff]
    simp
end
mutual
theorem nk_depth : ∀ (a : D), keyIn a = true → (nk a).depth = a.depth
  | .none, _ => by simp [nk, NestedKey.depth, PyData.depth]
  | .bool x, _ => by simp [nk, NestedKey.depth, PyData.depth]
  | .int x, _ => by simp [nk, NestedKey.depth, PyData.depth]
  | .str x, _ => by simp [nk, NestedKey.depth, PyData.depth]
  | .tuple xs, h => by
    simp only [nk, NestedKey.depth, PyData.depth]
    rw [nks_depth xs (by simpa [keyIn] using h)]
  | .list _, h => by simp [keyIn] at h
  | .dict _, h => by simp [keyIn] at h
theorem nks_depth : ∀ (a : List D), keyIns a = true → NestedKey.depthAll (nks a) = PyData.depthAll a
  | [], _ => by simp [nks, NestedKey.depthAll, PyData.depthAll]
  | x :: xs, h => by
    rw [keyIns, Bool.and_eq_true] at h
    simp only [nks, NestedKey.depthAll, PyData.depthAll]
    rw [nk_depth x h.1, nks_depth xs h.2]
end
theorem tupKey {k : D} (h : isTupKey k = true) : keyIn k = true ∧ (nk k).depth ≤ 8 := by
  cases k with
  | tuple xs =>
    have h : (keyIns xs && Nat.ble (PyData.depth (.tuple xs)) 8) = true := h
    rw [Bool.and_eq_true] at h
    have e : keyIn (.tuple xs) = true := by simpa [keyIn] using h.1
    exact ⟨e, by rw [nk_depth _ e]; exact Nat.le_of_ble_eq_true h.2⟩
  | _ => cases h
theorem eqv_key {a b : D} (ha : isTupKey a = true) (hb : isTupKey b = true) : PyData.eqv a b = decide (nk a = nk b) := eqv_nk a b (tupKey ha).1 (tupKey hb).1
section
variable {X : Cx} {nm : Nat → Str} {pins : List (Addr × Obj)} {σ : L2.St} {H : Hp} {s : Shared} {A : Addr → Prop} {m : List Addr}
mutual
theorem Rep.key (I : Inv X pins σ H s) : ∀ {v : V} {d : D} {u : Value}, Rep (cn X nm) H A v d → RelV v u → keyIn d = true → NestedIs s.heap (nk d) u
  | _, _, _, .non, r, _ => by cases r; exact .none
  | _, _, _, .bl b, r, _ => by cases r; exact .bool rfl
  | _, _, _, .int i, r, _ => by obtain ⟨t, rfl⟩ := r; exact .int i t
  | _, _, _, .str x, r, _ => by obtain ⟨t, rfl⟩ := r; exact .text x t
  | _, _, _, .lst _ _ _, _, h => by simp [keyIn] at h
  | _, _, _, .flst _ _, _, h => by simp [keyIn] at h
  | _, _, _, .dct _ _ _ _, _, h => by simp [keyIn] at h
  | _, _, _, .tup h q, r, k => by
    cases r
    obtain ⟨its, rv, ⟨o, ho, hc, n, hd⟩, _⟩ := I.tuple (TupP.sq h)
    exact .tup ho hc hd (Reps.key I q rv (by simpa [keyIn] using k))
theorem Reps.key (I : Inv X pins σ H s) : ∀ {vs : List V} {ds : List D} {us : List Value}, Reps (cn X nm) H A vs ds → Vals vs us → keyIns ds = true → NestedAll s.heap (nks ds) us
  | _, _, _, .nil, r, _ => by cases r; exact .nil
  | _, _, _, .cons h q, r, k => by
    rw [keyIns, Bool.and_eq_true] at k
    cases r with
    | cons r1 r2 => exact .cons (Rep.key I h r1 k.1) (Reps.key I q r2 k.2)
end
theorem Rep.isKey (I : Inv X pins σ H s) {a : Addr} {k : D} (h : Rep (cn X nm) H A (.ref a) k) (hk : isTupKey k = true) : (nestedKind X.prog X.w).is s.heap (nk k) a := ⟨h.key I rfl (tupKey hk).1, (tupKey hk).2⟩
/-- what the entries are -/
abbrev Xs := List (NestedKey × Addr × Value)
inductive Ent3 (c : Cn) (H : Hp) (A : Addr → Prop) : Xs → List (D × D) → Prop
  | nil : Ent3 c H A [] []
  | cons {a : Addr} {u : Value} {v : V} {k d : D} {xs : Xs} {kvs : List (D × D)} : Rep c H A (.ref a) k → isTupKey k = true → RelV v u → Rep c H A v d → Ent3 c H A xs kvs → Ent3 c H A ((nk k, a, u) :: xs) ((k, d) :: kvs)
theorem Ents.three {c : Cn} : ∀ {L : List DictEntry} {kvs : List (D × D)}, Ents c H A L kvs → ∃ xs, Ent3 c H A xs kvs ∧ L = xs.map (entryOfKey (nestedKind c.P c.w))
  | _, _, .nil => ⟨[], .nil, rfl⟩
  | _, _, .tk h1 h2 h3 h4 r => by
    obtain ⟨xs, h, e⟩ := Ents.three r
    exact ⟨_, .cons h1 h2 h3 h4 h, by rw [e]; rfl⟩
theorem Ent3.ents {c : Cn} : ∀ {xs : Xs} {kvs : List (D × D)}, Ent3 c H A xs kvs → Ents c H A (xs.map (entryOfKey (nestedKind c.P c.w))) kvs
  | _, _, .nil => .nil
  | _, _, .cons h1 h2 h3 h4 r => .tk h1 h2 h3 h4 (Ent3.ents r)
theorem Ent3.keys {c : Cn} : ∀ {xs : Xs} {kvs : List (D × D)}, Ent3 c H A xs kvs → xs.map (·.1) = kvs.map fun p => nk p.1
  | _, _, .nil => rfl
  | _, _, .cons h1 h2 h3 h4 r => by rw [List.map_cons, List.map_cons, Ent3.keys r]
theorem Ent3.length {c : Cn} {xs : Xs} {kvs : List (D × D)} (h : Ent3 c H A xs kvs) : xs.length = kvs.length := by
  have := congrArg List.length h.keys
  simpa using this
theorem Ent3.is (I : Inv X pins σ H s) : ∀ {xs : Xs} {kvs : List (D × D)}, Ent3 (cn X nm) H A xs kvs → ∀ x ∈ xs, (nestedKind X.prog X.w).is s.heap x.1 x.2.1
  | _, _, .nil => fun x h => by cases h
  | _, _, .cons h1 h2 h3 h4 r => fun x h => by
    rcases List.mem_cons.mp h with rfl | h
    · exact h1.isKey I h2
    · exact Ent3.is I r x h
theorem Ent3.tups {c : Cn} : ∀ {xs : Xs} {kvs : List (D × D)}, Ent3 c H A xs kvs → ∀ p ∈ kvs, isTupKey p.1 = true
  | _, _, .nil => fun x h => by cases h
  | _, _, .cons h1 h2 h3 h4 r => fun x h => by
    rcases List.mem_cons.mp h with rfl | h
    · exact h2
    · exact Ent3.tups r x h
/-- the dict at a, as the library has it -/
theorem Inv.dict (I : Inv X pins σ H s) {a : Addr} {L : List DictEntry} {ep : Nat} {kvs : List (D × D)} (h : H a = some (dRaw a L ep)) (z : KOk kvs) (q : Ents (cn X nm) H A L kvs) :
    ∃ xs, Ent3 (cn X nm) H A xs kvs ∧ L = xs.map (entryOfKey (nestedKind X.prog X.w)) ∧ s.heap.DictOfH (nestedKind X.prog X.w) a xs ∧ (a == sysModules) = false ∧ xs.length ≤ sizeLine := by
  obtain ⟨h0, h1, o, es, ho, hx, hd, he⟩ := Inv.raw I h
  obtain ⟨xs, hq, e⟩ := q.three
  refine ⟨xs, hq, e, ⟨o, es, ep, ho, hx, hd, he.trans e, hq.is I, ?_⟩, h0, ?_⟩
  · rw [hq.keys]; exact z.1
  · rw [e, List.length_map] at h1; exact h1
theorem dGet_cons (k' d k : D) (kvs : List (D × D)) : dGet ((k', d) :: kvs) k = if PyData.eqv k' k = true then some d else dGet kvs k := by
  unfold dGet
  rw [List.find?_cons]
  by_cases q : PyData.eqv k' k = true
  · simp [q]
  · simp [q]
theorem atKey_cons (k' : NestedKey) (p : Addr × Value) (k : NestedKey) (xs : Xs) : atKey ((k', p) :: xs) k = if k' = k then some p else atKey xs k := by
  unfold atKey
  rw [List.find?_cons]
  by_cases q : k' = k
  · simp [q]
  · simp [q]
theorem Ent3.at {c : Cn} {k : D} (hk : isTupKey k = true) : ∀ {xs : Xs} {kvs : List (D × D)}, Ent3 c H A xs kvs →
    (dGet kvs k = none ∧ atKey xs (nk k) = none) ∨ ∃ d p v, dGet kvs k = some d ∧ atKey xs (nk k) = some p ∧ RelV v p.2 ∧ Rep c H A v d
  | _, _, .nil => .inl ⟨rfl, rfl⟩
  | _, _, .cons (k := k') (xs := xs) (kvs := kvs) h1 h2 h3 h4 r => by
    rw [dGet_cons, atKey_cons]
    by_cases q : nk k' = nk k
    · have q' : PyData.eqv k' k = true := by rw [eqv_key h2 hk, decide_eq_true q]
      rw [if_pos q, if_pos q']
      exact .inr ⟨_, _, _, rfl, rfl, h3, h4⟩
    · have q' : ¬ PyData.eqv k' k = true := by rw [eqv_key h2 hk, decide_eq_false q]; simp
      rw [if_neg q, if_neg q']
      exact Ent3.at hk r
theorem dHas_get {kvs : List (D × D)} {k : D} : dHas kvs k = (dGet kvs k).isSome := by
  unfold dHas dGet
  rw [Option.isSome_map]
  induction kvs with
  | nil => rfl
  | cons p r ih =>
    rw [List.any_cons, List.find?_cons, ih]
    cases PyData.eqv p.1 k <;> simp
theorem Ent3.has {c : Cn} {k : D} (hk : isTupKey k = true) {xs : Xs} {kvs : List (D × D)} (h : Ent3 c H A xs kvs) : (atKey xs (nk k)).isSome = dHas kvs k := by
  rw [dHas_get]
  rcases h.at hk with ⟨e1, e2⟩ | ⟨d, p, v, e1, e2, _⟩ <;> rw [e1, e2] <;> rfl
theorem room8 {A : Around} (hu : A.units + 66 < cLine) {P : Program} {w : World} : (nestedKind P w).room A.in1 := by
  show A.units + 1 + 8 < cLine
  omega

/-- the address of a key -/
theorem RepB.keyAt {c : Cn} {v : V} {k : D} (h : RepB c H A m v k) (hk : isTupKey k = true) : ∃ a, v = .ref a ∧ Rep c H A (.ref a) k := by
  cases k with
  | tuple xs =>
    obtain ⟨a, vs, rfl, h1, h2⟩ := h.tup
    exact ⟨a, rfl, .tup h1 h2⟩
  | _ => cases hk
theorem op_inM (hu : X.A.units + 66 < cLine) : OpR X (compareOp .In) (rG (cn X nm) .fresh (cmpG .inn)) := by
  intro pins s σ H x y v u Q I rx ry ⟨A, dx, dy, z, hA, hx, hy, hg, q⟩
  obtain ⟨r, e, rfl⟩ := Option.map_eq_some_iff.mp hg
  have key : ∀ xs, inL dx xs = some r → dx.canLay0 = true ∧ PyData.canLayAll0 xs = true ∧ X.A.units + 1 + min (PyData.depthAll xs) dx.depth < cLine ∧ r = xs.any fun y => PyData.eqv y dx := fun xs e => by
    unfold inL at e
    split at e
    · rename_i hf
      rw [Bool.and_eq_true] at hf
      cases e
      have h3 := SeqAt.depth_of_shaped hf.1
      have : min (PyData.depthAll xs) dx.depth ≤ dx.depth := Nat.min_le_right _ _
      exact ⟨SeqAt.canLay_of_shaped hf.1, hf.2, by omega, rfl⟩
    · cases e
  obtain ⟨as, r1⟩ := hx.reads I rx
  have fin : ∀ r : Bool, (PyData.bool r = PyData.bool r) → (∀ v H', New H H' → RepD (cn X nm) .fresh H H' A [] v (.bool r) → Q v H') → EP X pins σ Q (.bool r) s := fun r _ q => ⟨.bl r, H, I, rfl, q _ _ .same (freshS (.bl _) rfl)⟩
  cases dy with
  | list ys =>
    have e : inL dx ys = some r := by cases dx <;> exact e
    obtain ⟨h1, h2, h3, rfl⟩ := key ys e
    obtain ⟨bs, r2⟩ := hy.reads I ry
    exact SeqAt.in_list_reads r2 r1 h2 h1 h3 (fin _ rfl q)
  | tuple ys =>
    have e : inL dx ys = some r := by cases dx <;> exact e
    obtain ⟨h1, h2, h3, rfl⟩ := key ys e
    obtain ⟨bs, r2⟩ := hy.reads I ry
    exact SeqAt.in_tuple_reads r2 r1 h2 h1 h3 (fin _ rfl q)
  | dict kvs =>
    have e : (if keyFor kvs dx then some (dHas kvs dx) else none) = some r := by cases dx <;> exact e
    split at e
    · rename_i hk
      cases e
      obtain ⟨ka, rfl, hka⟩ := hx.keyAt hk
      obtain ⟨a, L, ep, rfl, h1, h2, h3⟩ := hy.dct
      obtain ⟨xs, g1, g2, g3, g4, g5⟩ := Inv.dict I h1 h2 h3
      cases rx; cases ry
      refine wpAny_in_heap (room8 hu) (hka.isKey I hk) g4 g3 ?_
      rw [g1.has hk]
      exact ⟨.bl _, H, I.tok _, rfl, q _ _ .same (freshS (.bl _) rfl)⟩
    · cases e
  | str ys => cases dx with
    | str xs =>
      obtain rfl := hx.str; obtain rfl := hy.str
      cases e
      exact op_in_str pins s σ H _ _ v u Q I rx ry ⟨_, _, rfl, rfl, q _ _ .same (freshS (.bl _) rfl)⟩
    | _ => cases e
  | _ => cases dx <;> cases e
theorem op_notInM (hu : X.A.units + 66 < cLine) : OpR X (compareOp .NotIn) (rG (cn X nm) .fresh (cmpG .nin)) := by
  intro pins s σ H x y v u Q I rx ry ⟨A, dx, dy, z, hA, hx, hy, hg, q⟩
  obtain ⟨r, e, rfl⟩ := Option.map_eq_some_iff.mp hg
  have key : ∀ xs, (inL dx xs).map (!·) = some r → dx.canLay0 = true ∧ PyData.canLayAll0 xs = true ∧ X.A.units + 1 + min (PyData.depthAll xs) dx.depth < cLine ∧ r = !xs.any fun y => PyData.eqv y dx := fun xs e => by
    obtain ⟨r', e, er⟩ := Option.map_eq_some_iff.mp e
    unfold inL at e
    split at e
    · rename_i hf
      rw [Bool.and_eq_true] at hf
      have e0 := Option.some.inj e
      subst e0
      subst er
      have h3 := SeqAt.depth_of_shaped hf.1
      have : min (PyData.depthAll xs) dx.depth ≤ dx.depth := Nat.min_le_right _ _
      exact ⟨SeqAt.canLay_of_shaped hf.1, hf.2, by omega, rfl⟩
    · cases e
  obtain ⟨as, r1⟩ := hx.reads I rx
  have fin : ∀ r : Bool, (∀ v H', New H H' → RepD (cn X nm) .fresh H H' A [] v (.bool r) → Q v H') → EP X pins σ Q (.bool r) s := fun r q => ⟨.bl r, H, I, rfl, q _ _ .same (freshS (.bl _) rfl)⟩
  cases dy with
  | list ys =>
    have e : (inL dx ys).map (!·) = some r := by cases dx <;> exact e
    obtain ⟨h1, h2, h3, rfl⟩ := key ys e
    obtain ⟨bs, r2⟩ := hy.reads I ry
    exact SeqAt.notIn_list_reads r2 r1 h2 h1 h3 (fin _ q)
  | tuple ys =>
    have e : (inL dx ys).map (!·) = some r := by cases dx <;> exact e
    obtain ⟨h1, h2, h3, rfl⟩ := key ys e
    obtain ⟨bs, r2⟩ := hy.reads I ry
    exact SeqAt.notIn_tuple_reads r2 r1 h2 h1 h3 (fin _ q)
  | dict kvs =>
    have e : (if keyFor kvs dx then some (!dHas kvs dx) else none) = some r := by cases dx <;> exact e
    split at e
    · rename_i hk
      cases e
      obtain ⟨ka, rfl, hka⟩ := hx.keyAt hk
      obtain ⟨a, L, ep, rfl, h1, h2, h3⟩ := hy.dct
      obtain ⟨xs, g1, g2, g3, g4, g5⟩ := Inv.dict I h1 h2 h3
      cases rx; cases ry
      have tr : compareOp .NotIn (.ref ka) (.ref a) = (do return Value.bool (!(← contains (.ref a) (.ref ka)))) := rfl
      rw [tr]
      refine wpAny_bind (wpAny_contains_heap (room8 hu) (hka.isKey I hk) g4 g3 (wpAny_pure ?_))
      rw [g1.has hk]
      exact ⟨.bl _, H, I.tok _, rfl, q _ _ .same (freshS (.bl _) rfl)⟩
    · cases e
  | str ys => cases dx with
    | str xs =>
      obtain rfl := hx.str; obtain rfl := hy.str
      cases e
      exact op_notin_str pins s σ H _ _ v u Q I rx ry ⟨_, _, rfl, rfl, q _ _ .same (freshS (.bl _) rfl)⟩
    | _ => cases e
  | _ => cases dx <;> cases e
/-! ### items -/
theorem atI_rep {c : Cn} {vs : List V} {ds : List D} {i : Int} {d : D} (r : Reps c H A vs ds) (h : atI ds i = some d) : ∃ v, atI vs i = some v ∧ Rep c H A v d := by
  unfold atI at h ⊢
  rw [r.length]
  cases e : ixN ds.length i with
  | none => rw [e] at h; cases h
  | some j =>
    rw [e] at h
    exact r.get h
theorem ix_M (hu : X.A.units + 66 < cLine) : IxR X (rG (cn X nm) .keep idxD) := by
  intro value slice pins s σ H x y v u Q I rx ry ⟨A, dx, dy, z, hA, hx, hy, hg, q⟩ hs
  cases dx with
  | list xs => cases dy with
    | int i =>
      obtain rfl := hy.int
      obtain ⟨a, vs, rfl, h1, h2⟩ := hx.lst
      obtain ⟨w, e, hw⟩ := atI_rep h2 hg
      exact ix_list value slice pins s σ H _ _ v u Q I rx ry ⟨a, vs, i, w, rfl, rfl, h1, e, q _ _ .same hw⟩ hs
    | _ => cases hg
  | tuple xs => cases dy with
    | int i =>
      obtain rfl := hy.int
      obtain ⟨a, vs, rfl, h1, h2⟩ := hx.tup
      obtain ⟨w, e, hw⟩ := atI_rep h2 hg
      exact ix_tup value slice pins s σ H _ _ v u Q I rx ry ⟨a, vs, i, w, rfl, rfl, h1.sq, e, q _ _ .same hw⟩ hs
    | _ => cases hg
  | str xs => cases dy with
    | int i =>
      obtain rfl := hy.int; obtain rfl := hx.str
      have hg : (if fits xs.length then (atI xs.cps.toList i).map fun c => PyData.str ⟨#[c]⟩ else none) = some z := hg
      split at hg
      · rename_i hf
        obtain ⟨k, e, rfl⟩ := Option.map_eq_some_iff.mp hg
        exact ix_str value slice pins s σ H _ _ v u Q I rx ry ⟨xs, i, k, rfl, rfl, fits_le hf, e, q _ _ .same (.str _)⟩ hs
      · cases hg
    | _ => cases hg
  | dict kvs =>
    have hg : (if keyFor kvs dy then dGet kvs dy else none) = some z := by cases dy <;> exact hg
    split at hg
    · rename_i hk
      obtain ⟨ka, rfl, hka⟩ := hy.keyAt hk
      obtain ⟨a, L, ep, rfl, h1, h2, h3⟩ := hx.dct
      obtain ⟨xs, g1, g2, g3, g4, g5⟩ := Inv.dict I h1 h2 h3
      cases rx; cases ry
      rcases g1.at hk with ⟨e1, _⟩ | ⟨d, p, w, e1, e2, e3, e4⟩
      · rw [e1] at hg; cases hg
      · rw [e1] at hg; cases hg
        exact PyProof.Rows.tail_any g3.typeIs slot_dict_getitem.lookup (wpAny_getItem_heap (room8 hu) (hka.isKey I hk) g3 e2 ⟨w, H, I.tok _, e3, q _ _ .same e4⟩) hs
    · cases hg
  | _ => cases dy <;> cases hg
end
end Mx

set_option Elab.async false
set_option linter.all false
set_option maxRecDepth 100000
set_option maxHeartbeats 1000000
/-! Mx7: readings put together. -/
namespace Mx
open PySem PySem.Spec L2
section
variable {c : Cn} {cf : Cfg} {mo : Nat → Bool} {own : Ow} {Xv : Addr → Prop} {m m2 : List Addr} {H H2 H' : Hp} {w w2 : Wd} {A : Addr → Prop}
/-- a rule's own result: kept or new -/
def Mode.res : Mode → Bool
  | .keep => true
  | .fresh => true
  | _ => false
theorem RepD.back {md : Mode} {m0 m1 : List Addr} {v : V} {d : D} (hm : md.res = true) (f : Fr c.K m m2 H H2) (W : WOk c own Xv m2 H2 w2) (h : RepD c md H2 H' A m0 v d) : RepD c md H H' A m1 v d := by
  cases md with
  | keep => exact h
  | fresh =>
    rcases h with h | ⟨a, e, h1, h2, h3⟩
    · exact .inl h
    · exact .inr ⟨a, e, f.back W h1, h2, h3⟩
  | _ => cases hm
theorem RepM.kept {md : Mode} {v : V} {d : D} (h : RepM c own Xv md H m H' w (.d d) v) : RepD c md H H' (Av own Xv m) m v d := h.1
theorem FW.of {md mr : Mode} {m1 : List Addr} {v : V} {d : D} (hm : mr.res = true) (hle : md.le mr = true) (n : New H H') (W : WOk c own Xv m H w) (h : RepD c mr H H' A m1 v d) : FW c own Xv md m H' w d v := by
  cases mr with
  | keep => exact FW.low hle
  | fresh => exact FW.new n W h
  | _ => cases hm
/-- two operands -/
theorem tE_bin {md mr : Mode} {e a b : E} {g : D → D → Option D} (hm : mr.res = true) (hle : md.le mr = true)
    (hev : ∀ env w, ev cf e env w = (ev cf a env w).dat.bind fun x w => (ev cf b env w).dat.bind fun y w => (ofO (g x y) w).bind fun z w => .ok (.d z) w) (σ : L2.St) (H : Hp) (Q : VK) :
    tE c cf mo md e σ H Q → tOp (rG c mr g) (tE c cf mo .look a) (tE c cf mo .peek b) σ H Q := by
  rintro ⟨own, Xv, m, env, w, E, W, h⟩
  rw [hev, sat_bind, sat_dat] at h
  refine ⟨own, Xv, m, env, w, E, W, sat_mono h fun x1 w1 h v1 m1 H1 f1 W1 r1 => ?_⟩
  obtain ⟨dx, rfl, h⟩ := h
  rw [sat_bind, sat_dat] at h
  refine ⟨own, Xv, m1, env, w1, E.step f1 W, W1, sat_mono h fun x2 w2 h v2 m2 H2 f2 W2 r2 => ?_⟩
  obtain ⟨dy, rfl, h⟩ := h
  rw [sat_bind, sat_ofO] at h
  obtain ⟨z, hz, h⟩ := h
  have f12 := f1.trans f2
  have r1' : RepB c H1 (Av own Xv m1) m1 v1 dx := r1.1
  have r2' : RepB c H2 (Av own Xv m2) [] v2 dy := r2.1
  refine ⟨Av own Xv m2, dx, dy, z, W2.dom (E.step f12 W), (r1'.keep f2).all, r2', hz, fun v H' n rd => ?_⟩
  exact h v m2 H' (f12.trans n.fr) (W2.new n) ⟨(rd.back hm f12 W2).le hle, FW.of hm hle n W2 rd⟩
end
end Mx

set_option Elab.async false
set_option linter.all false
set_option maxRecDepth 100000
set_option maxHeartbeats 1000000
/-! Mx8: which text an evaluator's term stands for. -/
namespace Mx
open PySem PySem.Spec L2

/-- what is known of the place where an expression stands: names by slot, the scope, the slots that are owned, the names by number, constants of the module -/
structure Sx where
  N : List Str
  sc : Scope
  mo : List Nat
  nm : List Str
  glb : List (Nat × D)
  fnc : List Str
  mth : List (Nat × Nat × Nat)
  dfs : List Nat
  cls : List (Nat × List Str)
def Sx.nmf (sx : Sx) : Nat → Str := fun i => sx.nm.getD i Str.empty
def Sx.mof (sx : Sx) : Nat → Bool := fun i => sx.mo.contains i
def visB (sc : Scope) (x : Str) : Bool := match sc.names.lookup x with
  | some .local => true
  | some .cell => true
  | some .free => true
  | _ => false
def globB (sc : Scope) (x : Str) : Bool := match sc.names.lookup x with
  | some .globalImplicit => true
  | _ => false
def plainName (x : Str) : Bool := !decide (x = "__debug__") && !decide (x = "__classdict__") && !decide (x = "__name__")
def constB : D → Const → Bool
  | .none, .none => true
  | .bool a, .bool b => a == b
  | .int a, .int b => decide (a = b)
  | .str a, .str b => decide (a = b)
  | _, _ => false
def bopB : Bop → Operator → Bool
  | .add, .Add => true
  | .sub, .Sub => true
  | .mul, .Mult => true
  | .fdiv, .FloorDiv => true
  | .mod, .Mod => true
  | .pow, .Pow => true
  | _, _ => false
def copB : Cop → CmpOp → Bool
  | .eq, .Eq => true
  | .ne, .NotEq => true
  | .lt, .Lt => true
  | .le, .LtE => true
  | .gt, .Gt => true
  | .ge, .GtE => true
  | .inn, .In => true
  | .nin, .NotIn => true
  | .is, .Is => true
  | .isnt, .IsNot => true
  | _, _ => false
def Cop.isIs : Cop → Bool
  | .is => true
  | .isnt => true
  | _ => false
def isNX : Expr → Bool
  | .Constant .none _ _ => true
  | _ => false
def starB : Expr → Bool
  | .Starred _ _ => true
  | _ => false
def setB : Expr → Bool
  | .Set _ _ _ => true
  | _ => false
/-- no call whose name could be super -/
def baseB : Expr → Bool
  | .Name _ _ => true
  | .Attribute _ _ _ => true
  | _ => false
def baseC : Expr → Bool
  | .Call (.Name _ _) _ _ _ => false
  | _ => true
def sliceB : Expr → Bool
  | .Slice _ _ _ _ => true
  | _ => false
def Mode.looks : Mode → Bool
  | .peek => true
  | .look => true
  | _ => false
def Mode.isPeek : Mode → Bool
  | .peek => true
  | _ => false
def gloB (glb : List (Nat × D)) (f : Nat) (d : D) : Bool := match glb.lookup f, d with
  | some (.int a), .int b => decide (a = b)
  | some (.str a), .str b => decide (a = b)
  | _, _ => false
def locB (sx : Sx) (x : Str) : Bool := match sx.sc.names.lookup x with
  | some .local => true
  | some .cell => sx.fnc.contains x
  | _ => false
/-- a name that is stored to -/
def tgN (sx : Sx) (i : Nat) : Expr → Bool
  | .Name x _ => decide (sx.N[i]? = some x) && locB sx x && !sx.mo.contains i
  | _ => false
def tgNs (sx : Sx) : List Nat → List Expr → Bool
  | [], [] => true
  | i :: is, x :: xs => tgN sx i x && tgNs sx is xs
  | _, _ => false
def chkTg (sx : Sx) : Tg → Expr → Bool
  | .name i, x => tgN sx i x
  | .tup is, .Tuple xs _ _ => tgNs sx is xs
  | _, _ => false
def tupB : Expr → Bool
  | .Tuple _ _ _ => true
  | _ => false
def Sx.blk (sx : Sx) (scope : Scope) : Sx := { sx with sc := relS scope sx.sc, fnc := (scope.names.filter fun y => match y.2 with | .cell => true | _ => false).map (·.1) }
def ownP (N : List Str) (own : List Nat) : List (Str × Nat) := own.map fun i => (N.getD i Str.empty, i)
def blkB (sx : Sx) (scope : Scope) (own : List Nat) (ixs : List Nat) : Bool := blkC sx.N sx.sc scope (ownP sx.N own) && own.all (fun i => !sx.mo.contains i) && ixs.all fun i => own.contains i
def bltB (sx : Sx) (x y : Str) : Bool := decide (x = y) && globB sx.sc x
def B1.nm : B1 → Str
  | .len => "len"
  | .abs => "abs"
  | .int => "int"
  | .str => "str"
  | .dict => "dict"
def B1.on : B1 → Bool
  | .len => true
  | .abs => true
  | .int => true
  | _ => false
def Bi.nm : Bi → Str
  | .tuple => "tuple"
  | .list => "list"
  | .sorted => "sorted"
  | .all => "all"
  | .any => "any"
  | .sum => "sum"
  | .min => "min"
  | .max => "max"
  | .lenset => "len"
  | .srtset => "sorted"
def Bi.on : Bi → Bool
  | .tuple => true
  | .list => true
  | .all => true
  | .any => true
  | .sum => true
  | .sorted => true
  | .min => true
  | .max => true
  | _ => false
def Bi.mr : Bi → Mode
  | .min => .keep
  | .max => .keep
  | _ => .fresh
def Ty.nm : Ty → Str
  | .int => "int"
  | .bool => "bool"
  | .tuple => "tuple"
  | .str => "str"
  | .dict => "dict"
  | .list => "list"
/-- a def of the module by its name -/
def gfn (sx : Sx) (f : Nat) (x : Str) : Bool := sx.dfs.contains f && (sx.mth.lookup f).isNone && decide (sx.nmf f = x) && globB sx.sc x && plainName x
def fldB (sx : Sx) (cl : Nat) (f : Str) : Bool := match sx.cls.lookup cl with
  | some fs => fs.contains f
  | none => false
def methB (sx : Sx) (cl m : Nat) (x : Str) : Bool := match sx.mth.lookup m with
  | some (cl', mn) => decide (cl' = cl) && decide (sx.nmf mn = x)
  | none => false
def loB (k : Nat) : Option Expr → Bool
  | none => Nat.beq k 0
  | some (.Constant (.int j) _ _) => decide (j = k) && !Nat.beq k 0
  | _ => false
def stepB (c : Int) : Expr → Bool
  | .Constant (.int j) _ _ => decide (j = c) && decide (c = 2)
  | .UnaryOp .USub (.Constant (.int j) _ _) _ => decide (c = -1) && decide (j = 1)
  | _ => false
mutual
def chk (sx : Sx) : Mode → E → Expr → Bool
  | md, .slot i, .Name x _ => decide (sx.N[i]? = some x) && visB sx.sc x && plainName x && (!sx.mo.contains i || md.looks) && md.le .keep
  | md, .cst d, .Constant k _ _ => constB d k
  | md, .glo f d, .Name x _ => decide (sx.nmf f = x) && globB sx.sc x && plainName x && gloB sx.glb f d
  | md, .bin op a b, .BinOp l o r _ => bopB op o && chk sx .look a l && chk sx .peek b r
  | md, .neg a, .UnaryOp .USub x _ => chk sx .peek a x
  | md, .not a, .UnaryOp .Not x _ => chk sx .keep a x
  | md, .and es, .BoolOp .And xs _ => chks sx es xs
  | md, .or es, .BoolOp .Or xs _ => chks sx es xs
  | md, .cmp op a b, .Compare l [o] [r] _ => copB op o && chk sx .look a l && (if op.isIs then isNX r else chk sx .peek b r && !setB r)
  | md, .cmp2 op op' a b e, .Compare l [o, o'] [r, r'] _ => copB op o && copB op' o' && chk sx .look a l && chk sx .look b r && chk sx .peek e r' && !setB r' && !op.isIs && !op'.isIs
  | md, .ite t a b, .IfExp tx ax bx _ => chk sx .keep t tx && chk sx md a ax && chk sx md b bx
  | md, .tup es, .Tuple xs _ _ => chks sx es xs
  | md, .lst es, .List xs _ => chks sx es xs
  | md, .idx a i, .Subscript v s _ => chk sx .look a v && chk sx .peek i s && !sliceB s && md.le .keep
  | md, .sli a lo hi, .Subscript v (.Slice l u none _) _ => chk sx .look a v && chkO sx lo l && chkO sx hi u
  | md, .call f es, .Call (.Name x _) xs [] _ => (sx.mth.lookup f).isNone && decide (sx.nmf f = x) && globB sx.sc x && plainName x && chks sx es xs && md.le .keep
  | md, .b1 .dict e, .Call (.Name f _) [x] [] _ => bltB sx f "dict" && chk sx .peek e x && !starB x
  | md, .b1 b e, .Call (.Name f _) [x] [] _ => b.on && bltB sx f b.nm && chk sx .peek e x && !starB x
  | md, .bit .lenset (.seq e), .Call (.Name f _) [.Call (.Name f2 _) [x] [] _] [] _ => bltB sx f "len" && bltB sx f2 "set" && chk sx .peek e x && !starB x
  | md, .bit .list (.zip a b), .Call (.Name f _) [.Call (.Name f2 _) [x, y] [] _] [] _ => bltB sx f "list" && bltB sx f2 "zip" && chk sx .look a x && !starB x && chk sx .look b y && !starB y
  | md, .bit .list (.rng2 a b), .Call (.Name f _) [.Call (.Name f2 _) [x, y] [] _] [] _ => bltB sx f "list" && bltB sx f2 "range" && chk sx .keep a x && !starB x && chk sx .keep b y && !starB y
  | md, .bit b (.seq e), .Call (.Name f _) [x] [] _ => b.on && bltB sx f b.nm && chk sx .peek e x && !starB x && md.le b.mr
  | md, .isi e t, .Call (.Name f _) [x, .Name y _] [] _ => bltB sx f "isinstance" && chk sx .peek e x && !starB x && bltB sx y t.nm
  | md, .srtK f (.seq e), .Call (.Name z _) [x] [⟨some k, .Name y _, _⟩] _ => bltB sx z "sorted" && decide (k = "key") && gfn sx f y && chk sx .look e x && !starB x
  | md, .srtK f (.keys e), .Call (.Name z _) [.Call (.Attribute x kk apos) [] [] cpos] [⟨some k, .Name y _, _⟩] _ => bltB sx z "sorted" && decide (k = "key") && gfn sx f y && chk sx .look e x && decide (kk = "keys") && (apos.endLine == cpos.line) && baseB x
  | md, .cell e, ex => chk sx .fresh e ex
  | md, .dcell e, ex => chk sx .fresh e ex
  | md, .rd o, ex => md.isPeek && chk sx .keep o ex
  | md, .oidx o i, .Subscript v s _ => chk sx .keep o v && chk sx .peek i s && !sliceB s && md.le .keep
  | md, .fld o cl f, .Attribute ox x _ => decide (f = x) && fldB sx cl f && chk sx .keep o ox && baseB ox && md.le .keep
  | md, .meth o cl m x es, .Call (.Attribute ox y apos) xs [] cpos => decide (x = y) && (apos.endLine == cpos.line) && Nat.blt xs.length 30 && methB sx cl m x && chk sx .keep o ox && baseB ox && chks sx es xs && md.le .keep
  | md, .mk cl m es, .Call (.Name y _) xs [] _ => decide (sx.nmf cl = y) && globB sx.sc y && plainName y && (sx.cls.lookup cl).isSome && methB sx cl m "__init__" && chks sx es xs
  | md, .dct .nil .nil, .Dict [] [] _ => true
  | md, .cnt a b, .Call (.Attribute ox y apos) [x] [] cpos => decide (y = "count") && (apos.endLine == cpos.line) && chk sx .look a ox && baseC ox && chk sx .peek b x && !starB x
  | md, .index a b, .Call (.Attribute ox y apos) [x] [] cpos => decide (y = "index") && (apos.endLine == cpos.line) && chk sx .look a ox && baseC ox && chk sx .peek b x && !starB x
  | md, .lc own tg it ifs elt, .ListComp ex [⟨tx, ix, fx, as⟩] scope _ => decide (as = 0) && chkI sx .look (tupB tx) it ix && blkB sx scope own tg.ix && chkTg (sx.blk scope) tg tx && chkT (sx.blk scope) ifs fx && chk (sx.blk scope) .keep elt ex
  | md, .lc2 own tg it tg2 it2 ifs elt, .ListComp ex [⟨tx, ix, [], as⟩, ⟨tx2, ix2, fx, as2⟩] scope _ => decide (as = 0) && decide (as2 = 0) && chkI sx .look (tupB tx) it ix && blkB sx scope own (tg.ix ++ tg2.ix) && chkTg (sx.blk scope) tg tx && chkTg (sx.blk scope) tg2 tx2 && chkI (sx.blk scope) .keep (tupB tx2) it2 ix2 && chkT (sx.blk scope) ifs fx && chk (sx.blk scope) .keep elt ex
  | md, .dc own tg it k v, .DictComp kx vx [⟨tx, ix, [], as⟩] scope _ => decide (as = 0) && chkI sx .look (tupB tx) it ix && blkB sx scope own tg.ix && chkTg (sx.blk scope) tg tx && chk (sx.blk scope) .keep k kx && chk (sx.blk scope) .keep v vx
  | md, .dc2 own tg it tg2 it2 k v, .DictComp kx vx [⟨tx, ix, [], as⟩, ⟨tx2, ix2, [], as2⟩] scope _ => decide (as = 0) && decide (as2 = 0) && chkI sx .look (tupB tx) it ix && blkB sx scope own (tg.ix ++ tg2.ix) && chkTg (sx.blk scope) tg tx && chkTg (sx.blk scope) tg2 tx2 && chkI (sx.blk scope) .keep (tupB tx2) it2 ix2 && chk (sx.blk scope) .keep k kx && chk (sx.blk scope) .keep v vx
  | md, .deq0 false e, .Compare l [o] [.Dict [] [] _] _ => copB .eq o && chk sx .look e l
  | md, .sl3 a k st, .Subscript v (.Slice lo none (some sp) _) _ => chk sx .look a v && loB k lo && stepB st sp
  | _, .stuck, ex => !starB ex
  | _, _, _ => false
def chks (sx : Sx) : Es → List Expr → Bool
  | .nil, [] => true
  | .cons e r, x :: xs => chk sx .keep e x && !starB x && chks sx r xs
  | _, _ => false
def chkT (sx : Sx) : Eo → List Expr → Bool
  | .none, [] => true
  | .some e, [x] => chk sx .keep e x
  | _, _ => false
def chkI (sx : Sx) : Mode → Bool → It → Expr → Bool
  | md, _, .seq e, x => chk sx md e x && !setB x
  | _, _, .rng1 a, .Call (.Name f _) [x] [] _ => bltB sx f "range" && chk sx .keep a x && !starB x
  | _, _, .rng2 a b, .Call (.Name f _) [x, y] [] _ => bltB sx f "range" && chk sx .keep a x && !starB x && chk sx .keep b y && !starB y
  | md, t, .zip a b, .Call (.Name f _) [x, y] [] _ => bltB sx f "zip" && chk sx md a x && !starB x && chk sx md b y && !starB y && t
  | md, t, .enu a, .Call (.Name f _) [x] [] _ => bltB sx f "enumerate" && chk sx md a x && !starB x && t
  | _, _, _, _ => false
def chkO (sx : Sx) : Eo → Option Expr → Bool
  | .none, none => true
  | .some e, some x => chk sx .peek e x
  | _, _ => false
end
end Mx

set_option Elab.async false
set_option linter.all false
set_option maxRecDepth 100000
set_option maxHeartbeats 1000000
/-! Mx9: expressions keep what the evaluator says. -/
namespace Mx
open PySem PySem.Spec L2

/-- what a def promises: the evaluator's result -/
def spF (c : Cn) (tb : Tbl) (F n : Nat) (f : Nat) : Sp := fun vs H Q _ => ∃ (Xv : Addr → Prop) (m : List Addr) (w : Wd) (xs : List Vl), WOk c [] Xv m H w ∧ (∀ b, Xv b → ∃ o, H b = some o) ∧ Paired (RepV c H (Av [] Xv m) m) xs vs ∧
  (callN tb F n f xs w).sat fun x w' => ∀ v m' H', Fr c.K m m' H H' → WOk c [] Xv m' H' w' → RepV c H' (Av [] Xv m') m' x v → Q v H'
/-- the built-in names that are called -/
def blts : List Str := ["len", "abs", "int", "str", "dict", "tuple", "list", "sorted", "all", "any", "sum", "min", "max", "set", "isinstance", "range", "zip", "enumerate", "bool"]
/-- where a def stands: a name of the module, a method of a class -/
def FA (K : PySem.W.Frag) (mg : Str → Option Value) (nm : Nat → Str) (mth : List (Nat × Nat × Nat)) (f : Nat) (fa : Addr) : Prop := match mth.lookup f with
  | none => mg (nm f) = some (.ref fa)
  | some (cl, mn) => ∃ C, mg (nm cl) = some (.ref C) ∧ Cls K C ∧ Meth K C (nm mn) fa
structure Ctx (tb : Tbl) (F n : Nat) (sx : Sx) (X : Cx) : Prop where
  N : X.N = sx.N
  sc : X.env.scope = sx.sc
  nd : X.N.Nodup
  calm : X.calm = true
  room : Room (2 * n + 1) X.A
  fns : ∀ f d, tb.lookup f = some d → ∃ fa fd, FA X.K X.mg sx.nmf sx.mth f fa ∧ PySem.W.keepIn X.K (.ref fa) = true ∧ Binds X.K fd d.ps [] ∧ FnOk X.prog X.w X.K X.mg X.base (L2.CX X.prog X.w) (2 * n) fa fd d.ps (spF (cn X sx.nmf) tb F n f)
  free : ∀ x ∈ blts, X.mg x = none
  cls : ∀ cl fs, sx.cls.lookup cl = some fs → ∃ C, X.mg (sx.nmf cl) = some (.ref C) ∧ Cls X.K C ∧ PySem.W.makesIn X.K C = true ∧ PySem.W.keepIn X.K (.ref C) = true ∧ ∀ f ∈ fs, NoAttr X.K C f
  dfs : ∀ f, sx.dfs.contains f = true → ∃ d, tb.lookup f = some d
  glb : ∀ f i, sx.glb.lookup f = some (.int i) → ∃ t, X.mg (sx.nmf f) = some (.int i t)
  fnc : ∀ x, sx.fnc.contains x = true → X.fn x = true
  gls : ∀ f z, sx.glb.lookup f = some (.str z) → ∃ t, X.mg (sx.nmf f) = some (.str z t)
theorem Ctx.units {tb : Tbl} {F n : Nat} {sx : Sx} {X : Cx} (C : Ctx tb F n sx X) : X.A.units + 66 < cLine := by
  have := C.room.un
  omega
/-- what is said of an expression -/
def OkE (tb : Tbl) (F n : Nat) (e : E) : Prop := ∀ (sx : Sx) (md : Mode) (ex : Expr) (X : Cx), chk sx md e ex = true → Ctx tb F n sx X → PE X ex (tE (cn X sx.nmf) ⟨callN tb F n, F⟩ sx.mof md e)

section
variable {tb : Tbl} {F n : Nat} {sx : Sx} {X : Cx} {md : Mode}
theorem vis_of {sc : Scope} {x : Str} (h : visB sc x = true) : Vis sc x := by
  unfold visB at h
  unfold Vis
  split at h <;> first | exact .inl (by assumption) | exact .inr (.inl (by assumption)) | exact .inr (.inr (by assumption)) | cases h
theorem gl_of (C : Ctx tb F n sx X) {x : Str} (h : globB sx.sc x = true) : Gl X x := by
  unfold globB at h
  unfold Gl Env.kindOf
  rw [C.sc]
  split at h
  · assumption
  · cases h
theorem plain_of {x : Str} (h : plainName x = true) : (x == ("__debug__" : Str)) = false ∧ (x == ("__classdict__" : Str)) = false ∧ x ≠ "__name__" := by
  unfold plainName at h
  rw [Bool.and_eq_true, Bool.and_eq_true] at h
  refine ⟨?_, ?_, ?_⟩
  · have : ¬ x = "__debug__" := by simpa using h.1.1
    exact beq_eq_false_iff_ne.mpr this
  · have : ¬ x = "__classdict__" := by simpa using h.1.2
    exact beq_eq_false_iff_ne.mpr this
  · simpa using h.2
/-- a value that was there -/
theorem tE_here {c : Cn} {cf : Cfg} {mo : Nat → Bool} {e : E} {t : TE} (σ : L2.St) (H : Hp) (Q : VK)
    (h : ∀ own Xv m env w, EOk c mo own Xv m H env σ → WOk c own Xv m H w → (ev cf e env w).sat (fun x w' => ∀ v m' H', Fr c.K m m' H H' → WOk c own Xv m' H' w' → RepM c own Xv md H m' H' w' x v → Q v H') → t σ H Q) :
    tE c cf mo md e σ H Q → t σ H Q := fun ⟨own, Xv, m, env, w, E, W, q⟩ => h own Xv m env w E W q
theorem ok_slot (i : Nat) : OkE tb F n (.slot i) := by
  intro sx md ex X hc C
  cases ex with
  | Name x pos =>
    have hc : (decide (sx.N[i]? = some x) && visB sx.sc x && plainName x && (!sx.mo.contains i || md.looks) && md.le .keep) = true := hc
    rw [Bool.and_eq_true, Bool.and_eq_true, Bool.and_eq_true, Bool.and_eq_true] at hc
    obtain ⟨⟨⟨⟨h1, h2⟩, h3⟩, h4⟩, h5⟩ := hc
    obtain ⟨p1, p2, _⟩ := plain_of h3
    refine PE_imp (pe_var (i := i) (by rw [C.N]; exact of_decide_eq_true h1) (by rw [C.sc]; exact vis_of h2) p1 p2) fun σ H Q => tE_here σ H Q fun own Xv m env w E W q => ?_
    cases e : env[i]? with
    | none => rw [show ev _ (.slot i) env w = .stuck by simp only [ev, e]] at q; exact q.elim
    | some o => cases o with
      | none => rw [show ev _ (.slot i) env w = .stuck by simp only [ev, e]] at q; exact q.elim
      | some x =>
        rw [show ev _ (.slot i) env w = .ok x w by simp only [ev, e]] at q
        by_cases ho : ∃ a, (i, a) ∈ own
        · obtain ⟨a, ha⟩ := ho
          obtain ⟨z1, z2, d, e1, e2, e3⟩ := E.hown i a ha
          rw [e] at e1
          cases e1
          refine ⟨_, e2, q _ m H Fr.refl W ?_⟩
          have hm : a ∉ m := fun hm => (W.dis a hm).1 i ha
          have lk : md.looks = true := by
            rcases Bool.or_eq_true_iff.mp h4 with z | z
            · rw [show sx.mo.contains i = true from z1] at z; cases z
            · exact z
          refine ⟨?_, FW.low h5⟩
          cases md with
          | peek => exact RepB.own e3 (by simp)
          | look => exact RepB.own e3 hm
          | _ => cases lk
        · obtain ⟨v, e1, e2⟩ := E.sh i x e fun a ha => ho ⟨a, ha⟩
          refine ⟨v, e1, q v m H Fr.refl W ?_⟩
          cases x with
          | d y =>
            refine ⟨?_, FW.low h5⟩
            cases md with
            | peek => exact RepB.of e2
            | look => exact RepB.of e2
            | keep => exact e2
            | fresh => cases h5
          | ob j => exact e2
          | fn f => exact e2
  | _ => cases hc

theorem stay {c : Cn} {own : Ow} {Xv : Addr → Prop} {m : List Addr} {H : Hp} {v : V} {d : D} (h : Rep c H (Av own Xv m) v d) (hd : isMut d = false) {w : Wd} : RepM c own Xv md H m H w (.d d) v := ⟨RepD.le (md' := .fresh) (by cases md <;> rfl) (.inl ⟨hd, h⟩), FW.non hd⟩
theorem ok_cst (d : D) : OkE tb F n (.cst d) := by
  intro sx md ex X hc C
  cases ex with
  | Constant k j pos =>
    have hc : constB d k = true := hc
    cases d with
    | none => cases k with
      | none => exact PE_imp pe_non fun σ H Q => tE_here σ H Q fun own Xv m env w E W q => q _ m H Fr.refl W (stay .non rfl)
      | _ => cases hc
    | bool b => cases k with
      | bool b' =>
        obtain rfl : b = b' := by simpa [constB] using hc
        exact PE_imp pe_bl fun σ H Q => tE_here σ H Q fun own Xv m env w E W q => q _ m H Fr.refl W (stay (.bl _) rfl)
      | _ => cases hc
    | int b => cases k with
      | int b' =>
        obtain rfl : b = b' := by simpa [constB] using hc
        exact PE_imp pe_int fun σ H Q => tE_here σ H Q fun own Xv m env w E W q => q _ m H Fr.refl W (stay (.int _) rfl)
      | _ => cases hc
    | str b => cases k with
      | str b' =>
        obtain rfl : b = b' := by simpa [constB] using hc
        exact PE_imp pe_str fun σ H Q => tE_here σ H Q fun own Xv m env w E W q => q _ m H Fr.refl W (stay (.str _) rfl)
      | _ => cases hc
    | _ => cases k <;> cases hc
  | _ => cases hc
theorem ok_glo (f : Nat) (d : D) : OkE tb F n (.glo f d) := by
  intro sx md ex X hc C
  cases ex with
  | Name x pos =>
    have hc : (decide (sx.nmf f = x) && globB sx.sc x && plainName x && gloB sx.glb f d) = true := hc
    rw [Bool.and_eq_true, Bool.and_eq_true, Bool.and_eq_true] at hc
    obtain ⟨⟨⟨h1, h2⟩, h3⟩, h4⟩ := hc
    obtain rfl := of_decide_eq_true h1
    obtain ⟨p1, p2, _⟩ := plain_of h3
    unfold gloB at h4
    split at h4
    · rename_i a b e
      obtain rfl : a = b := by simpa using h4
      obtain ⟨t, ht⟩ := C.glb f a e
      exact PE_imp (pe_glob (v := .int a) (gl_of C h2) ht ⟨t, rfl⟩ p1) fun σ H Q => tE_here σ H Q fun own Xv m env w E W q => q _ m H Fr.refl W (stay (.int _) rfl)
    · rename_i a b e
      obtain rfl : a = b := by simpa using h4
      obtain ⟨t, ht⟩ := C.gls f a e
      exact PE_imp (pe_glob (v := .str a) (gl_of C h2) ht ⟨t, rfl⟩ p1) fun σ H Q => tE_here σ H Q fun own Xv m env w E W q => q _ m H Fr.refl W (stay (.str _) rfl)
    · cases h4
  | _ => cases hc
theorem op_of {op : Bop} {o : Operator} (h : bopB op o = true) {nm : Nat → Str} : OpR X (binaryOp o) (rG (cn X nm) .fresh (binD op)) := by
  cases op <;> cases o <;> first
    | (cases h; done)
    | exact op_addM
    | exact op_subM
    | exact op_fdivM
    | exact op_modM
    | exact op_powM
    | exact op_mulM
theorem cop_of {op : Cop} {o : CmpOp} (C : Ctx tb F n sx X) (h : copB op o = true) (h1 : op.isIs = false) {nm : Nat → Str} : OpR X (compareOp o) (rG (cn X nm) .fresh (cmpG op)) := by
  have hu := C.units
  cases op <;> cases o <;> first
    | (cases h; done)
    | exact op_eqM hu
    | exact op_neM hu
    | exact op_ltM hu
    | exact op_leM
    | exact op_gtM
    | exact op_geM
    | exact op_inM hu
    | exact op_notInM hu
    | cases h1
theorem fresh_all (md : Mode) : md.le .fresh = true := by cases md <;> rfl
theorem ok_bin (op : Bop) (a b : E) (ha : OkE tb F n a) (hb : OkE tb F n b) : OkE tb F n (.bin op a b) := by
  intro sx md ex X hc C
  cases ex with
  | BinOp l o r pos =>
    have hc : (bopB op o && chk sx .look a l && chk sx .peek b r) = true := hc
    rw [Bool.and_eq_true, Bool.and_eq_true] at hc
    exact PE_imp (pe_op (op_of hc.1.1) (ha sx .look l X hc.1.2 C) (hb sx .peek r X hc.2 C)) fun σ H Q => tE_bin rfl (fresh_all md) (fun env w => rfl) σ H Q
  | _ => cases hc
theorem ok_idx (a b : E) (ha : OkE tb F n a) (hb : OkE tb F n b) : OkE tb F n (.idx a b) := by
  intro sx md ex X hc C
  cases ex with
  | Subscript l r pos =>
    have hc : (chk sx .look a l && chk sx .peek b r && !sliceB r && md.le .keep) = true := hc
    rw [Bool.and_eq_true, Bool.and_eq_true, Bool.and_eq_true] at hc
    have hp : PlainIx r := by
      intro o i
      cases r <;> first | rfl | (exact absurd hc.1.2 (by simp [sliceB]))
    exact PE_imp (pe_ix (ix_M C.units) (ha sx .look l X hc.1.1.1 C) (hb sx .peek r X hc.1.1.2 C) hp) fun σ H Q => tE_bin rfl hc.2 (fun env w => rfl) σ H Q
  | _ => cases hc
/-- one operand -/
def rU1 (c : Cn) (md : Mode) (g : D → Option D) : V → Hp → VK → Prop := fun x H Q => ∃ (A : Addr → Prop) (dx z : D), Dom A H ∧ RepB c H A [] x dx ∧ g dx = some z ∧ ∀ v H', New H H' → RepD c md H H' A [] v z → Q v H'
theorem tE_un {c : Cn} {cf : Cfg} {mo : Nat → Bool} {mr : Mode} {e a : E} {g : D → Option D} (hm : mr.res = true) (hle : md.le mr = true)
    (hev : ∀ env w, ev cf e env w = (ev cf a env w).dat.bind fun x w => (ofO (g x) w).bind fun z w => .ok (.d z) w) (σ : L2.St) (H : Hp) (Q : VK) :
    tE c cf mo md e σ H Q → tUn (rU1 c mr g) (tE c cf mo .peek a) σ H Q := by
  rintro ⟨own, Xv, m, env, w, E, W, h⟩
  rw [hev, sat_bind, sat_dat] at h
  refine ⟨own, Xv, m, env, w, E, W, sat_mono h fun x1 w1 h v1 m1 H1 f1 W1 r1 => ?_⟩
  obtain ⟨dx, rfl, h⟩ := h
  rw [sat_bind, sat_ofO] at h
  obtain ⟨z, hz, h⟩ := h
  have r1' : RepB c H1 (Av own Xv m1) [] v1 dx := r1.1
  refine ⟨Av own Xv m1, dx, z, W1.dom (E.step f1 W), r1', hz, fun v H' n rd => ?_⟩
  exact h v m1 H' (f1.trans n.fr) (W1.new n) ⟨(rd.back hm f1 W1).le hle, FW.of hm hle n W1 rd⟩
def negD : D → Option D
  | .int i => some (.int (-i))
  | _ => none
theorem un_negM {nm : Nat → Str} : UnR X (unaryOp .USub) (rU1 (cn X nm) .fresh negD) := by
  intro pins s σ H x v Q I rx ⟨A, dx, z, hA, hx, hg, q⟩
  cases dx with
  | int i =>
    obtain rfl := hx.int
    cases hg
    exact un_neg pins s σ H _ v Q I rx ⟨i, rfl, q _ _ .same (freshS (.int _) rfl)⟩
  | _ => cases hg
theorem ok_neg (a : E) (ha : OkE tb F n a) : OkE tb F n (.neg a) := by
  intro sx md ex X hc C
  cases ex with
  | UnaryOp o x pos => cases o with
    | USub =>
      refine PE_imp (pe_un un_negM (ha sx .peek x X hc C)) fun σ H Q => tE_un rfl (fresh_all md) (fun env w => ?_) σ H Q
      simp only [ev]
      congr 1
      funext x w
      cases x <;> rfl
    | _ => cases hc
  | _ => cases hc
end
end Mx

set_option Elab.async false
set_option linter.all false
set_option maxRecDepth 100000
set_option maxHeartbeats 1000000
/-! Mxa: tests, and, or, comparisons, displays, calls. -/
namespace Mx
open PySem PySem.Spec L2
theorem ev_not (cf : Cfg) (a : E) (env : Env) (w : Wd) : ev cf (.not a) env w = (ev cf a env w).tru.bind fun b w => .ok (.d (.bool (!b))) w := rfl
theorem ev_and (cf : Cfg) (es : Es) (env : Env) (w : Wd) : ev cf (.and es) env w = (evAnd cf es env w).bind fun b w => .ok (.d (.bool b)) w := rfl
theorem ev_or (cf : Cfg) (es : Es) (env : Env) (w : Wd) : ev cf (.or es) env w = (evOr cf es env w).bind fun b w => .ok (.d (.bool b)) w := rfl
theorem evAnd_cons (cf : Cfg) (e e2 : E) (r : Es) (env : Env) (w : Wd) : evAnd cf (.cons e (.cons e2 r)) env w = (ev cf e env w).tru.bind fun x w => if x then evAnd cf (.cons e2 r) env w else .ok false w := rfl
theorem evOr_cons (cf : Cfg) (e e2 : E) (r : Es) (env : Env) (w : Wd) : evOr cf (.cons e (.cons e2 r)) env w = (ev cf e env w).tru.bind fun x w => if x then .ok true w else evOr cf (.cons e2 r) env w := rfl
def tT (c : Cn) (cf : Cfg) (mo : Nat → Bool) (e : E) : TT := fun σ H Q => ∃ (own : Ow) (X : Addr → Prop) (m : List Addr) (env : Env) (w : Wd), EOk c mo own X m H env σ ∧ WOk c own X m H w ∧
  (ev cf e env w).tru.sat fun b w' => ∀ m' H', Fr c.K m m' H H' → WOk c own X m' H' w' → Q b H'
def OkT (tb : Tbl) (F n : Nat) (e : E) : Prop := ∀ (sx : Sx) (ex : Expr) (X : Cx), chk sx .keep e ex = true → Ctx tb F n sx X → PT X ex (tT (cn X sx.nmf) ⟨callN tb F n, F⟩ sx.mof e)
section
variable {tb : Tbl} {F n : Nat} {sx : Sx} {X : Cx} {md : Mode} {c : Cn} {cf : Cfg} {mo : Nat → Bool}
theorem tT_E {e : E} {σ : L2.St} {H : Hp} {Q : Bool → Hp → Prop} (h : tT c cf mo e σ H Q) : tE c cf mo .keep e σ H fun x H' => ∃ k, x = .bl k ∧ Q k H' := by
  obtain ⟨own, Xv, m, env, w, E, W, h⟩ := h
  rw [sat_tru] at h
  refine ⟨own, Xv, m, env, w, E, W, sat_mono h fun x w' h v m' H' f W' r => ?_⟩
  obtain ⟨b, rfl, h⟩ := h
  have r : Rep c H' (Av own Xv m') v (.bool b) := r.1
  cases r
  exact ⟨b, rfl, h m' H' f W'⟩
/-- a test by its value -/
theorem ok_val {e : E} (h : OkE tb F n e) {ex : Expr} (C : Ctx tb F n sx X) (hc : chk sx .keep e ex = true)
    (he : ∀ whole, isTrue ex X.env whole = (do let v ← whole; standAt ex.pos; holding [v] (truthy v))) : PT X ex (tT (cn X sx.nmf) ⟨callN tb F n, F⟩ sx.mof e) :=
  PT_imp (pt_val (h sx .keep ex X hc C) he) fun σ H Q q => tT_E q
theorem tru_not {r : Res Vl} {f : Bool → Bool} : (r.tru.bind fun b w => Res.ok (Vl.d (.bool (f b))) w).tru = r.tru.bind fun b w => .ok (f b) w := by
  cases r with
  | ok v w => cases v with
    | d x => cases x <;> rfl
    | _ => rfl
  | _ => rfl
theorem ok_not (a : E) (ha : OkE tb F n a) : OkE tb F n (.not a) := by
  intro sx md ex X hc C
  cases ex with
  | UnaryOp o x pos => cases o with
    | Not =>
      refine PE_imp (pe_not (ha sx .keep x X hc C)) ?_
      rintro σ H Q ⟨own, Xv, m, env, w, E, W, h⟩
      rw [ev_not, sat_bind, sat_tru] at h
      refine ⟨own, Xv, m, env, w, E, W, sat_mono h fun x1 w1 h v1 m1 H1 f1 W1 r1 => ?_⟩
      obtain ⟨b, rfl, h⟩ := h
      have r1 : Rep _ H1 (Av own Xv m1) v1 (.bool b) := r1.1
      cases r1
      exact ⟨b, rfl, h _ m1 H1 f1 W1 ⟨RepD.le (fresh_all md) (.inl ⟨rfl, .bl _⟩), FW.non rfl⟩⟩
    | _ => cases hc
  | _ => cases hc
theorem okT_not (a : E) (ha : OkT tb F n a) : OkT tb F n (.not a) := by
  intro sx ex X hc C
  cases ex with
  | UnaryOp o x pos => cases o with
    | Not =>
      refine PT_imp (pt_not (ha sx x X hc C)) ?_
      rintro σ H Q ⟨own, Xv, m, env, w, E, W, h⟩
      rw [ev_not, tru_not, sat_bind] at h
      exact ⟨own, Xv, m, env, w, E, W, sat_mono h fun b w1 h m1 H1 f1 W1 => h m1 H1 f1 W1⟩
    | _ => cases hc
  | _ => cases hc
/-! ### and, or -/
def tAndE (c : Cn) (cf : Cfg) (mo : Nat → Bool) (es : Es) (f : Cfg → Es → Env → Wd → Res Bool) : TE := fun σ H Q => ∃ (own : Ow) (X : Addr → Prop) (m : List Addr) (env : Env) (w : Wd), EOk c mo own X m H env σ ∧ WOk c own X m H w ∧
  (f cf es env w).sat fun b w' => ∀ m' H', Fr c.K m m' H H' → WOk c own X m' H' w' → Q (.bl b) H'
def tAndT (c : Cn) (cf : Cfg) (mo : Nat → Bool) (es : Es) (f : Cfg → Es → Env → Wd → Res Bool) : TT := fun σ H Q => ∃ (own : Ow) (X : Addr → Prop) (m : List Addr) (env : Env) (w : Wd), EOk c mo own X m H env σ ∧ WOk c own X m H w ∧
  (f cf es env w).sat fun b w' => ∀ m' H', Fr c.K m m' H H' → WOk c own X m' H' w' → Q b H'
def OkAnd (tb : Tbl) (F n : Nat) (es : Es) : Prop := ∀ (sx : Sx) (xs : List Expr) (pos : Pos) (X : Cx), chks sx es xs = true → Ctx tb F n sx X →
  (xs ≠ [] → PE X (.BoolOp .And xs pos) (tAndE (cn X sx.nmf) ⟨callN tb F n, F⟩ sx.mof es evAnd)) ∧ (xs ≠ [] → PW X (.BoolOp .And xs pos) (tAndT (cn X sx.nmf) ⟨callN tb F n, F⟩ sx.mof es evAnd)) ∧
  (xs ≠ [] → PE X (.BoolOp .Or xs pos) (tAndE (cn X sx.nmf) ⟨callN tb F n, F⟩ sx.mof es evOr)) ∧ (xs ≠ [] → PW X (.BoolOp .Or xs pos) (tAndT (cn X sx.nmf) ⟨callN tb F n, F⟩ sx.mof es evOr))
theorem tAndE_one {e : E} {f : Cfg → Es → Env → Wd → Res Bool} (hf : ∀ env w, f cf (.cons e .nil) env w = (ev cf e env w).tru) (σ : L2.St) (H : Hp) (Q : VK) (h : tAndE c cf mo (.cons e .nil) f σ H Q) : tE c cf mo .keep e σ H Q := by
  obtain ⟨own, Xv, m, env, w, E, W, h⟩ := h
  rw [hf, sat_tru] at h
  refine ⟨own, Xv, m, env, w, E, W, sat_mono h fun x w1 h v m1 H1 f1 W1 r => ?_⟩
  obtain ⟨b, rfl, h⟩ := h
  have r : Rep _ H1 (Av own Xv m1) v (.bool b) := r.1
  cases r
  exact h m1 H1 f1 W1
theorem tAndT_one {e : E} {f : Cfg → Es → Env → Wd → Res Bool} (hf : ∀ env w, f cf (.cons e .nil) env w = (ev cf e env w).tru) (σ : L2.St) (H : Hp) (Q : Bool → Hp → Prop) (h : tAndT c cf mo (.cons e .nil) f σ H Q) : tT c cf mo e σ H Q := by
  obtain ⟨own, Xv, m, env, w, E, W, h⟩ := h
  rw [hf] at h
  exact ⟨own, Xv, m, env, w, E, W, h⟩
theorem okAnd_nil : OkAnd tb F n .nil := by
  intro sx xs pos X hc C
  cases xs with
  | nil => exact ⟨fun h => absurd rfl h, fun h => absurd rfl h, fun h => absurd rfl h, fun h => absurd rfl h⟩
  | cons x xs => cases hc
theorem okAnd_cons (e : E) (r : Es) (he : OkE tb F n e) (ht : OkT tb F n e) (hr : OkAnd tb F n r) : OkAnd tb F n (.cons e r) := by
  intro sx xs pos X hc C
  cases xs with
  | nil => cases hc
  | cons x xs =>
    have hc : (chk sx .keep e x && !starB x && chks sx r xs) = true := hc
    rw [Bool.and_eq_true, Bool.and_eq_true] at hc
    have pe := he sx .keep x X hc.1.1 C
    have pt := ht sx x X hc.1.1 C
    obtain ⟨h1, h2, h3, h4⟩ := hr sx xs pos X hc.2 C
    cases xs with
    | nil =>
      cases r with
      | nil =>
        exact ⟨fun _ => PE_imp (pe_one pe) fun σ H Q q => tAndE_one (fun _ _ => rfl) σ H Q q, fun _ => PW_imp (pw_and1 pt) fun σ H Q q => tAndT_one (fun _ _ => rfl) σ H Q q,
          fun _ => PE_imp (pe_one pe) fun σ H Q q => tAndE_one (fun _ _ => rfl) σ H Q q, fun _ => PW_imp (pw_or1 pt) fun σ H Q q => tAndT_one (fun _ _ => rfl) σ H Q q⟩
      | cons e2 r2 => exact absurd hc.2 (by simp [chks])
    | cons x2 xs =>
      cases r with
      | nil => exact absurd hc.2 (by simp [chks])
      | cons e2 r2 =>
        refine ⟨fun _ => PE_imp (pe_and pe (h1 (by simp))) ?_, fun _ => PW_imp (pw_and pt (h2 (by simp))) ?_, fun _ => PE_imp (pe_or pe (h3 (by simp))) ?_, fun _ => PW_imp (pw_or pt (h4 (by simp))) ?_⟩
        · rintro σ H Q ⟨own, Xv, m, env, w, E, W, h⟩
          rw [evAnd_cons, sat_bind, sat_tru] at h
          refine ⟨own, Xv, m, env, w, E, W, sat_mono h fun y w1 h v m1 H1 f1 W1 q => ?_⟩
          obtain ⟨b, rfl, h⟩ := h
          have q : Rep _ H1 (Av own Xv m1) v (.bool b) := q.1
          cases q
          refine ⟨b, rfl, ?_⟩
          cases b with
          | true => exact ⟨own, Xv, m1, env, w1, E.step f1 W, W1, sat_mono h fun y w2 h m2 H2 f2 W2 => h m2 H2 (f1.trans f2) W2⟩
          | false => exact h m1 H1 f1 W1
        · rintro σ H Q ⟨own, Xv, m, env, w, E, W, h⟩
          rw [evAnd_cons, sat_bind] at h
          refine ⟨own, Xv, m, env, w, E, W, sat_mono h fun b w1 h m1 H1 f1 W1 => ?_⟩
          cases b with
          | true => exact ⟨own, Xv, m1, env, w1, E.step f1 W, W1, sat_mono h fun y w2 h m2 H2 f2 W2 => h m2 H2 (f1.trans f2) W2⟩
          | false => exact h m1 H1 f1 W1
        · rintro σ H Q ⟨own, Xv, m, env, w, E, W, h⟩
          rw [evOr_cons, sat_bind, sat_tru] at h
          refine ⟨own, Xv, m, env, w, E, W, sat_mono h fun y w1 h v m1 H1 f1 W1 q => ?_⟩
          obtain ⟨b, rfl, h⟩ := h
          have q : Rep _ H1 (Av own Xv m1) v (.bool b) := q.1
          cases q
          refine ⟨b, rfl, ?_⟩
          cases b with
          | false => exact ⟨own, Xv, m1, env, w1, E.step f1 W, W1, sat_mono h fun y w2 h m2 H2 f2 W2 => h m2 H2 (f1.trans f2) W2⟩
          | true => exact h m1 H1 f1 W1
        · rintro σ H Q ⟨own, Xv, m, env, w, E, W, h⟩
          rw [evOr_cons, sat_bind] at h
          refine ⟨own, Xv, m, env, w, E, W, sat_mono h fun b w1 h m1 H1 f1 W1 => ?_⟩
          cases b with
          | false => exact ⟨own, Xv, m1, env, w1, E.step f1 W, W1, sat_mono h fun y w2 h m2 H2 f2 W2 => h m2 H2 (f1.trans f2) W2⟩
          | true => exact h m1 H1 f1 W1
theorem chks_ne {es : Es} {xs : List Expr} (h : chks sx es xs = true) {env : Env} {w : Wd} {P : Bool → Wd → Prop} (q : (evAnd cf es env w).sat P ∨ (evOr cf es env w).sat P) : xs ≠ [] := by
  cases es with
  | nil => exact q.elim (fun z => z.elim) fun z => z.elim
  | cons e r => cases xs with
    | nil => cases h
    | cons x xs => simp
theorem ok_and (es : Es) (hs : OkAnd tb F n es) : OkE tb F n (.and es) := by
  intro sx md ex X hc C
  cases ex with
  | BoolOp o xs pos => cases o with
    | And =>
      cases xs with
      | nil => cases es with
        | nil =>
          refine ⟨fun pins s σ H Q I h => ?_⟩
          obtain ⟨own, Xv, m, env, w, E, W, h⟩ := h
          exact h.elim
        | cons e r => cases hc
      | cons x xs =>
        refine PE_imp ((hs sx _ pos X hc C).1 (by simp)) ?_
        rintro σ H Q ⟨own, Xv, m, env, w, E, W, h⟩
        rw [ev_and, sat_bind] at h
        exact ⟨own, Xv, m, env, w, E, W, sat_mono h fun b w1 h m1 H1 f1 W1 => h _ m1 H1 f1 W1 ⟨RepD.le (fresh_all md) (.inl ⟨rfl, .bl _⟩), FW.non rfl⟩⟩
    | _ => cases hc
  | _ => cases hc
theorem ok_or (es : Es) (hs : OkAnd tb F n es) : OkE tb F n (.or es) := by
  intro sx md ex X hc C
  cases ex with
  | BoolOp o xs pos => cases o with
    | Or =>
      cases xs with
      | nil => cases es with
        | nil =>
          refine ⟨fun pins s σ H Q I h => ?_⟩
          obtain ⟨own, Xv, m, env, w, E, W, h⟩ := h
          exact h.elim
        | cons e r => cases hc
      | cons x xs =>
        refine PE_imp ((hs sx _ pos X hc C).2.2.1 (by simp)) ?_
        rintro σ H Q ⟨own, Xv, m, env, w, E, W, h⟩
        rw [ev_or, sat_bind] at h
        exact ⟨own, Xv, m, env, w, E, W, sat_mono h fun b w1 h m1 H1 f1 W1 => h _ m1 H1 f1 W1 ⟨RepD.le (fresh_all md) (.inl ⟨rfl, .bl _⟩), FW.non rfl⟩⟩
    | _ => cases hc
  | _ => cases hc
theorem tru_bool {r : Res Bool} : (r.bind fun b w => Res.ok (Vl.d (.bool b)) w).tru = r := by
  cases r <;> rfl
theorem okT_and (es : Es) (hs : OkAnd tb F n es) : OkT tb F n (.and es) := by
  intro sx ex X hc C
  cases ex with
  | BoolOp o xs pos => cases o with
    | And =>
      cases xs with
      | nil => cases es with
        | nil =>
          refine ⟨fun pins s σ H Q I h => ?_⟩
          obtain ⟨own, Xv, m, env, w, E, W, h⟩ := h
          exact h.elim
        | cons e r => cases hc
      | cons x xs =>
        refine PT_imp ((hs sx _ pos X hc C).2.1 (by simp)).pt ?_
        rintro σ H Q ⟨own, Xv, m, env, w, E, W, h⟩
        rw [ev_and, tru_bool] at h
        exact ⟨own, Xv, m, env, w, E, W, h⟩
    | _ => cases hc
  | _ => cases hc
theorem okT_or (es : Es) (hs : OkAnd tb F n es) : OkT tb F n (.or es) := by
  intro sx ex X hc C
  cases ex with
  | BoolOp o xs pos => cases o with
    | Or =>
      cases xs with
      | nil => cases es with
        | nil =>
          refine ⟨fun pins s σ H Q I h => ?_⟩
          obtain ⟨own, Xv, m, env, w, E, W, h⟩ := h
          exact h.elim
        | cons e r => cases hc
      | cons x xs =>
        refine PT_imp ((hs sx _ pos X hc C).2.2.2 (by simp)).pt ?_
        rintro σ H Q ⟨own, Xv, m, env, w, E, W, h⟩
        rw [ev_or, tru_bool] at h
        exact ⟨own, Xv, m, env, w, E, W, h⟩
    | _ => cases hc
  | _ => cases hc
end
end Mx

set_option Elab.async false
set_option linter.all false
set_option maxRecDepth 100000
set_option maxHeartbeats 1000000
/-! Mxb: comparisons, if, displays, slices, calls. -/
namespace Mx
open PySem PySem.Spec L2
section
variable {tb : Tbl} {F n : Nat} {sx : Sx} {X : Cx} {md : Mode} {c : Cn} {cf : Cfg} {mo : Nat → Bool}
theorem band {a b : Bool} (h : (a && b) = true) : a = true ∧ b = true := Bool.and_eq_true _ _ ▸ h
theorem bnot {a : Bool} (h : (!a) = true) : a = false := by cases a with | false => rfl | true => cases h
theorem PE_no {X : Cx} {e : Expr} {t : TE} (h : ∀ σ H Q, ¬ t σ H Q) : PE X e t := ⟨fun pins s σ H Q I q => (h σ H Q q).elim⟩
theorem PT_no {X : Cx} {e : Expr} {t : TT} (h : ∀ σ H Q, ¬ t σ H Q) : PT X e t := ⟨fun pins s σ H Q I q => (h σ H Q q).elim⟩
theorem ok_stuck : OkE tb F n .stuck := fun sx md ex X hc C => PE_no fun σ H Q ⟨own, Xv, m, env, w, E, W, h⟩ => h.elim
theorem okT_stuck : OkT tb F n .stuck := fun sx ex X hc C => PT_no fun σ H Q ⟨own, Xv, m, env, w, E, W, h⟩ => h.elim
theorem isN_of {w' : Wd} {H' : Hp} {m m' : List Addr} {own : Ow} {Xv : Addr → Prop} {H : Hp} {x : Vl} {v : V} (r : RepM c own Xv .look H m' H' w' x v) : decide (v = .non) = x.isN := by
  cases x with
  | d y =>
    have r : RepB c H' (Av own Xv m') m' v y := r.1
    cases r with
    | of r => cases r <;> rfl
    | own r _ => cases y <;> first | rfl | exact r.elim
  | ob i => obtain ⟨a, _, rfl⟩ := r; rfl
  | fn f => obtain ⟨a, _, rfl⟩ := r; rfl
theorem ev_is (cf : Cfg) (a b : E) (env : Env) (w : Wd) : ev cf (.cmp .is a b) env w = (ev cf a env w).bind fun x w => .ok (.d (.bool x.isN)) w := rfl
theorem ev_isnt (cf : Cfg) (a b : E) (env : Env) (w : Wd) : ev cf (.cmp .isnt a b) env w = (ev cf a env w).bind fun x w => .ok (.d (.bool (!x.isN))) w := rfl
theorem tE_is {a b : E} (σ : L2.St) (H : Hp) (Q : VK) (h : tE c cf mo md (.cmp .is a b) σ H Q) : tIsN (tE c cf mo .look a) σ H Q := by
  obtain ⟨own, Xv, m, env, w, E, W, h⟩ := h
  rw [ev_is, sat_bind] at h
  refine ⟨own, Xv, m, env, w, E, W, sat_mono h fun x1 w1 h v1 m1 H1 f1 W1 r1 => ?_⟩
  show Q (.bl (decide (v1 = .non))) H1
  rw [isN_of (m := m) r1]
  exact h _ m1 H1 f1 W1 ⟨RepD.le (fresh_all md) (.inl ⟨rfl, .bl _⟩), FW.non rfl⟩
theorem tE_isnt {a b : E} (σ : L2.St) (H : Hp) (Q : VK) (h : tE c cf mo md (.cmp .isnt a b) σ H Q) : tNotN (tE c cf mo .look a) σ H Q := by
  obtain ⟨own, Xv, m, env, w, E, W, h⟩ := h
  rw [ev_isnt, sat_bind] at h
  refine ⟨own, Xv, m, env, w, E, W, sat_mono h fun x1 w1 h v1 m1 H1 f1 W1 r1 => ?_⟩
  show Q (.bl (!decide (v1 = .non))) H1
  rw [isN_of (m := m) r1]
  exact h _ m1 H1 f1 W1 ⟨RepD.le (fresh_all md) (.inl ⟨rfl, .bl _⟩), FW.non rfl⟩
theorem mark_of {o : CmpOp} {r : Expr} (h : setB r = false) : behindInMarks o r = false := by
  cases r <;> first | rfl | cases h
theorem ev_cmp {op : Cop} (hx : op.isIs = false) (cf : Cfg) (a b : E) (env : Env) (w : Wd) : ev cf (.cmp op a b) env w = (ev cf a env w).dat.bind fun x w => (ev cf b env w).dat.bind fun y w => (ofO (cmpG op x y) w).bind fun z w => .ok (.d z) w := by
  cases op <;> first | rfl | cases hx
theorem both_cmp (op : Cop) (a b : E) (ha : OkE tb F n a) (hb : OkE tb F n b) : OkE tb F n (.cmp op a b) ∧ OkT tb F n (.cmp op a b) := by
  have key : ∀ (sx : Sx) (md : Mode) (ex : Expr) (X : Cx), chk sx md (.cmp op a b) ex = true → Ctx tb F n sx X → PE X ex (tE (cn X sx.nmf) ⟨callN tb F n, F⟩ sx.mof md (.cmp op a b)) ∧ PT X ex (tT (cn X sx.nmf) ⟨callN tb F n, F⟩ sx.mof (.cmp op a b)) := by
    intro sx md ex X hc C
    cases ex with
    | Compare l os rs pos => cases os with
      | nil => cases hc
      | cons o os => cases os with
        | cons _ _ => cases rs <;> cases hc
        | nil => cases rs with
          | nil => cases hc
          | cons r rs => cases rs with
            | cons _ _ => cases hc
            | nil =>
              have hc : (copB op o && chk sx .look a l && (if op.isIs then isNX r else chk sx .peek b r && !setB r)) = true := hc
              obtain ⟨h12, h3⟩ := band hc
              obtain ⟨h1, h2⟩ := band h12
              have pa := ha sx .look l X h2 C
              by_cases hx : op.isIs = true
              · rw [if_pos hx] at h3
                cases r with
                | Constant k j p => cases k with
                  | none =>
                    cases op <;> first | (cases hx; done) | skip
                    · cases o <;> first | (cases h1; done) | skip
                      exact ⟨PE_imp (pe_cmp (pc_isN pa)) fun σ H Q => tE_is σ H Q, PT_imp (pt_cmp (pc_isN pa)) fun σ H Q q => tE_is σ H _ (tT_E q)⟩
                    · cases o <;> first | (cases h1; done) | skip
                      exact ⟨PE_imp (pe_cmp (pc_notN pa)) fun σ H Q => tE_isnt σ H Q, PT_imp (pt_cmp (pc_notN pa)) fun σ H Q q => tE_isnt σ H _ (tT_E q)⟩
                  | _ => cases h3
                | _ => cases h3
              · have hx : op.isIs = false := by simpa using hx
                rw [hx] at h3
                obtain ⟨h3, h4⟩ := band (show (chk sx .peek b r && !setB r) = true from h3)
                have pb := hb sx .peek r X h3 C
                exact ⟨PE_imp (pe_cmpR (cop_of C h1 hx) pa pb (mark_of (bnot h4))) fun σ H Q => tE_bin rfl (fresh_all md) (ev_cmp hx _ a b) σ H Q,
                  PT_imp (pt_cmpR (cop_of C h1 hx) pa pb (mark_of (bnot h4))) fun σ H Q q => tE_bin rfl rfl (ev_cmp hx _ a b) σ H _ (tT_E q)⟩
    | _ => cases hc
  exact ⟨fun sx md ex X hc C => (key sx md ex X hc C).1, fun sx ex X hc C => (key sx .keep ex X hc C).2⟩
theorem ev_cmp2 (cf : Cfg) (op op' : Cop) (a b e : E) (env : Env) (w : Wd) : ev cf (.cmp2 op op' a b e) env w = (ev cf a env w).dat.bind fun x w => (ev cf b env w).dat.bind fun y w => (ofO (cmpD op x y) w).bind fun r w =>
      if r then (ev cf e env w).dat.bind fun z w => (ofO (cmpD op' y z) w).bind fun r w => .ok (.d (.bool r)) w else .ok (.d (.bool false)) w := rfl
theorem tE_cmp2 {op op' : Cop} {a b e : E} (σ : L2.St) (H : Hp) (Q : VK) (h : tE c cf mo md (.cmp2 op op' a b e) σ H Q) : tChain (rG c .fresh (cmpG op)) (rG c .fresh (cmpG op')) (tE c cf mo .look a) (tE c cf mo .look b) (tE c cf mo .peek e) σ H Q := by
  obtain ⟨own, Xv, m, env, w, E, W, h⟩ := h
  rw [ev_cmp2, sat_bind, sat_dat] at h
  refine ⟨own, Xv, m, env, w, E, W, sat_mono h fun x1 w1 h v1 m1 H1 f1 W1 r1 => ?_⟩
  obtain ⟨dx, rfl, h⟩ := h
  rw [sat_bind, sat_dat] at h
  refine ⟨own, Xv, m1, env, w1, E.step f1 W, W1, sat_mono h fun x2 w2 h v2 m2 H2 f2 W2 r2 => ?_⟩
  obtain ⟨dy, rfl, h⟩ := h
  rw [sat_bind, sat_ofO] at h
  obtain ⟨r, hr, h⟩ := h
  have f12 := f1.trans f2
  have r1' : RepB c H1 (Av own Xv m1) m1 v1 dx := r1.1
  have r2' : RepB c H2 (Av own Xv m2) m2 v2 dy := r2.1
  refine ⟨Av own Xv m2, dx, dy, .bool r, W2.dom (E.step f12 W), (r1'.keep f2).all, r2'.all, by rw [cmpG, hr]; rfl, fun v H3 n3 rd => ?_⟩
  have rd : Rep c H3 _ v (.bool r) := RepD.fresh_keep rd
  cases rd
  refine ⟨r, rfl, ?_⟩
  have f3 := f12.trans (n3.fr (K := c.K) (m := m2))
  cases r with
  | false =>
    rw [if_neg (by simp)] at h ⊢
    exact h _ m2 H3 f3 (W2.new n3) ⟨RepD.le (fresh_all md) (.inl ⟨rfl, .bl _⟩), FW.non rfl⟩
  | true =>
    rw [if_pos rfl] at h ⊢
    rw [sat_bind, sat_dat] at h
    refine ⟨own, Xv, m2, env, w2, E.step f3 W, W2.new n3, sat_mono h fun x4 w4 h v4 m4 H4 f4 W4 r4 => ?_⟩
    obtain ⟨dz, rfl, h⟩ := h
    rw [sat_bind, sat_ofO] at h
    obtain ⟨r5, hr5, h⟩ := h
    have r4' : RepB c H4 (Av own Xv m4) [] v4 dz := r4.1
    have f4' := f3.trans f4
    refine ⟨Av own Xv m4, dy, dz, .bool r5, W4.dom (E.step f4' W), ((r2'.keep (n3.fr (K := c.K) (m := m2))).keep f4).all, r4', by rw [cmpG, hr5]; rfl, fun v5 H5 n5 rd => ?_⟩
    exact h v5 m4 H5 (f4'.trans n5.fr) (W4.new n5) ⟨(rd.back rfl f4' W4).le (fresh_all md), FW.new n5 W4 rd⟩
theorem both_cmp2 (op op' : Cop) (a b e : E) (ha : OkE tb F n a) (hb : OkE tb F n b) (he : OkE tb F n e) : OkE tb F n (.cmp2 op op' a b e) ∧ OkT tb F n (.cmp2 op op' a b e) := by
  have key : ∀ (sx : Sx) (md : Mode) (ex : Expr) (X : Cx), chk sx md (.cmp2 op op' a b e) ex = true → Ctx tb F n sx X → PE X ex (tE (cn X sx.nmf) ⟨callN tb F n, F⟩ sx.mof md (.cmp2 op op' a b e)) ∧ PT X ex (tT (cn X sx.nmf) ⟨callN tb F n, F⟩ sx.mof (.cmp2 op op' a b e)) := by
    intro sx md ex X hc C
    cases ex with
    | Compare l os rs pos =>
      rcases os with _ | ⟨o, _ | ⟨o', _ | ⟨_, _⟩⟩⟩ <;> rcases rs with _ | ⟨r, _ | ⟨r', _ | ⟨_, _⟩⟩⟩ <;> first | (cases hc; done) | skip
      have hc : (copB op o && copB op' o' && chk sx .look a l && chk sx .look b r && chk sx .peek e r' && !setB r' && !op.isIs && !op'.isIs) = true := hc
      obtain ⟨hc, g8⟩ := band hc
      obtain ⟨hc, g7⟩ := band hc
      obtain ⟨hc, g6⟩ := band hc
      obtain ⟨hc, g5⟩ := band hc
      obtain ⟨hc, g4⟩ := band hc
      obtain ⟨hc, g3⟩ := band hc
      obtain ⟨g1, g2⟩ := band hc
      have hm : lastMarks [o, o'] [r, r'] = false := mark_of (bnot g6)
      exact ⟨PE_imp (pe_chain (cop_of C g1 (bnot g7)) (cop_of C g2 (bnot g8)) (ha sx _ l X g3 C) (hb sx _ r X g4 C) (he sx _ r' X g5 C) hm) fun σ H Q => tE_cmp2 σ H Q,
        PT_imp (pt_chain (cop_of C g1 (bnot g7)) (cop_of C g2 (bnot g8)) (ha sx _ l X g3 C) (hb sx _ r X g4 C) (he sx _ r' X g5 C) hm) fun σ H Q q => tE_cmp2 σ H _ (tT_E q)⟩
    | _ => cases hc
  exact ⟨fun sx md ex X hc C => (key sx md ex X hc C).1, fun sx ex X hc C => (key sx .keep ex X hc C).2⟩
/-! ### if -/
def tIfT (t ta tb : TT) : TT := fun σ H Q => t σ H fun k H1 => if k = true then ta σ H1 Q else tb σ H1 Q
theorem pt_ifExp {a b x : Expr} {pos : Pos} {t ta tb : TT} (hc : PT X x t) (ha : PT X a ta) (hb : PT X b tb) : PT X (.IfExp x a b pos) (tIfT t ta tb) := by
  refine ⟨fun pins s σ H Q I h => ?_⟩
  refine PyProof.Rows.isTrue_IfExp (thn (hc.run pins s σ H _ I h) fun d s1 ⟨H1, I1, q1⟩ => ?_)
  cases d with
  | true => exact ha.run pins s1 σ H1 Q I1 q1
  | false => exact hb.run pins s1 σ H1 Q I1 q1
theorem ev_ite (cf : Cfg) (t a b : E) (env : Env) (w : Wd) : ev cf (.ite t a b) env w = (ev cf t env w).tru.bind fun x w => if x then ev cf a env w else ev cf b env w := rfl
/-- a result that is asked of a later heap -/
theorem RepM.first {own : Ow} {Xv : Addr → Prop} {m m1 m2 : List Addr} {H H1 H2 : Hp} {x : Vl} {v : V} {w1 : Wd} (f : Fr c.K m m1 H H1) (W : WOk c own Xv m1 H1 w1) {w2 : Wd} (r : RepM c own Xv md H1 m2 H2 w2 x v) : RepM c own Xv md H m2 H2 w2 x v := by
  cases x with
  | d y => cases md with
    | peek => exact ⟨r.1, r.2⟩
    | look => exact ⟨r.1, r.2⟩
    | keep => exact ⟨r.1, r.2⟩
    | fresh => exact ⟨RepD.back (m0 := m2) (m1 := m2) rfl f W (md := .fresh) r.1, r.2⟩
  | ob i => exact r
  | fn g => exact r
theorem ok_ite (t a b : E) (ht : OkT tb F n t) (ha : OkE tb F n a) (hb : OkE tb F n b) : OkE tb F n (.ite t a b) := by
  intro sx md ex X hc C
  cases ex with
  | IfExp tx ax bx pos =>
    have hc : (chk sx .keep t tx && chk sx md a ax && chk sx md b bx) = true := hc
    obtain ⟨hc, h3⟩ := band hc
    obtain ⟨h1, h2⟩ := band hc
    refine PE_imp (pe_ifExp (ht sx tx X h1 C) (ha sx md ax X h2 C) (hb sx md bx X h3 C)) ?_
    rintro σ H Q ⟨own, Xv, m, env, w, E, W, h⟩
    rw [ev_ite, sat_bind] at h
    refine ⟨own, Xv, m, env, w, E, W, sat_mono h fun k w1 h m1 H1 f1 W1 => ?_⟩
    cases k with
    | true =>
      rw [if_pos rfl] at h ⊢
      exact ⟨own, Xv, m1, env, w1, E.step f1 W, W1, sat_mono h fun x w2 h v m2 H2 f2 W2 r => h v m2 H2 (f1.trans f2) W2 (r.first f1 W1)⟩
    | false =>
      rw [if_neg (by simp)] at h ⊢
      exact ⟨own, Xv, m1, env, w1, E.step f1 W, W1, sat_mono h fun x w2 h v m2 H2 f2 W2 r => h v m2 H2 (f1.trans f2) W2 (r.first f1 W1)⟩
  | _ => cases hc
theorem tru_bind {α : Type} {r : Res α} {f : α → Wd → Res Vl} : (r.bind f).tru = r.bind fun a w => (f a w).tru := by cases r <;> rfl
theorem okT_ite (t a b : E) (ht : OkT tb F n t) (ha : OkT tb F n a) (hb : OkT tb F n b) : OkT tb F n (.ite t a b) := by
  intro sx ex X hc C
  cases ex with
  | IfExp tx ax bx pos =>
    have hc : (chk sx .keep t tx && chk sx .keep a ax && chk sx .keep b bx) = true := hc
    obtain ⟨hc, h3⟩ := band hc
    obtain ⟨h1, h2⟩ := band hc
    refine PT_imp (pt_ifExp (ht sx tx X h1 C) (ha sx ax X h2 C) (hb sx bx X h3 C)) ?_
    rintro σ H Q ⟨own, Xv, m, env, w, E, W, h⟩
    rw [ev_ite, tru_bind, sat_bind] at h
    refine ⟨own, Xv, m, env, w, E, W, sat_mono h fun k w1 h m1 H1 f1 W1 => ?_⟩
    cases k with
    | true =>
      rw [if_pos rfl] at h ⊢
      exact ⟨own, Xv, m1, env, w1, E.step f1 W, W1, sat_mono h fun x w2 h m2 H2 f2 W2 => h m2 H2 (f1.trans f2) W2⟩
    | false =>
      rw [if_neg (by simp)] at h ⊢
      exact ⟨own, Xv, m1, env, w1, E.step f1 W, W1, sat_mono h fun x w2 h m2 H2 f2 W2 => h m2 H2 (f1.trans f2) W2⟩
  | _ => cases hc
/-! ### displays -/
def tEs (c : Cn) (cf : Cfg) (mo : Nat → Bool) (es : Es) : TA := fun σ H Q => ∃ (own : Ow) (X : Addr → Prop) (m : List Addr) (env : Env) (w : Wd), EOk c mo own X m H env σ ∧ WOk c own X m H w ∧
  (evs cf es env w).sat fun xs w' => ∀ vs m' H', Fr c.K m m' H H' → WOk c own X m' H' w' → Reps c H' (Av own X m') vs xs → Q vs H'
def tAs (c : Cn) (cf : Cfg) (mo : Nat → Bool) (es : Es) : TA := fun σ H Q => ∃ (own : Ow) (X : Addr → Prop) (m : List Addr) (env : Env) (w : Wd), EOk c mo own X m H env σ ∧ WOk c own X m H w ∧
  (evA cf es env w).sat fun xs w' => ∀ vs m' H', Fr c.K m m' H H' → WOk c own X m' H' w' → Paired (RepV c H' (Av own X m') m') xs vs → Q vs H'
def OkEs (tb : Tbl) (F n : Nat) (es : Es) : Prop := ∀ (sx : Sx) (xs : List Expr) (X : Cx), chks sx es xs = true → Ctx tb F n sx X → PA X xs (tEs (cn X sx.nmf) ⟨callN tb F n, F⟩ sx.mof es)
def OkAs (tb : Tbl) (F n : Nat) (es : Es) : Prop := ∀ (sx : Sx) (xs : List Expr) (X : Cx), chks sx es xs = true → Ctx tb F n sx X → PA X xs (tAs (cn X sx.nmf) ⟨callN tb F n, F⟩ sx.mof es)
theorem star_of {x : Expr} {xs : List Expr} {env : PySem.Env} (h : starB x = false) : starEach (x :: xs) env = (false, eval x env) :: starEach xs env := by
  cases x <;> first | rfl | cases h
theorem okEs_nil : OkEs tb F n .nil := by
  intro sx xs X hc C
  cases xs with
  | nil => exact PA_imp pa_nil fun σ H Q ⟨own, Xv, m, env, w, E, W, h⟩ => h [] m H Fr.refl W .nil
  | cons x xs => cases hc
theorem okAs_nil : OkAs tb F n .nil := by
  intro sx xs X hc C
  cases xs with
  | nil => exact PA_imp pa_nil fun σ H Q ⟨own, Xv, m, env, w, E, W, h⟩ => h [] m H Fr.refl W .nil
  | cons x xs => cases hc
theorem evs_cons (cf : Cfg) (e : E) (r : Es) (env : Env) (w : Wd) : evs cf (.cons e r) env w = (ev cf e env w).dat.bind fun x w => (evs cf r env w).bind fun xs w => .ok (x :: xs) w := rfl
theorem evA_cons (cf : Cfg) (e : E) (r : Es) (env : Env) (w : Wd) : evA cf (.cons e r) env w = (ev cf e env w).bind fun x w => (evA cf r env w).bind fun xs w => .ok (x :: xs) w := rfl
theorem okEs_cons (e : E) (r : Es) (he : OkE tb F n e) (hr : OkEs tb F n r) : OkEs tb F n (.cons e r) := by
  intro sx xs X hc C
  cases xs with
  | nil => cases hc
  | cons x xs =>
    have hc : (chk sx .keep e x && !starB x && chks sx r xs) = true := hc
    obtain ⟨hc, h3⟩ := band hc
    obtain ⟨h1, h2⟩ := band hc
    refine PA_imp (pa_cons (he sx .keep x X h1 C) (hr sx xs X h3 C) (star_of (bnot h2))) ?_
    rintro σ H Q ⟨own, Xv, m, env, w, E, W, h⟩
    rw [evs_cons, sat_bind, sat_dat] at h
    refine ⟨own, Xv, m, env, w, E, W, sat_mono h fun x1 w1 h v1 m1 H1 f1 W1 r1 => ?_⟩
    obtain ⟨dx, rfl, h⟩ := h
    rw [sat_bind] at h
    refine ⟨own, Xv, m1, env, w1, E.step f1 W, W1, sat_mono h fun ds w2 h vs m2 H2 f2 W2 r2 => ?_⟩
    have r1' : Rep _ H1 (Av own Xv m1) v1 dx := r1.1
    exact h (v1 :: vs) m2 H2 (f1.trans f2) W2 (.cons (r1'.keep f2.kp') r2)
theorem okAs_cons (e : E) (r : Es) (he : OkE tb F n e) (hr : OkAs tb F n r) : OkAs tb F n (.cons e r) := by
  intro sx xs X hc C
  cases xs with
  | nil => cases hc
  | cons x xs =>
    have hc : (chk sx .keep e x && !starB x && chks sx r xs) = true := hc
    obtain ⟨hc, h3⟩ := band hc
    obtain ⟨h1, h2⟩ := band hc
    refine PA_imp (pa_cons (he sx .keep x X h1 C) (hr sx xs X h3 C) (star_of (bnot h2))) ?_
    rintro σ H Q ⟨own, Xv, m, env, w, E, W, h⟩
    rw [evA_cons, sat_bind] at h
    refine ⟨own, Xv, m, env, w, E, W, sat_mono h fun x1 w1 h v1 m1 H1 f1 W1 r1 => ?_⟩
    rw [sat_bind] at h
    refine ⟨own, Xv, m1, env, w1, E.step f1 W, W1, sat_mono h fun ds w2 h vs m2 H2 f2 W2 r2 => ?_⟩
    have r1' : RepV (cn X sx.nmf) H1 (Av own Xv m1) m1 x1 v1 := by cases x1 <;> first | exact r1.1 | exact r1
    exact h (v1 :: vs) m2 H2 (f1.trans f2) W2 (.cons (r1'.keep f2 f2.kp') r2)
theorem ev_tup (cf : Cfg) (es : Es) (env : Env) (w : Wd) : ev cf (.tup es) env w = (evs cf es env w).bind fun xs w => if fits xs.length then .ok (.d (.tuple xs)) w else .stuck := rfl
theorem ev_lst (cf : Cfg) (es : Es) (env : Env) (w : Wd) : ev cf (.lst es) env w = (evs cf es env w).bind fun xs w => if fits xs.length then .ok (.d (.list xs)) w else .stuck := rfl
theorem sat_ite {α : Type} {p : Bool} {r r' : Res α} {P : α → Wd → Prop} : (if p then r else r').sat P ↔ (p = true ∧ r.sat P) ∨ (p = false ∧ r'.sat P) := by
  cases p <;> simp
theorem sat_if {α : Type} {p : Bool} {r : Res α} {P : α → Wd → Prop} (h : (if p then r else .stuck).sat P) : p = true ∧ r.sat P := by
  cases p with
  | true => exact ⟨rfl, h⟩
  | false => exact h.elim
/-- (..): a new tuple -/
def tTupP (t : TA) : TE := fun σ H Q => t σ H fun vs H1 => vs.length ≤ sizeLine ∧ ∀ p o, H1 p = none → o.dict = none → Q (.ref p) (upd H1 p (.frz o (.tup vs)))
theorem pe_tupP {es : List Expr} {t : TA} {k : Nat} {pos : Pos} (h : PA X es t) : PE X (.Tuple es k pos) (tTupP t) :=
  ⟨fun pins s σ H Q I hq => wpAny_Tuple_spliced (thn (h.run pos pins s σ H _ I hq) fun us s1 ⟨xs, H1, I1, r, z, q⟩ => ⟨by rw [← r.length]; exact z, .ref s1.heap.objs.size, _, lay_tup I1 r z, rfl, q _ _ (I1.hok.fresh (Nat.le_refl _)) rfl⟩)⟩
theorem ok_tup (es : Es) (hs : OkEs tb F n es) : OkE tb F n (.tup es) := by
  intro sx md ex X hc C
  cases ex with
  | Tuple xs k pos =>
    refine PE_imp (pe_tupP (hs sx xs X hc C)) ?_
    rintro σ H Q ⟨own, Xv, m, env, w, E, W, h⟩
    rw [ev_tup, sat_bind] at h
    refine ⟨own, Xv, m, env, w, E, W, sat_mono h fun ds w1 h vs m1 H1 f1 W1 r1 => ?_⟩
    obtain ⟨hf, h⟩ := sat_if h
    refine ⟨by rw [r1.length]; exact fits_le hf, fun p o hp ho => ?_⟩
    have nw : New H1 (upd H1 p (.frz o (.tup vs))) := .one hp
    exact h _ m1 _ (f1.trans nw.fr) (W1.new nw) ⟨RepD.le (fresh_all md) (RepD.back (m1 := m1) rfl f1 W1 (freshT (m := m1) hp ho r1)), FW.non rfl⟩
  | _ => cases hc
theorem ok_lst (es : Es) (hs : OkEs tb F n es) : OkE tb F n (.lst es) := by
  intro sx md ex X hc C
  cases ex with
  | List xs pos =>
    refine PE_imp (pe_lst (hs sx xs X hc C)) ?_
    rintro σ H Q ⟨own, Xv, m, env, w, E, W, h⟩
    rw [ev_lst, sat_bind] at h
    refine ⟨own, Xv, m, env, w, E, W, sat_mono h fun ds w1 h vs m1 H1 f1 W1 r1 => ?_⟩
    obtain ⟨hf, h⟩ := sat_if h
    refine ⟨by rw [r1.length]; exact fits_le hf, fun p hp => ?_⟩
    have nw : New H1 (upd H1 p (.lst vs)) := .one hp
    exact h _ m1 _ (f1.trans nw.fr) (W1.new nw) ⟨RepD.le (fresh_all md) (RepD.back (m1 := m1) rfl f1 W1 (freshL (m := m1) hp (W1.dom (E.step f1 W)) r1)), FW.new nw W1 (freshL (m := m1) hp (W1.dom (E.step f1 W)) r1)⟩
  | _ => cases hc
/-! ### slices -/
def tO (c : Cn) (cf : Cfg) (mo : Nat → Bool) (o : Eo) : TO := fun σ H Q => ∃ (own : Ow) (X : Addr → Prop) (m : List Addr) (env : Env) (w : Wd), EOk c mo own X m H env σ ∧ WOk c own X m H w ∧
  (evO cf o env w).sat fun i w' => ∀ m' H', Fr c.K m m' H H' → WOk c own X m' H' w' → Q i H'
theorem PO_imp {X : Cx} {e : Option Expr} {t t' : TO} (h : PO X e t) (i : ∀ σ H Q, t' σ H Q → t σ H Q) : PO X e t' := ⟨fun pins s σ H Q I q => h.run pins s σ H Q I (i σ H Q q)⟩
def OkO (tb : Tbl) (F n : Nat) (o : Eo) : Prop := ∀ (sx : Sx) (x : Option Expr) (X : Cx), chkO sx o x = true → Ctx tb F n sx X → PO X x (tO (cn X sx.nmf) ⟨callN tb F n, F⟩ sx.mof o)
theorem okO_none : OkO tb F n .none := by
  intro sx x X hc C
  cases x with
  | none => exact PO_imp po_none fun σ H Q ⟨own, Xv, m, env, w, E, W, h⟩ => h m H Fr.refl W
  | some x => cases hc
theorem okO_some (e : E) (he : OkE tb F n e) : OkO tb F n (.some e) := by
  intro sx x X hc C
  cases x with
  | none => cases hc
  | some x =>
    refine PO_imp (po_some (he sx .peek x X hc C)) ?_
    rintro σ H Q ⟨own, Xv, m, env, w, E, W, h⟩
    rw [show evO _ (.some e) env w = (ev _ e env w).num.bind fun i w => .ok (some i) w from rfl, sat_bind, sat_num] at h
    refine ⟨own, Xv, m, env, w, E, W, sat_mono h fun x1 w1 h v1 m1 H1 f1 W1 r1 => ?_⟩
    obtain ⟨i, rfl, h⟩ := h
    have r1' : RepB _ H1 (Av own Xv m1) [] v1 (.int i) := r1.1
    obtain rfl := r1'.int
    exact ⟨i, rfl, h m1 H1 f1 W1⟩
theorem sl_tupP : SlR X (fun x lo hi H Q => ∃ a xs, x = .ref a ∧ SqT X.K H a xs ∧ (HT.sIx xs.length 0 lo = 0 ∧ HT.sIx xs.length xs.length hi = xs.length → Q (.ref a) H) ∧
    (¬ (HT.sIx xs.length 0 lo = 0 ∧ HT.sIx xs.length xs.length hi = xs.length) → ∀ p o, H p = none → o.dict = none → Q (.ref p) (upd H p (.frz o (.tup (cutV xs lo hi)))))) := by
  rintro pins s σ H x v vl vu lo hi sl Q I rx hs pl pu ⟨a, xs, rfl, hx, q1, q2⟩
  cases rx
  obtain ⟨its, r, ht, hz⟩ := I.tuple hx
  have hlen : its.toArray.size = xs.length := by rw [List.size_toArray]; exact r.length.symm
  refine ⟨"tuple", _, PyProof.Rows.slot_tuple_getitem.lookup, ht.typeIs, ?_⟩
  by_cases hw : HT.sIx xs.length 0 lo = 0 ∧ HT.sIx xs.length xs.length hi = xs.length
  · exact getItem_tuple_whole ht hs pl pu (by rw [hlen]; exact hw) ⟨.ref a, H, I, rfl, q1 hw⟩
  · refine HT.getItem_tuple_cut ht hs pl pu (by rw [hlen]; exact hw) ?_ (by rw [hlen]; exact hz)
    rw [hlen]
    exact ⟨.ref s.heap.objs.size, _, lay_tup I ((r.drop (HT.sIx xs.length 0 lo)).take (HT.sIx xs.length xs.length hi - HT.sIx xs.length 0 lo)) (Nat.le_trans (cutV_length xs lo hi) hz), rfl, q2 hw _ _ (I.hok.fresh (Nat.le_refl _)) rfl⟩
def rSlM (c : Cn) : V → Option Int → Option Int → Hp → VK → Prop := fun x lo hi H Q => ∃ (A : Addr → Prop) (dx z : D), Dom A H ∧ RepB c H A [] x dx ∧ sliD dx lo hi = some z ∧ ∀ v H', New H H' → RepD c .fresh H H' A [] v z → Q v H'
theorem sl_M {nm : Nat → Str} : SlR X (rSlM (cn X nm)) := by
  intro pins s σ H x v vl vu lo hi sl Q I rx hs pl pu ⟨A, dx, z, hA, hx, hg, q⟩
  cases dx with
  | list xs =>
    obtain ⟨a, vs, rfl, ha, ra⟩ := hx.lst
    cases hg
    exact sl_list pins s σ H _ v vl vu lo hi sl Q I rx hs pl pu ⟨a, vs, rfl, ha, fun p hp => q _ _ (.one hp) (freshL hp hA (ra.cut lo hi))⟩
  | tuple xs =>
    obtain ⟨a, vs, rfl, ha, ra⟩ := hx.tup
    cases hg
    refine sl_tupP pins s σ H _ v vl vu lo hi sl Q I rx hs pl pu ⟨a, vs, rfl, ha.sq, fun e => ?_, fun _ p o hp ho => q _ _ (.one hp) (freshT hp ho (ra.cut lo hi))⟩
    have e2 : cut xs lo hi = xs := by
      rw [ra.length] at e
      unfold cut
      rw [e.1, e.2, List.drop_zero, Nat.sub_zero, List.take_length]
    exact q _ _ .same (freshS (by rw [e2]; exact .tup ha ra) rfl)
  | _ => cases hg
theorem ev_sli (cf : Cfg) (a : E) (lo hi : Eo) (env : Env) (w : Wd) : ev cf (.sli a lo hi) env w = (ev cf a env w).dat.bind fun x w => (evO cf lo env w).bind fun l w => (evO cf hi env w).bind fun h w => (ofO (sliD x l h) w).bind fun z w => .ok (.d z) w := rfl
theorem ok_sli (a : E) (lo hi : Eo) (ha : OkE tb F n a) (hl : OkO tb F n lo) (hh : OkO tb F n hi) : OkE tb F n (.sli a lo hi) := by
  intro sx md ex X hc C
  cases ex with
  | Subscript v s pos => cases s with
    | Slice l u st p2 => cases st with
      | some _ => cases hc
      | none =>
        have hc : (chk sx .look a v && chkO sx lo l && chkO sx hi u) = true := hc
        obtain ⟨hc, h3⟩ := band hc
        obtain ⟨h1, h2⟩ := band hc
        refine PE_imp (pe_slice (sl_M (nm := sx.nmf)) (ha sx .look v X h1 C) (hl sx l X h2 C) (hh sx u X h3 C)) ?_
        rintro σ H Q ⟨own, Xv, m, env, w, E, W, h⟩
        rw [ev_sli, sat_bind, sat_dat] at h
        refine ⟨own, Xv, m, env, w, E, W, sat_mono h fun x1 w1 h v1 m1 H1 f1 W1 r1 => ?_⟩
        obtain ⟨dx, rfl, h⟩ := h
        rw [sat_bind] at h
        refine ⟨own, Xv, m1, env, w1, E.step f1 W, W1, sat_mono h fun i w2 h m2 H2 f2 W2 => ?_⟩
        rw [sat_bind] at h
        have f12 := f1.trans f2
        refine ⟨own, Xv, m2, env, w2, E.step f12 W, W2, sat_mono h fun j w3 h m3 H3 f3 W3 => ?_⟩
        rw [sat_bind, sat_ofO] at h
        obtain ⟨z, hz, h⟩ := h
        have f13 := f12.trans f3
        have r1' : RepB _ H1 (Av own Xv m1) m1 v1 dx := r1.1
        refine ⟨Av own Xv m3, dx, z, W3.dom (E.step f13 W), ((r1'.keep f2).keep f3).all, hz, fun v H' n rd => ?_⟩
        exact h v m3 H' (f13.trans n.fr) (W3.new n) ⟨(rd.back rfl f13 W3).le (fresh_all md), FW.new n W3 rd⟩
    | _ => cases hc
  | _ => cases hc
/-! ### calls -/
def Pk (own : Ow) (Xv : Addr → Prop) : Addr → Prop := fun b => (∃ i, (i, b) ∈ own) ∨ Xv b
theorem pk_av {own : Ow} {Xv : Addr → Prop} {m : List Addr} (b : Addr) : Av [] (Pk own Xv) m b ↔ Av own Xv m b := by
  unfold Av Pk
  simp
theorem WOk.pack {own : Ow} {Xv : Addr → Prop} {m : List Addr} {H : Hp} {w : Wd} (W : WOk c own Xv m H w) : WOk c [] (Pk own Xv) m H w where
  len := W.len
  nd := W.nd
  ob := fun i a o e1 e2 => (W.ob i a o e1 e2).keep Fr.refl (.less fun b h z => h ((pk_av b).mp z)) fun _ e => e
  dis := fun b hb => ⟨fun i h => (List.not_mem_nil h).elim, fun z => z.elim (fun ⟨i, h⟩ => (W.dis b hb).1 i h) (W.dis b hb).2⟩
theorem WOk.unpack {own : Ow} {Xv : Addr → Prop} {m : List Addr} {H : Hp} {w : Wd} (W : WOk c [] (Pk own Xv) m H w) : WOk c own Xv m H w where
  len := W.len
  nd := W.nd
  ob := fun i a o e1 e2 => (W.ob i a o e1 e2).keep Fr.refl (.less fun b h z => h ((pk_av b).mpr z)) fun _ e => e
  dis := fun b hb => ⟨fun i h => (W.dis b hb).2 (.inl ⟨i, h⟩), fun z => (W.dis b hb).2 (.inr z)⟩
theorem EOk.pkd {own : Ow} {Xv : Addr → Prop} {m : List Addr} {H : Hp} {env : Env} {σ : L2.St} (E : EOk c mo own Xv m H env σ) : ∀ b, Pk own Xv b → ∃ o, H b = some o := fun b hb => by
  rcases hb with ⟨i, h⟩ | h
  · obtain ⟨_, _, d, _, _, q⟩ := E.hown i b h
    exact q.tracked
  · exact E.xd b h
theorem any_of {es : Es} {xs : List Expr} {env : PySem.Env} {pos : Pos} : ∀ {es : Es} {xs : List Expr}, chks sx es xs = true → (backTo pos (starEach xs env)).any (·.1) = false := by
  have key : ∀ {xs : List Expr} {es : Es}, chks sx es xs = true → ∀ p ∈ starEach xs env, p.1 = false := by
    intro xs
    induction xs with
    | nil => intro es _ p hp; exact (List.not_mem_nil hp).elim
    | cons x xs ih =>
      intro es h p hp
      cases es with
      | nil => cases h
      | cons e r =>
        have h : (chk sx .keep e x && !starB x && chks sx r xs) = true := h
        obtain ⟨h, h3⟩ := band h
        obtain ⟨h1, h2⟩ := band h
        rw [star_of (bnot h2)] at hp
        rcases List.mem_cons.mp hp with rfl | hp
        · rfl
        · exact ih h3 p hp
  intro es xs h
  have := key (es := es) h
  rw [List.any_eq_false]
  intro p hp
  unfold backTo at hp
  obtain ⟨q, hq, rfl⟩ := List.mem_map.mp hp
  have := this q hq
  simp [this]
theorem no_sat {α : Type} {r : Res α} {P : α → Wd → Prop} (h : r.sat P) (k : ∀ a w, ¬ P a w) : False := by
  cases r with
  | ok a w => exact k a w h
  | _ => exact h
theorem ev_call (cf : Cfg) (f : Nat) (es : Es) (env : Env) (w : Wd) : ev cf (.call f es) env w = (evA cf es env w).bind fun xs w => cf.call f xs w := rfl
theorem no_call {f : Nat} (h : tb.lookup f = none) (xs : List Vl) (w : Wd) (P : Vl → Wd → Prop) : ¬ (callN tb F n f xs w).sat P := by
  cases n with
  | zero => exact fun h => h
  | succ n => unfold callN; rw [h]; exact fun h => h
theorem room_less {k j : Nat} {A : Around} (h : Room k A) (hj : j ≤ k) : Room j A := ⟨h.hd, by have := h.dp; omega, by have := h.un; omega⟩
theorem rep_v {w' : Wd} {own : Ow} {Xv : Addr → Prop} {m' : List Addr} {H H' : Hp} {x : Vl} {v : V} (hmd : md.le .keep = true) (r : RepV c H' (Av [] (Pk own Xv) m') m' x v) : RepM c own Xv md H m' H' w' x v := by
  have r2 : RepV c H' (Av own Xv m') m' x v := r.keep Fr.refl (.less fun b h z => h ((pk_av b).mpr z))
  cases x with
  | d y => exact ⟨RepD.le (md' := .keep) hmd r2, FW.low hmd⟩
  | ob i => exact r2
  | fn f => exact r2
theorem tE_call {f : Nat} {es : Es} (hmd : md.le .keep = true) (σ : L2.St) (H : Hp) (Q : VK) (h : tE c ⟨callN tb F n, F⟩ mo md (.call f es) σ H Q) : tCall (spF c tb F n f) [] E0 (tAs c ⟨callN tb F n, F⟩ mo es) σ H Q := by
  obtain ⟨own, Xv, m, env, w, E, W, h⟩ := h
  rw [ev_call, sat_bind] at h
  refine ⟨own, Xv, m, env, w, E, W, sat_mono h fun xs w1 h vs m1 H1 f1 W1 r1 => ?_⟩
  refine ⟨Pk own Xv, m1, w1, xs, W1.pack, (E.step f1 W).pkd, ?_, sat_mono h fun x w2 h v m2 H2 f2 W2 r => h v m2 H2 (f1.trans f2) W2.unpack (rep_v hmd r)⟩
  rw [List.append_nil]
  exact Paired.mapP r1 fun _ _ q => q.keep Fr.refl (.less fun b h z => h ((pk_av b).mp z))
theorem ok_call (f : Nat) (es : Es) (hs : OkAs tb F n es) : OkE tb F n (.call f es) := by
  intro sx md ex X hc C
  cases ex with
  | Call fx xs kw pos => cases fx with
    | Name x p => cases kw with
      | cons _ _ => cases hc
      | nil =>
        have hc : ((sx.mth.lookup f).isNone && decide (sx.nmf f = x) && globB sx.sc x && plainName x && chks sx es xs && md.le .keep) = true := hc
        obtain ⟨hc, h5⟩ := band hc
        obtain ⟨hc, h4⟩ := band hc
        obtain ⟨hc, h3⟩ := band hc
        obtain ⟨hc, h2⟩ := band hc
        obtain ⟨h0, h1⟩ := band hc
        have h1 := of_decide_eq_true h1
        obtain ⟨p1, p2, p3⟩ := plain_of h3
        cases hl : tb.lookup f with
        | none =>
          refine PE_no ?_
          rintro σ H Q ⟨own, Xv, m, env, w, E, W, h⟩
          rw [ev_call, sat_bind] at h
          exact no_sat h fun xs w1 => no_call hl xs w1 _
        | some d =>
          obtain ⟨fa, fd, g1, g2, g3, g4⟩ := C.fns f d hl
          have g1 : X.mg (sx.nmf f) = some (.ref fa) := by
            unfold FA at g1
            rw [Option.isNone_iff_eq_none.mp h0] at g1
            exact g1
          rw [h1] at g1
          cases xs with
          | nil =>
            refine PE_imp (pe_call0 g4 (room_less C.room (by omega)) (gl_of C h2) g1 g2 g3 .nil passL p1) fun σ H Q q => ?_
            cases es with
            | cons _ _ => cases h4
            | nil =>
              obtain ⟨own, Xv, m, env, w, E, W, h⟩ := tE_call h5 σ H Q q
              exact h [] m H Fr.refl W .nil
          | cons e es' =>
            have hst : starB e = false := by
              cases es with
              | nil => cases h4
              | cons e0 r0 => exact bnot (band (band (show (chk sx .keep e0 e && !starB e && chks sx r0 es') = true from h4)).1).2
            have hr : (backTo pos (starEach es' X.env)).any (·.1) = false := by
              cases es with
              | nil => cases h4
              | cons e0 r0 => exact any_of (es := r0) (xs := es') (band (show (chk sx .keep e0 e && !starB e && chks sx r0 es') = true from h4)).2
            exact PE_imp (pe_call g4 (room_less C.room (by omega)) (gl_of C h2) g1 g2 g3 .nil passL (hs sx _ X h4 C) p1 (star_of hst) hr) fun σ H Q q => tE_call h5 σ H Q q
    | _ => cases hc
  | _ => cases hc
end
end Mx

set_option Elab.async false
set_option linter.all false
set_option maxRecDepth 100000
set_option maxHeartbeats 1000000
/-! Mxc: targets, iterables. -/
namespace Mx
open PySem PySem.Spec L2
section
variable {tb : Tbl} {F n : Nat} {sx : Sx} {X : Cx} {md : Mode} {c : Cn} {cf : Cfg} {mo : Nat → Bool} {own : Ow} {Xv : Addr → Prop} {m m' : List Addr} {H H' : Hp} {env env' : Env} {σ σ' : L2.St} {w w' : Wd} {A : Addr → Prop}
theorem set_get {α : Type} {l : List (Option α)} {i j : Nat} {o : Option α} {x : α} (h : (l.set i o)[j]? = some (some x)) : (i = j ∧ o = some x ∧ i < l.length) ∨ (i ≠ j ∧ l[j]? = some (some x)) := by
  by_cases e : i = j
  · subst e
    by_cases hl : i < l.length
    · rw [List.getElem?_set_self hl] at h
      exact .inl ⟨rfl, by simpa using h, hl⟩
    · rw [List.getElem?_eq_none (by simpa using hl)] at h
      cases h
  · rw [List.getElem?_set_ne e] at h
    exact .inr ⟨e, h⟩
theorem EOk.put (E : EOk c mo own Xv m H env σ) {i : Nat} (hi : mo i = false) {x : Option Vl} {v : Option V} (r : ∀ y, x = some y → ∃ u, v = some u ∧ RepV c H (Av own Xv m) m y u) : EOk c mo own Xv m H (env.set i x) (σ.set i v) where
  len := by rw [List.length_set, List.length_set]; exact E.len
  xd := E.xd
  ndA := E.ndA
  ndI := E.ndI
  hown := fun j a h => by
    obtain ⟨h1, h2, d, e1, e2, q⟩ := E.hown j a h
    have hj : i ≠ j := fun z => by rw [z, h1] at hi; cases hi
    exact ⟨h1, h2, d, by rw [List.getElem?_set_ne hj]; exact e1, by rw [List.getElem?_set_ne hj]; exact e2, q⟩
  sh := fun j y e h => by
    rcases set_get e with ⟨e1, e2, e3⟩ | ⟨e1, e2⟩
    · subst e1
      obtain ⟨u, e4, q⟩ := r y e2
      rw [E.len] at e3
      exact ⟨u, by rw [List.getElem?_set_self e3, e4], q⟩
    · obtain ⟨v, e3, q⟩ := E.sh j y e2 h
      exact ⟨v, by rw [List.getElem?_set_ne e1]; exact e3, q⟩
  hmut := fun j d h e q => by
    rcases set_get e with ⟨e1, e2, e3⟩ | ⟨e1, e2⟩
    · subst e1; rw [hi] at h; cases h
    · exact E.hmut j d h e2 q
theorem EOk.set (E : EOk c mo own Xv m H env σ) {i : Nat} (hi : mo i = false) {x : Vl} {v : V} (r : RepV c H (Av own Xv m) m x v) : EOk c mo own Xv m H (env.set i (some x)) (σ.set i (some v)) :=
  E.put hi fun y e => by cases e; exact ⟨v, rfl, r⟩
theorem EOk.wipe (E : EOk c mo own Xv m H env σ) : ∀ {vs : List Nat}, (∀ i ∈ vs, mo i = false) → EOk c mo own Xv m H (wipeE env vs) (L2.wipe σ vs)
  | [], _ => E
  | v :: vs, h => (EOk.wipe E fun i hi => h i (List.mem_cons_of_mem _ hi)).put (h v (List.mem_cons_self ..)) fun y e => nomatch e
/-! ### targets -/
def gNames : List Nat → TGs
  | [] => gNil
  | i :: is => gCons (gName i) (gNames is)
def gT (K : PySem.W.Frag) : Tg → TG
  | .name i => gName i
  | .tup is => gTup K is.length (gNames is)
theorem loc_of (C : Ctx tb F n sx X) {x : Str} (h : locB sx x = true) : L2.Loc X.env.scope x ∧ (X.fn x = true ∨ X.env.scope.names.lookup x = some .local) := by
  unfold locB at h
  rw [C.sc]
  unfold L2.Loc
  split at h
  · rename_i e; exact ⟨.inl e, .inr e⟩
  · rename_i e; exact ⟨.inr e, .inl (C.fnc x h)⟩
  · cases h
theorem pg_N (C : Ctx tb F n sx X) {i : Nat} {x : Expr} (h : tgN sx i x = true) : PG X x (gName i) := by
  cases x with
  | Name x p =>
    have h : (decide (sx.N[i]? = some x) && locB sx x && !sx.mo.contains i) = true := h
    obtain ⟨h, h3⟩ := band h
    obtain ⟨h1, h2⟩ := band h
    exact pg_name C.nd (by rw [C.N]; exact of_decide_eq_true h1) (loc_of C h2).1 (loc_of C h2).2
  | _ => cases h
theorem isName_of {i : Nat} {x : Expr} (h : tgN sx i x = true) : ∃ z p, x = .Name z p := by
  cases x with
  | Name z p => exact ⟨z, p, rfl⟩
  | _ => cases h
theorem pgs_N (C : Ctx tb F n sx X) : ∀ {is : List Nat} {xs : List Expr}, tgNs sx is xs = true → PGs X xs (gNames is) ∧ (assignEach xs X.env).length = is.length ∧ (assignEach xs X.env).findIdx? (·.1) = none
  | [], [], _ => ⟨pgs_nil, rfl, rfl⟩
  | [], _ :: _, h => nomatch h
  | _ :: _, [], h => nomatch h
  | i :: is, x :: xs, h => by
    have h : (tgN sx i x && tgNs sx is xs) = true := h
    obtain ⟨h1, h2⟩ := band h
    obtain ⟨q1, q2, q3⟩ := pgs_N C h2
    have p1 := pg_N C h1
    obtain ⟨z, p, rfl⟩ := isName_of h1
    refine ⟨pgs_cons p1 q1 rfl, by show (assignEach xs X.env).length + 1 = _; rw [q2]; rfl, ?_⟩
    show List.findIdx? _ ((false, _) :: assignEach xs X.env) = none
    rw [List.findIdx?_cons]
    simp [q3]
theorem pg_T (C : Ctx tb F n sx X) {tg : Tg} {x : Expr} (h : chkTg sx tg x = true) : PG X x (gT X.K tg) := by
  cases tg with
  | name i => exact pg_N C h
  | tup is => cases x with
    | Tuple xs k p =>
      obtain ⟨q1, q2, q3⟩ := pgs_N C (show tgNs sx is xs = true from h)
      exact pg_tup C.calm q1 q2 q3
    | _ => cases h
theorem tgN_mo {i : Nat} {x : Expr} (h : tgN sx i x = true) : sx.mof i = false := by
  obtain ⟨z, p, rfl⟩ := isName_of h
  exact bnot (band (show (decide (sx.N[i]? = some z) && locB sx z && !sx.mo.contains i) = true from h)).2
theorem tgNs_mo : ∀ {is : List Nat} {xs : List Expr}, tgNs sx is xs = true → ∀ i ∈ is, sx.mof i = false
  | [], [], _ => fun i h => (List.not_mem_nil h).elim
  | [], _ :: _, h => nomatch h
  | _ :: _, [], h => nomatch h
  | i :: is, x :: xs, h => fun j hj => by
    obtain ⟨h1, h2⟩ := band (show (tgN sx i x && tgNs sx is xs) = true from h)
    rcases List.mem_cons.mp hj with rfl | hj
    · exact tgN_mo h1
    · exact tgNs_mo h2 j hj
theorem chkTg_mo {tg : Tg} {x : Expr} (h : chkTg sx tg x = true) : ∀ i ∈ tg.ix, sx.mof i = false := by
  cases tg with
  | name i => intro j hj; rw [List.mem_singleton.mp hj]; exact tgN_mo h
  | tup is => cases x with
    | Tuple xs k p => exact tgNs_mo h
    | _ => cases h
/-- the slots but those at is -/
def Only (is : List Nat) (σ σ' : L2.St) : Prop := ∀ vs : List Nat, (∀ i ∈ is, i ∈ vs) → wipe σ' vs = wipe σ vs
theorem wipe_set {σ : L2.St} {i : Nat} {o : Option V} : ∀ {vs : List Nat}, i ∈ vs → wipe (σ.set i o) vs = wipe σ vs
  | [], h => (List.not_mem_nil h).elim
  | v :: vs, h => by
    unfold wipe
    by_cases hi : i ∈ vs
    · rw [wipe_set hi]
    · have e : v = i := by
        rcases List.mem_cons.mp h with h | h
        · exact h.symm
        · exact absurd h hi
      subst e
      have key : ∀ vs : List Nat, v ∉ vs → wipe (σ.set v o) vs = (wipe σ vs).set v o := by
        intro vs
        induction vs with
        | nil => intro _; rfl
        | cons u us ih =>
          intro hv
          rw [List.mem_cons, not_or] at hv
          show (wipe (σ.set v o) us).set u none = ((wipe σ us).set u none).set v o
          rw [ih hv.2, List.set_comm _ _ hv.1]
      rw [key vs hi, List.set_set]
theorem wipe_wipe {σ : L2.St} {vs : List Nat} : wipe (wipe σ vs) vs = wipe σ vs := by
  have key : ∀ us : List Nat, (∀ i ∈ us, i ∈ vs) → wipe (wipe σ us) vs = wipe σ vs := by
    intro us
    induction us with
    | nil => intro _; rfl
    | cons u us ih =>
      intro h
      show wipe ((wipe σ us).set u none) vs = wipe σ vs
      rw [wipe_set (h u (List.mem_cons_self ..))]
      exact ih fun i hi => h i (List.mem_cons_of_mem _ hi)
  exact key vs fun i hi => hi
theorem gNames_ok : ∀ {is : List Nat} {vs : List V} {ds : List D} {env env' : Env} {σ : L2.St} {Q : L2.St → Hp → Prop}, (∀ i ∈ is, mo i = false) → setAll env is ds = some env' → Reps c H (Av own Xv m) vs ds → EOk c mo own Xv m H env σ →
    (∀ σ', EOk c mo own Xv m H env' σ' → Only is σ σ' → Q σ' H) → gNames is vs σ H Q
  | [], _, [], _, _, _, _, _, e, r, E, q => by cases r; cases e; exact ⟨rfl, q _ E fun vs _ => rfl⟩
  | [], _, _ :: _, _, _, _, _, _, e, _, _, _ => nomatch e
  | _ :: _, _, [], _, _, _, _, _, e, _, _, _ => nomatch e
  | i :: is, _, d :: ds, env, env', σ, Q, hm, e, r, E, q => by
    cases r with
    | cons r1 r2 =>
      refine ⟨_, _, rfl, ?_⟩
      exact gNames_ok (fun j hj => hm j (List.mem_cons_of_mem _ hj)) (show setAll (env.set i (some (.d d))) is ds = some env' from e) r2 (E.set (hm i (List.mem_cons_self ..)) (x := .d d) r1) fun σ' E' o => q σ' E' fun vs h =>
        (o vs fun j hj => h j (List.mem_cons_of_mem _ hj)).trans (wipe_set (h i (List.mem_cons_self ..)))
def Tg.isTup : Tg → Bool
  | .tup _ => true
  | _ => false
/-- a datum, or (b) a pair that is taken apart at once -/
def RepL (c : Cn) (b : Bool) (H : Hp) (A : Addr → Prop) (v : V) (d : D) : Prop := Rep c H A v d ∨ (b = true ∧ ∃ a xs ds, v = .ref a ∧ d = .tuple ds ∧ SqT c.K H a xs ∧ Reps c H A xs ds)
theorem gT_ok {tg : Tg} {v : V} {d : D} {Q : L2.St → Hp → Prop} (hm : ∀ i ∈ tg.ix, mo i = false) (e : bindTg env tg d = some env') {b : Bool} (hb : b = true → tg.isTup = true) (r : RepL c b H (Av own Xv m) v d) (E : EOk c mo own Xv m H env σ) (q : ∀ σ', EOk c mo own Xv m H env' σ' → Only tg.ix σ σ' → Q σ' H) : gT c.K tg v σ H Q := by
  cases tg with
  | name i =>
    cases e
    have r : Rep c H (Av own Xv m) v d := r.elim id fun ⟨z, _⟩ => nomatch hb z
    exact q _ (E.set (hm i (List.mem_singleton.mpr rfl)) (x := .d d) r) fun vs h => wipe_set (h i (List.mem_singleton.mpr rfl))
  | tup is => cases d with
    | tuple ds =>
      have r : ∃ a xs, v = .ref a ∧ SqT c.K H a xs ∧ Reps c H (Av own Xv m) xs ds := by
        rcases r with r | ⟨_, a, xs, _, e1, e2, h, rs⟩
        · cases r with
          | tup h rs => exact ⟨_, _, rfl, h.sq, rs⟩
        · cases e2; exact ⟨a, xs, e1, h, rs⟩
      obtain ⟨a, xs, rfl, h, rs⟩ := r
      · have hl : ds.length = is.length := by
          have key : ∀ (is : List Nat) (ds : List D) (env : Env), setAll env is ds = some env' → ds.length = is.length := by
            intro is
            induction is with
            | nil => intro ds env e; cases ds with
              | nil => rfl
              | cons _ _ => cases e
            | cons i is ih => intro ds env e; cases ds with
              | nil => cases e
              | cons d ds => rw [List.length_cons, List.length_cons, ih ds _ e]
          exact key is ds env e
        exact ⟨_, _, rfl, h, by rw [rs.length, hl], gNames_ok hm e rs E q⟩
    | _ => cases e
/-! ### iterables -/
/-- a source: a value, its datum, the object if it is a dict -/
abbrev Src := V × D × HO
def isDct : D → Bool
  | .dict _ => true
  | _ => false
def DFx (H : Hp) (p : Src) : Prop := isDct p.2.1 = true → ∃ a, p.1 = .ref a ∧ H a = some p.2.2
def SrcB (c : Cn) (H : Hp) (A : Addr → Prop) (m : List Addr) (p : Src) : Prop := RepB c H A m p.1 p.2.1 ∧ DFx H p
/-- an iterator that walks ds as long as src stands -/
structure Walk (c : Cn) (b : Bool) (J : L2.It) (src : List Src) (ds : List D) : Prop where
  go : ∀ H A i, Dom A H → (∀ p ∈ src, SrcB c H A [] p) → i < ds.length → J.go i H
  yld : ∀ H A i x H', Dom A H → (∀ p ∈ src, SrcB c H A [] p) → J.yld i H x H' → ∀ d, ds[i]? = some d → New H H' ∧ RepL c b H' A x d
  stop : ∀ H A, Dom A H → (∀ p ∈ src, SrcB c H A [] p) → J.stop ds.length H
def It.loose : It → Bool
  | .zip _ _ => true
  | .zip3 _ _ _ => true
  | .enu _ => true
  | _ => false
def tI (c : Cn) (cf : Cfg) (mo : Nat → Bool) (md : Mode) (it : It) : TI := fun σ H R => ∃ (own : Ow) (X : Addr → Prop) (m : List Addr) (env : Env) (w : Wd), EOk c mo own X m H env σ ∧ WOk c own X m H w ∧
  (evI cf it env w).sat fun ds w' => ∀ J src m' H', Fr c.K m m' H H' → WOk c own X m' H' w' → Walk c it.loose J src ds → (∀ p ∈ src, RepD c md H H' (Av own X m') m' p.1 p.2.1 ∧ DFx H' p) → R J H'
def Mode.isLK : Mode → Bool
  | .look => true
  | .keep => true
  | _ => false
def OkI (tb : Tbl) (F n : Nat) (it : It) : Prop := ∀ (sx : Sx) (md : Mode) (tx : Expr) (ix : Expr) (X : Cx), md.isLK = true → chkI sx md (tupB tx) it ix = true → Ctx tb F n sx X → PI X tx ix (tI (cn X sx.nmf) ⟨callN tb F n, F⟩ sx.mof md it)
theorem RepD.peek {v : V} {d : D} (h : RepD c md H H' A m v d) : RepB c H' A [] v d := RepD.le (md := .peek) (by cases md <;> rfl) h
theorem walk_list {o : HO} {a : Addr} {v : V} {xs : List D} (hv : v = .ref a) {b : Bool} : Walk c b (Itl c.K a) [(v, .list xs, o)] xs where
  go := fun H A i hA h hi => by
    obtain ⟨b, vs, e, hq, r⟩ := (h _ (List.mem_singleton.mpr rfl)).1.lst
    subst hv; cases e
    obtain ⟨u, hu, _⟩ := r.get (List.getElem?_eq_getElem hi)
    exact ⟨vs, u, hq, hu⟩
  yld := fun H A i x H' hA h y d hd => by
    obtain ⟨b, vs, e, hq, r⟩ := (h _ (List.mem_singleton.mpr rfl)).1.lst
    subst hv; cases e
    obtain ⟨rfl, y⟩ := y
    obtain ⟨u, hu, ru⟩ := r.get hd
    have := y vs hq
    rw [hu] at this
    cases this
    exact ⟨.same, .inl ru⟩
  stop := fun H A hA h => by
    obtain ⟨b, vs, e, hq, r⟩ := (h _ (List.mem_singleton.mpr rfl)).1.lst
    subst hv; cases e
    exact ⟨vs, hq, Nat.le_of_eq r.length⟩
theorem walk_tup {o : HO} {a : Addr} {v : V} {xs : List D} (hv : v = .ref a) {b : Bool} : Walk c b (Itt c.K a) [(v, .tuple xs, o)] xs where
  go := fun H A i hA h hi => by
    obtain ⟨b, vs, e, hq, r⟩ := (h _ (List.mem_singleton.mpr rfl)).1.tup
    have hq := hq.sq
    subst hv; cases e
    obtain ⟨u, hu, _⟩ := r.get (List.getElem?_eq_getElem hi)
    exact ⟨vs, u, hq, hu⟩
  yld := fun H A i x H' hA h y d hd => by
    obtain ⟨b, vs, e, hq, r⟩ := (h _ (List.mem_singleton.mpr rfl)).1.tup
    have hq := hq.sq
    subst hv; cases e
    obtain ⟨rfl, y⟩ := y
    obtain ⟨u, hu, ru⟩ := r.get hd
    have := y vs hq
    rw [hu] at this
    cases this
    exact ⟨.same, .inl ru⟩
  stop := fun H A hA h => by
    obtain ⟨b, vs, e, hq, r⟩ := (h _ (List.mem_singleton.mpr rfl)).1.tup
    have hq := hq.sq
    subst hv; cases e
    exact ⟨vs, hq, Nat.le_of_eq r.length⟩
theorem rangeD_len : ∀ (k : Nat) (lo : Int), (rangeD lo k).length = k
  | 0, _ => rfl
  | k + 1, lo => by show (rangeD (lo + 1) k).length + 1 = _; rw [rangeD_len k]
theorem rangeD_get : ∀ (k : Nat) (lo : Int) (i : Nat), i < k → (rangeD lo k)[i]? = some (.int (lo + i))
  | 0, _, _, h => absurd h (Nat.not_lt_zero _)
  | k + 1, lo, 0, _ => by show some (PyData.int lo) = _; simp
  | k + 1, lo, i + 1, h => by
    show (rangeD (lo + 1) k)[i]? = _
    rw [rangeD_get k (lo + 1) i (by omega)]
    congr 2
    push_cast
    omega
theorem walk_range {lo : Int} {k : Nat} {b : Bool} : Walk c b (Itr lo k) [] (rangeD lo k) where
  go := fun H A i hA h hi => by rw [rangeD_len] at hi; exact hi
  yld := fun H A i x H' hA h y d hd => by
    obtain ⟨rfl, rfl⟩ := y
    have hi : i < k := by
      have := (List.getElem?_eq_some_iff.mp hd).1
      rwa [rangeD_len] at this
    rw [rangeD_get k lo i hi] at hd
    cases hd
    exact ⟨.same, .inl (.int _)⟩
  stop := fun H A hA h => by rw [rangeD_len]; exact Nat.le_refl k
theorem zipD_get : ∀ {xs ys : List D} {i : Nat} {d : D}, (zipD xs ys)[i]? = some d → ∃ x y, xs[i]? = some x ∧ ys[i]? = some y ∧ d = .tuple [x, y]
  | [], _, _, _, h => by simp [zipD] at h
  | _ :: _, [], _, _, h => by simp [zipD] at h
  | x :: xs, y :: ys, 0, d, h => by
    have h : some (PyData.tuple [x, y]) = some d := h
    cases h
    exact ⟨x, y, rfl, rfl, rfl⟩
  | x :: xs, y :: ys, i + 1, d, h => zipD_get (xs := xs) (ys := ys) (i := i) h
theorem zipD_len : ∀ {xs ys : List D}, (zipD xs ys).length = min xs.length ys.length
  | [], _ => by simp [zipD]
  | _ :: _, [] => by simp [zipD]
  | x :: xs, y :: ys => by show (zipD xs ys).length + 1 = _; rw [zipD_len]; simp
theorem pair_rep {p : Addr} {x y : V} {dx dy : D} (hp : H p = none) (r1 : Rep c H A x dx) (r2 : Rep c H A y dy) : RepL c true (upd H p (.tup [x, y])) A (.ref p) (.tuple [dx, dy]) :=
  .inr ⟨rfl, p, [x, y], [dx, dy], rfl, rfl, SqT.of upd_same, Reps.keep (New.one hp).kp (.cons r1 (.cons r2 .nil))⟩
theorem walk_zipL {o : HO} {a b : Addr} {v u : V} {xs ys : List D} (hv : v = .ref a) (hu : u = .ref b) : Walk c true (Itz c.K a b) [(v, .list xs, o), (u, .list ys, o)] (zipD xs ys) where
  go := fun H A i hA h hi => by
    obtain ⟨_, vs, e, hq, r⟩ := (h _ (List.mem_cons_self ..)).1.lst
    obtain ⟨_, us, e2, hq2, r2⟩ := (h _ (List.mem_cons_of_mem _ (List.mem_singleton.mpr rfl))).1.lst
    subst hv hu; cases e; cases e2
    obtain ⟨x, y, h1, h2, _⟩ := zipD_get (List.getElem?_eq_getElem hi)
    obtain ⟨z, hz, _⟩ := r.get h1
    obtain ⟨z2, hz2, _⟩ := r2.get h2
    exact ⟨vs, us, z, z2, hq, hq2, hz, hz2⟩
  yld := fun H A i x H' hA h y d hd => by
    obtain ⟨_, vs, e, hq, r⟩ := (h _ (List.mem_cons_self ..)).1.lst
    obtain ⟨_, us, e2, hq2, r2⟩ := (h _ (List.mem_cons_of_mem _ (List.mem_singleton.mpr rfl))).1.lst
    subst hv hu; cases e; cases e2
    obtain ⟨x1, y1, h1, h2, rfl⟩ := zipD_get hd
    obtain ⟨z, hz, rz⟩ := r.get h1
    obtain ⟨z2, hz2, rz2⟩ := r2.get h2
    obtain ⟨T, q1, q2, rfl, hT, rfl, g1, g2⟩ := y
    have e1 := g1 vs hq
    have e2 := g2 us hq2
    rw [hz] at e1; rw [hz2] at e2
    cases e1; cases e2
    exact ⟨.one hT, pair_rep hT rz rz2⟩
  stop := fun H A hA h => by
    obtain ⟨_, vs, e, hq, r⟩ := (h _ (List.mem_cons_self ..)).1.lst
    obtain ⟨_, us, e2, hq2, r2⟩ := (h _ (List.mem_cons_of_mem _ (List.mem_singleton.mpr rfl))).1.lst
    subst hv hu; cases e; cases e2
    refine ⟨vs, us, hq, hq2, ?_⟩
    rw [zipD_len, r.length, r2.length]
    omega
theorem walk_zipT {o : HO} {a b : Addr} {v u : V} {xs ys : List D} (hv : v = .ref a) (hu : u = .ref b) : Walk c true (RZ.ItzT c.K a b) [(v, .tuple xs, o), (u, .tuple ys, o)] (zipD xs ys) where
  go := fun H A i hA h hi => by
    obtain ⟨_, vs, e, hq, r⟩ := (h _ (List.mem_cons_self ..)).1.tup
    have hq := hq.sq
    obtain ⟨_, us, e2, hq2, r2⟩ := (h _ (List.mem_cons_of_mem _ (List.mem_singleton.mpr rfl))).1.tup
    have hq2 := hq2.sq
    subst hv hu; cases e; cases e2
    obtain ⟨x, y, h1, h2, _⟩ := zipD_get (List.getElem?_eq_getElem hi)
    obtain ⟨z, hz, _⟩ := r.get h1
    obtain ⟨z2, hz2, _⟩ := r2.get h2
    exact ⟨vs, us, z, z2, hq, hq2, hz, hz2⟩
  yld := fun H A i x H' hA h y d hd => by
    obtain ⟨_, vs, e, hq, r⟩ := (h _ (List.mem_cons_self ..)).1.tup
    have hq := hq.sq
    obtain ⟨_, us, e2, hq2, r2⟩ := (h _ (List.mem_cons_of_mem _ (List.mem_singleton.mpr rfl))).1.tup
    have hq2 := hq2.sq
    subst hv hu; cases e; cases e2
    obtain ⟨x1, y1, h1, h2, rfl⟩ := zipD_get hd
    obtain ⟨z, hz, rz⟩ := r.get h1
    obtain ⟨z2, hz2, rz2⟩ := r2.get h2
    obtain ⟨T, q1, q2, rfl, hT, rfl, g1, g2⟩ := y
    have e1 := g1 vs hq
    have e2 := g2 us hq2
    rw [hz] at e1; rw [hz2] at e2
    cases e1; cases e2
    exact ⟨.one hT, pair_rep hT rz rz2⟩
  stop := fun H A hA h => by
    obtain ⟨_, vs, e, hq, r⟩ := (h _ (List.mem_cons_self ..)).1.tup
    have hq := hq.sq
    obtain ⟨_, us, e2, hq2, r2⟩ := (h _ (List.mem_cons_of_mem _ (List.mem_singleton.mpr rfl))).1.tup
    have hq2 := hq2.sq
    subst hv hu; cases e; cases e2
    refine ⟨vs, us, hq, hq2, ?_⟩
    rw [zipD_len, r.length, r2.length]
    omega
end
end Mx

set_option Elab.async false
set_option linter.all false
set_option maxRecDepth 100000
set_option maxHeartbeats 1000000
/-! Mxd: walking dicts; iterables by their kinds. -/
namespace Mx
open PySem PySem.Spec L2
/-- the keys of the dict at a -/
def Itkr (a : Addr) (L : List DictEntry) (ep : Nat) : L2.It :=
  ⟨fun i H => H a = some (dRaw a L ep) ∧ i < L.length, fun i H x H' => H' = H ∧ ∃ e, L[i]? = some e ∧ RelV x e.key, fun i H => H a = some (dRaw a L ep) ∧ L.length ≤ i⟩
def Itvr (a : Addr) (L : List DictEntry) (ep : Nat) : L2.It :=
  ⟨fun i H => H a = some (dRaw a L ep) ∧ i < L.length, fun i H x H' => H' = H ∧ ∃ e, L[i]? = some e ∧ RelV x e.val, fun i H => H a = some (dRaw a L ep) ∧ L.length ≤ i⟩
theorem dRaw_at {X : Cx} {pins : List (Addr × Obj)} {σ : L2.St} {H : Hp} {s : Shared} (I : Inv X pins σ H s) {a : Addr} {L : List DictEntry} {ep : Nat} (h : H a = some (dRaw a L ep)) : ∃ es : Array DictEntry, s.heap.DictRaw a es ep ∧ es.toList = L ∧ es.size = L.length := by
  obtain ⟨_, _, o, es, h1, h2, h3, h4⟩ := Inv.raw I h
  exact ⟨es, ⟨o, h1, h2, h3⟩, h4, by rw [← h4]; simp⟩
/-- a value that stands for the one there -/
theorem rel_of {X : Cx} (u : Value) (h : ∃ v, RelV v u) : ∃ v, RelV v u := h
theorem turn_kr {P : Program} {w : World} {K : PySem.W.Frag} {tg : Expr} (a it : Addr) (L : List DictEntry) (ep : Nat) (hL : ∀ e ∈ L, ∃ v, RelV v e.key) : Turn P w K tg (Itkr a L ep) [it] it (fun i h => h.IsKeyIter it a i L.length ep) where
  mem := by simp
  obj := fun i h st b hb => by
    have e : b = it := by simpa using hb
    subst e
    obtain ⟨oi, e, c, dd⟩ := st
    exact ⟨oi, e, fun v z => by rw [dd] at z; cases z⟩
  keep := fun i h h' st k => st.at fun oi e => k it (by simp) oi e
  item := by
    intro X hP hw hK hc i pins s σ H E I hf st hg
    subst hP hw hK
    obtain ⟨hd, hi⟩ := hg
    obtain ⟨f0, f1, f2, f3, f4, f5⟩ := hf it (by simp)
    obtain ⟨es, hr, rfl, hs⟩ := dRaw_at I hd
    rw [← hs] at st hi
    refine wpAny_pyNext_keys_item_raw st hr hi fun h' st' sb => ?_
    have I1 : Inv X pins σ H { s with heap := h' } := I.turned (t' := s.toks) (fun b ob hb e => (sb.2 b hb).trans e) f0 f1 f3 f4 f5
    obtain ⟨oi, e, c, dd⟩ := id st'
    have hmem : es[i] ∈ es.toList := by simp
    obtain ⟨v, hv⟩ := hL _ hmem
    refine ⟨_, rfl, go_of (s := { s with heap := h' }) e c dd (by decide) ⟨v, H, I1, hv, ⟨rfl, es[i], by simp [hi], hv⟩, ?_, fun b hb => (hf b hb).1⟩⟩
    show h'.IsKeyIter it a (i + 1) _ _
    rw [← hs]
    exact st'
  done := by
    intro X hP hw hK hc i pins s σ H E I hf st hg
    subst hP hw hK
    obtain ⟨hd, hi⟩ := hg
    obtain ⟨f0, f1, f2, f3, f4, f5⟩ := hf it (by simp)
    obtain ⟨es, hr, rfl, hs⟩ := dRaw_at I hd
    rw [← hs] at st hi
    exact wpAny_pyNext_keys_end_raw (I.ok.hd hc) st hr hi fun h' eb => ⟨rfl, I.turned (t' := s.toks) (fun b ob hb e => eb b ob hb e) f0 f1 f3 f4 f5⟩
  self := fun A i s Q E st h => wpAny_pyIter_keyiter st h
section
variable {tb : Tbl} {F n : Nat} {sx : Sx} {X : Cx} {md : Mode} {c : Cn} {cf : Cfg} {mo : Nat → Bool} {own : Ow} {Xv : Addr → Prop} {m m' : List Addr} {H H' : Hp} {env env' : Env} {σ σ' : L2.St} {w w' : Wd} {A : Addr → Prop}
theorem Ents.rel : ∀ {L : List DictEntry} {kvs : List (D × D)}, Ents c H A L kvs → ∀ e ∈ L, (∃ v, RelV v e.key) ∧ ∃ v, RelV v e.val
  | _, _, .nil => fun e h => (List.not_mem_nil h).elim
  | _, _, .tk h1 h2 h3 h4 r => fun e h => by
    rcases List.mem_cons.mp h with rfl | h
    · exact ⟨⟨.ref _, rfl⟩, _, h3⟩
    · exact Ents.rel r e h
theorem Ents.length : ∀ {L : List DictEntry} {kvs : List (D × D)}, Ents c H A L kvs → L.length = kvs.length
  | _, _, .nil => rfl
  | _, _, .tk _ _ _ _ r => by rw [List.length_cons, List.length_cons, Ents.length r]
theorem relV_ref {x : V} {a : Addr} (h : RelV x (.ref a)) : x = .ref a := by
  cases x with
  | ref b => cases h; rfl
  | int _ => obtain ⟨_, e⟩ := h; cases e
  | str _ => obtain ⟨_, e⟩ := h; cases e
  | byt _ => obtain ⟨_, e⟩ := h; cases e
  | flt _ => obtain ⟨_, e⟩ := h; cases e
  | non => cases h
  | bl _ => cases h
  | ty _ => cases h
theorem Ents.key : ∀ {L : List DictEntry} {kvs : List (D × D)} {i : Nat} {e : DictEntry} {x : V}, Ents c H A L kvs → L[i]? = some e → RelV x e.key → ∃ p, kvs[i]? = some p ∧ Rep c H A x p.1
  | _, _, _, _, _, .nil, h, _ => by simp at h
  | _, _, 0, e, x, .tk h1 h2 h3 h4 r, h, hx => by
    have h : some _ = some e := h
    cases h
    rw [relV_ref hx]
    exact ⟨_, rfl, h1⟩
  | _, _, i + 1, e, x, .tk h1 h2 h3 h4 r, h, hx => Ents.key (i := i) r h hx
theorem raw_inj {X : Cx} {pins : List (Addr × Obj)} {σ : L2.St} {H : Hp} {s : Shared} (I : Inv X pins σ H s) {a : Addr} {L L' : List DictEntry} {ep ep' : Nat} (h : H a = some (dRaw a L ep)) (h' : H a = some (dRaw a L' ep')) : L' = L ∧ ep' = ep := by
  obtain ⟨es, ⟨o, h1, h2, h3⟩, rfl, _⟩ := dRaw_at I h
  obtain ⟨es', ⟨o', g1, g2, g3⟩, rfl, _⟩ := dRaw_at I h'
  rw [h1] at g1
  cases g1
  rw [h3] at g3
  cases g3
  exact ⟨rfl, rfl⟩
theorem dRaw_len {X : Cx} {pins : List (Addr × Obj)} {σ : L2.St} {H : Hp} {s : Shared} (I : Inv X pins σ H s) {a : Addr} {L L' : List DictEntry} {ep ep' : Nat} (h : H a = some (dRaw a L ep)) (h' : dRaw a L' ep' = dRaw a L ep) : L' = L ∧ ep' = ep := raw_inj I h (by rw [h, h'])
/-- the walk of a dict whose raw form is known: L and kvs go together -/
theorem walk_keys {a : Addr} {v : V} {kvs : List (D × D)} {L : List DictEntry} {ep : Nat} (hv : v = .ref a) (hinj : ∀ L' ep', dRaw a L' ep' = dRaw a L ep → L' = L) {b : Bool} : Walk c b (Itkr a L ep) [(v, .dict kvs, dRaw a L ep)] (kvs.map (·.1)) where
  go := fun H A i hA h hi => by
    obtain ⟨h1, h2⟩ := h _ (List.mem_singleton.mpr rfl)
    obtain ⟨b, e, hb⟩ := h2 rfl
    subst hv; cases e
    obtain ⟨b, L', ep', e, hq, z, r⟩ := h1.dct
    cases e
    have hb : H a = some (dRaw a L ep) := hb
    have e2 : dRaw a L' ep' = dRaw a L ep := by rw [hb] at hq; exact (Option.some.inj hq).symm
    have := hinj L' ep' e2
    subst this
    refine ⟨hb, ?_⟩
    rw [r.length]
    simpa using hi
  yld := fun H A i x H' hA h y d hd => by
    obtain ⟨h1, h2⟩ := h _ (List.mem_singleton.mpr rfl)
    obtain ⟨b, e, hb⟩ := h2 rfl
    subst hv; cases e
    obtain ⟨b, L', ep', e, hq, z, r⟩ := h1.dct
    cases e
    have hb : H a = some (dRaw a L ep) := hb
    have e2 : dRaw a L' ep' = dRaw a L ep := by rw [hb] at hq; exact (Option.some.inj hq).symm
    have := hinj L' ep' e2
    subst this
    obtain ⟨rfl, e, he, hx⟩ := y
    obtain ⟨p, hp, hr⟩ := r.key he hx
    rw [List.getElem?_map, hp] at hd
    cases hd
    exact ⟨.same, .inl hr⟩
  stop := fun H A hA h => by
    obtain ⟨h1, h2⟩ := h _ (List.mem_singleton.mpr rfl)
    obtain ⟨b, e, hb⟩ := h2 rfl
    subst hv; cases e
    obtain ⟨b, L', ep', e, hq, z, r⟩ := h1.dct
    cases e
    have hb : H a = some (dRaw a L ep) := hb
    have e2 : dRaw a L' ep' = dRaw a L ep := by rw [hb] at hq; exact (Option.some.inj hq).symm
    have := hinj L' ep' e2
    subst this
    refine ⟨hb, ?_⟩
    rw [r.length]
    simp
/-- lists, tuples, dicts by the value that comes -/
def iSeq (K : PySem.W.Frag) (tl : TE) : TI := fun σ H R => tl σ H fun x H1 => ∃ a, x = .ref a ∧
  (((∃ xs, SqL K H1 a xs) ∧ R (Itl K a) H1) ∨ ((∃ xs, SqT K H1 a xs) ∧ R (Itt K a) H1) ∨
    ∃ L ep, H1 a = some (dRaw a L ep) ∧ (∀ e ∈ L, ∃ v, RelV v e.key) ∧ ((∀ L' ep', dRaw a L' ep' = dRaw a L ep → L' = L) → R (Itkr a L ep) H1))
theorem pi_seq {tg l : Expr} {tl : TE} (hl : PE X l tl) : PI X tg l (iSeq X.K tl) := by
  refine ⟨fun pins s σ H R I h => ?_⟩
  refine thn (hl.run pins s σ H _ I h) fun v s1 ⟨x, H1, I1, r1, q1⟩ => ?_
  obtain ⟨a, e, q1⟩ := q1
  subst e
  cases r1
  have fp : ∀ b ∈ [s1.heap.objs.size], FpOk X pins H1 b := fun b hb => by
    have e : b = s1.heap.objs.size := by simpa using hb
    subst e
    exact I1.fpOk (Nat.le_refl _) (I1.hok.fresh (Nat.le_refl _))
  rcases q1 with ⟨⟨xs, hq⟩, q⟩ | ⟨⟨xs, hq⟩, q⟩ | ⟨L, ep, hq, hL, q⟩
  · obtain ⟨its, rv, p, hz⟩ := I1.list hq
    refine wpAny_pyIter_list p.isList ?_
    exact ⟨s1.heap.objs.size, [s1.heap.objs.size], _, _, H1, rfl, I1.kept (t' := s1.toks) fun b o e => Heap.get?_push_of_some _ e, turn_list a _, ⟨_, Heap.get?_push_size _ rfl, rfl, rfl⟩, fp, q⟩
  · obtain ⟨its, rv, p, hz⟩ := I1.tuple hq
    refine wpAny_pyIter_tuple (show s1.heap.IsTuple a its.toArray from p) ?_
    exact ⟨s1.heap.objs.size, [s1.heap.objs.size], _, _, H1, rfl, I1.kept (t' := s1.toks) fun b o e => Heap.get?_push_of_some _ e, turn_tuple a _, ⟨_, Heap.get?_push_size _ rfl, rfl, rfl⟩, fp, q⟩
  · obtain ⟨es, hr, hes, hs⟩ := dRaw_at I1 hq
    have hsm := (Inv.raw I1 hq).1
    refine wpAny_pyIter_dict_raw hsm hr ?_
    refine ⟨s1.heap.objs.size, [s1.heap.objs.size], _, _, H1, rfl, I1.kept (t' := s1.toks) fun b o e => Heap.get?_push_of_some _ e, turn_kr a _ L ep hL, ⟨_, Heap.get?_push_size _ rfl, rfl, ?_⟩, fp, q fun L' ep' e => (dRaw_len I1 hq e).1⟩
    rw [← hs]
    rfl
theorem evI_seq (cf : Cfg) (e : E) (env : Env) (w : Wd) : evI cf (.seq e) env w = (ev cf e env w).dat.bind fun x w => ofO (seqD x) w := by
  simp only [evI]
  congr 1
  funext x w
  cases x <;> rfl
theorem okI_seq (e : E) (he : OkE tb F n e) : OkI tb F n (.seq e) := by
  intro sx md tx ix X hm hc C
  have hc : (chk sx md e ix && !setB ix) = true := by
    cases ix <;> exact hc
  obtain ⟨h1, h2⟩ := band hc
  refine PI_imp (pi_seq (he sx md ix X h1 C)) ?_
  rintro σ H R ⟨own, Xv, m, env, w, E, W, h⟩
  rw [evI_seq, sat_bind, sat_dat] at h
  refine ⟨own, Xv, m, env, w, E, W, sat_mono h fun x1 w1 h v1 m1 H1 f1 W1 r1 => ?_⟩
  obtain ⟨dx, rfl, h⟩ := h
  rw [sat_ofO] at h
  obtain ⟨ds, hds, h⟩ := h
  have rp := RepD.peek (md := md) r1.1
  cases dx with
  | list xs =>
    cases hds
    obtain ⟨a, vs, rfl, ha, ra⟩ := rp.lst
    refine ⟨a, rfl, .inl ⟨⟨vs, ha⟩, h _ [(.ref a, .list ds, .lst [])] m1 H1 f1 W1 (walk_list (c := cn X sx.nmf) rfl) fun p hp => ?_⟩⟩
    rw [List.mem_singleton.mp hp]
    exact ⟨r1.1, fun z => nomatch z⟩
  | tuple xs =>
    cases hds
    obtain ⟨a, vs, rfl, ha, ra⟩ := rp.tup
    refine ⟨a, rfl, .inr (.inl ⟨⟨vs, ha.sq⟩, h _ [(.ref a, .tuple ds, .lst [])] m1 H1 f1 W1 (walk_tup (c := cn X sx.nmf) rfl) fun p hp => ?_⟩)⟩
    rw [List.mem_singleton.mp hp]
    exact ⟨r1.1, fun z => nomatch z⟩
  | dict kvs =>
    cases hds
    obtain ⟨a, L, ep, rfl, ha, hk, ra⟩ := rp.dct
    refine ⟨a, rfl, .inr (.inr ⟨L, ep, ha, fun e he => (ra.rel e he).1, fun hinj => h _ [(.ref a, .dict kvs, dRaw a L ep)] m1 H1 f1 W1 (walk_keys rfl hinj) fun p hp => ?_⟩)⟩
    rw [List.mem_singleton.mp hp]
    exact ⟨r1.1, fun _ => ⟨a, rfl, ha⟩⟩
  | _ => cases hds
theorem ok62 {i : Int} (h : in62 i = true) : -(2 ^ 62) ≤ i ∧ i < 2 ^ 62 := by
  obtain ⟨h1, h2⟩ := band (show (decide (-(2 ^ 62) ≤ i) && decide (i < 2 ^ 62)) = true from h)
  exact ⟨of_decide_eq_true h1, of_decide_eq_true h2⟩
theorem blt_of (C : Ctx tb F n sx X) {x y : Str} (h : bltB sx x y = true) (hy : y ∈ blts) : x = y ∧ Gl X y ∧ X.mg y = none := by
  obtain ⟨h1, h2⟩ := band (show (decide (x = y) && globB sx.sc x) = true from h)
  have e := of_decide_eq_true h1
  rw [e] at h2
  exact ⟨e, gl_of C h2, C.free y hy⟩
theorem one_star {x : Expr} {env : PySem.Env} (h : starB x = false) : starEach [x] env = [(false, eval x env)] := by rw [star_of h]; rfl
theorem tail1_star {x : Expr} {env : PySem.Env} {pos : Pos} (h : starB x = false) : (backTo pos (starEach [x] env)).any (·.1) = false := by rw [one_star h]; rfl
theorem okI_rng1 (a : E) (ha : OkE tb F n a) : OkI tb F n (.rng1 a) := by
  intro sx md tx ix X hm hc C
  cases ix with
  | Call fx xs kw pos => cases fx with
    | Name f p =>
      rcases xs with _ | ⟨x, _ | ⟨_, _⟩⟩ <;> rcases kw with _ | ⟨_, _⟩ <;> first | (cases hc; done) | skip
      have hc : (bltB sx f "range" && chk sx .keep a x && !starB x) = true := hc
      obtain ⟨hc, h3⟩ := band hc
      obtain ⟨h1, h2⟩ := band hc
      obtain ⟨rfl, hg, hm⟩ := blt_of C h1 (by decide)
      refine PI_imp (pi_range1 hg hm (pa_cons (ha sx .keep x X h2 C) pa_nil (star_of (bnot h3))) (one_star (bnot h3))) ?_
      rintro σ H R ⟨own, Xv, m, env, w, E, W, h⟩
      rw [show evI _ (.rng1 a) env w = (ev _ a env w).num.bind fun n w => if in62 n then .ok (rangeD 0 n.toNat) w else .stuck from rfl, sat_bind, sat_num] at h
      refine ⟨own, Xv, m, env, w, E, W, sat_mono h fun x1 w1 h v1 m1 H1 f1 W1 r1 => ?_⟩
      obtain ⟨i, rfl, h⟩ := h
      obtain ⟨hi, h⟩ := sat_if h
      have r1' : Rep _ H1 (Av own Xv m1) v1 (.int i) := r1.1
      cases r1'
      exact ⟨i, rfl, (ok62 hi).1, (ok62 hi).2, h _ [] m1 H1 f1 W1 walk_range fun p hp => (List.not_mem_nil hp).elim⟩
    | _ => cases hc
  | _ => cases hc
theorem okI_rng2 (a b : E) (ha : OkE tb F n a) (hb : OkE tb F n b) : OkI tb F n (.rng2 a b) := by
  intro sx md tx ix X hm hc C
  cases ix with
  | Call fx xs kw pos => cases fx with
    | Name f p =>
      rcases xs with _ | ⟨x, _ | ⟨y, _ | ⟨_, _⟩⟩⟩ <;> rcases kw with _ | ⟨_, _⟩ <;> first | (cases hc; done) | skip
      have hc : (bltB sx f "range" && chk sx .keep a x && !starB x && chk sx .keep b y && !starB y) = true := hc
      obtain ⟨hc, h5⟩ := band hc
      obtain ⟨hc, h4⟩ := band hc
      obtain ⟨hc, h3⟩ := band hc
      obtain ⟨h1, h2⟩ := band hc
      obtain ⟨rfl, hg, hm⟩ := blt_of C h1 (by decide)
      refine PI_imp (pi_range2 hg hm (pa_cons (ha sx .keep x X h2 C) (pa_cons (hb sx .keep y X h4 C) pa_nil (star_of (bnot h5))) (star_of (bnot h3))) (by rw [star_of (bnot h3), one_star (bnot h5)]) (one_star (bnot h5))) ?_
      rintro σ H R ⟨own, Xv, m, env, w, E, W, h⟩
      rw [show evI _ (.rng2 a b) env w = (ev _ a env w).num.bind fun m w => (ev _ b env w).num.bind fun n w => if in62 m && in62 n then .ok (rangeD m (n - m).toNat) w else .stuck from rfl, sat_bind, sat_num] at h
      refine ⟨own, Xv, m, env, w, E, W, sat_mono h fun x1 w1 h v1 m1 H1 f1 W1 r1 => ?_⟩
      obtain ⟨i, rfl, h⟩ := h
      rw [sat_bind, sat_num] at h
      refine ⟨own, Xv, m1, env, w1, E.step f1 W, W1, sat_mono h fun x2 w2 h v2 m2 H2 f2 W2 r2 => ?_⟩
      obtain ⟨j, rfl, h⟩ := h
      obtain ⟨hi, h⟩ := sat_if h
      obtain ⟨hi, hj⟩ := band hi
      have r1' : Rep _ H1 (Av own Xv m1) v1 (.int i) := r1.1
      have r2' : Rep _ H2 (Av own Xv m2) v2 (.int j) := r2.1
      cases r1'
      cases r2'
      exact ⟨i, j, rfl, ⟨(ok62 hi).1, (ok62 hi).2, (ok62 hj).1, (ok62 hj).2⟩, h _ [] m2 H2 (f1.trans f2) W2 walk_range fun p hp => (List.not_mem_nil hp).elim⟩
    | _ => cases hc
  | _ => cases hc
theorem RepD.later {md : Mode} {H0 : Hp} {m1 m2 : List Addr} {H1 H2 : Hp} {v : V} {d : D} (hl : md.isLK = true) (f : Fr c.K m1 m2 H1 H2) (h : RepD c md H0 H1 (Av own Xv m1) m1 v d) : RepD c md H0 H2 (Av own Xv m2) m2 v d := by
  cases md with
  | look => exact RepB.keep f h
  | keep => exact Rep.keep f.kp' h
  | _ => cases hl
theorem RepD.from {md : Mode} {H0 H0' : Hp} {m1 : List Addr} {H1 : Hp} {v : V} {d : D} (hl : md.isLK = true) (h : RepD c md H0 H1 A m1 v d) : RepD c md H0' H1 A m1 v d := by
  cases md with
  | look => exact h
  | keep => exact h
  | _ => cases hl
theorem okI_zip (a b : E) (ha : OkE tb F n a) (hb : OkE tb F n b) : OkI tb F n (.zip a b) := by
  intro sx md tx ix X hm hc C
  cases ix with
  | Call fx xs kw pos => cases fx with
    | Name f p =>
      rcases xs with _ | ⟨x, _ | ⟨y, _ | ⟨_, _⟩⟩⟩ <;> rcases kw with _ | ⟨_, _⟩ <;> first | (cases hc; done) | skip
      have hc : (bltB sx f "zip" && chk sx md a x && !starB x && chk sx md b y && !starB y && tupB tx) = true := hc
      obtain ⟨hc, h6⟩ := band hc
      obtain ⟨hc, h5⟩ := band hc
      obtain ⟨hc, h4⟩ := band hc
      obtain ⟨hc, h3⟩ := band hc
      obtain ⟨h1, h2⟩ := band hc
      obtain ⟨rfl, hg, hmg⟩ := blt_of C h1 (by decide)
      cases tx with
      | Tuple els kk tp =>
        refine PI_imp (RZ.pi_zipA hg hmg (pa_cons (ha sx md x X h2 C) (pa_cons (hb sx md y X h4 C) pa_nil (star_of (bnot h5))) (star_of (bnot h3))) (star_of (bnot h3)) (tail1_star (bnot h5))) ?_
        rintro σ H R ⟨own, Xv, m, env, w, E, W, h⟩
        rw [show evI _ (.zip a b) env w = (ev _ a env w).dat.bind fun x w => (ev _ b env w).dat.bind fun y w => match zipX x y with | some zs => .ok zs w | none => .stuck from rfl, sat_bind, sat_dat] at h
        refine ⟨own, Xv, m, env, w, E, W, sat_mono h fun x1 w1 h v1 m1 H1 f1 W1 r1 => ?_⟩
        obtain ⟨dx, rfl, h⟩ := h
        rw [sat_bind, sat_dat] at h
        refine ⟨own, Xv, m1, env, w1, E.step f1 W, W1, sat_mono h fun x2 w2 h v2 m2 H2 f2 W2 r2 => ?_⟩
        obtain ⟨dy, rfl, h⟩ := h
        have r1 : RepD (cn X sx.nmf) md H H2 (Av own Xv m2) m2 v1 dx := RepD.later hm f2 r1.1
        have r2 : RepD (cn X sx.nmf) md H H2 (Av own Xv m2) m2 v2 dy := RepD.from hm r2.1
        have p1 := r1.peek
        have p2 := r2.peek
        cases dx with
        | list us => cases dy with
          | list ws =>
            obtain ⟨a1, vs1, rfl, ha1, ra1⟩ := p1.lst
            obtain ⟨a2, vs2, rfl, ha2, ra2⟩ := p2.lst
            refine ⟨a1, a2, vs1, vs2, rfl, .inl ⟨ha1, ha2, h _ [(.ref a1, .list us, .lst []), (.ref a2, .list ws, .lst [])] m2 H2 (f1.trans f2) W2 (walk_zipL (c := cn X sx.nmf) rfl rfl) fun p hp => ?_⟩⟩
            rcases List.mem_cons.mp hp with rfl | hp
            · exact ⟨r1, fun z => nomatch z⟩
            · rw [List.mem_singleton.mp hp]; exact ⟨r2, fun z => nomatch z⟩
          | _ => exact h.elim
        | tuple us => cases dy with
          | tuple ws =>
            obtain ⟨a1, vs1, rfl, ha1, ra1⟩ := p1.tup
            obtain ⟨a2, vs2, rfl, ha2, ra2⟩ := p2.tup
            refine ⟨a1, a2, vs1, vs2, rfl, .inr ⟨ha1.sq, ha2.sq, h _ [(.ref a1, .tuple us, .lst []), (.ref a2, .tuple ws, .lst [])] m2 H2 (f1.trans f2) W2 (walk_zipT (c := cn X sx.nmf) rfl rfl) fun p hp => ?_⟩⟩
            rcases List.mem_cons.mp hp with rfl | hp
            · exact ⟨r1, fun z => nomatch z⟩
            · rw [List.mem_singleton.mp hp]; exact ⟨r2, fun z => nomatch z⟩
          | _ => exact h.elim
        | _ => cases dy <;> exact h.elim
      | _ => cases h6
    | _ => cases hc
  | _ => cases hc
end
end Mx

set_option Elab.async false
set_option linter.all false
set_option maxRecDepth 100000
set_option maxHeartbeats 1000000
/-! Mxe: list comprehensions. -/
namespace Mx
open PySem PySem.Spec L2
/-- an object that is no tuple and not locked -/
def Loose (o : HO) : Prop := (∀ xs, o ≠ .tup xs) ∧ ∀ q r, o ≠ .frz q r
theorem loose_lst (xs : List V) : Loose (.lst xs) := ⟨fun _ h => HO.noConfusion h, fun _ _ h => HO.noConfusion h⟩
theorem loose_raw (a : Addr) (L : List DictEntry) (ep : Nat) : Loose (dRaw a L ep) := ⟨fun _ h => HO.noConfusion h, fun _ _ h => HO.noConfusion h⟩
section
variable {tb : Tbl} {F n : Nat} {sx : Sx} {X : Cx} {md : Mode} {c : Cn} {cf : Cfg} {mo : Nat → Bool} {own : Ow} {Xv : Addr → Prop} {m m' m'' : List Addr} {H H' H'' : Hp} {env env' : Env} {σ σ' : L2.St} {w w' w'' : Wd} {A : Addr → Prop} {K : PySem.W.Frag}
theorem sqT_wr {p b : Addr} {o o' : HO} {xs : List V} (hp : H p = some o) (ho : Loose o) (h : TupP K H b xs) : TupP K (L2.upd H p o') b xs := by
  rcases h with ⟨q, h, hd⟩ | h
  · have : b ≠ p := fun e => by subst e; rw [hp] at h; exact ho.2 _ _ (Option.some.inj h)
    exact .inl ⟨q, by rw [upd_ne this]; exact h, hd⟩
  · exact .inr h
theorem frzL_wr {p b : Addr} {o o' : HO} {xs : List V} (hp : H p = some o) (ho : Loose o) (h : FrzL K H b xs) : FrzL K (L2.upd H p o') b xs := by
  rcases h with ⟨q, h⟩ | h
  · have : b ≠ p := fun e => by subst e; rw [hp] at h; exact ho.2 _ _ (Option.some.inj h)
    exact .inl ⟨q, by rw [upd_ne this]; exact h⟩
  · exact .inr h
theorem Kp.wr {p : Addr} {o o' : HO} (hA : A p) (hp : H p = some o) (ho : Loose o) : Kp K A A H (L2.upd H p o') where
  lst := fun b u ha e => ⟨by rw [upd_ne (fun z => by subst z; exact ha hA)]; exact e, ha⟩
  tup := fun b xs h => sqT_wr hp ho h
  frz := fun b xs h => frzL_wr hp ho h
theorem Own.loose {a : Addr} {d : D} (h : Own c H A a d) : ∃ o, H a = some o ∧ Loose o := by
  cases d with
  | list ds => obtain ⟨vs, h, _⟩ := h; exact ⟨_, h, loose_lst _⟩
  | dict kvs => obtain ⟨L, ep, h, _⟩ := h; exact ⟨_, h, loose_raw _ _ _⟩
  | _ => exact h.elim
theorem Fr.wr {p : Addr} {o o' : HO} (f : Fr K m m' H H') (h0 : H p = none) (hp : H' p = some o) (ho : Loose o) : Fr K m m' H (L2.upd H' p o') where
  pre := f.pre
  new := f.new
  ext := fun b u e hb => by rw [upd_ne (ne_of_none e h0)]; exact f.ext b u e hb
  tup := fun b xs h => sqT_wr hp ho (f.tup b xs h)
  frz := fun b xs h => frzL_wr hp ho (f.frz b xs h)
theorem WOk.less {Y : Addr → Prop} (W : WOk c own Y m H w) (h : ∀ b, Xv b → Y b) : WOk c own Xv m H w where
  len := W.len
  nd := W.nd
  ob := fun i a o e1 e2 => (W.ob i a o e1 e2).keep Fr.refl (.less fun b hb z => hb (z.elim .inl fun z => .inr (z.elim .inl fun z => .inr (h b z)))) fun _ e => e
  dis := fun b hb => ⟨(W.dis b hb).1, fun z => (W.dis b hb).2 (h b z)⟩
theorem Kp.plus {p : Addr} {o : HO} (hp : H p = none) : Kp K (Av own Xv m) (Av own (Plus Xv p) m) H (L2.upd H p o) :=
  ⟨fun b u ha e => ⟨(New.one hp).at e, fun z => (av_plus.mp z).elim ha (ne_of_none e hp)⟩, (Fr.upd (m := []) hp).tup, (Fr.upd (m := []) hp).frz⟩
theorem EOk.plus {p : Addr} {o : HO} (E : EOk c mo own Xv m H env σ) (hp : H p = none) : EOk c mo own (Plus Xv p) m (L2.upd H p o) env σ where
  len := E.len
  xd := fun b hb => by
    rcases hb with hb | rfl
    · obtain ⟨u, hu⟩ := E.xd b hb
      exact ⟨u, (New.one hp).at hu⟩
    · exact ⟨o, upd_same⟩
  ndA := E.ndA
  ndI := E.ndI
  hown := fun i a h => by
    obtain ⟨h1, h2, d, e1, e2, q⟩ := E.hown i a h
    refine ⟨h1, fun z => z.elim h2 fun z => ?_, d, e1, e2, q.keep (Kp.plus hp) fun u hu => (New.one hp).at hu⟩
    obtain ⟨u, hu⟩ := q.tracked
    rw [z, hp] at hu; cases hu
  sh := fun i x e h => by
    obtain ⟨v, e2, r⟩ := E.sh i x e h
    exact ⟨v, e2, r.keep (Fr.upd hp) (Kp.plus hp)⟩
  hmut := E.hmut
theorem RepV.kept {x : Vl} {v : V} {A A' : Addr → Prop} (g : ∀ (i : Nat) a, m[i]? = some a → m'[i]? = some a) (k : Kp c.K A A' H H') (h : RepV c H A m x v) : RepV c H' A' m' x v := by
  cases x with
  | d y => exact Rep.keep k h
  | ob i => obtain ⟨a, e, r⟩ := h; exact ⟨a, g _ _ e, r⟩
  | fn g => exact h
theorem Ob.kept {A A' : Addr → Prop} (g : ∀ (i : Nat) a, m[i]? = some a → m'[i]? = some a) (k : Kp c.K A A' H H') {a : Addr} (ha : ∀ o, H a = some o → H' a = some o) {o : Wo} (h : Ob c H A m a o) : Ob c H' A' m' a o := by
  cases o with
  | cell xs => exact ⟨h.1, h.2.keep k ha⟩
  | dct kvs => exact Own.keep (d := .dict kvs) k ha h
  | ins cl fs => obtain ⟨C, dx, gs, h1, h2, h3⟩ := h; exact ⟨C, dx, gs, h1, ha _ h2, Paired.mapP h3 fun _ _ q => ⟨q.1, q.2.kept g k⟩⟩
/-- the object at p, avoided, is changed -/
theorem WOk.wr {p : Addr} {o o' : HO} (W : WOk c own Xv m H w) (hx : Xv p) (hp : H p = some o) (ho : Loose o) : WOk c own Xv m (L2.upd H p o') w where
  len := W.len
  nd := W.nd
  ob := fun i a u e1 e2 => (W.ob i a u e1 e2).kept (fun _ _ e => e) (Kp.wr (.inr (.inr hx)) hp ho) fun u e => by
    rw [upd_ne (show a ≠ p from fun z => (W.dis a (List.mem_iff_getElem?.mpr ⟨i, e1⟩)).2 (by rw [z]; exact hx))]; exact e
  dis := W.dis
theorem EOk.wr {p : Addr} {o o' : HO} (E : EOk c mo own Xv m H env σ) (hx : Xv p) (hp : H p = some o) (ho : Loose o) : EOk c mo own Xv m (L2.upd H p o') env σ where
  len := E.len
  xd := fun b hb => by
    by_cases z : b = p
    · exact ⟨o', by rw [z]; exact upd_same⟩
    · obtain ⟨u, hu⟩ := E.xd b hb
      exact ⟨u, by rw [upd_ne z]; exact hu⟩
  ndA := E.ndA
  ndI := E.ndI
  hown := fun i a h => by
    obtain ⟨h1, h2, d, e1, e2, q⟩ := E.hown i a h
    exact ⟨h1, h2, d, e1, e2, q.keep (Kp.wr (.inr (.inr hx)) hp ho) fun u hu => by rw [upd_ne (show a ≠ p from fun z => h2 (by rw [z]; exact hx))]; exact hu⟩
  sh := fun i x e h => by
    obtain ⟨v, e2, r⟩ := E.sh i x e h
    exact ⟨v, e2, r.kept (fun _ _ e => e) (Kp.wr (.inr (.inr hx)) hp ho)⟩
  hmut := E.hmut
theorem RepB.kept {v : V} {d : D} {A A' : Addr → Prop} (k : Kp c.K A A' H H') (g : ∀ a o, a ∉ m → H a = some o → H' a = some o ∧ a ∉ m') (h : RepB c H A m v d) : RepB c H' A' m' v d := by
  cases h with
  | of h => exact .of (h.keep k)
  | own h hn =>
    obtain ⟨o, e⟩ := h.tracked
    exact .own (h.keep k fun o e => (g _ o hn e).1) (g _ o hn e).2
/-- where a dict stands -/
theorem RepB.dct_at {v : V} {kvs : List (D × D)} (h : RepB c H A m v (.dict kvs)) : ∃ a o, v = .ref a ∧ H a = some o ∧ (¬ A a ∨ a ∉ m) := by
  cases h with
  | of h => cases h with | dct h hA _ _ => exact ⟨_, _, rfl, h, .inl hA⟩
  | own h hn => obtain ⟨L, ep, h, _⟩ := h; exact ⟨_, _, rfl, h, .inr hn⟩
theorem SrcB.kept {p : Src} {A A' : Addr → Prop} (k : Kp c.K A A' H H') (g : ∀ a o, a ∉ m → H a = some o → H' a = some o ∧ a ∉ m') (h : SrcB c H A m p) : SrcB c H' A' m' p := by
  refine ⟨h.1.kept k g, fun z => ?_⟩
  obtain ⟨v, d, o⟩ := p
  obtain ⟨a, e, ha⟩ := h.2 z
  have e : v = .ref a := e
  subst e
  cases d with
  | dict kvs =>
    obtain ⟨b, o', e, hb, hn⟩ := RepB.dct_at h.1
    cases e
    refine ⟨a, rfl, ?_⟩
    rcases hn with hn | hn
    · exact (k.lst a _ hn ha).1
    · exact (g a _ hn ha).1
  | _ => cases z
theorem SrcB.all {p : Src} (h : SrcB c H A m p) : SrcB c H A [] p := ⟨h.1.all, h.2⟩
/-! ### a block that fills a list or dict at Dd -/
structure CS (c : Cn) (mo : Nat → Bool) (own : Ow) (Xv : Addr → Prop) (m : List Addr) (H : Hp) (es : List (Env × L2.St)) (env : Env) (σ : L2.St) (src : List Src) (Dd : Addr) (m' : List Addr) (H' : Hp) (w' : Wd) (d : D) : Prop where
  h0 : H Dd = none
  fr : Fr c.K m m' H H'
  W : WOk c own (Plus Xv Dd) m' H' w'
  E : EOk c mo own (Plus Xv Dd) m' H' env σ
  more : ∀ p ∈ es, EOk c mo own (Plus Xv Dd) m' H' p.1 p.2
  dd : Own c H' (Av own (Plus Xv Dd) m') Dd d
  src : ∀ p ∈ src, SrcB c H' (Av own (Plus Xv Dd) m') (Dd :: m') p
theorem Fr.kpp (f : Fr c.K m m' H H') : Kp c.K (Av own Xv m) (Av own Xv m') H H' := f.kp'
theorem CS.out {es : List (Env × L2.St)} {src : List Src} {Dd : Addr} {d : D} (S : CS c mo own Xv m H es env σ src Dd m' H' w' d) : Dd ∉ m' := fun h => (S.W.dis Dd h).2 (.inr rfl)
theorem CS.step {es : List (Env × L2.St)} {src : List Src} {Dd : Addr} {d : D} (S : CS c mo own Xv m H es env σ src Dd m' H' w' d) (f : Fr c.K m' m'' H' H'') (W : WOk c own (Plus Xv Dd) m'' H'' w'') : CS c mo own Xv m H es env σ src Dd m'' H'' w'' d where
  h0 := S.h0
  fr := S.fr.trans f
  W := W
  E := S.E.step f S.W
  more := fun p hp => (S.more p hp).step f S.W
  dd := S.dd.keep f.kp' fun o e => f.ext _ o e S.out
  src := fun p hp => (S.src p hp).kept f.kp' fun a o ha e => by
    rw [List.mem_cons, not_or] at ha
    refine ⟨f.ext a o e ha.2, fun z => ?_⟩
    rcases List.mem_cons.mp z with z | z
    · exact ha.1 z
    · rcases f.new a z with z | z
      · exact ha.2 z
      · rw [z] at e; cases e
theorem CS.new {es : List (Env × L2.St)} {src : List Src} {Dd : Addr} {d : D} (S : CS c mo own Xv m H es env σ src Dd m' H' w' d) (n : New H' H'') : CS c mo own Xv m H es env σ src Dd m' H'' w' d := S.step n.fr (S.W.new n)
theorem CS.write {es : List (Env × L2.St)} {src : List Src} {Dd : Addr} {d d' : D} {o' : HO} (S : CS c mo own Xv m H es env σ src Dd m' H' w' d) (q : Own c (L2.upd H' Dd o') (Av own (Plus Xv Dd) m') Dd d') : CS c mo own Xv m H es env σ src Dd m' (L2.upd H' Dd o') w' d' := by
  obtain ⟨o, ho, hl⟩ := S.dd.loose
  exact ⟨S.h0, S.fr.wr S.h0 ho hl, S.W.wr (.inr rfl) ho hl, S.E.wr (.inr rfl) ho hl, fun p hp => (S.more p hp).wr (.inr rfl) ho hl, q, fun p hp => (S.src p hp).kept (Kp.wr (.inr (.inr (.inr rfl))) ho hl) fun a u ha e => by
    refine ⟨?_, ha⟩
    rw [List.mem_cons, not_or] at ha
    rw [upd_ne ha.1]; exact e⟩
theorem CS.app {es : List (Env × L2.St)} {src : List Src} {Dd : Addr} {ys : List D} {y : V} {d : D} (S : CS c mo own Xv m H es env σ src Dd m' H' w' (.list ys)) (r : Rep c H' (Av own (Plus Xv Dd) m') y d) :
    ∃ acc, H' Dd = some (.lst acc) ∧ acc.length = ys.length ∧ CS c mo own Xv m H es env σ src Dd m' (L2.upd H' Dd (.lst (acc ++ [y]))) w' (.list (ys ++ [d])) := by
  obtain ⟨acc, ho, rs⟩ := S.dd
  refine ⟨acc, ho, rs.length, S.write ⟨acc ++ [y], upd_same, ?_⟩⟩
  exact (rs.append (.cons r .nil)).keep (Kp.wr (.inr (.inr (.inr rfl))) ho (loose_lst _))
/-- the block is over -/
theorem CS.done {es : List (Env × L2.St)} {src : List Src} {Dd : Addr} {d : D} (S : CS c mo own Xv m H es env σ src Dd m' H' w' d) (hd : ∀ b, Xv b → ∃ o, H b = some o) : Fr c.K m m' H H' ∧ WOk c own Xv m' H' w' ∧ RepM c own Xv md H m' H' w' (.d d) (.ref Dd) := by
  refine ⟨S.fr, S.W.less fun b h => .inl h, RepD.le (fresh_all md) (.inr ⟨Dd, rfl, S.h0, ?_, S.dd.keep (.less fun b hb z => hb ?_) fun _ e => e⟩), fun _ _ a e => by cases e; exact S.W⟩
  · rintro (h | ⟨i, h⟩ | h)
    · exact S.out h
    · exact (S.E.hown i Dd h).2.1 (.inr rfl)
    · obtain ⟨o, e⟩ := hd _ h
      rw [S.h0] at e; cases e
  · exact av_plus.mpr z
theorem CS.start {src : List Src} {Dd : Addr} {o : HO} {d : D} (E : EOk c mo own Xv m' H' env σ) (W : WOk c own Xv m' H' w') (f : Fr c.K m m' H H') (hD : H' Dd = none) (hs : ∀ p ∈ src, SrcB c H' (Av own Xv m') m' p) (q : Own c (L2.upd H' Dd o) (Av own (Plus Xv Dd) m') Dd d) :
    CS c mo own Xv m H [] env σ src Dd m' (L2.upd H' Dd o) w' d where
  h0 := f.back W hD
  fr := f.trans (Fr.upd hD)
  W := W.plus hD
  E := E.plus hD
  more := fun p hp => (List.not_mem_nil hp).elim
  dd := q
  src := fun p hp => (hs p hp).kept (Kp.plus hD) fun a u ha e => ⟨(New.one hD).at e, fun z => by
    rcases List.mem_cons.mp z with z | z
    · rw [z, hD] at e; cases e
    · exact ha z⟩
end
end Mx

set_option Elab.async false
set_option linter.all false
set_option maxRecDepth 100000
set_option maxHeartbeats 1000000
/-! Mxf: list comprehensions, the rule. -/
namespace Mx
open PySem PySem.Spec L2
section
variable {tb : Tbl} {F n : Nat} {sx : Sx} {X : Cx} {md : Mode} {c : Cn} {cf : Cfg} {mo : Nat → Bool} {own : Ow} {Xv : Addr → Prop} {m m' m'' : List Addr} {H H' H'' : Hp} {env env' : Env} {σ σ' : L2.St} {w w' w'' : Wd} {A : Addr → Prop} {K : PySem.W.Frag}
theorem blk_of {scope : Scope} {vs ixs : List Nat} (C : Ctx tb F n sx X) (h : blkB sx scope vs ixs = true) : BlkOk X.N X.env.scope scope (ownP X.N vs) ∧ (∀ i ∈ vs, sx.mof i = false) ∧ (∀ i ∈ ixs, i ∈ vs) := by
  obtain ⟨h, h3⟩ := band (show (blkC sx.N sx.sc scope (ownP sx.N vs) && vs.all (fun i => !sx.mo.contains i) && ixs.all fun i => vs.contains i) = true from h)
  obtain ⟨h1, h2⟩ := band h
  rw [C.N, C.sc]
  refine ⟨blkOk_by h1, fun i hi => bnot (List.all_eq_true.mp h2 i hi), fun i hi => ?_⟩
  have := List.all_eq_true.mp h3 i hi
  simpa using this
theorem Ctx.blk {scope : Scope} {vs ixs : List Nat} (C : Ctx tb F n sx X) (h : blkB sx scope vs ixs = true) (s : Shared) (H : Hp) (Cc : Addr) (cl : List (Str × Addr)) (fp : List Addr) : Ctx tb F n (sx.blk scope) (X.blk s H scope (compEnvC scope cl Cc X.env) fp) where
  N := C.N
  sc := by
    show relS scope X.env.scope = relS scope sx.sc
    rw [C.sc]
  nd := C.nd
  calm := C.calm
  room := C.room
  fns := C.fns
  free := C.free
  dfs := C.dfs
  cls := C.cls
  glb := C.glb
  gls := C.gls
  fnc := fun x hx => by
    have hu := (blk_of C h).1.uniq
    have hx : x ∈ ((scope.names.filter fun y => match y.2 with | .cell => true | _ => false).map (·.1)) := List.contains_iff_mem.mp hx
    obtain ⟨y, hy, rfl⟩ := List.mem_map.mp hx
    obtain ⟨hy1, hy2⟩ := List.mem_filter.mp hy
    show (scope.names.lookup y.1 == some .cell) = true
    rw [hu y hy1]
    obtain ⟨a, k⟩ := y
    cases k <;> first | rfl | cases hy2
def tTs (c : Cn) (cf : Cfg) (mo : Nat → Bool) (e : Eo) : TT := fun σ H Q => ∃ (own : Ow) (X : Addr → Prop) (m : List Addr) (env : Env) (w : Wd), EOk c mo own X m H env σ ∧ WOk c own X m H w ∧
  (evT cf e env w).sat fun b w' => ∀ m' H', Fr c.K m m' H H' → WOk c own X m' H' w' → Q b H'
def OkTs (tb : Tbl) (F n : Nat) (e : Eo) : Prop := ∀ (sx : Sx) (xs : List Expr) (X : Cx), chkT sx e xs = true → Ctx tb F n sx X → PTs X xs (tTs (cn X sx.nmf) ⟨callN tb F n, F⟩ sx.mof e)
theorem PTs_imp {X : Cx} {e : List Expr} {t t' : TT} (h : PTs X e t) (i : ∀ σ H Q, t' σ H Q → t σ H Q) : PTs X e t' := ⟨fun pins s σ H Q I q => h.run pins s σ H Q I (i σ H Q q)⟩
theorem okTs_none : OkTs tb F n .none := by
  intro sx xs X hc C
  cases xs with
  | nil => exact PTs_imp pts_nil fun σ H Q ⟨own, Xv, m, env, w, E, W, h⟩ => h m H Fr.refl W
  | cons x xs => cases hc
theorem okTs_some (e : E) (he : OkT tb F n e) : OkTs tb F n (.some e) := by
  intro sx xs X hc C
  rcases xs with _ | ⟨x, _ | ⟨y, r⟩⟩
  · cases hc
  · exact PTs_imp (pts_one (he sx x X hc C)) fun σ H Q ⟨own, Xv, m, env, w, E, W, h⟩ => ⟨own, Xv, m, env, w, E, W, h⟩
  · cases hc
theorem ownP_ix (N : List Str) (vs : List Nat) : (ownP N vs).map (·.2) = vs := by
  unfold ownP
  rw [List.map_map]
  induction vs with
  | nil => rfl
  | cons v vs ih => rw [List.map_cons, ih]; rfl
theorem folded_of {x : Expr} {env : PySem.Env} (h : setB x = false) : ∀ v, foldedSetIterable x env v = pure v := by
  intro v
  cases x <;> first | rfl | cases h
theorem notSet_of {md : Mode} {t : Bool} {it : It} {x : Expr} (h : chkI sx md t it x = true) : setB x = false := by
  cases it with
  | seq e =>
    have h : (chk sx md e x && !setB x) = true := by cases x <;> exact h
    exact bnot (band h).2
  | _ => cases x <;> first | rfl | cases h
theorem sat_ex {α : Type} {r : Res α} {P : α → Wd → Prop} (h : r.sat P) : ∃ a w, P a w := by
  cases r with
  | ok a w => exact ⟨a, w, h⟩
  | _ => exact h.elim
theorem drop_get {α : Type} {l : List α} {i : Nat} {x : α} (h : l[i]? = some x) : l.drop i = x :: l.drop (i + 1) := by
  obtain ⟨hi, rfl⟩ := List.getElem?_eq_some_iff.mp h
  exact List.drop_eq_getElem_cons hi
theorem lcL_cons (step : D → Wd → Res (Option D)) (x : D) (xs : List D) (w : Wd) : lcL step (x :: xs) w = (step x w).bind fun o w => (lcL step xs w).bind fun r w => match o with
    | some y => .ok (y :: r) w
    | none => .ok r w := rfl
/-- the turns of a comprehension over ds, ys0 there already; Fin: what the items must do at the end -/
theorem lc_turns {es : List (Env × L2.St)} {J : L2.It} {src : List Src} {ds ys0 : List D} {Dd : Addr} {vs : List Nat} {tg : Tg} {ifs : Eo} {elt : E} {Fin : List D → Wd → Prop} {Q : Hp → Prop} {b : Bool} (hb : b = true → tg.isTup = true) (Wk : Walk c b J src ds) (hix : ∀ i ∈ tg.ix, i ∈ vs) (hmo : ∀ i ∈ tg.ix, mo i = false)
    {m0 : List Addr} {H0 : Hp} {w0 : Wd} (S : CS c mo own Xv m H es (wipeE env vs) (wipe σ vs) src Dd m0 H0 w0 (.list ys0))
    (hfit : ∀ ys w, Fin ys w → ys.length ≤ sizeLine)
    (hs : (lcL (fun x w => (ofO (bindTg (wipeE env vs) tg x) w).bind fun env' w => (evT cf ifs env' w).bind fun t w => if t then (ev cf elt env' w).dat.bind fun y w => .ok (some y) w else .ok none w) ds w0).sat fun r w => Fin (ys0 ++ r) w)
    (hQ : ∀ m' H' w' ys, CS c mo own Xv m H es (wipeE env vs) (wipe σ vs) src Dd m' H' w' (.list ys) → Fin ys w' → Q H') :
    ∃ W : Nat → Nat → Hp → Prop, (∃ k, W 0 k H0) ∧ ∀ i k H, W i k H →
      (J.stop i H ∧ Q H) ∨ (J.go i H ∧ ∃ Nx : Hp → Prop, (∀ H', Nx H' → ∃ k', k' < k ∧ W (i + 1) k' H') ∧ ∀ x H', J.yld i H x H' → gT c.K tg x (wipe σ vs) H' fun σ2 H2 => wipe σ2 vs = wipe σ vs ∧ tTs c cf mo ifs σ2 H2 fun b H3 =>
        if b = true then tE c cf mo .keep elt σ2 H3 fun y H4 => ∃ acc, H4 Dd = some (.lst acc) ∧ acc.length < sizeLine ∧ Nx (L2.upd H4 Dd (.lst (acc ++ [y]))) else Nx H3) := by
  let step : D → Wd → Res (Option D) := fun x w => (ofO (bindTg (wipeE env vs) tg x) w).bind fun env' w => (evT cf ifs env' w).bind fun t w => if t then (ev cf elt env' w).dat.bind fun y w => .ok (some y) w else .ok none w
  let Nxt : Nat → Hp → Prop := fun i Hh => ∃ m' w' ys, CS c mo own Xv m H es (wipeE env vs) (wipe σ vs) src Dd m' Hh w' (.list ys) ∧ (lcL step (ds.drop i) w').sat fun r w'' => Fin (ys ++ r) w''
  refine ⟨fun i k Hh => k = ds.length - i ∧ i ≤ ds.length ∧ Nxt i Hh, ⟨ds.length, rfl, Nat.zero_le _, m0, w0, ys0, S, ?_⟩, ?_⟩
  · rw [List.drop_zero]; exact hs
  rintro i k Hh ⟨rfl, hi, m1, w1, ys, S1, hr⟩
  have dom : Dom (Av own (Plus Xv Dd) m1) Hh := S1.W.dom S1.E
  have so : ∀ p ∈ src, SrcB c Hh (Av own (Plus Xv Dd) m1) [] p := fun p hp => (S1.src p hp).all
  by_cases hlt : i < ds.length
  · refine .inr ⟨Wk.go Hh _ i dom so hlt, Nxt (i + 1), fun H' h' => ⟨ds.length - (i + 1), by omega, rfl, hlt, h'⟩, fun x H' y => ?_⟩
    have hd : ds[i]? = some ds[i] := List.getElem?_eq_getElem hlt
    obtain ⟨nw, rx⟩ := Wk.yld Hh _ i x H' dom so y _ hd
    have S2 := S1.new nw
    rw [drop_get hd, lcL_cons, sat_bind] at hr
    have hr : (((ofO (bindTg (wipeE env vs) tg ds[i]) w1).bind fun env' w => (evT cf ifs env' w).bind fun t w => if t then (ev cf elt env' w).dat.bind fun y w => .ok (some y) w else .ok none w)).sat _ := hr
    rw [sat_bind, sat_ofO] at hr
    obtain ⟨env2, he2, hr⟩ := hr
    refine gT_ok hmo he2 hb rx S2.E fun σ2 E2 on => ⟨(on vs hix).trans wipe_wipe, ?_⟩
    rw [sat_bind] at hr
    refine ⟨own, Plus Xv Dd, m1, env2, w1, E2, S2.W, sat_mono hr fun b w3 hr m3 H3 f3 W3 => ?_⟩
    have S3 := S2.step f3 W3
    have E3 := E2.step f3 S2.W
    cases b with
    | false =>
      rw [if_neg (by simp)] at hr
      show Nxt (i + 1) H3
      refine ⟨m3, w3, ys, S3, ?_⟩
      have hr : ((lcL step (ds.drop (i + 1)) w3).bind fun r w => Res.ok r w).sat fun r w'' => Fin (ys ++ r) w'' := hr
      rw [sat_bind] at hr
      exact hr
    | true =>
      rw [if_pos rfl] at hr
      show tE c cf mo .keep elt σ2 H3 _
      rw [sat_bind, sat_dat] at hr
      refine ⟨own, Plus Xv Dd, m3, env2, w3, E3, W3, sat_mono hr fun y1 w4 hr v4 m4 H4 f4 W4 r4 => ?_⟩
      obtain ⟨yd, rfl, hr⟩ := hr
      have S4 := S3.step f4 W4
      obtain ⟨acc, ha, hal, S5⟩ := S4.app (y := v4) (d := yd) r4.1
      have hr : ((lcL step (ds.drop (i + 1)) w4).bind fun r w => Res.ok (yd :: r) w).sat fun r w'' => Fin (ys ++ r) w'' := hr
      rw [sat_bind] at hr
      obtain ⟨r0, w0', hfin⟩ := sat_ex hr
      have hl := hfit _ _ hfin
      rw [List.length_append, List.length_cons] at hl
      refine ⟨acc, ha, by omega, m4, w4, ys ++ [yd], S5, ?_⟩
      refine sat_mono hr fun r w5 hr => ?_
      rw [List.append_assoc]
      exact hr
  · have e : i = ds.length := by omega
    subst e
    rw [List.drop_length] at hr
    have hr : Fin (ys ++ []) w1 := hr
    rw [List.append_nil] at hr
    exact .inl ⟨Wk.stop Hh _ dom so, hQ m1 Hh w1 ys S1 hr⟩
theorem ev_lc (cf : Cfg) (vs : List Nat) (tg : Tg) (it : It) (ifs : Eo) (elt : E) (env : Env) (w : Wd) : ev cf (.lc vs tg it ifs elt) env w = (evI cf it env w).bind fun xs w => (lcL (fun x w => (ofO (bindTg (wipeE env vs) tg x) w).bind fun env' w => (evT cf ifs env' w).bind fun t w =>
      if t then (ev cf elt env' w).dat.bind fun y w => .ok (some y) w else .ok none w) xs w).bind fun ys w => if fits ys.length then .ok (.d (.list ys)) w else .stuck := rfl
theorem tE_lc {vs : List Nat} {tg : Tg} {it : It} {ifs : Eo} {elt : E} (hb : it.loose = true → tg.isTup = true) (hix : ∀ i ∈ tg.ix, i ∈ vs) (hvs : ∀ i ∈ vs, mo i = false) (σ : L2.St) (H : Hp) (Q : VK) (h : tE c cf mo md (.lc vs tg it ifs elt) σ H Q) :
    tLc (tI c cf mo .look it) (gT c.K tg) (tTs c cf mo ifs) (tE c cf mo .keep elt) vs σ H Q := by
  obtain ⟨own, Xv, m, env, w, E, W, h⟩ := h
  rw [ev_lc, sat_bind] at h
  refine ⟨own, Xv, m, env, w, E, W, sat_mono h fun ds w1 h J src m1 H1 f1 W1 wk hs => ?_⟩
  intro Dd hD
  rw [sat_bind] at h
  have E1 := (E.step f1 W).wipe hvs
  have S : CS c mo own Xv m H [] (wipeE env vs) (wipe σ vs) src Dd m1 (L2.upd H1 Dd (.lst [])) w1 (.list []) :=
    CS.start E1 W1 f1 hD (fun p hp => ⟨(hs p hp).1, (hs p hp).2⟩) ⟨[], upd_same, .nil⟩
  refine lc_turns (Fin := fun ys w => (if fits ys.length then Res.ok (Vl.d (.list ys)) w else .stuck).sat fun x w' => ∀ (v : V) (m' : List Addr) (H' : Hp), Fr c.K m m' H H' → WOk c own Xv m' H' w' → RepM c own Xv md H m' H' w' x v → Q v H') (Q := fun H' => Q (.ref Dd) H') hb wk hix (fun i hi => hvs i (hix i hi)) S (fun ys w fin => fits_le (sat_if fin).1) h fun m' H' w' ys S' fin => ?_
  obtain ⟨g1, g2, g3⟩ := S'.done (md := md) E.xd
  exact (sat_if fin).2 _ m' H' g1 g2 g3
theorem loose_tg {sx sx' : Sx} {md : Mode} {tx ix : Expr} {it : It} {tg : Tg} (h : chkI sx md (tupB tx) it ix = true) (h2 : chkTg sx' tg tx = true) (hl : it.loose = true) : tg.isTup = true := by
  have ht : tupB tx = true := by
    cases hb : tupB tx with
    | true => rfl
    | false =>
      rw [hb] at h
      cases it <;> first | (cases hl; done) | skip
      all_goals (cases ix <;> first | (cases h; done) | skip)
      all_goals (rename_i fx xs kw pos; cases fx <;> first | (cases h; done) | skip)
      all_goals (rcases xs with _ | ⟨x, _ | ⟨y, _ | ⟨z, t⟩⟩⟩ <;> rcases kw with _ | ⟨_, _⟩ <;> first | (cases h; done) | skip)
      all_goals (exact absurd (band h).2 Bool.false_ne_true)
  cases tg with
  | tup _ => rfl
  | name i => cases tx <;> first | (cases ht; done) | cases h2
theorem ok_lc (vs : List Nat) (tg : Tg) (it : It) (ifs : Eo) (elt : E) (hi : OkI tb F n it) (ht : OkTs tb F n ifs) (he : OkE tb F n elt) : OkE tb F n (.lc vs tg it ifs elt) := by
  intro sx md ex X hc C
  cases ex with
  | ListComp ex gs scope pos =>
    rcases gs with _ | ⟨⟨tx, ix, fx, as⟩, _ | ⟨_, _⟩⟩
    · cases hc
    · · have hc : (decide (as = 0) && chkI sx .look (tupB tx) it ix && blkB sx scope vs tg.ix && chkTg (sx.blk scope) tg tx && chkT (sx.blk scope) ifs fx && chk (sx.blk scope) .keep elt ex) = true := hc
        obtain ⟨hc, h5⟩ := band hc
        obtain ⟨hc, h4⟩ := band hc
        obtain ⟨hc, h3⟩ := band hc
        obtain ⟨hc, h2⟩ := band hc
        obtain ⟨h0, h1⟩ := band hc
        obtain rfl := of_decide_eq_true h0
        obtain ⟨b1, b2, b3⟩ := blk_of C h2
        have key := pe_lc (elt := ex) (pos := pos) (g := gT X.K tg) (tt := tTs (cn X sx.nmf) ⟨callN tb F n, F⟩ sx.mof ifs) (te := tE (cn X sx.nmf) ⟨callN tb F n, F⟩ sx.mof .keep elt) C.calm C.nd (hi sx .look tx ix X rfl h1 C) b1 (fun s H Cc cl fp => pg_T (C.blk h2 s H Cc cl fp) h3) (fun s H Cc cl fp => ht (sx.blk scope) fx _ h4 (C.blk h2 s H Cc cl fp)) (fun s H Cc cl fp => he (sx.blk scope) .keep ex _ h5 (C.blk h2 s H Cc cl fp)) (folded_of (notSet_of h1))
        rw [ownP_ix] at key
        exact PE_imp key fun σ H Q q => tE_lc (loose_tg h1 h3) b3 b2 σ H Q q
    · cases hc
  | _ => cases hc
end
end Mx

set_option Elab.async false
set_option linter.all false
set_option maxRecDepth 100000
set_option maxHeartbeats 1000000
/-! Mxg: statements. -/
namespace Mx
open PySem PySem.Spec L2
theorem Kp.trans {K : PySem.W.Frag} {A A1 A2 : Addr → Prop} {H H1 H2 : Hp} (a : Kp K A A1 H H1) (b : Kp K A1 A2 H1 H2) : Kp K A A2 H H2 :=
  ⟨fun x o h e => b.lst x o (a.lst x o h e).2 (a.lst x o h e).1, fun x xs h => b.tup x xs (a.tup x xs h), fun x xs h => b.frz x xs (a.frz x xs h)⟩
theorem Kp.refl {K : PySem.W.Frag} {A : Addr → Prop} {H : Hp} : Kp K A A H H := ⟨fun _ _ h e => ⟨e, h⟩, fun _ _ h => h, fun _ _ h => h⟩
/-- a frame between two statements; m0, H0: at its start -/
structure SOk (c : Cn) (mo : Nat → Bool) (X : Addr → Prop) (m0 : List Addr) (H0 : Hp) (own : Ow) (m : List Addr) (H : Hp) (env : Env) (σ : L2.St) (w : Wd) : Prop where
  E : EOk c mo own X m H env σ
  W : WOk c own X m H w
  fr : Fr c.K m0 m H0 H
  fo : ∀ i a, (i, a) ∈ own → H0 a = none
def Fin (c : Cn) (mo : Nat → Bool) (X : Addr → Prop) (m0 : List Addr) (H0 : Hp) (own : Ow) (m : List Addr) (H : Hp) (D : Ends) : Fl → Wd → Prop
  | .nx env', w' => ∀ own' m' H' σ', SOk c mo X m0 H0 own' m' H' env' σ' w' → Kp c.K (Av own X m) (Av own' X m') H H' → D.nx σ' H'
  | .rt x, w' => ∀ v m' H', Fr c.K m0 m' H0 H' → WOk c [] X m' H' w' → RepV c H' (Av [] X m') m' x v → D.rt v H'
  | .bk env', w' => ∀ own' m' H' σ', SOk c mo X m0 H0 own' m' H' env' σ' w' → Kp c.K (Av own X m) (Av own' X m') H H' → D.bk σ' H'
  | .ct env', w' => ∀ own' m' H' σ', SOk c mo X m0 H0 own' m' H' env' σ' w' → Kp c.K (Av own X m) (Av own' X m') H H' → D.ct σ' H'
def tS (c : Cn) (cf : Cfg) (mo : Nat → Bool) (st : S) : TS := fun D σ H => ∃ X m0 H0 own m env w, SOk c mo X m0 H0 own m H env σ w ∧ (ex cf st env w).sat (Fin c mo X m0 H0 own m H D)
def tSs (c : Cn) (cf : Cfg) (mo : Nat → Bool) (st : Ss) : TS := fun D σ H => ∃ X m0 H0 own m env w, SOk c mo X m0 H0 own m H env σ w ∧ (exs cf st env w).sat (Fin c mo X m0 H0 own m H D)
/-! ### which text a statement stands for -/
def compB : Expr → Bool
  | .ListComp _ _ _ _ => true
  | .SetComp _ _ _ _ => true
  | .DictComp _ _ _ _ _ => true
  | _ => false
def isComp : E → Bool
  | .lc _ _ _ _ _ => true
  | .lc2 _ _ _ _ _ _ _ => true
  | .dc _ _ _ _ _ => true
  | .dc2 _ _ _ _ _ _ _ => true
  | _ => false
def slotB : E → Bool
  | .slot _ => true
  | _ => false
def moMode (sx : Sx) (i : Nat) : Mode := if sx.mo.contains i then .fresh else .keep
/-- an owned slot by its name -/
def ownN (sx : Sx) (i : Nat) (x : Str) : Bool := decide (sx.N[i]? = some x) && visB sx.sc x && plainName x && sx.mo.contains i
def fnB (sc : Scope) : Bool := match sc.kind with
  | .function => true
  | _ => false
def foldB : Expr → Bool
  | .Tuple vs _ _ => vs.all (foldedForSure 8)
  | _ => false
def parN (sx : Sx) (i : Nat) (x : Str) : Bool := (match sx.sc.names.lookup x with
  | some .local => true
  | _ => false) && !sx.mo.contains i
/-- a, b = x, y -/
def parS : List Expr → Expr → Option (Str × Pos × Str × Pos × Expr × Expr)
  | [.Tuple [.Name x px, .Name y py] _ _], .Tuple [ax, bx] _ _ => some (x, px, y, py, ax, bx)
  | _, _ => none
theorem parS_some {ts : List Expr} {v : Expr} {p : Str × Pos × Str × Pos × Expr × Expr} (h : parS ts v = some p) : ∃ kt pt k2 pt2, ts = [.Tuple [.Name p.1 p.2.1, .Name p.2.2.1 p.2.2.2.1] kt pt] ∧ v = .Tuple [p.2.2.2.2.1, p.2.2.2.2.2] k2 pt2 := by
  unfold parS at h
  split at h
  · cases h; exact ⟨_, _, _, _, rfl, rfl⟩
  · cases h
def parC (sx : Sx) (i j : Nat) : Option (Str × Pos × Str × Pos × Expr × Expr) → Bool
  | some (x, px, y, py, ax, bx) => decide (sx.N[i]? = some x) && decide (sx.N[j]? = some y) && !decide (i = j) && parN sx i x && parN sx j y && (px.line == py.line) && decide (x ≠ y) && !([ax, bx].all (foldedForSure 8)) && !([ax, bx].all (constantsAlone 8)) && fnB sx.sc
  | none => false
mutual
def chkS (sx : Sx) : S → Stmt → Bool
  | .asg i e, .Assign [.Name x _] v _ => decide (sx.N[i]? = some x) && locB sx x && chk sx (moMode sx i) e v && (!compB v || isComp e)
  | .asgT is e, .Assign [.Tuple xs _ _] v _ => tgNs sx is xs && chk sx .keep e v && (!tupB v || foldB v) && !compB v
  | .par i j a b, .Assign ts v _ => parC sx i j (parS ts v) && (match parS ts v with | some p => chk sx .keep a p.2.2.2.2.1 && !starB p.2.2.2.2.1 && chk sx .keep b p.2.2.2.2.2 && !starB p.2.2.2.2.2 | none => false)
  | .expr e, .Expr v _ => chk sx .keep e v && !compB v
  | .ret e, .Return (some v) _ => chk sx .keep e v || (slotB e && chk sx .look e v)
  | .retN, .Return none _ => true
  | .ite t a b, .If tx ax bx _ => chk sx .keep t tx && chkSs sx a ax && chkSs sx b bx
  | .for_ tg it b, .For tx ix bx [] _ => chkI sx .keep (tupB tx) it ix && chkTg sx tg tx && chkSs sx b bx
  | .while_ t b, .While tx bx [] _ => chk sx .keep t tx && chkSs sx b bx
  | .aug i op e, .AugAssign (.Name x _) o v _ => decide (sx.N[i]? = some x) && locB sx x && !sx.mo.contains i && bopB op o && chk sx .peek e v
  | .app i e, .Expr (.Call (.Attribute (.Name x _) f apos) [v] [] cpos) _ => ownN sx i x && decide (f = "append") && chk sx .keep e v && !starB v && (apos.endLine == cpos.line)
  | .ext i e, .Expr (.Call (.Attribute (.Name x _) f apos) [v] [] cpos) _ => ownN sx i x && decide (f = "extend") && chk sx .fresh e v && !starB v && (apos.endLine == cpos.line)
  | .popK i e, .Expr (.Call (.Attribute (.Name x _) f apos) [v] [] cpos) _ => ownN sx i x && decide (f = "pop") && chk sx .keep e v && !starB v && (apos.endLine == cpos.line)
  | .put i k e, .Assign [.Subscript (.Name x _) kx _] v _ => ownN sx i x && chk sx .keep e v && chk sx .keep k kx && !sliceB kx
  | .oput o k e, .Assign [.Subscript ox kx _] v _ => chk sx .keep o ox && chk sx .keep e v && chk sx .keep k kx && !sliceB kx
  | .oapp o e, .Expr (.Call (.Attribute ox f apos) [v] [] cpos) _ => chk sx .keep o ox && baseB ox && decide (f = "append") && chk sx .keep e v && !starB v && (apos.endLine == cpos.line)
  | .fset i cl f e, .Assign [.Attribute (.Name x _) y _] v _ => decide (sx.N[i]? = some x) && visB sx.sc x && plainName x && decide (f = y) && fldB sx cl f && chk sx .keep e v
  | .cont, .Continue _ => true
  | .brk, .Break _ => true
  | .pass, .Pass _ => true
  | .stuck, _ => true
  | _, _ => false
def chkSs (sx : Sx) : Ss → List Stmt → Bool
  | .nil, [] => true
  | .cons s r, x :: xs => chkS sx s x && chkSs sx r xs
  | _, _ => false
end
def OkS (tb : Tbl) (F n : Nat) (st : S) : Prop := ∀ (sx : Sx) (x : Stmt) (X : Cx), chkS sx st x = true → Ctx tb F n sx X → PassesOwn (model X.prog X.w) X.A X.env X.xe → PS X x (tS (cn X sx.nmf) ⟨callN tb F n, F⟩ sx.mof st)
def OkSs (tb : Tbl) (F n : Nat) (st : Ss) : Prop := ∀ (sx : Sx) (x : List Stmt) (X : Cx), chkSs sx st x = true → Ctx tb F n sx X → PassesOwn (model X.prog X.w) X.A X.env X.xe → PSs X x (tSs (cn X sx.nmf) ⟨callN tb F n, F⟩ sx.mof st)
section
variable {tb : Tbl} {F n : Nat} {sx : Sx} {X : Cx} {md : Mode} {c : Cn} {cf : Cfg} {mo : Nat → Bool} {own : Ow} {Xv : Addr → Prop} {m0 m m' m'' : List Addr} {H0 H H' H'' : Hp} {env env' : Env} {σ σ' : L2.St} {w w' w'' : Wd} {A : Addr → Prop} {K : PySem.W.Frag} {D : Ends}
theorem SOk.step (S : SOk c mo Xv m0 H0 own m H env σ w) (f : Fr c.K m m' H H') (W : WOk c own Xv m' H' w') : SOk c mo Xv m0 H0 own m' H' env σ w' := ⟨S.E.step f S.W, W, S.fr.trans f, S.fo⟩
/-! ### a slot that is emptied, a slot that gets a new list or dict -/
def dropI (i : Nat) (own : Ow) : Ow := own.filter fun p => decide (p.1 ≠ i)
theorem mem_dropI {i j : Nat} {a : Addr} : (j, a) ∈ dropI i own ↔ (j, a) ∈ own ∧ j ≠ i := by
  unfold dropI
  rw [List.mem_filter]
  constructor
  · rintro ⟨h1, h2⟩
    exact ⟨h1, of_decide_eq_true h2⟩
  · rintro ⟨h1, h2⟩
    exact ⟨h1, decide_eq_true h2⟩
theorem av_drop {i : Nat} {b : Addr} (h : Av (dropI i own) Xv m b) : Av own Xv m b := by
  rcases h with h | ⟨j, h⟩ | h
  · exact .inl h
  · exact .inr (.inl ⟨j, (mem_dropI.mp h).1⟩)
  · exact .inr (.inr h)
theorem nodup_filter_map {α β : Type} {f : α → β} {p : α → Bool} : ∀ {l : List α}, (l.map f).Nodup → ((l.filter p).map f).Nodup := fun {l} h => h.sublist ((List.filter_sublist).map f)
theorem SOk.drop (S : SOk c mo Xv m0 H0 own m H env σ w) (i : Nat) : SOk c mo Xv m0 H0 (dropI i own) m H (env.set i none) (σ.set i none) w where
  E := {
    len := by rw [List.length_set, List.length_set]; exact S.E.len
    xd := S.E.xd
    ndA := nodup_filter_map S.E.ndA
    ndI := nodup_filter_map S.E.ndI
    hown := fun j a h => by
      obtain ⟨h1, h2⟩ := mem_dropI.mp h
      obtain ⟨q1, q2, d, e1, e2, q⟩ := S.E.hown j a h1
      exact ⟨q1, q2, d, by rw [List.getElem?_set_ne (Ne.symm h2)]; exact e1, by rw [List.getElem?_set_ne (Ne.symm h2)]; exact e2, q.keep (.less fun b hb z => hb (av_drop z)) fun _ e => e⟩
    sh := fun j x e h => by
      rcases set_get e with ⟨_, z, _⟩ | ⟨e1, e2⟩
      · cases z
      · obtain ⟨v, e3, r⟩ := S.E.sh j x e2 fun a ha => h a (mem_dropI.mpr ⟨ha, Ne.symm e1⟩)
        exact ⟨v, by rw [List.getElem?_set_ne e1]; exact e3, r.kept (fun _ _ e => e) (.less fun b hb z => hb (av_drop z))⟩
    hmut := fun j d h e q => by
      rcases set_get e with ⟨_, z, _⟩ | ⟨e1, e2⟩
      · cases z
      · obtain ⟨a, ha⟩ := S.E.hmut j d h e2 q
        exact ⟨a, mem_dropI.mpr ⟨ha, Ne.symm e1⟩⟩ }
  W := {
    len := S.W.len
    nd := S.W.nd
    ob := fun j a o e1 e2 => (S.W.ob j a o e1 e2).kept (fun _ _ e => e) (.less fun b hb z => hb (av_drop z)) fun _ e => e
    dis := fun b hb => ⟨fun j h => (S.W.dis b hb).1 j (mem_dropI.mp h).1, (S.W.dis b hb).2⟩ }
  fr := S.fr
  fo := fun j a h => S.fo j a (mem_dropI.mp h).1
theorem av_add {i : Nat} {a b : Addr} : Av ((i, a) :: own) Xv m b ↔ Av own (Plus Xv a) m b := by
  unfold Av Plus
  constructor
  · rintro (h | ⟨j, h⟩ | h)
    · exact .inl h
    · rcases List.mem_cons.mp h with h | h
      · cases h; exact .inr (.inr (.inr rfl))
      · exact .inr (.inl ⟨j, h⟩)
    · exact .inr (.inr (.inl h))
  · rintro (h | ⟨j, h⟩ | h | h)
    · exact .inl h
    · exact .inr (.inl ⟨j, List.mem_cons_of_mem _ h⟩)
    · exact .inr (.inr h)
    · subst h; exact .inr (.inl ⟨i, List.mem_cons_self ..⟩)
/-- a slot gets an owned object: E ahead of the expression, H' behind it -/
theorem SOk.gain {i : Nat} {a : Addr} {d : Mx.D} (S : SOk c mo Xv m0 H0 own m H env σ w) (hi : mo i = true) (hn : ∀ b, (i, b) ∉ own) (hl : i < env.length) (f : Fr c.K m m' H H') (W : WOk c own (Plus Xv a) m' H' w') (ha : H a = none) (hA : ¬ Av own Xv m' a)
    (q : Own c H' (fun b => Av own Xv m' b ∨ b = a) a d) : SOk c mo Xv m0 H0 ((i, a) :: own) m' H' (env.set i (some (.d d))) (σ.set i (some (.ref a))) w' ∧ Kp c.K (Av own Xv m) (Av ((i, a) :: own) Xv m') H H' := by
  have kp : Kp c.K (Av own Xv m) (Av ((i, a) :: own) Xv m') H H' := by
    refine ⟨fun b o hb e => ?_, f.tup, f.frz⟩
    have k := (f.kp' (own := own) (X := Xv)).lst b o hb e
    refine ⟨k.1, fun z => ?_⟩
    rcases av_plus.mp (av_add.mp z) with z | z
    · exact k.2 z
    · rw [z, ha] at e; cases e
  have W0 : WOk c own Xv m' H' w' := W.less fun b h => .inl h
  have E1 := S.E.step f S.W
  refine ⟨⟨{
    len := by rw [List.length_set, List.length_set]; exact S.E.len
    xd := E1.xd
    ndA := by
      rw [List.map_cons, List.nodup_cons]
      refine ⟨fun h => ?_, S.E.ndA⟩
      obtain ⟨⟨j, b⟩, hb, e⟩ := List.mem_map.mp h
      have e : b = a := e
      subst e
      exact hA (.inr (.inl ⟨j, hb⟩))
    ndI := by
      rw [List.map_cons, List.nodup_cons]
      refine ⟨fun h => ?_, S.E.ndI⟩
      obtain ⟨⟨j, b⟩, hb, e⟩ := List.mem_map.mp h
      have e : j = i := e
      subst e
      exact hn b hb
    hown := fun j b h => by
      rcases List.mem_cons.mp h with h | h
      · cases h
        refine ⟨hi, fun z => hA (.inr (.inr z)), d, by rw [List.getElem?_set_self hl], by rw [List.getElem?_set_self (by rw [← S.E.len]; exact hl)], q.keep (.less fun x hx z => hx ?_) fun _ e => e⟩
        exact av_plus.mp (av_add.mp z)
      · obtain ⟨h1, h2, d', e1, e2, q'⟩ := S.E.hown j b h
        have hj : i ≠ j := fun z => hn b (by rw [z]; exact h)
        refine ⟨h1, h2, d', by rw [List.getElem?_set_ne hj]; exact e1, by rw [List.getElem?_set_ne hj]; exact e2, q'.keep kp fun o e => f.ext b o e fun z => (S.W.dis b z).1 j h⟩
    sh := fun j x e h => by
      rcases set_get e with ⟨e1, _, _⟩ | ⟨e1, e2⟩
      · subst e1; exact absurd (List.mem_cons_self ..) (h a)
      · obtain ⟨v, e3, r⟩ := S.E.sh j x e2 fun b hb => h b (List.mem_cons_of_mem _ hb)
        exact ⟨v, by rw [List.getElem?_set_ne e1]; exact e3, r.keep f kp⟩
    hmut := fun j d' h e z => by
      rcases set_get e with ⟨e1, _, _⟩ | ⟨e1, e2⟩
      · subst e1; exact ⟨a, List.mem_cons_self ..⟩
      · obtain ⟨b, hb⟩ := S.E.hmut j d' h e2 z
        exact ⟨b, List.mem_cons_of_mem _ hb⟩ }, {
    len := W.len
    nd := W.nd
    ob := fun j b o e1 e2 => (W.ob j b o e1 e2).kept (fun _ _ e => e) (.less fun x hx z => hx (av_add.mp z)) fun _ e => e
    dis := fun b hb => ⟨fun j h => by
      rcases List.mem_cons.mp h with h | h
      · cases h; exact (W.dis _ hb).2 (.inr rfl)
      · exact (W.dis b hb).1 j h, fun z => (W.dis b hb).2 (.inl z)⟩ }, S.fr.trans f, fun j b h => by
      rcases List.mem_cons.mp h with h | h
      · cases h
        cases z : H0 a with
        | none => rfl
        | some o =>
          by_cases hm : a ∈ m0
          · obtain ⟨u, hu⟩ := S.W.tracked (S.fr.mem hm)
            rw [ha] at hu; cases hu
          · rw [S.fr.ext a o z hm] at ha; cases ha
      · exact S.fo j b h⟩, kp⟩
/-- what an assignment to a slot brings -/
theorem SOk.assign {i : Nat} {x : Vl} {v : V} (S : SOk c mo Xv m0 H0 own m H env σ w) (hmd : md = if mo i then .fresh else .keep) (f : Fr c.K m m' H H') (W : WOk c own Xv m' H' w') (r : RepM c own Xv md H m' H' w' x v) :
    ∃ own', SOk c mo Xv m0 H0 own' m' H' (env.set i (some x)) (σ.set i (some v)) w' ∧ Kp c.K (Av own Xv m) (Av own' Xv m') H H' := by
  by_cases hl : ¬ i < env.length
  · rw [List.set_eq_of_length_le (by omega), List.set_eq_of_length_le (by rw [← S.E.len]; omega)]
    exact ⟨own, S.step f W, f.kp'⟩
  have hl : i < env.length := by omega
  cases hm : mo i with
  | false =>
    rw [hm] at hmd
    subst hmd
    have S1 := S.step f W
    refine ⟨own, ⟨S1.E.set hm ?_, W, S1.fr, S1.fo⟩, f.kp'⟩
    cases x with
    | d y => exact r.1
    | ob j => exact r
    | fn g => exact r
  | true =>
    rw [hm] at hmd
    subst hmd
    have SD := S.drop i
    have hn : ∀ b, (i, b) ∉ dropI i own := fun b h => (mem_dropI.mp h).2 rfl
    have SD1 := (S.step f W).drop i
    have kd : Kp c.K (Av own Xv m) (Av (dropI i own) Xv m) H H := .less fun b hb z => hb (av_drop z)
    have kd1 : Kp c.K (Av own Xv m) (Av (dropI i own) Xv m') H H' := f.kp'.trans (.less fun b hb z => hb (av_drop z))
    have plain : RepV c H' (Av own Xv m') m' x v → (∀ d, x = .d d → isMut d = false) → ∃ own', SOk c mo Xv m0 H0 own' m' H' (env.set i (some x)) (σ.set i (some v)) w' ∧ Kp c.K (Av own Xv m) (Av own' Xv m') H H' := fun rv hx => by
      refine ⟨dropI i own, ⟨?_, SD1.W, SD1.fr, SD1.fo⟩, kd1⟩
      have E2 := SD1.E
      have rv2 : RepV c H' (Av (dropI i own) Xv m') m' x v := rv.kept (fun _ _ e => e) (.less fun b hb z => hb (av_drop z))
      exact {
        len := by rw [List.length_set, List.length_set]; exact S.E.len
        xd := E2.xd
        ndA := E2.ndA
        ndI := E2.ndI
        hown := fun j a h => by
          obtain ⟨h1, h2, d, e1, e2, q⟩ := E2.hown j a h
          have hj : i ≠ j := fun z => (mem_dropI.mp h).2 z.symm
          rw [List.getElem?_set_ne hj] at e1 e2
          exact ⟨h1, h2, d, by rw [List.getElem?_set_ne hj]; exact e1, by rw [List.getElem?_set_ne hj]; exact e2, q⟩
        sh := fun j y e h => by
          rcases set_get e with ⟨e1, e2, e3⟩ | ⟨e1, e2⟩
          · subst e1; cases e2
            exact ⟨v, by rw [List.getElem?_set_self (by rw [← S.E.len]; exact hl)], rv2⟩
          · obtain ⟨u, e3, q⟩ := E2.sh j y (by rw [List.getElem?_set_ne e1]; exact e2) h
            rw [List.getElem?_set_ne e1] at e3
            exact ⟨u, by rw [List.getElem?_set_ne e1]; exact e3, q⟩
        hmut := fun j d h e q => by
          rcases set_get e with ⟨e1, e2, e3⟩ | ⟨e1, e2⟩
          · cases e2; rw [hx d rfl] at q; cases q
          · exact E2.hmut j d h (by rw [List.getElem?_set_ne e1]; exact e2) q }
    cases x with
    | ob j => exact plain r fun d e => nomatch e
    | fn g => exact plain r fun d e => nomatch e
    | d y =>
      rcases r.1 with ⟨h1, h2⟩ | ⟨a, rfl, h1, h2, h3⟩
      · exact plain h2 fun d e => by cases e; exact h1
      · have hmut : isMut y = true := by
          cases y with
          | list ds => rfl
          | dict kvs => rfl
          | _ => exact h3.elim
        have WP : WOk c own (Plus Xv a) m' H' w' := r.2 rfl hmut a rfl
        have WP2 : WOk c (dropI i own) (Plus Xv a) m' H' w' := {
          len := WP.len
          nd := WP.nd
          ob := fun j b o e1 e2 => (WP.ob j b o e1 e2).kept (fun _ _ e => e) (.less fun b hb z => hb (av_drop z)) fun _ e => e
          dis := fun b hb => ⟨fun j h => (WP.dis b hb).1 j (mem_dropI.mp h).1, (WP.dis b hb).2⟩ }
        obtain ⟨S2, k2⟩ := SD.gain (i := i) (a := a) (d := y) hm hn (by rw [List.length_set]; exact hl) f WP2 h1 (fun z => h2 (av_drop z)) (h3.keep (.less fun b hb z => hb (z.elim (fun z => .inl (av_drop z)) .inr)) fun _ e => e)
        rw [List.set_set, List.set_set] at S2
        exact ⟨_, S2, kd.trans k2⟩
end
end Mx

set_option Elab.async false
set_option linter.all false
set_option maxRecDepth 100000
set_option maxHeartbeats 1000000
/-! Mxh: the rules of statements. -/
namespace Mx
open PySem PySem.Spec L2
section
variable {tb : Tbl} {F n : Nat} {sx : Sx} {X : Cx} {md : Mode} {c : Cn} {cf : Cfg} {mo : Nat → Bool} {own : Ow} {Xv : Addr → Prop} {m0 m m' m'' : List Addr} {H0 H H' H'' : Hp} {env env' : Env} {σ σ' : L2.St} {w w' w'' : Wd} {A : Addr → Prop} {K : PySem.W.Frag} {D : Ends}
theorem sw_of {v : Expr} {t : Option Expr} {l : Nat} {env : PySem.Env} (h : compB v = false) : swapsWith v t l env = pure false := by
  cases v <;> first | rfl | cases h
theorem ex_asg (cf : Cfg) (i : Nat) (e : E) (env : Env) (w : Wd) : ex cf (.asg i e) env w = (ev cf e env w).bind fun v w => .ok (.nx (env.set i (some v))) w := rfl
theorem tS_asg {i : Nat} {e : E} (hmd : md = if mo i then .fresh else .keep) (D : Ends) (σ : L2.St) (H : Hp) (h : tS c cf mo (.asg i e) D σ H) : tAsg (tE c cf mo md e) (gName i) D σ H := by
  obtain ⟨Xv, m0, H0, own, m, env, w, S, h⟩ := h
  rw [ex_asg, sat_bind] at h
  refine ⟨own, Xv, m, env, w, S.E, S.W, sat_mono h fun x w1 h v m1 H1 f1 W1 r1 => ?_⟩
  obtain ⟨own', S', k⟩ := S.assign hmd f1 W1 r1
  exact h own' m1 H1 _ S' k
/-- a comprehension that goes straight into a name -/
def OkW (tb : Tbl) (F n : Nat) (e : E) : Prop := ∀ (sx : Sx) (md : Mode) (v : Expr) (X : Cx) (i : Nat) (x : Str) (py pos : Pos), chk sx md e v = true → Ctx tb F n sx X → X.N[i]? = some x → X.env.scope.names.lookup x = some .local →
  swapsWith v (some (.Name x py)) pos.line X.env = pure true → PS X (.Assign [.Name x py] v pos) (tAsg (tE (cn X sx.nmf) ⟨callN tb F n, F⟩ sx.mof md e) (gName i))
theorem swaps_or {v : Expr} {x : Str} {py : Pos} {l : Nat} {en : PySem.Env} (h : compB v = true) : swapsWith v (some (.Name x py)) l en = pure false ∨ (swapsWith v (some (.Name x py)) l en = pure true ∧ en.scope.names.lookup x = some .local) := by
  have key : ∀ (scope : Scope) (b : Bool), swapsWith v (some (.Name x py)) l en = pure (en.blockKind == .function && en.kindOf x == some .local && py.line == v.pos.line && b) → swapsWith v (some (.Name x py)) l en = pure false ∨ (swapsWith v (some (.Name x py)) l en = pure true ∧ en.scope.names.lookup x = some .local) := by
    intro scope b e
    cases hb : (en.blockKind == .function && en.kindOf x == some .local && py.line == v.pos.line && b) with
    | false => rw [e, hb]; exact .inl rfl
    | true =>
      rw [e, hb]
      refine .inr ⟨rfl, ?_⟩
      have := (band (band (band hb).1).1).2
      simpa [PySem.Env.kindOf] using this
  cases v with
  | ListComp _ _ sc _ => exact key sc _ rfl
  | SetComp _ _ sc _ => exact key sc _ rfl
  | DictComp _ _ _ sc _ => exact key sc _ rfl
  | _ => cases h
theorem ok_asg (i : Nat) (e : E) (he : OkE tb F n e) (hw : isComp e = true → OkW tb F n e) : OkS tb F n (.asg i e) := by
  intro sx x X hc C hp
  cases x with
  | Assign ts v pos =>
    rcases ts with _ | ⟨t, _ | ⟨_, _⟩⟩
    · cases hc
    · cases t with
      | Name x py =>
        have hc : (decide (sx.N[i]? = some x) && locB sx x && chk sx (moMode sx i) e v && (!compB v || isComp e)) = true := hc
        obtain ⟨hc, h4⟩ := band hc
        obtain ⟨hc, h3⟩ := band hc
        obtain ⟨h1, h2⟩ := band hc
        have hN : X.N[i]? = some x := by rw [C.N]; exact of_decide_eq_true h1
        have hl := loc_of C h2
        have hmd : moMode sx i = if sx.mof i then .fresh else .keep := rfl
        have plain : (hs : swapsWith v (some (.Name x py)) pos.line X.env = pure false) → PS X (.Assign [.Name x py] v pos) (tS (cn X sx.nmf) ⟨callN tb F n, F⟩ sx.mof (.asg i e)) := fun hs =>
          PS_imp (ps_set C.nd hN hl.1 (he sx _ v X h3 C) hs hl.2) fun D σ H q => tS_asg hmd D σ H q
        rcases Bool.or_eq_true_iff.mp h4 with h4 | h4
        · exact plain (sw_of (bnot h4))
        · cases hcv : compB v with
          | false => exact plain (sw_of hcv)
          | true =>
            rcases swaps_or (x := x) (py := py) (l := pos.line) (en := X.env) hcv with z | ⟨z, hloc⟩
            · exact plain z
            · exact PS_imp (hw h4 sx _ v X i x py pos h3 C hN hloc z) fun D σ H q => tS_asg hmd D σ H q
      | _ => cases hc
    · cases t <;> cases hc
  | _ => cases hc
theorem okW_lc (vs : List Nat) (tg : Tg) (it : It) (ifs : Eo) (elt : E) (hi : OkI tb F n it) (ht : OkTs tb F n ifs) (he : OkE tb F n elt) : OkW tb F n (.lc vs tg it ifs elt) := by
  intro sx md v X i x py pos h3 C hN hloc hs
  cases v with
  | ListComp ex gs scope lpos =>
    rcases gs with _ | ⟨⟨tx, ix, fx, as⟩, _ | ⟨_, _⟩⟩
    · cases h3
    · have h3 : (decide (as = 0) && chkI sx .look (tupB tx) it ix && blkB sx scope vs tg.ix && chkTg (sx.blk scope) tg tx && chkT (sx.blk scope) ifs fx && chk (sx.blk scope) .keep elt ex) = true := h3
      obtain ⟨hc, g5⟩ := band h3
      obtain ⟨hc, g4⟩ := band hc
      obtain ⟨hc, g3⟩ := band hc
      obtain ⟨hc, g2⟩ := band hc
      obtain ⟨g0, g1⟩ := band hc
      obtain rfl := of_decide_eq_true g0
      obtain ⟨b1, b2, b3⟩ := blk_of C g2
      have key := ps_setLc (elt := ex) (pos := lpos) (spos := pos) (py := py) (g := gT X.K tg) (tt := tTs (cn X sx.nmf) ⟨callN tb F n, F⟩ sx.mof ifs) (te := tE (cn X sx.nmf) ⟨callN tb F n, F⟩ sx.mof .keep elt) C.calm C.nd hN hloc hs (hi sx .look tx ix X rfl g1 C) b1 (fun s H Cc cl fp => pg_T (C.blk g2 s H Cc cl fp) g3) (fun s H Cc cl fp => ht (sx.blk scope) fx _ g4 (C.blk g2 s H Cc cl fp)) (fun s H Cc cl fp => he (sx.blk scope) .keep ex _ g5 (C.blk g2 s H Cc cl fp)) (folded_of (notSet_of g1))
      rw [ownP_ix] at key
      exact PS_imp key fun D σ H q => tE_lc (loose_tg g1 g3) b3 b2 σ H _ q
    · cases h3
  | _ => cases h3
theorem noswap {v : Expr} {xs : List Expr} {k : Nat} {p : Pos} {en : PySem.Env} (h : (!tupB v || foldB v) = true) : swappedStores [.Tuple xs k p] v en = pure none := by
  cases v with
  | Tuple vs k2 p2 =>
    have h : vs.all (foldedForSure 8) = true := h
    unfold swappedStores
    simp only [h]
    split
    · rfl
    · split
      · rfl
      · split <;> rfl
  | _ => rfl
theorem ok_asgT (is : List Nat) (e : E) (he : OkE tb F n e) : OkS tb F n (.asgT is e) := by
  intro sx x X hc C hp
  cases x with
  | Assign ts v pos =>
    rcases ts with _ | ⟨t, _ | ⟨_, _⟩⟩
    · cases hc
    · cases t with
      | Tuple xs kk py =>
        have hc : (tgNs sx is xs && chk sx .keep e v && (!tupB v || foldB v) && !compB v) = true := hc
        obtain ⟨hc, h4⟩ := band hc
        obtain ⟨hc, h3⟩ := band hc
        obtain ⟨h1, h2⟩ := band hc
        have h1' : chkTg sx (.tup is) (.Tuple xs kk py) = true := h1
        refine PS_imp (ps_asg (he sx .keep v X h2 C) (pg_T C h1') (show swapsWith v (some (.Tuple xs kk py)) pos.line X.env = pure false from sw_of (bnot h4)) (noswap h3) rfl) ?_
        rintro D σ H ⟨Xv, m0, H0, own, m, env, w, S, h⟩
        rw [show ex _ (.asgT is e) env w = (ev _ e env w).dat.bind fun x w => (ofO (bindTg env (.tup is) x) w).bind fun env' w => .ok (.nx env') w from rfl, sat_bind, sat_dat] at h
        refine ⟨own, Xv, m, env, w, S.E, S.W, sat_mono h fun x w1 h v m1 H1 f1 W1 r1 => ?_⟩
        obtain ⟨dx, rfl, h⟩ := h
        rw [sat_bind, sat_ofO] at h
        obtain ⟨env', he', h⟩ := h
        have S1 := S.step f1 W1
        exact gT_ok (c := cn X sx.nmf) (b := false) (chkTg_mo h1') he' (fun z => nomatch z) (.inl r1.1) S1.E fun σ' E' on => h own m1 H1 σ' ⟨E', W1, S1.fr, S1.fo⟩ f1.kp'
      | _ => cases hc
    · cases t <;> cases hc
  | _ => cases hc
theorem ok_expr (e : E) (he : OkE tb F n e) : OkS tb F n (.expr e) := by
  intro sx x X hc C hp
  cases x with
  | Expr v pos =>
    have hc : (chk sx .keep e v && !compB v) = true := hc
    obtain ⟨h1, h2⟩ := band hc
    refine PS_imp (ps_expr (he sx .keep v X h1 C) (sw_of (bnot h2))) ?_
    rintro D σ H ⟨Xv, m0, H0, own, m, env, w, S, h⟩
    rw [show ex _ (.expr e) env w = (ev _ e env w).bind fun _ w => .ok (.nx env) w from rfl, sat_bind] at h
    exact ⟨own, Xv, m, env, w, S.E, S.W, sat_mono h fun x w1 h v m1 H1 f1 W1 r1 => h own m1 H1 σ (S.step f1 W1) f1.kp'⟩
  | _ => cases hc
theorem WOk.free (W : WOk c own Xv m H w) : WOk c [] Xv m H w where
  len := W.len
  nd := W.nd
  ob := fun i a o e1 e2 => (W.ob i a o e1 e2).kept (fun _ _ e => e) (.less fun b hb z => hb (z.elim .inl fun z => z.elim (fun ⟨_, z⟩ => (List.not_mem_nil z).elim) fun z => .inr (.inr z))) fun _ e => e
  dis := fun b hb => ⟨fun i h => (List.not_mem_nil h).elim, (W.dis b hb).2⟩
theorem RepV.free {x : Vl} {v : V} (r : RepV c H (Av own Xv m) m x v) : RepV c H (Av [] Xv m) m x v :=
  r.kept (fun _ _ e => e) (.less fun b hb z => hb (z.elim .inl fun z => z.elim (fun ⟨_, z⟩ => (List.not_mem_nil z).elim) fun z => .inr (.inr z)))
theorem ex_ret (cf : Cfg) (e : E) (env : Env) (w : Wd) : ex cf (.ret e) env w = (ev cf e env w).bind fun v w => .ok (.rt v) w := rfl
theorem ok_ret (e : E) (he : OkE tb F n e) : OkS tb F n (.ret e) := by
  intro sx x X hc C hp
  cases x with
  | Return o pos => cases o with
    | none => cases hc
    | some v =>
      have hc : (chk sx .keep e v || (slotB e && chk sx .look e v)) = true := hc
      rcases Bool.or_eq_true_iff.mp hc with h1 | h1
      · refine PS_imp (ps_ret (he sx .keep v X h1 C)) ?_
        rintro D σ H ⟨Xv, m0, H0, own, m, env, w, S, h⟩
        rw [ex_ret, sat_bind] at h
        refine ⟨own, Xv, m, env, w, S.E, S.W, sat_mono h fun x w1 h v m1 H1 f1 W1 r1 => h v m1 H1 (S.fr.trans f1) W1.free ?_⟩
        cases x with
        | d y => exact RepV.free (own := own) (x := .d y) r1.1
        | ob j => exact RepV.free (own := own) (x := .ob j) r1
        | fn g => exact RepV.free (own := own) (x := .fn g) r1
      · obtain ⟨h1, h2⟩ := band h1
        cases e with
        | slot i => cases v with
          | Name x p =>
            have h2 : (decide (sx.N[i]? = some x) && visB sx.sc x && plainName x && (!sx.mo.contains i || Mode.look.looks) && Mode.look.le .keep) = true := h2
            obtain ⟨h2, _⟩ := band h2
            obtain ⟨h2, _⟩ := band h2
            obtain ⟨h2, g3⟩ := band h2
            obtain ⟨g1, g2⟩ := band h2
            obtain ⟨p1, p2, _⟩ := plain_of g3
            refine PS_imp (ps_ret (pe_var (i := i) (by rw [C.N]; exact of_decide_eq_true g1) (by rw [C.sc]; exact vis_of g2) p1 p2)) ?_
            rintro D σ H ⟨Xv, m0, H0, own, m, env, w, S, h⟩
            rw [ex_ret, sat_bind] at h
            cases e : env[i]? with
            | none => rw [show ev _ (.slot i) env w = .stuck by simp only [ev, e]] at h; exact h.elim
            | some o => cases o with
              | none => rw [show ev _ (.slot i) env w = .stuck by simp only [ev, e]] at h; exact h.elim
              | some x =>
                rw [show ev _ (.slot i) env w = .ok x w by simp only [ev, e]] at h
                by_cases ho : ∃ a, (i, a) ∈ own
                · obtain ⟨a, ha⟩ := ho
                  obtain ⟨z1, z2, d, e1, e2, e3⟩ := S.E.hown i a ha
                  rw [e] at e1
                  cases e1
                  refine ⟨_, e2, h _ m H S.fr S.W.free ?_⟩
                  have hm : ¬ Av [] Xv m a := fun z => by
                    rcases z with z | ⟨_, z⟩ | z
                    · exact (S.W.dis a z).1 i ha
                    · exact (List.not_mem_nil z).elim
                    · exact z2 z
                  have e4 : Own (cn X sx.nmf) H (Av [] Xv m) a d := e3.keep (.less fun b hb z => hb (z.elim .inl fun z => z.elim (fun ⟨_, z⟩ => (List.not_mem_nil z).elim) fun z => .inr (.inr z))) fun _ e => e
                  show Rep _ H (Av [] Xv m) (.ref a) d
                  cases d with
                  | list ds => obtain ⟨vs, q1, q2⟩ := e4; exact .lst q1 hm q2
                  | dict kvs => obtain ⟨L, ep, q1, q2, q3⟩ := e4; exact .dct q1 hm q2 q3
                  | _ => exact e4.elim
                · obtain ⟨v, e1, e2⟩ := S.E.sh i x e fun a ha => ho ⟨a, ha⟩
                  exact ⟨v, e1, h v m H S.fr S.W.free e2.free⟩
          | _ => cases h2
        | _ => cases h1
  | _ => cases hc
theorem ok_retN : OkS tb F n .retN := by
  intro sx x X hc C hp
  cases x with
  | Return o pos => cases o with
    | none => exact PS_imp ps_retN fun D σ H ⟨Xv, m0, H0, own, m, env, w, S, h⟩ => h _ m H S.fr S.W.free .non
    | some v => cases hc
  | _ => cases hc
theorem ok_pass : OkS tb F n .pass := by
  intro sx x X hc C hp
  cases x with
  | Pass pos => exact PS_imp ps_pass fun D σ H ⟨Xv, m0, H0, own, m, env, w, S, h⟩ => h own m H σ S .refl
  | _ => cases hc
theorem ok_cont : OkS tb F n .cont := by
  intro sx x X hc C hp
  cases x with
  | Continue pos => exact PS_imp ps_continue fun D σ H ⟨Xv, m0, H0, own, m, env, w, S, h⟩ => h own m H σ S .refl
  | _ => cases hc
theorem ok_brk : OkS tb F n .brk := by
  intro sx x X hc C hp
  cases x with
  | Break pos => exact PS_imp ps_break fun D σ H ⟨Xv, m0, H0, own, m, env, w, S, h⟩ => h own m H σ S .refl
  | _ => cases hc
theorem ok_stuckS : OkS tb F n .stuck := fun sx x X hc C hp => ⟨fun pins s σ H D I ⟨Xv, m0, H0, own, m, env, w, S, h⟩ => h.elim⟩
theorem ok_nil : OkSs tb F n .nil := by
  intro sx x X hc C hp
  cases x with
  | nil => exact PSs_imp pss_nil fun D σ H ⟨Xv, m0, H0, own, m, env, w, S, h⟩ => h own m H σ S .refl
  | cons _ _ => cases hc
/-- ends seen from a later state -/
theorem Fin.later {fl : Fl} {own1 : Ow} {m1 : List Addr} {H1 : Hp} (k : Kp c.K (Av own Xv m) (Av own1 Xv m1) H H1) (h : Fin c mo Xv m0 H0 own m H D fl w) : Fin c mo Xv m0 H0 own1 m1 H1 D fl w := by
  cases fl with
  | nx env' => exact fun own' m' H' σ' S k' => h own' m' H' σ' S (k.trans k')
  | rt x => exact h
  | bk env' => exact fun own' m' H' σ' S k' => h own' m' H' σ' S (k.trans k')
  | ct env' => exact fun own' m' H' σ' S k' => h own' m' H' σ' S (k.trans k')
theorem exs_cons (cf : Cfg) (s : S) (r : Ss) (env : Env) (w : Wd) : exs cf (.cons s r) env w = (ex cf s env w).bind fun fl w => match fl with
    | .nx env' => exs cf r env' w
    | fl => .ok fl w := rfl
theorem ok_cons (s : S) (r : Ss) (hs : OkS tb F n s) (hr : OkSs tb F n r) : OkSs tb F n (.cons s r) := by
  intro sx x X hc C hp
  cases x with
  | nil => cases hc
  | cons x xs =>
    obtain ⟨h1, h2⟩ := band (show (chkS sx s x && chkSs sx r xs) = true from hc)
    refine PSs_imp (pss_cons (hs sx x X h1 C hp) (hr sx xs X h2 C hp)) ?_
    rintro D σ H ⟨Xv, m0, H0, own, m, env, w, S, h⟩
    rw [exs_cons, sat_bind] at h
    refine ⟨Xv, m0, H0, own, m, env, w, S, sat_mono h fun fl w1 h => ?_⟩
    cases fl with
    | nx env' => exact fun own' m' H' σ' S' k => ⟨Xv, m0, H0, own', m', env', w1, S', sat_mono h fun fl2 w2 h2 => Fin.later k h2⟩
    | rt x => exact h
    | bk env' => exact h
    | ct env' => exact h
theorem ex_ite (cf : Cfg) (t : E) (a b : Ss) (env : Env) (w : Wd) : ex cf (.ite t a b) env w = (ev cf t env w).tru.bind fun x w => if x then exs cf a env w else exs cf b env w := rfl
theorem ok_iteS (t : E) (a b : Ss) (ht : OkT tb F n t) (ha : OkSs tb F n a) (hb : OkSs tb F n b) : OkS tb F n (.ite t a b) := by
  intro sx x X hc C hp
  cases x with
  | If tx ax bx pos =>
    have hc : (chk sx .keep t tx && chkSs sx a ax && chkSs sx b bx) = true := hc
    obtain ⟨hc, h3⟩ := band hc
    obtain ⟨h1, h2⟩ := band hc
    refine PS_imp (ps_if (ht sx tx X h1 C) (ha sx ax X h2 C hp) (hb sx bx X h3 C hp)) ?_
    rintro D σ H ⟨Xv, m0, H0, own, m, env, w, S, h⟩
    rw [ex_ite, sat_bind] at h
    refine ⟨own, Xv, m, env, w, S.E, S.W, sat_mono h fun k w1 h m1 H1 f1 W1 => ?_⟩
    cases k with
    | true =>
      rw [if_pos rfl] at h
      show tSs _ _ _ a D σ H1
      exact ⟨Xv, m0, H0, own, m1, env, w1, S.step f1 W1, sat_mono h fun fl w2 h2 => Fin.later f1.kp' h2⟩
    | false =>
      rw [if_neg (by simp)] at h
      show tSs _ _ _ b D σ H1
      exact ⟨Xv, m0, H0, own, m1, env, w1, S.step f1 W1, sat_mono h fun fl w2 h2 => Fin.later f1.kp' h2⟩
  | _ => cases hc
theorem whlL_succ (test : Env → Wd → Res Bool) (body : Env → Wd → Res Fl) (k : Nat) (env : Env) (w : Wd) : whlL test body (k + 1) env w = (test env w).bind fun b w => if b then (body env w).bind fun fl w => match fl with
    | .nx env' => whlL test body k env' w
    | .ct env' => whlL test body k env' w
    | .bk env' => .ok (.nx env') w
    | .rt v => .ok (.rt v) w
    else .ok (.nx env) w := rfl
theorem ok_while (t : E) (b : Ss) (ht : OkT tb F n t) (hb : OkSs tb F n b) : OkS tb F n (.while_ t b) := by
  intro sx x X hc C hp
  cases x with
  | While tx bx ox pos => cases ox with
    | cons _ _ => cases hc
    | nil =>
      obtain ⟨h1, h2⟩ := band (show (chk sx .keep t tx && chkSs sx b bx) = true from hc)
      refine PS_imp (ps_while hp (ht sx tx X h1 C) (hb sx bx X h2 C hp)) ?_
      rintro D σ H ⟨Xv, m0, H0, own, m, env, w, S, h⟩
      let c := cn X sx.nmf
      let cf : Cfg := ⟨callN tb F n, F⟩
      let mo := sx.mof
      let test : Env → Wd → Res Bool := fun env w => (ev cf t env w).tru
      let body : Env → Wd → Res Fl := fun env w => exs cf b env w
      have h : (whlL test body F env w).sat (Fin c mo Xv m0 H0 own m H D) := h
      refine ⟨fun k σ' H' => ∃ own' m' env' w', SOk c mo Xv m0 H0 own' m' H' env' σ' w' ∧ Kp c.K (Av own Xv m) (Av own' Xv m') H H' ∧ (whlL test body k env' w').sat (Fin c mo Xv m0 H0 own m H D), ⟨F, own, m, env, w, S, .refl, h⟩, ?_⟩
      rintro k σ1 H1 ⟨own1, m1, env1, w1, S1, k1, h1⟩
      cases k with
      | zero => exact h1.elim
      | succ k =>
        rw [whlL_succ, sat_bind] at h1
        refine ⟨own1, Xv, m1, env1, w1, S1.E, S1.W, sat_mono h1 fun bb w2 h2 m2 H2 f2 W2 => ?_⟩
        have S2 := S1.step f2 W2
        have k2 : Kp c.K (Av own Xv m) (Av own1 Xv m2) H H2 := k1.trans f2.kp'
        cases bb with
        | false =>
          rw [if_neg (by simp)] at h2
          exact h2 own1 m2 H2 σ1 S2 k2
        | true =>
          rw [if_pos rfl, sat_bind] at h2
          refine ⟨fun σ' H' => ∃ own' m' env' w', SOk c mo Xv m0 H0 own' m' H' env' σ' w' ∧ Kp c.K (Av own Xv m) (Av own' Xv m') H H' ∧ (whlL test body k env' w').sat (Fin c mo Xv m0 H0 own m H D), fun σ' H' z => ⟨k, Nat.lt_succ_self k, z⟩, ?_⟩
          refine ⟨Xv, m0, H0, own1, m2, env1, w2, S2, sat_mono h2 fun fl w3 h3 => ?_⟩
          cases fl with
          | nx env' => exact fun own' m' H' σ' S' k' => ⟨own', m', env', w3, S', k2.trans k', h3⟩
          | ct env' => exact fun own' m' H' σ' S' k' => ⟨own', m', env', w3, S', k2.trans k', h3⟩
          | bk env' => exact fun own' m' H' σ' S' k' => h3 own' m' H' σ' S' (k2.trans k')
          | rt v => exact h3
  | _ => cases hc
theorem forL_cons (step : Mx.D → Env → Wd → Res Fl) (x : Mx.D) (xs : List Mx.D) (env : Env) (w : Wd) : forL step (x :: xs) env w = (step x env w).bind fun fl w => match fl with
    | .nx env' => forL step xs env' w
    | .ct env' => forL step xs env' w
    | .bk env' => .ok (.nx env') w
    | .rt v => .ok (.rt v) w := rfl
theorem DFx.kept {p : Src} {A A' : Addr → Prop} (d : DFx H p) (k : Kp c.K A A' H H') (r : Rep c H A p.1 p.2.1) : DFx H' p := fun z => by
  obtain ⟨v, dd, o⟩ := p
  obtain ⟨a, e, ha⟩ := d z
  have e : v = .ref a := e
  subst e
  cases dd with
  | dict kvs =>
    cases r with
    | dct h1 h2 h3 h4 => exact ⟨a, rfl, (k.lst a _ h2 ha).1⟩
  | _ => cases z
theorem ok_for (tg : Tg) (it : It) (b : Ss) (hi : OkI tb F n it) (hb : OkSs tb F n b) : OkS tb F n (.for_ tg it b) := by
  intro sx x X hc C hp
  cases x with
  | For tx ix bx ox pos => cases ox with
    | cons _ _ => cases hc
    | nil =>
      obtain ⟨hc, h3⟩ := band (show (chkI sx .keep (tupB tx) it ix && chkTg sx tg tx && chkSs sx b bx) = true from hc)
      obtain ⟨h1, htg⟩ := band hc
      refine PS_imp (ps_for hp C.calm (hi sx .keep tx ix X rfl h1 C) (pg_T C htg) (hb sx bx X h3 C hp) (folded_of (notSet_of h1))) ?_
      rintro D σ H ⟨Xv, m0, H0, own, m, env, w, S, h⟩
      let c := cn X sx.nmf
      let cf : Cfg := ⟨callN tb F n, F⟩
      let mo := sx.mof
      rw [show ex _ (.for_ tg it b) env w = (evI _ it env w).bind fun xs w => forL (fun x env w => (ofO (bindTg env tg x) w).bind fun env' w => exs _ b env' w) xs env w from rfl, sat_bind] at h
      refine ⟨own, Xv, m, env, w, S.E, S.W, sat_mono h fun ds w1 h J src m1 H1 f1 W1 wk hs => ?_⟩
      let step : Mx.D → Env → Wd → Res Fl := fun x env w => (ofO (bindTg env tg x) w).bind fun env' w => exs cf b env' w
      have h : (forL step ds env w1).sat (Fin c mo Xv m0 H0 own m H D) := h
      let Inn : Nat → L2.St → Hp → Prop := fun i σ' H' => ∃ own' m' env' w', SOk c mo Xv m0 H0 own' m' H' env' σ' w' ∧ Kp c.K (Av own Xv m) (Av own' Xv m') H H' ∧ (∀ p ∈ src, Rep c H' (Av own' Xv m') p.1 p.2.1 ∧ DFx H' p) ∧ (forL step (ds.drop i) env' w').sat (Fin c mo Xv m0 H0 own m H D)
      refine ⟨fun i k σ' H' => k = ds.length - i ∧ i ≤ ds.length ∧ Inn i σ' H', ⟨ds.length, rfl, Nat.zero_le _, own, m1, env, w1, S.step f1 W1, f1.kp', hs, by rw [List.drop_zero]; exact h⟩, ?_⟩
      rintro i k σ2 H2 ⟨rfl, hi, own2, m2, env2, w2, S2, k2, s2, h2⟩
      have dom := S2.W.dom S2.E
      have so : ∀ p ∈ src, SrcB c H2 (Av own2 Xv m2) [] p := fun p hp => ⟨.of (s2 p hp).1, (s2 p hp).2⟩
      by_cases hlt : i < ds.length
      · refine .inr ⟨wk.go H2 _ i dom so hlt, Inn (i + 1), fun σ' H' z => ⟨ds.length - (i + 1), by omega, rfl, hlt, z⟩, fun x H' y => ?_⟩
        have hd : ds[i]? = some ds[i] := List.getElem?_eq_getElem hlt
        obtain ⟨nw, rx⟩ := wk.yld H2 _ i x H' dom so y _ hd
        have S3 := S2.step nw.fr (S2.W.new nw)
        have k3 : Kp c.K (Av own2 Xv m2) (Av own2 Xv m2) H2 H' := (nw.fr (m := m2)).kp'
        rw [drop_get hd, forL_cons, sat_bind] at h2
        have h2 : ((ofO (bindTg env2 tg ds[i]) w2).bind fun env' w => exs cf b env' w).sat _ := h2
        rw [sat_bind, sat_ofO] at h2
        obtain ⟨env3, he3, h2⟩ := h2
        refine gT_ok (c := c) (chkTg_mo htg) he3 (loose_tg h1 htg) rx S3.E fun σ3 E3 on => ?_
        have S4 : SOk c mo Xv m0 H0 own2 m2 H' env3 σ3 w2 := ⟨E3, S3.W, S3.fr, S3.fo⟩
        refine ⟨Xv, m0, H0, own2, m2, env3, w2, S4, sat_mono h2 fun fl w5 h5 => ?_⟩
        have go : ∀ env', (forL step (ds.drop (i + 1)) env' w5).sat (Fin c mo Xv m0 H0 own m H D) → ∀ own' m' H'' σ', SOk c mo Xv m0 H0 own' m' H'' env' σ' w5 → Kp c.K (Av own2 Xv m2) (Av own' Xv m') H' H'' → Inn (i + 1) σ' H'' := fun env' h6 own' m' H'' σ' S' k' => by
          refine ⟨own', m', env', w5, S', (k2.trans k3).trans k', fun p hp => ?_, h6⟩
          have kk := k3.trans k'
          have q := s2 p hp
          refine ⟨q.1.keep kk, ?_⟩
          exact q.2.kept kk q.1
        cases fl with
        | nx env' => exact go env' h5
        | ct env' => exact go env' h5
        | bk env' => exact fun own' m' H'' σ' S' k' => h5 own' m' H'' σ' S' ((k2.trans k3).trans k')
        | rt v => exact h5
      · have e : i = ds.length := by omega
        subst e
        rw [List.drop_length] at h2
        exact .inl ⟨wk.stop H2 _ dom so, h2 own2 m2 H2 σ2 S2 k2⟩
  | _ => cases hc
end
end Mx

set_option Elab.async false
set_option linter.all false
set_option maxRecDepth 100000
set_option maxHeartbeats 1000000
/-! Mxj: built-in functions of one value. -/
namespace Mx
open PySem PySem.Spec L2
section
variable {tb : Tbl} {F n : Nat} {sx : Sx} {X : Cx} {md : Mode} {c : Cn} {cf : Cfg} {mo : Nat → Bool} {H H' : Hp} {A : Addr → Prop} {nm : Nat → Str}
/-- a call of one value -/
def rC1 (c : Cn) (mr : Mode) (g : D → Option D) : List V → Hp → VK → Prop := fun vs H Q => match vs with
  | [x] => rU1 c mr g x H Q
  | _ => False
/-- nothing but the heap's own matters -/
theorem callR1 {f : Value} {mr : Mode} {g : D → Option D} (h : ∀ (pins : List (Addr × Obj)) (s : Shared) (σ : L2.St) (H : Hp) (x : V) (u : Value) (Q : VK) (A : Addr → Prop) (dx z : D), Inv X pins σ H s → RelV x u → Dom A H → RepB (cn X nm) H A [] x dx → g dx = some z →
    (∀ v H', New H H' → RepD (cn X nm) mr H H' A [] v z → Q v H') → wpAny (model X.prog X.w) X.A (call f [u]) (EP X pins σ Q) X.xe s) : CallR X f (rC1 (cn X nm) mr g) := by
  intro pins s σ H xs us Q I r q
  cases r with
  | nil => exact q.elim
  | cons r1 rr => cases rr with
    | cons _ _ => exact q.elim
    | nil =>
      obtain ⟨A, dx, z, hA, hx, hg, q⟩ := q
      exact h pins s σ H _ _ Q A dx z I r1 hA hx hg q
theorem cr_len : CallR X (.builtin "len") (rC1 (cn X nm) .fresh lenD) := by
  refine callR1 fun pins s σ H x u Q A dx z I r hA hx hg q => ?_
  cases dx with
  | list xs =>
    obtain ⟨a, vs, rfl, ha, ra⟩ := hx.lst
    cases hg
    exact call_len pins s σ H [_] [u] Q I (.cons r .nil) ⟨_, vs.length, rfl, .inl ⟨vs, ha, rfl⟩, by rw [ra.length]; exact q _ _ .same (freshS (.int _) rfl)⟩
  | tuple xs =>
    obtain ⟨a, vs, rfl, ha, ra⟩ := hx.tup
    cases hg
    exact call_len pins s σ H [_] [u] Q I (.cons r .nil) ⟨_, vs.length, rfl, .inr ⟨vs, ha.sq, rfl⟩, by rw [ra.length]; exact q _ _ .same (freshS (.int _) rfl)⟩
  | str x =>
    obtain rfl := hx.str
    have hg : (if fits x.length then some (PyData.int x.length) else none) = some z := hg
    split at hg
    · rename_i hf
      cases hg
      exact call_len pins s σ H [_] [u] Q I (.cons r .nil) ⟨_, x.length, rfl, ⟨fits_le hf, rfl⟩, q _ _ .same (freshS (.int _) rfl)⟩
    · cases hg
  | dict kvs =>
    obtain ⟨a, L, ep, rfl, h1, h2, h3⟩ := hx.dct
    cases hg
    obtain ⟨xs, g1, g2, g3, g4, g5⟩ := Inv.dict I h1 h2 h3
    cases r
    have hl : xs.length = kvs.length := by rw [← h3.length, g2, List.length_map]
    refine call_len_dictH g4 g3 (by rw [sizeLine_eq] at g5; omega) ?_
    rw [hl]
    exact ⟨.int _, H, I.tok _, ⟨_, rfl⟩, q _ _ .same (freshS (.int _) rfl)⟩
  | _ => cases hg
theorem cr_abs : CallR X (.builtin "abs") (rC1 (cn X nm) .fresh (b1D .abs)) := by
  refine callR1 fun pins s σ H x u Q A dx z I r hA hx hg q => ?_
  cases dx with
  | int i =>
    obtain rfl := hx.int
    cases hg
    exact call_abs pins s σ H [_] [u] Q I (.cons r .nil) ⟨i, rfl, q _ _ .same (freshS (.int _) rfl)⟩
  | _ => cases hg
theorem cr_int : CallR X (.type "int") (rC1 (cn X nm) .fresh (b1D .int)) := by
  refine callR1 fun pins s σ H x u Q A dx z I r hA hx hg q => ?_
  cases dx with
  | bool b =>
    obtain rfl := hx.bl
    cases hg
    exact call_int1 pins s σ H [_] [u] Q I (.cons r .nil) (.inr ⟨b, rfl, q _ _ .same (freshS (.int _) rfl)⟩)
  | _ => cases hg
theorem cr_tuple : CallR X (.type "tuple") (rC1 (cn X nm) .fresh (fun x => (itemsD x).map .tuple)) := by
  refine callR1 fun pins s σ H x u Q A dx z I r hA hx hg q => ?_
  cases dx with
  | list xs =>
    obtain ⟨a, vs, rfl, ha, ra⟩ := hx.lst
    cases hg
    cases r
    obtain ⟨its, r', pl, hz⟩ := I.list ha
    have hlen := r'.length
    refine call_tuple_list pl.isList (fun h' kp => ?_) (by simp only [List.size_toArray] <;> omega)
    have I1 : Inv X pins σ H { s with heap := h' } := I.kept (t' := s.toks) kp
    exact ⟨.ref h'.objs.size, _, lay_tup I1 r' hz, rfl, q _ _ (.one (I1.hok.fresh (Nat.le_refl _))) (freshT (I1.hok.fresh (Nat.le_refl _)) rfl ra)⟩
  | tuple xs =>
    obtain ⟨a, vs, rfl, ha, ra⟩ := hx.tup
    cases hg
    exact call_tuple_of pins s σ H [_] [u] Q I (.cons r .nil) ⟨a, vs, rfl, .inr ⟨ha.sq, q _ _ .same (freshS (.tup ha ra) rfl)⟩⟩
  | _ => cases hg
theorem cr_list : CallR X (.type "list") (rC1 (cn X nm) .fresh (fun x => (itemsD x).map .list)) := by
  refine callR1 fun pins s σ H x u Q A dx z I r hA hx hg q => ?_
  cases dx with
  | list xs =>
    obtain ⟨a, vs, rfl, ha, ra⟩ := hx.lst
    cases hg
    exact call_list_of pins s σ H [_] [u] Q I (.cons r .nil) ⟨a, vs, rfl, .inl ha, fun l hl => q _ _ (.one hl) (freshL hl hA ra)⟩
  | tuple xs =>
    obtain ⟨a, vs, rfl, ha, ra⟩ := hx.tup
    cases hg
    exact call_list_of pins s σ H [_] [u] Q I (.cons r .nil) ⟨a, vs, rfl, .inr ha.sq, fun l hl => q _ _ (.one hl) (freshL hl hA ra)⟩
  | _ => cases hg
theorem allB_reps : ∀ {xs : List D} {bs : List Bool} {vs : List V}, allB xs = some bs → Reps c H A vs xs → vs = bs.map V.bl
  | [], _, _, h, r => by cases h; cases r; rfl
  | x :: xs, bs, _, h, r => by
    cases x with
    | bool b =>
      cases q : allB xs with
      | none => rw [show allB (.bool b :: xs) = (allB xs).map _ from rfl, q] at h; cases h
      | some l =>
        rw [show allB (.bool b :: xs) = (allB xs).map _ from rfl, q] at h
        cases h
        cases r with
        | cons r1 r2 =>
          cases r1
          rw [allB_reps q r2]
          rfl
    | _ => cases h
theorem allI_reps : ∀ {xs : List D} {is : List Int} {vs : List V}, allI xs = some is → Reps c H A vs xs → vs = is.map V.int
  | [], _, _, h, r => by cases h; cases r; rfl
  | x :: xs, bs, _, h, r => by
    cases x with
    | int b =>
      cases q : allI xs with
      | none => rw [show allI (.int b :: xs) = (allI xs).map _ from rfl, q] at h; cases h
      | some l =>
        rw [show allI (.int b :: xs) = (allI xs).map _ from rfl, q] at h
        cases h
        cases r with
        | cons r1 r2 =>
          cases r1
          rw [allI_reps q r2]
          rfl
    | _ => cases h
theorem cr_allM (hc : X.calm = true) : CallR X (.builtin "all") (rC1 (cn X nm) .fresh (fun x => (listD x).bind fun xs => (allB xs).map fun bs => .bool (bs.all id))) := by
  refine callR1 fun pins s σ H x u Q A dx z I r hA hx hg q => ?_
  cases dx with
  | list xs =>
    obtain ⟨a, vs, rfl, ha, ra⟩ := hx.lst
    cases e : allB xs with
    | none => rw [show ((listD (.list xs)).bind fun xs => (allB xs).map fun bs => PyData.bool (bs.all id)) = (allB xs).map _ from rfl, e] at hg; cases hg
    | some bs =>
      rw [show ((listD (.list xs)).bind fun xs => (allB xs).map fun bs => PyData.bool (bs.all id)) = (allB xs).map _ from rfl, e] at hg
      cases hg
      rw [allB_reps e ra] at ha
      exact cr_all hc pins s σ H [_] [u] Q I (.cons r .nil) ⟨a, bs, rfl, ha, q _ _ .same (freshS (.bl _) rfl)⟩
  | _ => cases hg
theorem cr_anyM (hc : X.calm = true) : CallR X (.builtin "any") (rC1 (cn X nm) .fresh (fun x => (listD x).bind fun xs => (allB xs).map fun bs => .bool (bs.any id))) := by
  refine callR1 fun pins s σ H x u Q A dx z I r hA hx hg q => ?_
  cases dx with
  | list xs =>
    obtain ⟨a, vs, rfl, ha, ra⟩ := hx.lst
    cases e : allB xs with
    | none => rw [show ((listD (.list xs)).bind fun xs => (allB xs).map fun bs => PyData.bool (bs.any id)) = (allB xs).map _ from rfl, e] at hg; cases hg
    | some bs =>
      rw [show ((listD (.list xs)).bind fun xs => (allB xs).map fun bs => PyData.bool (bs.any id)) = (allB xs).map _ from rfl, e] at hg
      cases hg
      rw [allB_reps e ra] at ha
      exact cr_any hc pins s σ H [_] [u] Q I (.cons r .nil) ⟨a, bs, rfl, ha, q _ _ .same (freshS (.bl _) rfl)⟩
  | _ => cases hg
theorem cr_sumM (hc : X.calm = true) : CallR X (.builtin "sum") (rC1 (cn X nm) .fresh (fun x => (listD x).bind fun xs => (allI xs).map fun is => .int is.sum)) := by
  refine callR1 fun pins s σ H x u Q A dx z I r hA hx hg q => ?_
  cases dx with
  | list xs =>
    obtain ⟨a, vs, rfl, ha, ra⟩ := hx.lst
    cases e : allI xs with
    | none => rw [show ((listD (.list xs)).bind fun xs => (allI xs).map fun is => PyData.int is.sum) = (allI xs).map _ from rfl, e] at hg; cases hg
    | some bs =>
      rw [show ((listD (.list xs)).bind fun xs => (allI xs).map fun is => PyData.int is.sum) = (allI xs).map _ from rfl, e] at hg
      cases hg
      rw [allI_reps e ra] at ha
      exact cr_sum hc pins s σ H [_] [u] Q I (.cons r .nil) ⟨a, bs, rfl, ha, q _ _ .same (freshS (.int _) rfl)⟩
  | _ => cases hg
/-- a node that is a call of one value -/
theorem ok_c1 {e a : E} {mr : Mode} {g : D → Option D} (hm : mr.res = true) (hle : md.le mr = true) (ha : OkE tb F n a) (C : Ctx tb F n sx X) {x : Expr} {f : Str} {p pos : Pos} (hx : chk sx .peek a x = true) (hs : starB x = false)
    (hev : ∀ env w, ev ⟨callN tb F n, F⟩ e env w = (ev ⟨callN tb F n, F⟩ a env w).dat.bind fun x w => (ofO (g x) w).bind fun z w => .ok (.d z) w)
    (hr : PE X (.Call (.Name f p) [x] [] pos) (tCB (rC1 (cn X sx.nmf) mr g) (tCons (tE (cn X sx.nmf) ⟨callN tb F n, F⟩ sx.mof .peek a) tNil))) : PE X (.Call (.Name f p) [x] [] pos) (tE (cn X sx.nmf) ⟨callN tb F n, F⟩ sx.mof md e) :=
  PE_imp hr fun σ H Q q => tE_un hm hle hev σ H Q q
theorem tail0_star {env : PySem.Env} {pos : Pos} : (backTo pos (starEach [] env)).any (·.1) = false := rfl
theorem ok_b1 (b : B1) (hb : b ≠ .dict) (a : E) (ha : OkE tb F n a) : OkE tb F n (.b1 b a) := by
  intro sx md ex X hc C
  cases ex with
  | Call fx xs kw pos => cases fx with
    | Name f p =>
      have shape : ∃ x, xs = [x] ∧ kw = [] ∧ (b.on && bltB sx f b.nm && chk sx .peek a x && !starB x) = true := by
        cases b <;> first | exact absurd rfl hb | (rcases xs with _ | ⟨x, _ | ⟨_, _⟩⟩ <;> rcases kw with _ | ⟨_, _⟩ <;> first | (cases hc; done) | exact ⟨x, rfl, rfl, hc⟩)
      obtain ⟨x, rfl, rfl, hc2⟩ := shape
      clear hc
      have hc := hc2
      obtain ⟨hc, h4⟩ := band hc
      obtain ⟨hc, h3⟩ := band hc
      obtain ⟨h1, h2⟩ := band hc
      have pa := pa_cons (ha sx .peek x X h3 C) pa_nil (star_of (bnot h4))
      cases b with
      | len =>
        obtain ⟨rfl, hg, hm⟩ := blt_of C h2 (by decide)
        exact ok_c1 (g := lenD) rfl (fresh_all md) ha C h3 (bnot h4) (fun env w => rfl) (pe_callB cr_len hg hm (by decide +kernel) pa (by decide) (by decide) (star_of (bnot h4)) rfl)
      | abs =>
        obtain ⟨rfl, hg, hm⟩ := blt_of C h2 (by decide)
        exact ok_c1 (g := b1D .abs) rfl (fresh_all md) ha C h3 (bnot h4) (fun env w => rfl) (pe_callB cr_abs hg hm (by decide +kernel) pa (by decide) (by decide) (star_of (bnot h4)) rfl)
      | int =>
        obtain ⟨rfl, hg, hm⟩ := blt_of C h2 (by decide)
        exact ok_c1 (g := b1D .int) rfl (fresh_all md) ha C h3 (bnot h4) (fun env w => rfl) (pe_callTy cr_int hg hm (by decide +kernel) pa (by decide) (by decide) (star_of (bnot h4)) rfl)
      | _ => cases h1
    | _ => cases b <;> cases hc
  | _ => cases b <;> cases hc
/-! ### isinstance -/
def tyN : D → String
  | .none => "NoneType"
  | .bool _ => "bool"
  | .int _ => "int"
  | .str _ => "str"
  | .list _ => "list"
  | .tuple _ => "tuple"
  | .dict _ => "dict"
def Ty.st : Ty → String
  | .int => "int"
  | .bool => "bool"
  | .tuple => "tuple"
  | .str => "str"
  | .dict => "dict"
  | .list => "list"
theorem kit_all (d : D) (t : Ty) : kitB (tyN d) t.st = some (isiD d t) := by
  cases d with
  | none =>
    cases t with
    | int => exact (by decide +kernel : kitB "NoneType" "int" = some false)
    | bool => exact (by decide +kernel : kitB "NoneType" "bool" = some false)
    | tuple => exact (by decide +kernel : kitB "NoneType" "tuple" = some false)
    | str => exact (by decide +kernel : kitB "NoneType" "str" = some false)
    | dict => exact (by decide +kernel : kitB "NoneType" "dict" = some false)
    | list => exact (by decide +kernel : kitB "NoneType" "list" = some false)
  | bool b =>
    cases t with
    | int => exact (by decide +kernel : kitB "bool" "int" = some true)
    | bool => exact (by decide +kernel : kitB "bool" "bool" = some true)
    | tuple => exact (by decide +kernel : kitB "bool" "tuple" = some false)
    | str => exact (by decide +kernel : kitB "bool" "str" = some false)
    | dict => exact (by decide +kernel : kitB "bool" "dict" = some false)
    | list => exact (by decide +kernel : kitB "bool" "list" = some false)
  | int i =>
    cases t with
    | int => exact (by decide +kernel : kitB "int" "int" = some true)
    | bool => exact (by decide +kernel : kitB "int" "bool" = some false)
    | tuple => exact (by decide +kernel : kitB "int" "tuple" = some false)
    | str => exact (by decide +kernel : kitB "int" "str" = some false)
    | dict => exact (by decide +kernel : kitB "int" "dict" = some false)
    | list => exact (by decide +kernel : kitB "int" "list" = some false)
  | str x =>
    cases t with
    | int => exact (by decide +kernel : kitB "str" "int" = some false)
    | bool => exact (by decide +kernel : kitB "str" "bool" = some false)
    | tuple => exact (by decide +kernel : kitB "str" "tuple" = some false)
    | str => exact (by decide +kernel : kitB "str" "str" = some true)
    | dict => exact (by decide +kernel : kitB "str" "dict" = some false)
    | list => exact (by decide +kernel : kitB "str" "list" = some false)
  | list xs =>
    cases t with
    | int => exact (by decide +kernel : kitB "list" "int" = some false)
    | bool => exact (by decide +kernel : kitB "list" "bool" = some false)
    | tuple => exact (by decide +kernel : kitB "list" "tuple" = some false)
    | str => exact (by decide +kernel : kitB "list" "str" = some false)
    | dict => exact (by decide +kernel : kitB "list" "dict" = some false)
    | list => exact (by decide +kernel : kitB "list" "list" = some true)
  | tuple xs =>
    cases t with
    | int => exact (by decide +kernel : kitB "tuple" "int" = some false)
    | bool => exact (by decide +kernel : kitB "tuple" "bool" = some false)
    | tuple => exact (by decide +kernel : kitB "tuple" "tuple" = some true)
    | str => exact (by decide +kernel : kitB "tuple" "str" = some false)
    | dict => exact (by decide +kernel : kitB "tuple" "dict" = some false)
    | list => exact (by decide +kernel : kitB "tuple" "list" = some false)
  | dict kvs =>
    cases t with
    | int => exact (by decide +kernel : kitB "dict" "int" = some false)
    | bool => exact (by decide +kernel : kitB "dict" "bool" = some false)
    | tuple => exact (by decide +kernel : kitB "dict" "tuple" = some false)
    | str => exact (by decide +kernel : kitB "dict" "str" = some false)
    | dict => exact (by decide +kernel : kitB "dict" "dict" = some true)
    | list => exact (by decide +kernel : kitB "dict" "list" = some false)
theorem tyx_tup {K : PySem.W.Frag} {a : Addr} {xs : List V} (h : SqT K H a xs) : TyX K H (.ref a) (.type "tuple") := by
  rcases h with (h | ⟨o, h⟩) | ⟨o, its, n, h1, h2, _⟩
  · exact .base (.tup h)
  · exact .fTuple h
  · exact .kTuple h1 h2
theorem tyx_lst {K : PySem.W.Frag} {a : Addr} {xs : List V} (h : SqL K H a xs) : TyX K H (.ref a) (.type "list") := by
  rcases h with (h | ⟨o, h⟩) | ⟨o, its, n, h1, h2, _⟩
  · exact .base (.lst h)
  · exact .base (.frz h)
  · exact .kList h1 h2
theorem kit_D {pins : List (Addr × Obj)} {s : Shared} {σ : L2.St} (I : Inv X pins σ H s) {v : V} {u : Value} {d : D} (r : RelV v u) (h : RepB (cn X nm) H A [] v d) : ∃ P : Heap → Prop, PySem.W.KitX X.K u (.type (tyN d)) P ∧ P s.heap ∧ u ≠ .builtin "__main__.__loader__#opaque" := by
  cases d with
  | none => obtain rfl := h.non; exact kit_of I r (.base .non)
  | bool b => obtain rfl := h.bl; exact kit_of I r (.base (.bl b))
  | int i => obtain rfl := h.int; exact kit_of I r (.base (.int i))
  | str x => obtain rfl := h.str; exact kit_of I r (.base (.str x))
  | list xs => obtain ⟨a, vs, rfl, ha, ra⟩ := h.lst; exact kit_of I r (tyx_lst ha)
  | tuple xs => obtain ⟨a, vs, rfl, ha, ra⟩ := h.tup; exact kit_of I r (tyx_tup ha.sq)
  | dict kvs =>
    obtain ⟨a, L, ep, rfl, h1, h2, h3⟩ := h.dct
    cases (show u = Value.ref a from r)
    obtain ⟨_, _, o, es, ho, hx, hd, _⟩ := Inv.raw I h1
    exact ⟨_, PySem.W.kitx_dict, ⟨o, ho, hx.1⟩, fun z => nomatch z⟩
def rIsM (c : Cn) (t : Ty) : List V → Hp → VK → Prop := fun vs H Q => match vs with
  | [x, y] => y = .ty t.st ∧ rU1 c .fresh (fun d => some (.bool (isiD d t))) x H Q
  | _ => False
theorem cr_isi (t : Ty) : CallR X (.builtin "isinstance") (rIsM (cn X nm) t) := by
  intro pins s σ H xs us Q I r h
  rcases xs with _ | ⟨x, _ | ⟨y, _ | ⟨_, _⟩⟩⟩
  · exact h.elim
  · exact h.elim
  · obtain ⟨rfl, A, dx, z, hA, hx, hg, q⟩ := h
    cases hg
    obtain ⟨u1, u2, rfl, r1, r2⟩ := vals2 r
    cases (show u2 = Value.type t.st from r2)
    obtain ⟨P, Z, p, hn⟩ := kit_D I r1 hx
    exact PySem.W.kia_one Z I.kIn p (kit_ty (kit_all dx t)) hn fun tk => ⟨.bl _, H, I.tok tk, rfl, q _ _ .same (freshS (.bl _) rfl)⟩
  · exact h.elim
theorem ok_isi (a : E) (t : Ty) (ha : OkE tb F n a) : OkE tb F n (.isi a t) := by
  intro sx md ex X hc C
  cases ex with
  | Call fx xs kw pos => cases fx with
    | Name f p =>
      rcases xs with _ | ⟨x, _ | ⟨y, _ | ⟨_, _⟩⟩⟩ <;> rcases kw with _ | ⟨_, _⟩ <;> first | (cases hc; done) | skip
      · cases y with
        | Name y py =>
          have hc : (bltB sx f "isinstance" && chk sx .peek a x && !starB x && bltB sx y t.nm) = true := hc
          obtain ⟨hc, h4⟩ := band hc
          obtain ⟨hc, h3⟩ := band hc
          obtain ⟨h1, h2⟩ := band hc
          obtain ⟨rfl, hg, hm⟩ := blt_of C h1 (by decide)
          have ht : y = t.nm ∧ Gl X t.nm ∧ X.mg t.nm = none := blt_of C h4 (by cases t <;> decide)
          obtain ⟨rfl, hg2, hm2⟩ := ht
          have pt : PE X (.Name t.nm py) (tC (.ty t.st)) := by
            cases t <;> exact pe_bltn hg2 hm2 (by decide +kernel) rfl (by decide) (by decide)
          have pa := pa_cons (ha sx .peek x X h2 C) (pa_cons pt pa_nil rfl) (star_of (bnot h3))
          refine PE_imp (pe_callB (cr_isi (nm := sx.nmf) t) hg hm (by decide +kernel) pa (by decide) (by decide) (star_of (bnot h3)) rfl) fun σ H Q q => ?_
          have q := tE_un (g := fun d => some (.bool (isiD d t))) rfl (fresh_all md) (fun env w => rfl) σ H Q q
          obtain ⟨own, Xv, m, env, w, E, W, h⟩ := q
          exact ⟨own, Xv, m, env, w, E, W, sat_mono h fun x1 w1 h v1 m1 H1 f1 W1 r1 => ⟨rfl, h v1 m1 H1 f1 W1 r1⟩⟩
        | _ => cases hc
      all_goals (cases y <;> cases hc)
    | _ => cases hc
  | _ => cases hc
end
end Mx

set_option Elab.async false
set_option linter.all false
set_option maxRecDepth 100000
set_option maxHeartbeats 1000000
/-! Mxk: what a frame owns is changed. -/
namespace Mx
open PySem PySem.Spec L2
section
variable {tb : Tbl} {F n : Nat} {sx : Sx} {X : Cx} {md : Mode} {c : Cn} {cf : Cfg} {mo : Nat → Bool} {own : Ow} {Xv : Addr → Prop} {m0 m m' m'' : List Addr} {H0 H H' H'' : Hp} {env env' : Env} {σ σ' : L2.St} {w w' w'' : Wd} {A : Addr → Prop} {K : PySem.W.Frag} {D : Ends}
/-! ### dicts as they are written -/
theorem raw_ok {P : Program} {w : World} {H' : Hp} {h' : Heap} {a : Addr} {xs : Xs} (hd : (a == sysModules) = false) (hz : xs.length ≤ sizeLine) (dd : h'.DictOfH (nestedKind P w) a xs) : ∃ ep, ObjOk P w H' h' a (dRaw a (xs.map (entryOfKey (nestedKind P w))) ep) := by
  obtain ⟨q, es, ep, hq, h2, h3, h4, _, h5⟩ := dd
  refine ⟨ep, ⟨hd, by rw [List.length_map]; exact hz, q, es, hq, h2, h3, h4⟩, ⟨q, hq⟩, ?_⟩
  rintro g1 g2 ⟨a1, a2, o, es2, a3, a4, a5, a6⟩ k
  exact ⟨a1, a2, o, es2, k o a3, a4, a5, a6⟩
theorem Ent3.keep {A' : Addr → Prop} (k : Kp c.K A A' H H') : ∀ {xs : Xs} {kvs : List (Mx.D × Mx.D)}, Ent3 c H A xs kvs → Ent3 c H' A' xs kvs
  | _, _, .nil => .nil
  | _, _, .cons h1 h2 h3 h4 r => .cons (h1.keep k) h2 h3 (h4.keep k) (Ent3.keep k r)
theorem Ent3.snoc {a : Addr} {u : Value} {v : V} {k d : Mx.D} (h1 : Rep c H A (.ref a) k) (h2 : isTupKey k = true) (h3 : RelV v u) (h4 : Rep c H A v d) : ∀ {xs : Xs} {kvs : List (Mx.D × Mx.D)}, Ent3 c H A xs kvs → Ent3 c H A (xs ++ [(nk k, a, u)]) (kvs ++ [(k, d)])
  | _, _, .nil => .cons h1 h2 h3 h4 .nil
  | _, _, .cons g1 g2 g3 g4 r => .cons g1 g2 g3 g4 (Ent3.snoc h1 h2 h3 h4 r)
theorem Ent3.over {u : Value} {v : V} {k d : Mx.D} (h2 : isTupKey k = true) (h3 : RelV v u) (h4 : Rep c H A v d) : ∀ {xs : Xs} {kvs : List (Mx.D × Mx.D)}, Ent3 c H A xs kvs → Ent3 c H A (xs.map (putAt (nk k) u)) (kvs.map fun p => if PyData.eqv p.1 k then (p.1, d) else p)
  | _, _, .nil => .nil
  | _, _, .cons (k := k') g1 g2 g3 g4 r => by
    rw [List.map_cons, List.map_cons]
    by_cases q : nk k' = nk k
    · have q' : PyData.eqv k' k = true := by rw [eqv_key g2 h2, decide_eq_true q]
      rw [show putAt (nk k) u (nk k', _, _) = (nk k', _, u) from if_pos q]
      simp only [q', if_true]
      exact .cons g1 g2 h3 h4 (Ent3.over h2 h3 h4 r)
    · have q' : ¬ PyData.eqv k' k = true := by rw [eqv_key g2 h2, decide_eq_false q]; simp
      rw [show putAt (nk k) u (nk k', _, _) = (nk k', _, _) from if_neg q]
      simp only [q', if_false]
      exact .cons g1 g2 g3 g4 (Ent3.over h2 h3 h4 r)
theorem Ent3.put {a : Addr} {u : Value} {v : V} {k d : Mx.D} (h1 : Rep c H A (.ref a) k) (h2 : isTupKey k = true) (h3 : RelV v u) (h4 : Rep c H A v d) {xs : Xs} {kvs : List (Mx.D × Mx.D)} (h : Ent3 c H A xs kvs) : Ent3 c H A (storedH xs (nk k) a u) (dPut kvs k d) := by
  unfold storedH dPut
  rw [h.has h2]
  split
  · exact h.over h2 h3 h4
  · exact h.snoc h1 h2 h3 h4
theorem Ent3.drop {k : Mx.D} (h2 : isTupKey k = true) : ∀ {xs : Xs} {kvs : List (Mx.D × Mx.D)}, Ent3 c H A xs kvs → Ent3 c H A (withoutH xs (nk k)) (dDel kvs k)
  | _, _, .nil => .nil
  | _, _, .cons (k := k') (xs := xs) (kvs := kvs) g1 g2 g3 g4 r => by
    unfold withoutH dDel
    rw [List.filter_cons, List.filter_cons]
    by_cases q : nk k' = nk k
    · have q' : PyData.eqv k' k = true := by rw [eqv_key g2 h2, decide_eq_true q]
      rw [if_neg (by simpa using q), if_neg (by simp [q'])]
      exact Ent3.drop h2 r
    · have q' : PyData.eqv k' k = false := by rw [eqv_key g2 h2, decide_eq_false q]
      rw [if_pos (by simpa using q), if_pos (by simp [q'])]
      exact .cons g1 g2 g3 g4 (Ent3.drop h2 r)
theorem dPut_len {kvs : List (Mx.D × Mx.D)} {k d : Mx.D} : (dPut kvs k d).length ≤ kvs.length + 1 := by
  unfold dPut
  split
  · simp
  · simp
theorem Ent3.kok {xs : Xs} {kvs : List (Mx.D × Mx.D)} (h : Ent3 c H A xs kvs) (hn : (xs.map (·.1)).Nodup) : KOk kvs := ⟨by rw [← h.keys]; exact hn, h.tups⟩
/-- d[k] = v, at an address: the dict's new form -/
theorem put_raw {pins : List (Addr × Obj)} {s : Shared} {a ka : Addr} {L : List DictEntry} {ep : Nat} {kvs : List (Mx.D × Mx.D)} {k d : Mx.D} {v : V} {u : Value} {Q : Unit → Shared → Prop} {nm : Nat → Str} (hu : X.A.units + 66 < cLine) (I : Inv X pins σ H s) (h1 : H a = some (dRaw a L ep)) (h2 : KOk kvs) (h3 : Ents (cn X nm) H A L kvs) (hA : A a)
    (hk : isTupKey k = true) (rk : Rep (cn X nm) H A (.ref ka) k) (ru : RelV v u) (rv : Rep (cn X nm) H A v d) (hz : kvs.length + 1 ≤ sizeLine)
    (q : ∀ L' ep' s', Inv X pins σ (L2.upd H a (dRaw a L' ep')) s' → Own (cn X nm) (L2.upd H a (dRaw a L' ep')) A a (.dict (dPut kvs k d)) → Q () s') : wpAny (model X.prog X.w) X.A (setItem (.ref a) (.ref ka) u) Q X.xe s := by
  obtain ⟨xs, g1, g2, g3, g4, g5⟩ := Inv.dict I h1 h2 h3
  refine wpAny_setItem_heap (hsz := g5) (room8 hu) (rk.isKey I hk) g3 fun h' dd hs => ?_
  have e3 := g1.put rk hk ru rv
  have hl : (storedH xs (nk k) ka u).length ≤ sizeLine := by
    rw [e3.length]
    exact Nat.le_trans dPut_len hz
  obtain ⟨ep', ok⟩ := raw_ok (H' := L2.upd H a (dRaw a ((storedH xs (nk k) ka u).map (entryOfKey (nestedKind X.prog X.w))) 0)) g4 hl dd
  have nd := dd
  obtain ⟨_, _, _, _, _, _, _, _, hnd⟩ := nd
  have kp : Kp X.K A A H (L2.upd H a (dRaw a ((storedH xs (nk k) ka u).map (entryOfKey (nestedKind X.prog X.w))) ep')) := Kp.wr hA h1 (loose_raw _ _ _)
  refine q _ ep' _ (d_write I (by rw [h1]; exact trivial) hs ok.2.1 ok) ⟨_, ep', upd_same, e3.kok hnd, ?_⟩
  exact (Ent3.keep (c := cn X nm) kp e3).ents
/-- d.pop(k) -/
theorem pop_raw {pins : List (Addr × Obj)} {s : Shared} {a ka : Addr} {L : List DictEntry} {ep : Nat} {kvs : List (Mx.D × Mx.D)} {k : Mx.D} {Q : Value → Shared → Prop} {nm : Nat → Str} (hu : X.A.units + 66 < cLine) (I : Inv X pins σ H s) (h1 : H a = some (dRaw a L ep)) (h2 : KOk kvs) (h3 : Ents (cn X nm) H A L kvs) (hA : A a)
    (hk : isTupKey k = true) (rk : Rep (cn X nm) H A (.ref ka) k) (hh : dHas kvs k = true)
    (q : ∀ L' ep' u v s', Inv X pins σ (L2.upd H a (dRaw a L' ep')) s' → RelV v u → Own (cn X nm) (L2.upd H a (dRaw a L' ep')) A a (.dict (dDel kvs k)) → Q u s') : wpAny (model X.prog X.w) X.A (call (.builtin "dict.pop") [.ref a, .ref ka]) Q X.xe s := by
  obtain ⟨xs, g1, g2, g3, g4, g5⟩ := Inv.dict I h1 h2 h3
  rcases g1.at hk with ⟨e1, e2⟩ | ⟨d, p, v, e1, e2, e3, e4⟩
  · rw [dHas_get, e1] at hh; cases hh
  refine call_pop_heap (hsz := g5) (.inl rfl) (PySem.F.args_dict_pop_2 _ _) (room8 hu) (rk.isKey I hk) g4 g3 e2 fun h' dd hs => ?_
  have e5 := g1.drop hk
  have hl : (withoutH xs (nk k)).length ≤ sizeLine := Nat.le_trans (List.length_filter_le _ _) g5
  obtain ⟨ep', ok⟩ := raw_ok (H' := L2.upd H a (dRaw a ((withoutH xs (nk k)).map (entryOfKey (nestedKind X.prog X.w))) 0)) g4 hl dd
  have nd := dd
  obtain ⟨_, _, _, _, _, _, _, _, hnd⟩ := nd
  have kp : Kp X.K A A H (L2.upd H a (dRaw a ((withoutH xs (nk k)).map (entryOfKey (nestedKind X.prog X.w))) ep')) := Kp.wr hA h1 (loose_raw _ _ _)
  refine q _ ep' _ v _ (d_write I (by rw [h1]; exact trivial) hs ok.2.1 ok) e3 ⟨_, ep', upd_same, e5.kok hnd, ?_⟩
  exact (Ent3.keep (c := cn X nm) kp e5).ents
/-! ### a frame whose own object has changed -/
theorem SOk.mut {i : Nat} {a : Addr} {d' : Mx.D} {o' : HO} (S : SOk c mo Xv m0 H0 own m H env σ w) (h : (i, a) ∈ own) (q : Own c (L2.upd H a o') (Av own Xv m) a d') :
    SOk c mo Xv m0 H0 own m (L2.upd H a o') (env.set i (some (.d d'))) σ w ∧ Kp c.K (Av own Xv m) (Av own Xv m) H (L2.upd H a o') := by
  obtain ⟨h1, h2, d, e1, e2, q0⟩ := S.E.hown i a h
  obtain ⟨o, ho, hl⟩ := q0.loose
  have hA : Av own Xv m a := .inr (.inl ⟨i, h⟩)
  have kp : Kp c.K (Av own Xv m) (Av own Xv m) H (L2.upd H a o') := Kp.wr hA ho hl
  have hi : i < env.length := (List.getElem?_eq_some_iff.mp e1).1
  refine ⟨⟨{
    len := by rw [List.length_set]; exact S.E.len
    xd := fun b hb => by
      by_cases z : b = a
      · exact ⟨o', by rw [z]; exact upd_same⟩
      · obtain ⟨u, hu⟩ := S.E.xd b hb
        exact ⟨u, by rw [upd_ne z]; exact hu⟩
    ndA := S.E.ndA
    ndI := S.E.ndI
    hown := fun j b hj => by
      obtain ⟨g1, g2, d2, e3, e4, q2⟩ := S.E.hown j b hj
      by_cases z : j = i
      · subst z
        have hb : b = a := by
          rw [e2] at e4
          cases e4
          rfl
        subst hb
        exact ⟨g1, g2, d', by rw [List.getElem?_set_self hi], e4, q⟩
      · have hb : b ≠ a := fun e => z (by
          subst e
          have hnd := S.E.ndA
          have p1 := List.mem_iff_getElem?.mp hj
          have p2 := List.mem_iff_getElem?.mp h
          obtain ⟨k1, p1⟩ := p1
          obtain ⟨k2, p2⟩ := p2
          have r1 : (own.map (·.2))[k1]? = some b := by rw [List.getElem?_map, p1]; rfl
          have r2 : (own.map (·.2))[k2]? = some b := by rw [List.getElem?_map, p2]; rfl
          have := (List.getElem?_inj (List.getElem?_eq_some_iff.mp r1).1 hnd).mp (r1.trans r2.symm)
          subst this
          rw [p1] at p2
          exact congrArg Prod.fst (Option.some.inj p2))
        exact ⟨g1, g2, d2, by rw [List.getElem?_set_ne (Ne.symm z)]; exact e3, e4, q2.keep kp fun u hu => by rw [upd_ne hb]; exact hu⟩
    sh := fun j x e hj => by
      rcases set_get e with ⟨z, _, _⟩ | ⟨z, e5⟩
      · subst z; exact absurd h (hj a)
      · obtain ⟨v, e6, r⟩ := S.E.sh j x e5 hj
        exact ⟨v, e6, r.kept (fun _ _ e => e) kp⟩
    hmut := fun j d2 hj e z => by
      rcases set_get e with ⟨e3, _, _⟩ | ⟨e3, e4⟩
      · subst e3; exact ⟨a, h⟩
      · exact S.E.hmut j d2 hj e4 z }, {
    len := S.W.len
    nd := S.W.nd
    ob := fun j b u e3 e4 => (S.W.ob j b u e3 e4).kept (fun _ _ e => e) kp fun u hu => by
      rw [upd_ne (show b ≠ a from fun z => (S.W.dis b (List.mem_iff_getElem?.mpr ⟨j, e3⟩)).1 i (by rw [z]; exact h))]; exact hu
    dis := S.W.dis }, S.fr.wr (S.fo i a h) ho hl, S.fo⟩, kp⟩
theorem slotD_some {i : Nat} {x : Mx.D} (h : slotD env i = some x) : env[i]? = some (some (.d x)) := by
  unfold slotD at h
  split at h
  · rename_i e; cases h; exact e
  · cases h
/-- the object of an owned slot -/
theorem SOk.at (S : SOk c mo Xv m0 H0 own m H env σ w) {i : Nat} {x : Mx.D} (hm : mo i = true) (h : slotD env i = some x) (hx : isMut x = true) : ∃ a, (i, a) ∈ own ∧ σ[i]? = some (some (.ref a)) ∧ Own c H (Av own Xv m) a x := by
  have e := slotD_some h
  obtain ⟨a, ha⟩ := S.E.hmut i x hm e hx
  obtain ⟨h1, h2, d, e1, e2, q⟩ := S.E.hown i a ha
  rw [e] at e1
  cases e1
  exact ⟨a, ha, e2, q⟩
theorem own_inj {i : Nat} {a b : Addr} (hn : (own.map (·.1)).Nodup) (h : (i, a) ∈ own) (h' : (i, b) ∈ own) : a = b := by
  obtain ⟨k1, p1⟩ := List.mem_iff_getElem?.mp h
  obtain ⟨k2, p2⟩ := List.mem_iff_getElem?.mp h'
  have r1 : (own.map (·.1))[k1]? = some i := by rw [List.getElem?_map, p1]; rfl
  have r2 : (own.map (·.1))[k2]? = some i := by rw [List.getElem?_map, p2]; rfl
  have := (List.getElem?_inj (List.getElem?_eq_some_iff.mp r1).1 hn).mp (r1.trans r2.symm)
  subst this
  rw [p1] at p2
  exact congrArg Prod.snd (Option.some.inj p2)
/-! ### methods of lists and dicts -/
def tyM (K : PySem.W.Frag) (T : String) (x : V) (H : Hp) : Prop := ∃ p, x = .ref p ∧ ((T = "list" ∧ ∃ xs, SqL K H p xs) ∨ (T = "dict" ∧ ∃ L ep, H p = some (dRaw p L ep)))
theorem tyM_is {pins : List (Addr × Obj)} {s : Shared} {T : String} {x : V} {v : Value} (I : Inv X pins σ H s) (r : RelV x v) (ty : tyM X.K T x H) : s.TypeIs v T ∧ ∀ a, v = .ref a → ∃ ob, s.heap.get? a = some ob ∧ ob.dict = none := by
  obtain ⟨p, rfl, ty⟩ := ty
  cases r
  rcases ty with ⟨rfl, xs, hq⟩ | ⟨rfl, L, ep, hq⟩
  · obtain ⟨its, _, pl, _⟩ := I.list hq
    refine ⟨pl.isList.typeIs, fun a e => ?_⟩
    cases e
    obtain ⟨o, n, e, c, hd, _⟩ := pl
    exact ⟨o, e, hd⟩
  · obtain ⟨_, _, o, es, ho, hx, hd, _⟩ := Inv.raw I hq
    refine ⟨⟨o, ho, hx.1⟩, fun a e2 => ?_⟩
    cases e2
    exact ⟨o, ho, hx.2.1⟩
def tMM (K : PySem.W.Frag) (T : String) (r : V → List V → Hp → VK → Prop) (to : TE) (t : TA) : TE := fun σ H Q => to σ H fun x H1 => tyM K T x H1 ∧ t σ H1 fun xs H2 => r x xs H2 Q
theorem pe_mm {o e : Expr} {es : List Expr} {to : TE} {t : TA} {name : Str} {apos cpos : Pos} {T id : String} {r : V → List V → Hp → VK → Prop} (pa : PlainAttrs T) (slot : Slot T name id) (hty : typeOf (.builtin id) = pure (.type "method_descriptor")) (hm : MtR X id r) (ho : PE X o to) (ha : PA X (e :: es) t)
    (hbase : attributeBase o name X.env (eval o X.env) = eval o X.env)
    (hfew : ((backTo cpos (starEach (e :: es) X.env)).all (fun x => !x.1) && (backToKw cpos (keywordEach [] X.env)).all (fun x => x.1.isSome)
      && decide ((e :: es).length + ([] : List Keyword).length + (if ([] : List Keyword).isEmpty then 0 else 1) < 30)) = true)
    (hline : (apos.endLine == cpos.line) = true) (hs : starEach (e :: es) X.env = (false, eval e X.env) :: starEach es X.env) (hplain : (backTo cpos (starEach es X.env)).any (·.1) = false) :
    PE X (.Call (.Attribute o name apos) (e :: es) [] cpos) (tMM X.K T r to t) := by
  refine ⟨fun pins s σ H Q I h => ?_⟩
  refine wpAny_Call_method_late hbase hfew hline rfl (thn (ho.run pins s σ H _ I h) fun v s1 ⟨x, H1, I1, r1, ty, q1⟩ => ?_)
  obtain ⟨h1, h2⟩ := tyM_is I1 r1 ty
  refine ⟨T, id, pa, slot, hty, h1, h2, ?_⟩
  have hA := ha.run cpos pins s1 σ H1 _ I1 q1
  rw [hs] at hA ⊢
  refine Calls.callWith_builtin (by show (false || (backTo cpos (starEach es X.env)).any (·.1)) = false; rw [hplain] <;> rfl) (Calls.evalArgs_plain ?_)
  exact thn hA fun us s2 ⟨vs, H2, I2, r2, q2⟩ => hm pins s2 σ H2 x vs v us Q I2 r1 r2 q2
end
end Mx

set_option Elab.async false
set_option linter.all false
set_option maxRecDepth 100000
set_option maxHeartbeats 1000000
/-! Mxl: statements that change what the frame owns. -/
namespace Mx
open PySem PySem.Spec L2
section
variable {tb : Tbl} {F n : Nat} {sx : Sx} {X : Cx} {md : Mode} {c : Cn} {cf : Cfg} {mo : Nat → Bool} {own : Ow} {Xv : Addr → Prop} {m0 m m' m'' : List Addr} {H0 H H' H'' : Hp} {env env' : Env} {σ σ' : L2.St} {w w' w'' : Wd} {A : Addr → Prop} {K : PySem.W.Frag} {D : Ends}
theorem pv_own (C : Ctx tb F n sx X) {i : Nat} {x : Str} {p : Pos} (h : ownN sx i x = true) : PE X (.Name x p) (tVar i) ∧ sx.mof i = true := by
  obtain ⟨h, h4⟩ := band (show (decide (sx.N[i]? = some x) && visB sx.sc x && plainName x && sx.mo.contains i) = true from h)
  obtain ⟨h, h3⟩ := band h
  obtain ⟨h1, h2⟩ := band h
  obtain ⟨p1, p2, _⟩ := plain_of h3
  exact ⟨pe_var (by rw [C.N]; exact of_decide_eq_true h1) (by rw [C.sc]; exact vis_of h2) p1 p2, h4⟩
theorem few1 {v : Expr} {env : PySem.Env} {cpos : Pos} (h : starB v = false) : ((backTo cpos (starEach [v] env)).all (fun x => !x.1) && (backToKw cpos (keywordEach [] env)).all (fun x => x.1.isSome)
      && decide (([v] : List Expr).length + ([] : List Keyword).length + (if ([] : List Keyword).isEmpty then 0 else 1) < 30)) = true := by
  rw [one_star h]
  rfl
theorem ok_app (i : Nat) (e : E) (he : OkE tb F n e) : OkS tb F n (.app i e) := by
  intro sx x X hc C hp
  cases x with
  | Expr v pos => cases v with
    | Call fx xs kw cpos => cases fx with
      | Attribute o f apos => cases o with
        | Name x np =>
          rcases xs with _ | ⟨v, _ | ⟨_, _⟩⟩ <;> rcases kw with _ | ⟨_, _⟩ <;> first | (cases hc; done) | skip
          have hc : (ownN sx i x && decide (f = "append") && chk sx .keep e v && !starB v && (apos.endLine == cpos.line)) = true := hc
          obtain ⟨hc, h5⟩ := band hc
          obtain ⟨hc, h4⟩ := band hc
          obtain ⟨hc, h3⟩ := band hc
          obtain ⟨h1, h2⟩ := band hc
          obtain rfl := of_decide_eq_true h2
          obtain ⟨pv, hmo⟩ := pv_own (p := np) C h1
          refine PS_imp (ps_expr (pe_mm PySem.F.plainAttrs_list PySem.F.slot_list_append PySem.F.type_list_append (show MtR X "list.append" rAppend from mt_append) pv (pa_cons (he sx .keep v X h3 C) pa_nil (star_of (bnot h4))) rfl (few1 (bnot h4)) h5 (star_of (bnot h4)) rfl) rfl) ?_
          rintro D σ H ⟨Xv, m0, H0, own, m, env, w, S, h⟩
          rw [show ex _ (.app i e) env w = (ev _ e env w).dat.bind fun x w => (ofO ((slotD env i).bind fun l => appIn l x) w).bind fun l w => .ok (.nx (env.set i (some (.d l)))) w from rfl, sat_bind, sat_dat] at h
          obtain ⟨_, _, dx, _, hz⟩ := sat_ex h
          rw [sat_bind, sat_ofO] at hz
          obtain ⟨l, hl, _⟩ := hz
          obtain ⟨ld, hld, _⟩ := Option.bind_eq_some_iff.mp hl
          cases ld with
          | list xs =>
            obtain ⟨a, ha, e2, q⟩ := S.at hmo hld rfl
            obtain ⟨vs, q1, q2⟩ := q
            refine ⟨_, e2, ⟨a, rfl, .inl ⟨rfl, vs, .inl (.inl q1)⟩⟩, own, Xv, m, env, w, S.E, S.W, sat_mono h fun x1 w1 h v1 m1 H1 f1 W1 r1 => ?_⟩
            obtain ⟨dx, rfl, h⟩ := h
            rw [sat_bind, sat_ofO] at h
            obtain ⟨l2, hl2, h⟩ := h
            rw [hld] at hl2
            have hl2 : (if fits (xs.length + 1) then some (PyData.list (xs ++ [dx])) else none) = some l2 := hl2
            split at hl2
            · rename_i hf
              cases hl2
              have S1 := S.step f1 W1
              obtain ⟨a', ha', e3, q'⟩ := S1.at hmo hld rfl
              have := own_inj S.E.ndI ha ha'
              subst this
              obtain ⟨vs', q1', q2'⟩ := q'
              have kp : Kp (cn X sx.nmf).K (Av own Xv m1) (Av own Xv m1) H1 (L2.upd H1 a (.lst (vs' ++ [v1]))) := Kp.wr (.inr (.inl ⟨i, ha⟩)) q1' (loose_lst _)
              obtain ⟨S2, k2⟩ := S1.mut (o' := .lst (vs' ++ [v1])) (d' := .list (xs ++ [dx])) ha ⟨_, upd_same, (q2'.append (.cons r1.1 .nil)).keep kp⟩
              refine ⟨a, vs', v1, rfl, rfl, q1', by have := fits_le hf; rw [q2'.length]; omega, h own m1 _ σ S2 (f1.kp'.trans k2)⟩
            · cases hl2
          | _ =>
            obtain ⟨_, e4⟩ := Option.bind_eq_some_iff.mp hl
            rw [hld] at hl
            cases hl
        | _ => cases hc
      | _ => cases hc
    | _ => cases hc
  | _ => cases hc
theorem ok_ext (i : Nat) (e : E) (he : OkE tb F n e) : OkS tb F n (.ext i e) := by
  intro sx x X hc C hp
  cases x with
  | Expr v pos => cases v with
    | Call fx xs kw cpos => cases fx with
      | Attribute o f apos => cases o with
        | Name x np =>
          rcases xs with _ | ⟨v, _ | ⟨_, _⟩⟩ <;> rcases kw with _ | ⟨_, _⟩ <;> first | (cases hc; done) | skip
          have hc : (ownN sx i x && decide (f = "extend") && chk sx .fresh e v && !starB v && (apos.endLine == cpos.line)) = true := hc
          obtain ⟨hc, h5⟩ := band hc
          obtain ⟨hc, h4⟩ := band hc
          obtain ⟨hc, h3⟩ := band hc
          obtain ⟨h1, h2⟩ := band hc
          obtain rfl := of_decide_eq_true h2
          obtain ⟨pv, hmo⟩ := pv_own (p := np) C h1
          refine PS_imp (ps_expr (pe_mm PySem.F.plainAttrs_list PySem.F.slot_list_extend PySem.F.type_list_extend (show MtR X "list.extend" rExtend from mt_extend) pv (pa_cons (he sx .fresh v X h3 C) pa_nil (star_of (bnot h4))) rfl (few1 (bnot h4)) h5 (star_of (bnot h4)) rfl) rfl) ?_
          rintro D σ H ⟨Xv, m0, H0, own, m, env, w, S, h⟩
          rw [show ex _ (.ext i e) env w = (ev _ e env w).dat.bind fun x w => (ofO ((slotD env i).bind fun l => extIn l x) w).bind fun l w => .ok (.nx (env.set i (some (.d l)))) w from rfl, sat_bind, sat_dat] at h
          obtain ⟨_, _, dx, _, hz⟩ := sat_ex h
          rw [sat_bind, sat_ofO] at hz
          obtain ⟨l, hl, _⟩ := hz
          obtain ⟨ld, hld, _⟩ := Option.bind_eq_some_iff.mp hl
          cases ld with
          | list xs =>
            obtain ⟨a, ha, e2, q⟩ := S.at hmo hld rfl
            obtain ⟨vs, q1, q2⟩ := q
            refine ⟨_, e2, ⟨a, rfl, .inl ⟨rfl, vs, .inl (.inl q1)⟩⟩, own, Xv, m, env, w, S.E, S.W, sat_mono h fun x1 w1 h v1 m1 H1 f1 W1 r1 => ?_⟩
            obtain ⟨dx, rfl, h⟩ := h
            rw [sat_bind, sat_ofO] at h
            obtain ⟨l2, hl2, h⟩ := h
            rw [hld] at hl2
            cases dx with
            | list ys =>
              have hl2 : (if fits (xs.length + ys.length) then some (PyData.list (xs ++ ys)) else none) = some l2 := hl2
              split at hl2
              · rename_i hf
                cases hl2
                have S1 := S.step f1 W1
                obtain ⟨a', ha', e3, q'⟩ := S1.at hmo hld rfl
                have := own_inj S.E.ndI ha ha'
                subst this
                obtain ⟨vs', q1', q2'⟩ := q'
                rcases r1.1 with ⟨z, _⟩ | ⟨b, rfl, b1, b2, us, b3, b4⟩
                · cases z
                · have b4 := b4.keep (A' := Av own Xv m1) (.less fun x hx z => hx (.inl z))
                  have kp : Kp (cn X sx.nmf).K (Av own Xv m1) (Av own Xv m1) H1 (L2.upd H1 a (.lst (vs' ++ us))) := Kp.wr (.inr (.inl ⟨i, ha⟩)) q1' (loose_lst _)
                  obtain ⟨S2, k2⟩ := S1.mut (o' := .lst (vs' ++ us)) (d' := .list (xs ++ ys)) ha ⟨_, upd_same, (q2'.append b4).keep kp⟩
                  exact ⟨a, b, vs', us, rfl, rfl, q1', b3, by have := fits_le hf; rw [q2'.length, b4.length]; omega, h own m1 _ σ S2 (f1.kp'.trans k2)⟩
              · cases hl2
            | _ => cases hl2
          | _ =>
            rw [hld] at hl
            cases dx <;> cases hl
        | _ => cases hc
      | _ => cases hc
    | _ => cases hc
  | _ => cases hc
/-- d.pop(k), by values -/
def rPopM (c : Cn) : V → List V → Hp → VK → Prop := fun x xs H Q => ∃ (A : Addr → Prop) (a ka : Addr) (L : List DictEntry) (ep : Nat) (kvs : List (Mx.D × Mx.D)) (k : Mx.D), x = .ref a ∧ xs = [.ref ka] ∧ H a = some (dRaw a L ep) ∧ KOk kvs ∧ Ents c H A L kvs ∧ A a ∧ isTupKey k = true ∧ Rep c H A (.ref ka) k ∧ dHas kvs k = true ∧
  ∀ v L' ep', Own c (L2.upd H a (dRaw a L' ep')) A a (.dict (dDel kvs k)) → Q v (L2.upd H a (dRaw a L' ep'))
theorem mt_popM {nm : Nat → Str} (hu : X.A.units + 66 < cLine) : MtR X "dict.pop" (rPopM (cn X nm)) := by
  intro pins s σ H x xs v us Q I rx rxs h
  obtain ⟨A, a, ka, L, ep, kvs, k, rfl, rfl, h1, h2, h3, hA, hk, rk, hh, q⟩ := h
  cases rx
  obtain ⟨u, rfl, ru⟩ := vals1 rxs
  cases ru
  exact pop_raw hu I h1 h2 h3 hA hk rk hh fun L' ep' u v s' I' r o => ⟨v, _, I', r, q v L' ep' o⟩
theorem ok_popK (i : Nat) (e : E) (he : OkE tb F n e) : OkS tb F n (.popK i e) := by
  intro sx x X hc C hp
  cases x with
  | Expr v pos => cases v with
    | Call fx xs kw cpos => cases fx with
      | Attribute o f apos => cases o with
        | Name x np =>
          rcases xs with _ | ⟨v, _ | ⟨_, _⟩⟩ <;> rcases kw with _ | ⟨_, _⟩ <;> first | (cases hc; done) | skip
          have hc : (ownN sx i x && decide (f = "pop") && chk sx .keep e v && !starB v && (apos.endLine == cpos.line)) = true := hc
          obtain ⟨hc, h5⟩ := band hc
          obtain ⟨hc, h4⟩ := band hc
          obtain ⟨hc, h3⟩ := band hc
          obtain ⟨h1, h2⟩ := band hc
          obtain rfl := of_decide_eq_true h2
          obtain ⟨pv, hmo⟩ := pv_own (p := np) C h1
          refine PS_imp (ps_expr (pe_mm PySem.F.plainAttrs_dict PySem.F.slot_dict_pop PySem.F.type_dict_pop (mt_popM (nm := sx.nmf) C.units) pv (pa_cons (he sx .keep v X h3 C) pa_nil (star_of (bnot h4))) rfl (few1 (bnot h4)) h5 (star_of (bnot h4)) rfl) rfl) ?_
          rintro D σ H ⟨Xv, m0, H0, own, m, env, w, S, h⟩
          rw [show ex _ (.popK i e) env w = (ev _ e env w).dat.bind fun y w => (ofO ((slotD env i).bind fun l => popIn l y) w).bind fun l w => .ok (.nx (env.set i (some (.d l)))) w from rfl, sat_bind, sat_dat] at h
          obtain ⟨_, _, dx, _, hz⟩ := sat_ex h
          rw [sat_bind, sat_ofO] at hz
          obtain ⟨l, hl, _⟩ := hz
          obtain ⟨ld, hld, _⟩ := Option.bind_eq_some_iff.mp hl
          cases ld with
          | dict kvs =>
            obtain ⟨a, ha, e2, q⟩ := S.at hmo hld rfl
            obtain ⟨L, ep, q1, q2, q3⟩ := q
            refine ⟨_, e2, ⟨a, rfl, .inr ⟨rfl, L, ep, q1⟩⟩, own, Xv, m, env, w, S.E, S.W, sat_mono h fun x1 w1 h v1 m1 H1 f1 W1 r1 => ?_⟩
            obtain ⟨dx, rfl, h⟩ := h
            rw [sat_bind, sat_ofO] at h
            obtain ⟨l2, hl2, h⟩ := h
            rw [hld] at hl2
            have hl2 : (if keyFor kvs dx && dHas kvs dx && fits kvs.length then some (PyData.dict (dDel kvs dx)) else none) = some l2 := hl2
            split at hl2
            · rename_i hf
              obtain ⟨hf, _⟩ := band hf
              obtain ⟨hk, hh⟩ := band hf
              cases hl2
              have S1 := S.step f1 W1
              obtain ⟨a', ha', e3, q'⟩ := S1.at hmo hld rfl
              have := own_inj S.E.ndI ha ha'
              subst this
              obtain ⟨L', ep', q1', q2', q3'⟩ := q'
              obtain ⟨ka, rfl, rk⟩ := RepB.keyAt (m := []) (.of r1.1) hk
              refine ⟨Av own Xv m1, a, ka, L', ep', kvs, dx, rfl, rfl, q1', q2', q3', .inr (.inl ⟨i, ha⟩), hk, rk, hh, fun v L2 ep2 o => ?_⟩
              obtain ⟨S2, k2⟩ := S1.mut ha o
              exact h own m1 _ σ S2 (f1.kp'.trans k2)
            · cases hl2
          | _ =>
            rw [hld] at hl
            cases hl
        | _ => cases hc
      | _ => cases hc
    | _ => cases hc
  | _ => cases hc
/-- o[i] = v on lists and dicts -/
def rSetM (c : Cn) : TSet := fun o y v H Q => rSetL o y v H Q ∨ ∃ (A : Addr → Prop) (a ka : Addr) (L : List DictEntry) (ep : Nat) (kvs : List (Mx.D × Mx.D)) (k d : Mx.D), o = .ref a ∧ y = .ref ka ∧ H a = some (dRaw a L ep) ∧ KOk kvs ∧ Ents c H A L kvs ∧ A a ∧ isTupKey k = true ∧ Rep c H A (.ref ka) k ∧ Rep c H A v d ∧ kvs.length + 1 ≤ sizeLine ∧
  ∀ L' ep', Own c (L2.upd H a (dRaw a L' ep')) A a (.dict (dPut kvs k d)) → Q (L2.upd H a (dRaw a L' ep'))
theorem set_M {nm : Nat → Str} (hu : X.A.units + 66 < cLine) : PSet X (rSetM (cn X nm)) := by
  intro pins s σ H o i v ov iv u Q I ro ri rv h
  rcases h with h | ⟨A, a, ka, L, ep, kvs, k, d, rfl, rfl, h1, h2, h3, hA, hk, rk, rd, hz, q⟩
  · exact set_list pins s σ H o i v ov iv u Q I ro ri rv h
  · cases ro
    cases ri
    exact put_raw hu I h1 h2 h3 hA hk rk rv rd hz fun L' ep' s' I' o => ⟨_, I', q L' ep' o⟩
theorem ok_put (i : Nat) (k e : E) (hk : OkE tb F n k) (he : OkE tb F n e) : OkS tb F n (.put i k e) := by
  intro sx x X hc C hp
  cases x with
  | Assign ts v pos =>
    rcases ts with _ | ⟨t, _ | ⟨_, _⟩⟩
    · cases hc
    · cases t with
      | Subscript o kx sp => cases o with
        | Name x np =>
          have hc : (ownN sx i x && chk sx .keep e v && chk sx .keep k kx && !sliceB kx) = true := hc
          obtain ⟨hc, h4⟩ := band hc
          obtain ⟨hc, h3⟩ := band hc
          obtain ⟨h1, h2⟩ := band hc
          obtain ⟨pv, hmo⟩ := pv_own (p := np) C h1
          refine PS_imp (ps_asg (he sx .keep v X h2 C) (pg_sub pv (hk sx .keep kx X h3 C) (set_M (nm := sx.nmf) C.units) ?_) ?_ ?_ rfl) ?_
          · intro u; cases kx <;> first | rfl | cases h4
          · cases v <;> rfl
          · cases v <;> rfl
          rintro D σ H ⟨Xv, m0, H0, own, m, env, w, S, h⟩
          rw [show ex _ (.put i k e) env w = (ev _ e env w).dat.bind fun x w => (ev _ k env w).dat.bind fun y w => (ofO ((slotD env i).bind fun l => putIn l y x) w).bind fun l w => .ok (.nx (env.set i (some (.d l)))) w from rfl, sat_bind, sat_dat] at h
          refine ⟨own, Xv, m, env, w, S.E, S.W, sat_mono h fun x1 w1 h v1 m1 H1 f1 W1 r1 => ?_⟩
          obtain ⟨dx, rfl, h⟩ := h
          rw [sat_bind, sat_dat] at h
          obtain ⟨_, _, dy, _, hz⟩ := sat_ex h
          rw [sat_bind, sat_ofO] at hz
          obtain ⟨l, hl, _⟩ := hz
          obtain ⟨ld, hld, hl⟩ := Option.bind_eq_some_iff.mp hl
          have S1 := S.step f1 W1
          have hm : isMut ld = true := by
            cases ld with
            | list _ => rfl
            | dict _ => rfl
            | _ => cases dy <;> cases hl
          obtain ⟨a, ha, e2, q⟩ := S1.at hmo hld hm
          refine ⟨_, e2, own, Xv, m1, env, w1, S1.E, S1.W, sat_mono h fun x2 w2 h v2 m2 H2 f2 W2 r2 => ?_⟩
          obtain ⟨dy, rfl, h⟩ := h
          rw [sat_bind, sat_ofO] at h
          obtain ⟨l2, hl2, h⟩ := h
          rw [hld] at hl2
          have S2 := S1.step f2 W2
          have r1 : Rep (cn X sx.nmf) H2 (Av own Xv m2) v1 dx := Rep.keep f2.kp' r1.1
          have f12 := f1.trans f2
          obtain ⟨a', ha', e3, q'⟩ := S2.at hmo hld hm
          have := own_inj S.E.ndI ha ha'
          subst this
          cases ld with
          | list xs => cases dy with
            | int j =>
              have hl2 : (L2.ixN xs.length j).map (fun j => PyData.list (xs.set j dx)) = some l2 := hl2
              cases hj : L2.ixN xs.length j with
              | none => rw [hj] at hl2; cases hl2
              | some jj =>
                rw [hj] at hl2
                cases hl2
                obtain ⟨vs', q1', q2'⟩ := q'
                have r2 : Rep (cn X sx.nmf) H2 (Av own Xv m2) v2 (.int j) := r2.1
                cases r2
                have kp : Kp (cn X sx.nmf).K (Av own Xv m2) (Av own Xv m2) H2 (L2.upd H2 a (.lst (vs'.set jj v1))) := Kp.wr (.inr (.inl ⟨i, ha⟩)) q1' (loose_lst _)
                obtain ⟨S3, k3⟩ := S2.mut (o' := .lst (vs'.set jj v1)) (d' := .list (xs.set jj dx)) ha ⟨_, upd_same, (Reps.set r1 jj q2').keep kp⟩
                exact .inl ⟨a, vs', j, jj, rfl, rfl, q1', by rw [q2'.length]; exact hj, h own m2 _ σ S3 (f12.kp'.trans k3)⟩
            | _ => cases hl2
          | dict kvs =>
            have hl2 : (if keyFor kvs dy && fits (kvs.length + 1) then some (PyData.dict (dPut kvs dy dx)) else none) = some l2 := hl2
            split at hl2
            · rename_i hf
              obtain ⟨hkk, hf⟩ := band hf
              cases hl2
              obtain ⟨L', ep', q1', q2', q3'⟩ := q'
              obtain ⟨ka, rfl, rk⟩ := RepB.keyAt (m := []) (.of r2.1) hkk
              refine .inr ⟨Av own Xv m2, a, ka, L', ep', kvs, dy, dx, rfl, rfl, q1', q2', q3', .inr (.inl ⟨i, ha⟩), hkk, rk, r1, fits_le hf, fun L2 ep2 o => ?_⟩
              obtain ⟨S3, k3⟩ := S2.mut ha o
              exact h own m2 _ σ S3 (f12.kp'.trans k3)
            · cases hl2
          | _ => cases hm
        | _ => cases hc
      | _ => cases hc
    · cases t <;> first | (cases hc; done) | (rename_i o _ _; cases o <;> cases hc)
  | _ => cases hc
def rAug (op : Bop) : TIp := fun x y H Q => ∃ a b z : Mx.D, (∃ i, a = .int i ∧ x = .int i) ∧ (∃ j, b = .int j ∧ y = .int j) ∧ augD op a b = some z ∧ ∀ v, (∃ k, z = .int k ∧ v = .int k) → Q v H
theorem iop_of {op : Bop} {o : Operator} (h : bopB op o = true) : PIp X o (rAug op) := by
  rintro pins s σ H x y v u Q I rx ry ⟨a, b, z, ⟨i, rfl, rfl⟩, ⟨j, rfl, rfl⟩, hz, q⟩
  cases op with
  | add =>
    cases o <;> first | (cases h; done) | skip
    cases hz
    exact iop_add pins s σ H _ _ v u Q I rx ry ⟨i, j, rfl, rfl, q _ ⟨_, rfl, rfl⟩⟩
  | sub =>
    cases o <;> first | (cases h; done) | skip
    cases hz
    exact iop_sub pins s σ H _ _ v u Q I rx ry ⟨i, j, rfl, rfl, q _ ⟨_, rfl, rfl⟩⟩
  | mul =>
    cases o <;> first | (cases h; done) | skip
    have hz : (if small i || small j then some (PyData.int (i * j)) else none) = some z := hz
    split at hz
    · rename_i hf
      cases hz
      refine iop_mul pins s σ H _ _ v u Q I rx ry ⟨i, j, rfl, rfl, ?_, q _ ⟨_, rfl, rfl⟩⟩
      rcases Bool.or_eq_true_iff.mp hf with z | z
      · exact .inl (small_ok z)
      · exact .inr (small_ok z)
    · cases hz
  | _ => cases hz
theorem aug_ints {op : Bop} {a b z : Mx.D} (h : augD op a b = some z) : (∃ i, a = .int i) ∧ (∃ j, b = .int j) ∧ ∃ k, z = .int k := by
  cases op <;> cases a <;> first | (cases h; done) | (cases b <;> first | (cases h; done) | skip)
  · cases h; exact ⟨⟨_, rfl⟩, ⟨_, rfl⟩, _, rfl⟩
  · cases h; exact ⟨⟨_, rfl⟩, ⟨_, rfl⟩, _, rfl⟩
  · rename_i i j
    have h : (if small i || small j then some (PyData.int (i * j)) else none) = some z := h
    split at h
    · cases h; exact ⟨⟨_, rfl⟩, ⟨_, rfl⟩, _, rfl⟩
    · cases h
theorem ok_aug (i : Nat) (op : Bop) (e : E) (he : OkE tb F n e) : OkS tb F n (.aug i op e) := by
  intro sx x X hc C hp
  cases x with
  | AugAssign t o v pos => cases t with
    | Name x np =>
      have hc : (decide (sx.N[i]? = some x) && locB sx x && !sx.mo.contains i && bopB op o && chk sx .peek e v) = true := hc
      obtain ⟨hc, h5⟩ := band hc
      obtain ⟨hc, h4⟩ := band hc
      obtain ⟨hc, h3⟩ := band hc
      obtain ⟨h1, h2⟩ := band hc
      have hl := loc_of C h2
      refine PS_imp (ps_aug (i := i) C.nd (by rw [C.N]; exact of_decide_eq_true h1) hl.1 (he sx .peek v X h5 C) (iop_of h4) hl.2) ?_
      rintro D σ H ⟨Xv, m0, H0, own, m, env, w, S, h⟩
      rw [show ex _ (.aug i op e) env w = (ofO (slotD env i) w).bind fun x w => (ev _ e env w).dat.bind fun y w => (ofO (augD op x y) w).bind fun z w => .ok (.nx (env.set i (some (.d z)))) w from rfl, sat_bind, sat_ofO] at h
      obtain ⟨dx, hdx, h⟩ := h
      rw [sat_bind, sat_dat] at h
      obtain ⟨_, _, dy, _, hz⟩ := sat_ex h
      rw [sat_bind, sat_ofO] at hz
      obtain ⟨z, hz, _⟩ := hz
      obtain ⟨⟨i1, rfl⟩, _, _⟩ := aug_ints hz
      have hno : ∀ a, (i, a) ∉ own := fun a ha => by
        obtain ⟨q1, _⟩ := S.E.hown i a ha
        rw [show sx.mof i = false from bnot h3] at q1; cases q1
      obtain ⟨v0, e0, r0⟩ := S.E.sh i _ (slotD_some hdx) hno
      have r0 : Rep _ H (Av own Xv m) v0 (.int i1) := r0
      cases r0
      refine ⟨_, e0, own, Xv, m, env, w, S.E, S.W, sat_mono h fun x1 w1 h v1 m1 H1 f1 W1 r1 => ?_⟩
      obtain ⟨dy, rfl, h⟩ := h
      rw [sat_bind, sat_ofO] at h
      obtain ⟨z, hz, h⟩ := h
      obtain ⟨_, ⟨j, rfl⟩, k, rfl⟩ := aug_ints hz
      have r1 : RepB _ H1 (Av own Xv m1) [] v1 (.int j) := r1.1
      obtain rfl := r1.int
      refine ⟨_, _, _, ⟨_, rfl, rfl⟩, ⟨_, rfl, rfl⟩, hz, ?_⟩
      rintro v ⟨k2, e2, rfl⟩
      cases e2
      have S1 := S.step f1 W1
      exact h own m1 H1 _ ⟨S1.E.set (bnot h3) (x := .d (.int k)) (.int k), W1, S1.fr, S1.fo⟩ f1.kp'
    | _ => cases hc
  | _ => cases hc
end
end Mx

set_option Elab.async false
set_option linter.all false
set_option maxRecDepth 100000
set_option maxHeartbeats 1000000
/-! Mxm: sorted, min, max, count, index. -/
namespace Mx
open PySem PySem.Spec L2
/-! ### the two sorts are one -/
theorem ins_app {α : Type} {le : α → α → Bool} {x : α} : ∀ {l₁ l₂ : List α}, (∀ b ∈ l₁, le x b = false) → (∀ b r, l₂ = b :: r → le x b = true) → ins le x (l₁ ++ l₂) = l₁ ++ x :: l₂
  | [], [], _, _ => rfl
  | [], b :: r, _, h => by
    show (if le x b then x :: b :: r else b :: ins le x r) = _
    rw [if_pos (h b r rfl)]
    rfl
  | a :: l₁, l₂, h1, h2 => by
    show (if le x a then x :: a :: (l₁ ++ l₂) else a :: ins le x (l₁ ++ l₂)) = _
    rw [if_neg (by rw [h1 a (List.mem_cons_self ..)]; simp), ins_app (fun b hb => h1 b (List.mem_cons_of_mem _ hb)) h2]
    rfl
theorem isort_merge {α : Type} {le : α → α → Bool} (tr : ∀ a b c, le a b = true → le b c = true → le a c = true) (tt : ∀ a b, (le a b || le b a) = true) : ∀ l : List α, isort le l = l.mergeSort le
  | [] => by rw [List.mergeSort_nil]; rfl
  | x :: xs => by
    show ins le x (isort le xs) = _
    rw [isort_merge tr tt xs]
    obtain ⟨l₁, l₂, e1, e2, h⟩ := List.mergeSort_cons tr tt x xs
    rw [e1, e2]
    refine ins_app (fun b hb => by simpa using h b hb) fun b r e => ?_
    have hp := List.pairwise_mergeSort tr tt (x :: xs)
    rw [e1, e] at hp
    have := (List.pairwise_append.mp hp).2.1
    exact (List.pairwise_cons.mp this).1 b (List.mem_cons_self ..)
theorem leD_eq : leD = PySem.W.dataLe false (fun d : D => d) := by
  funext a b
  rw [PySem.W.dataLe_eq]
  rfl
theorem leD_tr (a b c : D) (h1 : leD a b = true) (h2 : leD b c = true) : leD a c = true := by
  have h1 : PySem.W.dataLt b a = false := bnot h1
  have h2 : PySem.W.dataLt c b = false := bnot h2
  show (!PySem.W.dataLt c a) = true
  cases e : PySem.W.dataLt c a with
  | false => rfl
  | true =>
    rcases (PyProof.Rows.listOrd PyProof.Rows.itemOrd).negTrans (PySem.W.keyToks c) (PySem.W.keyToks b) (PySem.W.keyToks a) e with z | z
    · rw [show PySem.W.dataLt c b = true from z] at h2; cases h2
    · rw [show PySem.W.dataLt b a = true from z] at h1; cases h1
theorem leD_tt (a b : D) : (leD a b || leD b a) = true := by
  show ((!PySem.W.dataLt b a) || (!PySem.W.dataLt a b)) = true
  cases e : PySem.W.dataLt b a with
  | false => rfl
  | true =>
    cases e2 : PySem.W.dataLt a b with
    | false => rfl
    | true =>
      have := (PyProof.Rows.listOrd PyProof.Rows.itemOrd).trans (PySem.W.keyToks a) (PySem.W.keyToks b) (PySem.W.keyToks a) e2 e
      rw [(PyProof.Rows.listOrd PyProof.Rows.itemOrd).irrefl] at this
      cases this
theorem isort_data (l : List D) : isort leD l = l.mergeSort (PySem.W.dataLe false fun d : D => d) := by
  rw [← leD_eq]
  exact isort_merge leD_tr leD_tt l
theorem sortable_ok {ks : List D} (h : sortable ks = true) : PySem.W.AllAlike ks ∧ PySem.W.Sortable ks ∧ ∀ d ∈ ks, d.depth ≤ 64 := by
  obtain ⟨h, h3⟩ := band (show (allAlike ks && ks.all low && (ks.all isTup1 || ks.all isOther)) = true from h)
  obtain ⟨h1, h2⟩ := band h
  refine ⟨fun d hd d' hd' => ?_, ?_, fun d hd => Nat.le_of_ble_eq_true (List.all_eq_true.mp h2 d hd)⟩
  · exact List.all_eq_true.mp (List.all_eq_true.mp h1 d hd) d' hd'
  · rcases Bool.or_eq_true_iff.mp h3 with h3 | h3
    · refine .inl fun d hd => ?_
      have := List.all_eq_true.mp h3 d hd
      cases d with
      | tuple xs => cases xs with
        | nil => cases this
        | cons x r => exact ⟨x, r, rfl⟩
      | _ => cases this
    · refine .inr fun d hd => ?_
      have := List.all_eq_true.mp h3 d hd
      cases d <;> first | (cases this; done) | exact ⟨(fun z => nomatch z), (fun _ z => nomatch z)⟩
section
variable {tb : Tbl} {F n : Nat} {sx : Sx} {X : Cx} {md : Mode} {c : Cn} {cf : Cfg} {mo : Nat → Bool} {H H' : Hp} {A : Addr → Prop} {nm : Nat → Str}
/-- a value of the model that stands for a datum -/
def RV (c : Cn) (H : Hp) (A : Addr → Prop) (u : Value) (d : D) : Prop := ∃ x, RelV x u ∧ Rep c H A x d
theorem each_of : ∀ {vs : List V} {ds : List D} {us : List Value}, Reps c H A vs ds → Vals vs us → PySem.W.EachIs (RV c H A) us ds
  | _, _, _, .nil, r => by cases r; exact .nil
  | _, _, _, .cons h q, r => by
    cases r with
    | cons r1 r2 => exact .cons ⟨_, r1, h⟩ (each_of q r2)
theorem of_each : ∀ {ds : List D} {us : List Value}, PySem.W.EachIs (RV c H A) us ds → ∃ vs, Vals vs us ∧ Reps c H A vs ds
  | _, _, .nil => ⟨[], .nil, .nil⟩
  | _, _, .cons h t => by
    obtain ⟨x, r, q⟩ := h
    obtain ⟨vs, r2, q2⟩ := of_each t
    exact ⟨x :: vs, .cons r r2, .cons q q2⟩
theorem each_reads {pins : List (Addr × Obj)} {s : Shared} {σ : L2.St} (I : Inv X pins σ H s) : ∀ {vs : List V} {ds : List D} {us : List Value}, Reps (cn X nm) H A vs ds → Vals vs us → PySem.W.EachIs (fun v b => ∃ as, Reads s.heap v b as) us ds
  | _, _, _, .nil, r => by cases r; exact .nil
  | _, _, _, .cons h q, r => by
    cases r with
    | cons r1 r2 => exact .cons (h.reads I r1) (each_reads I q r2)
theorem sort_list {pins : List (Addr × Obj)} {s : Shared} {σ : L2.St} {a : Addr} {vs : List V} {ds zs : List D} {Q : VK} (hu : X.A.units + 66 < cLine) (I : Inv X pins σ H s) (ha : SqL X.K H a vs) (ra : Reps (cn X nm) H A vs ds) (hz : sortD ds = some zs) (hf : ds.length ≤ sizeLine)
    (q : ∀ p us, H p = none → Reps (cn X nm) H A us zs → Q (.ref p) (L2.upd H p (.lst us))) : wpAny (model X.prog X.w) X.A (call (.builtin "sorted") [.ref a]) (EP X pins σ Q) X.xe s := by
  have hz : (if sortable ds then some (isort leD ds) else none) = some zs := hz
  split at hz
  · rename_i hs
    cases hz
    obtain ⟨s1, s2, s3⟩ := sortable_ok hs
    obtain ⟨its, rv, hl, _⟩ := I.list ha
    refine PySem.W.sorted_data (enc := fun d : D => d) hl.isList (each_of ra rv) (each_reads I ra rv) (by rw [List.map_id']; exact s1) (by rw [List.map_id']; exact s2) hf (fun b hb => by have := s3 b hb; omega) fun out ho he => ?_
    rw [← isort_data] at he
    obtain ⟨us, r1, r2⟩ := of_each he
    obtain ⟨ep, hat⟩ := PyProof.Rows.sortedAll_at s.heap its out.toArray
    have hlen : us.length ≤ sizeLine := by rw [r1.length, ho]; exact hf
    exact ⟨.ref _, L2.upd H (s.heap.objs.size + 1) (.lst us), I.laid (t' := s.toks) (fun _ _ => PyProof.Rows.sortedAll_old) (Nat.le_succ _) ⟨hlen, out, ep, r1, hat⟩, rfl, q _ us (I.hok.fresh (Nat.le_succ _)) r2⟩
  · cases hz
theorem cr_sortedM (hu : X.A.units + 66 < cLine) : CallR X (.builtin "sorted") (rC1 (cn X nm) .fresh (fun x => (listD x).bind fun xs => if fits xs.length then (sortD xs).map .list else none)) := by
  refine callR1 fun pins s σ H x u Q A dx z I r hA hx hg q => ?_
  cases dx with
  | list xs =>
    obtain ⟨a, vs, rfl, ha, ra⟩ := hx.lst
    have hg : (if fits xs.length then (sortD xs).map PyData.list else none) = some z := hg
    split at hg
    · rename_i hf
      cases e : sortD xs with
      | none => rw [e] at hg; cases hg
      | some zs =>
        rw [e] at hg
        cases hg
        cases r
        exact sort_list hu I ha ra e (fits_le hf) fun p us hp ru => q _ _ (.one hp) (freshL hp hA ru)
    · cases hg
  | _ => cases hg
/-- an item of what is represented -/
theorem item_rep {vs : List V} {ds : List D} {us : List Value} {i : Nat} {u : Value} (ra : Reps c H A vs ds) (rv : Vals vs us) (hu : us[i]? = some u) : ∃ x d, RelV x u ∧ ds[i]? = some d ∧ Rep c H A x d := by
  have hl := rv.length
  have hi : i < vs.length := by rw [hl]; exact (List.getElem?_eq_some_iff.mp hu).1
  obtain ⟨u', e, r⟩ := rv.get (List.getElem?_eq_getElem hi)
  rw [hu] at e
  cases e
  obtain ⟨d, e2, r2⟩ := ra.getV (List.getElem?_eq_getElem hi)
  exact ⟨_, d, r, e2, r2⟩
theorem fold_mem {f : D → D → Bool} : ∀ (xs : List D) (x : D), xs.foldl (fun a b => if f a b then b else a) x ∈ x :: xs
  | [], x => List.mem_cons_self ..
  | y :: ys, x => by
    show ys.foldl _ (if f x y then y else x) ∈ _
    have := fold_mem (f := f) ys (if f x y then y else x)
    rcases List.mem_cons.mp this with h | h
    · rw [h]
      split
      · exact List.mem_cons_of_mem _ (List.mem_cons_self ..)
      · exact List.mem_cons_self ..
    · exact List.mem_cons_of_mem _ (List.mem_cons_of_mem _ h)
theorem alike_all {ks : List D} (h : sortable ks = true) : PySem.W.AlikeAll ks := by
  obtain ⟨h1, h2, _⟩ := sortable_ok h
  refine ⟨fun x hx y hy => h1 x hx y hy, fun x hx z => ?_⟩
  subst z
  rcases h2 with h2 | h2
  · obtain ⟨_, _, e⟩ := h2 _ hx; cases e
  · exact (h2 _ hx).1 rfl
theorem depth_all : ∀ {ks : List D}, (∀ d ∈ ks, d.depth ≤ 64) → PyData.depthAll ks ≤ 64
  | [], _ => by simp [PyData.depthAll]
  | k :: ks, h => by
    have h1 := h k (List.mem_cons_self ..)
    have h2 := depth_all (ks := ks) fun d hd => h d (List.mem_cons_of_mem _ hd)
    simp only [PyData.depthAll]
    omega
theorem cr_minM (hc : X.calm = true) (hu : X.A.units + 66 < cLine) : CallR X (.builtin "min") (rC1 (cn X nm) .keep (mmD least)) := by
  refine callR1 fun pins s σ H x u Q A dx z I r hA hx hg q => ?_
  have fin : ∀ {vs : List V} {y : D} {ys : List D} {its : List Value}, Reps (cn X nm) H A vs (y :: ys) → Vals vs its → sortable (y :: ys) = true → least (y :: ys) = some z → ∀ (i : Nat) v h' tk bs, its.toArray[i]? = some v → Reads h' v (PySem.W.minD y ys) bs → (∀ b o, s.heap.get? b = some o → h'.get? b = some o) →
      EP X pins σ Q v { s with heap := h', toks := tk } := fun {vs y ys its} ra rv hs hz i v h' tk bs hv hr hk => by
    obtain ⟨xv, d, r1, hd, r2⟩ := item_rep ra rv (i := i) (u := v) (by simpa using hv)
    have hmin : z = PySem.W.minD y ys := by cases hz; rfl
    have hm : PySem.W.minD y ys ∈ y :: ys := fold_mem (f := fun a b => PySem.W.dataLt b a) ys y
    obtain ⟨as, rr⟩ := r2.reads I r1
    have e : d = PySem.W.minD y ys := PySem.W.alike_unique _ _ _ _ _ ((sortable_ok hs).1 d (List.mem_of_getElem? hd) _ hm) (PyProof.Rows.Reads.keeps hk rr) hr
    rw [← e] at hmin
    exact ⟨xv, H, I.kept hk, r1, q _ _ .same (by rw [hmin]; exact r2)⟩
  cases dx with
  | list xs =>
    obtain ⟨a, vs, rfl, ha, ra⟩ := hx.lst
    have hg : (if sortable xs then least xs else none) = some z := hg
    split at hg
    · rename_i hs
      cases xs with
      | nil => cases hg
      | cons y ys =>
        cases r
        obtain ⟨its, rv, hl, _⟩ := I.list ha
        obtain ⟨as, rs⟩ := Reps.reads I ra rv
        exact PySem.W.min_list_data (I.ok.hd hc) hl.isList rs (alike_all hs) (by have := depth_all (sortable_ok hs).2.2; omega) (fin ra rv hs hg)
    · cases hg
  | tuple xs =>
    obtain ⟨a, vs, rfl, ha, ra⟩ := hx.tup
    have hg : (if sortable xs then least xs else none) = some z := hg
    split at hg
    · rename_i hs
      cases xs with
      | nil => cases hg
      | cons y ys =>
        cases r
        obtain ⟨its, rv, hl, _⟩ := I.tuple ha.sq
        obtain ⟨as, rs⟩ := Reps.reads I ra rv
        exact PySem.W.min_tuple_data (I.ok.hd hc) (show s.heap.IsTuple a its.toArray from hl) rs (alike_all hs) (by have := depth_all (sortable_ok hs).2.2; omega) (fin ra rv hs hg)
    · cases hg
  | _ => cases hg
theorem cr_maxM (hc : X.calm = true) (hu : X.A.units + 66 < cLine) : CallR X (.builtin "max") (rC1 (cn X nm) .keep (mmD greatest)) := by
  refine callR1 fun pins s σ H x u Q A dx z I r hA hx hg q => ?_
  have fin : ∀ {vs : List V} {y : D} {ys : List D} {its : List Value}, Reps (cn X nm) H A vs (y :: ys) → Vals vs its → sortable (y :: ys) = true → greatest (y :: ys) = some z → ∀ (i : Nat) v h' tk bs, its.toArray[i]? = some v → Reads h' v (PySem.W.maxD y ys) bs → (∀ b o, s.heap.get? b = some o → h'.get? b = some o) →
      EP X pins σ Q v { s with heap := h', toks := tk } := fun {vs y ys its} ra rv hs hz i v h' tk bs hv hr hk => by
    obtain ⟨xv, d, r1, hd, r2⟩ := item_rep ra rv (i := i) (u := v) (by simpa using hv)
    have hmin : z = PySem.W.maxD y ys := by cases hz; rfl
    have hm : PySem.W.maxD y ys ∈ y :: ys := fold_mem (f := fun a b => PySem.W.dataLt a b) ys y
    obtain ⟨as, rr⟩ := r2.reads I r1
    have e : d = PySem.W.maxD y ys := PySem.W.alike_unique _ _ _ _ _ ((sortable_ok hs).1 d (List.mem_of_getElem? hd) _ hm) (PyProof.Rows.Reads.keeps hk rr) hr
    rw [← e] at hmin
    exact ⟨xv, H, I.kept hk, r1, q _ _ .same (by rw [hmin]; exact r2)⟩
  cases dx with
  | list xs =>
    obtain ⟨a, vs, rfl, ha, ra⟩ := hx.lst
    have hg : (if sortable xs then greatest xs else none) = some z := hg
    split at hg
    · rename_i hs
      cases xs with
      | nil => cases hg
      | cons y ys =>
        cases r
        obtain ⟨its, rv, hl, _⟩ := I.list ha
        obtain ⟨as, rs⟩ := Reps.reads I ra rv
        exact PySem.W.max_list_data (I.ok.hd hc) hl.isList rs (alike_all hs) (by have := depth_all (sortable_ok hs).2.2; omega) (fin ra rv hs hg)
    · cases hg
  | tuple xs =>
    obtain ⟨a, vs, rfl, ha, ra⟩ := hx.tup
    have hg : (if sortable xs then greatest xs else none) = some z := hg
    split at hg
    · rename_i hs
      cases xs with
      | nil => cases hg
      | cons y ys =>
        cases r
        obtain ⟨its, rv, hl, _⟩ := I.tuple ha.sq
        obtain ⟨as, rs⟩ := Reps.reads I ra rv
        exact PySem.W.max_tuple_data (I.ok.hd hc) (show s.heap.IsTuple a its.toArray from hl) rs (alike_all hs) (by have := depth_all (sortable_ok hs).2.2; omega) (fin ra rv hs hg)
    · cases hg
  | _ => cases hg
theorem ok_bit (b : Bi) (hb : b ≠ .lenset) (a : E) (ha : OkE tb F n a) : OkE tb F n (.bit b (.seq a)) := by
  intro sx md ex X hc C
  cases ex with
  | Call fx xs kw pos => cases fx with
    | Name f p =>
      have shape : ∃ x, xs = [x] ∧ kw = [] ∧ (b.on && bltB sx f b.nm && chk sx .peek a x && !starB x && md.le b.mr) = true := by
        cases b <;> first | exact absurd rfl hb | (rcases xs with _ | ⟨x, _ | ⟨_, _⟩⟩ <;> rcases kw with _ | ⟨_, _⟩ <;> first | (cases hc; done) | exact ⟨x, rfl, rfl, hc⟩)
      obtain ⟨x, rfl, rfl, hc2⟩ := shape
      clear hc
      have hc := hc2
      obtain ⟨hc, h5⟩ := band hc
      obtain ⟨hc, h4⟩ := band hc
      obtain ⟨hc, h3⟩ := band hc
      obtain ⟨h1, h2⟩ := band hc
      have pa := pa_cons (ha sx .peek x X h3 C) pa_nil (star_of (bnot h4))
      cases b with
      | tuple =>
        obtain ⟨rfl, hg, hm⟩ := blt_of C h2 (by decide)
        exact ok_c1 (g := bitD .tuple) rfl h5 ha C h3 (bnot h4) (fun env w => rfl) (pe_callTy cr_tuple hg hm (by decide +kernel) pa (by decide) (by decide) (star_of (bnot h4)) rfl)
      | list =>
        obtain ⟨rfl, hg, hm⟩ := blt_of C h2 (by decide)
        exact ok_c1 (g := bitD .list) rfl h5 ha C h3 (bnot h4) (fun env w => rfl) (pe_callTy cr_list hg hm (by decide +kernel) pa (by decide) (by decide) (star_of (bnot h4)) rfl)
      | all =>
        obtain ⟨rfl, hg, hm⟩ := blt_of C h2 (by decide)
        exact ok_c1 (g := bitD .all) rfl h5 ha C h3 (bnot h4) (fun env w => rfl) (pe_callB (cr_allM C.calm) hg hm (by decide +kernel) pa (by decide) (by decide) (star_of (bnot h4)) rfl)
      | any =>
        obtain ⟨rfl, hg, hm⟩ := blt_of C h2 (by decide)
        exact ok_c1 (g := bitD .any) rfl h5 ha C h3 (bnot h4) (fun env w => rfl) (pe_callB (cr_anyM C.calm) hg hm (by decide +kernel) pa (by decide) (by decide) (star_of (bnot h4)) rfl)
      | sum =>
        obtain ⟨rfl, hg, hm⟩ := blt_of C h2 (by decide)
        exact ok_c1 (g := bitD .sum) rfl h5 ha C h3 (bnot h4) (fun env w => rfl) (pe_callB (cr_sumM C.calm) hg hm (by decide +kernel) pa (by decide) (by decide) (star_of (bnot h4)) rfl)
      | sorted =>
        obtain ⟨rfl, hg, hm⟩ := blt_of C h2 (by decide)
        exact ok_c1 (g := bitD .sorted) rfl h5 ha C h3 (bnot h4) (fun env w => rfl) (pe_callB (cr_sortedM C.units) hg hm (by decide +kernel) pa (by decide) (by decide) (star_of (bnot h4)) rfl)
      | min =>
        obtain ⟨rfl, hg, hm⟩ := blt_of C h2 (by decide)
        exact ok_c1 (g := bitD .min) rfl h5 ha C h3 (bnot h4) (fun env w => rfl) (pe_callB (cr_minM C.calm C.units) hg hm (by decide +kernel) pa (by decide) (by decide) (star_of (bnot h4)) rfl)
      | max =>
        obtain ⟨rfl, hg, hm⟩ := blt_of C h2 (by decide)
        exact ok_c1 (g := bitD .max) rfl h5 ha C h3 (bnot h4) (fun env w => rfl) (pe_callB (cr_maxM C.calm C.units) hg hm (by decide +kernel) pa (by decide) (by decide) (star_of (bnot h4)) rfl)
      | _ => cases h1
    | _ => cases b <;> cases hc
  | _ => cases b <;> cases hc
end
end Mx

set_option Elab.async false
set_option linter.all false
set_option maxRecDepth 100000
set_option maxHeartbeats 1000000
/-! Mxn: sorted by a key that a def of the program gives. -/
namespace Mx
open PySem PySem.Spec L2
open PyProof.Rows (seqObj)
section
variable {X : Cx} {pins : List (Addr × Obj)} {σ : L2.St} {H : Hp} {s : Shared} {h' : Heap}
/-- an object that stood untracked becomes tracked -/
theorem inv_grab {t' : Nat} {ch : List Addr} {T : Addr} {ob : HO} (I : Inv X pins σ H s) (k : ∀ b o, b ∉ ch → s.heap.get? b = some o → h'.get? b = some o) (hf : ∀ b ∈ ch, FpOk X pins H b) (hT : T ∈ ch)
    (new : ObjOk X.prog X.w (L2.upd H T ob) h' T ob) : Inv X pins σ (L2.upd H T ob) { s with heap := h', toks := t' } := by
  have hn : H T = none := (hf T hT).1
  have nit : ∀ b u, H b = some u → b ∉ ch := fun b u e z => by
    have q := (hf b z).1
    rw [q] at e; cases e
  refine I.step (g' := s.gens) (d' := s.drawn) (ch := ch) (fun b hb => ⟨(hf b hb).2.2.2.1, (hf b hb).2.1, (hf b hb).2.2.2.2.1, (hf b hb).2.2.2.2.2⟩) (fun b o _ _ hc e _ => k b o hc e) (fun b o _ _ hc e _ => ⟨o.slots, k b o hc e⟩)
    (fun b o hc e n => ?_) (fun b o hc e => ⟨o, k b o hc e⟩) (fun b xs e => ?_) (fun b o u e => ?_) (fun b ps e => ⟨#[], ?_⟩) (fun m hm => ?_) (fun b u e => ?_) I.bare
  · rw [upd_ne (fun z => hc (by rw [z]; exact hT))]; exact n
  · rw [upd_ne (ne_of_none e hn)]; exact e
  · rw [upd_ne (ne_of_none e hn)]; exact e
  · rw [upd_ne (ne_of_none e hn), e]; simp
  · obtain ⟨o, es, ep, ho, r⟩ := hm
    exact ⟨o, es, ep, k _ o (fun z => (hf _ z).2.1 rfl) ho, r⟩
  · by_cases hb : b = T
    · subst hb
      rw [upd_same] at e
      cases e
      exact new
    · rw [upd_ne hb] at e
      refine (I.hok b u e).stay (fun c v hc q => k c v ?_ q) (fun c q => by rw [upd_ne (ne_of_none q hn)]; exact q) fun c xs q => by rw [upd_ne (ne_of_none q hn)]; exact q
      rcases hc with z | z
      · rw [z]; exact nit b u e
      · exact nit c _ z
theorem fpOk_less {b : Addr} {pins' : List (Addr × Obj)} {H' : Hp} (f : FpOk X pins H b) (hp : ∀ p ∈ pins', p ∈ pins ∨ p.1 ≠ b) (hn : H' b = none) : FpOk X pins' H' b :=
  ⟨hn, f.2.1, f.2.2.1, f.2.2.2.1, f.2.2.2.2.1, fun p hp' => by
    rcases List.mem_append.mp hp' with z | z
    · exact f.2.2.2.2.2 p (List.mem_append_left _ z)
    · rcases hp p z with z | z
      · exact f.2.2.2.2.2 p (List.mem_append_right _ z)
      · exact z⟩
theorem inv_pin {b : Addr} {o : Obj} (I : Inv X pins σ H s) (f : FpOk X pins H b) (ho : s.heap.get? b = some o) (hd : ∀ v, o.data ≠ .cell v) : Inv X ((b, o) :: pins) σ H s :=
  I.pins_of fun p hp => by
    rcases List.mem_cons.mp hp with rfl | hp
    · exact ⟨ho, f.1, f.2.1, f.2.2.1, hd⟩
    · exact I.pin p (List.mem_append_right _ hp)
theorem inv_unpin {b : Addr × Obj} (I : Inv X (b :: pins) σ H s) : Inv X pins σ H s := I.pins_of fun p hp => I.pin p (List.mem_append_right _ (List.mem_cons_of_mem _ hp))
/-- a heap without the object at b -/
theorem without (h : Heap) (b : Addr) : ∃ g : Heap, g.get? b = none ∧ ∀ c o, g.get? c = some o → h.get? c = some o ∧ c ≠ b ∨ False := by
  refine ⟨h.update b (fun o => { o with data := .freed }), ?_, fun c o e => ?_⟩
  · unfold Heap.get? Heap.update
    simp only [Array.getElem?_modify, if_true]
    cases h.objs[b]? <;> rfl
  · by_cases hc : c = b
    · subst hc
      unfold Heap.get? Heap.update at e
      simp only [Array.getElem?_modify, if_true] at e
      cases q : h.objs[c]? with
      | none => rw [q] at e; cases e
      | some o' => rw [q] at e; cases e
    · exact .inl ⟨by rw [← Heap.get?_update_other h (fun o => { o with data := .freed }) (Ne.symm hc)]; exact e, hc⟩
theorem without_of (h : Heap) (b : Addr) : ∃ g : Heap, g.get? b = none ∧ (∀ c o, g.get? c = some o → h.get? c = some o) ∧ ∀ c o, c ≠ b → h.get? c = some o → g.get? c = some o := by
  refine ⟨h.update b (fun o => { o with data := .freed }), ?_, fun c o e => ?_, fun c o hc e => (Heap.get?_update_other h (fun o => { o with data := .freed }) (Ne.symm hc)).trans e⟩
  · unfold Heap.get? Heap.update
    simp only [Array.getElem?_modify, if_true]
    cases h.objs[b]? <;> rfl
  · by_cases hc : c = b
    · subst hc
      unfold Heap.get? Heap.update at e
      simp only [Array.getElem?_modify, if_true] at e
      cases q : h.objs[c]? with
      | none => rw [q] at e; cases e
      | some o' => rw [q] at e; cases e
    · rw [← Heap.get?_update_other h (fun o => { o with data := .freed }) (Ne.symm hc)]; exact e
/-- the keys' loop and the sort; G: what is known after the i-th key -/
theorem key_body {A2 : Around} {nm : Nat → Str} {a : Addr} {n : Nat} {f : Value} {vs : List Value} {P : PySem.Fin → Shared → Prop} {E : Value → Shared → Prop} (I : Inv X pins σ H s) (fa : FpOk X pins H a) (ho : s.heap.get? a = some (seqObj "list" vs.toArray n)) (hZ : vs.length ≤ sizeLine) (hu : A2.units + 64 < cLine)
    (G : Nat → Hp → List V → Prop) (g0 : G 0 H [])
    (step : ∀ (i : Nat) (u : Value) (pins' : List (Addr × Obj)) (s' : Shared) (H' : Hp) (ks : List V), vs[i]? = some u → Inv X pins' σ H' s' → G i H' ks → wpAny (model X.prog X.w) A2 (call f [u]) (EP X pins' σ fun k H'' => G (i + 1) H'' (ks ++ [k])) (fun _ _ => False) s')
    (fin : ∀ (H' : Hp) (ks : List V), G vs.length H' ks → ∃ (A : Addr → Prop) (kz : List (D × D)), Reps (cn X nm) H' A ks (kz.map (·.1)) ∧ sortable (kz.map (·.1)) = true ∧ PySem.W.EachIs (fun u p => RV (cn X nm) H' A u p.2) vs kz ∧
      ∀ us s', Reps (cn X nm) H' A us (sortBy kz) → H' a = none → Inv X pins σ (L2.upd H' a (.lst us)) s' → P (.done (.ret .none)) s') : wpAny (model X.prog X.w) A2 (PyProof.Rows.ksk_tree a f false) P E s := by
  have ha : a < s.heap.objs.size := Heap.lt_size ho
  obtain ⟨e1, ho1⟩ : ∃ e1, (s.heap.update a (Obj.mapSeq fun _ => (#[] : Array Value))).get? a = some (seqObj "list" #[] e1) := ⟨_, PyProof.Rows.get?_update_seq ho fun _ => #[]⟩
  unfold PyProof.Rows.ksk_tree
  refine wpAny_bind (PyProof.Rows.listItems_at ho rfl ?_)
  refine wpAny_bind (PyProof.Rows.listUpdate_at ho rfl ?_ (by rw [List.size_toArray]; exact hZ) (Nat.zero_le _))
  refine wpAny_bind (PyProof.Rows.seqEpoch_at ho1 rfl ?_)
  refine wpAny_bind (wpAny_newTuple ?_ (by show vs.length ≤ _; exact hZ))
  refine wpAny_bind (wpAny_newList ?_ (Nat.zero_le _))
  refine wpAny_holding ?_
  have s1 := Heap.SameBut.update s.heap a (Obj.mapSeq fun _ => (#[] : Array Value))
  have I1 : Inv X pins σ H { s with heap := s.heap.update a (Obj.mapSeq fun _ => (#[] : Array Value)) } := I.turned (t' := s.toks) (fun b o hb e => (s1.2 b hb).trans e) fa.1 fa.2.1 fa.2.2.2.1 fa.2.2.2.2.1 fa.2.2.2.2.2
  have I2 : Inv X pins σ H { s with heap := (s.heap.update a (Obj.mapSeq fun _ => (#[] : Array Value))).push (seqObj "tuple" vs.toArray 0) } := I1.kept (t' := s.toks) fun b u e => Heap.get?_push_of_some _ e
  generalize hs2 : ({ s with heap := (s.heap.update a (Obj.mapSeq fun _ => (#[] : Array Value))).push (seqObj "tuple" vs.toArray 0) } : Shared) = s2 at I2
  have hp2 : (s.heap.update a (Obj.mapSeq fun _ => (#[] : Array Value))).push (seqObj "tuple" vs.toArray 0) = s2.heap := by rw [← hs2]
  have ho2 : s2.heap.get? a = some (seqObj "list" #[] e1) := by rw [← hp2]; exact Heap.get?_push_of_some _ ho1
  show wpAny (model X.prog X.w) A2 (PyProof.Rows.ksk_rest a f false vs.toArray e1 (.ref s2.heap.objs.size)) P E { s2 with heap := s2.heap.push (seqObj "list" #[] 0) }
  generalize hkS : s2.heap.objs.size = kS
  have fk : FpOk X pins H kS := I2.fpOk (Nat.le_of_eq hkS) (I2.hok.fresh (Nat.le_of_eq hkS))
  have I3 : Inv X pins σ H { s2 with heap := s2.heap.push (seqObj "list" #[] 0) } := I2.kept (t' := s2.toks) fun b u e => Heap.get?_push_of_some _ e
  have hk3 : (s2.heap.push (seqObj "list" #[] 0)).get? kS = some (seqObj "list" #[] 0) := by rw [← hkS]; exact Heap.get?_push_size _ rfl
  have ha3 : (s2.heap.push (seqObj "list" #[] 0)).get? a = some (seqObj "list" #[] e1) := Heap.get?_push_of_some _ ho2
  have hka : kS ≠ a := by
    have h2 : a < s2.heap.objs.size := Heap.lt_size ho2
    rw [hkS] at h2
    exact fun z => Nat.lt_irrefl a (by rw [z] at h2; exact h2)
  have I4 : Inv X ((kS, seqObj "list" #[] 0) :: (a, seqObj "list" #[] e1) :: pins) σ H { s2 with heap := s2.heap.push (seqObj "list" #[] 0) } :=
    inv_pin (inv_pin I3 fa ha3 (fun v z => nomatch z)) (fpOk_less fk (fun p hp => by
      rcases List.mem_cons.mp hp with rfl | hp
      · exact .inr (Ne.symm hka)
      · exact .inl hp) fk.1) hk3 (fun v z => nomatch z)
  unfold PyProof.Rows.ksk_rest
  refine wpAny_bind (wpAny_rule ?_)
  first
    | rw [List.forIn_toArray]
    | (rw [← Array.forIn_toList]; simp only [List.toList_toArray])
    | rw [← Array.forIn_toList]
  refine wpAny_bind (PyProof.Rows.ksk_fold (fun i s' => ∃ H' ks kA e, Inv X ((kS, seqObj "list" kA e) :: (a, seqObj "list" #[] e1) :: pins) σ H' s' ∧ Vals ks kA.toList ∧ ks.length = i ∧ i ≤ vs.length ∧ G i H' ks) vs 0 _
    ⟨H, [], #[], 0, I4, .nil, rfl, Nat.zero_le _, g0⟩ ?step ?done)
  case step =>
    rintro j x s' hx ⟨H', ks, kA, e, I', rk, hl, _, g⟩
    simp only [Nat.zero_add] at hl g ⊢
    have hj : j < vs.length := (List.getElem?_eq_some_iff.mp hx).1
    refine wpAny_bind (wpAny_attempt (wpAny_mono (step j x _ s' H' ks hx I' g) (fun v s'' he => ?_) fun _ _ hF => hF.elim))
    obtain ⟨k, H2, I2', rv, g2⟩ := he
    try dsimp only
    have pk := I2'.pin (kS, seqObj "list" kA e) (List.mem_append_right _ (List.mem_cons_self ..))
    have pa := I2'.pin (a, seqObj "list" #[] e1) (List.mem_append_right _ (List.mem_cons_of_mem _ (List.mem_cons_self ..)))
    have hks : kA.size = j := by rw [← hl, rk.length]; simp
    have s1 := Heap.SameBut.update s''.heap kS (Obj.mapSeq (·.push v))
    obtain ⟨c2, hc2⟩ : ∃ c2, (s''.heap.update kS (Obj.mapSeq (·.push v))).get? kS = some (seqObj "list" (kA.push v) c2) := ⟨_, PyProof.Rows.get?_update_seq pk.1 (·.push v)⟩
    refine wpAny_bind (PyProof.Rows.listUpdate_at pk.1 rfl ?_ (by omega) (by rw [Array.size_push]; omega))
    have Iu := inv_unpin I2'
    have f2 : FpOk X ((a, seqObj "list" #[] e1) :: pins) H2 kS := fpOk_less fk (fun p hp => by
      rcases List.mem_cons.mp hp with rfl | hp
      · exact .inr (Ne.symm hka)
      · exact .inl hp) pk.2.1
    have It : Inv X ((a, seqObj "list" #[] e1) :: pins) σ H2 { s'' with heap := s''.heap.update kS (Obj.mapSeq (·.push v)) } :=
      Iu.turned (t' := s''.toks) (fun b o hb e => (s1.2 b hb).trans e) f2.1 f2.2.1 f2.2.2.2.1 f2.2.2.2.2.1 f2.2.2.2.2.2
    refine wpAny_pure ⟨rfl, H2, ks ++ [k], kA.push v, c2, inv_pin It f2 hc2 (fun v z => nomatch z), ?_, by rw [List.length_append, hl]; rfl, hj, g2⟩
    rw [Array.toList_push]
    exact rk.append (.cons rv .nil)
  case done =>
    rintro s' ⟨H', ks, kA, e, I', rk, hl, _, g⟩
    simp only [Nat.zero_add] at hl g
    have pk := I'.pin (kS, seqObj "list" kA e) (List.mem_append_right _ (List.mem_cons_self ..))
    have pa := I'.pin (a, seqObj "list" #[] e1) (List.mem_append_right _ (List.mem_cons_of_mem _ (List.mem_cons_self ..)))
    obtain ⟨A, kz, r1, hsr, ev, q⟩ := fin H' ks g
    obtain ⟨t1, t2, t3⟩ := sortable_ok hsr
    have hk' : PySem.W.EachIs (fun v k => ∃ as, Reads s'.heap v k as) kA.toList (kz.map (·.1)) := each_reads I' r1 rk
    have hsz : kA.size = vs.length := by rw [← hl, rk.length]; simp
    obtain ⟨g1, gn, gs, gk⟩ := without_of s'.heap kS
    try dsimp only
    refine wpAny_bind (PyProof.Rows.listItems_at pk.1 rfl ?_)
    refine PySem.W.keyH_end (κ := PySem.W.dataKind s'.heap (kz.map (·.1))) (h₁ := g1) (fun b o _ e => gs b o e) gn pk.1 pa.1 hka (PySem.W.SortsAt.data (s := s') hk' t1 t2 (fun d hd => by have := t3 d hd; omega)) hsz hZ fun h3 tk3 c k3 n3 => ?_
    have ko : PySem.W.KeyedOut false (kz.map (·.1)) vs (PySem.W.sortVals (PySem.W.dataKind s'.heap (kz.map (·.1))) false kA.toList vs) := ⟨s'.heap, kA.toList, t1, rfl, hk'⟩
    have eo := PySem.W.keyedOut_each (k := fun p : D × D => p.1) ko ev
    have es : kz.mergeSort (PySem.W.dataLe false fun p : D × D => p.1) = isort (fun a b => leD a.1 b.1) kz := by
      rw [isort_merge (fun a b c h1 h2 => leD_tr a.1 b.1 c.1 h1 h2) (fun a b => leD_tt a.1 b.1)]
      congr 1
    rw [es] at eo
    have eo2 : PySem.W.EachIs (RV (cn X nm) H' A) (PySem.W.sortVals (PySem.W.dataKind s'.heap (kz.map (·.1))) false kA.toList vs) (sortBy kz) := PySem.W.each_map (R := fun u d => RV (cn X nm) H' A u d) (fun p : D × D => p.2) eo
    obtain ⟨us, u1, u2⟩ := of_each eo2
    have hlen : us.length ≤ sizeLine := by
      rw [u1.length, PySem.W.sortVals_length false (by rw [Array.length_toList]; exact hsz)]
      exact hZ
    have Iq := inv_unpin (inv_unpin I')
    have fk2 : FpOk X pins H' kS := fpOk_less fk (fun p hp => .inl hp) pk.2.1
    have fa2 : FpOk X pins H' a := fpOk_less fa (fun p hp => .inl hp) pa.2.1
    refine q us _ u2 pa.2.1 (inv_grab (ch := [a, kS]) (t' := tk3) Iq (fun b o hb e => ?_) (fun b hb => ?_) (List.mem_cons_self ..) ⟨hlen, _, c, u1, n3⟩)
    · have hb' : b ≠ a ∧ b ≠ kS := by simpa using hb
      exact k3 b o hb'.1 (gk b o hb'.2 e)
    · rcases List.mem_cons.mp hb with rfl | hb
      · exact fa2
      · rw [List.mem_singleton.mp hb]; exact fk2
end
end Mx

set_option Elab.async false
set_option linter.all false
set_option maxRecDepth 100000
set_option maxHeartbeats 1000000
/-! Mxo: what is collected; sorted(.., key=f). -/
namespace Mx
open PySem PySem.Spec L2
open PyProof.Rows (seqObj)
/-- a keys view of the dict at d -/
def dView (p d : Addr) : HO := .ext fun h => PySem.W.KdlKeysView h p d
section
variable {tb : Tbl} {F n : Nat} {sx : Sx} {X : Cx} {md : Mode} {c : Cn} {cf : Cfg} {mo : Nat → Bool} {own : Ow} {Xv : Addr → Prop} {m m' : List Addr} {H H' : Hp} {σ : L2.St} {w w' : Wd} {A : Addr → Prop} {nm : Nat → Str} {pins : List (Addr × Obj)} {s : Shared}
/-- collect gives the items -/
def Coll (X : Cx) (nm : Nat → Str) (H : Hp) (A : Addr → Prop) (s : Shared) (u : Value) (ds : List D) : Prop := ∀ (A2 : Around) (Q : List Value → Shared → Prop) (E : Value → Shared → Prop), A2.handled = none →
  (∀ h' tk vs, (∀ b o, s.heap.get? b = some o → h'.get? b = some o) → PySem.W.EachIs (RV (cn X nm) H A) vs ds → Q vs { s with heap := h', toks := tk }) → wpAny (model X.prog X.w) A2 (collect u) Q E s
theorem coll_seq {u : Value} {x : V} {dx : D} {ds : List D} (I : Inv X pins σ H s) (r : RelV x u) (h : RepB (cn X nm) H A [] x dx) (hd : seqD dx = some ds) (hz : ds.length ≤ sizeLine) : Coll X nm H A s u ds := by
  intro A2 Q E hh q
  cases dx with
  | list xs =>
    cases hd
    obtain ⟨a, vs, rfl, ha, ra⟩ := h.lst
    cases r
    obtain ⟨its, rv, p, _⟩ := I.list ha
    obtain ⟨o, ho, hc, n, hd⟩ := p.isList
    exact wpAny_collect_seq a (.inl rfl) ho hc hd (fun h' k => q h' s.toks its k (each_of ra rv)) (by rw [List.size_toArray, ← rv.length, ra.length]; exact hz)
  | tuple xs =>
    cases hd
    obtain ⟨a, vs, rfl, ha, ra⟩ := h.tup
    cases r
    obtain ⟨its, rv, p, _⟩ := I.tuple ha.sq
    obtain ⟨o, ho, hc, n, hd⟩ := p
    exact wpAny_collect_seq a (.inr rfl) ho hc hd (fun h' k => q h' s.toks its k (each_of ra rv)) (by rw [List.size_toArray, ← rv.length, ra.length]; exact hz)
  | dict kvs =>
    cases hd
    obtain ⟨a, L, ep, rfl, h1, h2, h3⟩ := h.dct
    cases r
    obtain ⟨es, hr, rfl, hs⟩ := dRaw_at I h1
    refine PySem.W.kdu_collect (PySem.KdlSrc.rawDict (Inv.raw I h1).1) hh hr (by rw [hs, h3.length]; simpa using hz) fun h' tk acc k it => q h' tk acc.toList k ?_
    exact keys_each h3 (by simpa using it.1.trans hs) fun j v hv => by
      obtain ⟨hi, e⟩ := it.2 j v (by simpa using hv)
      exact ⟨es[j], by simp [hi], e⟩
  | _ => cases hd
where
  keys_each {es : List DictEntry} {kvs : List (D × D)} {vs : List Value} (h : Ents (cn X nm) H A es kvs) (hl : vs.length = es.length) (hv : ∀ (j : Nat) v, vs[j]? = some v → ∃ e, es[j]? = some e ∧ v = e.key) : PySem.W.EachIs (RV (cn X nm) H A) vs (kvs.map (·.1)) := by
    induction es generalizing kvs vs with
    | nil =>
      cases h
      cases vs with
      | nil => exact .nil
      | cons _ _ => cases hl
    | cons e es ih =>
      cases h with
      | tk g1 g2 g3 g4 r =>
        cases vs with
        | nil => cases hl
        | cons v vs =>
          refine .cons ?_ (ih r (by simpa using hl) fun j v hv' => by
            obtain ⟨e', h1, h2⟩ := hv (j + 1) v hv'
            exact ⟨e', h1, h2⟩)
          obtain ⟨e', h1, h2⟩ := hv 0 v rfl
          cases h1
          exact ⟨.ref _, by rw [h2]; rfl, g1⟩
theorem coll_keys {u : Value} {p d : Addr} {kvs : List (D × D)} (I : Inv X pins σ H s) (r : RelV (.ref p) u) (hp : H p = some (dView p d)) (h : RepB (cn X nm) H A [] (.ref d) (.dict kvs)) (hz : kvs.length ≤ sizeLine) : Coll X nm H A s u (kvs.map (·.1)) := by
  intro A2 Q E hh q
  cases r
  obtain ⟨a, L, ep, e, h1, h2, h3⟩ := h.dct
  cases e
  obtain ⟨es, hr, rfl, hs⟩ := dRaw_at I h1
  have hv : PySem.W.KdlKeysView s.heap p d := (I.hok p _ hp).1
  refine PySem.W.kdu_collect (PySem.KdlSrc.rawKeys) hh ⟨hv, hr⟩ (by rw [hs, h3.length]; exact hz) fun h' tk acc k it => q h' tk acc.toList k ?_
  exact coll_seq.keys_each h3 (by simpa using it.1.trans hs) fun j v hv => by
    obtain ⟨hi, e⟩ := it.2 j v (by simpa using hv)
    exact ⟨es[j], by simp [hi], e⟩
/-- sorted(x, ..): the items collected, a new list, its sort -/
theorem sorted_any {u : Value} {kw : List (Str × Value)} {ds : List D} {Q : VK} (I : Inv X pins σ H s) (hh : X.A.handled = none) (hc : Coll X nm H A s u ds) (hz : ds.length ≤ sizeLine) (ha1 : argsOk "sorted" ⟨[u], kw⟩) (ha2 : ∀ x, argsOk "list.sort" ⟨[.ref x], kw⟩)
    (body : ∀ (s2 : Shared) (a : Addr) (vs : List Value) (E' : Value → Shared → Prop), Inv X pins σ H s2 → FpOk X pins H a → s2.heap.get? a = some (seqObj "list" vs.toArray 0) → PySem.W.EachIs (RV (cn X nm) H A) vs ds →
      wpAny (model X.prog X.w) X.A.in1.in1 (Builtin.«list.sort» ⟨[.ref a], kw⟩) (fun f s' => f = .done (.ret .none) ∧ EP X pins σ Q (.ref a) s') E' s2) :
    wpAny (model X.prog X.w) X.A (call (.builtin "sorted") [u] kw) (EP X pins σ Q) X.xe s := by
  refine PyProof.Rows.call_function_entry_kw PyProof.Rows.kind_sorted PyProof.Rows.plain_sorted PyProof.Rows.entry_sorted ha1 ?_
  unfold Builtin.«sorted»
  refine wpAny_bind (m := checkCount "sorted" 1 1 _) (wpAny_pure ?_)
  refine wpAny_bind (hc _ _ _ hh fun h' tk vs k ev => ?_)
  have hvl : vs.length ≤ sizeLine := by rw [ev.length]; exact hz
  refine wpAny_bind (wpAny_newList ?_ hvl)
  have I1 : Inv X pins σ H { s with heap := h', toks := tk } := I.kept k
  have fa : FpOk X pins H h'.objs.size := I1.fpOk (Nat.le_refl _) (I1.hok.fresh (Nat.le_refl _))
  have I2 : Inv X pins σ H { s with heap := h'.push (seqObj "list" vs.toArray 0), toks := tk } := I1.kept (t' := tk) fun b o e => Heap.get?_push_of_some _ e
  have hat : (h'.push (seqObj "list" vs.toArray 0)).get? h'.objs.size = some (seqObj "list" vs.toArray 0) := Heap.get?_push_size _ rfl
  refine wpAny_bind (wpAny_holding (PyProof.Rows.wpAny_call_entry_kw PyProof.Rows.slot_list_sort ⟨_, hat, rfl⟩ PyProof.Rows.entry_list_sort ?body (ha2 _)))
  case body =>
    show wpAny (model X.prog X.w) X.A.in1.in1 (Builtin.«list.sort» ⟨[.ref h'.objs.size], kw⟩) _ _ _
    refine wpAny_mono (body _ h'.objs.size vs _ I2 fa hat ev) (fun f s' hf => ?_) fun _ _ e => e
    obtain ⟨rfl, hq⟩ := hf
    exact ⟨_, rfl, wpAny_pure ⟨_, rfl, hq⟩⟩
end
end Mx

set_option Elab.async false
set_option linter.all false
set_option maxRecDepth 100000
set_option maxHeartbeats 1000000
/-! Mxp: sorted(.., key=f), the rule. -/
namespace Mx
open PySem PySem.Spec L2
open PyProof.Rows (seqObj)
section
variable {tb : Tbl} {F n : Nat} {sx : Sx} {X : Cx} {md : Mode} {c : Cn} {cf : Cfg} {mo : Nat → Bool} {own : Ow} {Xv : Addr → Prop} {m m' : List Addr} {H H' : Hp} {σ : L2.St} {w w' : Wd} {A : Addr → Prop} {nm : Nat → Str} {pins : List (Addr × Obj)} {s : Shared}
theorem meets_keys_raw {prog : Program} {w : World} (d : Addr) (hd : (d == sysModules) = false) :
    MeetsIn prog w (Builtin.«dict.keys» ⟨[.ref d], []⟩) (fun _ R s => s.TypeIs (.ref d) "dict" ∧
      R (.ok (.ret (.ref s.heap.objs.size))) { s with heap := s.heap.push { cls := .type "dict_keys", data := .fields #[.ref d] } }) :=
  .of_wp fun A R s ⟨hm, h⟩ => by
    refine wpAny_bind ?_
    unfold Builtin.Dict.noArgs
    refine wpAny_bind (wpAny_notOrdered_dict hm ?_)
    show wpAny _ _ (pure d) _ _ s
    refine wpAny_pure ?_
    show wpAny _ _ (Builtin.Dict.showsAll d >>= _) _ _ s
    unfold Builtin.Dict.showsAll
    rw [if_neg (by rw [hd]; exact Bool.false_ne_true)]
    refine wpAny_bind (wpAny_pure ?_)
    exact wpAny_bind (wpAny_newObj_type (wpAny_pure ⟨_, rfl, h⟩))
def tKeysV (te : TE) : TE := fun σ H Q => te σ H fun x H1 => ∃ d L ep, x = .ref d ∧ H1 d = some (dRaw d L ep) ∧ ∀ p, H1 p = none → Q (.ref p) (L2.upd H1 p (dView p d))
theorem pe_keysV {e : Expr} {te : TE} {apos cpos : Pos} (he : PE X e te) (hbase : attributeBase e "keys" X.env (eval e X.env) = eval e X.env) (hline : (apos.endLine == cpos.line) = true) : PE X (.Call (.Attribute e "keys" apos) [] [] cpos) (tKeysV te) := by
  refine ⟨fun pins s σ H Q I h => ?_⟩
  refine wpAny_Call_method (T := "dict") (id := "dict.keys") hbase rfl hline PySem.F.plainAttrs_dict PySem.F.slot_dict_keys PySem.F.type_dict_keys (thn (he.run pins s σ H _ I h) fun u s1 ⟨x, H1, I1, rx, d, L, ep, ex, hd, q⟩ => ?_)
  subst ex
  obtain rfl : u = Value.ref d := rx
  obtain ⟨hs, _, o, es, ho, hx, _, _⟩ := Inv.raw I1 hd
  have hT : s1.TypeIs (.ref d) "dict" := ⟨o, ho, hx.1⟩
  refine ⟨hT, fun a e => by cases e; exact ⟨o, ho, hx.2.1⟩, ?_⟩
  refine method_meetsIn PySem.F.slot_dict_keys PySem.F.entry_dict_keys rfl (PySem.evalArgs_none ⟨rfl, hT, PySem.F.args_dict_keys_1 _, _, meets_keys_raw d hs, hT, ?_⟩)
  refine ⟨.ref s1.heap.objs.size, _, I1.laid (t' := s1.toks) (o := dView s1.heap.objs.size d) (fun b o e => Heap.get?_push_of_some _ e) (Nat.le_refl _) ⟨⟨_, Heap.get?_push_size _ rfl, rfl, rfl⟩, ⟨_, Heap.get?_push_size _ rfl⟩, ?_⟩, rfl, q _ (I1.hok.fresh (Nat.le_refl _))⟩
  rintro h1 h2 ⟨o1, e1, e2, e3⟩ k
  exact ⟨o1, k o1 e1, e2, e3⟩
/-! ### the deeper context -/
def deep (X : Cx) : Cx := { X with A := X.A.in1.in1, xe := fun _ _ => False }
theorem inv_deep (I : Inv X pins σ H s) : Inv (deep X) pins σ H s :=
  ⟨⟨I.ok.mod, I.ok.kind, I.ok.glob, I.ok.blt, I.ok.above, I.ok.inj, I.ok.has, I.ok.cab, I.ok.hd, I.ok.frames, I.ok.stk, I.ok.exf, I.ok.bs, I.ok.bsz, I.ok.noex, I.ok.exfs, I.ok.funs, I.ok.frf⟩, I.os, I.bare, I.base, I.loc, I.cell, I.free, I.freeC, I.pin, I.hok, I.len⟩
theorem inv_up (I : Inv (deep X) pins σ H s) (J : X.Ok) : Inv X pins σ H s := ⟨J, I.os, I.bare, I.base, I.loc, I.cell, I.free, I.freeC, I.pin, I.hok, I.len⟩
/-- what sorted(x, key=f) gives -/
def rSrtK (c : Cn) (tb : Tbl) (F n f : Nat) (fa : Addr) (Src : V → Hp → (Addr → Prop) → List D → Prop) : List V → List V → Hp → VK → Prop := fun vs zs H Q => match vs, zs with
  | [x], [y] => y = .ref fa ∧ ∃ (Xw : Addr → Prop) (m : List Addr) (w : Wd) (ds : List D), WOk c [] Xw m H w ∧ (∀ b, Xw b → ∃ o, H b = some o) ∧ Src x H (Av [] Xw m) ds ∧ ds.length ≤ sizeLine ∧
    (keyL (fun x w => callN tb F n f [.d x] w) ds w).sat fun ks w' => sortable (ks.map (·.1)) = true ∧ ∀ a m' H' us, Fr c.K m m' H H' → WOk c [] Xw m' H' w' → H' a = none → Reps c H' (Av [] Xw m') us (sortBy ks) → Q (.ref a) (L2.upd H' a (.lst us))
  | _, _ => False
theorem keyL_cons (call : D → Wd → Res Vl) (x : D) (xs : List D) (w : Wd) : keyL call (x :: xs) w = (call x w).bind fun k w => match k with
    | .d k => (keyL call xs w).bind fun r w => .ok ((k, x) :: r) w
    | _ => .stuck := rfl
theorem each_get {α β : Type} {R : α → β → Prop} {vs : List α} {ds : List β} (h : PySem.W.EachIs R vs ds) {i : Nat} {v : α} (e : vs[i]? = some v) : ∃ d, ds[i]? = some d ∧ R v d := by
  induction h generalizing i with
  | nil => simp at e
  | cons r _ ih =>
    cases i with
    | zero => simp at e; subst e; exact ⟨_, rfl, r⟩
    | succ i => exact ih (by simpa using e)
theorem cr_srtK {f : Nat} {fa : Addr} {fd : FuncData} {ps : List Str} {Src : V → Hp → (Addr → Prop) → List D → Prop} (hr : Room (2 * n + 1) X.A) (hb : Binds X.K fd ps []) (FO : FnOk X.prog X.w X.K X.mg X.base (L2.CX X.prog X.w) (2 * n) fa fd ps (spF (cn X nm) tb F n f))
    (hS : ∀ pins s σ H x u A ds, Inv X pins σ H s → RelV x u → Src x H A ds → ds.length ≤ sizeLine → Coll X nm H A s u ds) : CallRK X (.builtin "sorted") ["key"] (rSrtK (cn X nm) tb F n f fa Src) := by
  intro pins s σ H xs zs us ws Q I rv rw' h
  rcases xs with _ | ⟨x, _ | ⟨_, _⟩⟩
  · exact h.elim
  · rcases zs with _ | ⟨y, _ | ⟨_, _⟩⟩
    · exact h.elim
    · obtain ⟨rfl, Xw, m, w, ds, W, hX, hsrc, hz, hk⟩ := h
      obtain ⟨u, rfl, ru⟩ := vals1 rv
      obtain ⟨u2, rfl, ru2⟩ := vals1 rw'
      cases ru2
      show wpAny _ _ (call (.builtin "sorted") [u] [(Str.ofString "key", .ref fa)]) _ _ _
      refine sorted_any I hr.hd (hS pins s σ H x u _ ds I ru hsrc hz) hz (PyProof.Rows.ksk_s1 _ _) (fun x => PyProof.Rows.ksk_l1 _ _) fun s2 a vs E' I2 fpa hat ev => ?_
      rw [PyProof.Rows.ksk_t1]
      let call : D → Wd → Res Vl := fun x w => callN tb F n f [.d x] w
      have hvl : vs.length = ds.length := ev.length
      refine key_body (nm := nm) I2 fpa hat (by rw [hvl]; exact hz) (by have := hr.un; show X.A.units + 1 + 1 + 64 < cLine; omega)
        (fun i H' ks => ∃ m' w' kz, Fr X.K m m' H H' ∧ WOk (cn X nm) [] Xw m' H' w' ∧ kz.map (·.2) = ds.take i ∧ Reps (cn X nm) H' (Av [] Xw m') ks (kz.map (·.1)) ∧
          (keyL call (ds.drop i) w').sat fun r w'' => sortable ((kz ++ r).map (·.1)) = true ∧ ∀ a m' H' us, Fr X.K m m' H H' → WOk (cn X nm) [] Xw m' H' w'' → H' a = none → Reps (cn X nm) H' (Av [] Xw m') us (sortBy (kz ++ r)) → Q (.ref a) (L2.upd H' a (.lst us)))
        ⟨m, w, [], Fr.refl, W, by rw [List.take_zero]; rfl, .nil, by rw [List.drop_zero]; exact hk⟩ ?step ?fin
      case step =>
        rintro i u3 pins' s' H' ks hu I' ⟨m', w', kz, f', W', hk1, hk2, hk3⟩
        obtain ⟨d, hd, xv, r1, r2⟩ := each_get ev hu
        have r2' : Rep (cn X nm) H' (Av [] Xw m') xv d := r2.keep f'.kp'
        rw [drop_get hd, keyL_cons, sat_bind] at hk3
        have hX' : ∀ b, Xw b → ∃ o, H' b = some o := fun b hb => by
          obtain ⟨o, e⟩ := hX b hb
          exact ⟨o, f'.ext b o e fun z => (W.dis b z).2 hb⟩
        have go : wpAny (model X.prog X.w) X.A.in1.in1 (PySem.call (.ref fa) [u3]) (EP (deep X) pins' σ fun k H'' => ∃ m'' w'' kz', Fr X.K m m'' H H'' ∧ WOk (cn X nm) [] Xw m'' H'' w'' ∧ kz'.map (·.2) = ds.take (i + 1) ∧ Reps (cn X nm) H'' (Av [] Xw m'') (ks ++ [k]) (kz'.map (·.1)) ∧
          (keyL call (ds.drop (i + 1)) w'').sat fun r w'' => sortable ((kz' ++ r).map (·.1)) = true ∧ ∀ a m' H' us, Fr X.K m m' H H' → WOk (cn X nm) [] Xw m' H' w'' → H' a = none → Reps (cn X nm) H' (Av [] Xw m') us (sortBy (kz' ++ r)) → Q (.ref a) (L2.upd H' a (.lst us))) (fun _ _ => False) s' := by
          refine run_fn (X := deep X) (vs := [xv]) (dvs := []) (ds := []) (E := E0) FO ⟨hr.hd, by have := hr.dp; show X.A.depth + 3 * (2 * n) + 5 < recursionLimit; omega, by have := hr.un; show X.A.units + 1 + 1 + 16 * (2 * n) + 200 < cLine; omega⟩ hb .nil passL (inv_deep I') (.cons r1 .nil) ?_
          refine ⟨Xw, m', w', [.d d], W', hX', .cons r2' .nil, sat_mono hk3 fun k w2 hk4 v m2 H2 f2 W2 rk => ?_⟩
          cases k with
          | d kd =>
            have hk4 : ((keyL call (ds.drop (i + 1)) w2).bind fun r w => Res.ok ((kd, d) :: r) w).sat _ := hk4
            rw [sat_bind] at hk4
            refine ⟨m2, w2, kz ++ [(kd, d)], f'.trans f2, W2, ?_, ?_, ?_⟩
            · rw [List.map_append, hk1, List.take_add_one, hd]; rfl
            · rw [List.map_append]
              exact (hk2.keep f2.kp').append (.cons rk .nil)
            · refine sat_mono hk4 fun r w3 hk5 => ?_
              rw [List.append_assoc]
              exact hk5
          | ob j => exact hk4.elim
          | fn g => exact hk4.elim
        exact wpAny_mono go (fun v s3 ⟨k, H3, I3, r3, q3⟩ => ⟨k, H3, inv_up I3 I'.ok, r3, q3⟩) fun _ _ z => z
      case fin =>
        rintro H' ks ⟨m', w', kz, f', W', hk1, hk2, hk3⟩
        rw [hvl, List.take_length] at hk1
        rw [hvl, List.drop_length] at hk3
        have hk3 : sortable ((kz ++ []).map (fun p : D × D => p.1)) = true ∧ ∀ a m' H' us, Fr X.K m m' H H' → WOk (cn X nm) [] Xw m' H' w' → H' a = none → Reps (cn X nm) H' (Av [] Xw m') us (sortBy (kz ++ [])) → Q (.ref a) (L2.upd H' a (.lst us)) := hk3
        rw [List.append_nil] at hk3
        refine ⟨Av [] Xw m', kz, hk2, hk3.1, ?_, fun us s' ru hn I3 => ⟨rfl, .ref a, _, I3, rfl, hk3.2 a m' H' us f' W' hn ru⟩⟩
        rw [← hk1] at ev
        exact (PySem.W.each_of_map (R := fun u d => RV (cn X nm) H (Av [] Xw m) u d) (fun p : D × D => p.2) ev).mono fun v p ⟨x, q1, q2⟩ => ⟨x, q1, q2.keep f'.kp'⟩
    · exact h.elim
  · exact h.elim
theorem ev_srtK (cf : Cfg) (f : Nat) (it : It) (env : Env) (w : Wd) : ev cf (.srtK f it) env w = (evI cf it env w).bind fun xs w => (keyL (fun x w => cf.call f [.d x] w) xs w).bind fun ks w =>
      if fits xs.length && sortable (ks.map (·.1)) then .ok (.d (.list (sortBy ks))) w else .stuck := rfl
/-- the end of both forms -/
theorem srtK_end {f : Nat} {fa : Addr} {env : Env} {ds : List D} {Src : V → Hp → (Addr → Prop) → List D → Prop} {v1 : V} {H1 : Hp} {m1 : List Addr} {w1 : Wd} {Q : VK} (E : EOk c mo own Xv m H env σ) (W : WOk c own Xv m H w) (f1 : Fr c.K m m1 H H1) (W1 : WOk c own Xv m1 H1 w1) (hsrc : Src v1 H1 (Av own Xv m1) ds)
    (hmono : ∀ A', (∀ b, A' b ↔ Av own Xv m1 b) → Src v1 H1 A' ds)
    (h : ((keyL (fun x w => callN tb F n f [.d x] w) ds w1).bind fun ks w => if fits ds.length && sortable (ks.map (·.1)) then Res.ok (Vl.d (.list (sortBy ks))) w else .stuck).sat fun x w' => ∀ v m' H', Fr c.K m m' H H' → WOk c own Xv m' H' w' → RepM c own Xv md H m' H' w' x v → Q v H') :
    rSrtK c tb F n f fa Src [v1] [.ref fa] H1 Q := by
  rw [sat_bind] at h
  obtain ⟨_, _, hx⟩ := sat_ex h
  refine ⟨rfl, Pk own Xv, m1, w1, ds, W1.pack, (E.step f1 W).pkd, hmono _ fun b => pk_av b, fits_le (band (sat_if hx).1).1, sat_mono h fun ks w2 h2 => ?_⟩
  obtain ⟨h3, h2⟩ := sat_if h2
  refine ⟨(band h3).2, fun a m2 H2 us f2 W2 ha ru => ?_⟩
  have f12 := f1.trans f2
  have W2' := W2.unpack
  have ru' : Reps c H2 (Av own Xv m2) us (sortBy ks) := ru.keep (.less fun b hb z => hb ((pk_av b).mpr z))
  have nw : New H2 (L2.upd H2 a (.lst us)) := .one ha
  exact h2 _ m2 _ (f12.trans nw.fr) (W2'.new nw) ⟨RepD.le (fresh_all md) (RepD.back (m1 := m2) rfl f12 W2' (freshL (m := m2) ha (W2'.dom (E.step f12 W)) ru')), FW.new nw W2' (freshL (m := m2) ha (W2'.dom (E.step f12 W)) ru')⟩
theorem fn_of (C : Ctx tb F n sx X) {f : Nat} {x : Str} (h : gfn sx f x = true) : ∃ d fa fd, tb.lookup f = some d ∧ X.mg x = some (.ref fa) ∧ Gl X x ∧ (x == ("__debug__" : Str)) = false ∧ PySem.W.keepIn X.K (.ref fa) = true ∧ Binds X.K fd d.ps [] ∧ FnOk X.prog X.w X.K X.mg X.base (L2.CX X.prog X.w) (2 * n) fa fd d.ps (spF (cn X sx.nmf) tb F n f) := by
  obtain ⟨h, h4⟩ := band (show (sx.dfs.contains f && (sx.mth.lookup f).isNone && decide (sx.nmf f = x) && globB sx.sc x && plainName x) = true from h)
  obtain ⟨h, h3⟩ := band h
  obtain ⟨h, h2⟩ := band h
  obtain ⟨h0, h1⟩ := band h
  obtain ⟨d, hd⟩ := C.dfs f h0
  obtain ⟨fa, fd, g1, g2, g3, g4⟩ := C.fns f d hd
  have g1 : X.mg (sx.nmf f) = some (.ref fa) := by
    unfold FA at g1
    rw [Option.isNone_iff_eq_none.mp h1] at g1
    exact g1
  rw [of_decide_eq_true h2] at g1
  exact ⟨d, fa, fd, hd, g1, gl_of C h3, (plain_of h4).1, g2, g3, g4⟩
theorem RepB.iff {A' : Addr → Prop} {v : V} {d : D} (h : RepB c H A [] v d) (e : ∀ b, A' b ↔ A b) : RepB c H A' [] v d := h.kept (.less fun b hb z => hb ((e b).mp z)) fun a o ha e => ⟨e, ha⟩
theorem ok_srtS (f : Nat) (a : E) (ha : OkE tb F n a) : OkE tb F n (.srtK f (.seq a)) := by
  intro sx md ex X hc C
  cases ex with
  | Call fx xs kw pos => cases fx with
    | Name z zp =>
      rcases xs with _ | ⟨x, _ | ⟨_, _⟩⟩ <;> rcases kw with _ | ⟨⟨k, kv, kp⟩, _ | ⟨_, _⟩⟩ <;> first | (cases hc; done) | skip
      · cases k with
        | none => cases hc
        | some k => cases kv with
          | Name y yp =>
            have hc : (bltB sx z "sorted" && decide (k = "key") && gfn sx f y && chk sx .look a x && !starB x) = true := hc
            obtain ⟨hc, h5⟩ := band hc
            obtain ⟨hc, h4⟩ := band hc
            obtain ⟨hc, h3⟩ := band hc
            obtain ⟨h1, h2⟩ := band hc
            obtain rfl := of_decide_eq_true h2
            obtain ⟨rfl, hg, hm⟩ := blt_of C h1 (by decide)
            obtain ⟨d, fa, fd, hd, hmg, hgl, hdb, _, hb, FO⟩ := fn_of C h3
            have hst := bnot h5
            refine PE_imp (pe_callBK (cr_srtK (Src := fun x H A ds => ∃ dx, RepB (cn X sx.nmf) H A [] x dx ∧ seqD dx = some ds) C.room hb FO (fun pins s σ H x u A ds I r ⟨dx, q1, q2⟩ hz => coll_seq I r q1 q2 hz)) hg hm (by decide +kernel) (pa_cons (ha sx .look x X h4 C) pa_nil (star_of hst)) (pk_cons (pe_glob hgl hmg (v := .ref fa) rfl hdb) pk_nil) (by decide) (by decide) ?_ ?_ rfl rfl rfl) ?_
            · rw [star_of hst]; rfl
            · rw [one_star hst]; rfl
            rintro σ H Q ⟨own, Xv, m, env, w, E, W, h⟩
            rw [ev_srtK, evI_seq, sat_bind, sat_bind, sat_dat] at h
            refine ⟨own, Xv, m, env, w, E, W, sat_mono h fun x1 w1 h v1 m1 H1 f1 W1 r1 => ?_⟩
            obtain ⟨dx, rfl, h⟩ := h
            rw [sat_ofO] at h
            obtain ⟨ds, hds, h⟩ := h
            have rp := RepD.peek (md := .look) r1.1
            exact srtK_end (md := md) (Src := fun x H A ds => ∃ dx, RepB (cn X sx.nmf) H A [] x dx ∧ seqD dx = some ds) E W f1 W1 ⟨dx, rp, hds⟩ (fun A' e => ⟨dx, rp.iff e, hds⟩) h
          | _ => cases hc
      · cases k <;> first | (cases hc; done) | (cases kv <;> cases hc)
    | _ => cases hc
  | _ => cases hc
/-- a keys view just made -/
def SrcV (c : Cn) : V → Hp → (Addr → Prop) → List D → Prop := fun x H A ds => ∃ p d kvs, x = .ref p ∧ H p = some (dView p d) ∧ RepB c H A [] (.ref d) (.dict kvs) ∧ ds = kvs.map (·.1)
theorem ok_srtKeys (f : Nat) (a : E) (ha : OkE tb F n a) : OkE tb F n (.srtK f (.keys a)) := by
  intro sx md ex X hc C
  cases ex with
  | Call fx xs kw pos => cases fx with
    | Name z zp =>
      rcases xs with _ | ⟨x, xr⟩
      · cases hc
      · cases x with
        | Call gx ys kw2 cpos => cases gx with
          | Attribute x kk apos =>
            rcases xr with _ | ⟨_, _⟩ <;> rcases ys with _ | ⟨_, _⟩ <;> rcases kw2 with _ | ⟨_, _⟩ <;> rcases kw with _ | ⟨⟨k, kv, kp⟩, _ | ⟨_, _⟩⟩ <;> first | (cases hc; done) | skip
            · cases k with
              | none => cases hc
              | some k => cases kv with
                | Name y yp =>
                  have hc : (bltB sx z "sorted" && decide (k = "key") && gfn sx f y && chk sx .look a x && decide (kk = "keys") && (apos.endLine == cpos.line) && baseB x) = true := hc
                  obtain ⟨hc, h7⟩ := band hc
                  obtain ⟨hc, h6⟩ := band hc
                  obtain ⟨hc, h5⟩ := band hc
                  obtain ⟨hc, h4⟩ := band hc
                  obtain ⟨hc, h3⟩ := band hc
                  obtain ⟨h1, h2⟩ := band hc
                  obtain rfl := of_decide_eq_true h2
                  obtain rfl := of_decide_eq_true h5
                  obtain ⟨rfl, hg, hm⟩ := blt_of C h1 (by decide)
                  obtain ⟨d, fa, fd, hd, hmg, hgl, hdb, _, hb, FO⟩ := fn_of C h3
                  have hbase : attributeBase x "keys" X.env (eval x X.env) = eval x X.env := by
                    cases x <;> first | rfl | cases h7
                  refine PE_imp (pe_callBK (cr_srtK (Src := SrcV (cn X sx.nmf)) C.room hb FO (fun pins s σ H x u A ds I r ⟨p, d, kvs, e, q1, q2, q3⟩ hz => by
                    subst e q3
                    exact coll_keys I r q1 q2 (by simpa using hz))) hg hm (by decide +kernel) (pa_cons (pe_keysV (ha sx .look x X h4 C) hbase h6) pa_nil rfl) (pk_cons (pe_glob hgl hmg (v := .ref fa) rfl hdb) pk_nil) (by decide) (by decide) rfl rfl rfl rfl rfl) ?_
                  rintro σ H Q ⟨own, Xv, m, env, w, E, W, h⟩
                  rw [ev_srtK, show evI _ (.keys a) env w = (ev _ a env w).dat.bind fun x w => (ofO (dctOf x) w).bind fun kvs w => .ok (kvs.map (·.1)) w from rfl, sat_bind, sat_bind, sat_dat] at h
                  refine ⟨own, Xv, m, env, w, E, W, sat_mono h fun x1 w1 h v1 m1 H1 f1 W1 r1 => ?_⟩
                  obtain ⟨dx, rfl, h⟩ := h
                  rw [sat_bind, sat_ofO] at h
                  obtain ⟨kvs, hkv, h⟩ := h
                  cases dx with
                  | dict kv0 =>
                    cases hkv
                    have rp : RepB (cn X sx.nmf) H1 (Av own Xv m1) m1 v1 (.dict kvs) := r1.1
                    obtain ⟨a0, L, ep, rfl, h1', h2', h3'⟩ := rp.dct
                    refine ⟨a0, L, ep, rfl, h1', fun p hp => ?_⟩
                    have nw : New H1 (L2.upd H1 p (dView p a0)) := .one hp
                    have rp2 := (rp.keep (nw.fr (K := X.K) (m := m1))).all
                    exact srtK_end (md := md) (Src := SrcV (cn X sx.nmf)) E W (f1.trans nw.fr) (W1.new nw) ⟨p, a0, kvs, rfl, upd_same, rp2, rfl⟩ (fun A' e => ⟨p, a0, kvs, rfl, upd_same, rp2.iff e, rfl⟩) h
                  | _ => cases hkv
                | _ => cases hc
            · cases k <;> first | (cases hc; done) | (cases kv <;> cases hc)
          | _ => cases hc
        | _ => cases hc
    | _ => cases hc
  | _ => cases hc
end
end Mx

set_option Elab.async false
set_option linter.all false
set_option maxRecDepth 100000
set_option maxHeartbeats 1000000
/-! Mxq: objects of the world: lists and dicts that several frames change. -/
namespace Mx
open PySem PySem.Spec L2
section
variable {tb : Tbl} {F n : Nat} {sx : Sx} {X : Cx} {md : Mode} {c : Cn} {cf : Cfg} {mo : Nat → Bool} {own : Ow} {Xv : Addr → Prop} {m0 m m' : List Addr} {H0 H H' : Hp} {env : Env} {σ : L2.St} {w w' : Wd} {A : Addr → Prop} {nm : Nat → Str} {pins : List (Addr × Obj)} {s : Shared} {D : Ends}
theorem av_snoc {a b : Addr} : Av own Xv (m ++ [a]) b ↔ Av own (Plus Xv a) m b := by
  unfold Av Plus
  constructor
  · rintro (h | h | h)
    · rcases List.mem_append.mp h with h | h
      · exact .inl h
      · exact .inr (.inr (.inr (List.mem_singleton.mp h)))
    · exact .inr (.inl h)
    · exact .inr (.inr (.inl h))
  · rintro (h | h | h | h)
    · exact .inl (List.mem_append_left _ h)
    · exact .inr (.inl h)
    · exact .inr (.inr h)
    · exact .inl (List.mem_append_right _ (List.mem_singleton.mpr h))
/-- a new object of the world -/
theorem WOk.add {a : Addr} {o : Wo} (W : WOk c own (Plus Xv a) m H w) (ha : ¬ Av own Xv m a) (q : Ob c H (Av own Xv (m ++ [a])) (m ++ [a]) a o) : WOk c own Xv (m ++ [a]) H (w ++ [o]) where
  len := by rw [List.length_append, List.length_append, W.len]; rfl
  nd := by
    refine List.nodup_append.mpr ⟨W.nd, by simp, fun x hx y hy e => ?_⟩
    rw [List.mem_singleton.mp hy] at e
    exact ha (.inl (e ▸ hx))
  ob := fun i b o' e1 e2 => by
    by_cases hi : i < m.length
    · rw [List.getElem?_append_left hi] at e1
      rw [List.getElem?_append_left (by rw [← W.len]; exact hi)] at e2
      exact (W.ob i b o' e1 e2).kept (fun j b e => by rw [List.getElem?_append_left (List.getElem?_eq_some_iff.mp e).1]; exact e) (.less fun b hb z => hb (av_snoc.mp z)) fun _ e => e
    · have hl : i = m.length := by
        have := (List.getElem?_eq_some_iff.mp e1).1
        rw [List.length_append] at this
        simp at this
        omega
      subst hl
      rw [List.getElem?_append_right (Nat.le_refl _)] at e1
      rw [W.len, List.getElem?_append_right (Nat.le_refl _)] at e2
      simp at e1 e2
      subst e1 e2
      exact q
  dis := fun b hb => by
    rcases List.mem_append.mp hb with hb | hb
    · exact ⟨(W.dis b hb).1, fun z => (W.dis b hb).2 (.inl z)⟩
    · rw [List.mem_singleton.mp hb]
      exact ⟨fun i z => ha (.inr (.inl ⟨i, z⟩)), fun z => ha (.inr (.inr z))⟩
theorem Fr.add {a : Addr} (f : Fr c.K m m' H H') (ha : H a = none) : Fr c.K m (m' ++ [a]) H H' where
  pre := by
    obtain ⟨r, e⟩ := f.pre
    exact ⟨r ++ [a], by rw [e, List.append_assoc]⟩
  new := fun b hb => by
    rcases List.mem_append.mp hb with hb | hb
    · exact f.new b hb
    · rw [List.mem_singleton.mp hb]; exact .inr ha
  ext := f.ext
  tup := f.tup
  frz := f.frz
theorem ev_cell (cf : Cfg) (e : E) (env : Env) (w : Wd) : ev cf (.cell e) env w = (ev cf e env w).dat.bind fun x w => match x with
    | .list xs => if flats xs then .ok (.ob w.length) (w ++ [.cell xs]) else .stuck
    | _ => .stuck := rfl
theorem ev_dcell (cf : Cfg) (e : E) (env : Env) (w : Wd) : ev cf (.dcell e) env w = (ev cf e env w).dat.bind fun x w => match x with
    | .dict kvs => .ok (.ob w.length) (w ++ [.dct kvs])
    | _ => .stuck := rfl
theorem last_ix {a : Addr} (h : m.length = w.length) : (m ++ [a])[w.length]? = some a := by rw [← h]; simp
theorem ok_cell (e : E) (he : OkE tb F n e) : OkE tb F n (.cell e) := by
  intro sx md ex X hc C
  have hc : chk sx .fresh e ex = true := by cases ex <;> exact hc
  refine PE_imp (he sx .fresh ex X hc C) ?_
  rintro σ H Q ⟨own, Xv, m, env, w, E, W, h⟩
  rw [ev_cell, sat_bind, sat_dat] at h
  refine ⟨own, Xv, m, env, w, E, W, sat_mono h fun x1 w1 h v1 m1 H1 f1 W1 r1 => ?_⟩
  obtain ⟨dx, rfl, h⟩ := h
  cases dx with
  | list xs =>
    obtain ⟨hf, h⟩ := sat_if h
    rcases r1.1 with ⟨z, _⟩ | ⟨a, rfl, h1, h2, h3⟩
    · cases z
    · have WP := r1.2 rfl rfl a rfl
      have q : Ob (cn X sx.nmf) H1 (Av own Xv (m1 ++ [a])) (m1 ++ [a]) a (.cell xs) := ⟨hf, h3.keep (.less fun b hb z => hb (av_plus.mp (av_snoc.mp z))) fun _ e => e⟩
      exact h _ (m1 ++ [a]) H1 (f1.add h1) (WP.add h2 q) ⟨a, last_ix W1.len, rfl⟩
  | _ => exact h.elim
theorem ok_dcell (e : E) (he : OkE tb F n e) : OkE tb F n (.dcell e) := by
  intro sx md ex X hc C
  have hc : chk sx .fresh e ex = true := by cases ex <;> exact hc
  refine PE_imp (he sx .fresh ex X hc C) ?_
  rintro σ H Q ⟨own, Xv, m, env, w, E, W, h⟩
  rw [ev_dcell, sat_bind, sat_dat] at h
  refine ⟨own, Xv, m, env, w, E, W, sat_mono h fun x1 w1 h v1 m1 H1 f1 W1 r1 => ?_⟩
  obtain ⟨dx, rfl, h⟩ := h
  cases dx with
  | dict xs =>
    rcases r1.1 with ⟨z, _⟩ | ⟨a, rfl, h1, h2, h3⟩
    · cases z
    · have WP := r1.2 rfl rfl a rfl
      have q : Ob (cn X sx.nmf) H1 (Av own Xv (m1 ++ [a])) (m1 ++ [a]) a (.dct xs) := Own.keep (d := .dict xs) (.less fun b hb z => hb (av_plus.mp (av_snoc.mp z))) (fun _ e => e) h3
      exact h _ (m1 ++ [a]) H1 (f1.add h1) (WP.add h2 q) ⟨a, last_ix W1.len, rfl⟩
  | _ => exact h.elim
/-- what an object of the world holds -/
theorem WOk.get {i : Nat} {a : Addr} {d : Mx.D} (W : WOk c own Xv m H w) (hm : m[i]? = some a) (hd : oget w i = some d) : Own c H (Av own Xv m) a d := by
  unfold oget at hd
  split at hd
  · rename_i xs e
    cases hd
    exact (W.ob i a _ hm e).2
  · rename_i kvs e
    cases hd
    exact W.ob i a _ hm e
  · cases hd
theorem ev_rd (cf : Cfg) (o : E) (env : Env) (w : Wd) : ev cf (.rd o) env w = (ev cf o env w).bind fun x w => match x with
    | .ob i => (ofO (oget w i) w).bind fun z w => .ok (.d z) w
    | _ => .stuck := rfl
theorem ok_rd (o : E) (ho : OkE tb F n o) : OkE tb F n (.rd o) := by
  intro sx md ex X hc C
  have hc : (md.isPeek && chk sx .keep o ex) = true := by cases ex <;> exact hc
  obtain ⟨h1, h2⟩ := band hc
  refine PE_imp (ho sx .keep ex X h2 C) ?_
  rintro σ H Q ⟨own, Xv, m, env, w, E, W, h⟩
  rw [ev_rd, sat_bind] at h
  refine ⟨own, Xv, m, env, w, E, W, sat_mono h fun x1 w1 h v1 m1 H1 f1 W1 r1 => ?_⟩
  cases x1 with
  | ob i =>
    rw [sat_bind, sat_ofO] at h
    obtain ⟨z, hz, h⟩ := h
    obtain ⟨a, ha, rfl⟩ := r1
    have q := W1.get ha hz
    cases md with
    | peek => exact h _ m1 H1 f1 W1 ⟨RepB.own q (by simp), FW.low rfl⟩
    | _ => cases h1
  | _ => exact h.elim
theorem ev_oidx (cf : Cfg) (o i : E) (env : Env) (w : Wd) : ev cf (.oidx o i) env w = (ev cf o env w).bind fun x w => (ev cf i env w).dat.bind fun y w => match x with
    | .ob j => (ofO ((oget w j).bind fun d => idxD d y) w).bind fun z w => .ok (.d z) w
    | _ => .stuck := rfl
theorem ok_oidx (o i : E) (ho : OkE tb F n o) (hi : OkE tb F n i) : OkE tb F n (.oidx o i) := by
  intro sx md ex X hc C
  cases ex with
  | Subscript l r pos =>
    have hc : (chk sx .keep o l && chk sx .peek i r && !sliceB r && md.le .keep) = true := hc
    obtain ⟨hc, h4⟩ := band hc
    obtain ⟨hc, h3⟩ := band hc
    obtain ⟨h1, h2⟩ := band hc
    have hp : PlainIx r := by
      intro o i
      cases r <;> first | rfl | (exact absurd h3 (by simp [sliceB]))
    refine PE_imp (pe_ix (ix_M (nm := sx.nmf) C.units) (ho sx .keep l X h1 C) (hi sx .peek r X h2 C) hp) ?_
    rintro σ H Q ⟨own, Xv, m, env, w, E, W, h⟩
    rw [ev_oidx, sat_bind] at h
    refine ⟨own, Xv, m, env, w, E, W, sat_mono h fun x1 w1 h v1 m1 H1 f1 W1 r1 => ?_⟩
    rw [sat_bind, sat_dat] at h
    refine ⟨own, Xv, m1, env, w1, E.step f1 W, W1, sat_mono h fun x2 w2 h v2 m2 H2 f2 W2 r2 => ?_⟩
    obtain ⟨dy, rfl, h⟩ := h
    cases x1 with
    | ob j =>
      have h : ((ofO ((oget w2 j).bind fun d => idxD d dy) w2).bind fun z w => Res.ok (Vl.d z) w).sat _ := h
      rw [sat_bind, sat_ofO] at h
      obtain ⟨z, hz, h⟩ := h
      obtain ⟨d, hd, hz⟩ := Option.bind_eq_some_iff.mp hz
      obtain ⟨a, ha, rfl⟩ := r1
      have q := W2.get (f2.get ha) hd
      have f12 := f1.trans f2
      have r2' : RepB _ H2 (Av own Xv m2) [] v2 dy := r2.1
      refine ⟨Av own Xv m2, d, dy, z, W2.dom (E.step f12 W), RepB.own q (by simp), r2', hz, fun v H' n rd => ?_⟩
      exact h v m2 H' (f12.trans n.fr) (W2.new n) ⟨(rd.back rfl f12 W2).le h4, FW.low h4⟩
    | _ => exact h.elim
  | _ => cases hc
/-! ### an object of the world is changed -/
theorem Fr.set {i : Nat} {a : Addr} {o o' : HO} (hm : m[i]? = some a) (h : H a = some o) (hl : Loose o) : Fr c.K m m H (L2.upd H a o') where
  pre := ⟨[], by simp⟩
  new := fun _ h => .inl h
  ext := fun b u e hb => by rw [upd_ne (show b ≠ a from fun z => hb (by rw [z]; exact List.mem_iff_getElem?.mpr ⟨i, hm⟩))]; exact e
  tup := fun b xs q => sqT_wr h hl q
  frz := fun b xs q => frzL_wr h hl q
theorem WOk.set {i : Nat} {a : Addr} {o o' : HO} {ob : Wo} (W : WOk c own Xv m H w) (hm : m[i]? = some a) (h : H a = some o) (hl : Loose o) (q : Ob c (L2.upd H a o') (Av own Xv m) m a ob) : WOk c own Xv m (L2.upd H a o') (w.set i ob) where
  len := by rw [List.length_set]; exact W.len
  nd := W.nd
  ob := fun j b u e1 e2 => by
    by_cases z : j = i
    · subst z
      rw [hm] at e1
      cases e1
      have hj : j < w.length := by rw [← W.len]; exact (List.getElem?_eq_some_iff.mp hm).1
      rw [List.getElem?_set_self hj] at e2
      cases e2
      exact q
    · rw [List.getElem?_set_ne (Ne.symm z)] at e2
      have hb : b ≠ a := fun e => z (by
        subst e
        exact (List.getElem?_inj (List.getElem?_eq_some_iff.mp e1).1 W.nd).mp (e1.trans hm.symm))
      exact (W.ob j b u e1 e2).kept (fun _ _ e => e) (Kp.wr (.inl (List.mem_iff_getElem?.mpr ⟨i, hm⟩)) h hl) fun u e => by rw [upd_ne hb]; exact e
  dis := W.dis
theorem SOk.wset {i : Nat} {a : Addr} {o o' : HO} {ob : Wo} (S : SOk c mo Xv m0 H0 own m H env σ w) (hm : m[i]? = some a) (h : H a = some o) (hl : Loose o) (q : Ob c (L2.upd H a o') (Av own Xv m) m a ob) :
    SOk c mo Xv m0 H0 own m (L2.upd H a o') env σ (w.set i ob) ∧ Kp c.K (Av own Xv m) (Av own Xv m) H (L2.upd H a o') := ⟨S.step (Fr.set hm h hl) (S.W.set hm h hl q), (Fr.set hm h hl).kp'⟩
theorem flats_set {v : Mx.D} (hv : flat v = true) : ∀ {xs : List Mx.D} (j : Nat), flats xs = true → flats (xs.set j v) = true
  | [], _, h => h
  | x :: xs, 0, h => by
    have h : (flat x && flats xs) = true := h
    show (flat v && flats xs) = true
    rw [hv, (band h).2]; rfl
  | x :: xs, j + 1, h => by
    have h : (flat x && flats xs) = true := h
    show (flat x && flats (xs.set j v)) = true
    rw [(band h).1, flats_set hv j (band h).2]; rfl
theorem flats_snoc {v : Mx.D} (hv : flat v = true) : ∀ {xs : List Mx.D}, flats xs = true → flats (xs ++ [v]) = true
  | [], _ => by show (flat v && true) = true; rw [hv]; rfl
  | x :: xs, h => by
    have h : (flat x && flats xs) = true := h
    show (flat x && flats (xs ++ [v])) = true
    rw [(band h).1, flats_snoc hv (band h).2]; rfl
theorem ok_oput (o k e : E) (ho : OkE tb F n o) (hk : OkE tb F n k) (he : OkE tb F n e) : OkS tb F n (.oput o k e) := by
  intro sx x X hc C hp
  cases x with
  | Assign ts v pos =>
    rcases ts with _ | ⟨t, _ | ⟨_, _⟩⟩
    · cases hc
    · cases t with
      | Subscript ox kx sp =>
        have hc : (chk sx .keep o ox && chk sx .keep e v && chk sx .keep k kx && !sliceB kx) = true := hc
        obtain ⟨hc, h4⟩ := band hc
        obtain ⟨hc, h3⟩ := band hc
        obtain ⟨h1, h2⟩ := band hc
        refine PS_imp (ps_asg (he sx .keep v X h2 C) (pg_sub (ho sx .keep ox X h1 C) (hk sx .keep kx X h3 C) (set_M (nm := sx.nmf) C.units) ?_) ?_ ?_ rfl) ?_
        · intro u; cases kx <;> first | rfl | cases h4
        · cases v <;> rfl
        · cases v <;> rfl
        rintro D σ H ⟨Xv, m0, H0, own, m, env, w, S, h⟩
        rw [show ex _ (.oput o k e) env w = (ev _ e env w).dat.bind fun x w => (ev _ o env w).bind fun ov w => (ev _ k env w).dat.bind fun y w => match ov with
          | .ob o => (ofO (oputW w o y x) w).bind fun w' _ => .ok (.nx env) w'
          | _ => .stuck from rfl, sat_bind, sat_dat] at h
        refine ⟨own, Xv, m, env, w, S.E, S.W, sat_mono h fun x1 w1 h v1 m1 H1 f1 W1 r1 => ?_⟩
        obtain ⟨dx, rfl, h⟩ := h
        rw [sat_bind] at h
        have S1 := S.step f1 W1
        refine ⟨own, Xv, m1, env, w1, S1.E, S1.W, sat_mono h fun ov w2 h v2 m2 H2 f2 W2 r2 => ?_⟩
        rw [sat_bind, sat_dat] at h
        have S2 := S1.step f2 W2
        refine ⟨own, Xv, m2, env, w2, S2.E, S2.W, sat_mono h fun x3 w3 h v3 m3 H3 f3 W3 r3 => ?_⟩
        obtain ⟨dy, rfl, h⟩ := h
        cases ov with
        | ob j =>
          have h : ((ofO (oputW w3 j dy dx) w3).bind fun w' _ => Res.ok (Fl.nx env) w').sat _ := h
          rw [sat_bind, sat_ofO] at h
          obtain ⟨w4, hw4, h⟩ := h
          have S3 := S2.step f3 W3
          obtain ⟨a, ha, rfl⟩ := r2
          have ha3 := f3.get ha
          have r1 : Rep (cn X sx.nmf) H3 (Av own Xv m3) v1 dx := Rep.keep (f2.trans f3).kp' r1.1
          have f13 := (f1.trans f2).trans f3
          unfold oputW at hw4
          split at hw4
          · rename_i xs ew
            cases dy with
            | int i =>
              have hw4 : (if flat dx then (L2.ixN xs.length i).map fun j' => w3.set j (.cell (xs.set j' dx)) else none) = some w4 := hw4
              split at hw4
              · rename_i hfl
                cases hj : L2.ixN xs.length i with
                | none => rw [hj] at hw4; cases hw4
                | some jj =>
                  rw [hj] at hw4
                  cases hw4
                  obtain ⟨hfx, vs, q1, q2⟩ := W3.ob j a _ ha3 ew
                  have r3 : Rep (cn X sx.nmf) H3 (Av own Xv m3) v3 (.int i) := r3.1
                  cases r3
                  have kp : Kp (cn X sx.nmf).K (Av own Xv m3) (Av own Xv m3) H3 (L2.upd H3 a (.lst (vs.set jj v1))) := Kp.wr (.inl (List.mem_iff_getElem?.mpr ⟨j, ha3⟩)) q1 (loose_lst _)
                  obtain ⟨S4, k4⟩ := S3.wset (o' := .lst (vs.set jj v1)) (ob := .cell (xs.set jj dx)) ha3 q1 (loose_lst _) ⟨flats_set hfl jj hfx, _, upd_same, (Reps.set r1 jj q2).keep kp⟩
                  exact .inl ⟨a, vs, i, jj, rfl, rfl, q1, by rw [q2.length]; exact hj, h own m3 _ σ S4 (f13.kp'.trans k4)⟩
              · cases hw4
            | _ => cases hw4
          · rename_i kvs ew
            have hw4 : (if keyFor kvs dy && fits (kvs.length + 1) then some (w3.set j (.dct (dPut kvs dy dx))) else none) = some w4 := hw4
            split at hw4
            · rename_i hf
              obtain ⟨hkk, hf⟩ := band hf
              cases hw4
              obtain ⟨L, ep, q1, q2, q3⟩ := W3.ob j a _ ha3 ew
              obtain ⟨ka, rfl, rk⟩ := RepB.keyAt (m := []) (.of r3.1) hkk
              refine .inr ⟨Av own Xv m3, a, ka, L, ep, kvs, dy, dx, rfl, rfl, q1, q2, q3, .inl (List.mem_iff_getElem?.mpr ⟨j, ha3⟩), hkk, rk, r1, fits_le hf, fun L2 ep2 oo => ?_⟩
              obtain ⟨S4, k4⟩ := S3.wset (ob := .dct (dPut kvs dy dx)) ha3 q1 (loose_raw _ _ _) oo
              exact h own m3 _ σ S4 (f13.kp'.trans k4)
            · cases hw4
          · cases hw4
        | _ => exact h.elim
      | _ => cases hc
    · cases t <;> cases hc
  | _ => cases hc
theorem ok_oapp (o e : E) (ho : OkE tb F n o) (he : OkE tb F n e) : OkS tb F n (.oapp o e) := by
  intro sx x X hc C hp
  cases x with
  | Expr v pos => cases v with
    | Call fx xs kw cpos => cases fx with
      | Attribute ox f apos =>
        rcases xs with _ | ⟨v, _ | ⟨_, _⟩⟩ <;> rcases kw with _ | ⟨_, _⟩ <;> first | (cases hc; done) | skip
        have hc : (chk sx .keep o ox && baseB ox && decide (f = "append") && chk sx .keep e v && !starB v && (apos.endLine == cpos.line)) = true := hc
        obtain ⟨hc, h6⟩ := band hc
        obtain ⟨hc, h5⟩ := band hc
        obtain ⟨hc, h4⟩ := band hc
        obtain ⟨hc, h3⟩ := band hc
        obtain ⟨h1, h2⟩ := band hc
        obtain rfl := of_decide_eq_true h3
        have hbase : attributeBase ox "append" X.env (eval ox X.env) = eval ox X.env := by
          cases ox <;> first | rfl | cases h2
        refine PS_imp (ps_expr (pe_mm PySem.F.plainAttrs_list PySem.F.slot_list_append PySem.F.type_list_append (show MtR X "list.append" rAppend from mt_append) (ho sx .keep ox X h1 C) (pa_cons (he sx .keep v X h4 C) pa_nil (star_of (bnot h5))) hbase (few1 (bnot h5)) h6 (star_of (bnot h5)) rfl) rfl) ?_
        rintro D σ H ⟨Xv, m0, H0, own, m, env, w, S, h⟩
        rw [show ex _ (.oapp o e) env w = (ev _ o env w).bind fun ov w => (ofO (cellAt w ov) w).bind fun j w => (ev _ e env w).dat.bind fun x w => (ofO (oappW w j x) w).bind fun w' _ => .ok (.nx env) w' from rfl, sat_bind] at h
        refine ⟨own, Xv, m, env, w, S.E, S.W, sat_mono h fun ov w1 h v1 m1 H1 f1 W1 r1 => ?_⟩
        rw [sat_bind, sat_ofO] at h
        obtain ⟨j, hj, h⟩ := h
        rw [sat_bind, sat_dat] at h
        have S1 := S.step f1 W1
        cases ov with
        | ob j0 =>
          unfold cellAt at hj
          simp only at hj
          split at hj
          · rename_i xs0 ew0
            cases hj
            obtain ⟨a, ha, rfl⟩ := r1
            obtain ⟨_, vs0, q0, _⟩ := W1.ob j a _ ha ew0
            refine ⟨⟨a, rfl, .inl ⟨rfl, vs0, .inl (.inl q0)⟩⟩, own, Xv, m1, env, w1, S1.E, S1.W, sat_mono h fun x2 w2 h v2 m2 H2 f2 W2 r2 => ?_⟩
            obtain ⟨dx, rfl, h⟩ := h
            rw [sat_bind, sat_ofO] at h
            obtain ⟨w3, hw3, h⟩ := h
            have S2 := S1.step f2 W2
            have ha2 := f2.get ha
            unfold oappW at hw3
            split at hw3
            · rename_i xs ew
              split at hw3
              · rename_i hf
                obtain ⟨hfl, hf⟩ := band hf
                cases hw3
                obtain ⟨hfx, vs, q1, q2⟩ := W2.ob j a _ ha2 ew
                have kp : Kp (cn X sx.nmf).K (Av own Xv m2) (Av own Xv m2) H2 (L2.upd H2 a (.lst (vs ++ [v2]))) := Kp.wr (.inl (List.mem_iff_getElem?.mpr ⟨j, ha2⟩)) q1 (loose_lst _)
                obtain ⟨S4, k4⟩ := S2.wset (o' := .lst (vs ++ [v2])) (ob := .cell (xs ++ [dx])) ha2 q1 (loose_lst _) ⟨flats_snoc hfl hfx, _, upd_same, (q2.append (.cons r2.1 .nil)).keep kp⟩
                exact ⟨a, vs, v2, rfl, rfl, q1, by have := fits_le hf; rw [q2.length]; omega, h own m2 _ σ S4 ((f1.trans f2).kp'.trans k4)⟩
              · cases hw3
            · cases hw3
          · cases hj
        | _ => cases hj
      | _ => cases hc
    | _ => cases hc
  | _ => cases hc
end
end Mx

set_option Elab.async false
set_option linter.all false
set_option maxRecDepth 100000
set_option maxHeartbeats 1000000
/-! Mxr: instances. -/
namespace Mx
open PySem PySem.Spec L2
section
variable {tb : Tbl} {F n : Nat} {sx : Sx} {X : Cx} {md : Mode} {c : Cn} {cf : Cfg} {mo : Nat → Bool} {own : Ow} {Xv : Addr → Prop} {m0 m m' : List Addr} {H0 H H' : Hp} {env : Env} {σ : L2.St} {w w' : Wd} {A : Addr → Prop} {nm : Nat → Str} {pins : List (Addr × Obj)} {s : Shared} {D : Ends}
theorem Flds.look {gs : List (Str × V)} {fs : List (Str × Vl)} (h : Flds c H A m gs fs) {f : Str} {x : Vl} (e : fs.lookup f = some x) : ∃ v, gs.lookup f = some v ∧ RepV c H A m x v := by
  induction h with
  | nil => cases e
  | cons r t ih =>
    rename_i p q _ _
    obtain ⟨g, v⟩ := p
    obtain ⟨g', x'⟩ := q
    obtain ⟨e1, r1⟩ := r
    have e1 : g = g' := e1
    subst e1
    rw [List.lookup_cons] at e ⊢
    by_cases z : (f == g) = true
    · rw [z] at e ⊢
      cases e
      exact ⟨v, rfl, r1⟩
    · have z : (f == g) = false := by simpa using z
      rw [z] at e ⊢
      exact ih e
theorem Flds.none {gs : List (Str × V)} {fs : List (Str × Vl)} (h : Flds c H A m gs fs) {f : Str} (e : (fs.lookup f).isNone = true) : gs.lookup f = none := by
  induction h with
  | nil => rfl
  | cons r t ih =>
    rename_i p q _ _
    obtain ⟨g, v⟩ := p
    obtain ⟨g', x'⟩ := q
    obtain ⟨e1, r1⟩ := r
    have e1 : g = g' := e1
    subst e1
    rw [List.lookup_cons] at e ⊢
    by_cases z : (f == g) = true
    · rw [z] at e; cases e
    · have z : (f == g) = false := by simpa using z
      rw [z] at e ⊢
      exact ih e
theorem Flds.put {gs : List (Str × V)} {fs : List (Str × Vl)} {f : Str} {x : Vl} {v : V} (r : RepV c H A m x v) (h : Flds c H A m gs fs) : Flds c H A m (putF f v gs) (putFs f x fs) := by
  induction h with
  | nil => exact .cons ⟨rfl, r⟩ .nil
  | cons r0 t ih =>
    rename_i p q _ _
    obtain ⟨g, v0⟩ := p
    obtain ⟨g', x0⟩ := q
    obtain ⟨e1, r1⟩ := r0
    have e1 : g = g' := e1
    subst e1
    unfold putF putFs
    by_cases z : g = f
    · rw [if_pos z, if_pos z]
      exact .cons ⟨rfl, r⟩ t
    · rw [if_neg z, if_neg z]
      exact .cons ⟨rfl, r1⟩ ih
theorem Flds.len {gs : List (Str × V)} {fs : List (Str × Vl)} (h : Flds c H A m gs fs) : gs.length = fs.length := Paired.length h
/-- an instance of a class that is known -/
theorem ins_of (C : Ctx tb F n sx X) {a : Addr} {cl : Nat} {fs : List (Str × Vl)} {al : List Str} (hl : sx.cls.lookup cl = some al) (h : Ob (cn X sx.nmf) H A m a (.ins cl fs)) :
    ∃ Cc dx gs, X.mg (sx.nmf cl) = some (.ref Cc) ∧ H a = some (.ins Cc dx gs) ∧ Flds (cn X sx.nmf) H A m gs fs ∧ Cls X.K Cc ∧ (∀ f ∈ al, NoAttr X.K Cc f) := by
  obtain ⟨C1, dx, gs, h1, h2, h3⟩ := h
  obtain ⟨C2, g1, g2, _, _, g5⟩ := C.cls cl al hl
  have h1 : X.mg (sx.nmf cl) = some (.ref C1) := h1
  rw [h1] at g1
  cases g1
  exact ⟨C1, dx, gs, h1, h2, h3, g2, g5⟩
theorem fldB_of {cl : Nat} {f : Str} (h : fldB sx cl f = true) : ∃ al, sx.cls.lookup cl = some al ∧ f ∈ al := by
  unfold fldB at h
  split at h
  · rename_i al e; exact ⟨al, e, List.contains_iff_mem.mp h⟩
  · cases h
theorem base_of {x : Expr} {f : Str} {env : PySem.Env} (h : baseB x = true) : attributeBase x f env (eval x env) = eval x env := by
  cases x <;> first | rfl | cases h
theorem rep_vm {H1 : Hp} {x : Vl} {v : V} {w1 : Wd} (hle : md.le .keep = true) (r : RepV c H1 (Av own Xv m) m x v) : RepM c own Xv md H m H1 w1 x v := by
  cases x with
  | d y => exact ⟨RepD.le (md' := .keep) hle r, FW.low hle⟩
  | ob i => exact r
  | fn f => exact r
theorem ev_fld (cf : Cfg) (o : E) (cl : Nat) (f : Str) (env : Env) (w : Wd) : ev cf (.fld o cl f) env w = (ev cf o env w).bind fun x w => match x with
    | .ob i => ofO (fldOf w i cl f) w
    | _ => .stuck := rfl
theorem ok_fld (o : E) (cl : Nat) (f : Str) (ho : OkE tb F n o) : OkE tb F n (.fld o cl f) := by
  intro sx md ex X hc C
  cases ex with
  | Attribute ox x pos =>
    have hc : (decide (f = x) && fldB sx cl f && chk sx .keep o ox && baseB ox && md.le .keep) = true := hc
    obtain ⟨hc, h5⟩ := band hc
    obtain ⟨hc, h4⟩ := band hc
    obtain ⟨hc, h3⟩ := band hc
    obtain ⟨h1, h2⟩ := band hc
    obtain rfl := of_decide_eq_true h1
    obtain ⟨al, hal, hf⟩ := fldB_of h2
    refine PE_imp (pe_fld (ho sx .keep ox X h3 C) (base_of h4)) ?_
    rintro σ H Q ⟨own, Xv, m, env, w, E, W, h⟩
    rw [ev_fld, sat_bind] at h
    refine ⟨own, Xv, m, env, w, E, W, sat_mono h fun x1 w1 h v1 m1 H1 f1 W1 r1 => ?_⟩
    cases x1 with
    | ob i =>
      obtain ⟨z, hz, hq⟩ := sat_ofO.mp (show (ofO (fldOf w1 i cl f) w1).sat _ from h)
      obtain ⟨a, ha, rfl⟩ := r1
      unfold fldOf at hz
      split at hz
      · rename_i cl' fs ew
        split at hz
        · rename_i hcl
          subst hcl
          obtain ⟨Cc, dx, gs, g1, g2, g3, g4, g5⟩ := ins_of C hal (W1.ob i a _ ha ew)
          obtain ⟨v, hv, rv⟩ := g3.look hz
          exact ⟨a, Cc, dx, gs, v, rfl, g2, g4, g5 f hf, hv, hq v m1 H1 f1 W1 (rep_vm h5 rv)⟩
        · cases hz
      · cases hz
    | _ => exact h.elim
  | _ => cases hc
theorem loose_ins (C dx : Addr) (fs : List (Str × V)) : Loose (.ins C dx fs) := ⟨fun _ h => HO.noConfusion h, fun _ _ h => HO.noConfusion h⟩
theorem ok_fset (i cl : Nat) (f : Str) (e : E) (he : OkE tb F n e) : OkS tb F n (.fset i cl f e) := by
  intro sx x X hc C hp
  cases x with
  | Assign ts v pos =>
    rcases ts with _ | ⟨t, _ | ⟨_, _⟩⟩
    · cases hc
    · cases t with
      | Attribute ox y ap => cases ox with
        | Name x np =>
          have hc : (decide (sx.N[i]? = some x) && visB sx.sc x && plainName x && decide (f = y) && fldB sx cl f && chk sx .keep e v) = true := hc
          obtain ⟨hc, h6⟩ := band hc
          obtain ⟨hc, h5⟩ := band hc
          obtain ⟨hc, h4⟩ := band hc
          obtain ⟨hc, h3⟩ := band hc
          obtain ⟨h1, h2⟩ := band hc
          obtain rfl := of_decide_eq_true h4
          obtain ⟨al, hal, hf⟩ := fldB_of h5
          obtain ⟨p1, p2, _⟩ := plain_of h3
          refine PS_imp (ps_fld (pe_var (i := i) (by rw [C.N]; exact of_decide_eq_true h1) (by rw [C.sc]; exact vis_of h2) p1 p2) (he sx .keep v X h6 C) ?_) ?_
          · cases v <;> rfl
          rintro D σ H ⟨Xv, m0, H0, own, m, env, w, S, h⟩
          rw [show ex _ (.fset i cl f e) env w = (ev _ e env w).bind fun x w => match env[i]? with
            | some (some (.ob o)) => (ofO (fsetW w o cl f x) w).bind fun w' _ => .ok (.nx env) w'
            | _ => .stuck from rfl, sat_bind] at h
          refine ⟨own, Xv, m, env, w, S.E, S.W, sat_mono h fun x1 w1 h v1 m1 H1 f1 W1 r1 => ?_⟩
          have S1 := S.step f1 W1
          split at h
          · rename_i j ej
            rw [sat_bind, sat_ofO] at h
            obtain ⟨w2, hw2, h⟩ := h
            obtain ⟨vs, evs, rvs⟩ := S1.E.sh i _ ej (fun a ha => by
              obtain ⟨_, _, d, e1, _⟩ := S1.E.hown i a ha
              rw [ej] at e1; cases e1)
            obtain ⟨a, ha, rfl⟩ := rvs
            refine ⟨_, evs, ?_⟩
            unfold fsetW at hw2
            split at hw2
            · rename_i cl' fs ew
              split at hw2
              · rename_i hcl
                obtain ⟨hc1, hc2⟩ := band hcl
                obtain rfl := of_decide_eq_true hc1
                cases hw2
                obtain ⟨Cc, dx, gs, g1, g2, g3, g4, g5⟩ := ins_of C hal (W1.ob j a _ ha ew)
                have rx : RepV (cn X sx.nmf) H1 (Av own Xv m1) m1 x1 v1 := by cases x1 <;> first | exact r1.1 | exact r1
                have kp : Kp (cn X sx.nmf).K (Av own Xv m1) (Av own Xv m1) H1 (L2.upd H1 a (.ins Cc dx (putF f v1 gs))) := Kp.wr (.inl (List.mem_iff_getElem?.mpr ⟨j, ha⟩)) g2 (loose_ins _ _ _)
                obtain ⟨S2, k2⟩ := S1.wset (o' := .ins Cc dx (putF f v1 gs)) (ob := .ins cl' (putFs f x1 fs)) ha g2 (loose_ins _ _ _) ⟨Cc, dx, _, g1, upd_same, Paired.mapP (g3.put rx) fun _ _ q => ⟨q.1, q.2.kept (fun _ _ e => e) kp⟩⟩
                exact ⟨a, Cc, dx, gs, rfl, g2, g4, g5 f hf, by rw [g3.len]; exact Nat.le_of_ble_eq_true hc2, h own m1 _ σ S2 (f1.kp'.trans k2)⟩
              · cases hw2
            · cases hw2
          · exact h.elim
        | _ => cases hc
      | _ => cases hc
    · cases t <;> first | (cases hc; done) | (rename_i o _ _; cases o <;> cases hc)
  | _ => cases hc
theorem meth_of (C : Ctx tb F n sx X) {cl mm : Nat} {x : Str} (h : methB sx cl mm x = true) {d : Df} (hd : tb.lookup mm = some d) : ∃ Cc fa fd, X.mg (sx.nmf cl) = some (.ref Cc) ∧ Cls X.K Cc ∧ Meth X.K Cc x fa ∧ Binds X.K fd d.ps [] ∧ FnOk X.prog X.w X.K X.mg X.base (L2.CX X.prog X.w) (2 * n) fa fd d.ps (spF (cn X sx.nmf) tb F n mm) := by
  unfold methB at h
  split at h
  · rename_i cl' mn e
    obtain ⟨h1, h2⟩ := band h
    obtain rfl := of_decide_eq_true h1
    obtain ⟨fa, fd, g1, _, g3, g4⟩ := C.fns mm d hd
    unfold FA at g1
    rw [e] at g1
    obtain ⟨Cc, q1, q2, q3⟩ := g1
    rw [of_decide_eq_true h2] at q3
    exact ⟨Cc, fa, fd, q1, q2, q3, g3, g4⟩
  · cases h
theorem ev_meth (cf : Cfg) (o : E) (cl mm : Nat) (x : Str) (es : Es) (env : Env) (w : Wd) : ev cf (.meth o cl mm x es) env w = (ev cf o env w).bind fun v w => (ofO (insAt w v cl x) w).bind fun i w => (evA cf es env w).bind fun xs w => cf.call mm (.ob i :: xs) w := rfl
theorem insAt_of {v : Vl} {cl : Nat} {x : Str} {i : Nat} (h : insAt w v cl x = some i) : v = .ob i ∧ ∃ fs, w[i]? = some (.ins cl fs) ∧ (fs.lookup x).isNone = true := by
  cases v with
  | ob j =>
    unfold insAt at h
    simp only at h
    split at h
    · rename_i cl' fs e
      split at h
      · rename_i hc
        cases h
        obtain ⟨h1, h2⟩ := band hc
        obtain rfl := of_decide_eq_true h1
        exact ⟨rfl, fs, e, h2⟩
      · cases h
    · cases h
  | _ => cases h
theorem tE_meth {o : E} {cl mm : Nat} {x : Str} {es : Es} {Cc : Addr} (hmd : md.le .keep = true) (hC : c.mg (c.nm cl) = some (.ref Cc)) (σ : L2.St) (H : Hp) (Q : VK) (h : tE c ⟨callN tb F n, F⟩ mo md (.meth o cl mm x es) σ H Q) :
    tMeth Cc x (spF c tb F n mm) [] E0 (tE c ⟨callN tb F n, F⟩ mo .keep o) (tAs c ⟨callN tb F n, F⟩ mo es) σ H Q := by
  obtain ⟨own, Xv, m, env, w, E, W, h⟩ := h
  rw [ev_meth, sat_bind] at h
  refine ⟨own, Xv, m, env, w, E, W, sat_mono h fun v w1 h v1 m1 H1 f1 W1 r1 => ?_⟩
  rw [sat_bind, sat_ofO] at h
  obtain ⟨i, hi, h⟩ := h
  obtain ⟨rfl, fs, ew, hn⟩ := insAt_of hi
  obtain ⟨a, ha, rfl⟩ := r1
  obtain ⟨C1, dx, gs, g1, g2, g3⟩ := W1.ob i a _ ha ew
  rw [hC] at g1
  cases g1
  rw [sat_bind] at h
  refine ⟨a, dx, gs, rfl, g2, g3.none hn, own, Xv, m1, env, w1, E.step f1 W, W1, sat_mono h fun xs w2 h vs m2 H2 f2 W2 r2 => ?_⟩
  have f12 := f1.trans f2
  refine ⟨Pk own Xv, m2, w2, .ob i :: xs, W2.pack, (E.step f12 W).pkd, .cons ⟨a, f2.get ha, rfl⟩ ?_, sat_mono h fun z w3 h v m3 H3 f3 W3 r => h v m3 H3 (f12.trans f3) W3.unpack (rep_v hmd r)⟩
  rw [List.append_nil]
  exact Paired.mapP r2 fun _ _ q => q.keep Fr.refl (.less fun b h z => h ((pk_av b).mp z))
theorem meth_text {ox : Expr} {xs : List Expr} {es : Es} {x : Str} {apos pos : Pos} (h : baseB ox = true) (hl : (apos.endLine == pos.line) = true) (h30 : Nat.blt xs.length 30 = true) (hs : chks sx es xs = true) : ∃ pl : Sem Bool, eval (.Call (.Attribute ox x apos) xs [] pos) X.env = (do
      let ov ← eval ox X.env
      standAt apos.atName
      let (f, first) ← holding [ov] (getMethod ov x pl)
      callWith pos f first (backTo pos (starEach xs X.env)) (backToKw pos (keywordEach [] X.env))) := by
  have few : methodCallForm (xs.length + ([] : List Keyword).length) (backTo pos (starEach xs X.env)) (backToKw pos (keywordEach [] X.env)) = true := by
    unfold methodCallForm
    have h1 : (backTo pos (starEach xs X.env)).all (!·.1) = true := by
      have := any_of (sx := sx) (es := es) (xs := xs) (env := X.env) (pos := pos) hs
      rw [List.any_eq_false] at this
      rw [List.all_eq_true]
      intro p hp
      simpa using this p hp
    have h2 : xs.length < 30 := Nat.le_of_ble_eq_true h30
    rw [h1]
    show (true && true && decide (xs.length + 0 + 0 < 30)) = true
    simp [h2]
  refine ⟨(do return (← importBound ox X.env).getD true), ?_⟩
  rw [arm_eval_Call, base_of h]
  unfold methodCall
  simp only [few, calleeOf, methodCallPos, hl, if_true, Bool.not_true, Bool.false_or]
  rfl
theorem ok_meth (o : E) (cl mm : Nat) (x : Str) (es : Es) (ho : OkE tb F n o) (hs : OkAs tb F n es) : OkE tb F n (.meth o cl mm x es) := by
  intro sx md ex X hc C
  cases ex with
  | Call fx xs kw pos => cases fx with
    | Attribute ox y apos => cases kw with
      | cons _ _ => cases hc
      | nil =>
        have hc : (decide (x = y) && (apos.endLine == pos.line) && Nat.blt xs.length 30 && methB sx cl mm x && chk sx .keep o ox && baseB ox && chks sx es xs && md.le .keep) = true := hc
        obtain ⟨hc, h7⟩ := band hc
        obtain ⟨hc, h6⟩ := band hc
        obtain ⟨hc, h5⟩ := band hc
        obtain ⟨hc, h4⟩ := band hc
        obtain ⟨hc, h3⟩ := band hc
        obtain ⟨hc, h30⟩ := band hc
        obtain ⟨h1, h2⟩ := band hc
        obtain rfl := of_decide_eq_true h1
        cases hl : tb.lookup mm with
        | none =>
          refine PE_no ?_
          rintro σ H Q ⟨own, Xv, m, env, w, E, W, h⟩
          rw [ev_meth, sat_bind] at h
          exact no_sat h fun v w1 h => by
            rw [sat_bind] at h
            exact no_sat h fun i w2 h => by
              rw [sat_bind] at h
              exact no_sat h fun xs w3 => no_call hl _ w3 _
        | some d =>
          obtain ⟨Cc, fa, fd, g1, g2, g3, g4, g5⟩ := meth_of C h3 hl
          cases xs with
          | nil =>
            cases es with
            | cons _ _ => cases h6
            | nil =>
              obtain ⟨pl, ht⟩ := meth_text (sx := sx) (es := .nil) (X := X) (xs := []) (x := x) (apos := apos) (pos := pos) h5 h2 h30 h6
              refine PE_imp (pe_meth0 (ho sx .keep ox X h4 C) g2 g3 g5 (room_less C.room (by omega)) g4 .nil passL ht) fun σ H Q q => ?_
              obtain ⟨own, Xv, m, env, w, E, W, h⟩ := tE_meth h7 g1 σ H Q q
              refine ⟨own, Xv, m, env, w, E, W, sat_mono h fun v w1 h v1 m1 H1 f1 W1 r1 => ?_⟩
              obtain ⟨a, dx, fs, e1, e2, e3, own2, X2, m2, env2, w2, E2, W2, h⟩ := h v1 m1 H1 f1 W1 r1
              exact ⟨a, dx, fs, e1, e2, e3, h [] m2 H1 Fr.refl W2 .nil⟩
          | cons e es' =>
            have hst : starB e = false := by
              cases es with
              | nil => cases h6
              | cons e0 r0 => exact bnot (band (band (show (chk sx .keep e0 e && !starB e && chks sx r0 es') = true from h6)).1).2
            have hr : (backTo pos (starEach es' X.env)).any (·.1) = false := by
              cases es with
              | nil => cases h6
              | cons e0 r0 => exact any_of (es := r0) (xs := es') (band (show (chk sx .keep e0 e && !starB e && chks sx r0 es') = true from h6)).2
            obtain ⟨pl, ht⟩ := meth_text (sx := sx) (es := es) (X := X) (xs := e :: es') (x := x) (apos := apos) (pos := pos) h5 h2 h30 h6
            exact PE_imp (pe_meth (ho sx .keep ox X h4 C) g2 g3 g5 (room_less C.room (by omega)) g4 .nil passL (hs sx _ X h6 C) (star_of hst) hr ht) fun σ H Q q => tE_meth h7 g1 σ H Q q
    | _ => cases hc
  | _ => cases hc
end
end Mx

set_option Elab.async false
set_option linter.all false
set_option maxRecDepth 100000
set_option maxHeartbeats 1000000
/-! Mxs: instances are made. -/
namespace Mx
open PySem PySem.Spec L2
section
variable {tb : Tbl} {F n : Nat} {sx : Sx} {X : Cx} {md : Mode} {c : Cn} {mo : Nat → Bool}
theorem ev_mk (cf : Cfg) (cl mm : Nat) (es : Es) (env : Env) (w : Wd) : ev cf (.mk cl mm es) env w = (evA cf es env w).bind fun xs w => (cf.call mm (.ob w.length :: xs) (w ++ [.ins cl []])).bind fun r w' => match r with
    | .d .none => .ok (.ob w.length) w'
    | _ => .stuck := rfl
theorem tE_mk {cl mm : Nat} {es : Es} {Cc : Addr} (hC : c.mg (c.nm cl) = some (.ref Cc)) (σ : L2.St) (H : Hp) (Q : VK) (h : tE c ⟨callN tb F n, F⟩ mo md (.mk cl mm es) σ H Q) :
    tMake Cc (spF c tb F n mm) [] E0 (tAs c ⟨callN tb F n, F⟩ mo es) σ H Q := by
  obtain ⟨own, Xv, m, env, w, E, W, h⟩ := h
  rw [ev_mk, sat_bind] at h
  refine ⟨own, Xv, m, env, w, E, W, sat_mono h fun xs w1 h vs m1 H1 f1 W1 r1 => ?_⟩
  intro x dx hx hdx hne
  rw [sat_bind] at h
  have n1 : New H1 (L2.upd H1 dx (.own x)) := .one hdx
  have hx2 : (L2.upd H1 dx (.own x)) x = none := by rw [upd_ne (Ne.symm hne)]; exact hx
  have n2 : New (L2.upd H1 dx (.own x)) (L2.upd (L2.upd H1 dx (.own x)) x (.ins Cc dx [])) := .one hx2
  have W2 := W1.new n1
  have W3 := W2.plus (o := .ins Cc dx []) hx2
  have f2 : Fr c.K m1 m1 H1 (L2.upd (L2.upd H1 dx (.own x)) x (.ins Cc dx [])) := n1.fr.trans n2.fr
  have E1 := E.step f1 W
  have hnx : ¬ Av own Xv m1 x := (W1.dom E1).no hx
  have W4 : WOk c own Xv (m1 ++ [x]) (L2.upd (L2.upd H1 dx (.own x)) x (.ins Cc dx [])) (w1 ++ [.ins cl []]) := W3.add hnx ⟨Cc, dx, [], hC, upd_same, .nil⟩
  have f3 : Fr c.K m1 (m1 ++ [x]) H1 (L2.upd (L2.upd H1 dx (.own x)) x (.ins Cc dx [])) := f2.add hx
  have f13 := f1.trans f3
  have hix : (m1 ++ [x])[w1.length]? = some x := last_ix W1.len
  refine ⟨Pk own Xv, m1 ++ [x], w1 ++ [.ins cl []], .ob w1.length :: xs, W4.pack, (E.step f13 W).pkd, .cons ⟨x, hix, rfl⟩ ?_, sat_mono h fun z w5 h v m5 H5 f5 W5 r => ?_⟩
  · rw [List.append_nil]
    exact Paired.mapP r1 fun _ _ q => (q.keep f3 f3.kp').keep Fr.refl (.less fun b h z => h ((pk_av b).mp z))
  · cases z with
    | d y => cases y with
      | none =>
        have r : Rep c H5 _ v .none := r
        cases r
        exact ⟨rfl, h _ m5 H5 (f13.trans f5) W5.unpack ⟨x, f5.get hix, rfl⟩⟩
      | _ => exact h.elim
    | _ => exact h.elim
theorem ok_mk (cl mm : Nat) (es : Es) (hs : OkAs tb F n es) : OkE tb F n (.mk cl mm es) := by
  intro sx md ex X hc C
  cases ex with
  | Call fx xs kw pos => cases fx with
    | Name y p => cases kw with
      | cons _ _ => cases hc
      | nil =>
        have hc : (decide (sx.nmf cl = y) && globB sx.sc y && plainName y && (sx.cls.lookup cl).isSome && methB sx cl mm "__init__" && chks sx es xs) = true := hc
        obtain ⟨hc, h6⟩ := band hc
        obtain ⟨hc, h5⟩ := band hc
        obtain ⟨hc, h4⟩ := band hc
        obtain ⟨hc, h3⟩ := band hc
        obtain ⟨h1, h2⟩ := band hc
        obtain rfl := of_decide_eq_true h1
        obtain ⟨p1, _, _⟩ := plain_of h3
        cases hl : tb.lookup mm with
        | none =>
          refine PE_no ?_
          rintro σ H Q ⟨own, Xv, m, env, w, E, W, h⟩
          rw [ev_mk, sat_bind] at h
          exact no_sat h fun xs w1 h => by
            rw [sat_bind] at h
            exact no_call hl _ _ _ h
        | some d =>
          obtain ⟨al, hal⟩ := Option.isSome_iff_exists.mp h4
          obtain ⟨C1, q1, q2, q3, q4, _⟩ := C.cls cl al hal
          obtain ⟨Cc, fa, fd, g1, g2, g3, g4, g5⟩ := meth_of C h5 hl
          rw [q1] at g1
          cases g1
          have M : Mk X.K C1 fa := ⟨q3, g3.at_, g3.fn, q4⟩
          cases xs with
          | nil =>
            cases es with
            | cons _ _ => cases h6
            | nil =>
              refine PE_imp (pe_make0 M g5 C.room (gl_of C h2) q1 g4 .nil passL p1) fun σ H Q q => ?_
              obtain ⟨own, Xv, m, env, w, E, W, h⟩ := tE_mk q1 σ H Q q
              exact h [] m H Fr.refl W .nil
          | cons e es' =>
            have hst : starB e = false := by
              cases es with
              | nil => cases h6
              | cons e0 r0 => exact bnot (band (band (show (chk sx .keep e0 e && !starB e && chks sx r0 es') = true from h6)).1).2
            have hr : (backTo pos (starEach es' X.env)).any (·.1) = false := by
              cases es with
              | nil => cases h6
              | cons e0 r0 => exact any_of (es := r0) (xs := es') (band (show (chk sx .keep e0 e && !starB e && chks sx r0 es') = true from h6)).2
            exact PE_imp (pe_make M g5 C.room (gl_of C h2) q1 g4 .nil passL (hs sx _ X h6 C) p1 (star_of hst) hr) fun σ H Q q => tE_mk q1 σ H Q q
    | _ => cases hc
  | _ => cases hc
end
end Mx

set_option Elab.async false
set_option linter.all false
set_option maxRecDepth 100000
set_option maxHeartbeats 1000000
/-! Mxt: the empty dict, count, index. -/
namespace Mx
open PySem PySem.Spec L2
section
variable {tb : Tbl} {F n : Nat} {sx : Sx} {X : Cx} {md : Mode} {c : Cn} {mo : Nat → Bool} {H : Hp} {A : Addr → Prop} {nm : Nat → Str}
def tDNew : TE := fun _ H Q => ∀ p, H p = none → ∀ L ep, L = [] → Q (.ref p) (L2.upd H p (dRaw p L ep))
theorem pe_dnewR {pos : Pos} : PE X (.Dict [] [] pos) tDNew := ⟨fun pins s σ H Q I h =>
  wpAny_Dict_empty ⟨.ref s.heap.objs.size, _, I.laid (a := s.heap.objs.size) (o := dRaw s.heap.objs.size [] 0) (t' := s.toks) (fun _ _ q => Heap.get?_push_of_some _ q) (Nat.le_refl _)
    ⟨⟨beq_eq_false_iff_ne.mpr (Nat.ne_of_gt I.big), Nat.zero_le _, _, #[], Heap.get?_push_size _ rfl, ⟨rfl, rfl, rfl⟩, rfl, rfl⟩, ⟨_, Heap.get?_push_size _ rfl⟩, by
      rintro g1 g2 ⟨a1, a2, o, es2, a3, a4, a5, a6⟩ k
      exact ⟨a1, a2, o, es2, k o a3, a4, a5, a6⟩⟩, rfl, h _ (I.hok.fresh (Nat.le_refl _)) [] 0 rfl⟩⟩
theorem ok_dct0 : OkE tb F n (.dct .nil .nil) := by
  intro sx md ex X hc C
  cases ex with
  | Dict ks vs pos =>
    rcases ks with _ | ⟨_, _⟩ <;> rcases vs with _ | ⟨_, _⟩ <;> first | (cases hc; done) | skip
    refine PE_imp pe_dnewR ?_
    rintro σ H Q ⟨own, Xv, m, env, w, E, W, h⟩ p hp L ep hL
    subst hL
    have h : ∀ v m' H', Fr (cn X sx.nmf).K m m' H H' → WOk (cn X sx.nmf) own Xv m' H' w → RepM (cn X sx.nmf) own Xv md H m' H' w (.d (.dict [])) v → Q v H' := h
    have nw : New H (L2.upd H p (dRaw p [] ep)) := .one hp
    have rd : RepD (cn X sx.nmf) .fresh H (L2.upd H p (dRaw p [] ep)) (Av own Xv m) m (.ref p) (.dict []) := .inr ⟨p, rfl, hp, (W.dom E).no hp, [], ep, upd_same, ⟨List.nodup_nil, fun q hq => (List.not_mem_nil hq).elim⟩, .nil⟩
    exact h _ m _ nw.fr (W.new nw) ⟨RepD.le (fresh_all md) rd, FW.new nw W rd⟩
  | _ => cases hc
/-- count and index of a list, by values -/
def rFind (c : Cn) (g : List D → D → Option D) : V → List V → Hp → VK → Prop := fun x xs H Q => match xs with
  | [y] => ∃ (A : Addr → Prop) (ds : List D) (dy z : D), Dom A H ∧ RepB c H A [] x (.list ds) ∧ RepB c H A [] y dy ∧ g ds dy = some z ∧ ∀ v H', New H H' → RepD c .fresh H H' A [] v z → Q v H'
  | _ => False
theorem mt_cntM (hu : X.A.units + 66 < cLine) : MtR X "list.count" (rFind (cn X nm) cntG) := by
  intro pins s σ H x xs v us Q I rx rxs h
  rcases xs with _ | ⟨y, _ | ⟨_, _⟩⟩
  · exact h.elim
  · obtain ⟨A, ds, dy, z, hA, hx, hy, hg, q⟩ := h
    obtain ⟨u, rfl, ru⟩ := vals1 rxs
    have hg : (if shp dy && PyData.canLayAll0 ds then some (PyData.int (ds.countP fun z => PyData.eqv z dy)) else none) = some z := hg
    split at hg
    · rename_i hc
      obtain ⟨h1, h2⟩ := band hc
      cases hg
      obtain ⟨a, vs, rfl, ha, ra⟩ := hx.lst
      cases rx
      obtain ⟨its, rv, p, _⟩ := I.list ha
      obtain ⟨as, rs⟩ := Reps.reads I ra rv
      obtain ⟨bs, rb⟩ := hy.reads I ru
      refine SeqAt.count_list_data p.isList rs rb (PyData.plainAll_of_canLay0 _ h2) (PyData.plain_of_canLay0 _ (SeqAt.canLay_of_shaped h1)) (by have h3 := SeqAt.depth_of_shaped h1; omega) ?_
      exact ⟨.int _, H, I.tok _, ⟨_, rfl⟩, q _ _ .same (freshS (.int _) rfl)⟩
    · cases hg
  · exact h.elim
theorem mt_idxM (hu : X.A.units + 66 < cLine) : MtR X "list.index" (rFind (cn X nm) idxG) := by
  intro pins s σ H x xs v us Q I rx rxs h
  rcases xs with _ | ⟨y, _ | ⟨_, _⟩⟩
  · exact h.elim
  · obtain ⟨A, ds, dy, z, hA, hx, hy, hg, q⟩ := h
    obtain ⟨u, rfl, ru⟩ := vals1 rxs
    unfold idxG at hg
    split at hg
    · rename_i hc
      obtain ⟨h1, h2⟩ := band hc
      cases hf : ds.findIdx? (fun z => PyData.eqv z dy) with
      | none => rw [hf] at hg; cases hg
      | some j =>
        rw [hf] at hg
        cases hg
        obtain ⟨a, vs, rfl, ha, ra⟩ := hx.lst
        cases rx
        obtain ⟨its, rv, ⟨⟨cls, dd, data, sls⟩, n, ho, hcl, hdn, hdt⟩, hlen⟩ := I.list ha
        simp only at hcl hdt
        subst hcl hdt
        obtain ⟨as, rs⟩ := Reps.reads I ra rv
        obtain ⟨bs, rb⟩ := hy.reads I ru
        have hn : its.length = ds.length := SeqAt.ReadsAll.length ds its as rs
        have hmap : its.map (SeqAt.readOf s.heap) = ds := SeqAt.readsAll_map ds its as h2 rs
        have hsl := sizeLine_eq
        have hvl := rv.length
        obtain ⟨hjd, e1, e2⟩ := List.findIdx?_eq_some_iff_getElem.mp hf
        have hj : j < its.toArray.size := by simpa [hn] using hjd
        have at_ : ∀ (m : Nat) (hm : m < its.toArray.size) (hd : m < ds.length), SeqAt.readOf s.heap its.toArray[m] = ds[m] := by
          intro m hm hd
          have hml : m < its.length := by simpa using hm
          have : ds[m]? = some (SeqAt.readOf s.heap its[m]) := by rw [← hmap, List.getElem?_map, List.getElem?_eq_getElem hml]; rfl
          rw [List.getElem?_eq_getElem hd] at this
          simpa using (Option.some.inj this).symm
        have hroom : X.A.units + 1 + min (PyData.depthAll ds) dy.depth < cLine := by have h3 := SeqAt.depth_of_shaped h1; omega
        refine call_meets PySem.F.slot_list_index ⟨_, ho, rfl⟩ PySem.F.entry_list_index (PySem.F.args_list_index_2 _ _)
          (SeqAt.list_indexAt a its.toArray n dd sls u (fun u => PyData.eqv (SeqAt.readOf s.heap u) dy) j hj (by omega) ?_ ?_) ⟨ho, SeqAt.items_eqAt (vs := its.toArray) (show ReadsAll s.heap its.toArray.toList ds as from rs) rb h2 (SeqAt.canLay_of_shaped h1) hroom, ?_⟩
        · show PyData.eqv (SeqAt.readOf s.heap its.toArray[j]) dy = true
          rw [at_ j hj hjd]
          exact e1
        · intro m hm hmj
          show PyData.eqv (SeqAt.readOf s.heap its.toArray[m]) dy = false
          rw [at_ m hm (by omega)]
          have := e2 m hmj
          simpa using this
        · exact ⟨.int (j : Nat), H, I.tok _, ⟨_, rfl⟩, q _ _ .same (freshS (.int _) rfl)⟩
    · cases hg
  · exact h.elim
theorem tE_find {a b : E} {e : E} {g : List D → D → Option D} {cf : Cfg} (hev : ∀ env w, ev cf e env w = (ev cf a env w).dat.bind fun x w => (ev cf b env w).dat.bind fun y w => (ofO ((listD x).bind fun xs => g xs y) w).bind fun z w => .ok (.d z) w) (σ : L2.St) (H : Hp) (Q : VK) :
    tE c cf mo md e σ H Q → tMM c.K "list" (rFind c g) (tE c cf mo .look a) (tCons (tE c cf mo .peek b) tNil) σ H Q := by
  rintro ⟨own, Xv, m, env, w, E, W, h⟩
  rw [hev, sat_bind, sat_dat] at h
  refine ⟨own, Xv, m, env, w, E, W, sat_mono h fun x1 w1 h v1 m1 H1 f1 W1 r1 => ?_⟩
  obtain ⟨dx, rfl, h⟩ := h
  rw [sat_bind, sat_dat] at h
  obtain ⟨_, _, dy0, _, hz⟩ := sat_ex h
  rw [sat_bind, sat_ofO] at hz
  obtain ⟨z0, hz0, _⟩ := hz
  have r1' : RepB c H1 (Av own Xv m1) m1 v1 dx := r1.1
  cases dx with
  | list ds =>
    obtain ⟨a, vs, rfl, ha, ra⟩ := r1'.lst
    refine ⟨⟨a, rfl, .inl ⟨rfl, vs, ha⟩⟩, own, Xv, m1, env, w1, E.step f1 W, W1, sat_mono h fun x2 w2 h v2 m2 H2 f2 W2 r2 => ?_⟩
    obtain ⟨dy, rfl, h⟩ := h
    rw [sat_bind, sat_ofO] at h
    obtain ⟨z, hz, h⟩ := h
    have f12 := f1.trans f2
    exact ⟨Av own Xv m2, ds, dy, z, W2.dom (E.step f12 W), (r1'.keep f2).all, r2.1, hz, fun v H' n rd => h v m2 H' (f12.trans n.fr) (W2.new n) ⟨(rd.back rfl f12 W2).le (fresh_all md), FW.new n W2 rd⟩⟩
  | _ => cases hz0
theorem baseC_of {x : Expr} {f : Str} {env : PySem.Env} (h : baseC x = true) : attributeBase x f env (eval x env) = eval x env := by
  cases x with
  | Call fx xs kw pos => cases fx <;> first | rfl | cases h
  | _ => rfl
theorem ok_cnt (a b : E) (ha : OkE tb F n a) (hb : OkE tb F n b) : OkE tb F n (.cnt a b) := by
  intro sx md ex X hc C
  cases ex with
  | Call fx xs kw cpos => cases fx with
    | Attribute ox y apos =>
      rcases xs with _ | ⟨x, _ | ⟨_, _⟩⟩ <;> rcases kw with _ | ⟨_, _⟩ <;> first | (cases hc; done) | skip
      have hc : (decide (y = "count") && (apos.endLine == cpos.line) && chk sx .look a ox && baseC ox && chk sx .peek b x && !starB x) = true := hc
      obtain ⟨hc, h6⟩ := band hc
      obtain ⟨hc, h5⟩ := band hc
      obtain ⟨hc, h4⟩ := band hc
      obtain ⟨hc, h3⟩ := band hc
      obtain ⟨h1, h2⟩ := band hc
      obtain rfl := of_decide_eq_true h1
      exact PE_imp (pe_mm PySem.F.plainAttrs_list PySem.F.slot_list_count PySem.F.type_list_count (mt_cntM (nm := sx.nmf) C.units) (ha sx .look ox X h3 C) (pa_cons (hb sx .peek x X h5 C) pa_nil (star_of (bnot h6))) (baseC_of h4) (few1 (bnot h6)) h2 (star_of (bnot h6)) rfl) fun σ H Q q => tE_find (c := cn X sx.nmf) (g := cntG) (fun env w => rfl) σ H Q q
    | _ => cases hc
  | _ => cases hc
theorem ok_index (a b : E) (ha : OkE tb F n a) (hb : OkE tb F n b) : OkE tb F n (.index a b) := by
  intro sx md ex X hc C
  cases ex with
  | Call fx xs kw cpos => cases fx with
    | Attribute ox y apos =>
      rcases xs with _ | ⟨x, _ | ⟨_, _⟩⟩ <;> rcases kw with _ | ⟨_, _⟩ <;> first | (cases hc; done) | skip
      have hc : (decide (y = "index") && (apos.endLine == cpos.line) && chk sx .look a ox && baseC ox && chk sx .peek b x && !starB x) = true := hc
      obtain ⟨hc, h6⟩ := band hc
      obtain ⟨hc, h5⟩ := band hc
      obtain ⟨hc, h4⟩ := band hc
      obtain ⟨hc, h3⟩ := band hc
      obtain ⟨h1, h2⟩ := band hc
      obtain rfl := of_decide_eq_true h1
      exact PE_imp (pe_mm PySem.F.plainAttrs_list PySem.F.slot_list_index PySem.F.type_list_index (mt_idxM (nm := sx.nmf) C.units) (ha sx .look ox X h3 C) (pa_cons (hb sx .peek x X h5 C) pa_nil (star_of (bnot h6))) (baseC_of h4) (few1 (bnot h6)) h2 (star_of (bnot h6)) rfl) fun σ H Q q => tE_find (c := cn X sx.nmf) (g := idxG) (fun env w => rfl) σ H Q q
    | _ => cases hc
  | _ => cases hc
end
end Mx

set_option Elab.async false
set_option linter.all false
set_option maxRecDepth 100000
set_option maxHeartbeats 1000000
/-! Mxu: enumerate of a list. -/
namespace Mx
open PySem PySem.Spec L2
section
variable {tb : Tbl} {F n : Nat} {sx : Sx} {X : Cx} {md : Mode} {c : Cn} {mo : Nat → Bool} {H : Hp} {A : Addr → Prop} {nm : Nat → Str}
theorem enuD_len : ∀ {xs : List D} {k : Int}, (enuD k xs).length = xs.length
  | [], _ => rfl
  | x :: xs, k => by show (enuD (k + 1) xs).length + 1 = _; rw [enuD_len]; rfl
theorem enuD_get : ∀ {xs : List D} {k : Int} {i : Nat} {d : D}, (enuD k xs)[i]? = some d → ∃ x, xs[i]? = some x ∧ d = .tuple [.int (k + i), x]
  | [], _, _, _, h => by simp [enuD] at h
  | x :: xs, k, 0, d, h => by
    have h : some (PyData.tuple [.int k, x]) = some d := h
    cases h
    exact ⟨x, rfl, by simp⟩
  | x :: xs, k, i + 1, d, h => by
    obtain ⟨y, h1, h2⟩ := enuD_get (xs := xs) (k := k + 1) (i := i) h
    refine ⟨y, h1, ?_⟩
    rw [h2]
    congr 3
    push_cast
    omega
theorem walk_enu {o : HO} {a : Addr} {v : V} {xs : List D} (hv : v = .ref a) : Walk c true (Ite c.K a) [(v, .list xs, o)] (enuD 0 xs) where
  go := fun H A i hA h hi => by
    obtain ⟨_, vs, e, hq, r⟩ := (h _ (List.mem_singleton.mpr rfl)).1.lst
    subst hv; cases e
    rw [enuD_len] at hi
    obtain ⟨u, hu, _⟩ := r.get (List.getElem?_eq_getElem hi)
    exact ⟨vs, u, hq, hu⟩
  yld := fun H A i x H' hA h y d hd => by
    obtain ⟨_, vs, e, hq, r⟩ := (h _ (List.mem_singleton.mpr rfl)).1.lst
    subst hv; cases e
    obtain ⟨z, h1, rfl⟩ := enuD_get hd
    obtain ⟨u, hu, ru⟩ := r.get h1
    obtain ⟨T, q1, rfl, hT, rfl, g1⟩ := y
    have e1 := g1 vs hq
    rw [hu] at e1
    cases e1
    refine ⟨.one hT, pair_rep hT ?_ ru⟩
    rw [Int.zero_add]
    exact .int _
  stop := fun H A hA h => by
    obtain ⟨_, vs, e, hq, r⟩ := (h _ (List.mem_singleton.mpr rfl)).1.lst
    subst hv; cases e
    exact ⟨vs, hq, by rw [enuD_len, r.length]; exact Nat.le_refl _⟩
end
end Mx

set_option Elab.async false
set_option linter.all false
set_option maxRecDepth 100000
set_option maxHeartbeats 1000000
/-! Mxv: list comprehensions of two clauses. -/
namespace Mx
open PySem PySem.Spec L2
section
variable {tb : Tbl} {F n : Nat} {sx : Sx} {X : Cx} {md : Mode} {c : Cn} {cf : Cfg} {mo : Nat → Bool} {own : Ow} {Xv : Addr → Prop} {m m' : List Addr} {H H' : Hp} {env : Env} {σ : L2.St} {w w' : Wd}
theorem Walk.more {J : L2.It} {src src2 : List Src} {ds : List D} {b : Bool} (W : Walk c b J src ds) : Walk c b J (src ++ src2) ds :=
  ⟨fun H A i hA h => W.go H A i hA fun p hp => h p (List.mem_append_left _ hp), fun H A i x H' hA h => W.yld H A i x H' hA fun p hp => h p (List.mem_append_left _ hp), fun H A hA h => W.stop H A hA fun p hp => h p (List.mem_append_left _ hp)⟩
theorem lcLL_cons (step : D → Wd → Res (List D)) (x : D) (xs : List D) (w : Wd) : lcLL step (x :: xs) w = (step x w).bind fun o w => (lcLL step xs w).bind fun r w => .ok (o ++ r) w := rfl
theorem ev_lc2 (cf : Cfg) (vs : List Nat) (tg : Tg) (it : It) (tg2 : Tg) (it2 : It) (ifs : Eo) (elt : E) (env : Env) (w : Wd) : ev cf (.lc2 vs tg it tg2 it2 ifs elt) env w = (evI cf it env w).bind fun xs w => (lcLL (fun x w => (ofO (bindTg (wipeE env vs) tg x) w).bind fun env' w => (evI cf it2 env' w).bind fun xs2 w =>
      (lcL (fun x w => (ofO (bindTg (wipeE env' tg2.ix) tg2 x) w).bind fun env2 w => (evT cf ifs env2 w).bind fun t w => if t then (ev cf elt env2 w).dat.bind fun y w => .ok (some y) w else .ok none w) xs2 w)) xs w).bind fun ys w =>
        if fits ys.length then .ok (.d (.list ys)) w else .stuck := rfl
theorem tE_lc2 {vs : List Nat} {tg tg2 : Tg} {it it2 : It} {ifs : Eo} {elt : E} (hb : it.loose = true → tg.isTup = true) (hb2 : it2.loose = true → tg2.isTup = true) (hix : ∀ i ∈ tg.ix, i ∈ vs) (hix2 : ∀ i ∈ tg2.ix, i ∈ vs) (hvs : ∀ i ∈ vs, mo i = false) (σ : L2.St) (H : Hp) (Q : VK) (h : tE c cf mo md (.lc2 vs tg it tg2 it2 ifs elt) σ H Q) :
    tLc2 (tI c cf mo .look it) (gT c.K tg) (tTs c cf mo .none) (tI c cf mo .keep it2) (gT c.K tg2) (tTs c cf mo ifs) (tE c cf mo .keep elt) vs tg2.ix σ H Q := by
  obtain ⟨own, Xv, m, env, w, E, W, h⟩ := h
  rw [ev_lc2, sat_bind] at h
  refine ⟨own, Xv, m, env, w, E, W, sat_mono h fun ds w1 h J src m1 H1 f1 W1 wk hs => ?_⟩
  intro Dd hD
  rw [sat_bind] at h
  have E1 := (E.step f1 W).wipe hvs
  have S : CS c mo own Xv m H [] (wipeE env vs) (wipe σ vs) src Dd m1 (L2.upd H1 Dd (.lst [])) w1 (.list []) :=
    CS.start E1 W1 f1 hD (fun p hp => ⟨(hs p hp).1, (hs p hp).2⟩) ⟨[], upd_same, .nil⟩
  let Fin : List D → Wd → Prop := fun ys w => (if fits ys.length then Res.ok (Vl.d (.list ys)) w else .stuck).sat fun x w' => ∀ (v : V) (m' : List Addr) (H' : Hp), Fr c.K m m' H H' → WOk c own Xv m' H' w' → RepM c own Xv md H m' H' w' x v → Q v H'
  have hfit : ∀ ys w, Fin ys w → ys.length ≤ sizeLine := fun ys w fin => fits_le (sat_if fin).1
  let inner : Env → D → Wd → Res (Option D) := fun env' x w => (ofO (bindTg (wipeE env' tg2.ix) tg2 x) w).bind fun env2 w => (evT cf ifs env2 w).bind fun t w => if t then (ev cf elt env2 w).dat.bind fun y w => .ok (some y) w else .ok none w
  let step : D → Wd → Res (List D) := fun x w => (ofO (bindTg (wipeE env vs) tg x) w).bind fun env' w => (evI cf it2 env' w).bind fun xs2 w => lcL (inner env') xs2 w
  let Nxt : Nat → Hp → Prop := fun i Hh => ∃ m' w' ys, CS c mo own Xv m H [] (wipeE env vs) (wipe σ vs) src Dd m' Hh w' (.list ys) ∧ (lcLL step (ds.drop i) w').sat fun r w'' => Fin (ys ++ r) w''
  refine ⟨fun i k Hh => k = ds.length - i ∧ i ≤ ds.length ∧ Nxt i Hh, ⟨ds.length, rfl, Nat.zero_le _, m1, w1, [], S, by rw [List.drop_zero]; exact h⟩, ?_⟩
  rintro i k Hh ⟨rfl, hi, m2, w2, ys, S1, hr⟩
  have dom : Dom (Av own (Plus Xv Dd) m2) Hh := S1.W.dom S1.E
  have so : ∀ p ∈ src, SrcB c Hh (Av own (Plus Xv Dd) m2) [] p := fun p hp => (S1.src p hp).all
  by_cases hlt : i < ds.length
  · refine .inr ⟨wk.go Hh _ i dom so hlt, Nxt (i + 1), fun H' h' => ⟨ds.length - (i + 1), by omega, rfl, hlt, h'⟩, fun x H' y => ?_⟩
    have hd : ds[i]? = some ds[i] := List.getElem?_eq_getElem hlt
    obtain ⟨nw, rx⟩ := wk.yld Hh _ i x H' dom so y _ hd
    have S2 := S1.new nw
    rw [drop_get hd, lcLL_cons, sat_bind] at hr
    have hr : ((ofO (bindTg (wipeE env vs) tg ds[i]) w2).bind fun env' w => (evI cf it2 env' w).bind fun xs2 w => lcL (inner env') xs2 w).sat _ := hr
    rw [sat_bind, sat_ofO] at hr
    obtain ⟨env2, he2, hr⟩ := hr
    refine gT_ok (fun j hj => hvs j (hix j hj)) he2 hb rx S2.E fun σ2 E2 on => ⟨(on vs hix).trans wipe_wipe, ?_⟩
    refine ⟨own, Plus Xv Dd, m2, env2, w2, E2, S2.W, ?_⟩
    show ∀ m' H'', _
    intro m3 H3 f3 W3
    have S3 := S2.step f3 W3
    have E3 := E2.step f3 S2.W
    rw [sat_bind] at hr
    show tI c cf mo .keep it2 σ2 H3 _
    refine ⟨own, Plus Xv Dd, m3, env2, w2, E3, W3, sat_mono hr fun ds2 w4 hr J1 src1 m4 H4 f4 W4 wk1 hs1 => ?_⟩
    have S4 := S3.step f4 W4
    have E4 := (E3.step f4 W3).wipe fun j hj => hvs j (hix2 j hj)
    have SI : CS c mo own Xv m H [(wipeE env vs, wipe σ vs)] (wipeE env2 tg2.ix) (wipe σ2 tg2.ix) (src1 ++ src) Dd m4 H4 w4 (.list ys) := by
      refine ⟨S4.h0, S4.fr, S4.W, E4, fun p hp => ?_, S4.dd, fun p hp => ?_⟩
      · rw [List.mem_singleton.mp hp]; exact S4.E
      · rcases List.mem_append.mp hp with hp | hp
        · exact ⟨.of (hs1 p hp).1, (hs1 p hp).2⟩
        · exact S4.src p hp
    have hr2 : (lcL (inner env2) ds2 w4).sat fun r w => (lcLL step (ds.drop (i + 1)) w).sat fun r' w'' => Fin ((ys ++ r) ++ r') w'' := by
      refine sat_mono hr fun r w5 h5 => ?_
      rw [sat_bind] at h5
      refine sat_mono h5 fun r' w6 h6 => ?_
      rw [List.append_assoc]
      exact h6
    refine lc_turns (Fin := fun zs w => (lcLL step (ds.drop (i + 1)) w).sat fun r' w'' => Fin (zs ++ r') w'') (Q := Nxt (i + 1)) hb2 wk1.more (fun j hj => hj) (fun j hj => hvs j (hix2 j hj)) SI (fun zs w hz => ?_) hr2 fun m5 H5 w5 zs S5 hz => ⟨m5, w5, zs, ⟨S5.h0, S5.fr, S5.W, S5.more _ (List.mem_singleton.mpr rfl), fun p hp => (List.not_mem_nil hp).elim, S5.dd, fun p hp => S5.src p (List.mem_append_right _ hp)⟩, hz⟩
    obtain ⟨r', w'', hf⟩ := sat_ex hz
    have := hfit _ _ hf
    rw [List.length_append] at this
    omega
  · have e : i = ds.length := by omega
    subst e
    rw [List.drop_length] at hr
    have hr : Fin (ys ++ []) w2 := hr
    rw [List.append_nil] at hr
    obtain ⟨g1, g2, g3⟩ := S1.done (md := md) E.xd
    exact .inl ⟨wk.stop Hh _ dom so, (sat_if hr).2 _ m2 Hh g1 g2 g3⟩
end
end Mx

set_option Elab.async false
set_option linter.all false
set_option maxRecDepth 100000
set_option maxHeartbeats 1000000
/-! Mxw: blocks of comprehensions, any clause and any end of a turn. -/
namespace Mx
open PySem PySem.Spec L2
/-- what a turn of a block's loop does; Bd: with an item that passed the tests -/
structure TurnIs (cx tg : Expr) (ifs : List Expr) (k : Nat) (p : Pos) (it acc : Value) (ev : PySem.Env) (Bd : Sem Unit) : Prop where
  den : ∀ prog w, (model prog w).den (.compLoop cx k it acc ev) = (compTurn cx k it acc ev).onRaise fun x => do noteFrame x ev; theTreesLotGoes x
  und : ∀ A : Around, A.under (.compLoop cx k it acc ev) = A
  turn : compTurn cx k it acc ev = (do
    standAt p
    match ← pyNext it with
    | none => pure (.done .next)
    | some v =>
      letOwnedTupleGo tg it v
      assign tg ev v
      let mut ok := true
      for c in ifs do
        if ok then ok ← isTrue c ev (eval c ev)
      if ok then
        Bd
      again (.compLoop cx k it acc ev))
section
variable {prog : Program} {w : World} {A : Around} {R : Result → Shared → Prop} {s : Shared} {cx tg : Expr} {ifs : List Expr} {k : Nat} {p : Pos} {it acc : Value} {ev : PySem.Env} {Bd : Sem Unit}
theorem gen_loop (ht : TurnIs cx tg ifs k p it acc ev Bd) (J : Nat → Shared → Prop)
    (turn : ∀ n s, J n s → wpAny (model prog w) A (pyNext it) (fun r s1 => match r with
      | none => R (.ok .next) s1
      | some v => wpAny (model prog w) A (letOwnedTupleGo tg it v) (fun _ s2 => wpAny (model prog w) A (assign tg ev v) (fun _ s3 =>
          wpAny (model prog w) A (forIn ifs true fun c r => if r = true then do let ok ← isTrue c ev (eval c ev); pure (ForInStep.yield ok) else pure (ForInStep.yield r)) (fun ok s4 =>
            if ok = true then wpAny (model prog w) A Bd (fun _ s5 => ∃ m, m < n ∧ J m s5) (notedBy (model prog w) A ev fun e s' => R (.error e) s') s4
            else ∃ m, m < n ∧ J m s4) (notedBy (model prog w) A ev fun e s' => R (.error e) s') s3) (notedBy (model prog w) A ev fun e s' => R (.error e) s') s2) (notedBy (model prog w) A ev fun e s' => R (.error e) s') s1) (notedBy (model prog w) A ev fun e s' => R (.error e) s') s)
    (n : Nat) (h : J n s) : codeAny (model prog w) A (.compLoop cx k it acc ev) R s := by
  refine codeAny_loop rfl J (fun n s hJ => ?_) n h
  rw [ht.den, ht.und]
  refine wpAny_noted ?_
  rw [ht.turn]
  refine wpAny_bind (wpAny_standAt (wpAny_bind (wpAny_mono (turn n s hJ) (fun r s1 h1 => ?_) fun _ _ z => z)))
  cases r with
  | none => exact wpAny_pure h1
  | some v =>
    refine wpAny_bind (wpAny_mono h1 (fun _ s2 h2 => wpAny_bind (wpAny_mono h2 (fun _ s3 h3 => wpAny_bind (wpAny_mono h3 (fun ok s4 h4 => ?_) fun _ _ z => z)) fun _ _ z => z)) fun _ _ z => z)
    cases ok with
    | false => exact wpAny_pure ⟨rfl, h4⟩
    | true => exact wpAny_bind (wpAny_mono h4 (fun _ s5 h5 => wpAny_pure ⟨rfl, h5⟩) fun _ _ z => z)
end
/-- σ' knows what σ knows outside vs -/
def Knows (vs : List Nat) (σ σ' : L2.St) : Prop := σ'.length = σ.length ∧ ∀ (j : Nat) v, (wipe σ vs)[j]? = some (some v) → σ'[j]? = some (some v)
theorem Knows.refl {vs : List Nat} {σ : L2.St} : Knows vs σ σ := ⟨rfl, fun j v e => (wipe_some e).1⟩
/-- an item's end, from one frame to the next -/
def PB (Y : Cx) (vs : List Nat) (Bd : Sem Unit) (t : L2.St → Hp → (Hp → Prop) → Prop) : Prop :=
  ∀ (pins : List (Addr × Obj)) (s : Shared) (σ : L2.St) (H : Hp) (N : Hp → Prop), Inv Y pins σ H s → t σ H N → ∀ E, wpAny (model Y.prog Y.w) Y.A Bd (fun _ s' => ∃ σ' H', Inv Y pins σ' H' s' ∧ Knows vs σ σ' ∧ N H') E s
/-- the turns of a loop over J, from H, with names vs of its own; Q: what comes behind -/
def tTurns (J : L2.It) (g : TG) (tt : TT) (tb : L2.St → Hp → (Hp → Prop) → Prop) (vs : List Nat) (σ : L2.St) (H : Hp) (Q : Hp → Prop) : Prop :=
  ∃ W : Nat → Nat → Hp → Prop, (∃ m, W 0 m H) ∧ ∀ i m H, W i m H →
    (J.stop i H ∧ Q H) ∨ (J.go i H ∧ ∃ Nx : Hp → Prop, (∀ H', Nx H' → ∃ m', m' < m ∧ W (i + 1) m' H') ∧ ∀ x H', J.yld i H x H' → g x (wipe σ vs) H' fun σ2 H2 => wipe σ2 vs = wipe σ vs ∧ tt σ2 H2 fun b H3 =>
      if b = true then tb σ2 H3 Nx else Nx H3)
section
variable {Y : Cx} {cx tg : Expr} {ifs : List Expr} {k : Nat} {p : Pos} {acc : Value} {Bd : Sem Unit} {g : TG} {tt : TT} {tb : L2.St → Hp → (Hp → Prop) → Prop} {vs ws : List Nat} {R : Result → Shared → Prop}
theorem wipe_sub {σ σ' : L2.St} (hv : ∀ i ∈ vs, i ∈ ws) (kn : Knows ws σ σ') : ∀ (j : Nat) v, (wipe σ ws)[j]? = some (some v) → (wipe σ' vs)[j]? = some (some v) := fun j v e => by
  obtain ⟨e1, e2⟩ := wipe_some e
  rw [wipe_out fun z => e2 (hv j z)]
  exact kn.2 j v e
/-- a loop of a block in its frame Y -/
theorem run_turns {pins : List (Addr × Obj)} {s : Shared} {σ : L2.St} {H : Hp} {Q : Hp → Prop} {J : L2.It} {it : Addr} {fp : List Addr} {tn : Nat → Heap → Prop} (hc : Y.calm = true) (T : Turn Y.prog Y.w Y.K tg J fp it tn)
    (ht : TurnIs cx tg ifs k p (.ref it) acc Y.env Bd) (hg : PG Y tg g) (htt : PTs Y ifs tt) (hb : PB Y vs Bd tb) (hxe : Y.xe = fun _ _ => False)
    (I : Inv Y pins (wipe σ vs) H s) (st : tn 0 s.heap) (f : ∀ b ∈ fp, FpOk Y pins H b) (h : tTurns J g tt tb vs σ H Q)
    (hR : ∀ s' H', Inv Y pins (wipe σ vs) H' s' → Q H' → R (.ok .next) s') : codeAny (model Y.prog Y.w) Y.A (.compLoop cx k (.ref it) acc Y.env) R s := by
  obtain ⟨W, ⟨m0, w0⟩, turn⟩ := h
  refine gen_loop ht (fun n s' => ∃ i H', Inv Y pins (wipe σ vs) H' s' ∧ tn i s'.heap ∧ (∀ b ∈ fp, H' b = none) ∧ W i n H') ?_ m0 ⟨0, H, I, st, fun b hb => (f b hb).1, w0⟩
  rintro n s5 ⟨i, H5, I5, st5, n5, w5⟩
  have sta : ∀ {H' : Hp}, (∀ b ∈ fp, H' b = none) → ∀ b ∈ fp, FpOk Y pins H' b := fun hn b hb => ⟨hn b hb, (f b hb).2⟩
  rcases turn i n H5 w5 with ⟨stop, qq⟩ | ⟨go, Nx, hNx, step⟩
  · refine thnF (T.done Y rfl rfl rfl hc i pins s5 _ H5 (fun _ _ => False) I5 (sta n5) st5 stop) fun r s6 ⟨hr, I6⟩ => ?_
    subst hr
    exact hR s6 H5 I6 qq
  · refine thnF (T.item Y rfl rfl rfl hc i pins s5 _ H5 (fun _ _ => False) I5 (sta n5) st5 go) fun r s6 ⟨u, hr, h6⟩ => ?_
    subst hr
    refine thnF h6 fun _ s7 ⟨x, H7, I7, r7, y7, st7, n7⟩ => ?_
    have P7 := I7.pinned (sta n7) (T.obj _ _ st7)
    have xf : ∀ {M : Model} {B : Around} {α : Type} {t : Sem α} {Q' : α → Shared → Prop} {E : Value → Shared → Prop} {z : Shared}, wpAny M B t Q' Y.xe z → wpAny M B t Q' E z := fun {M B α t Q' E z} q => by rw [hxe] at q; exact thnF q fun _ _ y => y
    refine thnF (hxe ▸ hg.run _ s7 _ H7 x u _ P7 r7 (step x H7 y7)) fun _ s8 ⟨σ8, H8, I8, hw8, q8⟩ => ?_
    refine thnF (hxe ▸ htt.run _ s8 σ8 H8 _ I8 q8) fun b s9 ⟨H9, I9, q9⟩ => ?_
    have fin : ∀ {σ' : L2.St} {s' : Shared} {H' : Hp}, Inv Y (pins ++ pinsAt fp s7.heap) σ' H' s' → Knows vs σ8 σ' → Nx H' → ∃ m, m < n ∧ ∃ i H', Inv Y pins (wipe σ vs) H' s' ∧ tn i s'.heap ∧ (∀ b ∈ fp, H' b = none) ∧ W i m H' := fun {σ' s' H'} I' kn nx => by
      obtain ⟨m', hm, w'⟩ := hNx H' nx
      have pn : ∀ b ∈ fp, ∀ o, s7.heap.get? b = some o → s'.heap.get? b = some o ∧ H' b = none := fun b hb o e =>
        have z := I'.pin (b, o) (List.mem_append_right _ (List.mem_append_right _ (mem_pinsAt hb e)))
        ⟨z.1, z.2.1⟩
      refine ⟨m', hm, i + 1, H', I'.unpinned.weak (by rw [kn.1, ← wipe_length σ8 vs, hw8]) (fun j v e => by rw [← hw8] at e; exact kn.2 j v e), T.keep _ _ _ st7 fun b hb o e => (pn b hb o e).1, fun b hb => ?_, w'⟩
      obtain ⟨o, e, _⟩ := T.obj _ _ st7 b hb
      exact (pn b hb o e).2
    cases b with
    | false =>
      simp only [Bool.false_eq_true, if_false] at q9 ⊢
      exact fin I9 Knows.refl q9
    | true =>
      simp only [if_true] at q9 ⊢
      exact wpAny_mono (hb _ s9 σ8 H9 _ I9 q9 _) (fun _ s10 ⟨σ', H', I10, kn, nx⟩ => fin I10 kn nx) fun _ _ z => z
end
/-! ### dict comprehensions -/
section
variable {X : Cx} {kx vx tg iter tg1 iter1 : Expr} {ifs ifs1 : List Expr} {scope : Scope} {pos : Pos}
/-- k: v of an item -/
def emitD (kx vx : Expr) (D : Addr) (ev : PySem.Env) : Sem Unit := do
  let a ← eval kx ev
  let b ← holding [a] (eval vx ev)
  standAt { kx.pos with endLine := vx.pos.endLine, endCol := vx.pos.endCol }
  holding [a, b] (dictSet D a b)
theorem turn_d1 (it : Value) (D : Addr) (ev : PySem.Env) : TurnIs (.DictComp kx vx [⟨tg, iter, ifs, 0⟩] scope pos) tg ifs 0 iter.pos it (.ref D) ev (emitD kx vx D ev) := ⟨fun _ _ => rfl, fun _ => rfl, by rfl⟩
/-- the second clause of an item -/
def innerD (cx iter1 : Expr) (acc : Value) (ev : PySem.Env) : Sem Unit := do
  let x ← eval iter1 ev
  standAt iter1.pos
  let x ← foldedSetIterable iter1 ev x
  let _ ← runOwn (.compStart cx 1 (← holding [x] (pyIter x)) acc ev) ev
theorem turn_d2 (it : Value) (D : Addr) (ev : PySem.Env) : TurnIs (.DictComp kx vx [⟨tg, iter, ifs, 0⟩, ⟨tg1, iter1, ifs1, 0⟩] scope pos) tg ifs 0 iter.pos it (.ref D) ev (innerD (.DictComp kx vx [⟨tg, iter, ifs, 0⟩, ⟨tg1, iter1, ifs1, 0⟩] scope pos) iter1 (.ref D) ev) := by
  refine ⟨fun _ _ => rfl, fun _ => rfl, ?_⟩
  unfold innerD
  simp only [bind_assoc]
  rfl
theorem turn_d2i (it : Value) (D : Addr) (ev : PySem.Env) : TurnIs (.DictComp kx vx [⟨tg, iter, ifs, 0⟩, ⟨tg1, iter1, ifs1, 0⟩] scope pos) tg1 ifs1 1 iter1.pos it (.ref D) ev (emitD kx vx D ev) := ⟨fun _ _ => rfl, fun _ => rfl, by rfl⟩
theorem start_d2 {prog : Program} {w : World} {A : Around} {R : Result → Shared → Prop} {s : Shared} {it acc : Value} {ev : PySem.Env}
    (h0 : codeAny (model prog w) A (.compLoop (.DictComp kx vx [⟨tg, iter, ifs, 0⟩, ⟨tg1, iter1, ifs1, 0⟩] scope pos) 1 it acc ev) R s)
    (h1 : wpAny (model prog w) A (pyIter it) (fun j s' => codeAny (model prog w) A (.compLoop (.DictComp kx vx [⟨tg, iter, ifs, 0⟩, ⟨tg1, iter1, ifs1, 0⟩] scope pos) 1 j acc ev) R s') (notedBy (model prog w) A ev fun x s' => R (.error x) s') s) :
    codeAny (model prog w) A (.compStart (.DictComp kx vx [⟨tg, iter, ifs, 0⟩, ⟨tg1, iter1, ifs1, 0⟩] scope pos) 1 it acc ev) R s := by
  generalize hX : Expr.DictComp kx vx [⟨tg, iter, ifs, 0⟩, ⟨tg1, iter1, ifs1, 0⟩] scope pos = cx at h0 h1 ⊢
  refine codeAny_of_tree ?_
  subst hX
  refine wpAny_notedAt (m := compStart _ 1 it acc ev) ?_
  unfold compStart
  show wpAny _ A (bind ask _) _ _ _
  refine wpAny_bind (wpAny_askSetting (wpAny_ite ?_))
  split
  · first
      | exact wpAny_pure ⟨rfl, h0⟩
      | exact wpAny_bind (wpAny_pure (wpAny_pure ⟨rfl, h0⟩))
  · first
      | exact wpAny_bind (wpAny_rule (wpAny_bind (wpAny_standAt (wpAny_bind (wpAny_mono h1 (fun j s' q => wpAny_pure ⟨rfl, q⟩) fun _ _ z => z)))))
      | (refine wpAny_bind (wpAny_rule ?_); show wpAny _ _ (standAt iter1.pos >>= _) _ _ s; exact wpAny_bind (wpAny_standAt (wpAny_bind (wpAny_mono h1 (fun j s' q => wpAny_pure ⟨rfl, q⟩) fun _ _ z => z))))
/-- an entry for the dict at D -/
def tEmit (c : Cn) (D : Addr) (tk tv : TE) : L2.St → Hp → (Hp → Prop) → Prop := fun σ H N => tk σ H fun y H1 => tv σ H1 fun z H2 => ∃ (A : Addr → Prop) (L : List DictEntry) (ep : Nat) (kvs : List (Mx.D × Mx.D)) (ka : Addr) (k d : Mx.D), y = .ref ka ∧ H2 D = some (dRaw D L ep) ∧ KOk kvs ∧ Ents c H2 A L kvs ∧ A D ∧
  isTupKey k = true ∧ Rep c H2 A (.ref ka) k ∧ Rep c H2 A z d ∧ kvs.length + 1 ≤ sizeLine ∧ ∀ L' ep', Own c (L2.upd H2 D (dRaw D L' ep')) A D (.dict (dPut kvs k d)) → N (L2.upd H2 D (dRaw D L' ep'))
theorem set_raw {pins : List (Addr × Obj)} {σ : L2.St} {H : Hp} {A : Addr → Prop} {s : Shared} {a ka : Addr} {L : List DictEntry} {ep : Nat} {kvs : List (Mx.D × Mx.D)} {k d : Mx.D} {v : V} {u : Value} {Q : Unit → Shared → Prop} {E : Value → Shared → Prop} {nm : Nat → Str} (hu : X.A.units + 66 < cLine) (I : Inv X pins σ H s) (h1 : H a = some (dRaw a L ep)) (h2 : KOk kvs) (h3 : Ents (cn X nm) H A L kvs) (hA : A a)
    (hk : isTupKey k = true) (rk : Rep (cn X nm) H A (.ref ka) k) (ru : RelV v u) (rv : Rep (cn X nm) H A v d) (hz : kvs.length + 1 ≤ sizeLine)
    (q : ∀ L' ep' s', Inv X pins σ (L2.upd H a (dRaw a L' ep')) s' → Own (cn X nm) (L2.upd H a (dRaw a L' ep')) A a (.dict (dPut kvs k d)) → Q () s') : wpAny (model X.prog X.w) X.A (dictSet a (.ref ka) u) Q E s := by
  obtain ⟨xs, g1, g2, g3, g4, g5⟩ := Inv.dict I h1 h2 h3
  have hr : (nestedKind X.prog X.w).room X.A := by
    have := room8 (A := X.A) hu (P := X.prog) (w := X.w)
    unfold nestedKind at this ⊢
    simp only [Around.in1] at this ⊢
    omega
  refine wpAny_dictSet_heap (hsz := g5) hr (rk.isKey I hk) g3 fun h' dd hs => ?_
  have e3 := g1.put rk hk ru rv
  have hl : (storedH xs (nk k) ka u).length ≤ sizeLine := by
    rw [e3.length]
    exact Nat.le_trans dPut_len hz
  obtain ⟨ep', ok⟩ := raw_ok (H' := L2.upd H a (dRaw a ((storedH xs (nk k) ka u).map (entryOfKey (nestedKind X.prog X.w))) 0)) g4 hl dd
  have nd := dd
  obtain ⟨_, _, _, _, _, _, _, _, hnd⟩ := nd
  have kp : Kp X.K A A H (L2.upd H a (dRaw a ((storedH xs (nk k) ka u).map (entryOfKey (nestedKind X.prog X.w))) ep')) := Kp.wr hA h1 (loose_raw _ _ _)
  refine q _ ep' _ (d_write I (by rw [h1]; exact trivial) hs ok.2.1 ok) ⟨_, ep', upd_same, e3.kok hnd, ?_⟩
  exact (Ent3.keep (c := cn X nm) kp e3).ents
theorem pb_emit {vs : List Nat} {D : Addr} {tk tv : TE} {nm : Nat → Str} (hu : X.A.units + 66 < cLine) (hxe : X.xe = fun _ _ => False) (hk : PE X kx tk) (hv : PE X vx tv) : PB X vs (emitD kx vx D X.env) (tEmit (cn X nm) D tk tv) := by
  intro pins s σ H N I h E
  unfold emitD
  refine wpAny_bind (thnF (hxe ▸ hk.run _ s σ H _ I h) fun y s1 ⟨yv, H1, I1, r1, h1⟩ => wpAny_bind (wpAny_holding (thnF (hxe ▸ hv.run _ s1 σ H1 _ I1 h1) fun z s2 ⟨zv, H2, I2, r2, h2⟩ => wpAny_bind (wpAny_standAt (wpAny_holding ?_)))))
  obtain ⟨A, L, ep, kvs, ka, k, d, rfl, g1, g2, g3, g4, g5, g6, g7, g8, q⟩ := h2
  cases r1
  exact set_raw hu I2 g1 g2 g3 g4 g5 g6 r2 g7 g8 fun L' ep' s' I' o => ⟨σ, _, I', Knows.refl, q L' ep' o⟩
/-- a second clause -/
theorem pb_inner {vs vs1 : List Nat} {D : Addr} {wi1 : TI} {g1 : TG} {tt1 : TT} {tb : L2.St → Hp → (Hp → Prop) → Prop} (hc : X.calm = true) (hxe : X.xe = fun _ _ => False) (hi : PI X tg1 iter1 wi1) (hg : PG X tg1 g1) (ht : PTs X ifs1 tt1) (hb : PB X vs1 (emitD kx vx D X.env) tb) (hv : ∀ i ∈ vs1, i ∈ vs) (hs : ∀ env x, foldedSetIterable iter1 env x = pure x) :
    PB X vs (innerD (.DictComp kx vx [⟨tg, iter, ifs, 0⟩, ⟨tg1, iter1, ifs1, 0⟩] scope pos) iter1 (.ref D) X.env) (fun σ H N => wi1 σ H fun J1 H1 => tTurns J1 g1 tt1 tb vs1 σ H1 N) := by
  intro pins s σ H N I h E
  unfold innerD
  refine wpAny_bind (thnF (hxe ▸ hi.run _ s σ H _ I h) fun xv s1 hx => ?_)
  refine wpAny_bind (wpAny_standAt (wpAny_bind (wpAny_of_eq (hs X.env xv) (wpAny_bind (wpAny_holding (thnF hx fun itv s2 h2 => ?_))))))
  obtain ⟨it1, fp1, tn1, J1, H2, e1, I2, T1, st2, f2, q⟩ := h2
  subst e1
  refine wpAny_bind (wpAny_runOwn ?_)
  rw [Around.mark_none]
  have loop : codeAny (model X.prog X.w) X.A (.compLoop (.DictComp kx vx [⟨tg, iter, ifs, 0⟩, ⟨tg1, iter1, ifs1, 0⟩] scope pos) 1 (.ref it1) (.ref D) X.env) (fun r s' => match r with
      | .ok _ => ∃ σ' H', Inv X pins σ' H' s' ∧ Knows vs σ σ' ∧ N H'
      | .error _ => False) s2 :=
    run_turns hc T1 (turn_d2i _ D X.env) hg ht hb hxe (I2.weak (wipe_length _ _) fun j v e => (wipe_some e).1) st2 f2 q fun s' H' I' nx => ⟨wipe σ vs1, H', I', ⟨wipe_length _ _, wipe_sub hv Knows.refl⟩, nx⟩
  refine codeAny_mono (start_d2 loop (T1.self X.A 0 _ _ _ st2 loop)) fun r s' hr => ?_
  cases r with
  | ok f =>
    first
      | exact wpAny_pure hr
      | exact hr
      | exact wpAny_bind (wpAny_pure (wpAny_pure hr))
  | error e => exact hr.elim
/-- the block of a dict comprehension, whatever an item's end is -/
theorem dblk_core {rest : List Comprehension} {pins : List (Addr × Obj)} {s : Shared} {σ : L2.St} {H : Hp} {Q : VK} {own : List (Str × Nat)} {pos' : Pos} {wi : TI} {g : TG} {tt : TT} {tb : Addr → L2.St → Hp → (Hp → Prop) → Prop} {Bd : Addr → PySem.Env → Sem Unit} {use : Option (Value → Sem Unit)} {Qf : Value → Shared → Prop}
    (hc : X.calm = true) (hN : X.N.Nodup) (I : Inv X pins σ H s) (hi : PI X tg iter wi) (ok : BlkOk X.N X.env.scope scope own)
    (hg : ∀ s H C cl fp, PG (X.blk s H scope (compEnvC scope cl C X.env) fp) tg g) (htt : ∀ s H C cl fp, PTs (X.blk s H scope (compEnvC scope cl C X.env) fp) ifs tt)
    (hb : ∀ D s H C cl fp, PB (X.blk s H scope (compEnvC scope cl C X.env) fp) (own.map (·.2)) (Bd D (compEnvC scope cl C X.env)) (tb D))
    (hturn : ∀ it D ev, TurnIs (.DictComp kx vx (⟨tg, iter, ifs, 0⟩ :: rest) scope pos) tg ifs 0 iter.pos it (.ref D) ev (Bd D ev)) (hs : ∀ x, foldedSetIterable iter X.env x = pure x)
    (h : wi σ H fun J H1 => ∀ D, H1 D = none → ∀ L ep, L = [] → tTurns J g tt (tb D) (own.map (·.2)) σ (L2.upd H1 D (dRaw D L ep)) fun H' => Q (.ref D) H')
    (hRR : ∀ D C s' m H', Inv X pins σ H' s' → Q (.ref D) H' → s'.heap.Ns C m → FpOk X pins H' C → compPost (model X.prog X.w) X.A X.xe use Qf (.ref D) C (.ok .next) s') :
    wpAny (model X.prog X.w) X.A (comprehension (.DictComp kx vx (⟨tg, iter, ifs, 0⟩ :: rest) scope pos) scope X.env pos' newDict false (eval iter X.env) use) Qf X.xe s := by
  have hfr : ∀ y ∈ scope.names, y.2 = .free → ∃ c, X.env.cells.lookup y.1 = some c := fun y hy e => (ok.free y hy e).elim (fun z => I.ok.has _ (.inl z)) fun z => I.ok.has _ (.inr z)
  refine wpAny_comprehension_free (use := use) rfl hs (closure_ok hfr) ok.kind (fun y hy e => by rw [ok.uniq y hy, e]) (thn (hi.run pins s σ H _ I h) fun xv s1 hx => thn hx fun itv s2 h2 => ?_)
  obtain ⟨it, fp, tn, J, H2, e, I2, T, st2, f2, q⟩ := h2
  subst e
  refine wpAny_newObj_type (newEnv_comp ?_)
  have hDn : H2 s2.heap.objs.size = none := I2.hok.fresh (Nat.le_refl _)
  have q := q _ hDn [] 0 rfl
  have I3 : Inv X pins σ (L2.upd H2 s2.heap.objs.size (dRaw s2.heap.objs.size [] 0)) { s2 with heap := s2.heap.push { cls := .type "dict", data := .dict #[] } } :=
    I2.laid (t' := s2.toks) (fun _ _ e => Heap.get?_push_of_some _ e) (Nat.le_refl _) ⟨⟨beq_eq_false_iff_ne.mpr (Nat.ne_of_gt I2.big), Nat.zero_le _, _, #[], Heap.get?_push_size _ rfl, ⟨rfl, rfl, rfl⟩, rfl, rfl⟩, ⟨_, Heap.get?_push_size _ rfl⟩, by
      rintro g1 g2 ⟨a1, a2, o, es2, a3, a4, a5, a6⟩ k
      exact ⟨a1, a2, o, es2, k o a3, a4, a5, a6⟩⟩
  generalize hD : s2.heap.objs.size = D at I3 q hDn ⊢
  have f3 : ∀ b ∈ fp, FpOk X pins (L2.upd H2 D (dRaw D [] 0)) b ∧ b < (s2.heap.push { cls := .type "dict", data := .dict #[] }).objs.size := fun b hb => by
    obtain ⟨o, e, _⟩ := T.obj _ _ st2 b hb
    have hlt := Heap.lt_size e
    rw [hD] at hlt
    exact ⟨⟨by rw [upd_ne (Nat.ne_of_lt hlt)]; exact (f2 b hb).1, (f2 b hb).2⟩, by rw [Heap.size_push, hD]; exact Nat.lt_succ_of_lt hlt⟩
  have st3 : tn 0 (s2.heap.push { cls := .type "dict", data := .dict #[] }) := T.keep _ _ _ st2 fun b _ o e => Heap.get?_push_of_some _ e
  generalize hs3 : ({ s2 with heap := s2.heap.push { cls := .type "dict", data := .dict #[] } } : Shared) = s3 at I3 ⊢
  have e3 : s2.heap.push { cls := .type "dict", data := .dict #[] } = s3.heap := by rw [← hs3]
  rw [e3] at f3 st3
  generalize L2.upd H2 D (dRaw D [] 0) = H3 at I3 q f3 ⊢
  have I4 := block_start I3 ok hN f3
  have st4 : tn 0 (pushCells (s3.heap.push { cls := .type "dict", data := .dict #[] }) scope.names) := T.keep _ _ _ st3 fun b _ o e => pushCells_keeps _ _ _ _ (Heap.get?_push_of_some _ e)
  have pg := hg s3 H3 s3.heap.objs.size (cellsFrom (s3.heap.objs.size + 1) scope.names (cloFrom X.env.cells scope.names [])) fp
  have pt := htt s3 H3 s3.heap.objs.size (cellsFrom (s3.heap.objs.size + 1) scope.names (cloFrom X.env.cells scope.names [])) fp
  have pb := hb D s3 H3 s3.heap.objs.size (cellsFrom (s3.heap.objs.size + 1) scope.names (cloFrom X.env.cells scope.names [])) fp
  have tu := hturn (.ref it) D (compEnvC scope (cellsFrom (s3.heap.objs.size + 1) scope.names (cloFrom X.env.cells scope.names [])) s3.heap.objs.size X.env)
  have key := run_turns (Y := X.blk s3 H3 scope (compEnvC scope (cellsFrom (s3.heap.objs.size + 1) scope.names (cloFrom X.env.cells scope.names [])) s3.heap.objs.size X.env) fp) (R := compPost (model X.prog X.w) X.A X.xe use Qf (.ref D) s3.heap.objs.size) hc T tu pg pt pb rfl I4 st4 (fun b hb => ⟨(f3 b hb).1.1, (I4.ok.exf b hb).1, I4.ok.exfs b hb, .inl hb, fun x c e => (I4.ok.exf b hb).2 x c e, fun p hp => absurd (show p ∈ ([] : List (Addr × Obj)) ++ [] from hp) (by simp)⟩) q fun s6 H5 I6 qq => ?_
  · exact codeAny_compStart_dict key (T.self X.A 0 _ _ _ st4 key)
  · have I7 : Inv X pins σ H5 s6 := I3.call' (ch := fp) I6.os I6.base I6.hok I6.bare fun b hb => ⟨(f3 b hb).1.2.2.2.1, (f3 b hb).1.2.1, (f3 b hb).1.2.2.2.2.1, (f3 b hb).1.2.2.2.2.2⟩
    obtain ⟨m, hn, _⟩ := I6.loc
    exact hRR D s3.heap.objs.size s6 m H5 I7 qq hn (I3.fpOk (Nat.le_refl _) I6.free)
/-- the reading of a dict comprehension -/
def tDb (wi : TI) (g : TG) (tt : TT) (tb : Addr → L2.St → Hp → (Hp → Prop) → Prop) (vs : List Nat) : TE := fun σ H Q => wi σ H fun J H1 => ∀ D, H1 D = none → ∀ L ep, L = [] → tTurns J g tt (tb D) vs σ (L2.upd H1 D (dRaw D L ep)) fun H' => Q (.ref D) H'
theorem pe_db {rest : List Comprehension} {own : List (Str × Nat)} {wi : TI} {g : TG} {tt : TT} {tb : Addr → L2.St → Hp → (Hp → Prop) → Prop} {Bd : Addr → PySem.Env → Sem Unit}
    (hc : X.calm = true) (hN : X.N.Nodup) (hi : PI X tg iter wi) (ok : BlkOk X.N X.env.scope scope own)
    (hg : ∀ s H C cl fp, PG (X.blk s H scope (compEnvC scope cl C X.env) fp) tg g) (htt : ∀ s H C cl fp, PTs (X.blk s H scope (compEnvC scope cl C X.env) fp) ifs tt)
    (hb : ∀ D s H C cl fp, PB (X.blk s H scope (compEnvC scope cl C X.env) fp) (own.map (·.2)) (Bd D (compEnvC scope cl C X.env)) (tb D))
    (hturn : ∀ it D ev, TurnIs (.DictComp kx vx (⟨tg, iter, ifs, 0⟩ :: rest) scope pos) tg ifs 0 iter.pos it (.ref D) ev (Bd D ev)) (hs : ∀ x, foldedSetIterable iter X.env x = pure x) :
    PE X (.DictComp kx vx (⟨tg, iter, ifs, 0⟩ :: rest) scope pos) (tDb wi g tt tb (own.map (·.2))) := by
  refine ⟨fun pins s σ H Q I h => ?_⟩
  rw [arm_eval_DictComp]
  refine dblk_core hc hN I hi ok hg htt hb hturn hs h fun D C s' m H' I' q hn f => ⟨m, hn, fun h2 sb => ?_⟩
  obtain ⟨f0, f1, f2, f3, f4, f5⟩ := f
  exact ⟨.ref D, H', I'.turned (t' := s'.toks) (fun b o hb e => (sb.2 b hb).trans e) f0 f1 f3 f4 f5, rfl, q⟩
end
end Mx

set_option Elab.async false
set_option linter.all false
set_option maxRecDepth 100000
set_option maxHeartbeats 1000000
/-! Mxx: dict comprehensions. -/
namespace Mx
open PySem PySem.Spec L2
theorem pairs_snoc : ∀ {ys : List D} {ps : List (D × D)} {k v : D} {r : List D} {qs : List (D × D)}, pairsD ys = some ps → pairsD (ys ++ .tuple [k, v] :: r) = some qs → ∃ rs, qs = ps ++ (k, v) :: rs ∧ pairsD r = some rs
  | [], ps, k, v, r, qs, h, h2 => by
    cases h
    have h2 : ((pairsD r).map fun l => (k, v) :: l) = some qs := h2
    cases e : pairsD r with
    | none => rw [e] at h2; cases h2
    | some rs => rw [e] at h2; cases h2; exact ⟨rs, rfl, rfl⟩
  | y :: ys, ps, k, v, r, qs, h, h2 => by
    have shape : ∃ a b, y = .tuple [a, b] := by
      cases y with
      | tuple zs =>
        rcases zs with _ | ⟨a, _ | ⟨b, _ | ⟨c, t⟩⟩⟩
        · cases h
        · cases h
        · exact ⟨a, b, rfl⟩
        · cases h
      | _ => cases h
    obtain ⟨a, b, rfl⟩ := shape
    have h : ((pairsD ys).map fun l => (a, b) :: l) = some ps := h
    have h2 : ((pairsD (ys ++ .tuple [k, v] :: r)).map fun l => (a, b) :: l) = some qs := h2
    cases e : pairsD ys with
    | none => rw [e] at h; cases h
    | some ps' =>
      rw [e] at h; cases h
      cases e2 : pairsD (ys ++ .tuple [k, v] :: r) with
      | none => rw [e2] at h2; cases h2
      | some qs' =>
        rw [e2] at h2; cases h2
        obtain ⟨rs, z1, z2⟩ := pairs_snoc e e2
        exact ⟨rs, by rw [z1]; rfl, z2⟩
theorem pairs_one {ys : List D} {ps : List (D × D)} {k v : D} (h : pairsD ys = some ps) : pairsD (ys ++ [.tuple [k, v]]) = some (ps ++ [(k, v)]) := by
  induction ys generalizing ps with
  | nil => cases h; rfl
  | cons y ys ih =>
    have shape : ∃ a b, y = .tuple [a, b] := by
      cases y with
      | tuple zs =>
        rcases zs with _ | ⟨a, _ | ⟨b, _ | ⟨c, t⟩⟩⟩
        · cases h
        · cases h
        · exact ⟨a, b, rfl⟩
        · cases h
      | _ => cases h
    obtain ⟨a, b, rfl⟩ := shape
    have h : ((pairsD ys).map fun l => (a, b) :: l) = some ps := h
    cases e : pairsD ys with
    | none => rw [e] at h; cases h
    | some ps' =>
      rw [e] at h; cases h
      show ((pairsD (ys ++ [.tuple [k, v]])).map fun l => (a, b) :: l) = _
      rw [ih e]; rfl
theorem pairs_len : ∀ {ys : List D} {ps : List (D × D)}, pairsD ys = some ps → ps.length = ys.length
  | [], ps, h => by cases h; rfl
  | y :: ys, ps, h => by
    have shape : ∃ a b, y = .tuple [a, b] := by
      cases y with
      | tuple zs =>
        rcases zs with _ | ⟨a, _ | ⟨b, _ | ⟨c, t⟩⟩⟩
        · cases h
        · cases h
        · exact ⟨a, b, rfl⟩
        · cases h
      | _ => cases h
    obtain ⟨a, b, rfl⟩ := shape
    have h : ((pairsD ys).map fun l => (a, b) :: l) = some ps := h
    cases e : pairsD ys with
    | none => rw [e] at h; cases h
    | some ps' => rw [e] at h; cases h; rw [List.length_cons, List.length_cons, pairs_len e]
theorem keysOk_mem : ∀ {ps kvs : List (D × D)} {p : D × D}, keysOk kvs ps = true → p ∈ ps → isTupKey p.1 = true
  | q :: r, kvs, p, h, hp => by
    have h : (keyFor kvs q.1 && keysOk (dPut kvs q.1 q.2) r) = true := h
    rw [Bool.and_eq_true] at h
    rcases List.mem_cons.mp hp with rfl | hp
    · exact h.1
    · exact keysOk_mem h.2 hp
theorem dPutAll_snoc : ∀ (ps kvs : List (D × D)) (k v : D), dPutAll kvs (ps ++ [(k, v)]) = dPut (dPutAll kvs ps) k v
  | [], _, _, _ => rfl
  | p :: ps, kvs, k, v => dPutAll_snoc ps (dPut kvs p.1 p.2) k v
theorem dPutAll_len : ∀ (ps kvs : List (D × D)), (dPutAll kvs ps).length ≤ kvs.length + ps.length
  | [], kvs => by simp [dPutAll]
  | p :: ps, kvs => by
    have := dPutAll_len ps (dPut kvs p.1 p.2)
    have := dPut_len (kvs := kvs) (k := p.1) (d := p.2)
    show (dPutAll (dPut kvs p.1 p.2) ps).length ≤ _
    rw [List.length_cons]; omega
theorem pairs_app : ∀ {ys r : List D} {qs : List (D × D)}, pairsD (ys ++ r) = some qs → ∃ ps rs, pairsD ys = some ps ∧ qs = ps ++ rs
  | [], r, qs, h => ⟨[], qs, rfl, rfl⟩
  | y :: ys, r, qs, h => by
    have shape : ∃ a b, y = .tuple [a, b] := by
      cases y with
      | tuple zs =>
        rcases zs with _ | ⟨a, _ | ⟨b, _ | ⟨c, t⟩⟩⟩
        · cases h
        · cases h
        · exact ⟨a, b, rfl⟩
        · cases h
      | _ => cases h
    obtain ⟨a, b, rfl⟩ := shape
    have h : ((pairsD (ys ++ r)).map fun l => (a, b) :: l) = some qs := h
    cases e : pairsD (ys ++ r) with
    | none => rw [e] at h; cases h
    | some qs' =>
      rw [e] at h; cases h
      obtain ⟨ps, rs, e1, e2⟩ := pairs_app e
      subst e2
      refine ⟨(a, b) :: ps, rs, ?_, rfl⟩
      show ((pairsD ys).map fun l => (a, b) :: l) = _
      rw [e1]; rfl
theorem keysOk_left : ∀ {ps rs kvs : List (D × D)}, keysOk kvs (ps ++ rs) = true → keysOk kvs ps = true
  | [], _, _, _ => rfl
  | p :: ps, rs, kvs, h => by
    have h : (keyFor kvs p.1 && keysOk (dPut kvs p.1 p.2) (ps ++ rs)) = true := h
    rw [Bool.and_eq_true] at h
    show (keyFor kvs p.1 && keysOk (dPut kvs p.1 p.2) ps) = true
    rw [h.1, keysOk_left h.2]; rfl
section
variable {tb : Tbl} {F n : Nat} {sx : Sx} {X : Cx} {md : Mode} {c : Cn} {cf : Cfg} {mo : Nat → Bool} {own : Ow} {Xv : Addr → Prop} {m m' : List Addr} {H H' : Hp} {env : Env} {σ : L2.St} {w w' : Wd}
/-- one item of a dict comprehension -/
def stepD (cf : Cfg) (env : Env) (tg : Tg) (k v : E) : D → Wd → Res (Option D) := fun x w => (ofO (bindTg env tg x) w).bind fun env' w => (ev cf k env' w).dat.bind fun kd w => (ev cf v env' w).dat.bind fun vd w => .ok (some (.tuple [kd, vd])) w
theorem dc_turns {es : List (Env × L2.St)} {J : L2.It} {src : List Src} {ds ys0 : List D} {ps0 : List (D × D)} {Dd : Addr} {vs : List Nat} {tg : Tg} {k v : E} {Fin : List D → Wd → Prop} {Q : Hp → Prop} {b : Bool} (hb : b = true → tg.isTup = true) (Wk : Walk c b J src ds) (hix : ∀ i ∈ tg.ix, i ∈ vs) (hmo : ∀ i ∈ tg.ix, mo i = false)
    {m0 : List Addr} {H0 : Hp} {w0 : Wd} (S : CS c mo own Xv m H es (wipeE env vs) (wipe σ vs) src Dd m0 H0 w0 (.dict (dPutAll [] ps0))) (hp : pairsD ys0 = some ps0)
    (hfin : ∀ zs w, Fin zs w → zs.length ≤ sizeLine ∧ ∃ ps, pairsD zs = some ps ∧ keysOk [] ps = true)
    (hs : (lcL (stepD cf (wipeE env vs) tg k v) ds w0).sat fun r w => Fin (ys0 ++ r) w)
    (hQ : ∀ m' H' w' zs ps, CS c mo own Xv m H es (wipeE env vs) (wipe σ vs) src Dd m' H' w' (.dict (dPutAll [] ps)) → pairsD zs = some ps → Fin zs w' → Q H') :
    tTurns J (gT c.K tg) (tTs c cf mo .none) (tEmit c Dd (tE c cf mo .keep k) (tE c cf mo .keep v)) vs σ H0 Q := by
  let Nxt : Nat → Hp → Prop := fun i Hh => ∃ m' w' ys ps, CS c mo own Xv m H es (wipeE env vs) (wipe σ vs) src Dd m' Hh w' (.dict (dPutAll [] ps)) ∧ pairsD ys = some ps ∧ (lcL (stepD cf (wipeE env vs) tg k v) (ds.drop i) w').sat fun r w'' => Fin (ys ++ r) w''
  refine ⟨fun i k Hh => k = ds.length - i ∧ i ≤ ds.length ∧ Nxt i Hh, ⟨ds.length, rfl, Nat.zero_le _, m0, w0, ys0, ps0, S, hp, ?_⟩, ?_⟩
  · rw [List.drop_zero]; exact hs
  rintro i kk Hh ⟨rfl, hi, m1, w1, ys, ps, S1, hps, hr⟩
  have dom : Dom (Av own (Plus Xv Dd) m1) Hh := S1.W.dom S1.E
  have so : ∀ p ∈ src, SrcB c Hh (Av own (Plus Xv Dd) m1) [] p := fun p hp => (S1.src p hp).all
  by_cases hlt : i < ds.length
  · refine .inr ⟨Wk.go Hh _ i dom so hlt, Nxt (i + 1), fun H' h' => ⟨ds.length - (i + 1), by omega, rfl, hlt, h'⟩, fun x H' y => ?_⟩
    have hd : ds[i]? = some ds[i] := List.getElem?_eq_getElem hlt
    obtain ⟨nw, rx⟩ := Wk.yld Hh _ i x H' dom so y _ hd
    have S2 := S1.new nw
    rw [drop_get hd, lcL_cons, sat_bind] at hr
    have hr : ((ofO (bindTg (wipeE env vs) tg ds[i]) w1).bind fun env' w => (ev cf k env' w).dat.bind fun kd w => (ev cf v env' w).dat.bind fun vd w => Res.ok (some (PyData.tuple [kd, vd])) w).sat _ := hr
    rw [sat_bind, sat_ofO] at hr
    obtain ⟨env2, he2, hr⟩ := hr
    refine gT_ok hmo he2 hb rx S2.E fun σ2 E2 on => ⟨(on vs hix).trans wipe_wipe, ?_⟩
    refine ⟨own, Plus Xv Dd, m1, env2, w1, E2, S2.W, ?_⟩
    show ∀ m' H'', _
    intro m3 H3 f3 W3
    have S3 := S2.step f3 W3
    have E3 := E2.step f3 S2.W
    rw [if_pos rfl]
    rw [sat_bind, sat_dat] at hr
    refine ⟨own, Plus Xv Dd, m3, env2, w1, E3, W3, sat_mono hr fun y1 w4 hr v4 m4 H4 f4 W4 r4 => ?_⟩
    obtain ⟨kd, rfl, hr⟩ := hr
    have S4 := S3.step f4 W4
    have E4 := E3.step f4 W3
    rw [sat_bind, sat_dat] at hr
    refine ⟨own, Plus Xv Dd, m4, env2, w4, E4, W4, sat_mono hr fun y2 w5 hr v5 m5 H5 f5 W5 r5 => ?_⟩
    obtain ⟨vd, rfl, hr⟩ := hr
    have S5 := S4.step f5 W5
    have hr : ((lcL (stepD cf (wipeE env vs) tg k v) (ds.drop (i + 1)) w5).bind fun r w => Res.ok (PyData.tuple [kd, vd] :: r) w).sat fun r w'' => Fin (ys ++ r) w'' := hr
    rw [sat_bind] at hr
    obtain ⟨r0, w0', hf⟩ := sat_ex hr
    obtain ⟨hl, qs, hq1, hq2⟩ := hfin _ _ hf
    obtain ⟨rs, rfl, _⟩ := pairs_snoc hps hq1
    have hkey : isTupKey kd = true := keysOk_mem hq2 (List.mem_append_right _ (List.mem_cons_self ..))
    have rk : Rep c H5 (Av own (Plus Xv Dd) m5) v4 kd := Rep.keep f5.kp' r4.1
    obtain ⟨ka, rfl, rk'⟩ := RepB.keyAt (m := []) (.of rk) hkey
    obtain ⟨L, ep, g1, g2, g3⟩ := S5.dd
    have hlen : (dPutAll [] ps).length + 1 ≤ sizeLine := by
      have h1 := dPutAll_len ps []
      have h2 := pairs_len hps
      rw [List.length_append, List.length_cons] at hl
      simp only [List.length_nil, Nat.zero_add] at h1
      omega
    refine ⟨_, L, ep, _, ka, kd, vd, rfl, g1, g2, g3, .inr (.inr (.inr rfl)), hkey, rk', r5.1, hlen, fun L' ep' o => ?_⟩
    refine ⟨m5, w5, ys ++ [.tuple [kd, vd]], ps ++ [(kd, vd)], ?_, pairs_one hps, sat_mono hr fun r w6 hr => ?_⟩
    · rw [dPutAll_snoc]
      exact S5.write o
    · rw [List.append_assoc]
      exact hr
  · have e : i = ds.length := by omega
    subst e
    rw [List.drop_length] at hr
    have hr : Fin (ys ++ []) w1 := hr
    rw [List.append_nil] at hr
    exact .inl ⟨Wk.stop Hh _ dom so, hQ m1 Hh w1 ys ps S1 hps hr⟩
/-- a dict comprehension that goes straight into a name -/
theorem ps_setDb {kx vx gx iter : Expr} {ifs : List Expr} {scope : Scope} {pos : Pos} {rest : List Comprehension} {ow : List (Str × Nat)} {wi : TI} {g : TG} {tt : TT} {tb : Addr → L2.St → Hp → (Hp → Prop) → Prop} {Bd : Addr → PySem.Env → Sem Unit} {i : Nat} {y : Str} {py spos : Pos}
    (hc : X.calm = true) (hN : X.N.Nodup) (hy : X.N[i]? = some y) (hyl : X.env.scope.names.lookup y = some .local) (hsw : swapsWith (.DictComp kx vx (⟨gx, iter, ifs, 0⟩ :: rest) scope pos) (some (.Name y py)) spos.line X.env = pure true)
    (hi : PI X gx iter wi) (ok : BlkOk X.N X.env.scope scope ow)
    (hg : ∀ s H C cl fp, PG (X.blk s H scope (compEnvC scope cl C X.env) fp) gx g) (htt : ∀ s H C cl fp, PTs (X.blk s H scope (compEnvC scope cl C X.env) fp) ifs tt)
    (hb : ∀ D s H C cl fp, PB (X.blk s H scope (compEnvC scope cl C X.env) fp) (ow.map (·.2)) (Bd D (compEnvC scope cl C X.env)) (tb D))
    (hturn : ∀ it D ev, TurnIs (.DictComp kx vx (⟨gx, iter, ifs, 0⟩ :: rest) scope pos) gx ifs 0 iter.pos it (.ref D) ev (Bd D ev)) (hs : ∀ x, foldedSetIterable iter X.env x = pure x) :
    PS X (.Assign [.Name y py] (.DictComp kx vx (⟨gx, iter, ifs, 0⟩ :: rest) scope pos) spos) (tAsg (tDb wi g tt tb (ow.map (·.2))) (gName i)) := by
  refine ⟨fun pins s σ H D I h => ?_⟩
  rw [exec_Assign_Name_used _ _ _ _ hsw]
  refine wpAny_bind (wpAny_standAt (wpAny_bind ?_))
  show wpAny _ X.A (do let _ ← comprehension (.DictComp kx vx (⟨gx, iter, ifs, 0⟩ :: rest) scope pos) scope X.env (firstIterPos (⟨gx, iter, ifs, 0⟩ :: rest) pos) newDict false (eval iter X.env) (some (assign (.Name y py) X.env))) _ _ s
  refine wpAny_bind (thn (dblk_core (Qf := fun _ s' => SP X pins D .next s') (Q := fun x H1 => gName i x σ H1 D.nx) hc hN I hi ok hg htt hb hturn hs h fun L C s' m H' I' q hn f => ?_) fun _ s' hq => wpAny_pure (wpAny_pure hq))
  show wpAny _ _ (assign (.Name y py) X.env (.ref L)) _ _ _
  refine wpAny_assign_Name (store_ok2 (v := V.ref L) I' hN hy (.inl hyl) rfl (fun s2 I2 ⟨a, sb, ha⟩ => ?_) (.inr hyl))
  obtain ⟨f0, f1, f2, f3, f4, f5⟩ := f
  have ne : C ≠ a := ha.elim (fun z => by rw [z]; exact f1) fun z e => f4 y a z e.symm
  exact ⟨m, hn.sameBut sb ne, fun h3 sb3 => ⟨_, H', I2.turned (t' := s2.toks) (fun b o hb e => (sb3.2 b hb).trans e) f0 f1 f3 f4 f5, q⟩⟩
theorem ev_dc (cf : Cfg) (vs : List Nat) (tg : Tg) (it : It) (k v : E) (env : Env) (w : Wd) : ev cf (.dc vs tg it k v) env w = (evI cf it env w).bind fun xs w => (lcL (stepD cf (wipeE env vs) tg k v) xs w).bind fun ys w =>
      match pairsD ys with
      | some ps => if fits ys.length && keysOk [] ps then .ok (.d (.dict (dPutAll [] ps))) w else .stuck
      | none => .stuck := rfl
/-- what the pairs of a dict comprehension must do at the end -/
def FinD (c : Cn) (own : Ow) (Xv : Addr → Prop) (md : Mode) (m : List Addr) (H : Hp) (Q : VK) (ys : List D) (w : Wd) : Prop := (match pairsD ys with
  | some ps => if fits ys.length && keysOk [] ps then Res.ok (Vl.d (.dict (dPutAll [] ps))) w else .stuck
  | none => .stuck).sat fun x w' => ∀ (v : V) (m' : List Addr) (H' : Hp), Fr c.K m m' H H' → WOk c own Xv m' H' w' → RepM c own Xv md H m' H' w' x v → Q v H'
theorem FinD.has {Q : VK} {ys : List D} (h : FinD c own Xv md m H Q ys w) : ys.length ≤ sizeLine ∧ ∃ ps, pairsD ys = some ps ∧ keysOk [] ps = true := by
  unfold FinD at h
  cases e : pairsD ys with
  | none => rw [e] at h; exact h.elim
  | some ps =>
    rw [e] at h
    obtain ⟨h1, _⟩ := sat_if h
    obtain ⟨h1, h2⟩ := band h1
    exact ⟨fits_le h1, ps, rfl, h2⟩
theorem FinD.go {Q : VK} {ys : List D} {ps : List (D × D)} (h : FinD c own Xv md m H Q ys w) (e : pairsD ys = some ps) : ∀ (v : V) (m' : List Addr) (H' : Hp), Fr c.K m m' H H' → WOk c own Xv m' H' w → RepM c own Xv md H m' H' w (.d (.dict (dPutAll [] ps))) v → Q v H' := by
  unfold FinD at h
  rw [e] at h
  exact (sat_if h).2
theorem tE_dc {vs : List Nat} {tg : Tg} {it : It} {k v : E} (hb : it.loose = true → tg.isTup = true) (hix : ∀ i ∈ tg.ix, i ∈ vs) (hvs : ∀ i ∈ vs, mo i = false) (σ : L2.St) (H : Hp) (Q : VK) (h : tE c cf mo md (.dc vs tg it k v) σ H Q) :
    tDb (tI c cf mo .look it) (gT c.K tg) (tTs c cf mo .none) (fun D => tEmit c D (tE c cf mo .keep k) (tE c cf mo .keep v)) vs σ H Q := by
  obtain ⟨own, Xv, m, env, w, E, W, h⟩ := h
  rw [ev_dc, sat_bind] at h
  refine ⟨own, Xv, m, env, w, E, W, sat_mono h fun ds w1 h J src m1 H1 f1 W1 wk hs => ?_⟩
  intro Dd hD L ep hL
  subst hL
  rw [sat_bind] at h
  have E1 := (E.step f1 W).wipe hvs
  have S : CS c mo own Xv m H [] (wipeE env vs) (wipe σ vs) src Dd m1 (L2.upd H1 Dd (dRaw Dd [] ep)) w1 (.dict (dPutAll [] [])) :=
    CS.start E1 W1 f1 hD (fun p hp => ⟨(hs p hp).1, (hs p hp).2⟩) ⟨[], ep, upd_same, ⟨List.nodup_nil, fun q hq => (List.not_mem_nil hq).elim⟩, .nil⟩
  refine dc_turns (Fin := FinD c own Xv md m H Q) (ys0 := []) (ps0 := []) hb wk hix (fun i hi => hvs i (hix i hi)) S rfl (fun zs w hz => hz.has) (sat_mono h fun r w hr => hr) fun m' H' w' zs ps S' hp fin => ?_
  obtain ⟨g1, g2, g3⟩ := S'.done (md := md) E.xd
  exact fin.go hp _ m' H' g1 g2 g3
theorem ev_dc2 (cf : Cfg) (vs : List Nat) (tg : Tg) (it : It) (tg2 : Tg) (it2 : It) (k v : E) (env : Env) (w : Wd) : ev cf (.dc2 vs tg it tg2 it2 k v) env w = (evI cf it env w).bind fun xs w => (lcLL (fun x w => (ofO (bindTg (wipeE env vs) tg x) w).bind fun env' w => (evI cf it2 env' w).bind fun xs2 w => lcL (stepD cf (wipeE env' tg2.ix) tg2 k v) xs2 w) xs w).bind fun ys w =>
      match pairsD ys with
      | some ps => if fits ys.length && keysOk [] ps then .ok (.d (.dict (dPutAll [] ps))) w else .stuck
      | none => .stuck := rfl
theorem tE_dc2 {vs : List Nat} {tg tg2 : Tg} {it it2 : It} {k v : E} (hb : it.loose = true → tg.isTup = true) (hb2 : it2.loose = true → tg2.isTup = true) (hix : ∀ i ∈ tg.ix, i ∈ vs) (hix2 : ∀ i ∈ tg2.ix, i ∈ vs) (hvs : ∀ i ∈ vs, mo i = false) (σ : L2.St) (H : Hp) (Q : VK) (h : tE c cf mo md (.dc2 vs tg it tg2 it2 k v) σ H Q) :
    tDb (tI c cf mo .look it) (gT c.K tg) (tTs c cf mo .none) (fun D σ H N => tI c cf mo .keep it2 σ H fun J1 H1 => tTurns J1 (gT c.K tg2) (tTs c cf mo .none) (tEmit c D (tE c cf mo .keep k) (tE c cf mo .keep v)) tg2.ix σ H1 N) vs σ H Q := by
  obtain ⟨own, Xv, m, env, w, E, W, h⟩ := h
  rw [ev_dc2, sat_bind] at h
  refine ⟨own, Xv, m, env, w, E, W, sat_mono h fun ds w1 h J src m1 H1 f1 W1 wk hs => ?_⟩
  intro Dd hD L ep hL
  subst hL
  rw [sat_bind] at h
  have E1 := (E.step f1 W).wipe hvs
  have S : CS c mo own Xv m H [] (wipeE env vs) (wipe σ vs) src Dd m1 (L2.upd H1 Dd (dRaw Dd [] ep)) w1 (.dict (dPutAll [] [])) :=
    CS.start E1 W1 f1 hD (fun p hp => ⟨(hs p hp).1, (hs p hp).2⟩) ⟨[], ep, upd_same, ⟨List.nodup_nil, fun q hq => (List.not_mem_nil hq).elim⟩, .nil⟩
  let step : D → Wd → Res (List D) := fun x w => (ofO (bindTg (wipeE env vs) tg x) w).bind fun env' w => (evI cf it2 env' w).bind fun xs2 w => lcL (stepD cf (wipeE env' tg2.ix) tg2 k v) xs2 w
  let Nxt : Nat → Hp → Prop := fun i Hh => ∃ m' w' ys ps, CS c mo own Xv m H [] (wipeE env vs) (wipe σ vs) src Dd m' Hh w' (.dict (dPutAll [] ps)) ∧ pairsD ys = some ps ∧ (lcLL step (ds.drop i) w').sat fun r w'' => FinD c own Xv md m H Q (ys ++ r) w''
  refine ⟨fun i k Hh => k = ds.length - i ∧ i ≤ ds.length ∧ Nxt i Hh, ⟨ds.length, rfl, Nat.zero_le _, m1, w1, [], [], S, rfl, by rw [List.drop_zero]; exact h⟩, ?_⟩
  rintro i kk Hh ⟨rfl, hi, m2, w2, ys, ps, S1, hps, hr⟩
  have dom : Dom (Av own (Plus Xv Dd) m2) Hh := S1.W.dom S1.E
  have so : ∀ p ∈ src, SrcB c Hh (Av own (Plus Xv Dd) m2) [] p := fun p hp => (S1.src p hp).all
  by_cases hlt : i < ds.length
  · refine .inr ⟨wk.go Hh _ i dom so hlt, Nxt (i + 1), fun H' h' => ⟨ds.length - (i + 1), by omega, rfl, hlt, h'⟩, fun x H' y => ?_⟩
    have hd : ds[i]? = some ds[i] := List.getElem?_eq_getElem hlt
    obtain ⟨nw, rx⟩ := wk.yld Hh _ i x H' dom so y _ hd
    have S2 := S1.new nw
    rw [drop_get hd, lcLL_cons, sat_bind] at hr
    have hr : ((ofO (bindTg (wipeE env vs) tg ds[i]) w2).bind fun env' w => (evI cf it2 env' w).bind fun xs2 w => lcL (stepD cf (wipeE env' tg2.ix) tg2 k v) xs2 w).sat _ := hr
    rw [sat_bind, sat_ofO] at hr
    obtain ⟨env2, he2, hr⟩ := hr
    refine gT_ok (fun j hj => hvs j (hix j hj)) he2 hb rx S2.E fun σ2 E2 on => ⟨(on vs hix).trans wipe_wipe, ?_⟩
    refine ⟨own, Plus Xv Dd, m2, env2, w2, E2, S2.W, ?_⟩
    show ∀ m' H'', _
    intro m3 H3 f3 W3
    rw [if_pos rfl]
    have S3 := S2.step f3 W3
    have E3 := E2.step f3 S2.W
    rw [sat_bind] at hr
    refine ⟨own, Plus Xv Dd, m3, env2, w2, E3, W3, sat_mono hr fun ds2 w4 hr J1 src1 m4 H4 f4 W4 wk1 hs1 => ?_⟩
    have S4 := S3.step f4 W4
    have E4 := (E3.step f4 W3).wipe fun j hj => hvs j (hix2 j hj)
    have SI : CS c mo own Xv m H [(wipeE env vs, wipe σ vs)] (wipeE env2 tg2.ix) (wipe σ2 tg2.ix) (src1 ++ src) Dd m4 H4 w4 (.dict (dPutAll [] ps)) := by
      refine ⟨S4.h0, S4.fr, S4.W, E4, fun p hp => ?_, S4.dd, fun p hp => ?_⟩
      · rw [List.mem_singleton.mp hp]; exact S4.E
      · rcases List.mem_append.mp hp with hp | hp
        · exact ⟨.of (hs1 p hp).1, (hs1 p hp).2⟩
        · exact S4.src p hp
    have hr2 : (lcL (stepD cf (wipeE env2 tg2.ix) tg2 k v) ds2 w4).sat fun r w => (lcLL step (ds.drop (i + 1)) w).sat fun r' w'' => FinD c own Xv md m H Q ((ys ++ r) ++ r') w'' := by
      refine sat_mono hr fun r w5 h5 => ?_
      rw [sat_bind] at h5
      refine sat_mono h5 fun r' w6 h6 => ?_
      rw [List.append_assoc]
      exact h6
    refine dc_turns (Fin := fun zs w => (lcLL step (ds.drop (i + 1)) w).sat fun r' w'' => FinD c own Xv md m H Q (zs ++ r') w'') (Q := Nxt (i + 1)) hb2 wk1.more (fun j hj => hj) (fun j hj => hvs j (hix2 j hj)) SI hps (fun zs w hz => ?_) hr2 fun m5 H5 w5 zs ps' S5 hp5 hz => ⟨m5, w5, zs, ps', ⟨S5.h0, S5.fr, S5.W, S5.more _ (List.mem_singleton.mpr rfl), fun p hp => (List.not_mem_nil hp).elim, S5.dd, fun p hp => S5.src p (List.mem_append_right _ hp)⟩, hp5, hz⟩
    obtain ⟨r', w'', hf⟩ := sat_ex hz
    obtain ⟨hl, qs, q1, q2⟩ := hf.has
    rw [List.length_append] at hl
    obtain ⟨ps', qs', e1, e2⟩ := pairs_app q1
    subst e2
    exact ⟨by omega, ps', e1, keysOk_left q2⟩
  · have e : i = ds.length := by omega
    subst e
    rw [List.drop_length] at hr
    have hr : FinD c own Xv md m H Q (ys ++ []) w2 := hr
    rw [List.append_nil] at hr
    obtain ⟨g1, g2, g3⟩ := S1.done (md := md) E.xd
    exact .inl ⟨wk.stop Hh _ dom so, hr.go hps _ m2 Hh g1 g2 g3⟩
end
end Mx

set_option Elab.async false
set_option linter.all false
set_option maxRecDepth 100000
set_option maxHeartbeats 1000000
/-! Mxy: rules of comprehensions of two clauses and of dicts. -/
namespace Mx
open PySem PySem.Spec L2
section
variable {tb : Tbl} {F n : Nat} {sx : Sx} {X : Cx} {md : Mode}
theorem mem_l {i : Nat} {a b vs : List Nat} (h : ∀ i ∈ a ++ b, i ∈ vs) : (∀ i ∈ a, i ∈ vs) ∧ ∀ i ∈ b, i ∈ vs := ⟨fun i hi => h i (List.mem_append_left _ hi), fun i hi => h i (List.mem_append_right _ hi)⟩
theorem ok_lc2 (vs : List Nat) (tg : Tg) (it : It) (tg2 : Tg) (it2 : It) (ifs : Eo) (elt : E) (hi : OkI tb F n it) (hi2 : OkI tb F n it2) (ht : OkTs tb F n ifs) (he : OkE tb F n elt) : OkE tb F n (.lc2 vs tg it tg2 it2 ifs elt) ∧ OkW tb F n (.lc2 vs tg it tg2 it2 ifs elt) := by
  have go : ∀ (sx : Sx) (md : Mode) (ex : Expr) (X : Cx), chk sx md (.lc2 vs tg it tg2 it2 ifs elt) ex = true → Ctx tb F n sx X → PE X ex (tE (cn X sx.nmf) ⟨callN tb F n, F⟩ sx.mof md (.lc2 vs tg it tg2 it2 ifs elt)) ∧ ∀ (i : Nat) (x : Str) (py pos : Pos), X.N[i]? = some x → X.env.scope.names.lookup x = some .local →
      swapsWith ex (some (.Name x py)) pos.line X.env = pure true → PS X (.Assign [.Name x py] ex pos) (tAsg (tE (cn X sx.nmf) ⟨callN tb F n, F⟩ sx.mof md (.lc2 vs tg it tg2 it2 ifs elt)) (gName i)) := by
    intro sx md ex X hc C
    cases ex with
    | ListComp ex gs scope pos =>
      rcases gs with _ | ⟨⟨tx, ix, fx1, as⟩, _ | ⟨⟨tx2, ix2, fx, as2⟩, _ | ⟨_, _⟩⟩⟩
      · cases hc
      · cases fx1 <;> cases hc
      · cases fx1 with
        | cons _ _ => cases hc
        | nil =>
          have hc : (decide (as = 0) && decide (as2 = 0) && chkI sx .look (tupB tx) it ix && blkB sx scope vs (tg.ix ++ tg2.ix) && chkTg (sx.blk scope) tg tx && chkTg (sx.blk scope) tg2 tx2 && chkI (sx.blk scope) .keep (tupB tx2) it2 ix2 && chkT (sx.blk scope) ifs fx && chk (sx.blk scope) .keep elt ex) = true := hc
          obtain ⟨hc, g9⟩ := band hc
          obtain ⟨hc, g8⟩ := band hc
          obtain ⟨hc, g7⟩ := band hc
          obtain ⟨hc, g6⟩ := band hc
          obtain ⟨hc, g5⟩ := band hc
          obtain ⟨hc, g4⟩ := band hc
          obtain ⟨hc, g3⟩ := band hc
          obtain ⟨g1, g2⟩ := band hc
          obtain rfl := of_decide_eq_true g1
          obtain rfl := of_decide_eq_true g2
          obtain ⟨b1, b2, b3⟩ := blk_of C g4
          obtain ⟨b4, b5⟩ := mem_l (i := 0) b3
          have h2 : ∀ i ∈ tg2.ix, i ∈ (ownP X.N vs).map (·.2) := by rw [ownP_ix]; exact b5
          refine ⟨?_, fun i x py spos hN hloc hs => ?_⟩
          · have key := pe_lc2 (elt := ex) (pos := pos) (g := gT X.K tg) (tt := tTs (cn X sx.nmf) ⟨callN tb F n, F⟩ sx.mof .none) (wi1 := tI (cn X sx.nmf) ⟨callN tb F n, F⟩ sx.mof .keep it2) (g1 := gT X.K tg2) (tt1 := tTs (cn X sx.nmf) ⟨callN tb F n, F⟩ sx.mof ifs) (te := tE (cn X sx.nmf) ⟨callN tb F n, F⟩ sx.mof .keep elt) C.calm C.nd (hi sx .look tx ix X rfl g3 C) b1 h2 (fun s H Cc cl fp => pg_T (C.blk g4 s H Cc cl fp) g5) (fun s H Cc cl fp => okTs_none (sx.blk scope) [] _ rfl (C.blk g4 s H Cc cl fp))
              (fun s H Cc cl fp => hi2 (sx.blk scope) .keep tx2 ix2 _ rfl g7 (C.blk g4 s H Cc cl fp)) (fun s H Cc cl fp => pg_T (C.blk g4 s H Cc cl fp) g6) (fun s H Cc cl fp => ht (sx.blk scope) fx _ g8 (C.blk g4 s H Cc cl fp)) (fun s H Cc cl fp => he (sx.blk scope) .keep ex _ g9 (C.blk g4 s H Cc cl fp)) (folded_of (notSet_of g3)) (fun env => folded_of (notSet_of g7))
            rw [ownP_ix] at key
            exact PE_imp key fun σ H Q q => tE_lc2 (loose_tg g3 g5) (loose_tg g7 g6) b4 b5 b2 σ H Q q
          · have key := ps_setLc2 (elt := ex) (pos := pos) (spos := spos) (py := py) (g := gT X.K tg) (tt := tTs (cn X sx.nmf) ⟨callN tb F n, F⟩ sx.mof .none) (wi1 := tI (cn X sx.nmf) ⟨callN tb F n, F⟩ sx.mof .keep it2) (g1 := gT X.K tg2) (tt1 := tTs (cn X sx.nmf) ⟨callN tb F n, F⟩ sx.mof ifs) (te := tE (cn X sx.nmf) ⟨callN tb F n, F⟩ sx.mof .keep elt) C.calm C.nd hN hloc hs (hi sx .look tx ix X rfl g3 C) b1 h2 (fun s H Cc cl fp => pg_T (C.blk g4 s H Cc cl fp) g5) (fun s H Cc cl fp => okTs_none (sx.blk scope) [] _ rfl (C.blk g4 s H Cc cl fp))
              (fun s H Cc cl fp => hi2 (sx.blk scope) .keep tx2 ix2 _ rfl g7 (C.blk g4 s H Cc cl fp)) (fun s H Cc cl fp => pg_T (C.blk g4 s H Cc cl fp) g6) (fun s H Cc cl fp => ht (sx.blk scope) fx _ g8 (C.blk g4 s H Cc cl fp)) (fun s H Cc cl fp => he (sx.blk scope) .keep ex _ g9 (C.blk g4 s H Cc cl fp)) (folded_of (notSet_of g3)) (fun env => folded_of (notSet_of g7))
            rw [ownP_ix] at key
            exact PS_imp key fun D σ H q => tE_lc2 (loose_tg g3 g5) (loose_tg g7 g6) b4 b5 b2 σ H _ q
      · cases fx1 <;> cases hc
    | _ => cases hc
  exact ⟨fun sx md ex X hc C => (go sx md ex X hc C).1, fun sx md ex X i x py pos hc C hN hl hs => (go sx md ex X hc C).2 i x py pos hN hl hs⟩
theorem ok_dc (vs : List Nat) (tg : Tg) (it : It) (k v : E) (hi : OkI tb F n it) (hk : OkE tb F n k) (hv : OkE tb F n v) : OkE tb F n (.dc vs tg it k v) ∧ OkW tb F n (.dc vs tg it k v) := by
  have go : ∀ (sx : Sx) (md : Mode) (ex : Expr) (X : Cx), chk sx md (.dc vs tg it k v) ex = true → Ctx tb F n sx X → PE X ex (tE (cn X sx.nmf) ⟨callN tb F n, F⟩ sx.mof md (.dc vs tg it k v)) ∧ ∀ (i : Nat) (x : Str) (py pos : Pos), X.N[i]? = some x → X.env.scope.names.lookup x = some .local →
      swapsWith ex (some (.Name x py)) pos.line X.env = pure true → PS X (.Assign [.Name x py] ex pos) (tAsg (tE (cn X sx.nmf) ⟨callN tb F n, F⟩ sx.mof md (.dc vs tg it k v)) (gName i)) := by
    intro sx md ex X hc C
    cases ex with
    | DictComp kx vx gs scope pos =>
      rcases gs with _ | ⟨⟨tx, ix, fx1, as⟩, _ | ⟨_, _⟩⟩
      · cases hc
      · cases fx1 with
        | cons _ _ => cases hc
        | nil =>
          have hc : (decide (as = 0) && chkI sx .look (tupB tx) it ix && blkB sx scope vs tg.ix && chkTg (sx.blk scope) tg tx && chk (sx.blk scope) .keep k kx && chk (sx.blk scope) .keep v vx) = true := hc
          obtain ⟨hc, g6⟩ := band hc
          obtain ⟨hc, g5⟩ := band hc
          obtain ⟨hc, g4⟩ := band hc
          obtain ⟨hc, g3⟩ := band hc
          obtain ⟨g1, g2⟩ := band hc
          obtain rfl := of_decide_eq_true g1
          obtain ⟨b1, b2, b3⟩ := blk_of C g3
          have hb : ∀ D s H Cc cl fp, PB (X.blk s H scope (compEnvC scope cl Cc X.env) fp) ((ownP X.N vs).map (·.2)) (emitD kx vx D (compEnvC scope cl Cc X.env)) (tEmit (cn X sx.nmf) D (tE (cn X sx.nmf) ⟨callN tb F n, F⟩ sx.mof .keep k) (tE (cn X sx.nmf) ⟨callN tb F n, F⟩ sx.mof .keep v)) := fun D s H Cc cl fp =>
            pb_emit (X := X.blk s H scope (compEnvC scope cl Cc X.env) fp) (nm := sx.nmf) (C.blk g3 s H Cc cl fp).units rfl (hk (sx.blk scope) .keep kx _ g5 (C.blk g3 s H Cc cl fp)) (hv (sx.blk scope) .keep vx _ g6 (C.blk g3 s H Cc cl fp))
          refine ⟨?_, fun i x py spos hN hloc hs => ?_⟩
          · have key := pe_db (pos := pos) (g := gT X.K tg) (tt := tTs (cn X sx.nmf) ⟨callN tb F n, F⟩ sx.mof .none) C.calm C.nd (hi sx .look tx ix X rfl g2 C) b1 (fun s H Cc cl fp => pg_T (C.blk g3 s H Cc cl fp) g4) (fun s H Cc cl fp => okTs_none (sx.blk scope) [] _ rfl (C.blk g3 s H Cc cl fp)) hb (fun it D ev => turn_d1 it D ev) (folded_of (notSet_of g2))
            rw [ownP_ix] at key
            exact PE_imp key fun σ H Q q => tE_dc (loose_tg g2 g4) b3 b2 σ H Q q
          · have key := ps_setDb (pos := pos) (spos := spos) (py := py) (g := gT X.K tg) (tt := tTs (cn X sx.nmf) ⟨callN tb F n, F⟩ sx.mof .none) C.calm C.nd hN hloc hs (hi sx .look tx ix X rfl g2 C) b1 (fun s H Cc cl fp => pg_T (C.blk g3 s H Cc cl fp) g4) (fun s H Cc cl fp => okTs_none (sx.blk scope) [] _ rfl (C.blk g3 s H Cc cl fp)) hb (fun it D ev => turn_d1 it D ev) (folded_of (notSet_of g2))
            rw [ownP_ix] at key
            exact PS_imp key fun D σ H q => tE_dc (loose_tg g2 g4) b3 b2 σ H _ q
      · cases fx1 <;> cases hc
    | _ => cases hc
  exact ⟨fun sx md ex X hc C => (go sx md ex X hc C).1, fun sx md ex X i x py pos hc C hN hl hs => (go sx md ex X hc C).2 i x py pos hN hl hs⟩
theorem ok_dc2 (vs : List Nat) (tg : Tg) (it : It) (tg2 : Tg) (it2 : It) (k v : E) (hi : OkI tb F n it) (hi2 : OkI tb F n it2) (hk : OkE tb F n k) (hv : OkE tb F n v) : OkE tb F n (.dc2 vs tg it tg2 it2 k v) ∧ OkW tb F n (.dc2 vs tg it tg2 it2 k v) := by
  have go : ∀ (sx : Sx) (md : Mode) (ex : Expr) (X : Cx), chk sx md (.dc2 vs tg it tg2 it2 k v) ex = true → Ctx tb F n sx X → PE X ex (tE (cn X sx.nmf) ⟨callN tb F n, F⟩ sx.mof md (.dc2 vs tg it tg2 it2 k v)) ∧ ∀ (i : Nat) (x : Str) (py pos : Pos), X.N[i]? = some x → X.env.scope.names.lookup x = some .local →
      swapsWith ex (some (.Name x py)) pos.line X.env = pure true → PS X (.Assign [.Name x py] ex pos) (tAsg (tE (cn X sx.nmf) ⟨callN tb F n, F⟩ sx.mof md (.dc2 vs tg it tg2 it2 k v)) (gName i)) := by
    intro sx md ex X hc C
    cases ex with
    | DictComp kx vx gs scope pos =>
      rcases gs with _ | ⟨⟨tx, ix, fx1, as⟩, _ | ⟨⟨tx2, ix2, fx2, as2⟩, _ | ⟨_, _⟩⟩⟩
      · cases hc
      · cases fx1 <;> cases hc
      · cases fx1 with
        | cons _ _ => cases hc
        | nil => cases fx2 with
          | cons _ _ => cases hc
          | nil =>
            have hc : (decide (as = 0) && decide (as2 = 0) && chkI sx .look (tupB tx) it ix && blkB sx scope vs (tg.ix ++ tg2.ix) && chkTg (sx.blk scope) tg tx && chkTg (sx.blk scope) tg2 tx2 && chkI (sx.blk scope) .keep (tupB tx2) it2 ix2 && chk (sx.blk scope) .keep k kx && chk (sx.blk scope) .keep v vx) = true := hc
            obtain ⟨hc, g9⟩ := band hc
            obtain ⟨hc, g8⟩ := band hc
            obtain ⟨hc, g7⟩ := band hc
            obtain ⟨hc, g6⟩ := band hc
            obtain ⟨hc, g5⟩ := band hc
            obtain ⟨hc, g4⟩ := band hc
            obtain ⟨hc, g3⟩ := band hc
            obtain ⟨g1, g2⟩ := band hc
            obtain rfl := of_decide_eq_true g1
            obtain rfl := of_decide_eq_true g2
            obtain ⟨b1, b2, b3⟩ := blk_of C g4
            obtain ⟨b4, b5⟩ := mem_l (i := 0) b3
            have h2 : ∀ i ∈ tg2.ix, i ∈ (ownP X.N vs).map (·.2) := by rw [ownP_ix]; exact b5
            have hb : ∀ D s H Cc cl fp, PB (X.blk s H scope (compEnvC scope cl Cc X.env) fp) ((ownP X.N vs).map (·.2)) (innerD (.DictComp kx vx [⟨tx, ix, [], 0⟩, ⟨tx2, ix2, [], 0⟩] scope pos) ix2 (.ref D) (compEnvC scope cl Cc X.env)) (fun σ H N => tI (cn X sx.nmf) ⟨callN tb F n, F⟩ sx.mof .keep it2 σ H fun J1 H1 => tTurns J1 (gT X.K tg2) (tTs (cn X sx.nmf) ⟨callN tb F n, F⟩ sx.mof .none) (tEmit (cn X sx.nmf) D (tE (cn X sx.nmf) ⟨callN tb F n, F⟩ sx.mof .keep k) (tE (cn X sx.nmf) ⟨callN tb F n, F⟩ sx.mof .keep v)) tg2.ix σ H1 N) := fun D s H Cc cl fp =>
              pb_inner (X := X.blk s H scope (compEnvC scope cl Cc X.env) fp) C.calm rfl (hi2 (sx.blk scope) .keep tx2 ix2 _ rfl g7 (C.blk g4 s H Cc cl fp)) (pg_T (C.blk g4 s H Cc cl fp) g6) (okTs_none (sx.blk scope) [] _ rfl (C.blk g4 s H Cc cl fp))
                (pb_emit (X := X.blk s H scope (compEnvC scope cl Cc X.env) fp) (nm := sx.nmf) (C.blk g4 s H Cc cl fp).units rfl (hk (sx.blk scope) .keep kx _ g8 (C.blk g4 s H Cc cl fp)) (hv (sx.blk scope) .keep vx _ g9 (C.blk g4 s H Cc cl fp))) h2 (fun env => folded_of (notSet_of g7))
            refine ⟨?_, fun i x py spos hN hloc hs => ?_⟩
            · have key := pe_db (pos := pos) (g := gT X.K tg) (tt := tTs (cn X sx.nmf) ⟨callN tb F n, F⟩ sx.mof .none) C.calm C.nd (hi sx .look tx ix X rfl g3 C) b1 (fun s H Cc cl fp => pg_T (C.blk g4 s H Cc cl fp) g5) (fun s H Cc cl fp => okTs_none (sx.blk scope) [] _ rfl (C.blk g4 s H Cc cl fp)) hb (fun it D ev => turn_d2 it D ev) (folded_of (notSet_of g3))
              rw [ownP_ix] at key
              exact PE_imp key fun σ H Q q => tE_dc2 (loose_tg g3 g5) (loose_tg g7 g6) b4 b5 b2 σ H Q q
            · have key := ps_setDb (pos := pos) (spos := spos) (py := py) (g := gT X.K tg) (tt := tTs (cn X sx.nmf) ⟨callN tb F n, F⟩ sx.mof .none) C.calm C.nd hN hloc hs (hi sx .look tx ix X rfl g3 C) b1 (fun s H Cc cl fp => pg_T (C.blk g4 s H Cc cl fp) g5) (fun s H Cc cl fp => okTs_none (sx.blk scope) [] _ rfl (C.blk g4 s H Cc cl fp)) hb (fun it D ev => turn_d2 it D ev) (folded_of (notSet_of g3))
              rw [ownP_ix] at key
              exact PS_imp key fun D σ H q => tE_dc2 (loose_tg g3 g5) (loose_tg g7 g6) b4 b5 b2 σ H _ q
      · cases fx1 <;> cases fx2 <;> cases hc
    | _ => cases hc
  exact ⟨fun sx md ex X hc C => (go sx md ex X hc C).1, fun sx md ex X i x py pos hc C hN hl hs => (go sx md ex X hc C).2 i x py pos hN hl hs⟩
end
end Mx

set_option Elab.async false
set_option linter.all false
set_option maxRecDepth 100000
set_option maxHeartbeats 1000000
/-! Mxz: pairs of names, dict(..), len(set(..)), d == {}. -/
namespace Mx
open PySem PySem.Spec L2
section
variable {tb : Tbl} {F n : Nat} {sx : Sx} {X : Cx} {md : Mode} {c : Cn} {cf : Cfg} {mo : Nat → Bool} {H H' : Hp} {A : Addr → Prop} {nm : Nat → Str} {pins : List (Addr × Obj)} {σ : L2.St} {s : Shared}
/-! ### a, b = x, y -/
theorem parN_of (C : Ctx tb F n sx X) {i : Nat} {x : Str} (h : parN sx i x = true) : X.env.scope.names.lookup x = some .local ∧ sx.mof i = false := by
  unfold parN at h
  obtain ⟨h1, h2⟩ := band h
  rw [C.sc]
  split at h1
  · exact ⟨by assumption, bnot h2⟩
  · cases h1
theorem erase2 {x y : Str} (h : x ≠ y) : (List.eraseDups [x, y]).length = 2 := by
  have e : (y == x) = false := by simpa using Ne.symm h
  rw [List.eraseDups_cons]
  simp [e, List.eraseDups_cons]
/-! ### dict(pairs) -/
theorem pairs_shape {d : D} {r : List D} {kvs : List (D × D)} (h : pairsD (d :: r) = some kvs) : ∃ a b t, d = .tuple [a, b] ∧ pairsD r = some t ∧ kvs = (a, b) :: t := by
  have shape : ∃ a b, d = .tuple [a, b] := by
    cases d with
    | tuple zs =>
      rcases zs with _ | ⟨a, _ | ⟨b, _ | ⟨c, t⟩⟩⟩
      · cases h
      · cases h
      · exact ⟨a, b, rfl⟩
      · cases h
    | _ => cases h
  obtain ⟨a, b, rfl⟩ := shape
  have h : ((pairsD r).map fun l => (a, b) :: l) = some kvs := h
  cases e : pairsD r with
  | none => rw [e] at h; cases h
  | some t => rw [e] at h; cases h; exact ⟨a, b, t, rfl, rfl, rfl⟩
theorem pairs3 (I : Inv X pins σ H s) : ∀ {vs : List V} {ds : List D} {its : List Value} {kvs : List (D × D)}, Reps (cn X nm) H A vs ds → Vals vs its → pairsD ds = some kvs → (∀ p ∈ kvs, isTupKey p.1 = true) →
    ∃ (xs : Xs) (ts : List Addr), Ent3 (cn X nm) H A xs kvs ∧ its = ts.map Value.ref ∧ ∀ (j : Nat) k v, (xs.map fun x => (Value.ref x.2.1, x.2.2))[j]? = some (k, v) → ∃ T, ts[j]? = some T ∧ PairAt s.heap T k v
  | _, _, _, _, .nil, .nil, h, _ => by cases h; exact ⟨[], [], .nil, rfl, fun j k v e => by simp at e⟩
  | _, _, _, _, .cons r1 r, .cons u1 u, h, hk => by
    obtain ⟨a, b, t, rfl, h2, rfl⟩ := pairs_shape h
    obtain ⟨xs, ts, e3, rfl, hp⟩ := pairs3 I r u h2 fun p hp => hk p (List.mem_cons_of_mem _ hp)
    cases r1 with
    | @tup T ws _ hT rs =>
      cases u1
      rcases rs with _ | ⟨ra, _ | ⟨rb, _ | _⟩⟩
      rename_i va vb
      have ka := hk (a, b) (List.mem_cons_self ..)
      obtain ⟨ka', rfl, ra'⟩ := RepB.keyAt (m := []) (.of ra) ka
      obtain ⟨its2, rv, it2, _⟩ := I.tuple hT.sq
      rcases rv with _ | ⟨q1, _ | ⟨q2, _ | _⟩⟩
      cases q1
      rename_i ub
      refine ⟨(nk a, ka', ub) :: xs, T :: ts, .cons ra' ka q2 rb e3, rfl, fun j k v e => ?_⟩
      cases j with
      | zero =>
        simp only [List.map_cons, List.getElem?_cons_zero, Option.some.injEq, Prod.mk.injEq] at e
        obtain ⟨rfl, rfl⟩ := e
        exact ⟨T, rfl, .inl it2⟩
      | succ j => exact hp j k v (by simpa using e)
theorem ent3_all {ps : Xs} {kvs : List (D × D)} (h : Ent3 c H A ps kvs) : ∀ {xs : Xs} {acc : List (D × D)}, Ent3 c H A xs acc → Ent3 c H A (storedAllH xs ps) (dPutAll acc kvs) := by
  induction h with
  | nil => intro xs acc h; exact h
  | cons h1 h2 h3 h4 r ih => intro xs acc h; exact ih (h.put h1 h2 h3 h4)
theorem Inv.tupleP (I : Inv X pins σ H s) {a : Addr} {xs : List V} (h : TupP X.K H a xs) : ∃ its : List Value, Vals xs its ∧ PlainSeq "tuple" s.heap a its.toArray ∧ xs.length ≤ sizeLine := by
  rcases h with ⟨o, h, hd⟩ | ⟨o, its, n, hk, hc, hd, hs, hz, r⟩
  · obtain ⟨ho, z, its, r, ⟨o', ho', hc, n, hs⟩⟩ := (show ObjOk X.prog X.w H s.heap a (.frz o (.tup xs)) from I.hok a _ h)
    rw [ho] at ho'; cases ho'
    exact ⟨its, r, ⟨o, n, ho, hc, hd, hs⟩, z⟩
  · refine ⟨its.toList, r, ⟨o, n, I.kIn a o hk, hc, hd, by simpa using hs⟩, ?_⟩
    have e := r.length
    simp only [Array.length_toList] at e
    omega
theorem cr_dictP (hc : X.calm = true) (hu : X.A.units + 66 < cLine) : CallR X (.type "dict") (rC1 (cn X nm) .fresh (b1D .dict)) := by
  refine callR1 fun pins s σ H x u Q A dx z I r hA hx hg q => ?_
  cases dx with
  | tuple ds =>
    have hg : ((pairsD ds).bind fun ps => if keysOk [] ps then some (PyData.dict (dPutAll [] ps)) else none) = some z := hg
    cases hp : pairsD ds with
    | none => rw [hp] at hg; cases hg
    | some kvs =>
      rw [hp] at hg
      have hg : (if keysOk [] kvs then some (PyData.dict (dPutAll [] kvs)) else none) = some z := hg
      split at hg
      · rename_i hk
        cases hg
        obtain ⟨a, vs, rfl, ha, ra⟩ := hx.tup
        cases r
        obtain ⟨its, rv, pl, hz⟩ := Mx.Inv.tupleP I ha
        obtain ⟨xs, ts, e3, rfl, pa⟩ := pairs3 I ra rv hp fun p hp => keysOk_mem hk hp
        have hlen : (xs.map fun x => (Value.ref x.2.1, x.2.2)).length = xs.length := List.length_map _
        have hts : ts.length = xs.length ∧ xs.length = vs.length := by
          have h1 := rv.length
          have h2 := ra.length
          have h3 := pairs_len hp
          have h4 := e3.length
          simp only [List.length_map] at h1
          omega
        have hn : H s.heap.objs.size = none := I.hok.fresh (Nat.le_refl _)
        have hroom : (nestedKind X.prog X.w).room X.A.in1.in1 := by
          have : X.A.units + 66 < cLine := hu
          show X.A.in1.in1.units + 8 < cLine
          simp only [Around.in1]
          omega
        refine call_dict_pairsH (knd := nestedKind X.prog X.w) (ps := xs) (PairArg.tuple (prog := X.prog) (w := X.w) a (ts.map Value.ref).toArray (fun j => ts.getD j 0) (xs.map fun x => (Value.ref x.2.1, x.2.2))) (I.ok.hd hc) hroom ⟨pl, ?_, ?_⟩ ⟨hlen.symm, ?_⟩ ?_ ?_ fun h' tk dd keep => ?_
        · simp [hts.1]
        · intro j k v e
          obtain ⟨T, e1, e2⟩ := pa j k v e
          have e3 : ts.getD j 0 = T := by simp [List.getD, e1]
          show _ ∧ PairAt s.heap (ts.getD j 0) k v
          rw [e3]
          exact ⟨by simp [e1], e2⟩
        · intro i key v e
          have e : (xs.map fun x => (Value.ref x.2.1, x.2.2))[i]? = some (key, v) := e
          rw [List.getElem?_map] at e
          cases hx : xs[i]? with
          | none => rw [hx] at e; cases e
          | some x =>
            rw [hx] at e
            cases e
            exact ⟨x.1, x.2.1, rfl, rfl⟩
        · intro h2 hk2 x hx
          have I2 : Inv X pins σ H { s with heap := h2 } := I.kept (t' := s.toks) fun b o e => hk2 b o (Nat.ne_of_lt (Heap.lt_size e)) (by simp) e
          exact e3.is I2 x hx
        · rw [hlen, hts.2]; exact hz
        · have hl : (storedAllH [] xs).length ≤ sizeLine := by
            have := storedAllH_length xs []
            simp only [List.length_nil, Nat.zero_add] at this
            omega
          have e4 := ent3_all e3 (xs := []) (acc := []) .nil
          obtain ⟨ep', ok⟩ := raw_ok (P := X.prog) (w := X.w) (H' := L2.upd H s.heap.objs.size (dRaw s.heap.objs.size ((storedAllH [] xs).map (entryOfKey (nestedKind X.prog X.w))) 0)) (beq_eq_false_iff_ne.mpr (Nat.ne_of_gt I.big)) hl dd
          have nd := dd
          obtain ⟨_, _, _, _, _, _, _, _, hnd⟩ := nd
          have kp : Kp X.K A (fun b => A b ∨ b = s.heap.objs.size) H (L2.upd H s.heap.objs.size (dRaw s.heap.objs.size ((storedAllH [] xs).map (entryOfKey (nestedKind X.prog X.w))) ep')) := Kp.upd hn
          refine ⟨.ref s.heap.objs.size, _, I.laid (t' := tk) (fun b o e => keep b o (by simp) e) (Nat.le_refl _) ok, rfl, q _ _ (.one hn) (.inr ⟨_, rfl, hn, hA.no hn, _, ep', upd_same, e4.kok hnd, ?_⟩)⟩
          exact (Ent3.keep (c := cn X nm) kp e4).ents
      · cases hg
  | _ => cases hg
theorem ok_b1dict (a : E) (ha : OkE tb F n a) : OkE tb F n (.b1 .dict a) := by
  intro sx md ex X hc C
  cases ex with
  | Call fx xs kw pos => cases fx with
    | Name f p =>
      rcases xs with _ | ⟨x, _ | ⟨_, _⟩⟩ <;> rcases kw with _ | ⟨_, _⟩ <;> first | (cases hc; done) | skip
      have hc : (bltB sx f "dict" && chk sx .peek a x && !starB x) = true := hc
      obtain ⟨hc, h4⟩ := band hc
      obtain ⟨h2, h3⟩ := band hc
      have pa := pa_cons (ha sx .peek x X h3 C) pa_nil (star_of (bnot h4))
      obtain ⟨rfl, hg, hm⟩ := blt_of C h2 (by decide)
      exact ok_c1 (g := b1D .dict) rfl (fresh_all md) ha C h3 (bnot h4) (fun env w => rfl) (pe_callTy (cr_dictP C.calm C.units) hg hm (by decide +kernel) pa (by decide) (by decide) (star_of (bnot h4)) rfl)
    | _ => cases hc
  | _ => cases hc
/-! ### len(set(xs)) -/
def rLenST (K : PySem.W.Frag) (P : Program) (w : World) : List V → Hp → VK → Prop := fun vs H Q => ∃ (a : Addr) (L : List (Addr × List Int)), vs = [V.ref a] ∧ H a = some (SetTO P w a L) ∧ (∀ p ∈ L, SqT K H p.1 (p.2.map V.int)) ∧ ((L.map (·.2)).Nodup → Q (.int L.length) H)
theorem cr_lenST : CallR X (.builtin "len") (rLenST X.K X.prog X.w) := by
  rintro pins s σ H xs us Q I r ⟨a, L, rfl, h, ht, q⟩
  rw [Vals.ref1 r]
  obtain ⟨R0, _⟩ := I.hok a _ h
  obtain ⟨es, ep, t, R⟩ := SetT0.full R0 fun p hp => Inv.isT I (ht p hp)
  obtain ⟨o, ho, hex, hd⟩ := R.ob
  have hsz : es.size = L.length := R.size
  have hfew := R.few
  refine call_len_set ho hex hd R.fits (by rw [hsz] <;> omega) ⟨.int L.length, H, I.tok _, ⟨_, by rw [hsz]⟩, q R.nd⟩
theorem tups_of : ∀ {ds : List D} {ks : List (List Int)} {vs : List V}, intTups ds = some ks → Reps c H A vs ds → ∃ ps : List (Addr × List Int), vs = ps.map (fun p => V.ref p.1) ∧ ps.map (·.2) = ks ∧ ∀ p ∈ ps, SqT c.K H p.1 (p.2.map V.int)
  | [], ks, _, h, .nil => by cases h; exact ⟨[], rfl, rfl, fun p hp => (List.not_mem_nil hp).elim⟩
  | d :: ds, ks, _, h, .cons r1 r => by
    cases d with
    | tuple xs =>
      have h : ((allI xs).bind fun is => (intTups ds).map fun l => is :: l) = some ks := h
      cases e : allI xs with
      | none => rw [e] at h; cases h
      | some is =>
        rw [e] at h
        have h : ((intTups ds).map fun l => is :: l) = some ks := h
        cases e2 : intTups ds with
        | none => rw [e2] at h; cases h
        | some ks' =>
          rw [e2] at h
          cases h
          obtain ⟨ps, rfl, rfl, hp⟩ := tups_of e2 r
          cases r1 with
          | @tup a us _ hq rs =>
            have eu := allI_reps e rs
            subst eu
            refine ⟨(a, is) :: ps, rfl, rfl, fun p hp' => ?_⟩
            rcases List.mem_cons.mp hp' with rfl | hp'
            · exact hq.sq
            · exact hp p hp'
    | _ => cases h
theorem dedupK_mem {y : List Int} : ∀ {xs : List (List Int)}, y ∈ dedupK xs ↔ y ∈ xs
  | [] => Iff.rfl
  | x :: xs => by
    show y ∈ x :: (dedupK xs).filter _ ↔ _
    rw [List.mem_cons, List.mem_cons, List.mem_filter, dedupK_mem]
    by_cases e : y = x
    · simp [e]
    · simp [e]
theorem dedupK_nd : ∀ (xs : List (List Int)), (dedupK xs).Nodup
  | [] => List.nodup_nil
  | x :: xs => by
    show (x :: (dedupK xs).filter _).Nodup
    rw [List.nodup_cons]
    refine ⟨fun h => ?_, (dedupK_nd xs).filter _⟩
    have := (List.mem_filter.mp h).2
    simp at this
theorem nodup_le {α : Type} [DecidableEq α] : ∀ {l m : List α}, l.Nodup → (∀ x ∈ l, x ∈ m) → l.length ≤ m.length
  | [], _, _, _ => Nat.zero_le _
  | x :: l, m, h, hs => by
    rw [List.nodup_cons] at h
    have hx := hs x (List.mem_cons_self ..)
    have := nodup_le (m := m.erase x) h.2 fun y hy => (List.mem_erase_of_ne fun e => h.1 (by rw [← e]; exact hy)).mpr (hs y (List.mem_cons_of_mem _ hy))
    rw [List.length_erase_of_mem hx] at this
    have hpos : 0 < m.length := List.length_pos_of_mem hx
    rw [List.length_cons]
    omega
theorem ok_lenset (a : E) (ha : OkE tb F n a) : OkE tb F n (.bit .lenset (.seq a)) := by
  intro sx md ex X hc C
  cases ex with
  | Call fx xs kw pos => cases fx with
    | Name f p =>
      rcases xs with _ | ⟨x1, xr⟩
      · cases kw <;> cases hc
      cases x1 with
      | Call fx2 xs2 kw2 pos2 => cases fx2 with
        | Name f2 p2 =>
          rcases xr with _ | ⟨_, _⟩ <;> rcases kw with _ | ⟨_, _⟩ <;> rcases xs2 with _ | ⟨x, _ | ⟨_, _⟩⟩ <;> rcases kw2 with _ | ⟨_, _⟩ <;> first | (cases hc; done) | skip
          have hc : (bltB sx f "len" && bltB sx f2 "set" && chk sx .peek a x && !starB x) = true := hc
          obtain ⟨hc, h4⟩ := band hc
          obtain ⟨hc, h3⟩ := band hc
          obtain ⟨h1, h2⟩ := band hc
          have pa := pa_cons (ha sx .peek x X h3 C) pa_nil (star_of (bnot h4))
          obtain ⟨rfl, hg, hm⟩ := blt_of C h1 (by decide)
          obtain ⟨rfl, hg2, hm2⟩ := blt_of C h2 (by decide)
          have hu : X.A.units + 64 < cLine := by have := C.units; omega
          have ps := pe_callTy (p := p2) (pos := pos2) (cr_setOfT C.calm hu) hg2 hm2 (by decide +kernel) pa (by decide) (by decide) (star_of (bnot h4)) rfl
          have key := pe_callB (p := p) (pos := pos) cr_lenST hg hm (by decide +kernel) (pa_cons ps pa_nil (star_of rfl)) (by decide) (by decide) (star_of rfl) rfl
          refine PE_imp key ?_
          rintro σ H Q ⟨own, Xv, m, env, w, E, W, h⟩
          rw [show ev _ (.bit .lenset (.seq a)) env w = (ev _ a env w).dat.bind fun x w => (ofO (bitD .lenset x) w).bind fun z w => .ok (.d z) w from rfl, sat_bind, sat_dat] at h
          refine ⟨own, Xv, m, env, w, E, W, sat_mono h fun x1 w1 h v1 m1 H1 f1 W1 r1 => ?_⟩
          obtain ⟨dx, rfl, h⟩ := h
          rw [sat_bind, sat_ofO] at h
          obtain ⟨z, hz, h⟩ := h
          have r1' : RepB (cn X sx.nmf) H1 (Av own Xv m1) [] v1 dx := r1.1
          cases dx with
          | list ds =>
            have hz : ((intTups ds).bind fun ks => if Nat.blt ks.length 64 then some (PyData.int (dedupK ks).length) else none) = some z := hz
            cases hk : intTups ds with
            | none => rw [hk] at hz; cases hz
            | some ks =>
              rw [hk] at hz
              have hz : (if Nat.blt ks.length 64 then some (PyData.int (dedupK ks).length) else none) = some z := hz
              split at hz
              · rename_i hl
                cases hz
                obtain ⟨l, vs, rfl, hq, rs⟩ := r1'.lst
                obtain ⟨qs, rfl, rfl, ht⟩ := tups_of hk rs
                refine ⟨l, qs, rfl, hq, ht, by have := Nat.blt_eq.mp hl; simpa using this, fun b L hb hs1 hs2 => ?_⟩
                have nw : New H1 (L2.upd H1 b (SetTO X.prog X.w b L)) := .one hb
                refine ⟨b, L, rfl, upd_same, fun p hp => ?_, fun hnd => ?_⟩
                · have e := ht p (hs1 p hp)
                  rcases e with (e | ⟨o, e⟩) | e
                  · exact .inl (.inl (nw.at e))
                  · exact .inl (.inr ⟨o, nw.at e⟩)
                  · exact .inr e
                · have e : (L.length : Int) = (dedupK (qs.map (·.2))).length := by
                    have a1 := nodup_le hnd (m := dedupK (qs.map (·.2))) fun y hy => by
                      obtain ⟨p, hp, rfl⟩ := List.mem_map.mp hy
                      exact dedupK_mem.mpr (List.mem_map.mpr ⟨p, hs1 p hp, rfl⟩)
                    have a2 := nodup_le (dedupK_nd (qs.map (·.2))) (m := L.map (·.2)) fun y hy => by
                      obtain ⟨p, hp, rfl⟩ := List.mem_map.mp (dedupK_mem.mp hy)
                      exact hs2 p hp
                    rw [List.length_map] at a1 a2
                    omega
                  rw [e]
                  exact h _ m1 _ (f1.trans nw.fr) (W1.new nw) ⟨RepD.le (fresh_all md) (.inl ⟨rfl, .int _⟩), FW.non rfl⟩
              · cases hz
          | _ => cases hz
        | _ => rcases xr with _ | ⟨_, _⟩ <;> rcases kw with _ | ⟨_, _⟩ <;> cases hc
      | _ => rcases xr with _ | ⟨_, _⟩ <;> rcases kw with _ | ⟨_, _⟩ <;> cases hc
    | _ => cases hc
  | _ => cases hc
end
end Mx

set_option Elab.async false
set_option linter.all false
set_option maxRecDepth 100000
set_option maxHeartbeats 1000000
/-! My1: a, b = x, y; d == {}. -/
namespace Mx
open PySem PySem.Spec L2
section
variable {tb : Tbl} {F n : Nat} {sx : Sx} {X : Cx} {md : Mode} {c : Cn} {cf : Cfg} {mo : Nat → Bool} {H H' : Hp} {A : Addr → Prop} {nm : Nat → Str} {pins : List (Addr × Obj)} {σ : L2.St} {s : Shared}
theorem swapped_of {x y : Str} {px py pt pt2 : Pos} {kt k2 : Nat} {ax bx : Expr} {en : PySem.Env} (hk : en.blockKind = .function) (hx : en.kindOf x = some .local) (hy : en.kindOf y = some .local) (hl : (px.line == py.line) = true) (hne : x ≠ y) (h1 : starB ax = false) (h2 : starB bx = false)
    (h3 : [ax, bx].all (foldedForSure 8) = false) (h4 : [ax, bx].all (constantsAlone 8) = false) : swappedStores [.Tuple [.Name x px, .Name y py] kt pt] (.Tuple [ax, bx] k2 pt2) en = pure (some [x, y]) := by
  have hl : px.line = py.line := by simpa using hl
  have hst : ([ax, bx].any fun | .Starred .. => true | _ => false) = false := by
    cases ax <;> first | (cases h1; done) | (cases bx <;> first | rfl | cases h2)
  unfold swappedStores
  simp only [hk, h3, h4, hst]
  have ex : (en.kindOf x == some NameKind.local) = true := by rw [hx]; rfl
  have ey : (en.kindOf y == some NameKind.local) = true := by rw [hy]; rfl
  have el : (py.line == px.line) = true := by simp [hl]
  have ed : (List.eraseDups [x, y]).length = 2 := erase2 hne
  simp [Expr.pos, ex, ey, el, ed, hx, hy, hl]
  intro z
  cases ax <;> first | (cases h1; done) | (cases bx <;> first | (cases h2; done) | (rcases z with z | z <;> cases z))
theorem fnB_of {en : PySem.Env} (h : fnB en.scope = true) : en.blockKind = .function := by
  unfold fnB at h
  unfold PySem.Env.blockKind
  split at h
  · rename_i e
    rw [e]
    rfl
  · cases h
theorem ok_par (i j : Nat) (a b : E) (ha : OkE tb F n a) (hb : OkE tb F n b) : OkS tb F n (.par i j a b) := by
  intro sx st X hc C hp
  cases st with
  | Assign ts v pos =>
    have hc : (parC sx i j (parS ts v) && (match parS ts v with | some p => chk sx .keep a p.2.2.2.2.1 && !starB p.2.2.2.2.1 && chk sx .keep b p.2.2.2.2.2 && !starB p.2.2.2.2.2 | none => false)) = true := hc
    cases hq : parS ts v with
    | none => rw [hq] at hc; cases hc
    | some p =>
      rw [hq] at hc
      obtain ⟨x, px, y, py, ax, bx⟩ := p
      obtain ⟨kt, pt, k2, pt2, rfl, rfl⟩ := parS_some hq
      obtain ⟨hc, hd⟩ := band hc
      have hd : (chk sx .keep a ax && !starB ax && chk sx .keep b bx && !starB bx) = true := hd
      obtain ⟨hd, q11⟩ := band hd
      obtain ⟨hd, q10⟩ := band hd
      obtain ⟨q8, q9⟩ := band hd
      have hc : (decide (sx.N[i]? = some x) && decide (sx.N[j]? = some y) && !decide (i = j) && parN sx i x && parN sx j y && (px.line == py.line) && decide (x ≠ y) && !([ax, bx].all (foldedForSure 8)) && !([ax, bx].all (constantsAlone 8)) && fnB sx.sc) = true := hc
      obtain ⟨hc, q14⟩ := band hc
      obtain ⟨hc, q13⟩ := band hc
      obtain ⟨hc, q12⟩ := band hc
      obtain ⟨hc, q7⟩ := band hc
      obtain ⟨hc, q6⟩ := band hc
      obtain ⟨hc, q5⟩ := band hc
      obtain ⟨hc, q4⟩ := band hc
      obtain ⟨hc, q3⟩ := band hc
      obtain ⟨q1, q2⟩ := band hc
      obtain ⟨lx, mx⟩ := parN_of C q4
      obtain ⟨ly, my⟩ := parN_of C q5
      have hij : i ≠ j := of_decide_eq_false (bnot q3)
      have hi : X.N[i]? = some x := by rw [C.N]; exact of_decide_eq_true q1
      have hj : X.N[j]? = some y := by rw [C.N]; exact of_decide_eq_true q2
      have has : OkAs tb F n (.cons a (.cons b .nil)) := okAs_cons a _ ha (okAs_cons b _ hb okAs_nil)
      have hcs : chks sx (.cons a (.cons b .nil)) [ax, bx] = true := by
        show (chk sx .keep a ax && !starB ax && (chk sx .keep b bx && !starB bx && true)) = true
        rw [q8, q9, q10, q11]; rfl
      have key := ps_par (pos := pos) (px := px) (py := py) (pt := pt) (kt := kt) (k2 := k2) (pt2 := pt2) C.calm C.nd hi hj hij lx ly (has sx [ax, bx] X hcs C) (swapped_of (fnB_of (by rw [C.sc]; exact q14)) (by unfold PySem.Env.kindOf; exact lx) (by unfold PySem.Env.kindOf; exact ly) q6 (of_decide_eq_true q7) (bnot q9) (bnot q11) (bnot q12) (bnot q13)) rfl
      refine PS_imp key ?_
      rintro D σ H ⟨Xv, m0, H0, own, m, env, w, S, h⟩
      have h : ((ev ⟨callN tb F n, F⟩ a env w).bind fun x w => (ev ⟨callN tb F n, F⟩ b env w).bind fun y w => Res.ok (Fl.nx ((env.set i (some x)).set j (some y))) w).sat (Fin (cn X sx.nmf) sx.mof Xv m0 H0 own m H D) := h
      refine ⟨own, Xv, m, env, w, S.E, S.W, ?_⟩
      rw [evA_cons, sat_bind]
      rw [sat_bind] at h
      refine sat_mono h fun xa w1 h => ?_
      rw [sat_bind, evA_cons, sat_bind]
      rw [sat_bind] at h
      refine sat_mono h fun xb w2 h => ?_
      rw [sat_bind]
      show ∀ vs m' H', _
      intro vs m1 H1 f1 W1 r1
      rcases r1 with _ | ⟨ra, _ | ⟨rb, _ | _⟩⟩
      have S1 := S.step f1 W1
      exact ⟨_, _, rfl, h own m1 H1 _ ⟨(S1.E.set mx ra).set my rb, W1, S1.fr, S1.fo⟩ f1.kp'⟩
  | _ => cases hc
end
end Mx

set_option Elab.async false
set_option linter.all false
set_option maxRecDepth 100000
set_option maxHeartbeats 1000000
/-! My2: d == {}. -/
namespace Mx
open PySem PySem.Spec L2
section
variable {tb : Tbl} {F n : Nat} {sx : Sx} {X : Cx} {md : Mode} {c : Cn} {cf : Cfg} {mo : Nat → Bool} {H H' : Hp} {A : Addr → Prop} {nm : Nat → Str} {pins : List (Addr × Obj)} {σ : L2.St} {s : Shared}
theorem exd_types {h : Heap} {a : Addr} {o : Obj} (ho : h.get? a = some o) (hx : o.ExactDict) {s : Shared} (e : s.heap = h) : s.TypeIs (.ref a) "dict" := ⟨o, by rw [e]; exact ho, hx.1⟩
/-- two dicts, the first with entries, the second without -/
theorem diff0 {prog : Program} {w : World} {A : Around} {E : Value → Shared → Prop} {s : Shared} {nm : String} {a b : Addr} {oa ob : Obj} {es : Array DictEntry} {ep ep' : Nat} {Q : Bool → Shared → Prop} (ha : (a == sysModules) = false) (hb : (b == sysModules) = false)
    (hoa : s.heap.get? a = some oa) (hda : oa.data = .dict es ep) (hob : s.heap.get? b = some ob) (hdb : ob.data = .dict #[] ep') (hz : es.size ≠ 0) (h : Q false s) : wpAny (model prog w) A (Builtin.Dict.samePairs nm a b) Q E s := by
  unfold Builtin.Dict.samePairs Builtin.Dict.showsAll
  rw [if_neg (by rw [ha]; exact Bool.false_ne_true), if_neg (by rw [hb]; exact Bool.false_ne_true)]
  refine wpAny_bind (wpAny_pure (wpAny_bind (wpAny_pure (wpAny_bind (wpAny_dictEntries hoa hda ?_)))))
  refine wpAny_bind (wpAny_dictEntries hob hdb ?_)
  rw [if_pos (by simpa using hz)]
  exact wpAny_bind (wpAny_rule (wpAny_pure h))
theorem empty_of {prog : Program} {w : World} {K : Type} [DecidableEq K] {knd : KeyKind prog w K} {h : Heap} {a : Addr} {o : Obj} {ep : Nat} (ho : h.get? a = some o) (hx : o.ExactDict) (hd : o.data = .dict #[] ep) : h.DictOf knd a [] :=
  ⟨o, #[], ep, ho, hx, hd, (fun e he => absurd he (by simp)), .nil, List.nodup_nil⟩
theorem eq_dict0 {prog : Program} {w : World} {A : Around} {E : Value → Shared → Prop} {s : Shared} {a b : Addr} {oa ob : Obj} {es : Array DictEntry} {ep ep' : Nat} {Q : Value → Shared → Prop} (ha : (a == sysModules) = false) (hb : (b == sysModules) = false) (hu : A.units < cLine)
    (hoa : s.heap.get? a = some oa) (hxa : oa.ExactDict) (hda : oa.data = .dict es ep) (hob : s.heap.get? b = some ob) (hxb : ob.ExactDict) (hdb : ob.data = .dict #[] ep') (h : Q (.bool (decide (es.size = 0))) s) : wpAny (model prog w) A (compareOp .Eq (.ref a) (.ref b)) Q E s := by
  by_cases hz : es.size = 0
  · have he : es = #[] := Array.eq_empty_of_size_eq_zero hz
    subst he
    refine PySem.W.keq_eq (knd := mixKind prog w) (r := true) ha hb (empty_of hoa hxa hda) (empty_of hob hxb hdb) hu (fun _ => .nil) ?_
    simpa using h
  · have da : s.TypeIs (.ref a) "dict" := ⟨oa, hoa, hxa.1⟩
    have db : s.TypeIs (.ref b) "dict" := ⟨ob, hob, hxb.1⟩
    rw [show decide (es.size = 0) = false from decide_eq_false hz] at h
    refine wpAny_richCompare_same_room (op := .Eq) da db PySem.F.slot_dict_eq (wpAny_call_entry PySem.F.slot_dict_eq da PySem.F.entry_dict_eq ?_ (PySem.F.args_dict_eq_2 _ _)) hu
    show wpAny _ _ (Builtin.Dict.dictSlotArgs "__eq__" ⟨[.ref a, .ref b], []⟩ >>= _) _ _ s
    refine wpAny_bind ?_
    unfold Builtin.Dict.dictSlotArgs
    refine wpAny_bind (wpAny_notOrdered_dict da ?_)
    show wpAny _ _ (pure (Value.ref a, Value.ref b)) _ _ s
    refine wpAny_pure (wpAny_bind (wpAny_isInstance (T := "dict") db PySem.F.sub_dict_dict ?_))
    simp only [Bool.not_true, Bool.false_eq_true, if_false]
    refine wpAny_bind (wpAny_pure (wpAny_bind (wpAny_pure (wpAny_bind (diff0 ha hb hoa hda hob hdb hz ?_)))))
    exact wpAny_pure ⟨_, rfl, ⟨(fun x => by cases x), by simpa using h⟩⟩
theorem op_deq0 {nm : Nat → Str} (hu : X.A.units + 66 < cLine) : OpR X (compareOp .Eq) (fun x y H Q => ∃ (A : Addr → Prop) (kvs : List (D × D)) (b : Addr) (ep : Nat), RepB (cn X nm) H A [] x (.dict kvs) ∧ y = .ref b ∧ H b = some (dRaw b [] ep) ∧ Q (.bl kvs.isEmpty) H) := by
  rintro pins s σ H x y v u Q I rx ry ⟨A, kvs, b, ep, hx, rfl, hb, q⟩
  obtain ⟨a, L, epa, rfl, h1, h2, h3⟩ := hx.dct
  cases rx
  cases ry
  obtain ⟨g1, g2, oa, es, ga, gx, gd, ge⟩ := Inv.raw I h1
  obtain ⟨k1, k2, ob, es2, ka, kx, kd, ke⟩ := Inv.raw I hb
  have e2 : es2 = #[] := by
    have := congrArg List.length ke
    exact Array.eq_empty_of_size_eq_zero (by simpa using this)
  subst e2
  refine eq_dict0 g1 k1 (by omega) ga gx gd ka kx kd ⟨.bl kvs.isEmpty, H, I, ?_, q⟩
  have hl : es.size = kvs.length := by rw [← h3.length, ← ge, Array.length_toList]
  show Value.bool _ = Value.bool _
  congr 1
  rw [hl]
  cases kvs <;> simp
theorem ev_deq0 (cf : Cfg) (a : E) (env : Env) (w : Wd) : ev cf (.deq0 false a) env w = (ev cf a env w).dat.bind fun x w => match x with
    | .dict kvs => .ok (.d (.bool kvs.isEmpty)) w
    | _ => .stuck := rfl
theorem tE_deq0 {a : E} (σ : L2.St) (H : Hp) (Q : VK) (h : tE (cn X nm) cf mo md (.deq0 false a) σ H Q) : tOp (fun x y H Q => ∃ (A : Addr → Prop) (kvs : List (D × D)) (b : Addr) (ep : Nat), RepB (cn X nm) H A [] x (.dict kvs) ∧ y = .ref b ∧ H b = some (dRaw b [] ep) ∧ Q (.bl kvs.isEmpty) H) (tE (cn X nm) cf mo .look a) tDNew σ H Q := by
  obtain ⟨own, Xv, m, env, w, E, W, h⟩ := h
  rw [ev_deq0, sat_bind, sat_dat] at h
  refine ⟨own, Xv, m, env, w, E, W, sat_mono h fun x1 w1 h v1 m1 H1 f1 W1 r1 => ?_⟩
  obtain ⟨dx, rfl, h⟩ := h
  cases dx with
  | dict kvs =>
    have h : ∀ v m' H', Fr (cn X nm).K m m' H H' → WOk (cn X nm) own Xv m' H' w1 → RepM (cn X nm) own Xv md H m' H' w1 (.d (.bool kvs.isEmpty)) v → Q v H' := h
    intro p hp L ep hL
    subst hL
    have nw : New H1 (L2.upd H1 p (dRaw p [] ep)) := .one hp
    have r1' : RepB (cn X nm) H1 (Av own Xv m1) m1 v1 (.dict kvs) := r1.1
    refine ⟨Av own Xv m1, kvs, p, ep, (r1'.keep nw.fr).all, rfl, upd_same, h _ m1 _ (f1.trans nw.fr) (W1.new nw) ⟨RepD.le (fresh_all md) (.inl ⟨rfl, .bl _⟩), FW.non rfl⟩⟩
  | _ => exact h.elim
theorem ok_deq0 (a : E) (ha : OkE tb F n a) : OkE tb F n (.deq0 false a) ∧ OkT tb F n (.deq0 false a) := by
  have key : ∀ (sx : Sx) (md : Mode) (ex : Expr) (X : Cx), chk sx md (.deq0 false a) ex = true → Ctx tb F n sx X → PE X ex (tE (cn X sx.nmf) ⟨callN tb F n, F⟩ sx.mof md (.deq0 false a)) ∧ PT X ex (tT (cn X sx.nmf) ⟨callN tb F n, F⟩ sx.mof (.deq0 false a)) := by
    intro sx md ex X hc C
    cases ex with
    | Compare l os rs pos =>
      rcases os with _ | ⟨o, _ | ⟨_, _⟩⟩ <;> rcases rs with _ | ⟨r, _ | ⟨_, _⟩⟩ <;> first | (cases hc; done) | skip
      all_goals (cases r <;> first | (cases hc; done) | skip)
      all_goals (rename_i ks vs p2; rcases ks with _ | ⟨_, _⟩ <;> rcases vs with _ | ⟨_, _⟩ <;> first | (cases hc; done) | skip)
      have hc : (copB .eq o && chk sx .look a l) = true := hc
      obtain ⟨h1, h2⟩ := band hc
      cases o <;> first | (cases h1; done) | skip
      have pa := ha sx .look l X h2 C
      exact ⟨PE_imp (pe_cmpR (op_deq0 (nm := sx.nmf) C.units) pa pe_dnewR rfl) fun σ H Q q => tE_deq0 σ H Q q, PT_imp (pt_cmpR (op_deq0 (nm := sx.nmf) C.units) pa pe_dnewR rfl) fun σ H Q q => tE_deq0 σ H _ (tT_E q)⟩
    | _ => cases hc
  exact ⟨fun sx md ex X hc C => (key sx md ex X hc C).1, fun sx ex X hc C => (key sx .keep ex X hc C).2⟩
end
end Mx

set_option Elab.async false
set_option linter.all false
set_option maxRecDepth 100000
set_option maxHeartbeats 1000000
/-! My3: list(range(..)). -/
namespace Mx
open PySem PySem.Spec L2
def rngV (lo : Int) : Nat → List V
  | 0 => []
  | n + 1 => .int lo :: rngV (lo + 1) n
theorem rngV_len : ∀ (n : Nat) (lo : Int), (rngV lo n).length = n
  | 0, _ => rfl
  | n + 1, lo => by rw [rngV, List.length_cons, rngV_len n]
theorem rngV_reps {c : Cn} {H : Hp} {A : Addr → Prop} : ∀ (n : Nat) (lo : Int), Reps c H A (rngV lo n) (rangeD lo n)
  | 0, _ => .nil
  | n + 1, lo => .cons (.int _) (rngV_reps n (lo + 1))
theorem rngV_vals : ∀ (n : Nat) (lo : Int) (its : List Value), its.length = n → (∀ (j : Nat) v, its[j]? = some v → ∃ t, v = .int (lo + j) t) → Vals (rngV lo n) its
  | 0, _, its, hl, _ => by cases its with
    | nil => exact .nil
    | cons _ _ => cases hl
  | n + 1, lo, its, hl, h => by cases its with
    | nil => cases hl
    | cons x its =>
      obtain ⟨t, e⟩ := h 0 x rfl
      refine .cons ⟨t, by simpa using e⟩ (rngV_vals n (lo + 1) its (by simpa using hl) fun j v hj => ?_)
      obtain ⟨t, e⟩ := h (j + 1) v (by simpa using hj)
      exact ⟨t, by rw [e]; congr 1; simp only [Int.natCast_add, Int.natCast_one]; omega⟩
section
variable {tb : Tbl} {F n : Nat} {sx : Sx} {X : Cx} {md : Mode} {c : Cn} {cf : Cfg} {mo : Nat → Bool} {H H' : Hp} {A : Addr → Prop} {nm : Nat → Str} {pins : List (Addr × Obj)} {σ : L2.St} {s : Shared}
def rListRng : List V → Hp → VK → Prop := fun vs H Q => ∃ (p : Addr) (lo hi : Int), vs = [.ref p] ∧ H p = some (.rng lo hi) ∧ in62 lo = true ∧ in62 hi = true ∧ fits (hi - lo).toNat = true ∧ ∀ l, H l = none → Q (.ref l) (L2.upd H l (.lst (rngV lo (hi - lo).toNat)))
theorem cr_listRng (hc : X.calm = true) : CallR X (.type "list") rListRng := by
  rintro pins s σ H xs us Q I r ⟨p, lo, hi, rfl, h, h1, h2, hf, q⟩
  rw [Vals.ref1 r]
  obtain ⟨t, u, v, hr⟩ := (show ObjOk X.prog X.w H s.heap p (.rng lo hi) from I.hok p _ h)
  have z1 := ok62 h1
  have z2 := ok62 h2
  have hs : Builtin.Range.rangeSize lo hi 1 = (hi - lo).toNat := PyProof.Rows.rangeSize_nat lo hi
  have hsm : Builtin.Range.small lo hi 1 = true := by
    unfold Builtin.Range.small
    rw [hs]
    have z3 : ((hi - lo).toNat : Int) < 2 ^ 63 := by omega
    simp [Builtin.Range.rangeFitsLong]
    omega
  refine call_list_range (I.ok.hd hc) hr hsm hs (fits_le hf) fun h' tk acc' c' keep hl hi' => ?_
  have hn : H s.heap.objs.size = none := I.hok.fresh (Nat.le_refl _)
  refine ⟨.ref s.heap.objs.size, _, I.laid (t' := tk) keep (Nat.le_refl _) (o := .lst (rngV lo (hi - lo).toNat)) ⟨by rw [rngV_len]; exact fits_le hf, acc'.toList, c', ?_, by simpa using hl⟩, rfl, q _ hn⟩
  refine rngV_vals _ _ _ (by rw [Array.length_toList]; exact hi'.1) fun j v hj => ?_
  obtain ⟨t, e⟩ := hi'.2 j v (by simpa using hj)
  exact ⟨t, by rw [e]; simp⟩
theorem ok_listRng (a b : E) (ha : OkE tb F n a) (hb : OkE tb F n b) : OkE tb F n (.bit .list (.rng2 a b)) := by
  intro sx md ex X hc C
  cases ex with
  | Call fx xs kw pos => cases fx with
    | Name f p =>
      rcases xs with _ | ⟨x1, xr⟩
      · cases kw <;> cases hc
      cases x1 with
      | Call fx2 xs2 kw2 pos2 => cases fx2 with
        | Name f2 p2 =>
          rcases xr with _ | ⟨_, _⟩ <;> rcases kw with _ | ⟨_, _⟩ <;> rcases xs2 with _ | ⟨x, _ | ⟨y, _ | ⟨_, _⟩⟩⟩ <;> rcases kw2 with _ | ⟨_, _⟩ <;> first | (cases hc; done) | skip
          have hc : (bltB sx f "list" && bltB sx f2 "range" && chk sx .keep a x && !starB x && chk sx .keep b y && !starB y) = true := hc
          obtain ⟨hc, h6⟩ := band hc
          obtain ⟨hc, h5⟩ := band hc
          obtain ⟨hc, h4⟩ := band hc
          obtain ⟨hc, h3⟩ := band hc
          obtain ⟨h1, h2⟩ := band hc
          have pa := pa_cons (ha sx .keep x X h3 C) (pa_cons (hb sx .keep y X h5 C) pa_nil (star_of (bnot h6))) (star_of (bnot h4))
          obtain ⟨rfl, hg, hm⟩ := blt_of C h1 (by decide)
          obtain ⟨rfl, hg2, hm2⟩ := blt_of C h2 (by decide)
          have ps := pe_callTy (p := p2) (pos := pos2) cr_range2 hg2 hm2 (by decide +kernel) pa (by decide) (by decide) (star_of (bnot h4)) (tail1_star (bnot h6))
          have key := pe_callTy (p := p) (pos := pos) (cr_listRng C.calm) hg hm (by decide +kernel) (pa_cons ps pa_nil (star_of rfl)) (by decide) (by decide) (star_of rfl) rfl
          refine PE_imp key ?_
          rintro σ H Q ⟨own, Xv, m, env, w, E, W, h⟩
          rw [show ev ⟨callN tb F n, F⟩ (.bit .list (.rng2 a b)) env w = (evI ⟨callN tb F n, F⟩ (.rng2 a b) env w).bind fun xs w => if fits xs.length then (ofO (bitD .list (.list xs)) w).bind fun z w => .ok (.d z) w else .stuck from rfl,
            show evI ⟨callN tb F n, F⟩ (.rng2 a b) env w = (ev ⟨callN tb F n, F⟩ a env w).num.bind fun m w => (ev ⟨callN tb F n, F⟩ b env w).num.bind fun n w => if in62 m && in62 n then .ok (rangeD m (n - m).toNat) w else .stuck from rfl, sat_bind, sat_bind, sat_num] at h
          refine ⟨own, Xv, m, env, w, E, W, sat_mono h fun x1 w1 h v1 m1 H1 f1 W1 r1 => ?_⟩
          obtain ⟨lo, rfl, h⟩ := h
          rw [sat_bind, sat_num] at h
          refine ⟨own, Xv, m1, env, w1, E.step f1 W, W1, sat_mono h fun x2 w2 h v2 m2 H2 f2 W2 r2 => ?_⟩
          obtain ⟨hi, rfl, h⟩ := h
          obtain ⟨h62, h⟩ := sat_if h
          obtain ⟨g1, g2⟩ := band h62
          have h : (if fits (rangeD lo (hi - lo).toNat).length then (ofO (bitD .list (.list (rangeD lo (hi - lo).toNat))) w2).bind fun z w => Res.ok (Vl.d z) w else .stuck).sat _ := h
          obtain ⟨hf, h⟩ := sat_if h
          rw [rangeD_len] at hf
          have e1 : RepB (cn X sx.nmf) H1 (Av own Xv m1) [] v1 (.int lo) := .of r1.1
          have e2 : RepB (cn X sx.nmf) H2 (Av own Xv m2) [] v2 (.int hi) := .of r2.1
          obtain rfl := e1.int
          obtain rfl := e2.int
          refine ⟨lo, hi, rfl, fun p1 hp1 => ⟨p1, lo, hi, rfl, upd_same, g1, g2, hf, fun l hl => ?_⟩⟩
          have nw1 : New H2 (L2.upd H2 p1 (.rng lo hi)) := .one hp1
          have nw2 : New (L2.upd H2 p1 (.rng lo hi)) (L2.upd (L2.upd H2 p1 (.rng lo hi)) l (.lst (rngV lo (hi - lo).toNat))) := .one hl
          have W3 := W2.new nw1
          have E3 := ((E.step f1 W).step f2 W1).step (nw1.fr (m := m2)) W2
          have fl := freshL (c := cn X sx.nmf) (m := m2) hl (W3.dom E3) (rngV_reps (hi - lo).toNat lo)
          have f3 := (f1.trans f2).trans (nw1.fr (m := m2))
          exact h _ m2 _ (f3.trans nw2.fr) (W3.new nw2) ⟨RepD.le (fresh_all md) (RepD.back (m1 := m2) rfl f3 W3 fl), FW.new nw2 W3 fl⟩
        | _ => rcases xr with _ | ⟨_, _⟩ <;> rcases kw with _ | ⟨_, _⟩ <;> cases hc
      | _ => rcases xr with _ | ⟨_, _⟩ <;> rcases kw with _ | ⟨_, _⟩ <;> cases hc
    | _ => cases hc
  | _ => cases hc
end
end Mx

set_option Elab.async false
set_option linter.all false
set_option maxRecDepth 100000
set_option maxHeartbeats 1000000
/-! My4: slices with a step. -/
namespace Mx
open PySem PySem.Spec L2
/-- the items that a slice with a step takes -/
def stepPick {α : Type} (xs : List α) (lo : Option Int) (st : Int) : List α := (List.range (Builtin.Slice.slicePlaces (Builtin.Slice.sliceAdjust lo none st xs.length).1 (Builtin.Slice.sliceAdjust lo none st xs.length).2 st)).filterMap fun (m : Nat) => xs[((Builtin.Slice.sliceAdjust lo none st xs.length).1 + (m : Int) * st).toNat]?
section
variable {prog : Program} {w : World} {A : Around} {E : Value → Shared → Prop} {s : Shared}
theorem getItem_step {t sl : Addr} {items : List Value} {vl vk : Value} {lo : Option Int} {st : Int} {Q : Value → Shared → Prop} (ht : PyProof.Rows.IsTup s.heap t items.toArray) (hs : s.heap.IsSliceOf sl vl .none vk) (pl : IsPart vl lo) (pk : IsPart vk (some st)) (h0 : (st == 0) = false) (h1 : (st == 1) = false)
    (h : Q (.ref s.heap.objs.size) { s with heap := s.heap.push { cls := .type "tuple", data := .seq (stepPick items lo st).toArray } }) (hsz : (stepPick items lo st).length ≤ sizeLine) : wpAny (model prog w) A (getItem (.ref t) (.ref sl)) Q E s := by
  have hok : sizeOk (.seq (stepPick items lo st).toArray) := by show (stepPick items lo st).toArray.size ≤ sizeLine; rw [List.size_toArray]; exact hsz
  obtain ⟨os, hos, hcs, hds⟩ := id hs
  have hTs : s.TypeIs (.ref sl) "slice" := ⟨os, hos, hcs⟩
  unfold getItem
  try with_reducible refine wpAny_holding ?_
  first | refine wpAny_bind (wpAny_pure ?_) | skip
  refine wpAny_bind (wpAny_sequenceKey ht.typeIs (by decide) ?_)
  refine wpAny_bind (wpAny_callSpecial?_slot (name := Str.ofString "__getitem__") ht.typeIs PyProof.Rows.slot_tuple_getitem (wpAny_call_entry PyProof.Rows.slot_tuple_getitem ht.typeIs PyProof.Rows.entry_tuple_getitem ?_ (PyProof.Rows.args_tuple_getitem _ _)))
  show wpAny _ _ (Builtin.Tuple.tupleItemsOf (.ref t) >>= _) _ _ s
  refine wpAny_bind (PyProof.Rows.tupleItemsOf_ ht (wpAny_bind (wpAny_typeOf hTs ?_)))
  rw [if_pos (by decide)]
  refine wpAny_bind ?_
  unfold Builtin.Slice.sliceApplied Builtin.Slice.sliceFields
  refine wpAny_bind (wpAny_bind (wpAny_field hos hds (x := vl) rfl (wpAny_bind (wpAny_field hos hds (x := .none) rfl (wpAny_bind (wpAny_field hos hds (x := vk) rfl (wpAny_pure ?_)))))))
  refine wpAny_bind (HT.slicePart_ pk ?_)
  show wpAny _ _ (if (st == 0) = true then _ else _) _ _ s
  rw [h0, if_neg Bool.false_ne_true]
  refine wpAny_bind (HT.slicePart_ pl (wpAny_bind (HT.slicePart_ .none (wpAny_bind (wpAny_pure ?_)))))
  refine wpAny_pure ?_
  show wpAny _ _ (if ((Builtin.Slice.sliceAdjust lo none st (items.toArray.size : Int)).1 == 0 && st == 1 && _) = true then _ else _) _ _ s
  rw [if_neg (by rw [h1, Bool.and_false, Bool.false_and]; exact Bool.false_ne_true)]
  rw [List.size_toArray]
  show wpAny _ _ (Builtin.Tuple.tupleExact ((List.range (Builtin.Slice.slicePlaces (Builtin.Slice.sliceAdjust lo none st items.length).1 (Builtin.Slice.sliceAdjust lo none st items.length).2 st)).filterMap fun (m : Nat) => items.toArray[((Builtin.Slice.sliceAdjust lo none st items.length).1 + (m : Int) * st).toNat]?).toArray >>= _) _ _ s
  rw [show ((List.range (Builtin.Slice.slicePlaces (Builtin.Slice.sliceAdjust lo none st items.length).1 (Builtin.Slice.sliceAdjust lo none st items.length).2 st)).filterMap fun (m : Nat) => items.toArray[((Builtin.Slice.sliceAdjust lo none st items.length).1 + (m : Int) * st).toNat]?) = stepPick items lo st by simp [stepPick]]
  exact wpAny_bind (m := Builtin.Tuple.tupleExact _) (wpAny_newObj_type (wpAny_pure ⟨_, rfl, wpAny_pure h⟩) hok)
end
/-! ### what is taken -/
theorem fm_congr {α β : Type} {f g : α → Option β} : ∀ {l : List α}, (∀ x ∈ l, f x = g x) → l.filterMap f = l.filterMap g
  | [], _ => rfl
  | x :: l, h => by rw [List.filterMap_cons, List.filterMap_cons, h x (List.mem_cons_self ..), fm_congr fun y hy => h y (List.mem_cons_of_mem _ hy)]
theorem pick2 {α : Type} : ∀ (xs : List α), ((List.range ((xs.length + 1) / 2)).filterMap fun m => xs[m * 2]?) = seconds xs
  | [] => by simp [seconds]
  | [x] => by simp [seconds, List.range_succ]
  | x :: y :: r => by
    have e : ((x :: y :: r).length + 1) / 2 = (r.length + 1) / 2 + 1 := by simp only [List.length_cons]; omega
    rw [e, List.range_succ_eq_map, List.filterMap_cons]
    show x :: _ = x :: seconds r
    rw [List.filterMap_map, ← pick2 r]
    congr 1
    refine fm_congr fun m _ => ?_
    show (x :: y :: r)[(m + 1) * 2]? = r[m * 2]?
    have : (m + 1) * 2 = m * 2 + 1 + 1 := by omega
    rw [this, List.getElem?_cons_succ, List.getElem?_cons_succ]
theorem stepPick_two {α : Type} (xs : List α) (k : Nat) (lo : Option Int) (hlo : lo = (if k = 0 then none else some (k : Int)) ∨ lo = some (k : Int)) : stepPick xs lo 2 = seconds (xs.drop k) := by
  have ha : (Builtin.Slice.sliceAdjust lo none 2 (xs.length : Int)) = (((min k xs.length : Nat) : Int), (xs.length : Int)) := by
    unfold Builtin.Slice.sliceAdjust
    rcases hlo with h | h
    · rw [h]
      by_cases hk : k = 0
      · simp [hk]
      · simp [hk]; omega
    · rw [h]
      simp; omega
  unfold stepPick
  rw [ha]
  have hp : Builtin.Slice.slicePlaces ((min k xs.length : Nat) : Int) (xs.length : Int) 2 = ((xs.drop k).length + 1) / 2 := by
    unfold Builtin.Slice.slicePlaces
    rw [List.length_drop]
    by_cases hl : k < xs.length
    · have : min k xs.length = k := by omega
      rw [this]
      simp only [show ((2 : Int) > 0) = True from by simp, if_true, show ((k : Int) < (xs.length : Int)) = True from by simp; omega, if_true]
      omega
    · have : min k xs.length = xs.length := by omega
      rw [this]
      simp
      omega
  rw [hp, ← pick2]
  refine fm_congr fun m hm => ?_
  rw [List.getElem?_drop]
  have hm := List.mem_range.mp hm
  rw [List.length_drop] at hm
  congr 1
  omega
theorem stepPick_rev {α : Type} (xs : List α) : stepPick xs none (-1) = xs.reverse := by
  have ha : (Builtin.Slice.sliceAdjust none none (-1) (xs.length : Int)) = ((xs.length : Int) - 1, -1) := by
    unfold Builtin.Slice.sliceAdjust
    simp
  unfold stepPick
  rw [ha]
  have hp : Builtin.Slice.slicePlaces ((xs.length : Int) - 1) (-1) (-1) = xs.length := by
    unfold Builtin.Slice.slicePlaces
    simp
    split <;> omega
  rw [hp]
  apply List.ext_getElem?
  intro i
  have key : ∀ k, k ≤ xs.length → ((List.range k).filterMap fun (m : Nat) => xs[((xs.length : Int) - 1 + (m : Int) * -1).toNat]?) = xs.reverse.take k := by
    intro k
    induction k with
    | zero => intro _; simp
    | succ k ih =>
      intro hk
      rw [List.range_succ, List.filterMap_append, ih (by omega), List.take_succ]
      congr 1
      have : ((xs.length : Int) - 1 + (k : Int) * -1).toNat = xs.length - 1 - k := by omega
      rw [List.filterMap_cons, this, List.filterMap_nil]
      have hlt : k < xs.length := by omega
      rw [List.getElem?_reverse hlt]
      have hl2 : xs.length - 1 - k < xs.length := by omega
      rw [List.getElem?_eq_getElem hl2]
      rfl
  rw [key xs.length (Nat.le_refl _), ← List.length_reverse, List.take_length]
section
variable {tb : Tbl} {F n : Nat} {sx : Sx} {X : Cx} {md : Mode} {c : Cn} {cf : Cfg} {mo : Nat → Bool} {H H' : Hp} {A : Addr → Prop} {nm : Nat → Str} {pins : List (Addr × Obj)} {σ : L2.St} {s : Shared}
/-- a part of a slice that is written -/
def PartIs (X : Cx) (e : Option Expr) (o : Option Int) : Prop := PO X e fun _ H Q => Q o H
theorem part_none : PartIs X none none := po_none
theorem part_int {i : Int} {j : Nat} {p : Pos} : PartIs X (some (.Constant (.int i) j p)) (some i) := PO_imp (po_some pe_int) fun σ H Q q => ⟨i, rfl, q⟩
theorem part_neg {i : Int} {j : Nat} {p p2 : Pos} : PartIs X (some (.UnaryOp .USub (.Constant (.int i) j p) p2)) (some (-i)) := PO_imp (po_some (pe_un un_neg pe_int)) fun σ H Q q => ⟨i, rfl, -i, rfl, q⟩
theorem pe_step {e : Expr} {te : TE} {lo : Option Expr} {sp : Expr} {l : Option Int} {st : Int} {p2 pos : Pos} {g : D → Option D} {nm : Nat → Str} (he : PE X e te) (hl : PartIs X lo l) (hk : PartIs X (some sp) (some st)) (h0 : (st == 0) = false) (h1 : (st == 1) = false)
    (hg : ∀ x z, g x = some z → ∃ xs, x = .tuple xs ∧ z = .tuple (stepPick xs l st)) (hlen : ∀ {α : Type} (xs : List α), (stepPick xs l st).length ≤ xs.length)
    (hrep : ∀ (c : Cn) (H : Hp) (A : Addr → Prop) (vs : List V) (ds : List D), Reps c H A vs ds → Reps c H A (stepPick vs l st) (stepPick ds l st)) (hval : ∀ (vs : List V) (us : List Value), Vals vs us → Vals (stepPick vs l st) (stepPick us l st)) :
    PE X (.Subscript e (.Slice lo none (some sp) p2) pos) (tUn (rU1 (cn X nm) .fresh g) te) := by
  refine ⟨fun pins s σ H Q I h => ?_⟩
  refine PyProof.Rows.Subscript_ (thn (he.run pins s σ H _ I h) fun v s1 ⟨x, H1, I1, r1, q1⟩ => ?_)
  obtain ⟨A, dx, z, hA, hx, hgz, q⟩ := q1
  refine wpAny_Slice (thn (hl.run pins s1 σ H1 (fun o H' => l = o ∧ H1 = H') I1 ⟨rfl, rfl⟩) fun vl s2 ⟨l', H2, I2, pl, e1, e2⟩ => ?_)
  subst e1 e2
  rw [evalPart_none]
  refine wpAny_pure (thn (hk.run pins s2 σ H1 (fun o H' => some st = o ∧ H1 = H') I2 ⟨rfl, rfl⟩) fun vk s3 ⟨k', H3, I3, pk, e1, e2⟩ => ?_)
  subst e1 e2
  have I4 : Inv X pins σ H1 { s3 with heap := s3.heap.push { cls := .type "slice", data := .fields #[vl, .none, vk] } } := I3.kept (t' := s3.toks) fun b ob q => Heap.get?_push_of_some _ q
  obtain ⟨ds, rfl, rfl⟩ := hg dx z hgz
  obtain ⟨a, vs, rfl, ha, ra⟩ := hx.tup
  cases r1
  obtain ⟨its, rv, ht, hz⟩ := I4.tuple ha.sq
  show wpAny (model X.prog X.w) X.A (PyProof.Rows.subscriptTail e (.Slice lo none (some sp) p2) (.ref a) (.ref s3.heap.objs.size)) (EP X pins σ Q) X.xe { s3 with heap := s3.heap.push { cls := .type "slice", data := .fields #[vl, .none, vk] } }
  have hn := I4.hok.fresh (Nat.le_refl _)
  refine PyProof.Rows.tail_any (ops := [.ref a, .ref s3.heap.objs.size]) ht.typeIs PyProof.Rows.slot_tuple_getitem.lookup ?_ (by with_unfolding_all rfl)
  refine getItem_step ht (Heap.IsSliceOf.new ..) pl pk h0 h1 ?_ (Nat.le_trans (hlen its) (by rw [← rv.length]; exact hz))
  refine ⟨.ref _, _, lay_tup I4 (hval vs its rv) (Nat.le_trans (hlen vs) hz), rfl, q _ _ (.one hn) (freshT hn rfl (hrep _ _ _ _ _ ra))⟩
theorem seconds_len {α : Type} : ∀ (xs : List α), (seconds xs).length ≤ xs.length
  | [] => Nat.le_refl _
  | [x] => Nat.le_refl _
  | x :: y :: r => by have := seconds_len r; simp only [seconds, List.length_cons]; omega
theorem seconds_reps : ∀ {vs : List V} {ds : List D}, Reps c H A vs ds → Reps c H A (seconds vs) (seconds ds)
  | _, _, .nil => .nil
  | _, _, .cons h .nil => .cons h .nil
  | _, _, .cons h (.cons _ r) => .cons h (seconds_reps r)
theorem seconds_vals : ∀ {vs : List V} {us : List Value}, Vals vs us → Vals (seconds vs) (seconds us)
  | _, _, .nil => .nil
  | _, _, .cons h .nil => .cons h .nil
  | _, _, .cons h (.cons _ r) => .cons h (seconds_vals r)
theorem vals_rev : ∀ {vs : List V} {us : List Value}, Vals vs us → Vals vs.reverse us.reverse
  | _, _, .nil => .nil
  | _, _, .cons h r => by rw [List.reverse_cons, List.reverse_cons]; exact (vals_rev r).append (.cons h .nil)
theorem loB_part {k : Nat} {lo : Option Expr} (h : loB k lo = true) : PartIs X lo (if k = 0 then none else some (k : Int)) := by
  unfold loB at h
  split at h
  · have := Nat.eq_of_beq_eq_true h
    rw [if_pos this]; exact part_none
  · obtain ⟨h1, h2⟩ := band h
    have e := of_decide_eq_true h1
    subst e
    have h2 := bnot h2
    rw [if_neg fun z => by rw [z] at h2; cases h2]
    exact part_int
  · cases h
theorem ok_sl3 (a : E) (k : Nat) (st : Int) (ha : OkE tb F n a) : OkE tb F n (.sl3 a k st) := by
  intro sx md ex X hc C
  cases ex with
  | Subscript v sl pos => cases sl with
    | Slice lo hi sp p2 =>
      rcases hi with _ | hi <;> rcases sp with _ | sp <;> first | (cases hc; done) | skip
      have hc : (chk sx .look a v && loB k lo && stepB st sp) = true := hc
      obtain ⟨hc, h3⟩ := band hc
      obtain ⟨h1, h2⟩ := band hc
      have pa := ha sx .look v X h1 C
      have pl := loB_part (X := X) h2
      have fin : PE X (.Subscript v (.Slice lo none (some sp) p2) pos) (tUn (rU1 (cn X sx.nmf) .fresh (fun x => sl3D x k st)) (tE (cn X sx.nmf) ⟨callN tb F n, F⟩ sx.mof .look a)) := by
        unfold stepB at h3
        split at h3
        · obtain ⟨e1, e2⟩ := band h3
          have e1 := of_decide_eq_true e1
          have e2 := of_decide_eq_true e2
          subst e1 e2
          refine pe_step (st := 2) pa pl part_int rfl rfl (fun x z e => ?_) (fun xs => ?_) (fun c H A vs ds r => ?_) fun vs us r => ?_
          · cases x <;> first | (cases e; done) | skip
            rename_i xs
            have e : some (PyData.tuple (seconds (xs.drop k))) = some z := by
              rw [← e]
              unfold sl3D
              rfl
            cases e
            exact ⟨xs, rfl, by rw [stepPick_two xs k _ (.inl rfl)]⟩
          · rw [stepPick_two xs k _ (.inl rfl)]
            exact Nat.le_trans (seconds_len _) (by rw [List.length_drop]; omega)
          · rw [stepPick_two vs k _ (.inl rfl), stepPick_two ds k _ (.inl rfl)]
            exact seconds_reps (r.drop k)
          · rw [stepPick_two vs k _ (.inl rfl), stepPick_two us k _ (.inl rfl)]
            exact seconds_vals (r.drop k)
        · obtain ⟨e1, e2⟩ := band h3
          have e1 := of_decide_eq_true e1
          have e2 := of_decide_eq_true e2
          subst e1 e2
          by_cases hk : k = 0
          · subst hk
            refine pe_step (l := none) (st := -1) pa pl part_neg rfl rfl (fun x z e => ?_) (fun xs => ?_) (fun c H A vs ds r => ?_) fun vs us r => ?_
            · cases x <;> first | (cases e; done) | skip
              rename_i xs
              cases e
              exact ⟨xs, rfl, by rw [stepPick_rev xs]⟩
            · rw [stepPick_rev xs, List.length_reverse]; exact Nat.le_refl _
            · rw [stepPick_rev vs, stepPick_rev ds]; exact r.reverse
            · rw [stepPick_rev vs, stepPick_rev us]; exact vals_rev r
          · refine ⟨fun pins s σ H Q I h => ?_⟩
            refine PyProof.Rows.Subscript_ (thn (pa.run pins s σ H _ I h) fun v1 s1 ⟨x, H1, I1, r1, q1⟩ => ?_)
            obtain ⟨A, dx, z, hA, hx, hgz, q⟩ := q1
            cases k with
            | zero => exact absurd rfl hk
            | succ k => cases dx <;> cases hgz
        · cases h3
      refine PE_imp fin fun σ H Q q => ?_
      obtain ⟨own, Xv, m, env, w, E, W, h⟩ := q
      rw [show ev _ (.sl3 a k st) env w = (ev _ a env w).dat.bind fun x w => (ofO (sl3D x k st) w).bind fun z w => .ok (.d z) w from rfl, sat_bind, sat_dat] at h
      refine ⟨own, Xv, m, env, w, E, W, sat_mono h fun x1 w1 h v1 m1 H1 f1 W1 r1 => ?_⟩
      obtain ⟨dx, rfl, h⟩ := h
      rw [sat_bind, sat_ofO] at h
      obtain ⟨z, hz, h⟩ := h
      have r1' : RepB (cn X sx.nmf) H1 (Av own Xv m1) m1 v1 dx := r1.1
      refine ⟨Av own Xv m1, dx, z, W1.dom (E.step f1 W), r1'.all, hz, fun v H' nw rd => ?_⟩
      exact h v m1 H' (f1.trans nw.fr) (W1.new nw) ⟨(rd.back (m1 := m1) rfl f1 W1).le (fresh_all md), FW.of rfl (fresh_all md) nw W1 rd⟩
    | _ => cases hc
  | _ => cases hc
end
end Mx

set_option Elab.async false
set_option linter.all false
set_option maxRecDepth 100000
set_option maxHeartbeats 1000000
/-! My5: list(zip(t, u)) of two tuples. -/
namespace Mx
open PySem PySem.Spec L2
section
variable {prog : Program} {w : World} {A : Around} {E : Value → Shared → Prop} {s : Shared}
/-- the next pair of a zip whose last one is still about -/
theorem zt_item {z TI TO T i1 i2 l1 l2 : Addr} {f : Bool} {oT : Obj} {k : Nat} {xs ys : Array Value} {x y : Value} {Q : Option Value → Shared → Prop} (D : ZipApart z TI TO i1 i2 l1 l2)
    (hz : IsZipHeld s.heap z TI TO T f) (hT : s.heap.get? T = some oT) (hTI : IsPair s.heap TI (.ref i1) (.ref i2)) (h1 : s.heap.IsTupleIter i1 l1 k) (h2 : s.heap.IsTupleIter i2 l2 k) (hl1 : s.heap.IsTuple l1 xs) (hl2 : s.heap.IsTuple l2 ys) (hx : xs[k]? = some x) (hy : ys[k]? = some y)
    (hQ : ∀ h', IsZipHeld h' z TI TO T true → h'.IsTupleIter i1 l1 (k + 1) → h'.IsTupleIter i2 l2 (k + 1) → IsPair h' s.heap.objs.size x y → h'.objs.size = s.heap.objs.size + 1 → (∀ c o, c ≠ z → c ≠ i1 → c ≠ i2 → s.heap.get? c = some o → h'.get? c = some o) → Q (some (.ref s.heap.objs.size)) { s with heap := h' }) :
    wpAny (model prog w) A (pyNext (.ref z)) Q E s := by
  have hTy : s.TypeIs (.ref z) "zip" := ⟨_, hz, rfl⟩
  unfold pyNext
  refine wpAny_bind (wpAny_attempt (wpAny_callSpecial?_slot (name := Str.ofString "__next__") hTy F.slot_zip_next (wpAny_call_entry F.slot_zip_next hTy F.entry_zip_next ?_ (F.args_zip_next_1 _))))
  show wpAny _ _ (field (.ref z) 2 >>= _) _ _ _
  refine wpAny_bind (wpAny_field hz rfl (x := .bool false) rfl ?_)
  show wpAny _ _ (field (.ref z) 3 >>= _) _ _ _
  refine wpAny_bind (wpAny_field hz rfl (x := .ref TI) rfl (wpAny_bind (wpAny_seqItems hTI rfl ?_)))
  show wpAny _ _ (Builtin.SmallTypes.ownedTupleIsFree (.ref z) >>= _) _ _ _
  refine wpAny_bind (wpAny_tupleHeld_zip hz hT fun ha hza hsa => ?_)
  simp only [Bool.false_eq_true, if_false]
  refine wpAny_bind ?_
  rw [← Array.forIn_toList]
  simp only [List.forIn_cons, List.forIn_nil]
  refine wpAny_bind (wpAny_bind (wpAny_holding ?_))
  show wpAny _ _ (Builtin.SmallTypes.nextOf (.ref i1) >>= _) _ _ _
  refine wpAny_bind (RZ.nextOf_tuple_item (s := { s with heap := ha }) (h1.at fun o e => hsa.extBut _ _ D.i1z e) (hl1.extBut hsa.extBut D.l1z) hx fun hb h1b hsb => wpAny_pure (wpAny_pure ?_))
  refine wpAny_bind (wpAny_bind (wpAny_holding ?_))
  show wpAny _ _ (Builtin.SmallTypes.nextOf (.ref i2) >>= _) _ _ _
  refine wpAny_bind (RZ.nextOf_tuple_item (s := { s with heap := hb }) (h2.at fun o e => hsb.extBut _ _ D.i12.symm (hsa.extBut _ _ D.i2z e)) ((hl2.extBut hsa.extBut D.l2z).extBut hsb.extBut D.l2i1) hy fun hc h2c hsc => wpAny_pure (wpAny_pure (wpAny_pure ?_)))
  show wpAny _ _ (newTuple [x, y] >>= _) _ _ _
  refine wpAny_bind (wpAny_newTuple ?_)
  have hsz : hc.objs.size = s.heap.objs.size := by rw [hsc.1, hsb.1, hsa.1]
  have hk : ∀ c o, c ≠ z → c ≠ i1 → c ≠ i2 → s.heap.get? c = some o → hc.get? c = some o := fun c o a1 a2 a3 e => hsc.extBut _ _ a3 (hsb.extBut _ _ a2 (hsa.extBut _ _ a1 e))
  refine wpAny_pure ⟨_, rfl, wpAny_pure ?_⟩
  show Q (some (.ref hc.objs.size)) _
  have hp : IsPair (hc.push { cls := .type "tuple", data := .seq #[x, y] }) hc.objs.size x y := Heap.get?_push_size _ rfl
  have hz4 : (hc.push { cls := .type "tuple", data := .seq #[x, y] }).objs.size = hc.objs.size + 1 := Heap.size_push ..
  rw [hsz] at hp hz4 ⊢
  exact hQ _ (Heap.get?_push_of_some _ (hsc.extBut _ _ D.i2z.symm (hsb.extBut _ _ D.i1z.symm hza))) (h1b.at fun o e => Heap.get?_push_of_some _ (hsc.extBut _ _ D.i12 e)) (h2c.at fun o e => Heap.get?_push_of_some _ e) hp hz4 fun c o a1 a2 a3 e => Heap.get?_push_of_some _ (hk c o a1 a2 a3 e)
theorem zt_end {z TI TO T i1 i2 l1 l2 : Addr} {f : Bool} {oT : Obj} {k : Nat} {xs ys : Array Value} {Q : Option Value → Shared → Prop} (hh : A.handled = none) (D : ZipApart z TI TO i1 i2 l1 l2)
    (hz : IsZipHeld s.heap z TI TO T f) (hT : s.heap.get? T = some oT) (hTI : IsPair s.heap TI (.ref i1) (.ref i2)) (h1 : s.heap.IsTupleIter i1 l1 k) (h2 : s.heap.IsTupleIter i2 l2 k) (hl1 : s.heap.IsTuple l1 xs) (hl2 : s.heap.IsTuple l2 ys) (hend : xs[k]? = none ∨ ys[k]? = none)
    (hQ : ∀ h', (∀ c o, c ≠ z → c ≠ i1 → c ≠ i2 → s.heap.get? c = some o → h'.get? c = some o) → Q none { s with heap := h' }) : wpAny (model prog w) A (pyNext (.ref z)) Q E s := by
  have hTy : s.TypeIs (.ref z) "zip" := ⟨_, hz, rfl⟩
  have hE : ∀ h' e, (∀ c o, c ≠ z → c ≠ i1 → c ≠ i2 → s.heap.get? c = some o → h'.get? c = some o) → (∃ o, h'.get? e = some o ∧ o.cls = .type "StopIteration") → wpAny (model prog w) A (do if ← isInstance (.ref e) (.type "StopIteration") then pure none else throw (.ref e)) Q E { s with heap := h' } := fun h' e hk ⟨o, ho, hc⟩ =>
    wpAny_bind (wpAny_isInstance (T := "StopIteration") (b := true) ⟨o, ho, hc⟩ isSubtype_stop (wpAny_pure (hQ _ hk)))
  unfold pyNext
  refine wpAny_bind (wpAny_attempt (wpAny_callSpecial?_slot (name := Str.ofString "__next__") hTy F.slot_zip_next (wpAny_call_entry F.slot_zip_next hTy F.entry_zip_next ?_ (F.args_zip_next_1 _))))
  show wpAny _ _ (field (.ref z) 2 >>= _) _ _ _
  refine wpAny_bind (wpAny_field hz rfl (x := .bool false) rfl ?_)
  show wpAny _ _ (field (.ref z) 3 >>= _) _ _ _
  refine wpAny_bind (wpAny_field hz rfl (x := .ref TI) rfl (wpAny_bind (wpAny_seqItems hTI rfl ?_)))
  show wpAny _ _ (Builtin.SmallTypes.ownedTupleIsFree (.ref z) >>= _) _ _ _
  refine wpAny_bind (wpAny_tupleHeld_zip hz hT fun ha hza hsa => ?_)
  simp only [Bool.false_eq_true, if_false]
  refine wpAny_bind ?_
  rw [← Array.forIn_toList]
  simp only [List.forIn_cons, List.forIn_nil]
  refine wpAny_bind (wpAny_bind (wpAny_holding ?_))
  show wpAny _ _ (Builtin.SmallTypes.nextOf (.ref i1) >>= _) _ _ _
  cases hx : xs[k]? with
  | none =>
    refine wpAny_bind (RZ.nextOf_tuple_end (s := { s with heap := ha }) hh (h1.at fun o e => hsa.extBut _ _ D.i1z e) (hl1.extBut hsa.extBut D.l1z) hx fun hb e hsb he => ?_)
    exact hE hb e (fun c o a1 a2 _ x => hsb _ _ a2 (hsa.extBut _ _ a1 x)) he
  | some x =>
    have hy : ys[k]? = none := by rcases hend with h | h; rw [hx] at h; cases h; exact h
    refine wpAny_bind (RZ.nextOf_tuple_item (s := { s with heap := ha }) (h1.at fun o e => hsa.extBut _ _ D.i1z e) (hl1.extBut hsa.extBut D.l1z) hx fun hb h1b hsb => wpAny_pure (wpAny_pure ?_))
    refine wpAny_bind (wpAny_bind (wpAny_holding ?_))
    show wpAny _ _ (Builtin.SmallTypes.nextOf (.ref i2) >>= _) _ _ _
    refine wpAny_bind (RZ.nextOf_tuple_end (s := { s with heap := hb }) hh (h2.at fun o e => hsb.extBut _ _ D.i12.symm (hsa.extBut _ _ D.i2z e)) ((hl2.extBut hsa.extBut D.l2z).extBut hsb.extBut D.l2i1) hy fun hc e hsc he => ?_)
    exact hE hc e (fun c o a1 a2 a3 x => hsc _ _ a3 (hsb.extBut _ _ a2 (hsa.extBut _ _ a1 x))) he
theorem ne_up {a b n : Nat} (h1 : n ≤ a) (h2 : b < n) : a ≠ b := by omega
/-- how a list stands that is filled from a zip of two tuples -/
structure ZL (h₁ h : Heap) (z TI TO i1 i2 l1 l2 S : Addr) (xs ys : Array Value) (i : Nat) (as : List Addr) (acc : Array Value) (c : Nat) : Prop where
  zip : (IsZip h z TI TO .none ∧ ∃ x y, IsPair h TO x y) ∨ ∃ T f oT, IsZipHeld h z TI TO T f ∧ h.get? T = some oT ∧ h₁.objs.size ≤ T
  ti : IsPair h TI (.ref i1) (.ref i2)
  n1 : h.IsTupleIter i1 l1 i
  n2 : h.IsTupleIter i2 l2 i
  t1 : h.IsTuple l1 xs
  t2 : h.IsTuple l2 ys
  keep : ∀ b o, b ≠ S → b ≠ z → b ≠ TO → b ≠ i1 → b ≠ i2 → h₁.get? b = some o → h.get? b = some o
  lst : h.get? S = some { cls := .type "list", dict := none, data := .seq acc c, slots := #[] }
  acc : acc.toList = as.map Value.ref
  len : as.length = i
  prs : ∀ (j : Nat) a, as[j]? = some a → h₁.objs.size ≤ a ∧ ∃ x y, xs[j]? = some x ∧ ys[j]? = some y ∧ IsPair h a x y
  nd : as.Nodup
  sz : h₁.objs.size ≤ h.objs.size ∧ ∀ a ∈ as, a < h.objs.size
theorem zl_loop {z TI TO i1 i2 l1 l2 S : Addr} {xs ys : Array Value} {R : Result → Shared → Prop} {h₁ : Heap} (res : Value) (hh : A.handled = none) (D : ZipApart z TI TO i1 i2 l1 l2) (hS : S ≠ z ∧ S ≠ TI ∧ S ≠ TO ∧ S ≠ i1 ∧ S ≠ i2 ∧ S ≠ l1 ∧ S ≠ l2) (hlt : S < h₁.objs.size ∧ z < h₁.objs.size ∧ TO < h₁.objs.size ∧ i1 < h₁.objs.size ∧ i2 < h₁.objs.size) (hTIn : TI ≠ S) (hz : xs.size ≤ sizeLine)
    (hlTO : l1 ≠ TO ∧ l2 ≠ TO ∧ l1 ≠ i1 ∧ l1 ≠ i2 ∧ l2 ≠ i1 ∧ l2 ≠ i2 ∧ l1 ≠ z ∧ l2 ≠ z)
    (hR : ∀ (h' : Heap) (acc : Array Value) (c : Nat) (as : List Addr), (∀ b o, b ≠ S → b ≠ z → b ≠ TO → b ≠ i1 → b ≠ i2 → h₁.get? b = some o → h'.get? b = some o) → h'.get? S = some { cls := .type "list", dict := none, data := .seq acc c, slots := #[] } → acc.toList = as.map Value.ref → as.length = min xs.size ys.size → as.Nodup →
      (∀ (j : Nat) a, as[j]? = some a → h₁.objs.size ≤ a ∧ ∃ x y, xs[j]? = some x ∧ ys[j]? = some y ∧ IsPair h' a x y) → R (.ok (.ret res)) { s with heap := h' }) :
    ∀ (k i : Nat) (h : Heap) (as : List Addr) (acc : Array Value) (c : Nat), min xs.size ys.size - i = k → i ≤ min xs.size ys.size → ZL h₁ h z TI TO i1 i2 l1 l2 S xs ys i as acc c →
      codeAny (model prog w) A (.builtin "list.extend.loop" ⟨[.ref S, .ref z, res], []⟩) R { s with heap := h } := by
  intro k
  induction k with
  | zero =>
    intro i h as acc c hk hi L
    refine codeAny_builtin PySem.F.entry_extend_loop ?_
    rw [Around.under_plainId PySem.F.plain_extend_loop _]
    show wpAny _ A.in1 (pyNext (.ref z) >>= _) _ _ _
    have hend : xs[i]? = none ∨ ys[i]? = none := by
      by_cases hx : xs.size ≤ i
      · exact .inl (Array.getElem?_eq_none hx)
      · exact .inr (Array.getElem?_eq_none (by omega))
    have fin : ∀ h', (∀ c o, c ≠ z → c ≠ TO → c ≠ i1 → c ≠ i2 → h.get? c = some o → h'.get? c = some o) → R (.ok (.ret res)) { s with heap := h' } := fun h' hk' => by
      refine hR h' acc c as (fun b o a1 a2 a3 a4 a5 e => hk' b o a2 a3 a4 a5 (L.keep b o a1 a2 a3 a4 a5 e)) (hk' S _ hS.1 hS.2.2.1 hS.2.2.2.1 hS.2.2.2.2.1 L.lst) L.acc (by rw [L.len]; omega) L.nd fun j a hj => ?_
      obtain ⟨q1, x, y, q2, q3, q4⟩ := L.prs j a hj
      exact ⟨q1, x, y, q2, q3, hk' a _ (ne_up q1 hlt.2.1) (ne_up q1 hlt.2.2.1) (ne_up q1 hlt.2.2.2.1) (ne_up q1 hlt.2.2.2.2) q4⟩
    refine wpAny_bind ?_
    rcases L.zip with ⟨z1, x0, y0, z2⟩ | ⟨T, f, oT, z1, z2, z3⟩
    · exact RZ.pyNext_zipT_end (s := { s with heap := h }) (A := A.in1) hh D z1 L.ti z2 L.n1 L.n2 L.t1 L.t2 hend fun h' hk' => wpAny_pure (fin h' hk')
    · exact zt_end (s := { s with heap := h }) (A := A.in1) hh D z1 z2 L.ti L.n1 L.n2 L.t1 L.t2 hend fun h' hk' => wpAny_pure (fin h' fun c o a1 _ a3 a4 e => hk' c o a1 a3 a4 e)
  | succ k ih =>
    intro i h as acc c hk hi L
    have hlx : i < xs.size := by omega
    have hly : i < ys.size := by omega
    have hsz : acc.size = i := by rw [← Array.length_toList, L.acc, List.length_map, L.len]
    refine codeAny_builtin PySem.F.entry_extend_loop ?_
    rw [Around.under_plainId PySem.F.plain_extend_loop _]
    show wpAny _ A.in1 (pyNext (.ref z) >>= _) _ _ _
    have go : ∀ h', ((IsZip h' z TI TO .none ∧ ∃ x y, IsPair h' TO x y) ∨ ∃ T f oT, IsZipHeld h' z TI TO T f ∧ h'.get? T = some oT ∧ h₁.objs.size ≤ T) → h'.IsTupleIter i1 l1 (i + 1) → h'.IsTupleIter i2 l2 (i + 1) → IsPair h' h.objs.size xs[i] ys[i] → h'.objs.size = h.objs.size + 1 →
        (∀ c o, c ≠ z → c ≠ TO → c ≠ i1 → c ≠ i2 → h.get? c = some o → h'.get? c = some o) →
        wpAny (model prog w) A.in1 (updateSeq S (·.push (Value.ref h.objs.size)) >>= fun _ => again (.builtin "list.extend.loop" ⟨[.ref S, .ref z, res], []⟩)) (fun fin s' => match fin with | .done f => R (.ok f) s' | .again c' => c'.quiet = true ∧ codeAny (model prog w) A c' R s') (fun e s' => R (.error e) s') { s with heap := h' } := by
      intro h' w1 w2 w3 w4 w5 w6
      have hS' := w6 S _ hS.1 hS.2.2.1 hS.2.2.2.1 hS.2.2.2.2.1 L.lst
      have up : ∀ b o, b ≠ S → h'.get? b = some o → (h'.update S (Obj.mapSeq (·.push (Value.ref h.objs.size)))).get? b = some o := fun b o hb e => (Heap.get?_update_other _ _ (Ne.symm hb)).trans e
      have hnew : S ≠ h.objs.size := (ne_up L.sz.1 hlt.1).symm
      have L2 : ∃ c', ZL h₁ (h'.update S (Obj.mapSeq (·.push (Value.ref h.objs.size)))) z TI TO i1 i2 l1 l2 S xs ys (i + 1) (as ++ [h.objs.size]) (acc.push (Value.ref h.objs.size)) c' := ⟨_, {
        zip := by
          rcases w1 with ⟨q1, x, y, q2⟩ | ⟨T, f, oT, q1, q2, q3⟩
          · exact .inl ⟨up _ _ hS.1.symm q1, x, y, up _ _ hS.2.2.1.symm q2⟩
          · exact .inr ⟨T, f, oT, up _ _ hS.1.symm q1, up _ _ (ne_up q3 hlt.1) q2, q3⟩
        ti := up _ _ hTIn (w6 _ _ D.TIz D.TITO D.TIi1 D.TIi2 L.ti)
        n1 := w2.at fun o e => up _ _ hS.2.2.2.1.symm e
        n2 := w3.at fun o e => up _ _ hS.2.2.2.2.1.symm e
        t1 := L.t1.at fun o e => up _ _ hS.2.2.2.2.2.1.symm (w6 _ _ hlTO.2.2.2.2.2.2.1 hlTO.1 hlTO.2.2.1 hlTO.2.2.2.1 e)
        t2 := L.t2.at fun o e => up _ _ hS.2.2.2.2.2.2.symm (w6 _ _ hlTO.2.2.2.2.2.2.2 hlTO.2.1 hlTO.2.2.2.2.1 hlTO.2.2.2.2.2.1 e)
        keep := fun b o a1 a2 a3 a4 a5 e => up b o a1 (w6 b o a2 a3 a4 a5 (L.keep b o a1 a2 a3 a4 a5 e))
        lst := Heap.get?_update_self _ hS' rfl
        acc := by rw [Array.toList_push, L.acc, List.map_append]; rfl
        len := by rw [List.length_append, L.len]; rfl
        prs := fun j a hj => by
          rcases Nat.lt_trichotomy j as.length with q | q | q
          · rw [List.getElem?_append_left q] at hj
            obtain ⟨q1, x, y, q2, q3, q4⟩ := L.prs j a hj
            exact ⟨q1, x, y, q2, q3, up a _ (ne_up q1 hlt.1) (w6 a _ (ne_up q1 hlt.2.1) (ne_up q1 hlt.2.2.1) (ne_up q1 hlt.2.2.2.1) (ne_up q1 hlt.2.2.2.2) q4)⟩
          · subst q
            have e : h.objs.size = a := by simpa using hj
            subst e
            have el := L.len
            exact ⟨L.sz.1, xs[i], ys[i], by rw [el]; exact Array.getElem?_eq_getElem _, by rw [el]; exact Array.getElem?_eq_getElem _, up _ _ hnew.symm w4⟩
          · rw [List.getElem?_eq_none (by rw [List.length_append, List.length_singleton]; omega)] at hj
            cases hj
        nd := by
          rw [List.nodup_append]
          exact ⟨L.nd, by simp, fun a ha b hb e => by rw [List.mem_singleton.mp hb] at e; exact Nat.lt_irrefl h.objs.size (e ▸ L.sz.2 a ha)⟩
        sz := by
          have e : (h'.update S (Obj.mapSeq (·.push (Value.ref h.objs.size)))).objs.size = h.objs.size + 1 := by rw [← w5]; exact Heap.size_update ..
          rw [e]
          refine ⟨by have := L.sz.1; omega, fun a ha => ?_⟩
          rcases List.mem_append.mp ha with ha | ha
          · exact Nat.lt_succ_of_lt (L.sz.2 a ha)
          · rw [List.mem_singleton.mp ha]; exact Nat.lt_succ_self _ }⟩
      obtain ⟨c', L2⟩ := L2
      exact wpAny_bind (wpAny_updateSeq hS' rfl (wpAny_pure ⟨plainId_quiet PySem.F.plain_extend_loop _, ih (i + 1) _ _ _ c' (by omega) (by omega) L2⟩) (by rw [hsz]; omega) (by show (acc.push (Value.ref h.objs.size)).size ≤ sizeLine + 1; rw [Array.size_push, hsz]; omega))
    refine wpAny_bind ?_
    rcases L.zip with ⟨z1, x0, y0, z2⟩ | ⟨T, f, oT, z1, z2, z3⟩
    · refine RZ.pyNext_zipT_item (s := { s with heap := h }) (A := A.in1) D z1 L.ti z2 L.n1 L.n2 L.t1 L.t2 (Array.getElem?_eq_getElem hlx) (Array.getElem?_eq_getElem hly) fun h' a1 a2 a3 a4 a5 a6 a7 => ?_
      exact go h' (.inr ⟨h.objs.size, false, _, a1, a5, L.sz.1⟩) a3 a4 a5 a6 a7
    · refine zt_item (s := { s with heap := h }) (A := A.in1) D z1 z2 L.ti L.n1 L.n2 L.t1 L.t2 (Array.getElem?_eq_getElem hlx) (Array.getElem?_eq_getElem hly) fun h' a1 a3 a4 a5 a6 a7 => ?_
      exact go h' (.inr ⟨T, true, oT, a1, a7 T _ (ne_up z3 hlt.2.1) (ne_up z3 hlt.2.2.2.1) (ne_up z3 hlt.2.2.2.2) z2, z3⟩) a3 a4 a5 a6 fun c o b1 _ b3 b4 e => a7 c o b1 b3 b4 e
/-- list(z), z a new zip of two tuples -/
theorem zt_len : typeLookup (.type "zip") "__len__" = pure none := by rw [typeLookup_type, builtinLookup_eq_fast]; kernel_rfl
theorem zt_hint0 : typeLookup (.type "zip") "__length_hint__" = pure none := by rw [typeLookup_type, builtinLookup_eq_fast]; kernel_rfl
theorem zt_hint {z : Addr} (hT : s.TypeIs (.ref z) "zip") {Q : Bool → Shared → Prop} (h : Q true s) : wpAny (model prog w) A (Builtin.List.listLengthHint (.ref z)) Q E s := by
  unfold Builtin.List.listLengthHint
  refine wpAny_bind (wpAny_specialOf hT zt_len ?_)
  refine wpAny_bind (wpAny_specialOf hT zt_hint0 ?_)
  exact wpAny_pure h
theorem call_list_zt {l1 l2 : Addr} {xs ys : Array Value} {Q : Value → Shared → Prop} (hh : A.handled = none) (h1 : s.heap.IsTuple l1 xs) (h2 : s.heap.IsTuple l2 ys) (hsz : xs.size ≤ sizeLine)
    {n0 : Nat} {z : Addr} (hn0 : z = n0 + 4) (hlow : l1 < n0 ∧ l2 < n0) (hzz : IsZip s.heap z (n0 + 2) (n0 + 3) .none) (hti : IsPair s.heap (n0 + 2) (.ref n0) (.ref (n0 + 1))) (hto : IsPair s.heap (n0 + 3) .none .none) (hi1 : s.heap.IsTupleIter n0 l1 0) (hi2 : s.heap.IsTupleIter (n0 + 1) l2 0)
    (hQ : ∀ (h' : Heap) (acc : Array Value) (c : Nat) (as : List Addr), (∀ b o, (b < n0 ∨ n0 + 5 ≤ b) → s.heap.get? b = some o → h'.get? b = some o) → h'.get? s.heap.objs.size = some { cls := .type "list", dict := none, data := .seq acc c, slots := #[] } → acc.toList = as.map Value.ref → as.length = min xs.size ys.size → as.Nodup →
      (∀ (j : Nat) a, as[j]? = some a → s.heap.objs.size < a ∧ ∃ x y, xs[j]? = some x ∧ ys[j]? = some y ∧ IsPair h' a x y) → Q (.ref s.heap.objs.size) { s with heap := h' }) :
    wpAny (model prog w) A (call (.type "list") [.ref z]) Q E s := by
  subst hn0
  have hbig : n0 + 5 ≤ s.heap.objs.size := Heap.lt_size hzz
  have D := PySem.W.ktu_apart n0 l1 l2 hlow.1 hlow.2
  have hTz : s.TypeIs (.ref (n0 + 4)) "zip" := ⟨_, hzz, rfl⟩
  refine callType_codes (Q₁ := fun obj s₁ => obj = .ref s.heap.objs.size ∧ s₁ = { s with heap := s.heap.push { cls := .type "list", data := .seq #[] } }) F.called_list (F.typeCall_list_1 _) F.entry_list_init (code_list_new _ ⟨rfl, rfl⟩) fun obj s₁ e₁ => ?_
  obtain ⟨rfl, rfl⟩ := e₁
  have hS : (s.heap.push { cls := .type "list", data := .seq #[] }).get? s.heap.objs.size = some { cls := .type "list", data := .seq #[] } := Heap.get?_push_size _ rfl
  refine ⟨⟨_, hS, rfl⟩, F.args_list_init_2 _ _, ?_⟩
  show wpAny _ _ (do let old ← Builtin.List.listItems (.ref s.heap.objs.size); Builtin.List.listUpdate (.ref s.heap.objs.size) (fun _ => #[]); letGo old.toList.reverse; Builtin.List.listExtendWith (.ref s.heap.objs.size) (.ref (n0 + 4)) .none) _ _ _
  refine wpAny_bind ?_
  unfold Builtin.List.listItems
  refine wpAny_bind (wpAny_seqItems hS rfl (wpAny_pure ?_))
  show wpAny _ _ (updateSeq s.heap.objs.size (fun _ => #[]) >>= _) _ _ _
  refine wpAny_bind (wpAny_updateSeq hS rfl (wpAny_bind (wpAny_letGo ?_)))
  have hS2 := Heap.get?_update_self (Obj.mapSeq (fun _ => (#[] : Array Value))) hS rfl
  have oth : ∀ b o, b ≠ s.heap.objs.size → s.heap.get? b = some o → ((s.heap.push { cls := .type "list", data := .seq #[] }).update s.heap.objs.size (Obj.mapSeq (fun _ => (#[] : Array Value)))).get? b = some o := fun b o hb e => (Heap.get?_update_other _ _ (Ne.symm hb)).trans (Heap.get?_push_of_some _ e)
  have hsz2 : ((s.heap.push { cls := .type "list", data := .seq #[] }).update s.heap.objs.size (Obj.mapSeq (fun _ => (#[] : Array Value)))).objs.size = s.heap.objs.size + 1 := by rw [Heap.size_update, Heap.size_push]
  generalize (s.heap.push { cls := .type "list", data := .seq #[] }).update s.heap.objs.size (Obj.mapSeq (fun _ => (#[] : Array Value))) = hp at hS2 oth hsz2 ⊢
  have lo : ∀ k, k < s.heap.objs.size → k ≠ s.heap.objs.size := fun k h => Nat.ne_of_lt h
  have hTz2 : ({ s with heap := hp } : Shared).TypeIs (.ref (n0 + 4)) "zip" := ⟨_, oth _ _ (lo _ (by omega)) hzz, rfl⟩
  unfold Builtin.List.listExtendWith
  refine wpAny_bind (wpAny_typeOf (T := "zip") hTz2 ?_)
  have e1 : Builtin.List.listSameRef (.ref s.heap.objs.size) (.ref (n0 + 4)) = false := by
    have : ¬ s.heap.objs.size = n0 + 4 := by omega
    simp [Builtin.List.listSameRef, this]
  have e2 : (Value.type "zip" == Value.type "list") = false := by decide
  have e3 : (Value.type "zip" == Value.type "tuple") = false := by decide
  simp only [e1, e2, e3, Bool.or_false, Bool.false_eq_true, if_false]
  refine wpAny_bind (wpAny_pyIter_zip (s := { s with heap := hp }) (oth _ _ (lo _ (by omega)) hzz) ?_)
  refine wpAny_bind (wpAny_holding (zt_hint hTz2 ?_))
  rw [if_pos (by rfl)]
  refine wpAny_bind (wpAny_rule (wpAny_bind ?_))
  show wpAny _ _ (updateSeq s.heap.objs.size (·.push .none) >>= fun _ => updateSeq s.heap.objs.size (·.pop)) _ _ _
  refine wpAny_bind (wpAny_updateSeq (s := { s with heap := hp }) hS2 rfl ?_)
  have hS3 := Heap.get?_update_self (Obj.mapSeq (·.push Value.none)) hS2 rfl
  refine wpAny_updateSeq (hz := by seq_fits) hS3 rfl ?_
  have hS4 := Heap.get?_update_self (Obj.mapSeq (·.pop)) hS3 rfl
  have oth2 : ∀ b o, b ≠ s.heap.objs.size → s.heap.get? b = some o → ((hp.update s.heap.objs.size (Obj.mapSeq (·.push Value.none))).update s.heap.objs.size (Obj.mapSeq (·.pop))).get? b = some o := fun b o hb e => (Heap.get?_update_other _ _ (Ne.symm hb)).trans ((Heap.get?_update_other _ _ (Ne.symm hb)).trans (oth b o hb e))
  have hsz3 : ((hp.update s.heap.objs.size (Obj.mapSeq (·.push Value.none))).update s.heap.objs.size (Obj.mapSeq (·.pop))).objs.size = s.heap.objs.size + 1 := by rw [Heap.size_update, Heap.size_update, hsz2]
  generalize (hp.update s.heap.objs.size (Obj.mapSeq (·.push Value.none))).update s.heap.objs.size (Obj.mapSeq (·.pop)) = hq at hS4 oth2 hsz3 ⊢
  have hz5 : ∀ k : Nat, k < n0 + 5 → k < hq.objs.size := fun k hk => by rw [hsz3]; omega
  have hl1 : l1 < s.heap.objs.size := by obtain ⟨o, e, _⟩ := h1; exact Heap.lt_size e
  have hl2 : l2 < s.heap.objs.size := by obtain ⟨o, e, _⟩ := h2; exact Heap.lt_size e
  have ne : ∀ k, k < s.heap.objs.size → s.heap.objs.size ≠ k := fun k h => Nat.ne_of_gt h
  have L0 : ∃ c0, ZL hq hq (n0 + 4) (n0 + 2) (n0 + 3) n0 (n0 + 1) l1 l2 s.heap.objs.size xs ys 0 [] #[] c0 := by
    obtain ⟨c0, hS5⟩ : ∃ c0, hq.get? s.heap.objs.size = some { cls := .type "list", dict := none, data := .seq #[] c0, slots := #[] } := ⟨_, hS4⟩
    exact ⟨c0, ⟨.inl ⟨oth2 _ _ (lo _ (by omega)) hzz, _, _, oth2 _ _ (lo _ (by omega)) hto⟩, oth2 _ _ (lo _ (by omega)) hti, hi1.at fun o e => oth2 _ _ (lo _ (by omega)) e, hi2.at fun o e => oth2 _ _ (lo _ (by omega)) e, h1.at fun o e => oth2 _ _ (lo _ (Heap.lt_size e)) e, h2.at fun o e => oth2 _ _ (lo _ (Heap.lt_size e)) e,
      fun b o _ _ _ _ _ e => e, hS5, rfl, rfl, fun j a hj => by simp at hj, List.nodup_nil, Nat.le_refl _, fun a ha => (List.not_mem_nil ha).elim⟩⟩
  obtain ⟨c0, L0⟩ := L0
  refine wpAny_pure ⟨plainId_quiet PySem.F.plain_extend_loop _, zl_loop (A := A.in1) (s := s) (h₁ := hq) (xs := xs) (ys := ys) .none hh D ⟨ne _ (by omega), ne _ (by omega), ne _ (by omega), ne _ (by omega), ne _ (by omega), ne _ hl1, ne _ hl2⟩ ⟨by rw [hsz3]; exact Nat.lt_succ_self _, hz5 _ (by omega), hz5 _ (by omega), hz5 _ (by omega), hz5 _ (by omega)⟩ (lo _ (by omega)) hsz ?_ ?_ _ 0 hq [] #[] c0 (Nat.sub_zero _) (Nat.zero_le _) L0⟩
  · have q : ∀ l, l < n0 → l ≠ n0 + 3 ∧ l ≠ n0 ∧ l ≠ n0 + 1 ∧ l ≠ n0 + 4 := fun l h => by omega
    have a := q l1 hlow.1
    have b := q l2 hlow.2
    exact ⟨a.1, b.1, a.2.1, a.2.2.1, b.2.1, b.2.2.1, a.2.2.2, b.2.2.2⟩
  · intro h' acc c as k1 k2 k3 k4 k5 k6
    refine ⟨rfl, hQ h' acc c as (fun b o hb e => ?_) k2 k3 k4 k5 fun j a hj => ?_⟩
    · have hlt := Heap.lt_size e
      have z : ∀ k, n0 ≤ k → k < n0 + 5 → b ≠ k := fun k h1 h2 h3 => by subst h3; omega
      exact k1 b o (lo b hlt) (z _ (by omega) (by omega)) (z _ (by omega) (by omega)) (z _ (by omega) (by omega)) (z _ (by omega) (by omega)) (oth2 b o (lo b hlt) e)
    · obtain ⟨q1, q2⟩ := k6 j a hj
      rw [hsz3] at q1
      exact ⟨q1, q2⟩
end
end Mx

set_option Elab.async false
set_option linter.all false
set_option maxRecDepth 100000
set_option maxHeartbeats 1000000
/-! My6: list(zip(t, u)), the rule. -/
namespace Mx
open PySem PySem.Spec L2
theorem vals_at : ∀ {xs : List V} {us : List Value} {i : Nat} {u : Value}, Vals xs us → us[i]? = some u → ∃ x, xs[i]? = some x ∧ RelV x u
  | _, _, _, _, .nil, h => by simp at h
  | _, _, 0, _, .cons r _, h => by simp at h; subst h; exact ⟨_, rfl, r⟩
  | _, _, i + 1, u, .cons _ t, h => by
    obtain ⟨x, e, r⟩ := vals_at (i := i) (u := u) t (by simpa using h)
    exact ⟨x, by simpa using e, r⟩
/-- pairs laid one behind the other -/
def putP : Hp → List (Addr × Obj) → List (V × V) → Hp
  | H, q :: qs, p :: ps => putP (L2.upd H q.1 (.frz q.2 (.tup [p.1, p.2]))) qs ps
  | H, _, _ => H
theorem putP_off {b : Addr} : ∀ (qs : List (Addr × Obj)) (ps : List (V × V)) (H : Hp), b ∉ qs.map (·.1) → putP H qs ps b = H b
  | [], _, _, _ => by cases ‹List (V × V)› <;> rfl
  | _ :: _, [], _, _ => rfl
  | q :: qs, p :: ps, H, h => by
    rw [List.map_cons, List.mem_cons, not_or] at h
    show putP (L2.upd H q.1 (.frz q.2 (.tup [p.1, p.2]))) qs ps b = H b
    rw [putP_off qs ps _ h.2, upd_ne h.1]
theorem putP_at : ∀ (qs : List (Addr × Obj)) (ps : List (V × V)) (H : Hp) (j : Nat) (q : Addr × Obj) (p : V × V), (qs.map (·.1)).Nodup → qs[j]? = some q → ps[j]? = some p → putP H qs ps q.1 = some (.frz q.2 (.tup [p.1, p.2]))
  | [], _, _, _, _, _, _, h, _ => by simp at h
  | _ :: _, [], _, _, _, _, _, _, h => by simp at h
  | q0 :: qs, p0 :: ps, H, j, q, p, hn, h1, h2 => by
    rw [List.map_cons, List.nodup_cons] at hn
    cases j with
    | zero =>
      simp at h1 h2
      subst h1 h2
      show putP (L2.upd H q0.1 _) qs ps q0.1 = _
      rw [putP_off qs ps _ hn.1, upd_same]
    | succ j => exact putP_at qs ps _ j q p hn.2 (by simpa using h1) (by simpa using h2)
section
variable {tb : Tbl} {F n : Nat} {sx : Sx} {X : Cx} {md : Mode} {c : Cn} {cf : Cfg} {mo : Nat → Bool} {H H' : Hp} {A : Addr → Prop} {nm : Nat → Str} {pins : List (Addr × Obj)} {σ : L2.St} {s : Shared} {own : Ow} {Xv : Addr → Prop} {m : List Addr} {w : Wd}
/-- more objects are tracked -/
theorem Inv.grown {h' : Heap} {tk : Nat} (I : Inv X pins σ H s) (hk : ∀ b o, s.heap.get? b = some o → h'.get? b = some o) (kp : ∀ b u, H b = some u → H' b = some u) (low : ∀ b o, s.heap.get? b = some o → H b = none → H' b = none) (hok : HOk X.prog X.w H' h') : Inv X pins σ H' { s with heap := h', toks := tk } :=
  I.call' (ch := []) rfl ⟨fun b o q _ _ _ => hk b o q, fun b o q _ _ _ => ⟨o.slots, hk b o q⟩, fun b o q n _ => low b o q n, fun b o q _ => ⟨o, hk b o q⟩, fun b xs q => kp b _ q, fun b o u q => kp b _ q, fun b ps q => ⟨#[], by rw [kp b _ q]; simp⟩⟩ hok I.bare fun b z => by simp at z
theorem putP_ok : ∀ {qs : List (Addr × Obj)} {ps : List (V × V)} {H : Hp}, (∀ q ∈ qs, H q.1 = none ∧ q.2.dict = none) → (qs.map (·.1)).Nodup → WOk c own Xv m H w →
    Fr c.K m m H (putP H qs ps) ∧ WOk c own Xv m (putP H qs ps) w ∧ (∀ b o, H b = some o → putP H qs ps b = some o)
  | [], ps, H, _, _, W => by
    have e : putP H [] ps = H := by cases ps <;> rfl
    rw [e]
    exact ⟨Fr.refl, W, fun _ _ e => e⟩
  | _ :: _, [], H, _, _, W => ⟨Fr.refl, W, fun _ _ e => e⟩
  | q :: qs, p :: ps, H, h, hn, W => by
    rw [List.map_cons, List.nodup_cons] at hn
    have nw : New H (L2.upd H q.1 (.frz q.2 (.tup [p.1, p.2]))) := .one (h q (List.mem_cons_self ..)).1
    obtain ⟨a1, a2, a3⟩ := putP_ok (qs := qs) (ps := ps) (fun r hr => ⟨by
      have : r.1 ≠ q.1 := fun e => hn.1 (by rw [← e]; exact List.mem_map_of_mem hr)
      rw [upd_ne this]; exact (h r (List.mem_cons_of_mem _ hr)).1, (h r (List.mem_cons_of_mem _ hr)).2⟩) hn.2 (W.new nw)
    exact ⟨nw.fr.trans a1, a2, fun b o e => a3 b o (nw.at e)⟩
def tLZ (K : PySem.W.Frag) (ta : TA) : TE := fun σ H Q => ta σ H fun vs H1 => ∃ (a b : Addr) (xs ys : List V), vs = [.ref a, .ref b] ∧ SqT K H1 a xs ∧ SqT K H1 b ys ∧
  ∀ (qs : List (Addr × Obj)) (p : Addr), qs.length = min xs.length ys.length → (qs.map (·.1)).Nodup → (∀ q ∈ qs, H1 q.1 = none ∧ q.2.dict = none) → H1 p = none → p ∉ qs.map (·.1) → Q (.ref p) (L2.upd (putP H1 qs (xs.zip ys)) p (.lst (qs.map fun q => V.ref q.1)))
theorem pe_lz {e e2 : Expr} {ta : TA} {p p2 pos pos2 : Pos} (hc : X.calm = true) (hg : Gl X "list") (hm : X.mg "list" = none) (hg2 : Gl X "zip") (hm2 : X.mg "zip" = none) (ha : PA X [e, e2] ta)
    (hs : starEach [e, e2] X.env = (false, eval e X.env) :: starEach [e2] X.env) (hpl : (backTo pos2 (starEach [e2] X.env)).any (·.1) = false) : PE X (.Call (.Name "list" p) [.Call (.Name "zip" p2) [e, e2] [] pos2] [] pos) (tLZ X.K ta) := by
  refine ⟨fun pins s σ H Q I h => ?_⟩
  refine PyProof.Rows.Call_ (ld_blt I hg hm PyProof.Rows.boot_list (PyProof.Rows.callWith_type1 (PyProof.Rows.args_cons ?_ rfl) rfl rfl))
  refine PyProof.Rows.Call_ (ld_blt I hg2 hm2 PyProof.Rows.boot_zip (PyProof.Rows.callWith_type1 (thn (ha.run pos2 pins s σ H _ I h) fun us s1 ⟨vs, H1, I1, r1, a, b, xs, ys, ex, hqx, hqy, q⟩ => ?_) hs hpl))
  subst ex
  rcases r1 with _ | ⟨r1, _ | ⟨r2, _ | _⟩⟩
  cases r1
  cases r2
  obtain ⟨its, rv, p1, z1⟩ := I1.tuple hqx
  obtain ⟨its2, rv2, p2', z2⟩ := I1.tuple hqy
  obtain ⟨o1, ho1, _⟩ := id p1
  obtain ⟨o2, ho2, _⟩ := id p2'
  have hn1 := rv.length
  have hn2 := rv2.length
  refine RZ.call_zipT (show s1.heap.IsTuple a its.toArray from p1) (show s1.heap.IsTuple b its2.toArray from p2') fun h' hz hTI hTO h1 h2 hsz hk => PyProof.Rows.args_nil ?_
  have I2 : Inv X pins σ H1 { s1 with heap := h' } := I1.kept (t' := s1.toks) hk
  refine call_list_zt (s := { s1 with heap := h' }) (I2.ok.hd hc) (p1.keeps hk) (p2'.keeps hk) (by rw [List.size_toArray, ← hn1]; exact z1) rfl ⟨Heap.lt_size ho1, Heap.lt_size ho2⟩ hz hTI hTO h1 h2 fun h2' acc c as k1 k2 k3 k4 k5 k6 => ?_
  have hP : h'.objs.size = s1.heap.objs.size + 5 := hsz
  have hbig : ∀ a' ∈ as, s1.heap.objs.size + 5 < a' := fun a' ha => by
    obtain ⟨j, hj⟩ := List.mem_iff_getElem?.mp ha
    have := (k6 j a' hj).1
    exact hP ▸ this
  have hln : as.length = min xs.length ys.length := by rw [k4, List.size_toArray, List.size_toArray]; omega
  let qs : List (Addr × Obj) := (as.zip (its.zip its2)).map fun t => (t.1, { cls := .type "tuple", data := .seq #[t.2.1, t.2.2] })
  have hq1 : qs.map (·.1) = as := by
    show ((as.zip (its.zip its2)).map _).map _ = as
    rw [List.map_map]
    show (as.zip (its.zip its2)).map (fun t => t.1) = as
    exact List.map_fst_zip (by rw [List.length_zip]; omega)
  have hql : qs.length = min xs.length ys.length := by
    have := congrArg List.length hq1
    rw [List.length_map] at this
    omega
  have hqat : ∀ (j : Nat) (q : Addr × Obj), qs[j]? = some q → ∃ u1 u2, its[j]? = some u1 ∧ its2[j]? = some u2 ∧ as[j]? = some q.1 ∧ q.2 = { cls := .type "tuple", data := .seq #[u1, u2] } := fun j q hj => by
    rw [List.getElem?_map] at hj
    cases e : (as.zip (its.zip its2))[j]? with
    | none => rw [e] at hj; cases hj
    | some t =>
      rw [e] at hj
      cases hj
      obtain ⟨t1, t2, t3⟩ := t
      rw [List.getElem?_zip_eq_some] at e
      obtain ⟨e1, e2⟩ := e
      rw [List.getElem?_zip_eq_some] at e2
      exact ⟨t2, t3, e2.1, e2.2, e1, rfl⟩
  have hnew : ∀ a' ∈ as, H1 a' = none := fun a' ha => I1.hok.fresh (Nat.le_of_lt (Nat.lt_of_le_of_lt (Nat.le_add_right _ 5) (hbig a' ha)))
  have hnP : H1 h'.objs.size = none := I1.hok.fresh (by rw [hP]; exact Nat.le_add_right _ 5)
  have hPn : h'.objs.size ∉ as := fun z => by have := hbig _ z; rw [hP] at this; exact Nat.lt_irrefl _ this
  have off : ∀ b, b ∉ as → b ≠ h'.objs.size → L2.upd (putP H1 qs (xs.zip ys)) h'.objs.size (.lst (qs.map fun q => V.ref q.1)) b = H1 b := fun b z1 z2 => by rw [upd_ne z2, putP_off qs _ _ (by rw [hq1]; exact z1)]
  have low : ∀ b o, s1.heap.get? b = some o → b ∉ as ∧ b ≠ h'.objs.size := fun b o e => by
    have hlt := Heap.lt_size e
    exact ⟨fun z => Nat.lt_irrefl b (Nat.lt_trans (Nat.lt_of_lt_of_le hlt (Nat.le_add_right _ 5)) (hbig b z)), fun z => by rw [z, hP] at hlt; exact absurd hlt (Nat.not_lt.mpr (Nat.le_add_right _ 5))⟩
  have kp : ∀ b u, H1 b = some u → L2.upd (putP H1 qs (xs.zip ys)) h'.objs.size (.lst (qs.map fun q => V.ref q.1)) b = some u := fun b u e => by
    rw [off b (fun z => by rw [hnew b z] at e; cases e) (fun z => by rw [z, hnP] at e; cases e)]
    exact e
  have keepAll : ∀ b o, s1.heap.get? b = some o → h2'.get? b = some o := fun b o e => k1 b o (.inl (Heap.lt_size e)) (hk b o e)
  refine ⟨.ref h'.objs.size, L2.upd (putP H1 qs (xs.zip ys)) h'.objs.size (.lst (qs.map fun q => V.ref q.1)), Inv.grown (s := s1) (h' := h2') (tk := s1.toks) I1 keepAll kp (fun b o e n => by rw [off b (low b o e).1 (low b o e).2]; exact n) ?_, rfl, q qs h'.objs.size hql (by rw [hq1]; exact k5) (fun q' hq' => ?_) hnP (by rw [hq1]; exact hPn)⟩
  · intro b u e
    by_cases hb2 : b = h'.objs.size
    · subst hb2
      rw [upd_same] at e
      cases e
      refine ⟨by rw [List.length_map, hql]; omega, acc.toList, c, ?_, by rw [Array.toArray_toList]; exact k2⟩
      have em : (qs.map fun q => V.ref q.1) = as.map V.ref := by
        have := congrArg (List.map V.ref) hq1
        rw [List.map_map] at this
        exact this
      rw [k3, em]
      have vr : ∀ l : List Addr, Vals (l.map V.ref) (l.map Value.ref) := fun l => by
        induction l with
        | nil => exact .nil
        | cons _ _ ih => exact .cons rfl ih
      exact vr as
    · by_cases hb : b ∈ as
      · obtain ⟨j, hj⟩ := List.mem_iff_getElem?.mp hb
        have hjl : j < qs.length := by rw [hql, ← hln]; exact (List.getElem?_eq_some_iff.mp hj).1
        obtain ⟨u1, u2, f1, f2, f3, f4⟩ := hqat j qs[j] (List.getElem?_eq_getElem hjl)
        rw [hj] at f3
        have eb : b = qs[j].1 := Option.some.inj f3
        obtain ⟨v1, g1, g2⟩ := vals_at rv f1
        obtain ⟨v2, g3, g4⟩ := vals_at rv2 f2
        have at1 := putP_at qs (xs.zip ys) H1 j qs[j] (v1, v2) (by rw [hq1]; exact k5) (List.getElem?_eq_getElem hjl) (by rw [List.getElem?_zip_eq_some]; exact ⟨g1, g3⟩)
        rw [upd_ne hb2, eb, at1] at e
        cases e
        obtain ⟨_, x, y, m1, m2, m3⟩ := k6 j b hj
        have m1 : its[j]? = some x := by simpa using m1
        have m2 : its2[j]? = some y := by simpa using m2
        rw [f1] at m1
        rw [f2] at m2
        cases m1
        cases m2
        rw [f4]
        exact ⟨m3, by show 2 ≤ sizeLine; decide, [u1, u2], .cons g2 (.cons g4 .nil), ⟨_, m3, rfl, _, rfl⟩⟩
      · rw [off b hb hb2] at e
        exact (I1.hok b u e).stay (fun d v _ y => keepAll d v y) (fun d y => kp d _ y) fun d xs y => kp d _ y
  · have h1 : q'.1 ∈ as := by rw [← hq1]; exact List.mem_map_of_mem hq'
    refine ⟨hnew _ h1, ?_⟩
    obtain ⟨j, hj⟩ := List.mem_iff_getElem?.mp hq'
    obtain ⟨_, _, _, _, _, f4⟩ := hqat j q' hj
    rw [f4]
theorem putP_reps : ∀ {xs ys : List V} {ds es : List D} {qs : List (Addr × Obj)} {H : Hp}, Reps c H A xs ds → Reps c H A ys es → qs.length = min xs.length ys.length → (∀ q ∈ qs, H q.1 = none ∧ q.2.dict = none) → (qs.map (·.1)).Nodup → WOk c own Xv m H w → Reps c (putP H qs (xs.zip ys)) A (qs.map fun q => V.ref q.1) (zipD ds es)
  | _, _, _, _, qs, H, .nil, ry, hl, _, _, _ => by
    have e : qs = [] := List.length_eq_zero_iff.mp (by simpa using hl)
    subst e
    exact .nil
  | _, _, _, _, qs, H, .cons _ _, .nil, hl, _, _, _ => by
    have e : qs = [] := List.length_eq_zero_iff.mp (by simpa using hl)
    subst e
    exact .nil
  | _, _, _, _, [], H, .cons _ _, .cons _ _, hl, _, _, _ => by simp only [List.length_nil, List.length_cons] at hl; omega
  | _, _, _, _, q :: qs, H, .cons hx rx, .cons hy ry, hl, h, hn, W => by
    rw [List.map_cons, List.nodup_cons] at hn
    have h0 := h q (List.mem_cons_self ..)
    rename_i x xs' dx ds' y ys' dy es'
    have nw : New H (L2.upd H q.1 (.frz q.2 (.tup [x, y]))) := .one h0.1
    have hr : ∀ r ∈ qs, L2.upd H q.1 (.frz q.2 (.tup [x, y])) r.1 = none ∧ r.2.dict = none := fun r hr => ⟨by
      have : r.1 ≠ q.1 := fun e => hn.1 (by rw [← e]; exact List.mem_map_of_mem hr)
      rw [upd_ne this]; exact (h r (List.mem_cons_of_mem _ hr)).1, (h r (List.mem_cons_of_mem _ hr)).2⟩
    have W1 := W.new nw
    obtain ⟨a1, _, a3⟩ := putP_ok (qs := qs) (ps := xs'.zip ys') hr hn.2 W1
    have hl2 : qs.length = min xs'.length ys'.length := by simp only [List.length_cons] at hl; omega
    refine .cons ?_ (putP_reps (rx.keep nw.kp) (ry.keep nw.kp) hl2 hr hn.2 W1)
    refine .tup (.inl ⟨q.2, a3 _ _ upd_same, h0.2⟩) ?_
    have kk : Kp c.K A A (L2.upd H q.1 (.frz q.2 (.tup [x, y]))) (putP (L2.upd H q.1 (.frz q.2 (.tup [x, y]))) qs (xs'.zip ys')) := ⟨fun b o ha e => ⟨a3 b o e, ha⟩, a1.tup, a1.frz⟩
    exact Reps.keep kk (Reps.keep nw.kp (.cons hx (.cons hy .nil)))
theorem ok_listZip (a b : E) (ha : OkE tb F n a) (hb : OkE tb F n b) : OkE tb F n (.bit .list (.zip a b)) := by
  intro sx md ex X hc C
  cases ex with
  | Call fx xs kw pos => cases fx with
    | Name f p =>
      rcases xs with _ | ⟨x1, xr⟩
      · cases kw <;> cases hc
      cases x1 with
      | Call fx2 xs2 kw2 pos2 => cases fx2 with
        | Name f2 p2 =>
          rcases xr with _ | ⟨_, _⟩ <;> rcases kw with _ | ⟨_, _⟩ <;> rcases xs2 with _ | ⟨x, _ | ⟨y, _ | ⟨_, _⟩⟩⟩ <;> rcases kw2 with _ | ⟨_, _⟩ <;> first | (cases hc; done) | skip
          have hc : (bltB sx f "list" && bltB sx f2 "zip" && chk sx .look a x && !starB x && chk sx .look b y && !starB y) = true := hc
          obtain ⟨hc, h6⟩ := band hc
          obtain ⟨hc, h5⟩ := band hc
          obtain ⟨hc, h4⟩ := band hc
          obtain ⟨hc, h3⟩ := band hc
          obtain ⟨h1, h2⟩ := band hc
          have pa := pa_cons (ha sx .look x X h3 C) (pa_cons (hb sx .look y X h5 C) pa_nil (star_of (bnot h6))) (star_of (bnot h4))
          obtain ⟨rfl, hg, hm⟩ := blt_of C h1 (by decide)
          obtain ⟨rfl, hg2, hm2⟩ := blt_of C h2 (by decide)
          refine PE_imp (pe_lz (p := p) (p2 := p2) (pos := pos) (pos2 := pos2) C.calm hg hm hg2 hm2 pa (star_of (bnot h4)) (tail1_star (bnot h6))) ?_
          rintro σ H Q ⟨own, Xv, m, env, w, E, W, h⟩
          rw [show ev ⟨callN tb F n, F⟩ (.bit .list (.zip a b)) env w = (ev ⟨callN tb F n, F⟩ a env w).dat.bind fun x w => (ev ⟨callN tb F n, F⟩ b env w).dat.bind fun y w => (ofO (lzD x y) w).bind fun z w => .ok (.d z) w from rfl, sat_bind, sat_dat] at h
          refine ⟨own, Xv, m, env, w, E, W, sat_mono h fun x1 w1 h v1 m1 H1 f1 W1 r1 => ?_⟩
          obtain ⟨dx, rfl, h⟩ := h
          rw [sat_bind, sat_dat] at h
          refine ⟨own, Xv, m1, env, w1, E.step f1 W, W1, sat_mono h fun x2 w2 h v2 m2 H2 f2 W2 r2 => ?_⟩
          obtain ⟨dy, rfl, h⟩ := h
          rw [sat_bind, sat_ofO] at h
          obtain ⟨z, hz, h⟩ := h
          have r1' : RepB (cn X sx.nmf) H2 (Av own Xv m2) m2 v1 dx := RepB.keep f2 r1.1
          have r2' : RepB (cn X sx.nmf) H2 (Av own Xv m2) m2 v2 dy := r2.1
          cases dx <;> first | (cases hz; done) | skip
          cases dy <;> first | (cases hz; done) | skip
          rename_i ds es
          have hz : some (PyData.list (zipD ds es)) = some z := hz
          cases hz
          obtain ⟨a1, vs, rfl, q1, rs⟩ := r1'.tup
          obtain ⟨b1, us, rfl, q2, rt⟩ := r2'.tup
          refine ⟨a1, b1, vs, us, rfl, q1.sq, q2.sq, fun qs p1 hl hn hq hp hpq => ?_⟩
          obtain ⟨g1, g2, g3⟩ := putP_ok (qs := qs) (ps := vs.zip us) hq hn W2
          have E2 := (E.step f1 W).step f2 W1
          have E3 := E2.step g1 W2
          have hp2 : putP H2 qs (vs.zip us) p1 = none := by rw [putP_off qs _ _ hpq]; exact hp
          have nw : New (putP H2 qs (vs.zip us)) (L2.upd (putP H2 qs (vs.zip us)) p1 (.lst (qs.map fun q => V.ref q.1))) := .one hp2
          have fl := freshL (c := cn X sx.nmf) (m := m2) hp2 (g2.dom E3) (putP_reps rs rt hl hq hn W2)
          have f3 := (f1.trans f2).trans g1
          exact h _ m2 _ (f3.trans nw.fr) (g2.new nw) ⟨RepD.le (fresh_all md) (RepD.back (m1 := m2) rfl f3 g2 fl), FW.new nw g2 fl⟩
        | _ => rcases xr with _ | ⟨_, _⟩ <;> rcases kw with _ | ⟨_, _⟩ <;> cases hc
      | _ => rcases xr with _ | ⟨_, _⟩ <;> rcases kw with _ | ⟨_, _⟩ <;> cases hc
    | _ => cases hc
  | _ => cases hc
end
end Mx

set_option Elab.async false
set_option linter.all false
set_option maxRecDepth 100000
set_option maxHeartbeats 1000000
/-! My7: enumerate of a list or a tuple. -/
namespace Mx
open PySem PySem.Spec L2
theorem enum_newB1 {v : Value} {o : Obj} {H : Heap → Prop} (B : Begins v o H) :
    Meets (Builtin.«enumerate.__new__» ⟨[.type "enumerate", v], []⟩) (fun _ R s => H s.heap ∧
      R (.ok (.ret (.ref (s.heap.push o).objs.size))) { s with heap := (s.heap.push o).push { cls := .type "enumerate", data := .fields #[.none, .bool false, .ref s.heap.objs.size, rawInt 0, .none, .none] } }) :=
  .of_wp fun prog w A R s h => by
    obtain ⟨hp, g, d, tk, os⟩ := s; obtain ⟨h1, h⟩ := h
    have hsub := sub_enumerate
    have q1 : ∀ {A' : Around} {E : Value → Shared → Prop} {Q : Value → Shared → Prop}, Q (.ref hp.objs.size) ⟨hp.push o, g, d, tk, os⟩ → wpAny (model prog w) A' (pyIter v) Q E ⟨hp, g, d, tk, os⟩ :=
      fun q => B.iter prog w _ _ ⟨hp, g, d, tk, os⟩ _ h1 q
    wp_walk using q1
    refine wpAny_stack_any fun st => wpAny_pure ?_
    split
    · rename_i c _ _ _ _ _
      cases (c == Value.type "enumerate")
      · wp_walk using q1
        exact ⟨_, rfl, h⟩
      · wp_walk using q1
        exact ⟨_, rfl, h⟩
    · wp_walk using q1
      exact ⟨_, rfl, h⟩
section
variable {prog : Program} {w : World} {A : Around} {E : Value → Shared → Prop} {s : Shared}
theorem call_enumB {v : Value} {o : Obj} {H : Heap → Prop} {Q : Value → Shared → Prop} (B : Begins v o H) (h1 : H s.heap)
    (h : ∀ h', IsEnum h' (s.heap.objs.size + 1) s.heap.objs.size 0 .none → h'.get? s.heap.objs.size = some o → h'.objs.size = s.heap.objs.size + 2 →
      (∀ b o, s.heap.get? b = some o → h'.get? b = some o) → Q (.ref (s.heap.objs.size + 1)) { s with heap := h' }) :
    wpAny (model prog w) A (call (.type "enumerate") [v]) Q E s := by
  refine callType_new F.called_enumerate (by decide) (F.typeCall_enumerate_1 _) (F.newCall_enumerate_1 _) (fun obj => F.args_object_init_2 obj _) F.entry_enumerate_new (enum_newB1 B) ⟨h1, ?_⟩
  have hz : (s.heap.push o).objs.size = s.heap.objs.size + 1 := Heap.size_push ..
  show _ ∧ _
  rw [hz]
  have he : IsEnum ((s.heap.push o).push { cls := .type "enumerate", data := .fields #[.none, .bool false, .ref s.heap.objs.size, rawInt 0, .none, .none] }) (s.heap.objs.size + 1) s.heap.objs.size 0 .none := by
    have := Heap.get?_push_size (s.heap.push o) (o := { cls := .type "enumerate", data := .fields #[.none, .bool false, .ref s.heap.objs.size, rawInt 0, .none, .none] }) rfl
    rw [hz] at this; exact this
  refine ⟨⟨_, he, rfl⟩, h _ he (Heap.get?_push_of_some _ (Heap.get?_push_size _ B.free)) (by rw [Heap.size_push, hz]) fun b o x => Heap.get?_push_of_some _ (Heap.get?_push_of_some _ x)⟩
theorem enumT_end {e it t : Addr} {i : Nat} {k : Int} {items : Array Value} {old : Value} {Q : Option Value → Shared → Prop} (hh : A.handled = none) (he : IsEnum s.heap e it k old) (hit : s.heap.IsTupleIter it t i) (ht : s.heap.IsTuple t items) (hx : items[i]? = none)
    (hQ : ∀ h', Heap.ExtBut it s.heap h' → Q none { s with heap := h' }) : wpAny (model prog w) A (pyNext (.ref e)) Q E s := by
  have hT : s.TypeIs (.ref e) "enumerate" := ⟨_, he, rfl⟩
  unfold pyNext
  refine wpAny_bind (wpAny_attempt (wpAny_callSpecial?_slot (name := Str.ofString "__next__") hT F.slot_enumerate_next
    (wpAny_call_entry F.slot_enumerate_next hT F.entry_enumerate_next ?_ (F.args_enumerate_next_1 _))))
  show wpAny _ _ (field (.ref e) 2 >>= _) _ _ _
  refine wpAny_bind (wpAny_field he rfl (x := .ref it) rfl ?_)
  refine wpAny_bind (wpAny_nextOf_tuple_end hh hit ht hx fun h' x he' hx' => ?_)
  obtain ⟨o, ho, hc⟩ := hx'
  refine wpAny_bind (wpAny_isInstance (T := "StopIteration") (b := true) ⟨o, ho, hc⟩ isSubtype_stop ?_)
  exact wpAny_pure (hQ _ he')
end
/-- the tuple at a, each item in a new pair -/
def IteT (K : PySem.W.Frag) (a : Addr) : L2.It :=
  ⟨fun i H => ∃ (xs : List V) (x : V), SqT K H a xs ∧ xs[i]? = some x, fun i H v H' => ∃ T x, v = .ref T ∧ H T = none ∧ H' = upd H T (.tup [.int (i : Nat), x]) ∧ ∀ xs, SqT K H a xs → xs[i]? = some x, fun i H => ∃ xs : List V, SqT K H a xs ∧ xs.length ≤ i⟩
theorem turn_enumT {P : Program} {w : World} {K : PySem.W.Frag} {elts : List Expr} {kk : Nat} {tpos : Pos} (a e it : Addr) :
    Turn P w K (.Tuple elts kk tpos) (IteT K a) [e, it] e (fun i h => (∃ old, IsEnum h e it ((i : Nat) : Int) old) ∧ h.IsTupleIter it a i ∧ e ≠ it ∧ a ≠ it ∧ a ≠ e) where
  mem := by simp
  obj := fun i h st b hb => by
    obtain ⟨⟨old, he⟩, ⟨o, ho, hc, hd⟩, _⟩ := st
    have e' : b = e ∨ b = it := by simpa using hb
    rcases e' with z | z
    · rw [z]; exact ⟨_, he, fun v q => nomatch q⟩
    · rw [z]; exact ⟨o, ho, fun v q => by rw [hd] at q; cases q⟩
  keep := fun i h h' st k => let ⟨⟨old, he⟩, hi, hne⟩ := st; ⟨⟨old, k e (by simp) _ he⟩, hi.at fun o q => k it (by simp) o q, hne⟩
  item := by
    intro X hP hw hK hc i pins s σ H E I hf st hg
    subst hP hw hK
    obtain ⟨⟨old, he⟩, hit, hne, hai, hae⟩ := st
    obtain ⟨xs, x, hq, hx⟩ := hg
    obtain ⟨its, rv, p, hz⟩ := I.tuple hq
    obtain ⟨u, hu, ru⟩ := rv.get hx
    have hel : e < s.heap.objs.size := Heap.lt_size he
    have hil : it < s.heap.objs.size := by obtain ⟨_, q, _⟩ := hit; exact Heap.lt_size q
    have hlt : i < its.toArray.size := by
      have := (List.getElem?_eq_some_iff.mp hu).1
      simpa using this
    refine wpAny_pyNext_enum_itemD (Draws.tuple (A := X.A.in1) (I.ok.hd hc) it a hai its.toArray) he ⟨hit, p⟩ hlt hne (by simp [hne, Ne.symm hae]) fun y h' tk hP ho st' hT hsz hk => ?_
    have hy : u = y := by
      have h1 : its.toArray[i]? = some y := hP
      rw [List.getElem?_toArray, hu] at h1
      exact Option.some.inj h1
    subst hy
    obtain ⟨hit', p'⟩ := st'
    refine ⟨_, rfl, wpAny_letOwnedTupleGo_enum (s := { s with heap := h', toks := tk + 1 }) ho fun h'' he' sb => ?_⟩
    have hT2 : h''.get? s.heap.objs.size = some { cls := .type "tuple", data := .seq #[.int i tk, u] } := (sb.2 _ (Nat.ne_of_gt hel)).trans hT
    have new : ObjOk X.prog X.w (upd H s.heap.objs.size (.tup [.int (i : Nat), x])) h'' s.heap.objs.size (.tup [.int (i : Nat), x]) :=
      ⟨by show 2 ≤ sizeLine; decide, [.int i tk, u], .cons ⟨_, rfl⟩ (.cons ru .nil), ⟨_, hT2, rfl, _, rfl⟩⟩
    have I1 : Inv X pins σ (upd H s.heap.objs.size (.tup [.int (i : Nat), x])) { s with heap := h'', toks := tk + 1 } :=
      I.turnedNew (ch := [e, it]) (fun b ob hb q => (sb.2 b (fun z => hb (by simp [z]))).trans (hk b ob (fun z => hb (by simp [z])) (fun z => hb (by simp [z])) q)) hf (Nat.le_refl _) new
    refine ⟨.ref s.heap.objs.size, _, I1, rfl, ⟨_, x, rfl, I.hok.fresh (Nat.le_refl _), rfl, fun ys hy => by rw [I.tuple_inj hy hq]; exact hx⟩, ⟨⟨u, ?_⟩, hit'.at fun o q => (sb.2 it (Ne.symm hne)).trans q, hne, hai, hae⟩, fun b hb => ?_⟩
    · have e1 : ((i + 1 : Nat) : Int) = (i : Int) + 1 := by omega
      rw [e1]; exact he'
    · have hb' : b < s.heap.objs.size := by
        have e' : b = e ∨ b = it := by simpa using hb
        rcases e' with z | z
        · rw [z]; exact hel
        · rw [z]; exact hil
      rw [upd_ne (Nat.ne_of_lt hb')]
      exact (hf b hb).1
  done := by
    intro X hP hw hK hc i pins s σ H E I hf st hg
    subst hP hw hK
    obtain ⟨⟨old, he⟩, hit, hne, hai, hae⟩ := st
    obtain ⟨xs, hq, hx⟩ := hg
    obtain ⟨its, rv, p, hz⟩ := I.tuple hq
    obtain ⟨f0, f1, f2, f3, f4, f5⟩ := hf it (by simp)
    have hl := rv.length
    exact enumT_end (I.ok.hd hc) he hit p (by simp; omega) fun h' eb => ⟨rfl, I.turned (t' := s.toks) (fun b o hb q => eb b o hb q) f0 f1 f3 f4 f5⟩
  self := fun A i s Q E st h => let ⟨⟨_, he⟩, _⟩ := st; wpAny_pyIter_enum he h
def iEnumA (K : PySem.W.Frag) (ta : TA) : TI := fun σ H R => ta σ H fun vs H1 => ∃ a xs, vs = [.ref a] ∧ ((SqL K H1 a xs ∧ R (Ite K a) H1) ∨ (SqT K H1 a xs ∧ R (IteT K a) H1))
theorem pi_enumA {X : Cx} {e : Expr} {ta : TA} {p pos tpos : Pos} {elts : List Expr} {kk : Nat} (hg : Gl X "enumerate") (hm : X.mg "enumerate" = none) (ha : PA X [e] ta) (hs : starEach [e] X.env = [(false, eval e X.env)] := by rfl) :
    PI X (.Tuple elts kk tpos) (.Call (.Name "enumerate" p) [e] [] pos) (iEnumA X.K ta) := by
  refine ⟨fun pins s σ H R I h => ?_⟩
  refine PyProof.Rows.Call_ (ld_blt I hg hm PyProof.Rows.boot_enumerate (PyProof.Rows.callWith_type1 (thn (ha.run pos pins s σ H _ I h) fun us s1 ⟨vs, H1, I1, r1, q1⟩ => ?_) hs rfl))
  obtain ⟨a, xs, ex, q⟩ := q1
  subst ex
  cases r1 with
  | cons r rr =>
    cases rr
    cases r
    have hfp : ∀ b ∈ [s1.heap.objs.size + 1, s1.heap.objs.size], s1.heap.objs.size ≤ b := fun b hb => by
      have e' : b = s1.heap.objs.size + 1 ∨ b = s1.heap.objs.size := by simpa using hb
      rcases e' with z | z
      · rw [z]; exact Nat.le_add_right _ _
      · rw [z]; exact Nat.le_refl _
    rcases q with ⟨hq, q⟩ | ⟨hq, q⟩
    · obtain ⟨its, rv, p', hz⟩ := I1.list hq
      refine call_enumerate_list p'.isList fun h' he hit hsz hk => wpAny_pyIter_enum he ?_
      have I2 : Inv X pins σ H1 { s1 with heap := h' } := I1.kept (t' := s1.toks) hk
      exact ⟨s1.heap.objs.size + 1, [s1.heap.objs.size + 1, s1.heap.objs.size], _, _, H1, rfl, I2, turn_enum a (s1.heap.objs.size + 1) s1.heap.objs.size, ⟨⟨.none, he⟩, hit, Nat.succ_ne_self _⟩, fun b hb => I1.fpOk (hfp b hb) (I1.hok.fresh (hfp b hb)), q⟩
    · obtain ⟨its, rv, p', hz⟩ := I1.tuple hq
      have hal : a < s1.heap.objs.size := by obtain ⟨_, q, _⟩ := p'; exact Heap.lt_size q
      refine call_enumB (begins_tuple a its.toArray) p' fun h' he hit hsz hk => wpAny_pyIter_enum he ?_
      have I2 : Inv X pins σ H1 { s1 with heap := h' } := I1.kept (t' := s1.toks) hk
      exact ⟨s1.heap.objs.size + 1, [s1.heap.objs.size + 1, s1.heap.objs.size], _, _, H1, rfl, I2, turn_enumT a (s1.heap.objs.size + 1) s1.heap.objs.size, ⟨⟨.none, he⟩, ⟨_, hit, rfl, rfl⟩, Nat.succ_ne_self _, Nat.ne_of_lt hal, Nat.ne_of_lt (Nat.lt_succ_of_lt hal)⟩, fun b hb => I1.fpOk (hfp b hb) (I1.hok.fresh (hfp b hb)), q⟩
section
variable {tb : Tbl} {F n : Nat} {sx : Sx} {X : Cx} {md : Mode} {c : Cn} {mo : Nat → Bool} {H : Hp} {A : Addr → Prop} {nm : Nat → Str}
theorem walk_enuT {o : HO} {a : Addr} {v : V} {xs : List D} (hv : v = .ref a) : Walk c true (IteT c.K a) [(v, .tuple xs, o)] (enuD 0 xs) where
  go := fun H A i hA h hi => by
    obtain ⟨_, vs, e, hq, r⟩ := (h _ (List.mem_singleton.mpr rfl)).1.tup
    subst hv; cases e
    rw [enuD_len] at hi
    obtain ⟨u, hu, _⟩ := r.get (List.getElem?_eq_getElem hi)
    exact ⟨vs, u, hq.sq, hu⟩
  yld := fun H A i x H' hA h y d hd => by
    obtain ⟨_, vs, e, hq, r⟩ := (h _ (List.mem_singleton.mpr rfl)).1.tup
    subst hv; cases e
    obtain ⟨z, h1, rfl⟩ := enuD_get hd
    obtain ⟨u, hu, ru⟩ := r.get h1
    obtain ⟨T, q1, rfl, hT, rfl, g1⟩ := y
    have e1 := g1 vs hq.sq
    rw [hu] at e1
    cases e1
    refine ⟨.one hT, pair_rep hT ?_ ru⟩
    rw [Int.zero_add]
    exact .int _
  stop := fun H A hA h => by
    obtain ⟨_, vs, e, hq, r⟩ := (h _ (List.mem_singleton.mpr rfl)).1.tup
    subst hv; cases e
    exact ⟨vs, hq.sq, by rw [enuD_len, r.length]; exact Nat.le_refl _⟩
theorem okI_enu (a : E) (ha : OkE tb F n a) : OkI tb F n (.enu a) := by
  intro sx md tx ix X hm hc C
  cases ix with
  | Call fx xs kw pos => cases fx with
    | Name f p =>
      rcases xs with _ | ⟨x, _ | ⟨_, _⟩⟩ <;> rcases kw with _ | ⟨_, _⟩ <;> first | (cases hc; done) | skip
      have hc : (bltB sx f "enumerate" && chk sx md a x && !starB x && tupB tx) = true := hc
      obtain ⟨hc, h4⟩ := band hc
      obtain ⟨hc, h3⟩ := band hc
      obtain ⟨h1, h2⟩ := band hc
      obtain ⟨rfl, hg, hmg⟩ := blt_of C h1 (by decide)
      cases tx with
      | Tuple els kk tp =>
        refine PI_imp (pi_enumA hg hmg (pa_cons (ha sx md x X h2 C) pa_nil (star_of (bnot h3))) (one_star (bnot h3))) ?_
        rintro σ H R ⟨own, Xv, m, env, w, E, W, h⟩
        rw [show evI _ (.enu a) env w = (ev _ a env w).dat.bind fun x w => (ofO (itemsD x) w).bind fun xs w => .ok (enuD 0 xs) w from rfl, sat_bind, sat_dat] at h
        refine ⟨own, Xv, m, env, w, E, W, sat_mono h fun x1 w1 h v1 m1 H1 f1 W1 r1 => ?_⟩
        obtain ⟨dx, rfl, h⟩ := h
        rw [sat_bind, sat_ofO] at h
        obtain ⟨xs, hxs, h⟩ := h
        cases dx with
        | list us =>
          cases hxs
          obtain ⟨a1, vs1, rfl, ha1, ra1⟩ := (RepD.peek (md := md) r1.1).lst
          refine ⟨a1, vs1, rfl, .inl ⟨ha1, h _ [(.ref a1, .list xs, .lst [])] m1 H1 f1 W1 (walk_enu (c := cn X sx.nmf) rfl) fun p hp => ?_⟩⟩
          rw [List.mem_singleton.mp hp]
          exact ⟨r1.1, fun z => nomatch z⟩
        | tuple us =>
          cases hxs
          obtain ⟨a1, vs1, rfl, ha1, ra1⟩ := (RepD.peek (md := md) r1.1).tup
          refine ⟨a1, vs1, rfl, .inr ⟨ha1.sq, h _ [(.ref a1, .tuple xs, .lst [])] m1 H1 f1 W1 (walk_enuT (c := cn X sx.nmf) rfl) fun p hp => ?_⟩⟩
          rw [List.mem_singleton.mp hp]
          exact ⟨r1.1, fun z => nomatch z⟩
        | _ => cases hxs
      | _ => cases h4
    | _ => cases hc
  | _ => cases hc
end
end Mx

set_option Elab.async false
set_option linter.all false
set_option maxRecDepth 100000
set_option maxHeartbeats 1000000
/-! Mxi: every expression, every statement, every def. -/
namespace Mx
open PySem PySem.Spec L2
section
variable {tb : Tbl} {F n : Nat}
def plainX : Expr → Bool
  | .UnaryOp .Not _ _ => false
  | .BoolOp _ _ _ => false
  | .IfExp _ _ _ _ => false
  | .Compare _ _ _ _ => false
  | _ => true
theorem plain_test {ex : Expr} (h : plainX ex = true) (env : PySem.Env) (whole : Sem Value) : isTrue ex env whole = (do let v ← whole; standAt ex.pos; holding [v] (truthy v)) := by
  cases ex with
  | UnaryOp o a p => cases o <;> first | rfl | cases h
  | BoolOp _ _ _ => cases h
  | IfExp _ _ _ _ => cases h
  | Compare _ _ _ _ => cases h
  | _ => rfl
theorem okT_plain {e : E} (h : OkE tb F n e) (hp : ∀ sx ex, chk sx .keep e ex = true → plainX ex = true) : OkT tb F n e := fun sx ex X hc C => ok_val h C hc (plain_test (hp sx ex hc) X.env)
theorem no_ok {e : E} (h : ∀ sx md ex, chk sx md e ex = false) : OkE tb F n e ∧ OkT tb F n e := by
  constructor
  · intro sx md ex X hc C
    rw [h] at hc; cases hc
  · intro sx ex X hc C
    rw [h] at hc; cases hc
theorem no_okI {it : It} (h : ∀ sx md t ex, chkI sx md t it ex = false) : OkI tb F n it := fun sx md tx ix X _ hc C => by rw [h] at hc; cases hc
theorem no_okS {s : S} (h : ∀ sx x, chkS sx s x = false) : OkS tb F n s := fun sx x X hc C _ => by rw [h] at hc; cases hc
theorem okT_cell (e : E) : OkT tb F n (.cell e) := fun sx ex X hc C => PT_no fun σ H Q ⟨own, Xv, m, env, w, E, W, h⟩ => by
  rw [ev_cell, tru_bind, sat_bind] at h
  exact no_sat h fun d w1 h => by
    cases d <;> first | exact h | skip
    rename_i xs
    have h : (if flats xs then Res.ok (Vl.ob w1.length) (w1 ++ [.cell xs]) else .stuck).tru.sat _ := h
    cases hf : flats xs with
    | true => rw [hf] at h; exact h
    | false => rw [hf] at h; exact h
theorem okT_dcell (e : E) : OkT tb F n (.dcell e) := fun sx ex X hc C => PT_no fun σ H Q ⟨own, Xv, m, env, w, E, W, h⟩ => by
  rw [ev_dcell, tru_bind, sat_bind] at h
  exact no_sat h fun d w1 h => by cases d <;> exact h
theorem okT_rd (o : E) : OkT tb F n (.rd o) := fun sx ex X hc C => by
  have hc : (Mode.keep.isPeek && chk sx .keep o ex) = true := by cases ex <;> exact hc
  cases hc
mutual
theorem okE : ∀ e : E, OkE tb F n e ∧ OkT tb F n e
  | .slot i => ⟨ok_slot i, okT_plain (ok_slot i) fun sx ex h => by cases ex <;> first | rfl | cases h⟩
  | .cst d => ⟨ok_cst d, okT_plain (ok_cst d) fun sx ex h => by cases ex <;> first | rfl | cases h⟩
  | .glo x d => ⟨ok_glo x d, okT_plain (ok_glo x d) fun sx ex h => by cases ex <;> first | rfl | cases h⟩
  | .bin op a b => have h := ok_bin op a b (okE a).1 (okE b).1; ⟨h, okT_plain h fun sx ex h => by cases ex <;> first | rfl | cases h⟩
  | .neg a => have h := ok_neg a (okE a).1; ⟨h, okT_plain h fun sx ex h => by
      cases ex with
      | UnaryOp o x p => cases o <;> first | rfl | cases h
      | _ => first | rfl | cases h⟩
  | .not a => ⟨ok_not a (okE a).1, okT_not a (okE a).2⟩
  | .and es => ⟨ok_and es (okEs es).2.2, okT_and es (okEs es).2.2⟩
  | .or es => ⟨ok_or es (okEs es).2.2, okT_or es (okEs es).2.2⟩
  | .cmp op a b => both_cmp op a b (okE a).1 (okE b).1
  | .cmp2 op op' a b e => both_cmp2 op op' a b e (okE a).1 (okE b).1 (okE e).1
  | .ite t a b => ⟨ok_ite t a b (okE t).2 (okE a).1 (okE b).1, okT_ite t a b (okE t).2 (okE a).2 (okE b).2⟩
  | .tup es => have h := ok_tup es (okEs es).1; ⟨h, okT_plain h fun sx ex h => by cases ex <;> first | rfl | cases h⟩
  | .lst es => have h := ok_lst es (okEs es).1; ⟨h, okT_plain h fun sx ex h => by cases ex <;> first | rfl | cases h⟩
  | .idx a b => have h := ok_idx a b (okE a).1 (okE b).1; ⟨h, okT_plain h fun sx ex h => by cases ex <;> first | rfl | cases h⟩
  | .sli a lo hi => have h := ok_sli a lo hi (okE a).1 (okEo lo).1 (okEo hi).1; ⟨h, okT_plain h fun sx ex h => by cases ex <;> first | rfl | cases h⟩
  | .call f es => have h := ok_call f es (okEs es).2.1; ⟨h, okT_plain h fun sx ex h => by cases ex <;> first | rfl | cases h⟩
  | .lc vs tg it ifs elt => have h := ok_lc vs tg it ifs elt (okIt it) (okEo ifs).2 (okE elt).1; ⟨h, okT_plain h fun sx ex h => by cases ex <;> first | rfl | cases h⟩
  | .stuck => ⟨ok_stuck, okT_stuck⟩
  | .fn _ => no_ok fun sx md ex => by cases ex <;> rfl
  | .sl3 a k st => have h := ok_sl3 a k st (okE a).1; ⟨h, okT_plain h fun sx ex h => by cases ex <;> first | rfl | cases h⟩
  | .callB _ _ => no_ok fun sx md ex => by cases ex <;> rfl
  | .callV _ _ => no_ok fun sx md ex => by cases ex <;> rfl
  | .b1 .len e => have h := ok_b1 .len (by decide) e (okE e).1; ⟨h, okT_plain h fun sx ex h => by cases ex <;> first | rfl | cases h⟩
  | .b1 .abs e => have h := ok_b1 .abs (by decide) e (okE e).1; ⟨h, okT_plain h fun sx ex h => by cases ex <;> first | rfl | cases h⟩
  | .b1 .int e => have h := ok_b1 .int (by decide) e (okE e).1; ⟨h, okT_plain h fun sx ex h => by cases ex <;> first | rfl | cases h⟩
  | .b1 .str e => have h := ok_b1 .str (by decide) e (okE e).1; ⟨h, okT_plain h fun sx ex h => by cases ex <;> first | rfl | cases h⟩
  | .b1 .dict e => have h := ok_b1dict e (okE e).1; ⟨h, okT_plain h fun sx ex h => by cases ex <;> first | rfl | cases h⟩
  | .bit .tuple (.seq e) => have h := ok_bit .tuple (by decide) e (okE e).1; ⟨h, okT_plain h fun sx ex h => by cases ex <;> first | rfl | cases h⟩
  | .bit .list (.seq e) => have h := ok_bit .list (by decide) e (okE e).1; ⟨h, okT_plain h fun sx ex h => by cases ex <;> first | rfl | cases h⟩
  | .bit .sorted (.seq e) => have h := ok_bit .sorted (by decide) e (okE e).1; ⟨h, okT_plain h fun sx ex h => by cases ex <;> first | rfl | cases h⟩
  | .bit .all (.seq e) => have h := ok_bit .all (by decide) e (okE e).1; ⟨h, okT_plain h fun sx ex h => by cases ex <;> first | rfl | cases h⟩
  | .bit .any (.seq e) => have h := ok_bit .any (by decide) e (okE e).1; ⟨h, okT_plain h fun sx ex h => by cases ex <;> first | rfl | cases h⟩
  | .bit .sum (.seq e) => have h := ok_bit .sum (by decide) e (okE e).1; ⟨h, okT_plain h fun sx ex h => by cases ex <;> first | rfl | cases h⟩
  | .bit .min (.seq e) => have h := ok_bit .min (by decide) e (okE e).1; ⟨h, okT_plain h fun sx ex h => by cases ex <;> first | rfl | cases h⟩
  | .bit .max (.seq e) => have h := ok_bit .max (by decide) e (okE e).1; ⟨h, okT_plain h fun sx ex h => by cases ex <;> first | rfl | cases h⟩
  | .bit .srtset (.seq e) => have h := ok_bit .srtset (by decide) e (okE e).1; ⟨h, okT_plain h fun sx ex h => by cases ex <;> first | rfl | cases h⟩
  | .bit .lenset (.seq e) => have h := ok_lenset e (okE e).1; ⟨h, okT_plain h fun sx ex h => by cases ex <;> first | rfl | cases h⟩
  | .bit b (.rng1 _) => no_ok fun sx md ex => by cases b <;> cases ex <;> rfl
  | .bit .list (.rng2 a b) => have h := ok_listRng a b (okE a).1 (okE b).1; ⟨h, okT_plain h fun sx ex h => by cases ex <;> first | rfl | cases h⟩
  | .bit .tuple (.rng2 _ _) => no_ok fun sx md ex => by cases ex <;> rfl
  | .bit .sorted (.rng2 _ _) => no_ok fun sx md ex => by cases ex <;> rfl
  | .bit .all (.rng2 _ _) => no_ok fun sx md ex => by cases ex <;> rfl
  | .bit .any (.rng2 _ _) => no_ok fun sx md ex => by cases ex <;> rfl
  | .bit .sum (.rng2 _ _) => no_ok fun sx md ex => by cases ex <;> rfl
  | .bit .min (.rng2 _ _) => no_ok fun sx md ex => by cases ex <;> rfl
  | .bit .max (.rng2 _ _) => no_ok fun sx md ex => by cases ex <;> rfl
  | .bit .srtset (.rng2 _ _) => no_ok fun sx md ex => by cases ex <;> rfl
  | .bit .lenset (.rng2 _ _) => no_ok fun sx md ex => by cases ex <;> rfl
  | .bit b (.rng3 _ _ _) => no_ok fun sx md ex => by cases b <;> cases ex <;> rfl
  | .bit .list (.zip a b) => have h := ok_listZip a b (okE a).1 (okE b).1; ⟨h, okT_plain h fun sx ex h => by cases ex <;> first | rfl | cases h⟩
  | .bit .tuple (.zip _ _) => no_ok fun sx md ex => by cases ex <;> rfl
  | .bit .sorted (.zip _ _) => no_ok fun sx md ex => by cases ex <;> rfl
  | .bit .all (.zip _ _) => no_ok fun sx md ex => by cases ex <;> rfl
  | .bit .any (.zip _ _) => no_ok fun sx md ex => by cases ex <;> rfl
  | .bit .sum (.zip _ _) => no_ok fun sx md ex => by cases ex <;> rfl
  | .bit .min (.zip _ _) => no_ok fun sx md ex => by cases ex <;> rfl
  | .bit .max (.zip _ _) => no_ok fun sx md ex => by cases ex <;> rfl
  | .bit .srtset (.zip _ _) => no_ok fun sx md ex => by cases ex <;> rfl
  | .bit .lenset (.zip _ _) => no_ok fun sx md ex => by cases ex <;> rfl
  | .bit b (.zip3 _ _ _) => no_ok fun sx md ex => by cases b <;> cases ex <;> rfl
  | .bit b (.enu _) => no_ok fun sx md ex => by cases b <;> cases ex <;> rfl
  | .bit b (.keys _) => no_ok fun sx md ex => by cases b <;> cases ex <;> rfl
  | .bit b (.vals _) => no_ok fun sx md ex => by cases b <;> cases ex <;> rfl
  | .bit b (.items _) => no_ok fun sx md ex => by cases b <;> cases ex <;> rfl
  | .srtK f (.seq e) => have h := ok_srtS f e (okE e).1; ⟨h, okT_plain h fun sx ex h => by cases ex <;> first | rfl | cases h⟩
  | .srtK f (.keys e) => have h := ok_srtKeys f e (okE e).1; ⟨h, okT_plain h fun sx ex h => by cases ex <;> first | rfl | cases h⟩
  | .srtK _ (.rng1 _) => no_ok fun sx md ex => by cases ex <;> rfl
  | .srtK _ (.rng2 _ _) => no_ok fun sx md ex => by cases ex <;> rfl
  | .srtK _ (.rng3 _ _ _) => no_ok fun sx md ex => by cases ex <;> rfl
  | .srtK _ (.zip _ _) => no_ok fun sx md ex => by cases ex <;> rfl
  | .srtK _ (.zip3 _ _ _) => no_ok fun sx md ex => by cases ex <;> rfl
  | .srtK _ (.enu _) => no_ok fun sx md ex => by cases ex <;> rfl
  | .srtK _ (.vals _) => no_ok fun sx md ex => by cases ex <;> rfl
  | .srtK _ (.items _) => no_ok fun sx md ex => by cases ex <;> rfl
  | .isi e t => have h := ok_isi e t (okE e).1; ⟨h, okT_plain h fun sx ex h => by cases ex <;> first | rfl | cases h⟩
  | .lc2 vs tg it tg2 it2 ifs elt => have h := (ok_lc2 vs tg it tg2 it2 ifs elt (okIt it) (okIt it2) (okEo ifs).2 (okE elt).1).1; ⟨h, okT_plain h fun sx ex h => by cases ex <;> first | rfl | cases h⟩
  | .dc vs tg it k v => have h := (ok_dc vs tg it k v (okIt it) (okE k).1 (okE v).1).1; ⟨h, okT_plain h fun sx ex h => by cases ex <;> first | rfl | cases h⟩
  | .dc2 vs tg it tg2 it2 k v => have h := (ok_dc2 vs tg it tg2 it2 k v (okIt it) (okIt it2) (okE k).1 (okE v).1).1; ⟨h, okT_plain h fun sx ex h => by cases ex <;> first | rfl | cases h⟩
  | .dct .nil .nil => have h := ok_dct0; ⟨h, okT_plain h fun sx ex h => by cases ex <;> first | rfl | cases h⟩
  | .dct (.cons _ _) _ => no_ok fun sx md ex => by cases ex <;> rfl
  | .dct .nil (.cons _ _) => no_ok fun sx md ex => by cases ex <;> rfl
  | .cnt a b => have h := ok_cnt a b (okE a).1 (okE b).1; ⟨h, okT_plain h fun sx ex h => by cases ex <;> first | rfl | cases h⟩
  | .index a b => have h := ok_index a b (okE a).1 (okE b).1; ⟨h, okT_plain h fun sx ex h => by cases ex <;> first | rfl | cases h⟩
  | .get _ _ _ => no_ok fun sx md ex => by cases ex <;> rfl
  | .fld o cl f => have h := ok_fld o cl f (okE o).1; ⟨h, okT_plain h fun sx ex h => by cases ex <;> first | rfl | cases h⟩
  | .meth o cl m x es => have h := ok_meth o cl m x es (okE o).1 (okEs es).2.1; ⟨h, okT_plain h fun sx ex h => by cases ex <;> first | rfl | cases h⟩
  | .mk cl m es => have h := ok_mk cl m es (okEs es).2.1; ⟨h, okT_plain h fun sx ex h => by cases ex <;> first | rfl | cases h⟩
  | .cell e => ⟨ok_cell e (okE e).1, okT_cell e⟩
  | .dcell e => ⟨ok_dcell e (okE e).1, okT_dcell e⟩
  | .rd o => ⟨ok_rd o (okE o).1, okT_rd o⟩
  | .oidx o i => have h := ok_oidx o i (okE o).1 (okE i).1; ⟨h, okT_plain h fun sx ex h => by cases ex <;> first | rfl | cases h⟩
  | .deq0 false e => ok_deq0 e (okE e).1
  | .deq0 true _ => no_ok fun sx md ex => by cases ex <;> rfl
theorem okEs : ∀ es : Es, OkEs tb F n es ∧ OkAs tb F n es ∧ OkAnd tb F n es
  | .nil => ⟨okEs_nil, okAs_nil, okAnd_nil⟩
  | .cons e r => ⟨okEs_cons e r (okE e).1 (okEs r).1, okAs_cons e r (okE e).1 (okEs r).2.1, okAnd_cons e r (okE e).1 (okE e).2 (okEs r).2.2⟩
theorem okEo : ∀ o : Eo, OkO tb F n o ∧ OkTs tb F n o
  | .none => ⟨okO_none, okTs_none⟩
  | .some e => ⟨okO_some e (okE e).1, okTs_some e (okE e).2⟩
theorem okIt : ∀ it : It, OkI tb F n it
  | .seq e => okI_seq e (okE e).1
  | .rng1 a => okI_rng1 a (okE a).1
  | .rng2 a b => okI_rng2 a b (okE a).1 (okE b).1
  | .zip a b => okI_zip a b (okE a).1 (okE b).1
  | .rng3 _ _ _ => no_okI fun sx md t ex => by cases ex <;> rfl
  | .zip3 _ _ _ => no_okI fun sx md t ex => by cases ex <;> rfl
  | .enu e => okI_enu e (okE e).1
  | .keys _ => no_okI fun sx md t ex => by cases ex <;> rfl
  | .vals _ => no_okI fun sx md t ex => by cases ex <;> rfl
  | .items _ => no_okI fun sx md t ex => by cases ex <;> rfl
end
theorem okW : ∀ e : E, isComp e = true → OkW tb F n e
  | .lc vs tg it ifs elt, _ => okW_lc vs tg it ifs elt (okIt it) (okEo ifs).2 (okE elt).1
  | .lc2 vs tg it tg2 it2 ifs elt, _ => (ok_lc2 vs tg it tg2 it2 ifs elt (okIt it) (okIt it2) (okEo ifs).2 (okE elt).1).2
  | .dc vs tg it k v, _ => (ok_dc vs tg it k v (okIt it) (okE k).1 (okE v).1).2
  | .dc2 vs tg it tg2 it2 k v, _ => (ok_dc2 vs tg it tg2 it2 k v (okIt it) (okIt it2) (okE k).1 (okE v).1).2
mutual
theorem okS : ∀ s : S, OkS tb F n s
  | .asg i e => ok_asg i e (okE e).1 (okW e)
  | .asgT is e => ok_asgT is e (okE e).1
  | .expr e => ok_expr e (okE e).1
  | .ret e => ok_ret e (okE e).1
  | .retN => ok_retN
  | .ite t a b => ok_iteS t a b (okE t).2 (okSs a) (okSs b)
  | .for_ tg it b => ok_for tg it b (okIt it) (okSs b)
  | .while_ t b => ok_while t b (okE t).2 (okSs b)
  | .cont => ok_cont
  | .brk => ok_brk
  | .pass => ok_pass
  | .stuck => ok_stuckS
  | .par i j a b => ok_par i j a b (okE a).1 (okE b).1
  | .mv _ _ => no_okS fun sx x => by cases x <;> rfl
  | .app i e => ok_app i e (okE e).1
  | .appMv _ _ => no_okS fun sx x => by cases x <;> rfl
  | .ext i e => ok_ext i e (okE e).1
  | .put i k e => ok_put i k e (okE k).1 (okE e).1
  | .popK i e => ok_popK i e (okE e).1
  | .upd _ _ => no_okS fun sx x => by cases x <;> rfl
  | .oput o k e => ok_oput o k e (okE o).1 (okE k).1 (okE e).1
  | .oapp o e => ok_oapp o e (okE o).1 (okE e).1
  | .fset i cl f e => ok_fset i cl f e (okE e).1
  | .aug i op e => ok_aug i op e (okE e).1
  | .raise _ _ => no_okS fun sx x => by cases x <;> rfl
theorem okSs : ∀ s : Ss, OkSs tb F n s
  | .nil => ok_nil
  | .cons s r => ok_cons s r (okS s) (okSs r)
end
end
/-! ### defs -/
def cellsOf (sc : Scope) : List Str := sc.names.map (·.1)
def BindsAll (fd : FuncData) (ps : List Str) : Prop := ∀ (s : Shared) (us : List Value), us.length = ps.length → BindsTo s fd ⟨us, []⟩ (ps.zip us)
theorem BindsAll.binds {K : PySem.W.Frag} {fd : FuncData} {ps : List Str} (h : BindsAll fd ps) : Binds K fd ps [] := fun s us _ hl => by
  rw [List.append_nil] at hl ⊢
  exact h s us hl
structure Mdl (tb : Tbl) (nm : List Str) (gl : List (Nat × D)) (mth : List (Nat × Nat × Nat)) (cl : List (Nat × List Str)) (K : PySem.W.Frag) (mg : Str → Option Value) : Prop where
  fn : ∀ f d, tb.lookup f = some d → ∃ (fa : Addr) (fd : FuncData) (x qual : Str) (params : Arguments) (body : List Stmt) (scope : Scope), FunD K x qual params body scope [] [] fa fd ∧ FA K mg (fun i => nm.getD i Str.empty) mth f fa ∧ BindsAll fd d.ps ∧
    FnScope d.N d.ps scope ∧ chkSs ⟨d.N, scope, d.mo, nm, gl, cellsOf scope, mth, tb.map (·.1), cl⟩ d.body body = true ∧ ∀ i ∈ d.mo, d.ps.length ≤ i
  free : ∀ x ∈ blts, mg x = none
  cls : ∀ c fs, cl.lookup c = some fs → ∃ C, mg (nm.getD c Str.empty) = some (.ref C) ∧ Cls K C ∧ PySem.W.makesIn K C = true ∧ PySem.W.keepIn K (.ref C) = true ∧ ∀ f ∈ fs, NoAttr K C f
  glb : ∀ f i, gl.lookup f = some (.int i) → ∃ t, mg (nm.getD f Str.empty) = some (.int i t)
  gls : ∀ f z, gl.lookup f = some (PyData.str z) → ∃ t, mg (nm.getD f Str.empty) = some (.str z t)
theorem paired_len {α β : Type} {R : α → β → Prop} : ∀ {xs : List α} {ys : List β}, Paired R xs ys → xs.length = ys.length := fun h => Paired.length h
theorem startE_get {N : List Str} {vs : List Vl} {i : Nat} {x : Vl} (h : (startE N vs)[i]? = some (some x)) : vs[i]? = some x := by
  unfold startE at h
  by_cases hi : i < vs.length
  · rw [List.getElem?_append_left (by simpa using hi), List.getElem?_map] at h
    cases q : vs[i]? with
    | none => rw [q] at h; cases h
    | some y => rw [q] at h; simpa using h
  · rw [List.getElem?_append_right (by simpa using hi), List.getElem?_replicate] at h
    split at h
    · simp at h
    · cases h
theorem start_get {N : List Str} {vs : List V} {i : Nat} {v : V} (h : vs[i]? = some v) : (L2.start N vs)[i]? = some (some v) := by
  unfold L2.start
  have hi : i < vs.length := (List.getElem?_eq_some_iff.mp h).1
  rw [List.getElem?_append_left (by simpa using hi), List.getElem?_map, h]
  rfl
theorem paired_get {R : Vl → V → Prop} {xs : List Vl} {vs : List V} (h : Paired R xs vs) {i : Nat} {x : Vl} (e : xs[i]? = some x) : ∃ v, vs[i]? = some v ∧ R x v := by
  induction h generalizing i with
  | nil => simp at e
  | cons r _ ih =>
    cases i with
    | zero => simp at e; subst e; exact ⟨_, rfl, r⟩
    | succ i => exact ih (by simpa using e)
theorem callN_succ {tb : Tbl} {F n f : Nat} {d : Df} (h : tb.lookup f = some d) (vs : List Vl) (w0 : Wd) : callN tb F (n + 1) f vs w0 = if Nat.beq vs.length d.ps.length then (exs ⟨callN tb F n, F⟩ d.body (startE d.N vs) w0).bind fun fl w => match fl with
      | .rt v => .ok v (trim w0.length v w)
      | .nx _ => .ok (.d .none) (trim w0.length (.d .none) w)
      | _ => .stuck
      else .stuck := by
  rw [callN, h]
  all_goals rfl
theorem flds_trim {c : Cn} {A A' : Addr → Prop} {m m' : List Addr} {H' : Hp} {n : Nat} (kp : Kp c.K A A' H' H') (hget : ∀ i a, i < n → m'[i]? = some a → m[i]? = some a) {gs : List (Str × V)} {fs : List (Str × Vl)} (hc : (fs.all fun p => closedV n p.2) = true) (h : Flds c H' A m' gs fs) : Flds c H' A' m gs fs := by
  unfold Flds at h ⊢
  induction h with
  | nil => exact .nil
  | @cons p q ps qs r _ ih =>
    rw [List.all_cons, Bool.and_eq_true] at hc
    refine .cons ⟨r.1, ?_⟩ (ih hc.2)
    have r2 := r.2
    have hv := hc.1
    cases hq : q.2 with
    | d z => rw [hq] at r2; exact Rep.keep kp r2
    | ob j =>
      rw [hq] at r2 hv
      obtain ⟨b, z1, z2⟩ := r2
      exact ⟨b, hget j b (Nat.lt_of_lt_of_le (Nat.lt_succ_self j) (Nat.le_of_ble_eq_true hv)) z1, z2⟩
    | fn g => rw [hq] at r2; exact r2
theorem trim_ok {c : Cn} {Xv : Addr → Prop} {m m' : List Addr} {H H' : Hp} {w w' : Wd} {x : Vl} {v : V} (W : WOk c [] Xv m H w) (f : Fr c.K m m' H H') (W' : WOk c [] Xv m' H' w') (r : RepV c H' (Av [] Xv m') m' x v) :
    ∃ m2, Fr c.K m m2 H H' ∧ WOk c [] Xv m2 H' (trim w.length x w') ∧ RepV c H' (Av [] Xv m2) m2 x v := by
  unfold trim
  cases hb : Nat.beq w'.length w.length with
  | true => exact ⟨m', f, W', r⟩
  | false =>
    cases x with
    | ob i => exact ⟨m', f, W', r⟩
    | fn g => exact ⟨m', f, W', r⟩
    | d y =>
      show ∃ m2, Fr c.K m m2 H H' ∧ WOk c [] Xv m2 H' (if (w'.take w.length).all (closedO w.length) = true then w'.take w.length else w') ∧ _
      cases hc : (w'.take w.length).all (closedO w.length) with
      | false => exact ⟨m', f, W', r⟩
      | true =>
        obtain ⟨q, e⟩ := f.pre
        have hl := W.len
        have hmem : ∀ b ∈ m, b ∈ m' := fun b hb => by rw [e]; exact List.mem_append_left _ hb
        have kp : Kp c.K (Av [] Xv m') (Av [] Xv m) H' H' := Kp.less fun b hb z => hb (by
          rcases z with z | z | z
          · exact .inl (hmem b z)
          · obtain ⟨i, z⟩ := z; exact (List.not_mem_nil z).elim
          · exact .inr (.inr z))
        have hget : ∀ i a, i < w.length → m'[i]? = some a → m[i]? = some a := fun i a hi h => by
          rw [e, List.getElem?_append_left (by omega)] at h
          exact h
        refine ⟨m, ⟨⟨[], by simp⟩, fun b h => .inl h, f.ext, f.tup, f.frz⟩, ⟨?_, W.nd, fun i a o h1 h2 => ?_, fun b hb => W'.dis b (hmem b hb)⟩, Rep.keep kp r⟩
        · show m.length = (w'.take w.length).length
          have h3 : m'.length = w'.length := W'.len
          rw [e, List.length_append] at h3
          rw [List.length_take]
          omega
        · have h2 : (w'.take w.length)[i]? = some o := h2
          have hi : i < w.length := by
            have := (List.getElem?_eq_some_iff.mp h1).1
            omega
          have h2' : w'[i]? = some o := by
            rw [List.getElem?_take_of_lt hi] at h2
            exact h2
          have h1' : m'[i]? = some a := by rw [e, List.getElem?_append_left (by omega)]; exact h1
          have q := W'.ob i a o h1' h2'
          have hcl := List.all_eq_true.mp hc o (List.mem_of_getElem? h2)
          cases o with
          | cell xs => exact ⟨q.1, q.2.keep kp fun o h => h⟩
          | dct kvs => exact Own.keep (d := .dict kvs) kp (fun o h => h) q
          | ins cl fs =>
            obtain ⟨C, dx, gs, q1, q2, q3⟩ := q
            refine ⟨C, dx, gs, q1, q2, ?_⟩
            have hcl : (fs.all fun p => closedV w.length p.2) = true := hcl
            exact flds_trim kp hget hcl q3
theorem tb_has {tb : Tbl} {f : Nat} (h : (tb.map (·.1)).contains f = true) : ∃ d, tb.lookup f = some d := by
  induction tb with
  | nil => cases h
  | cons p r ih =>
    obtain ⟨g, d⟩ := p
    by_cases e : f = g
    · subst e
      exact ⟨d, by simp [List.lookup]⟩
    · have e2 : (f == g) = false := by simpa using e
      have h : (r.map (·.1)).contains f = true := by
        have h1 := List.contains_iff_mem.mp h
        rcases List.mem_cons.mp h1 with z | z
        · exact absurd z e
        · exact List.contains_iff_mem.mpr z
      obtain ⟨d', hd⟩ := ih h
      exact ⟨d', by simp only [List.lookup_cons, e2]; exact hd⟩
theorem fn_all {tb : Tbl} {nm : List Str} {glb : List (Nat × D)} {mth : List (Nat × Nat × Nat)} {cl : List (Nat × List Str)} {K : PySem.W.Frag} {mg : Str → Option Value} (M : Mdl tb nm glb mth cl K mg) (P : Program) (w : World) (F : Nat) : ∀ (n : Nat) f d, tb.lookup f = some d →
    ∃ fa fd, FA K mg (fun i => nm.getD i Str.empty) mth f fa ∧ PySem.W.keepIn K (.ref fa) = true ∧ BindsAll fd d.ps ∧ ∀ base, FnOk P w K mg base (L2.CX P w) (2 * n) fa fd d.ps (spF ⟨P, w, K, mg, fun i => nm.getD i Str.empty⟩ tb F n f) := by
  intro n
  induction n with
  | zero =>
    intro f d hl
    obtain ⟨fa, fd, x, qual, params, body, scope, h1, h2, h3, _⟩ := M.fn f d hl
    refine ⟨fa, fd, h2, h1.kp, h3, fun base => ⟨fun vs H Q E ⟨Xv, m, ww, xs, _, _, _, h⟩ => h.elim, fun A outer s H args us vs Q E _ _ _ _ ⟨Xv, m, ww, xs, _, _, _, h⟩ => h.elim⟩⟩
  | succ n ih =>
    intro f d hl
    obtain ⟨fa, fd, x, qual, params, body, scope, h1, h2, h3, h4, h5, h6⟩ := M.fn f d hl
    refine ⟨fa, fd, h2, h1.kp, h3, fun base => h1.ok (k := 2 * n + 1) h4 ?_ ?_⟩
    · rintro vs H Q E ⟨Xv, m, ww, xs, _, _, hp, h⟩
      rw [callN_succ hl] at h
      rw [← paired_len hp]
      exact Nat.eq_of_beq_eq_true (sat_if h).1
    · rintro cdv A outer s H vs Q E hr ⟨Xv, m, ww, xs, W, hX, hp, h⟩
      let sx : Sx := ⟨d.N, scope, d.mo, nm, glb, cellsOf scope, mth, tb.map (·.1), cl⟩
      have C : Ctx tb F n sx (cxOf (L2.CX P w) P w K mg base d.N qual scope fa cdv A outer s H E) := {
        N := rfl
        sc := rfl
        nd := h4.nd
        calm := rfl
        room := hr
        fns := fun f d hl => let ⟨fa, fd, a1, a2, a3, a4⟩ := ih f d hl; ⟨fa, fd, a1, a2, a3.binds, a4 base⟩
        free := M.free
        dfs := fun f h => tb_has h
        cls := M.cls
        glb := M.glb
        gls := M.gls
        fnc := fun _ _ => rfl }
      refine ⟨_, okSs d.body sx body _ h5 C (L2.passes_of rfl), ?_⟩
      rw [callN_succ hl] at h
      obtain ⟨hlen, h⟩ := sat_if h
      have hlen := Nat.eq_of_beq_eq_true hlen
      rw [sat_bind] at h
      refine ⟨Xv, m, H, [], m, startE d.N xs, ww, ⟨⟨?_, hX, List.nodup_nil, List.nodup_nil, fun i a z => (List.not_mem_nil z).elim, ?_, ?_⟩, W, Fr.refl, fun i a z => (List.not_mem_nil z).elim⟩, sat_mono h fun fl w2 h => ?_⟩
      · unfold startE L2.start
        rw [List.length_append, List.length_append, List.length_map, List.length_map, List.length_replicate, List.length_replicate, paired_len hp]
      · intro i y e _
        obtain ⟨v, e2, r⟩ := paired_get hp (startE_get e)
        exact ⟨v, start_get e2, r⟩
      · intro i dd hm e _
        have hi := h6 i (List.contains_iff_mem.mp hm)
        have := (List.getElem?_eq_some_iff.mp (startE_get e)).1
        omega
      · cases fl with
        | nx env' =>
          intro own' m' H' σ' S' k
          obtain ⟨m2, f2, W2, r2⟩ := trim_ok W S'.fr S'.W.free (x := .d .none) (v := .non) .non
          exact h _ m2 H' f2 W2 r2
        | rt x =>
          intro v m' H' f W' r
          obtain ⟨m2, f2, W2, r2⟩ := trim_ok W f W' r
          exact h v m2 H' f2 W2 r2
        | bk env' => exact h.elim
        | ct env' => exact h.elim
end Mx

set_option Elab.async false
set_option linter.all false
set_option maxRecDepth 100000
set_option maxHeartbeats 1000000
/-! Mzg: from the facts of a head to the evaluator's module. -/
namespace Mx
open PySem PySem.Spec PyProof.Rows L2
structure Ent where
  f : Nat
  d : Df
  dd : He.DefD
def nodupB : List Str → Bool
  | [] => true
  | x :: xs => !xs.contains x && nodupB xs
theorem nodupB_ok : ∀ {l : List Str}, nodupB l = true → l.Nodup
  | [], _ => List.nodup_nil
  | x :: xs, h => by
    obtain ⟨h1, h2⟩ := band (show (!xs.contains x && nodupB xs) = true from h)
    rw [List.nodup_cons]
    refine ⟨fun z => ?_, nodupB_ok h2⟩
    rw [List.contains_iff_mem.mpr z] at h1
    cases h1
def parB (sc : Scope) (x : Str) : Bool := match sc.names.lookup x with
  | some .local => true
  | some .cell => true
  | _ => false
def fnScopeB (N P : List Str) (sc : Scope) : Bool := fnB sc && !sc.isCoroutine && !sc.isGenerator && nodupB N && decide (N.take P.length = P) && P.all (parB sc) && sc.names.all fun y => match y.2 with | .free => false | _ => true
theorem fnScopeB_ok {N P : List Str} {sc : Scope} (h : fnScopeB N P sc = true) : FnScope N P sc := by
  obtain ⟨h, h7⟩ := band h
  obtain ⟨h, h6⟩ := band h
  obtain ⟨h, h5⟩ := band h
  obtain ⟨h, h4⟩ := band h
  obtain ⟨h, h3⟩ := band h
  obtain ⟨h1, h2⟩ := band h
  refine ⟨?_, bnot h2, bnot h3, nodupB_ok h4, of_decide_eq_true h5, fun x hx => ?_, fun y hy e => ?_⟩
  · unfold fnB at h1
    split at h1
    · assumption
    · cases h1
  · have := List.all_eq_true.mp h6 x hx
    unfold parB at this
    split at this <;> first | exact .inl (by assumption) | exact .inr (by assumption) | cases this
  · have := List.all_eq_true.mp h7 y hy
    rw [e] at this
    cases this
/-- where a def must stand -/
def whereB (nm : List Str) (mth : List (Nat × Nat × Nat)) (fa : List He.Fa) (e : Ent) : Bool := match mth.lookup e.f with
  | none => decide (e.dd.at_ = (nm.getD e.f Str.empty, none)) && fa.any fun a => match a with | .glo x => decide (x = nm.getD e.f Str.empty) | _ => false
  | some (cl, mn) => decide (e.dd.at_ = (nm.getD cl Str.empty, some (nm.getD mn Str.empty))) && (fa.any fun a => match a with | .glo x => decide (x = nm.getD cl Str.empty) | _ => false) && (fa.any fun a => match a with | .cls x => decide (x = nm.getD cl Str.empty) | _ => false) &&
      fa.any fun a => match a with | .meth x m => decide (x = nm.getD cl Str.empty) && decide (m = nm.getD mn Str.empty) | _ => false
def entB (nm : List Str) (glb : List (Nat × D)) (mth : List (Nat × Nat × Nat)) (dfs : List Nat) (cl : List (Nat × List Str)) (e : Ent) : Bool :=
  fnScopeB e.d.N e.d.ps e.dd.scope && chkSs ⟨e.d.N, e.dd.scope, e.d.mo, nm, glb, cellsOf e.dd.scope, mth, dfs, cl⟩ e.d.body e.dd.body && e.d.mo.all (fun i => Nat.ble e.d.ps.length i) && e.dd.dfl.isEmpty && e.dd.kwd.isEmpty
/-- its parameters are bound in their order -/
def BindOk (e : Ent) : Prop := ∀ (kV doc pm : Value) (an : Option Addr) (cdv ct : Value) (us : List Value), us.length = e.d.ps.length → bindArgs (PySem.W.fnOf e.dd.name e.dd.qual e.dd.params e.dd.body e.dd.scope .none kV doc pm an cdv ct) ⟨us, []⟩ = pure (e.d.ps.zip us)
def AllE {α : Type} (P : α → Prop) : List α → Prop
  | [] => True
  | e :: r => P e ∧ AllE P r
theorem AllE.mem {α : Type} {P : α → Prop} : ∀ {l : List α}, AllE P l → ∀ x ∈ l, P x
  | [], _, x, h => (List.not_mem_nil h).elim
  | e :: r, h, x, hx => by
    rcases List.mem_cons.mp hx with rfl | hx
    · exact h.1
    · exact AllE.mem h.2 x hx
def glbB (nm : List Str) (fa : List He.Fa) (p : Nat × D) : Bool := match p.2 with
  | .int i => fa.any fun a => match a with | .int x j => decide (x = nm.getD p.1 Str.empty) && decide (j = i) | _ => false
  | .str z => fa.any fun a => match a with | .str x y => decide (x = nm.getD p.1 Str.empty) && decide (y = z) | _ => false
  | _ => true
def clsB (nm : List Str) (fa : List He.Fa) (p : Nat × List Str) : Bool := (fa.any fun a => match a with | .glo x => decide (x = nm.getD p.1 Str.empty) | _ => false) && (fa.any fun a => match a with | .cls x => decide (x = nm.getD p.1 Str.empty) | _ => false) &&
  (fa.any fun a => match a with | .mkr x => decide (x = nm.getD p.1 Str.empty) | _ => false) && p.2.all fun f => fa.any fun a => match a with | .noat x g => decide (x = nm.getD p.1 Str.empty) && decide (g = f) | _ => false
def freeB (fa : List He.Fa) (x : Str) : Bool := fa.any fun a => match a with | .free y => decide (y = x) | _ => false
def tbOf (es : List Ent) : Tbl := es.map fun e => (e.f, e.d)
def fnOfE (es : List Ent) : List He.DefD := es.map (·.dd)
theorem lookup_ent : ∀ {es : List Ent} {f : Nat} {d : Df}, (tbOf es).lookup f = some d → ∃ (i : Nat) (e : Ent), es[i]? = some e ∧ e.f = f ∧ e.d = d
  | [], f, d, h => by cases h
  | e :: r, f, d, h => by
    have h : ((e.f, e.d) :: tbOf r).lookup f = some d := h
    rw [List.lookup_cons] at h
    by_cases hf : f = e.f
    · rw [show (f == e.f) = true by simp [hf]] at h
      cases h
      exact ⟨0, e, rfl, hf.symm, rfl⟩
    · rw [show (f == e.f) = false by simpa using hf] at h
      obtain ⟨i, e', h1, h2, h3⟩ := lookup_ent (es := r) h
      exact ⟨i + 1, e', by simpa using h1, h2, h3⟩
theorem fact_of {fa : List He.Fa} {K : PySem.W.Frag} {fn : List He.DefD} (c : He.SaysD fa fn K) {p : He.Fa → Bool} (h : fa.any p = true) : ∃ a, p a = true ∧ a.ok K = true := by
  obtain ⟨a, ha, hp⟩ := List.any_eq_true.mp h
  obtain ⟨i, hi⟩ := List.mem_iff_getElem?.mp ha
  exact ⟨a, hp, c.fact i hi⟩
theorem lookup_mem {α : Type} {β : Type} [BEq α] [LawfulBEq α] : ∀ {l : List (α × β)} {k : α} {v : β}, l.lookup k = some v → (k, v) ∈ l
  | [], k, v, h => by cases h
  | p :: r, k, v, h => by
    obtain ⟨a, b⟩ := p
    rw [List.lookup_cons] at h
    by_cases e : k == a
    · rw [e] at h
      cases h
      rw [eq_of_beq e]
      exact List.mem_cons_self ..
    · rw [Bool.not_eq_true] at e
      rw [e] at h
      exact List.mem_cons_of_mem _ (lookup_mem h)
theorem mdl_of {es : List Ent} {nm : List Str} {glb : List (Nat × D)} {mth : List (Nat × Nat × Nat)} {cl : List (Nat × List Str)} {fa : List He.Fa} {K : PySem.W.Frag} {h : Heap} {mg : Str → Option Value} (X : K.In h) (G : h.Ns mainGlobals mg) (c : He.SaysD fa (fnOfE es) K)
    (h1 : AllE (fun e => entB nm glb mth ((tbOf es).map (·.1)) cl e = true ∧ whereB nm mth fa e = true ∧ BindOk e) es) (h2 : glb.all (glbB nm fa) = true) (h3 : cl.all (clsB nm fa) = true) (h4 : blts.all (freeB fa) = true) : Mdl (tbOf es) nm glb mth cl K mg where
  fn := fun f d hl => by
    obtain ⟨i, e, he, rfl, rfl⟩ := lookup_ent hl
    obtain ⟨b1, b2, b3⟩ := h1.mem e (List.mem_of_getElem? he)
    obtain ⟨b1, q5⟩ := band b1
    obtain ⟨b1, q4⟩ := band b1
    obtain ⟨b1, q3⟩ := band b1
    obtain ⟨q1, q2⟩ := band b1
    obtain ⟨fd, F⟩ := c.def_ i (d := e.dd) (by show (es.map _)[i]? = _; rw [List.getElem?_map, he]; rfl)
    have e1 : e.dd.dvs K = [] := by unfold He.DefD.dvs; rw [List.isEmpty_iff.mp q4]; rfl
    have e2 : e.dd.kws K = [] := by unfold He.DefD.kws; rw [List.isEmpty_iff.mp q5]; rfl
    rw [e1, e2] at F
    refine ⟨He.fAd K e.dd.at_, fd, e.dd.name, e.dd.qual, e.dd.params, e.dd.body, e.dd.scope, F, ?_, fun s us hl => F.bindsA b3 s us hl, fnScopeB_ok q1, q2, fun i hi => Nat.le_of_ble_eq_true (List.all_eq_true.mp q3 i hi)⟩
    unfold whereB at b2
    unfold FA
    cases hm : mth.lookup e.f with
    | none =>
      rw [hm] at b2
      obtain ⟨w1, w2⟩ := band b2
      rw [of_decide_eq_true w1]
      obtain ⟨a, p1, p2⟩ := fact_of c w2
      cases a <;> first | (cases p1; done) | skip
      obtain rfl := of_decide_eq_true p1
      exact He.glo_ok X G p2
    | some q =>
      obtain ⟨cc, mn⟩ := q
      rw [hm] at b2
      have b2 : (decide (e.dd.at_ = (nm.getD cc Str.empty, some (nm.getD mn Str.empty))) && (fa.any fun a => match a with | .glo x => decide (x = nm.getD cc Str.empty) | _ => false) && (fa.any fun a => match a with | .cls x => decide (x = nm.getD cc Str.empty) | _ => false) &&
        fa.any fun a => match a with | .meth x m => decide (x = nm.getD cc Str.empty) && decide (m = nm.getD mn Str.empty) | _ => false) = true := b2
      obtain ⟨b2, w4⟩ := band b2
      obtain ⟨b2, w3⟩ := band b2
      obtain ⟨w1, w2⟩ := band b2
      rw [of_decide_eq_true w1]
      obtain ⟨a, p1, p2⟩ := fact_of c w2
      obtain ⟨a', p3, p4⟩ := fact_of c w3
      obtain ⟨a'', p5, p6⟩ := fact_of c w4
      cases a <;> first | (cases p1; done) | skip
      cases a' <;> first | (cases p3; done) | skip
      cases a'' <;> first | (cases p5; done) | skip
      obtain rfl := of_decide_eq_true p1
      obtain rfl := of_decide_eq_true p3
      obtain ⟨p5, p7⟩ := band p5
      obtain rfl := of_decide_eq_true p5
      obtain rfl := of_decide_eq_true p7
      exact ⟨_, He.glo_ok X G p2, He.cls_ok p4, He.meth_ok p6⟩
  free := fun x hx => by
    obtain ⟨a, p1, p2⟩ := fact_of c (List.all_eq_true.mp h4 x hx)
    cases a <;> first | (cases p1; done) | skip
    obtain rfl := of_decide_eq_true p1
    exact He.free_ok X G p2
  cls := fun cc fs hl => by
    have z := List.all_eq_true.mp h3 (cc, fs) (lookup_mem hl)
    obtain ⟨z, w4⟩ := band z
    obtain ⟨z, w3⟩ := band z
    obtain ⟨w1, w2⟩ := band z
    obtain ⟨a, p1, p2⟩ := fact_of c w1
    obtain ⟨a', p3, p4⟩ := fact_of c w2
    obtain ⟨a'', p5, p6⟩ := fact_of c w3
    cases a <;> first | (cases p1; done) | skip
    cases a' <;> first | (cases p3; done) | skip
    cases a'' <;> first | (cases p5; done) | skip
    rename_i x1 x2 x3
    have e1 : x1 = nm.getD cc Str.empty := of_decide_eq_true p1
    have e2 : x2 = nm.getD cc Str.empty := of_decide_eq_true p3
    have e3 : x3 = nm.getD cc Str.empty := of_decide_eq_true p5
    subst e1
    rw [e2] at p4
    rw [e3] at p6
    obtain ⟨m1, m2⟩ := He.ba p6
    obtain ⟨m2, m3⟩ := He.ba m2
    obtain ⟨m3, m4⟩ := He.ba m3
    refine ⟨_, He.glo_ok X G p2, He.cls_ok p4, m1, m4, fun f hf => ?_⟩
    obtain ⟨b, p7, p8⟩ := fact_of c (List.all_eq_true.mp w4 f hf)
    cases b <;> first | (cases p7; done) | skip
    rename_i y1 y2
    obtain ⟨p7, p9⟩ := band p7
    have e4 : y1 = nm.getD cc Str.empty := of_decide_eq_true p7
    have e5 : y2 = f := of_decide_eq_true p9
    rw [e4, e5] at p8
    exact He.noat_ok p8
  glb := fun f i hl => by
    have z := List.all_eq_true.mp h2 (f, .int i) (lookup_mem hl)
    obtain ⟨a, p1, p2⟩ := fact_of c z
    cases a <;> first | (cases p1; done) | skip
    obtain ⟨p1, p3⟩ := band p1
    obtain rfl := of_decide_eq_true p1
    obtain rfl := of_decide_eq_true p3
    exact He.int_ok X G p2
  gls := fun f i hl => by
    have z := List.all_eq_true.mp h2 (f, .str i) (lookup_mem hl)
    obtain ⟨a, p1, p2⟩ := fact_of c z
    cases a <;> first | (cases p1; done) | skip
    obtain ⟨p1, p3⟩ := band p1
    obtain rfl := of_decide_eq_true p1
    obtain rfl := of_decide_eq_true p3
    exact He.str_ok X G p2
/-- the law's promise at the head -/
theorem law_of {es : List Ent} {nm : List Str} {glb : List (Nat × D)} {mth : List (Nat × Nat × Nat)} {cl : List (Nat × List Str)} {K : PySem.W.Frag} {mg : Str → Option Value} (M : Mdl (tbOf es) nm glb mth cl K mg) (P : Program) (w : World) (F n law : Nat) {d : Df} (hd : (tbOf es).lookup law = some d) {x : Str} (hp : d.ps = [x]) (hm : mth.lookup law = none)
    (hlaw : ∀ ns : List Int, ns.length ≤ 63 → (callN (tbOf es) F n law [.d (.list (ns.map PyData.int))] []).sat fun x _ => x = .d (.bool true)) :
    ∃ (fa : Addr) (fd : FuncData) (sp : Sp), mg (nm.getD law Str.empty) = some (.ref fa) ∧ BindsAll fd [x] ∧ (∀ (H : Hp) (a : Addr) (ns : List Int), ns.length ≤ 63 → L2.Only H → SqL K H a (ns.map V.int) → sp [.ref a] H (fun v _ => v = .bl true) fun _ _ _ => False) ∧ ∀ base : Heap, FnOk P w K mg base (L2.CX P w) (2 * n) fa fd [x] sp := by
  obtain ⟨fa, fd, h1, h2, h3, h4⟩ := fn_all M P w F n law d hd
  rw [hp] at h3 h4
  refine ⟨fa, fd, _, ?_, h3, fun H a ns hl hO hS => ?_, h4⟩
  · unfold FA at h1
    rw [hm] at h1
    exact h1
  · have hf : FrzL K H a (ns.map V.int) := by
      rcases hS with (h | ⟨o, h⟩) | h
      · rcases hO a with z | ⟨o, xs, z⟩
        · rw [z] at h; cases h
        · rw [z] at h; cases h
      · exact .inl ⟨o, h⟩
      · exact .inr h
    have hr : ∀ (c : Cn) (A : Addr → Prop) (ns : List Int), Reps c H A (ns.map V.int) (ns.map PyData.int) := fun c A ns => by
      induction ns with
      | nil => exact .nil
      | cons i r ih => exact .cons (.int i) ih
    refine ⟨fun _ => False, [], [], [.d (.list (ns.map PyData.int))], ⟨rfl, List.nodup_nil, fun i a o e => by simp at e, fun b hb => (List.not_mem_nil hb).elim⟩, fun b hb => hb.elim, .cons (Rep.flst hf (hr _ _ ns)) .nil, ?_⟩
    refine sat_mono (hlaw ns hl) fun x w' e v m' H' f W r => ?_
    subst e
    have r : Rep _ H' _ v (.bool true) := r
    cases r
    rfl
/-- the law's call, for defs that may raise -/
theorem walk_W {l : PySem.W.OpenLaw} {n k : Nat} {q : Program} {loose : List Str} {XP : (Str → Option Value) → Heap → Prop} {YP : World → Heap → Prop} {d : DefRec} {x : Str} (hn : l.most = some n) (hn2 : n ≤ sizeLine) (hdf : d.params.defaults = []) (hr : Room k callerA)
    (F : ∀ (w : World) (mg : Str → Option Value) (fa : Addr) (h : Heap), YP w h → h.Ns mainGlobals mg → mg d.name = some (.ref fa) → ∃ (K : PySem.W.Frag) (fd : FuncData) (sp : Sp), K.In h ∧ (∀ (s : Shared) (u : Value), BindsTo s fd ⟨[u], []⟩ [(x, u)]) ∧
      (∀ (H : Hp) (a : Addr) (ns : List Int), ns.length ≤ n → L2.Only H → SqL K H a (ns.map V.int) → sp [.ref a] H (fun v _ => v = .bl true) fun _ _ _ => False) ∧ ∀ base : Heap, FnOk l.prog w K mg base (L2.CX l.prog w) k fa fd [x] sp) :
    PySem.W.WalkO q loose XP YP l.row.toRowW d [] (fun f vs => PySem.call f vs) := by
  refine Att.attach_call hn hdf fun w s0 s1 mg mb fa o pm cd doc a vs ns G Y ho hd hcd hmg hobj hints hlen hg => ?_
  obtain ⟨K, fd, sp, KX, hb, hsp, hF⟩ := F w mg fa _ Y G.T.g hmg
  refine law_call KX G.T.g G.T.b G.T.builtins G.T.nolimit hg hobj hints (Nat.le_trans hlen hn2) hr (fun base _ _ => hF base) hb (fun H hO hS => hsp H a ns hlen hO hS) fun H e s' z => ?_
  obtain ⟨_, _, _, _, _, _, _, _, _, _, _, _, z⟩ := z
  exact z
end Mx

set_option Elab.async false
set_option linter.all false
set_option maxRecDepth 100000
set_option maxHeartbeats 1000000
/-! Mp1: running a def's text symbolically; data with types. -/
namespace Mx
open PySem PySem.W
@[simp] theorem bok {α β : Type} (a : α) (w : Wd) (f : α → Wd → Res β) : (Res.ok a w).bind f = f a w := rfl
@[simp] theorem dok (x : D) (w : Wd) : (Res.ok (Vl.d x) w).dat = .ok x w := rfl
@[simp] theorem tok (b : Bool) (w : Wd) : (Res.ok (Vl.d (.bool b)) w).tru = .ok b w := rfl
@[simp] theorem nok (i : Int) (w : Wd) : (Res.ok (Vl.d (.int i)) w).num = .ok i w := rfl
@[simp] theorem sok {α : Type} (a : α) (w : Wd) : ofO (some a) w = .ok a w := rfl
/-- what a def hands back -/
def outF (fl : Fl) (w : Wd) : Res Vl := match fl with
  | .rt v => .ok v w
  | .nx _ => .ok (.d .none) w
  | _ => .stuck
@[simp] theorem outF_rt (v : Vl) (w : Wd) : outF (.rt v) w = .ok v w := rfl
@[simp] theorem outF_nx (e : Env) (w : Wd) : outF (.nx e) w = .ok (.d .none) w := rfl
@[simp] theorem trim_same (v : Vl) (w : Wd) : trim w.length v w = w := trim_self v w
/-- and with what it made forgotten -/
def outT (n : Nat) (fl : Fl) (w : Wd) : Res Vl := match fl with
  | .rt v => .ok v (trim n v w)
  | .nx _ => .ok (.d .none) (trim n (.d .none) w)
  | _ => .stuck
@[simp] theorem outT_rt (n : Nat) (v : Vl) (w : Wd) : outT n (.rt v) w = .ok v (trim n v w) := rfl
@[simp] theorem outT_nx (n : Nat) (e : Env) (w : Wd) : outT n (.nx e) w = .ok (.d .none) (trim n (.d .none) w) := rfl
theorem outT_self (fl : Fl) (w : Wd) : outT w.length fl w = outF fl w := by
  cases fl with
  | rt v => rw [outT_rt, trim_self]; rfl
  | nx e => rw [outT_nx, trim_self]; rfl
  | bk e => rfl
  | ct e => rfl
/-- a def's run -/
theorem callS {tb : Tbl} {F n f : Nat} {d : Df} (h : tb.lookup f = some d) {vs : List Vl} (hl : vs.length = d.ps.length) (w : Wd) : callN tb F (n + 1) f vs w = (exs ⟨callN tb F n, F⟩ d.body (startE d.N vs) w).bind (outT w.length) := by
  rw [callN, h]
  simp only [hl, Nat.beq_refl, if_true]
  congr 1
/-! ### data with types -/
class Lay (α : Type) [DecidableEq α] [DatumOrd α] : Prop where
  lay : ∀ a : α, (Datum.toD a).canLay0 = true
abbrev T {α : Type} [DecidableEq α] [DatumOrd α] (a : α) : D := Datum.toD a
instance : Lay Int := ⟨fun _ => rfl⟩
instance : Lay Bool := ⟨fun _ => rfl⟩
section
variable {α β : Type} [DecidableEq α] [DatumOrd α] [Lay α] [DecidableEq β] [DatumOrd β] [Lay β]
theorem layAll : ∀ xs : List α, PyData.canLayAll0 (xs.map T) = true
  | [] => rfl
  | x :: xs => by
    show (PyData.canLay0 (T x) && PyData.canLayAll0 (xs.map T)) = true
    rw [Lay.lay x, layAll xs]; rfl
instance : Lay (Tup α) := ⟨fun t => layAll t.items⟩
instance : Lay (List α) := ⟨fun t => layAll t⟩
instance : Lay (α × β) := ⟨fun p => by
  show (PyData.canLay0 (T p.1) && (PyData.canLay0 (T p.2) && true)) = true
  rw [Lay.lay p.1, Lay.lay p.2]; rfl⟩
theorem shpT (a : α) (h : Datum.depth α ≤ 64 := by decide) : shp (T a) = true := by
  unfold shp SeqAt.shaped
  rw [Lay.lay a]
  simp only [Bool.true_and, decide_eq_true_eq]
  exact Nat.le_trans (Datum.depth_le a) h
theorem lowT (a : α) (h : Datum.depth α ≤ 64 := by decide) : low (T a) = true := Nat.ble_eq_true_of_le (Nat.le_trans (Datum.depth_le a) h)
theorem eqT (a b : α) (h : Datum.depth α ≤ 64 := by decide) : cmpD .eq (T a) (T b) = some (decide (a = b)) := by
  show eqD (T a) (T b) = _
  unfold eqD
  rw [shpT a h, Lay.lay b, Datum.eqv]
  rfl
theorem neT (a b : α) (h : Datum.depth α ≤ 64 := by decide) : cmpD .ne (T a) (T b) = some (!decide (a = b)) := by
  show (eqD (T a) (T b)).map _ = _
  rw [show eqD (T a) (T b) = some (decide (a = b)) from eqT a b h]
  rfl
theorem ltT (a b : α) (h : Datum.depth α ≤ 64 := by decide) : ltD (T a) (T b) = some (DatumOrd.lt a b) := by
  unfold ltD
  rw [DatumOrd.alike a b, lowT a h, DatumOrd.lt_eq]
  rfl
theorem inT (a : α) (xs : List α) (h : Datum.depth α ≤ 64 := by decide) : inL (T a) (xs.map T) = some (decide (a ∈ xs)) := by
  unfold inL
  rw [shpT a h, layAll xs]
  simp only [Bool.and_self, if_true, Option.some.injEq]
  induction xs with
  | nil => rfl
  | cons x xs ih =>
    rw [List.map_cons, List.any_cons, ih, Datum.eqv, ← Bool.decide_or]
    exact decide_eq_decide.mpr (by rw [List.mem_cons]; exact ⟨fun h => h.imp Eq.symm id, fun h => h.imp Eq.symm id⟩)
end
/-! ### comprehensions and loops over typed data -/
theorem lcL_map {α : Type} {step : D → Wd → Res (Option D)} {f : α → D} {g : α → Option D} {w : Wd} : ∀ {xs : List α}, (∀ x ∈ xs, step (f x) w = .ok (g x) w) → lcL step (xs.map f) w = .ok (xs.filterMap g) w
  | [], _ => rfl
  | x :: xs, h => by
    rw [List.map_cons, lcL, h x (List.mem_cons_self ..), bok, lcL_map fun y hy => h y (List.mem_cons_of_mem _ hy), bok, List.filterMap_cons]
    cases g x <;> rfl
theorem lcL_all {α : Type} {step : D → Wd → Res (Option D)} {f g : α → D} {w : Wd} {xs : List α} (h : ∀ x ∈ xs, step (f x) w = .ok (some (g x)) w) : lcL step (xs.map f) w = .ok (xs.map g) w := by
  rw [lcL_map (g := fun x => some (g x)) h]
  simp
theorem lcL_if {α : Type} {step : D → Wd → Res (Option D)} {f g : α → D} {p : α → Bool} {w : Wd} {xs : List α} (h : ∀ x ∈ xs, step (f x) w = .ok (if p x then some (g x) else none) w) : lcL step (xs.map f) w = .ok ((xs.filter p).map g) w := by
  rw [lcL_map h]
  congr 1
  clear h
  induction xs with
  | nil => rfl
  | cons x xs ih =>
    rw [List.filterMap_cons, List.filter_cons]
    cases hp : p x <;> simp [ih]
theorem allB_map {α : Type} (p : α → Bool) : ∀ xs : List α, allB (xs.map fun x => .bool (p x)) = some (xs.map p)
  | [] => rfl
  | x :: xs => by
    show (allB (xs.map fun x => .bool (p x))).map _ = _
    rw [allB_map p xs]; rfl
/-- a loop whose state is s -/
theorem forL_fold {α σ : Type} {step : D → Env → Wd → Res Fl} {f : α → D} {E : σ → Env} {g : σ → α → σ} {w : Wd} : ∀ {xs : List α} {s : σ}, (∀ s x, x ∈ xs → step (f x) (E s) w = .ok (.nx (E (g s x))) w) → forL step (xs.map f) (E s) w = .ok (.nx (E (xs.foldl g s))) w
  | [], s, _ => rfl
  | x :: xs, s, h => by
    rw [List.map_cons, forL, h s x (List.mem_cons_self ..), bok, List.foldl_cons]
    exact forL_fold fun s y hy => h s y (List.mem_cons_of_mem _ hy)
/-! ### sorting -/
def sortT {α : Type} (lt : α → α → Bool) : List α → List α := isort fun a b => !lt b a
theorem ins_map {α β : Type} {f : α → β} {le : β → β → Bool} {le' : α → α → Bool} (h : ∀ a b, le (f a) (f b) = le' a b) (x : α) : ∀ xs : List α, ins le (f x) (xs.map f) = (ins le' x xs).map f
  | [] => rfl
  | y :: ys => by
    simp only [List.map_cons, ins, h]
    cases le' x y
    · simp only [Bool.false_eq_true, if_false, List.map_cons, ins_map h x ys]
    · simp only [if_true, List.map_cons]
theorem isort_map {α β : Type} {f : α → β} {le : β → β → Bool} {le' : α → α → Bool} (h : ∀ a b, le (f a) (f b) = le' a b) : ∀ xs : List α, isort le (xs.map f) = (isort le' xs).map f
  | [] => rfl
  | x :: xs => by
    simp only [List.map_cons, isort, isort_map h xs, ins_map h]
/-! ### nodes over typed data -/
theorem fits_of {n : Nat} (h : n ≤ most) : fits n = true := Nat.ble_eq_true_of_le h
section
variable {c : Cfg} {env : Env} {w w' : Wd}
/-- [elt for tg in it] -/
theorem ev_lcM {α : Type} {own : List Nat} {tg : Tg} {it : It} {elt : E} {f g : α → D} {xs : List α} (e' : α → Env) (hi : evI c it env w = .ok (xs.map f) w') (hf : xs.length ≤ most) (hb : ∀ x ∈ xs, bindTg (wipeE env own) tg (f x) = some (e' x))
    (hs : ∀ x ∈ xs, ev c elt (e' x) w' = .ok (.d (g x)) w') : ev c (.lc own tg it .none elt) env w = .ok (.d (.list (xs.map g))) w' := by
  simp only [ev, hi, bok]
  rw [lcL_all (g := g) fun x hx => ?_]
  · simp only [bok, List.length_map, fits_of hf, if_true]
  · simp only [hb x hx, sok, bok, evT, if_true, hs x hx, dok]
/-- [elt for tg in it if t] -/
theorem ev_lcF {α : Type} {own : List Nat} {tg : Tg} {it : It} {elt t : E} {f g : α → D} {p : α → Bool} {xs : List α} (e' : α → Env) (hi : evI c it env w = .ok (xs.map f) w') (hf : xs.length ≤ most) (hb : ∀ x ∈ xs, bindTg (wipeE env own) tg (f x) = some (e' x))
    (ht : ∀ x ∈ xs, ev c t (e' x) w' = .ok (.d (.bool (p x))) w') (hs : ∀ x ∈ xs, p x = true → ev c elt (e' x) w' = .ok (.d (g x)) w') : ev c (.lc own tg it (.some t) elt) env w = .ok (.d (.list ((xs.filter p).map g))) w' := by
  simp only [ev, hi, bok]
  rw [lcL_if (g := g) (p := p) fun x hx => ?_]
  · have : ((xs.filter p).map g).length ≤ most := by rw [List.length_map]; exact Nat.le_trans (List.length_filter_le _ _) hf
    simp only [bok, fits_of this, if_true]
  · simp only [hb x hx, sok, bok, evT, ht x hx, tok]
    cases hp : p x with
    | false => simp
    | true => simp only [if_true, hs x hx hp, dok, bok]
theorem ev_all {α : Type} {e : E} {p : α → Bool} {xs : List α} (h : ev c e env w = .ok (.d (.list (xs.map fun x => .bool (p x)))) w') : ev c (.bit .all (.seq e)) env w = .ok (.d (.bool (xs.all p))) w' := by
  simp only [ev, h, dok, bok]
  show (ofO ((allB (xs.map fun x => .bool (p x))).map fun bs => PyData.bool (bs.all id)) w').bind _ = _
  rw [allB_map]
  simp [List.all_map]
theorem ev_any {α : Type} {e : E} {p : α → Bool} {xs : List α} (h : ev c e env w = .ok (.d (.list (xs.map fun x => .bool (p x)))) w') : ev c (.bit .any (.seq e)) env w = .ok (.d (.bool (xs.any p))) w' := by
  simp only [ev, h, dok, bok]
  show (ofO ((allB (xs.map fun x => .bool (p x))).map fun bs => PyData.bool (bs.any id)) w').bind _ = _
  rw [allB_map]
  simp [List.any_map]
theorem evI_tup {e : E} {xs : List D} (h : ev c e env w = .ok (.d (.tuple xs)) w') : evI c (.seq e) env w = .ok xs w' := by simp only [evI, h, dok, bok]
theorem evI_lst {e : E} {xs : List D} (h : ev c e env w = .ok (.d (.list xs)) w') : evI c (.seq e) env w = .ok xs w' := by simp only [evI, h, dok, bok]
end
/-! ### running by parts -/
theorem callR {tb : Tbl} {F n f : Nat} {d : Df} {vs : List Vl} {env : Env} {w : Wd} {fl : Fl} (h : tb.lookup f = some d) (hl : vs.length = d.ps.length) (he : startE d.N vs = env) (hx : exs ⟨callN tb F n, F⟩ d.body env w = .ok fl w) : callN tb F (n + 1) f vs w = outF fl w := by
  rw [callS h hl, he, hx, bok, outT_self]
section
variable {c : Cfg} {env env' : Env} {w w' w'' : Wd} {v : Vl}
theorem x_nil : exs c .nil env w = .ok (.nx env) w := rfl
theorem x_ret {e : E} {r : Ss} (h : ev c e env w = .ok v w') : exs c (.cons (.ret e) r) env w = .ok (.rt v) w' := by simp only [exs, ex, h, bok]
theorem x_asg {i : Nat} {e : E} {r : Ss} {R : Res Fl} (h : ev c e env w = .ok v w') (hr : exs c r (env.set i (some v)) w' = R) : exs c (.cons (.asg i e) r) env w = R := by simp only [exs, ex, h, bok]; exact hr
theorem x_expr {e : E} {r : Ss} {R : Res Fl} (h : ev c e env w = .ok v w') (hr : exs c r env w' = R) : exs c (.cons (.expr e) r) env w = R := by simp only [exs, ex, h, bok]; exact hr
theorem x_if {t : E} {a b r : Ss} {p : Bool} {R : Res Fl} (h : ev c t env w = .ok (.d (.bool p)) w') (h1 : p = true → ((exs c a env w').bind fun fl w => match fl with | .nx env' => exs c r env' w | fl => .ok fl w) = R) (h2 : p = false → ((exs c b env w').bind fun fl w => match fl with | .nx env' => exs c r env' w | fl => .ok fl w) = R) : exs c (.cons (.ite t a b) r) env w = R := by
  simp only [exs, ex, h, tok, bok]
  cases p with
  | true => exact h1 rfl
  | false => exact h2 rfl
theorem x_for {tg : Tg} {it : It} {b r : Ss} {xs : List D} {R : Res Fl} (h : evI c it env w = .ok xs w') (hb : ((forL (fun x env w => (ofO (bindTg env tg x) w).bind fun env' w => exs c b env' w) xs env w').bind fun fl w => match fl with | .nx env' => exs c r env' w | fl => .ok fl w) = R) : exs c (.cons (.for_ tg it b) r) env w = R := by
  simp only [exs, ex, h, bok]
  exact hb
theorem e_not {e : E} {p : Bool} (h : ev c e env w = .ok (.d (.bool p)) w') : ev c (.not e) env w = .ok (.d (.bool (!p))) w' := by simp only [ev, h, tok, bok]
theorem e_and2 {a b : E} {p q : Bool} (ha : ev c a env w = .ok (.d (.bool p)) w) (hb : p = true → ev c b env w = .ok (.d (.bool q)) w) : ev c (.and (.cons a (.cons b .nil))) env w = .ok (.d (.bool (p && q))) w := by
  simp only [ev, evAnd, ha, tok, bok]
  cases p with
  | true => simp [hb rfl]
  | false => rfl
theorem e_or2 {a b : E} {p q : Bool} (ha : ev c a env w = .ok (.d (.bool p)) w) (hb : p = false → ev c b env w = .ok (.d (.bool q)) w) : ev c (.or (.cons a (.cons b .nil))) env w = .ok (.d (.bool (p || q))) w := by
  simp only [ev, evOr, ha, tok, bok]
  cases p with
  | false => simp [hb rfl]
  | true => rfl
theorem e_or3 {a b d : E} {p q r : Bool} (ha : ev c a env w = .ok (.d (.bool p)) w) (hb : p = false → ev c b env w = .ok (.d (.bool q)) w) (hd : p = false → q = false → ev c d env w = .ok (.d (.bool r)) w) : ev c (.or (.cons a (.cons b (.cons d .nil)))) env w = .ok (.d (.bool (p || (q || r)))) w := by
  simp only [ev, evOr, ha, tok, bok]
  cases p with
  | true => rfl
  | false =>
    simp only [Bool.false_eq_true, if_false, hb rfl, tok, bok]
    cases q with
    | true => rfl
    | false => simp [hd rfl rfl]
theorem e_cmp {op : Cop} {a b : E} {x y : D} {p : Bool} (ho : op ≠ .is ∧ op ≠ .isnt) (ha : ev c a env w = .ok (.d x) w') (hb : ev c b env w' = .ok (.d y) w'') (h : cmpD op x y = some p) : ev c (.cmp op a b) env w = .ok (.d (.bool p)) w'' := by
  cases op <;> first | exact absurd rfl ho.1 | exact absurd rfl ho.2 | simp [ev, ha, hb, cmpG, h]
theorem e_call1 {f : Nat} {a : E} {R : Res Vl} (ha : ev c a env w = .ok v w') (h : c.call f [v] w' = R) : ev c (.call f (.cons a .nil)) env w = R := by simp only [ev, evA, ha, bok]; exact h
theorem e_call2 {f : Nat} {a b : E} {v2 : Vl} {R : Res Vl} (ha : ev c a env w = .ok v w') (hb : ev c b env w' = .ok v2 w'') (h : c.call f [v, v2] w'' = R) : ev c (.call f (.cons a (.cons b .nil))) env w = R := by simp only [ev, evA, ha, hb, bok]; exact h
end
/-- a loop whose state is s, with an invariant -/
theorem forL_inv {α σ : Type} {step : D → Env → Wd → Res Fl} {f : α → D} {E : σ → Env} {g : σ → α → σ} {w : Wd} {P : σ → List α → Prop} : ∀ {xs : List α} {s : σ}, P s xs → (∀ s x r, P s (x :: r) → step (f x) (E s) w = .ok (.nx (E (g s x))) w ∧ P (g s x) r) → forL step (xs.map f) (E s) w = .ok (.nx (E (xs.foldl g s))) w ∧ P (xs.foldl g s) []
  | [], s, h, _ => ⟨rfl, h⟩
  | x :: xs, s, h, hs => by
    obtain ⟨h1, h2⟩ := hs s x xs h
    rw [List.map_cons, forL, h1, bok, List.foldl_cons]
    exact forL_inv h2 hs
/-! ### dicts with keys of a type, all True -/
theorem keyIn_T (d : D) : True := trivial
class Key (α : Type) [DecidableEq α] [DatumOrd α] : Prop where
  key : ∀ a : α, isTupKey (T a) = true
theorem keyIns_int : ∀ l : List Int, keyIns (l.map T) = true
  | [] => rfl
  | x :: l => by show (true && keyIns (l.map T)) = true; rw [keyIns_int l]; rfl
instance : Key (Tup Int) := ⟨fun t => by
  show (keyIns (t.items.map T) && Nat.ble (PyData.depth (T t)) 8) = true
  rw [keyIns_int, Bool.true_and]
  exact Nat.ble_eq_true_of_le (Nat.le_trans (Datum.depth_le t) (by decide))⟩
section
variable {α : Type} [DecidableEq α] [DatumOrd α] {β : Type}
def addK (ks : List α) (k : α) : List α := if k ∈ ks then ks else ks ++ [k]
theorem dHas_T (f : α → D) (k : α) : ∀ ks : List α, dHas (ks.map fun k => (T k, f k)) (T k) = decide (k ∈ ks)
  | [] => rfl
  | x :: ks => by
    show (PyData.eqv (T x) (T k) || dHas (ks.map fun k => (T k, f k)) (T k)) = _
    rw [dHas_T f k ks, Datum.eqv, ← Bool.decide_or]
    exact decide_eq_decide.mpr (by rw [List.mem_cons]; exact ⟨fun h => h.imp Eq.symm id, fun h => h.imp Eq.symm id⟩)
theorem dPut_T (v : D) (k : α) (ks : List α) : dPut (ks.map fun k => (T k, v)) (T k) v = (addK ks k).map fun k => (T k, v) := by
  unfold dPut addK
  rw [dHas_T (fun _ => v)]
  by_cases h : k ∈ ks
  · simp only [h, decide_true, if_true, List.map_map]
    apply List.map_congr_left
    intro x _
    show (if PyData.eqv (T x) (T k) = true then (T x, v) else (T x, v)) = (T x, v)
    split <;> rfl
  · simp [h]
end
/-! ### sorted(.., key=) -/
theorem keyL_T {α : Type} {call : D → Wd → Res Vl} {f g : α → D} {w : Wd} : ∀ {xs : List α}, (∀ x ∈ xs, call (f x) w = .ok (.d (g x)) w) → keyL call (xs.map f) w = .ok (xs.map fun x => (g x, f x)) w
  | [], _ => rfl
  | x :: xs, h => by
    rw [List.map_cons, keyL, h x (List.mem_cons_self ..), bok]
    show (keyL call (xs.map f) w).bind _ = _
    rw [keyL_T fun y hy => h y (List.mem_cons_of_mem _ hy), bok]
    rfl
def sortOn {α β : Type} [DecidableEq β] [DatumOrd β] (key : α → β) : List α → List α := isort fun a b => !DatumOrd.lt (key b) (key a)
theorem sortBy_T {α β : Type} [DecidableEq β] [DatumOrd β] (f : α → D) (key : α → β) (xs : List α) : sortBy (xs.map fun x => (T (key x), f x)) = (sortOn key xs).map f := by
  unfold sortBy sortOn
  rw [isort_map (le' := fun a b => !DatumOrd.lt (key b) (key a)) fun a b => by show (!dataLt (T (key b)) (T (key a))) = _; rw [DatumOrd.lt_eq]]
  rw [List.map_map]
  rfl
theorem alike_T {β : Type} [DecidableEq β] [DatumOrd β] (xs : List β) : allAlike (xs.map T) = true := by
  unfold allAlike
  rw [List.all_eq_true]
  intro x hx
  rw [List.all_eq_true]
  intro y hy
  obtain ⟨a, _, rfl⟩ := List.mem_map.mp hx
  obtain ⟨b, _, rfl⟩ := List.mem_map.mp hy
  exact DatumOrd.alike a b
theorem sortable_T {β : Type} [DecidableEq β] [DatumOrd β] [Lay β] (xs : List β) (h : ∀ x : β, isTup1 (T x) = true) (hd : Datum.depth β ≤ 64 := by decide) : sortable (xs.map T) = true := by
  unfold sortable
  rw [alike_T, Bool.true_and, Bool.and_eq_true]
  constructor
  · rw [List.all_eq_true]
    intro x hx
    obtain ⟨a, _, rfl⟩ := List.mem_map.mp hx
    exact lowT a hd
  · have : (xs.map T).all isTup1 = true := by
      rw [List.all_eq_true]
      intro x hx
      obtain ⟨a, _, rfl⟩ := List.mem_map.mp hx
      exact h a
    rw [this]; rfl
section
variable {c : Cfg} {env env' : Env} {w w' w'' : Wd} {v : Vl}
theorem x_forN {tg : Tg} {it : It} {b r : Ss} {xs : List D} {R : Res Fl} (h : evI c it env w = .ok xs w') (hb : forL (fun x env w => (ofO (bindTg env tg x) w).bind fun env' w => exs c b env' w) xs env w' = .ok (.nx env') w'') (hr : exs c r env' w'' = R) : exs c (.cons (.for_ tg it b) r) env w = R := by
  simp only [exs, ex, h, bok, hb]
  exact hr
theorem e_bin {op : Bop} {a b : E} {x y z : D} (ha : ev c a env w = .ok (.d x) w') (hb : ev c b env w' = .ok (.d y) w'') (h : binD op x y = some z) : ev c (.bin op a b) env w = .ok (.d z) w'' := by simp only [ev, ha, hb, dok, bok, h, sok]
theorem e_tuple {e : E} {xs : List D} (h : ev c e env w = .ok (.d (.list xs)) w') : ev c (.bit .tuple (.seq e)) env w = .ok (.d (.tuple xs)) w' := by
  simp only [ev, h, dok, bok]
  rfl
end
end Mx

set_option Elab.async false
set_option linter.all false
set_option maxRecDepth 100000
set_option maxHeartbeats 1000000
/-! Mq1: running a def's text over typed data by simp. -/
namespace Mx
open PySem PySem.W
class Low (α : Type) [DecidableEq α] [DatumOrd α] : Prop where
  low : Datum.depth α ≤ 64
instance : Low Int := ⟨by decide⟩
instance : Low Bool := ⟨by decide⟩
instance : Low (List Int) := ⟨by decide⟩
instance : Low (Tup Int) := ⟨by decide⟩
instance : Low (Tup (Tup Int)) := ⟨by decide⟩
instance : Low (List (Tup Int)) := ⟨by decide⟩
instance : Low (Int × Int) := ⟨by decide⟩
instance : Low (Tup (Tup (Tup Int))) := ⟨by decide⟩
instance : Low (Tup Int × Tup Int) := ⟨by decide⟩
instance : Low (Tup (Tup Int × Tup Int)) := ⟨by decide⟩
instance : Low (List (Tup Int × Tup Int)) := ⟨by decide⟩
instance : Low (Int × Tup Int) := ⟨by decide⟩
instance : Low ((Int × Tup Int) × (Int × Tup Int)) := ⟨by decide⟩
/-- whether an item is in a list, by the type's own equality -/
def isIn {α : Type} [DecidableEq α] (a : α) (xs : List α) : Bool := decide (a ∈ xs)
/-- the rest of a block, once a statement is done -/
def contF (c : Cfg) (r : Ss) (fl : Fl) (w : Wd) : Res Fl := match fl with
  | .nx env' => exs c r env' w
  | fl => .ok fl w
theorem contF_nx (c : Cfg) (r : Ss) (env : Env) (w : Wd) : contF c r (.nx env) w = exs c r env w := rfl
theorem contF_rt (c : Cfg) (r : Ss) (v : Vl) (w : Wd) : contF c r (.rt v) w = .ok (.rt v) w := rfl
theorem exs_nil (c : Cfg) (env : Env) (w : Wd) : exs c .nil env w = .ok (.nx env) w := rfl
theorem exs_c (c : Cfg) (s : S) (r : Ss) (env : Env) (w : Wd) : exs c (.cons s r) env w = (ex c s env w).bind (contF c r) := by
  rw [exs]
  congr 1
theorem b_if {α β : Type} (p : Bool) (a b : Res α) (f : α → Wd → Res β) : (if p = true then a else b).bind f = if p = true then a.bind f else b.bind f := by cases p <;> rfl
theorem d_if (p : Bool) (a b : Res Vl) : (if p = true then a else b).dat = if p = true then a.dat else b.dat := by cases p <;> rfl
theorem u_if (p : Bool) (a b : Res Vl) : (if p = true then a else b).tru = if p = true then a.tru else b.tru := by cases p <;> rfl
theorem o_if (p q : Bool) (w : Wd) : (if p = true then Res.ok true w else Res.ok q w) = .ok (p || q) w := by cases p <;> rfl
theorem a_if (p q : Bool) (w : Wd) : (if p = true then Res.ok q w else Res.ok false w) = .ok (p && q) w := by cases p <;> rfl
def rng (lo : Int) : Nat → List Int
  | 0 => []
  | n + 1 => lo :: rng (lo + 1) n
theorem rng_len : ∀ (n : Nat) (lo : Int), (rng lo n).length = n
  | 0, _ => rfl
  | n + 1, lo => by rw [rng, List.length_cons, rng_len n]
theorem rng_mem : ∀ {n : Nat} {lo i : Int}, i ∈ rng lo n → lo ≤ i ∧ i < lo + n
  | 0, _, _, h => by cases h
  | n + 1, lo, i, h => by
    rw [rng] at h
    cases h with
    | head => omega
    | tail _ h => have := rng_mem h; omega
theorem rangeD_T : ∀ (n : Nat) (lo : Int), rangeD lo n = (rng lo n).map T
  | 0, _ => rfl
  | n + 1, lo => by rw [rangeD, rng, List.map_cons, rangeD_T n]; rfl
theorem cut_map {α β : Type} (f : α → β) (xs : List α) (lo hi : Option Int) : cut (xs.map f) lo hi = (cut xs lo hi).map f := by
  unfold cut
  rw [List.length_map, List.map_take, List.map_drop]
theorem fit_le {n : Nat} (h : n ≤ most) : fits n = true := Nat.ble_eq_true_of_le h
theorem fits_filter {γ : Type} {p : γ → Bool} {xs : List γ} (h : fits xs.length = true) : fits (xs.filter p).length = true :=
  Nat.ble_eq_true_of_le (Nat.le_trans (List.length_filter_le _ _) (Nat.le_of_ble_eq_true h))
theorem in62_nat {n : Nat} (h : n ≤ most) : in62 (n : Int) = true := by
  unfold in62
  have : most < 2 ^ 62 := by decide
  rw [Bool.and_eq_true]
  constructor <;> exact decide_eq_true (by omega)
/-! ### folding raw data -/
section
variable {α β γ : Type} [DecidableEq α] [DatumOrd α] [Lay α] [DecidableEq β] [DatumOrd β] [Lay β]
theorem f_int (i : Int) : PyData.int i = T i := rfl
theorem f_bool (b : Bool) : PyData.bool b = T b := rfl
theorem f_pair (a : α) (b : β) : PyData.tuple [T a, T b] = T (a, b) := rfl
theorem f_list (xs : List α) : PyData.list (xs.map T) = T xs := rfl
theorem f_tup (xs : List α) : PyData.tuple (xs.map T) = T (⟨xs⟩ : Tup α) := rfl
theorem f_one (a : α) : PyData.tuple [T a] = T (⟨[a]⟩ : Tup α) := rfl
theorem f_tup0 : PyData.tuple [] = T (⟨[]⟩ : Tup α) := rfl
theorem f_list0 : PyData.list [] = T ([] : List α) := rfl
theorem f_list1 (a : α) : PyData.list [T a] = T [a] := rfl
theorem f_list2 (a b : α) : PyData.list [T a, T b] = T [a, b] := rfl
theorem f_mm (xs : List γ) (h : γ → α) : xs.map (fun x => T (h x)) = (xs.map h).map T := by rw [List.map_map]; rfl
/-! ### operations -/
theorem t_tru (b : Bool) (w : Wd) : (Res.ok (Vl.d (T b)) w).tru = .ok b w := rfl
theorem t_num (i : Int) (w : Wd) : (Res.ok (Vl.d (T i)) w).num = .ok i w := rfl
theorem t_dat (x : D) (w : Wd) : (Res.ok (Vl.d x) w).dat = .ok x w := rfl
theorem t_seqI (c : Cfg) (e : E) (env : Env) (w : Wd) : evI c (.seq e) env w = (ev c e env w).dat.bind fun x w => ofO (seqD x) w := by
  simp only [evI]
  congr 1
  funext x w
  cases x <;> rfl
theorem t_rng1 (c : Cfg) (a : E) (env : Env) (w : Wd) : evI c (.rng1 a) env w = (ev c a env w).num.bind fun n w => if in62 n = true then .ok (rangeD 0 n.toNat) w else .stuck := by rw [evI]
theorem t_rng2 (c : Cfg) (a b : E) (env : Env) (w : Wd) : evI c (.rng2 a b) env w = (ev c a env w).num.bind fun m w => (ev c b env w).num.bind fun n w => if (in62 m && in62 n) = true then .ok (rangeD m (n - m).toNat) w else .stuck := by rw [evI]
theorem t_zipI (c : Cfg) (a b : E) (env : Env) (w : Wd) : evI c (.zip a b) env w = (ev c a env w).dat.bind fun x w => (ev c b env w).dat.bind fun y w => ofO (zipX x y) w := by
  rw [evI]
  congr 1
  funext x w
  congr 1
  funext y w
  cases zipX x y <;> rfl
theorem t_enuI (c : Cfg) (e : E) (env : Env) (w : Wd) : evI c (.enu e) env w = (ev c e env w).dat.bind fun x w => (ofO (itemsD x) w).bind fun xs w => .ok (enuD 0 xs) w := by rw [evI]
theorem t_keysI (c : Cfg) (e : E) (env : Env) (w : Wd) : evI c (.keys e) env w = (ev c e env w).dat.bind fun x w => (ofO (dctOf x) w).bind fun kvs w => .ok (kvs.map (·.1)) w := by rw [evI]
theorem t_bdN (env : Env) (i : Nat) (x : D) : bindTg env (.name i) x = some (env.set i (some (.d x))) := rfl
theorem t_bd2 (env : Env) (i j : Nat) (p : α × β) : bindTg env (.tup [i, j]) (T p) = some ((env.set i (some (.d (T p.1)))).set j (some (.d (T p.2)))) := rfl
theorem all_idm {δ : Type} (xs : List δ) (p : δ → Bool) : (xs.map p).all id = xs.all p := by rw [List.all_map]; rfl
theorem any_idm {δ : Type} (xs : List δ) (p : δ → Bool) : (xs.map p).any id = xs.any p := by rw [List.any_map]; rfl
theorem t_seqL (xs : List α) : seqD (T xs) = some (xs.map T) := rfl
theorem t_seqT (xs : Tup α) : seqD (T xs) = some (xs.items.map T) := rfl
theorem t_seqP (a b : α) : seqD (T (a, b)) = some ([a, b].map T) := rfl
theorem t_bin_add (a b : Int) : binD .add (T a) (T b) = some (T (a + b)) := rfl
theorem t_bin_sub (a b : Int) : binD .sub (T a) (T b) = some (T (a - b)) := rfl
theorem t_addL (xs ys : List α) (h : fits (xs.length + ys.length) = true) : binD .add (T xs) (T ys) = some (T (xs ++ ys)) := by
  show (if fits ((xs.map T).length + (ys.map T).length) then some (PyData.list (xs.map T ++ ys.map T)) else none) = _
  rw [List.length_map, List.length_map, h, if_pos rfl, ← List.map_append]; rfl
theorem t_addT (xs ys : Tup α) (h : fits (xs.items.length + ys.items.length) = true) : binD .add (T xs) (T ys) = some (T (⟨xs.items ++ ys.items⟩ : Tup α)) := by
  show (if fits ((xs.items.map T).length + (ys.items.map T).length) then some (PyData.tuple (xs.items.map T ++ ys.items.map T)) else none) = _
  rw [List.length_map, List.length_map, h, if_pos rfl, ← List.map_append]; rfl
theorem t_lenL (xs : List α) : b1D .len (T xs) = some (T (xs.length : Int)) := by
  show some (PyData.int ((xs.map T).length : Nat)) = _
  rw [List.length_map]; rfl
theorem t_lenT (xs : Tup α) : b1D .len (T xs) = some (T (xs.items.length : Int)) := by
  show some (PyData.int ((xs.items.map T).length : Nat)) = _
  rw [List.length_map]; rfl
theorem t_lenP (a : α) (b : β) : b1D .len (T (a, b)) = some (T (2 : Int)) := rfl
theorem t_le (a b : Int) : cmpD .le (T a) (T b) = some (decide (a ≤ b)) := rfl
theorem t_lt (a b : Int) : cmpD .lt (T a) (T b) = some (decide (a < b)) := rfl
theorem t_gt (a b : Int) : cmpD .gt (T a) (T b) = some (decide (b < a)) := rfl
theorem t_eq (a b : α) [Low α] : cmpD .eq (T a) (T b) = some (decide (a = b)) := eqT a b Low.low
theorem t_ne (a b : α) [Low α] : cmpD .ne (T a) (T b) = some (!decide (a = b)) := neT a b Low.low
theorem t_inL (a : α) (xs : List α) [Low α] : cmpD .inn (T a) (T xs) = some (isIn a xs) := inT a xs Low.low
theorem t_inT (a : α) (xs : Tup α) [Low α] : cmpD .inn (T a) (T xs) = some (isIn a xs.items) := inT a xs.items Low.low
theorem t_ninL (a : α) (xs : List α) [Low α] : cmpD .nin (T a) (T xs) = some (!isIn a xs) := by
  show (inL (T a) (xs.map T)).map _ = _
  rw [inT a xs Low.low]; rfl
theorem t_ninT (a : α) (xs : Tup α) [Low α] : cmpD .nin (T a) (T xs) = some (!isIn a xs.items) := t_ninL a xs.items
theorem t_cmpG (op : Cop) (a b : D) : cmpG op a b = (cmpD op a b).map (fun b => T b) := rfl
theorem t_map {δ ε : Type} (f : δ → ε) (a : δ) : (some a).map f = some (f a) := rfl
theorem t_bind {δ ε : Type} (f : δ → Option ε) (a : δ) : (some a).bind f = f a := rfl
theorem t_p0 (a : α) (b : β) : idxD (T (a, b)) (T (0 : Int)) = some (T a) := rfl
theorem t_p1 (a : α) (b : β) : idxD (T (a, b)) (T (1 : Int)) = some (T b) := rfl
theorem t_neg (i : Int) (w : Wd) : (match (T i : D) with | .int i => Res.ok (Vl.d (.int (-i))) w | _ => .stuck) = .ok (.d (T (-i))) w := rfl
theorem t_negE (c : Cfg) (a : E) (env : Env) (w : Wd) : ev c (.neg a) env w = (ev c a env w).num.bind fun i w => .ok (.d (T (-i))) w := by
  rw [ev]
  cases ev c a env w with
  | ok v w =>
    cases v with
    | d x => cases x <;> rfl
    | ob i => rfl
    | fn f => rfl
  | exc k x w => rfl
  | stuck => rfl
theorem t_all (xs : List γ) (p : γ → Bool) : bitD .all (T (xs.map p)) = some (T (xs.all p)) := by
  show (allB ((xs.map p).map T)).map (fun bs => PyData.bool (bs.all id)) = _
  rw [List.map_map, show ((T : Bool → D) ∘ p) = fun x => PyData.bool (p x) from rfl, allB_map]
  simp [List.all_map]; rfl
theorem t_any (xs : List γ) (p : γ → Bool) : bitD .any (T (xs.map p)) = some (T (xs.any p)) := by
  show (allB ((xs.map p).map T)).map (fun bs => PyData.bool (bs.any id)) = _
  rw [List.map_map, show ((T : Bool → D) ∘ p) = fun x => PyData.bool (p x) from rfl, allB_map]
  simp [List.any_map]; rfl
theorem t_allL (xs : List Bool) : bitD .all (T xs) = some (T (xs.all id)) := by
  have := t_all xs id
  rw [List.map_id] at this
  exact this
theorem t_anyL (xs : List Bool) : bitD .any (T xs) = some (T (xs.any id)) := by
  have := t_any xs id
  rw [List.map_id] at this
  exact this
theorem t_sliL (xs : List α) (lo hi : Option Int) : sliD (T xs) lo hi = some (T (cut xs lo hi)) := by
  show some (PyData.list (cut (xs.map T) lo hi)) = _
  rw [cut_map]; rfl
theorem t_sliT (xs : Tup α) (lo hi : Option Int) : sliD (T xs) lo hi = some (T (⟨cut xs.items lo hi⟩ : Tup α)) := by
  show some (PyData.tuple (cut (xs.items.map T) lo hi)) = _
  rw [cut_map]; rfl
theorem t_sort (xs : List α) (h : sortable (xs.map T) = true) (hf : fits xs.length = true) : bitD .sorted (T xs) = some (T (sortOn id xs)) := by
  show (if fits (xs.map T).length then (sortD (xs.map T)).map PyData.list else none) = _
  rw [List.length_map, hf, if_pos rfl, sortD, h, if_pos rfl, isort_map (le' := fun a b => !DatumOrd.lt b a) fun a b => by show (!dataLt (T b) (T a)) = _; rw [DatumOrd.lt_eq]]
  rfl
theorem t_tupL (xs : List α) : bitD .tuple (T xs) = some (T (⟨xs⟩ : Tup α)) := rfl
theorem t_isiT (xs : Tup α) : isiD (T xs) .tuple = true := rfl
theorem t_isiP (a : α) (b : β) : isiD (T (a, b)) .tuple = true := rfl
/-! ### comprehensions -/
def lcX (g : γ → Wd → Res (Option D)) : List γ → Wd → Res (List D)
  | [], w => .ok [] w
  | x :: xs, w => (g x w).bind fun o w => (lcX g xs w).bind fun r w => match o with
    | some y => .ok (y :: r) w
    | none => .ok r w
theorem lcX_of (step : D → Wd → Res (Option D)) (f : γ → D) : ∀ (xs : List γ) (w : Wd), lcL step (xs.map f) w = lcX (fun x w => step (f x) w) xs w
  | [], w => rfl
  | x :: xs, w => by
    rw [List.map_cons, lcL, lcX]
    congr 1
    funext o w
    rw [lcX_of step f xs]
    all_goals rfl
theorem lcX_congr {g g' : γ → Wd → Res (Option D)} {xs xs' : List γ} {w : Wd} (hx : xs = xs') (h : ∀ x, x ∈ xs' → ∀ w, g x w = g' x w) : lcX g xs w = lcX g' xs' w := by
  subst hx
  induction xs generalizing w with
  | nil => rfl
  | cons x xs ih =>
    rw [lcX, lcX, h x (List.mem_cons_self ..)]
    congr 1
    funext o w
    rw [ih fun y hy => h y (List.mem_cons_of_mem _ hy)]
theorem lcX_all (h : γ → D) : ∀ (xs : List γ) (w : Wd), lcX (fun x w => .ok (some (h x)) w) xs w = .ok (xs.map h) w
  | [], w => rfl
  | x :: xs, w => by rw [lcX, bok, lcX_all h xs, bok]; rfl
theorem lcX_if (h : γ → D) (p : γ → Bool) : ∀ (xs : List γ) (w : Wd), lcX (fun x w => if p x = true then .ok (some (h x)) w else .ok none w) xs w = .ok ((xs.filter p).map h) w
  | [], w => rfl
  | x :: xs, w => by
    rw [lcX]
    cases hp : p x
    · simp only [Bool.false_eq_true, if_false, bok, lcX_if h p xs, List.filter_cons, hp]
    · simp only [if_true, bok, lcX_if h p xs, List.filter_cons, hp, List.map_cons]
end
theorem fitsN (n : Nat) (h : Nat.ble n most = true) : fits n = true := h
theorem fits0 : fits 0 = true := rfl
theorem fits1 : fits 1 = true := rfl
theorem fits2 : fits 2 = true := rfl
theorem fits3 : fits 3 = true := rfl
end Mx

set_option Elab.async false
set_option linter.all false
set_option maxRecDepth 100000
set_option maxHeartbeats 1000000
/-! Md1: the draws of a law. -/
namespace Mx
open PySem PySem.W
def townDf : Df := ⟨["script"], ["script"], [], (.cons (.ret (.cell (.bin .add (.lst (.cons (.cst (.int 0)) .nil)) (.bit .list (.seq (.slot 0)))))) .nil)⟩
def drawDf : Df := ⟨["script", "town", "limit"], ["script", "town", "limit", "at", "left", "number"], [], (.cons (.oput (.slot 1) (.cst (.int 0)) (.bin .add (.oidx (.slot 1) (.cst (.int 0))) (.cst (.int 1)))) (.cons (.ite (.cmp .eq (.slot 0) (.lst .nil)) (.cons (.ret (.bin .mod (.bin .fdiv (.bin .mul (.bin .mul (.oidx (.slot 1) (.cst (.int 0))) (.oidx (.slot 1) (.cst (.int 0)))) (.cst (.int 7))) (.cst (.int 3))) (.slot 2))) .nil) .nil) (.cons (.asg 3 (.bin .mod (.oidx (.slot 1) (.cst (.int 0))) (.b1 .len (.slot 0)))) (.cons (.asg 4 (.oidx (.slot 1) (.bin .add (.cst (.int 1)) (.slot 3)))) (.cons (.ite (.and (.cons (.cmp .ge (.idx (.slot 0) (.slot 3)) (.bin .pow (.cst (.int 10)) (.cst (.int 18)))) (.cons (.cmp .gt (.slot 4) (.cst (.int 0))) .nil))) (.cons (.oput (.slot 1) (.bin .add (.cst (.int 1)) (.slot 3)) (.bin .fdiv (.slot 4) (.slot 2))) (.cons (.ret (.bin .mod (.slot 4) (.slot 2))) .nil)) .nil) (.cons (.asg 5 (.bin .mod (.bin .add (.idx (.slot 0) (.slot 3)) (.bin .mul (.cst (.int 104729)) (.oidx (.slot 1) (.cst (.int 0))))) (.cst (.int 4294967291)))) (.cons (.asg 5 (.bin .mod (.bin .pow (.slot 5) (.cst (.int 5))) (.cst (.int 4294967279)))) (.cons (.ret (.bin .mod (.bin .fdiv (.bin .mod (.bin .add (.bin .mul (.bin .fdiv (.slot 5) (.cst (.int 64))) (.cst (.int 69621))) (.slot 5)) (.cst (.int 4294967231))) (.cst (.int 8))) (.slot 2))) .nil))))))))⟩
/-- the cell of a town -/
def townW (t : Int) (rest : List Int) (g : Wd) : Wd := .cell ((t :: rest).map T) :: g
theorem tw_get (t : Int) (rest : List Int) (g : Wd) : oget (townW t rest g) 0 = some (T (t :: rest)) := rfl
theorem idx_int (xs : List Int) (i x : Int) (h : L2.atI xs i = some x) : idxD (T xs) (T i) = some (T x) := by
  show L2.atI (xs.map T) i = _
  unfold L2.atI at h ⊢
  rw [List.length_map]
  cases e : L2.ixN xs.length i with
  | none => rw [e] at h; cases h
  | some j => rw [e, Option.bind_some] at h; rw [Option.bind_some, List.getElem?_map, h]; rfl
theorem at_0 (t : Int) (rest : List Int) : L2.atI (t :: rest) 0 = some t := by
  unfold L2.atI L2.ixN
  simp
theorem tw_put0 (t v : Int) (rest : List Int) (g : Wd) : oputW (townW t rest g) 0 (T (0 : Int)) (T v) = some (townW v rest g) := by
  show (if flat (T v) then (L2.ixN ((t :: rest).map T).length 0).map fun j => (townW t rest g).set 0 (.cell (((t :: rest).map T).set j (T v))) else none) = _
  have : L2.ixN ((t :: rest).map (T : Int → D)).length 0 = some 0 := by unfold L2.ixN; simp
  rw [this]
  rfl
theorem t_mod (a b : Int) (h : (b != 0) = true) : binD .mod (T a) (T b) = some (T (a.fmod b)) := by
  show (if b != 0 then some (PyData.int (a.fmod b)) else none) = _
  rw [if_pos h]; rfl
theorem t_fdiv (a b : Int) (h : (b != 0 && decide (b.natAbs < 1073741824)) = true) : binD .fdiv (T a) (T b) = some (T (a.fdiv b)) := by
  show (if b != 0 && decide (b.natAbs < 1073741824) then some (PyData.int (a.fdiv b)) else none) = _
  rw [if_pos h]; rfl
theorem t_mul (a b : Int) (h : (small a || small b) = true) : binD .mul (T a) (T b) = some (T (a * b)) := by
  show (if small a || small b then some (PyData.int (a * b)) else none) = _
  rw [if_pos h]; rfl
theorem t_pow (a b : Int) (h : (decide (0 ≤ b) && decide (b ≤ 1000000) && decide (a.natAbs < 2 ^ 64)) = true) : binD .pow (T a) (T b) = some (T (a ^ b.toNat)) := by
  show (if decide (0 ≤ b) && decide (b ≤ 1000000) && decide (a.natAbs < 2 ^ 64) then some (PyData.int (a ^ b.toNat)) else none) = _
  rw [if_pos h]; rfl
theorem t_ge (a b : Int) : cmpD .ge (T a) (T b) = some (decide (b ≤ a)) := rfl
theorem at_nat (xs : List Int) (j : Nat) (h : j < xs.length) : L2.atI xs (j : Int) = some xs[j] := by
  unfold L2.atI L2.ixN
  rw [if_pos (by omega), if_pos (by omega)]
  simp [h]
theorem tw_put (t v : Int) (rest : List Int) (j : Nat) (hj : j < rest.length) (g : Wd) : oputW (townW t rest g) 0 (T (1 + (j : Int))) (T v) = some (townW t (rest.set j v) g) := by
  show (if flat (T v) then (L2.ixN ((t :: rest).map T).length (1 + (j : Int))).map fun j => (townW t rest g).set 0 (.cell (((t :: rest).map T).set j (T v))) else none) = _
  have : L2.ixN ((t :: rest).map (T : Int → D)).length (1 + (j : Int)) = some (j + 1) := by
    unfold L2.ixN
    rw [List.length_map, List.length_cons, if_pos (by omega), if_pos (by omega)]
    congr 1
    omega
  rw [this]
  show some _ = some _
  congr 1
  show (townW t rest g).set 0 (.cell (((t :: rest).map T).set (j + 1) (T v))) = _
  unfold townW
  rw [List.set_cons_zero, List.map_cons, List.set_cons_succ, ← List.map_set]
  rfl
def emptyI : List Int := []
theorem f_listI : PyData.list [] = T ([] : List Int) := rfl
theorem fm_lo (a : Int) {L : Int} (h : 0 < L) : 0 ≤ a.fmod L ∧ a.fmod L < L := ⟨Int.fmod_nonneg_of_pos a h, Int.fmod_lt_of_pos a h⟩
theorem small_of {a : Int} (h : 0 ≤ a) (h2 : a < 2 ^ 64) : small a = true := by
  unfold small
  rw [Bool.and_eq_true]
  exact ⟨decide_eq_true (by omega), decide_eq_true h2⟩
def mix5 (s t : Int) : Int := (((s + 104729 * (t + 1)).fmod 4294967291) ^ 5).fmod 4294967279
def mixV (s t : Int) : Int := (((mix5 s t).fdiv 64 * 69621 + mix5 s t).fmod 4294967231).fdiv 8
/-- one draw -/
theorem draw_run (c : Cfg) (ns rest : List Int) (t L : Int) (g : Wd) (hl : rest.length = ns.length) (hm : ns.length ≤ most) (h0 : 0 ≤ t) (h1 : t < 2 ^ 60) (hL : 0 < L) (hL2 : L < 1073741824) :
    ∃ r rest', 0 ≤ r ∧ r < L ∧ rest'.length = rest.length ∧ exs c drawDf.body [some (.d (T ns)), some (.ob 0), some (.d (T L)), none, none, none] (townW t rest g) = .ok (.rt (.d (T r))) (townW (t + 1) rest' g) := by
  have hL0 : (L != 0) = true := by rw [bne_iff_ne]; omega
  have hLf : (L != 0 && decide (L.natAbs < 1073741824)) = true := by rw [hL0, Bool.true_and]; exact decide_eq_true (by omega)
  have hs : small (t + 1) = true := small_of (by omega) (by omega)
  have hs2 : (small (t + 1) || small (t + 1)) = true := by rw [hs]; rfl
  have i0 : ∀ (x : Int) (r : List Int), idxD (T (x :: r)) (T (0 : Int)) = some (T x) := fun x r => idx_int _ _ _ (at_0 x r)
  by_cases hn : ns = []
  · subst hn
    have m7 : ∀ a : Int, binD .mul (T a) (T (7 : Int)) = some (T (a * 7)) := fun a => t_mul a 7 (by rw [show small 7 = true from rfl, Bool.or_true])
    have d3 : ∀ a : Int, binD .fdiv (T a) (T (3 : Int)) = some (T (a.fdiv 3)) := fun a => t_fdiv a 3 (by decide)
    refine ⟨(((t + 1) * (t + 1) * 7).fdiv 3).fmod L, rest, (fm_lo _ hL).1, (fm_lo _ hL).2, rfl, ?_⟩
    simp (implicitDefEqProofs := false) (contextual := true) only [drawDf, tw_get, i0, tw_put0, fits0, f_listI, decide_true, t_mul, hs2, m7, d3, t_mod, hL0, outT_rt, outT_nx, trim_self, outF_rt, outF_nx, exs_nil, exs_c, contF_nx, contF_rt, ex, ev, evs, evA, evO, evT, evAnd, evOr, t_seqI, t_rng1, t_rng2, t_zipI, t_enuI, t_keysI, startE, List.map_cons, List.map_nil, List.length_cons, List.length_nil, Nat.reduceAdd, Nat.reduceSub, List.replicate, List.cons_append, List.nil_append, List.getElem?_cons_zero, List.getElem?_cons_succ, List.set_cons_zero, List.set_cons_succ, t_bdN, t_bd2, all_idm, any_idm, Bool.false_or, Bool.or_false, Bool.true_and, Bool.and_true, wipeE, bok, sok, t_dat, t_tru, t_num, f_int, f_bool, f_pair, f_list, f_tup, f_mm, t_seqL, t_seqT, t_seqP, t_bin_add, t_bin_sub, t_addL, t_addT, t_lenL, t_lenT, t_lenP, t_le, t_lt, t_gt, t_eq, t_ne, t_inL, t_inT, t_ninL, t_ninT, t_cmpG, t_map, t_bind, t_p0, t_p1, ↓t_negE, t_all, t_any, t_tupL, t_isiT, t_isiP, lcX_of, lcX_all, lcX_if, List.length_map, fits_filter, b_if, d_if, u_if, o_if, a_if, rangeD_T, rng_len, f_tup0 (α := Int), f_list1, f_list2, t_allL, t_anyL, t_sliL, t_sliT, lcL,  if_true, if_false, Bool.false_eq_true, Bool.not_true, Bool.not_false]
  · have hp : 0 < ns.length := List.length_pos_iff.mpr hn
    have hln : (((ns.length : Nat) : Int) != 0) = true := by rw [bne_iff_ne]; omega
    have hat := fm_lo (t + 1) (L := (ns.length : Int)) (by omega)
    obtain ⟨j, hj⟩ : ∃ j : Nat, (t + 1).fmod (ns.length : Int) = (j : Int) := ⟨((t + 1).fmod (ns.length : Int)).toNat, by omega⟩
    have hjl : j < ns.length := by omega
    have hjr : j < rest.length := by omega
    have i1 : idxD (T ((t + 1) :: rest)) (T (1 + (j : Int))) = some (T rest[j]) := idx_int _ _ _ (by
      have := at_nat ((t + 1) :: rest) (j + 1) (by rw [List.length_cons]; omega)
      rw [show 1 + (j : Int) = ((j + 1 : Nat) : Int) by omega, this]
      rfl)
    have i2 : idxD (T ns) (T (j : Int)) = some (T ns[j]) := idx_int _ _ _ (at_nat ns j hjl)
    have p1 : binD .pow (T (10 : Int)) (T (18 : Int)) = some (T (1000000000000000000 : Int)) := by rw [t_pow _ _ (by decide)]; rfl
    have m1 : ∀ a : Int, binD .mul (T (104729 : Int)) (T a) = some (T (104729 * a)) := fun a => t_mul _ a (by rw [show small 104729 = true from rfl]; rfl)
    have m2 : ∀ a : Int, binD .mul (T a) (T (69621 : Int)) = some (T (a * 69621)) := fun a => t_mul a _ (by rw [show small 69621 = true from rfl, Bool.or_true])
    have q1 : ∀ a : Int, binD .mod (T a) (T (4294967291 : Int)) = some (T (a.fmod 4294967291)) := fun a => t_mod a _ (by decide)
    have q2 : ∀ a : Int, binD .mod (T a) (T (4294967279 : Int)) = some (T (a.fmod 4294967279)) := fun a => t_mod a _ (by decide)
    have q3 : ∀ a : Int, binD .mod (T a) (T (4294967231 : Int)) = some (T (a.fmod 4294967231)) := fun a => t_mod a _ (by decide)
    have q4 : ∀ a : Int, binD .fdiv (T a) (T (64 : Int)) = some (T (a.fdiv 64)) := fun a => t_fdiv a _ (by decide)
    have q5 : ∀ a : Int, binD .fdiv (T a) (T (8 : Int)) = some (T (a.fdiv 8)) := fun a => t_fdiv a _ (by decide)
    have q6 : ∀ a : Int, binD .pow (T (a.fmod 4294967291)) (T (5 : Int)) = some (T ((a.fmod 4294967291) ^ 5)) := fun a => by
      have := fm_lo a (L := 4294967291) (by decide)
      rw [t_pow _ _ (by rw [Bool.and_eq_true]; exact ⟨by decide, decide_eq_true (by omega)⟩)]
      rfl
    have hd : decide (ns = []) = false := decide_eq_false hn
    have dL : ∀ a : Int, binD .fdiv (T a) (T L) = some (T (a.fdiv L)) := fun a => t_fdiv a L hLf
    cases hbig : decide (1000000000000000000 ≤ ns[j]) with
    | true =>
      cases hpos : decide (0 < rest[j]) with
      | true =>
        refine ⟨(rest[j]).fmod L, rest.set j ((rest[j]).fdiv L), (fm_lo _ hL).1, (fm_lo _ hL).2, List.length_set .., ?_⟩
        simp (implicitDefEqProofs := false) (contextual := true) only [drawDf, tw_get, i0, tw_put0, tw_put, hjr, fits0, f_listI, hd, t_mod, hln, hj, i1, i2, p1, t_ge, hbig, hpos, dL, hL0, outT_rt, outT_nx, trim_self, outF_rt, outF_nx, exs_nil, exs_c, contF_nx, contF_rt, ex, ev, evs, evA, evO, evT, evAnd, evOr, t_seqI, t_rng1, t_rng2, t_zipI, t_enuI, t_keysI, startE, List.map_cons, List.map_nil, List.length_cons, List.length_nil, Nat.reduceAdd, Nat.reduceSub, List.replicate, List.cons_append, List.nil_append, List.getElem?_cons_zero, List.getElem?_cons_succ, List.set_cons_zero, List.set_cons_succ, t_bdN, t_bd2, all_idm, any_idm, Bool.false_or, Bool.or_false, Bool.true_and, Bool.and_true, wipeE, bok, sok, t_dat, t_tru, t_num, f_int, f_bool, f_pair, f_list, f_tup, f_mm, t_seqL, t_seqT, t_seqP, t_bin_add, t_bin_sub, t_addL, t_addT, t_lenL, t_lenT, t_lenP, t_le, t_lt, t_gt, t_eq, t_ne, t_inL, t_inT, t_ninL, t_ninT, t_cmpG, t_map, t_bind, t_p0, t_p1, ↓t_negE, t_all, t_any, t_tupL, t_isiT, t_isiP, lcX_of, lcX_all, lcX_if, List.length_map, fits_filter, b_if, d_if, u_if, o_if, a_if, rangeD_T, rng_len, f_tup0 (α := Int), f_list1, f_list2, t_allL, t_anyL, t_sliL, t_sliT, lcL,  if_true, if_false, Bool.false_eq_true, Bool.not_true, Bool.not_false]
      | false =>
        refine ⟨(mixV ns[j] t).fmod L, rest, (fm_lo _ hL).1, (fm_lo _ hL).2, rfl, ?_⟩
        · simp (implicitDefEqProofs := false) (contextual := true) only [drawDf, tw_get, i0, tw_put0, fits0, f_listI, hd, hln, hj, i1, i2, p1, t_ge, hbig, hpos, m1, m2, q1, q2, q3, q4, q5, q6, t_mod, hL0, outT_rt, outT_nx, trim_self, outF_rt, outF_nx, exs_nil, exs_c, contF_nx, contF_rt, ex, ev, evs, evA, evO, evT, evAnd, evOr, t_seqI, t_rng1, t_rng2, t_zipI, t_enuI, t_keysI, startE, List.map_cons, List.map_nil, List.length_cons, List.length_nil, Nat.reduceAdd, Nat.reduceSub, List.replicate, List.cons_append, List.nil_append, List.getElem?_cons_zero, List.getElem?_cons_succ, List.set_cons_zero, List.set_cons_succ, t_bdN, t_bd2, all_idm, any_idm, Bool.false_or, Bool.or_false, Bool.true_and, Bool.and_true, wipeE, bok, sok, t_dat, t_tru, t_num, f_int, f_bool, f_pair, f_list, f_tup, f_mm, t_seqL, t_seqT, t_seqP, t_bin_add, t_bin_sub, t_addL, t_addT, t_lenL, t_lenT, t_lenP, t_le, t_lt, t_gt, t_eq, t_ne, t_inL, t_inT, t_ninL, t_ninT, t_cmpG, t_map, t_bind, t_p0, t_p1, ↓t_negE, t_all, t_any, t_tupL, t_isiT, t_isiP, lcX_of, lcX_all, lcX_if, List.length_map, fits_filter, b_if, d_if, u_if, o_if, a_if, rangeD_T, rng_len, f_tup0 (α := Int), f_list1, f_list2, t_allL, t_anyL, t_sliL, t_sliT, lcL,  if_true, if_false, Bool.false_eq_true, Bool.not_true, Bool.not_false]
          rfl
    | false =>
      refine ⟨(mixV ns[j] t).fmod L, rest, (fm_lo _ hL).1, (fm_lo _ hL).2, rfl, ?_⟩
      · simp (implicitDefEqProofs := false) (contextual := true) only [drawDf, tw_get, i0, tw_put0, fits0, f_listI, hd, hln, hj, i1, i2, p1, t_ge, hbig, m1, m2, q1, q2, q3, q4, q5, q6, t_mod, hL0, outT_rt, outT_nx, trim_self, outF_rt, outF_nx, exs_nil, exs_c, contF_nx, contF_rt, ex, ev, evs, evA, evO, evT, evAnd, evOr, t_seqI, t_rng1, t_rng2, t_zipI, t_enuI, t_keysI, startE, List.map_cons, List.map_nil, List.length_cons, List.length_nil, Nat.reduceAdd, Nat.reduceSub, List.replicate, List.cons_append, List.nil_append, List.getElem?_cons_zero, List.getElem?_cons_succ, List.set_cons_zero, List.set_cons_succ, t_bdN, t_bd2, all_idm, any_idm, Bool.false_or, Bool.or_false, Bool.true_and, Bool.and_true, wipeE, bok, sok, t_dat, t_tru, t_num, f_int, f_bool, f_pair, f_list, f_tup, f_mm, t_seqL, t_seqT, t_seqP, t_bin_add, t_bin_sub, t_addL, t_addT, t_lenL, t_lenT, t_lenP, t_le, t_lt, t_gt, t_eq, t_ne, t_inL, t_inT, t_ninL, t_ninT, t_cmpG, t_map, t_bind, t_p0, t_p1, ↓t_negE, t_all, t_any, t_tupL, t_isiT, t_isiP, lcX_of, lcX_all, lcX_if, List.length_map, fits_filter, b_if, d_if, u_if, o_if, a_if, rangeD_T, rng_len, f_tup0 (α := Int), f_list1, f_list2, t_allL, t_anyL, t_sliL, t_sliT, lcL,  if_true, if_false, Bool.false_eq_true, Bool.not_true, Bool.not_false]
        rfl
theorem c_draw {tb : Tbl} {F fd : Nat} (h : tb.lookup fd = some drawDf) (n : Nat) (ns rest : List Int) (t L : Int) (g : Wd) (hl : rest.length = ns.length) (hm : ns.length ≤ most) (h0 : 0 ≤ t) (h1 : t < 2 ^ 60) (hL : 0 < L) (hL2 : L < 1073741824) :
    ∃ r rest', 0 ≤ r ∧ r < L ∧ rest'.length = rest.length ∧ callN tb F (n + 1) fd [.d (T ns), .ob 0, .d (T L)] (townW t rest g) = .ok (.d (T r)) (townW (t + 1) rest' g) := by
  obtain ⟨r, rest', h2, h3, h4, h5⟩ := draw_run ⟨callN tb F n, F⟩ ns rest t L g hl hm h0 h1 hL hL2
  refine ⟨r, rest', h2, h3, h4, ?_⟩
  rw [callS h rfl]
  refine (congrArg (fun x => Res.bind x _) h5).trans ?_
  rw [bok, outT_rt]
  have e : (townW t rest g).length = (townW (t + 1) rest' g).length := rfl
  rw [e, trim_self]
theorem c_town {tb : Tbl} {F ft : Nat} (h : tb.lookup ft = some townDf) (n : Nat) (ns : List Int) (hm : ns.length + 1 ≤ most) : callN tb F (n + 1) ft [.d (T ns)] [] = .ok (.ob 0) (townW 0 ns []) := by
  have hb : bitD .list (T ns) = some (T ns) := rfl
  have ha : binD .add (T [(0 : Int)]) (T ns) = some (T (0 :: ns)) := by
    rw [t_addL _ _ (fit_le (by simpa [Nat.add_comm] using hm))]
    rfl
  have hfl : ∀ l : List Int, flats (l.map T) = true := fun l => by
    induction l with
    | nil => rfl
    | cons x l ih => show (true && flats (l.map T)) = true; rw [ih]; rfl
  have hx : exs ⟨callN tb F n, F⟩ townDf.body [some (.d (T ns))] [] = .ok (.rt (.ob 0)) (townW 0 ns []) := by
    simp (implicitDefEqProofs := false) (contextual := true) only [townDf, hb, fits1, f_list1, ha, outT_rt, outT_nx, trim_self, outF_rt, outF_nx, exs_nil, exs_c, contF_nx, contF_rt, ex, ev, evs, evA, evO, evT, evAnd, evOr, t_seqI, t_rng1, t_rng2, t_zipI, t_enuI, t_keysI, startE, List.map_cons, List.map_nil, List.length_cons, List.length_nil, Nat.reduceAdd, Nat.reduceSub, List.replicate, List.cons_append, List.nil_append, List.getElem?_cons_zero, List.getElem?_cons_succ, List.set_cons_zero, List.set_cons_succ, t_bdN, t_bd2, all_idm, any_idm, Bool.false_or, Bool.or_false, Bool.true_and, Bool.and_true, wipeE, bok, sok, t_dat, t_tru, t_num, f_int, f_bool, f_pair, f_list, f_tup, f_mm, t_seqL, t_seqT, t_seqP, t_bin_add, t_bin_sub, t_addL, t_addT, t_lenL, t_lenT, t_lenP, t_le, t_lt, t_gt, t_eq, t_ne, t_inL, t_inT, t_ninL, t_ninT, t_cmpG, t_map, t_bind, t_p0, t_p1, ↓t_negE, t_all, t_any, t_tupL, t_isiT, t_isiP, lcX_of, lcX_all, lcX_if, List.length_map, fits_filter, b_if, d_if, u_if, o_if, a_if, rangeD_T, rng_len, f_tup0 (α := Int), f_list1, f_list2, t_allL, t_anyL, t_sliL, t_sliT, lcL,  if_true, if_false, Bool.false_eq_true, Bool.not_true, Bool.not_false]
    show Res.bind (Res.bind (if flats ((0 :: ns).map T) = true then _ else _) _) _ = _
    rw [hfl]
    rfl
  rw [callS h rfl]
  refine (congrArg (fun x => Res.bind x _) hx).trans ?_
  rfl
end Mx

set_option Elab.async false
set_option linter.all false
set_option maxRecDepth 100000
set_option maxHeartbeats 1000000
/-! Mf1: the evaluator by small pieces that the kernel runs fast. -/
namespace Mx
open PySem
abbrev KE := Env → Wd → Res Vl
abbrev KL (α : Type) := Env → Wd → Res α
noncomputable def rb {α β : Type} (r : Res α) (f : α → Wd → Res β) : Res β := Res.rec (motive := fun _ => Res β) (fun a w => f a w) (fun c x w => .exc c x w) .stuck r
noncomputable def db {β : Type} (r : Res Vl) (f : D → Wd → Res β) : Res β := Res.rec (motive := fun _ => Res β) (fun v w => Vl.rec (motive := fun _ => Res β) (fun x => f x w) (fun _ => .stuck) (fun _ => .stuck) v) (fun c x w => .exc c x w) .stuck r
theorem rb_eq {α β : Type} (r : Res α) (f : α → Wd → Res β) : r.bind f = rb r f := by cases r <;> rfl
theorem db_eq {β : Type} (r : Res Vl) (f : D → Wd → Res β) : r.dat.bind f = db r f := by
  cases r with
  | ok v w => cases v <;> rfl
  | exc c x w => rfl
  | stuck => rfl
noncomputable def tb_ {β : Type} (r : Res Vl) (f : Bool → Wd → Res β) : Res β := db r fun x w => match x with
  | .bool b => f b w
  | _ => .stuck
theorem tb_eq {β : Type} (r : Res Vl) (f : Bool → Wd → Res β) : r.tru.bind f = tb_ r f := by
  cases r with
  | ok v w =>
    cases v with
    | d x => cases x <;> rfl
    | ob _ => rfl
    | fn _ => rfl
  | exc c x w => rfl
  | stuck => rfl
noncomputable def nb {β : Type} (r : Res Vl) (f : Int → Wd → Res β) : Res β := db r fun x w => match x with
  | .int b => f b w
  | _ => .stuck
theorem nb_eq {β : Type} (r : Res Vl) (f : Int → Wd → Res β) : r.num.bind f = nb r f := by
  cases r with
  | ok v w =>
    cases v with
    | d x => cases x <;> rfl
    | ob _ => rfl
    | fn _ => rfl
  | exc c x w => rfl
  | stuck => rfl
noncomputable def ob_ {α β : Type} (o : Option α) (w : Wd) (f : α → Wd → Res β) : Res β := Option.rec (motive := fun _ => Res β) .stuck (fun a => f a w) o
theorem ob_eq {α β : Type} (o : Option α) (w : Wd) (f : α → Wd → Res β) : (ofO o w).bind f = ob_ o w f := by cases o <;> rfl
noncomputable def bi {α : Type} (b : Bool) (x y : α) : α := Bool.rec (motive := fun _ => α) y x b
theorem bi_eq {α : Type} (b : Bool) (x y : α) : (if b = true then x else y) = bi b x y := by cases b <;> rfl
/-- a list whose spine is run first -/
noncomputable def frc {α β : Type} (xs : List α) (k : List α → β) : β := List.rec (motive := fun _ => (List α → β) → β) (fun k => k []) (fun x _ ih k => ih fun r => k (x :: r)) xs k
theorem frc_eq {α β : Type} : ∀ (xs : List α) (k : List α → β), frc xs k = k xs
  | [], _ => rfl
  | x :: xs, k => frc_eq xs fun r => k (x :: r)
/-! ### slots -/
noncomputable def nthE (i : Nat) : Env → Option Vl := Nat.rec (motive := fun _ => Env → Option Vl) (fun env => List.rec (motive := fun _ => Option Vl) none (fun x _ _ => x) env) (fun _ ih env => List.rec (motive := fun _ => Option Vl) none (fun _ r _ => ih r) env) i
theorem nthE_eq : ∀ (i : Nat) (env : Env), nthE i env = (match env[i]? with | some (some v) => some v | _ => none)
  | 0, [] => rfl
  | 0, none :: _ => rfl
  | 0, some v :: _ => rfl
  | i + 1, [] => rfl
  | i + 1, x :: r => by
    show nthE i r = _
    rw [nthE_eq i r, List.getElem?_cons_succ]
noncomputable def setE (i : Nat) (v : Option Vl) : Env → Env := Nat.rec (motive := fun _ => Env → Env) (fun env => List.rec (motive := fun _ => Env) [] (fun _ r _ => v :: r) env) (fun _ ih env => List.rec (motive := fun _ => Env) [] (fun x r _ => x :: ih r) env) i
theorem setE_eq (v : Option Vl) : ∀ (i : Nat) (env : Env), env.set i v = setE i v env
  | 0, [] => rfl
  | 0, _ :: _ => rfl
  | i + 1, [] => rfl
  | i + 1, x :: r => by
    rw [List.set_cons_succ, setE_eq v i r]
    rfl
noncomputable def kSlot (i : Nat) : KE := fun env w => Option.rec (motive := fun _ => Res Vl) .stuck (fun v => .ok v w) (nthE i env)
def kOk (v : Vl) : KE := fun _ w => .ok v w
def kStuck : KE := fun _ _ => .stuck
section
variable (c : Cfg)
theorem l_slot (i : Nat) : ev c (.slot i) = kSlot i := by
  funext env w
  unfold kSlot
  rw [nthE_eq, ev]
  cases env[i]? with
  | none => rfl
  | some o => cases o <;> rfl
theorem l_cst (d : D) : ev c (.cst d) = kOk (.d d) := rfl
theorem l_glo (x : Nat) (d : D) : ev c (.glo x d) = kOk (.d d) := rfl
theorem l_fn (x : Nat) : ev c (.fn x) = kOk (.fn x) := rfl
theorem l_stuck : ev c .stuck = kStuck := rfl
end
/-! ### fast data -/
def ieq : Int → Int → Bool
  | .ofNat a, .ofNat b => Nat.beq a b
  | .negSucc a, .negSucc b => Nat.beq a b
  | _, _ => false
theorem ieq_eq : ∀ a b : Int, ieq a b = decide (a = b)
  | .ofNat a, .ofNat b => by
    show Nat.beq a b = _
    rw [Bool.eq_iff_iff, Nat.beq_eq, decide_eq_true_eq]; exact ⟨congrArg _, Int.ofNat.inj⟩
  | .negSucc a, .negSucc b => by
    show Nat.beq a b = _
    rw [Bool.eq_iff_iff, Nat.beq_eq]; simp
  | .ofNat a, .negSucc b => rfl
  | .negSucc a, .ofNat b => rfl
def ilt : Int → Int → Bool
  | .ofNat a, .ofNat b => Nat.blt a b
  | .negSucc a, .negSucc b => Nat.blt b a
  | .negSucc _, .ofNat _ => true
  | .ofNat _, .negSucc _ => false
theorem ilt_eq : ∀ a b : Int, ilt a b = decide (a < b)
  | .ofNat a, .ofNat b => by
    show Nat.ble (a + 1) b = _
    rw [Bool.eq_iff_iff, Nat.ble_eq]; simp; omega
  | .negSucc a, .negSucc b => by
    show Nat.ble (b + 1) a = _
    rw [Bool.eq_iff_iff, Nat.ble_eq]; simp; omega
  | .ofNat a, .negSucc b => by
    show false = _
    symm; simp; omega
  | .negSucc a, .ofNat b => by
    show true = _
    symm; simp; omega
def isI : D → Bool
  | .int _ => true
  | _ => false
noncomputable def allF {α : Type} (p : α → Bool) (xs : List α) : Bool := List.rec (motive := fun _ => Bool) true (fun x _ ih => bi (p x) ih false) xs
theorem allF_eq {α : Type} (p : α → Bool) : ∀ xs : List α, allF p xs = xs.all p
  | [] => rfl
  | x :: xs => by
    show bi (p x) (allF p xs) false = _
    rw [List.all_cons, allF_eq p xs]
    cases p x <;> rfl
noncomputable def anyF {α : Type} (p : α → Bool) (xs : List α) : Bool := List.rec (motive := fun _ => Bool) false (fun x _ ih => bi (p x) true ih) xs
theorem anyF_eq {α : Type} (p : α → Bool) : ∀ xs : List α, anyF p xs = xs.any p
  | [] => rfl
  | x :: xs => by
    show bi (p x) true (anyF p xs) = _
    rw [List.any_cons, anyF_eq p xs]
    cases p x <;> rfl
/-- eqv of lists, by a test of items -/
noncomputable def eqvG (f : D → D → Bool) (xs : List D) : List D → Bool := List.rec (motive := fun _ => List D → Bool) (fun ys => List.rec (motive := fun _ => Bool) true (fun _ _ _ => false) ys)
  (fun x _ ih ys => List.rec (motive := fun _ => Bool) false (fun y ys _ => bi (f x y) (ih ys) false) ys) xs
theorem eqvG_eq {f : D → D → Bool} (hf : ∀ a b, f a b = PyData.eqv a b) : ∀ xs ys : List D, eqvG f xs ys = PyData.eqvAll xs ys
  | [], [] => rfl
  | [], _ :: _ => rfl
  | _ :: _, [] => rfl
  | x :: xs, y :: ys => by
    show bi (f x y) (eqvG f xs ys) false = _
    rw [hf, eqvG_eq hf xs ys, PyData.eqvAll]
    cases PyData.eqv x y <;> rfl
noncomputable def eqvU (f : D → D → Bool) (a b : D) : Bool := match a, b with
  | .int i, .int j => ieq i j
  | .tuple xs, .tuple ys => eqvG f xs ys
  | a, b => PyData.eqv a b
theorem eqvU_eq {f : D → D → Bool} (hf : ∀ a b, f a b = PyData.eqv a b) (a b : D) : eqvU f a b = PyData.eqv a b := by
  cases a with
  | int i =>
    cases b with
    | int j => show ieq i j = (i == j); rw [ieq_eq]; rfl
    | _ => rfl
  | tuple xs =>
    cases b with
    | tuple ys => show eqvG f xs ys = _; rw [eqvG_eq hf, PyData.eqv]
    | _ => rfl
  | _ => rfl
noncomputable def eqvF : D → D → Bool := eqvU (eqvU (eqvU (eqvU PyData.eqv)))
theorem eqvF_eq (a b : D) : PyData.eqv a b = eqvF a b := (eqvU_eq (eqvU_eq (eqvU_eq (eqvU_eq fun _ _ => rfl))) a b).symm
/-- ints, and tuples and lists of them, to a depth -/
noncomputable def lvl (n : Nat) : D → Bool := Nat.rec (motive := fun _ => D → Bool) isI (fun _ ih d => match d with
  | .int _ => true
  | .tuple xs => allF ih xs
  | .list xs => allF ih xs
  | _ => false) n
theorem lvl_all {n : Nat} (h : ∀ d, lvl n d = true → d.canLay0 = true ∧ d.depth ≤ n) : ∀ xs : List D, allF (lvl n) xs = true → PyData.canLayAll0 xs = true ∧ PyData.depthAll xs ≤ n
  | [], _ => ⟨rfl, Nat.zero_le _⟩
  | x :: xs, e => by
    rw [allF_eq, List.all_cons, Bool.and_eq_true, ← allF_eq] at e
    have h1 := h x e.1
    have h2 := lvl_all h xs e.2
    refine ⟨?_, ?_⟩
    · show (PyData.canLay0 x && PyData.canLayAll0 xs) = true
      rw [h1.1, h2.1]; rfl
    · exact Nat.max_le.mpr ⟨h1.2, h2.2⟩
theorem lvl_ok : ∀ (n : Nat) (d : D), lvl n d = true → d.canLay0 = true ∧ d.depth ≤ n
  | 0, d, h => by
    cases d with
    | int i => exact ⟨rfl, Nat.le_refl _⟩
    | _ => cases h
  | n + 1, d, h => by
    cases d with
    | int i => exact ⟨rfl, Nat.zero_le _⟩
    | tuple xs => have := lvl_all (lvl_ok n) xs h; exact ⟨this.1, Nat.succ_le_succ this.2⟩
    | list xs => have := lvl_all (lvl_ok n) xs h; exact ⟨this.1, Nat.succ_le_succ this.2⟩
    | _ => cases h
noncomputable def shpF (d : D) : Bool := bi (lvl 4 d) true (shp d)
theorem shpF_eq (d : D) : shp d = shpF d := by
  unfold shpF
  cases h : lvl 4 d with
  | false => rfl
  | true =>
    have := lvl_ok 4 d h
    show (d.canLay0 && decide (d.depth ≤ 64)) = true
    rw [this.1, Bool.true_and, decide_eq_true_eq]
    omega
noncomputable def layF (d : D) : Bool := bi (lvl 4 d) true d.canLay0
theorem layF_eq (d : D) : d.canLay0 = layF d := by
  unfold layF
  cases h : lvl 4 d with
  | false => rfl
  | true => exact (lvl_ok 4 d h).1
theorem layAllF_eq : ∀ xs : List D, PyData.canLayAll0 xs = allF layF xs
  | [] => rfl
  | x :: xs => by
    show (PyData.canLay0 x && PyData.canLayAll0 xs) = bi (layF x) (allF layF xs) false
    rw [layF_eq, layAllF_eq xs]
    cases layF x <;> rfl
noncomputable def eqF (a b : D) : Option Bool := bi (shpF a) (bi (layF b) (some (eqvF a b)) none) none
theorem eqF_eq (a b : D) : eqD a b = eqF a b := by
  unfold eqD eqF
  rw [shpF_eq, layF_eq, eqvF_eq]
  cases shpF a <;> cases layF b <;> rfl
noncomputable def inF (x : D) (xs : List D) : Option Bool := bi (shpF x) (bi (allF layF xs) (some (anyF (fun y => eqvF y x) xs)) none) none
theorem inF_eq (x : D) (xs : List D) : inL x xs = inF x xs := by
  unfold inL inF
  rw [shpF_eq, layAllF_eq, anyF_eq]
  have : (fun y => PyData.eqv y x) = fun y => eqvF y x := by funext y; exact eqvF_eq y x
  rw [this]
  cases shpF x <;> cases allF layF xs <;> rfl
/-! ### keys -/
theorem lvl_key {n : Nat} : ∀ d : D, lvl n d = true → True := fun _ _ => trivial
def hasL : D → Bool
  | .list _ => true
  | _ => false
/-- ints, and tuples of them, to a depth -/
noncomputable def lvk (n : Nat) : D → Bool := Nat.rec (motive := fun _ => D → Bool) isI (fun _ ih d => match d with
  | .int _ => true
  | .tuple xs => allF ih xs
  | _ => false) n
theorem lvk_all {n : Nat} (h : ∀ d, lvk n d = true → keyIn d = true ∧ d.depth ≤ n) : ∀ xs : List D, allF (lvk n) xs = true → keyIns xs = true ∧ PyData.depthAll xs ≤ n
  | [], _ => ⟨rfl, Nat.zero_le _⟩
  | x :: xs, e => by
    rw [allF_eq, List.all_cons, Bool.and_eq_true, ← allF_eq] at e
    have h1 := h x e.1
    have h2 := lvk_all h xs e.2
    refine ⟨?_, ?_⟩
    · show (keyIn x && keyIns xs) = true
      rw [h1.1, h2.1]; rfl
    · exact Nat.max_le.mpr ⟨h1.2, h2.2⟩
theorem lvk_ok : ∀ (n : Nat) (d : D), lvk n d = true → keyIn d = true ∧ d.depth ≤ n
  | 0, d, h => by
    cases d with
    | int i => exact ⟨rfl, Nat.le_refl _⟩
    | _ => cases h
  | n + 1, d, h => by
    cases d with
    | int i => exact ⟨rfl, Nat.zero_le _⟩
    | tuple xs => have := lvk_all (lvk_ok n) xs h; exact ⟨this.1, Nat.succ_le_succ this.2⟩
    | _ => cases h
noncomputable def keyF (d : D) : Bool := match d with
  | .tuple xs => bi (allF (lvk 3) xs) true (isTupKey (.tuple xs))
  | d => isTupKey d
theorem keyF_eq (d : D) : isTupKey d = keyF d := by
  cases d with
  | tuple xs =>
    show _ = bi (allF (lvk 3) xs) true (isTupKey (.tuple xs))
    cases h : allF (lvk 3) xs with
    | false => rfl
    | true =>
      have := lvk_all (lvk_ok 3) xs h
      show (keyIns xs && Nat.ble (PyData.depthAll xs + 1) 8) = true
      rw [this.1, Bool.true_and]
      exact Nat.ble_eq_true_of_le (by omega)
  | _ => rfl
end Mx

set_option Elab.async false
set_option linter.all false
set_option maxRecDepth 100000
set_option maxHeartbeats 1000000
/-! Mf2: dicts and sorting, fast. -/
namespace Mx
open PySem PySem.W PySem.SeqAt
open PyProof.Rows (itemOrd lex_irrefl lex_diff)
noncomputable def hasF (kvs : List (D × D)) (k : D) : Bool := anyF (fun p => eqvF (Prod.rec (motive := fun _ => D) (fun a _ => a) p) k) kvs
theorem hasF_eq (kvs : List (D × D)) (k : D) : dHas kvs k = hasF kvs k := by
  unfold dHas hasF
  rw [anyF_eq]
  congr 1
  funext p
  rw [eqvF_eq]
noncomputable def getF (kvs : List (D × D)) (k : D) : Option D := List.rec (motive := fun _ => Option D) none (fun p _ ih => Prod.rec (motive := fun _ => Option D) (fun a v => bi (eqvF a k) (some v) ih) p) kvs
theorem getF_eq (k : D) : ∀ kvs : List (D × D), dGet kvs k = getF kvs k
  | [] => rfl
  | (a, v) :: r => by
    have ih := getF_eq k r
    unfold dGet at ih ⊢
    rw [List.find?_cons]
    show _ = bi (eqvF a k) (some v) (getF r k)
    rw [← ih, ← eqvF_eq]
    simp only
    cases PyData.eqv a k <;> rfl
noncomputable def putR (kvs : List (D × D)) (k v : D) : List (D × D) := List.rec (motive := fun _ => List (D × D)) [(k, v)] (fun p r ih => Prod.rec (motive := fun _ => List (D × D)) (fun a _ => bi (eqvF a k) ((a, v) :: r) (p :: ih)) p) kvs
/-- no key occurs twice -/
noncomputable def setF (kvs : List (D × D)) (k v : D) : List (D × D) := List.rec (motive := fun _ => List (D × D)) [] (fun p _ ih => bi (eqvF p.1 k) ((p.1, v) :: ih) (p :: ih)) kvs
theorem setF_eq (k v : D) : ∀ kvs : List (D × D), (kvs.map fun p => if PyData.eqv p.1 k then (p.1, v) else p) = setF kvs k v
  | [] => rfl
  | p :: r => by
    rw [List.map_cons, setF_eq k v r]
    show _ = bi (eqvF p.1 k) ((p.1, v) :: setF r k v) (p :: setF r k v)
    rw [eqvF_eq]
    cases eqvF p.1 k <;> rfl
noncomputable def putF (kvs : List (D × D)) (k v : D) : List (D × D) := bi (hasF kvs k) (setF kvs k v) (kvs ++ [(k, v)])
theorem putF_eq (kvs : List (D × D)) (k v : D) : dPut kvs k v = putF kvs k v := by
  unfold dPut putF
  rw [bi_eq, hasF_eq, setF_eq]
noncomputable def delF (kvs : List (D × D)) (k : D) : List (D × D) := List.rec (motive := fun _ => List (D × D)) [] (fun p _ ih => bi (eqvF p.1 k) ih (p :: ih)) kvs
theorem delF_eq (k : D) : ∀ kvs : List (D × D), dDel kvs k = delF kvs k
  | [] => rfl
  | p :: r => by
    have ih := delF_eq k r
    unfold dDel at ih ⊢
    rw [List.filter_cons, ih]
    show _ = bi (eqvF p.1 k) (delF r k) (p :: delF r k)
    rw [eqvF_eq]
    cases eqvF p.1 k <;> rfl
noncomputable def putsF (ps : List (D × D)) : List (D × D) → List (D × D) := List.rec (motive := fun _ => List (D × D) → List (D × D)) (fun kvs => kvs) (fun p _ ih kvs => ih (putF kvs p.1 p.2)) ps
theorem putsF_eq : ∀ (ps kvs : List (D × D)), dPutAll kvs ps = putsF ps kvs
  | [], _ => rfl
  | p :: r, kvs => by
    rw [dPutAll, putsF_eq r, putF_eq]
    rfl
theorem keysF_eq : ∀ (ps kvs : List (D × D)), keysOk kvs ps = allF (fun p => keyF p.1) ps
  | [], _ => rfl
  | p :: r, kvs => by
    rw [keysOk, keysF_eq r]
    show (isTupKey p.1 && _) = bi (keyF p.1) _ false
    rw [keyF_eq]
    cases keyF p.1 <;> rfl
/-! ### sorting -/
theorem ins_congr {α : Type} {le le' : α → α → Bool} (x : α) : ∀ ys : List α, (∀ y ∈ ys, le x y = le' x y) → ins le x ys = ins le' x ys
  | [], _ => rfl
  | y :: ys, h => by
    rw [ins, ins, h y (List.mem_cons_self ..), ins_congr x ys fun z hz => h z (List.mem_cons_of_mem _ hz)]
theorem ins_mem {α : Type} (le : α → α → Bool) (x : α) : ∀ (ys : List α) {z : α}, z ∈ ins le x ys → z = x ∨ z ∈ ys
  | [], z, h => by rw [ins, List.mem_singleton] at h; exact .inl h
  | y :: ys, z, h => by
    rw [ins] at h
    split at h
    · rcases List.mem_cons.mp h with h | h
      · exact .inl h
      · exact .inr h
    · rcases List.mem_cons.mp h with h | h
      · exact .inr (h ▸ List.mem_cons_self ..)
      · rcases ins_mem le x ys h with h | h
        · exact .inl h
        · exact .inr (List.mem_cons_of_mem _ h)
theorem isort_mem {α : Type} (le : α → α → Bool) : ∀ (ys : List α) {z : α}, z ∈ isort le ys → z ∈ ys
  | [], z, h => h
  | y :: ys, z, h => by
    rw [isort] at h
    rcases ins_mem le y _ h with h | h
    · exact h ▸ List.mem_cons_self ..
    · exact List.mem_cons_of_mem _ (isort_mem le ys h)
theorem isort_congr {α : Type} {le le' : α → α → Bool} : ∀ ys : List α, (∀ x ∈ ys, ∀ y ∈ ys, le x y = le' x y) → isort le ys = isort le' ys
  | [], _ => rfl
  | y :: ys, h => by
    rw [isort, isort, isort_congr ys fun a ha b hb => h a (List.mem_cons_of_mem _ ha) b (List.mem_cons_of_mem _ hb)]
    exact ins_congr y _ fun z hz => h y (List.mem_cons_self ..) z (List.mem_cons_of_mem _ (isort_mem _ _ hz))
noncomputable def insF {α : Type} (lt : α → α → Bool) (x : α) (ys : List α) : List α := List.rec (motive := fun _ => List α) [x] (fun y ys ih => bi (lt y x) (y :: ih) (x :: y :: ys)) ys
theorem insF_eq {α : Type} (lt : α → α → Bool) (x : α) : ∀ ys : List α, ins (fun a b => !lt b a) x ys = insF lt x ys
  | [] => rfl
  | y :: ys => by
    rw [ins, insF_eq lt x ys]
    show _ = bi (lt y x) (y :: insF lt x ys) (x :: y :: ys)
    cases lt y x <;> rfl
noncomputable def isortF {α : Type} (lt : α → α → Bool) (xs : List α) : List α := List.rec (motive := fun _ => List α) [] (fun x _ ih => insF lt x ih) xs
theorem isortF_eq {α : Type} (lt : α → α → Bool) : ∀ xs : List α, isort (fun a b => !lt b a) xs = isortF lt xs
  | [] => rfl
  | x :: xs => by
    rw [isort, isortF_eq lt xs, insF_eq]
    rfl
/-- the order of lists by that of their items -/
noncomputable def ltG (f : D → D → Bool) (xs : List D) : List D → Bool := List.rec (motive := fun _ => List D → Bool) (fun ys => List.rec (motive := fun _ => Bool) false (fun _ _ _ => true) ys)
  (fun x _ ih ys => List.rec (motive := fun _ => Bool) false (fun y ys _ => bi (eqvF x y) (ih ys) (f x y)) ys) xs
theorem ltG_eq {f : D → D → Bool} : ∀ xs ys : List D, alikeAll xs ys = true → (∀ p ∈ xs.zip ys, f p.1 p.2 = dataLt p.1 p.2) → PyProof.Rows.lexLt itemOrd (keyToksAll xs) (keyToksAll ys) = ltG f xs ys
  | [], [], _, _ => lex_irrefl _
  | [], y :: ys, _, _ => by
    rw [toks_all_cons]
    simp only [keyToksAll]
    rw [lex_diff (O := itemOrd) (by simp)]
    rfl
  | x :: xs, [], _, _ => by
    rw [toks_all_cons]
    simp only [keyToksAll]
    rw [lex_diff (O := itemOrd) (by simp)]
    rfl
  | x :: xs, y :: ys, h, hf => by
    have ha := alike_all_cons h
    show _ = bi (eqvF x y) (ltG f xs ys) (f x y)
    rw [← eqvF_eq]
    cases e : PyData.eqv x y with
    | true => rw [dataLt_all_yes ha.1 e]; exact ltG_eq xs ys ha.2 fun p hp => hf p (List.mem_cons_of_mem _ hp)
    | false => rw [dataLt_all_no ha.1 e]; exact (hf (x, y) (List.mem_cons_self ..)).symm
noncomputable def ltU (f : D → D → Bool) (a b : D) : Bool := match a, b with
  | .int i, .int j => ilt i j
  | .tuple xs, .tuple ys => ltG f xs ys
  | _, _ => false
noncomputable def ltF : D → D → Bool := ltU (ltU (ltU (ltU fun _ _ => false)))
/-- shapes that sort fast -/
noncomputable def kindF (d : D) : Nat := match d with
  | .int _ => 1
  | .tuple xs => (match xs with
    | [] => 0
    | .int _ :: ys => bi (allF isI ys) 2 (match ys with
      | [.tuple zs] => bi (allF isI zs) 3 0
      | _ => 0)
    | [.tuple (.int _ :: [.tuple zs]), .tuple (.int _ :: [.tuple us])] => bi (allF isI zs) (bi (allF isI us) 4 0) 0
    | _ => 0)
  | _ => 0
theorem isI_of {d : D} (h : isI d = true) : ∃ i, d = .int i := by
  cases d with
  | int i => exact ⟨i, rfl⟩
  | _ => cases h
theorem ints_like : ∀ xs ys : List D, allF isI xs = true → allF isI ys = true → alikeAll xs ys = true ∧ ∀ (f : D → D → Bool), (∀ i j, f (.int i) (.int j) = dataLt (.int i) (.int j)) → ∀ p ∈ xs.zip ys, f p.1 p.2 = dataLt p.1 p.2
  | [], _, _, _ => ⟨by rw [alikeAll], fun f hf p hp => by simp at hp⟩
  | _ :: _, [], _, _ => ⟨by rw [alikeAll], fun f hf p hp => by simp at hp⟩
  | x :: xs, y :: ys, h1, h2 => by
    rw [allF_eq, List.all_cons, Bool.and_eq_true, ← allF_eq] at h1 h2
    obtain ⟨i, rfl⟩ := isI_of h1.1
    obtain ⟨j, rfl⟩ := isI_of h2.1
    have ih := ints_like xs ys h1.2 h2.2
    refine ⟨by rw [alikeAll, ih.1, alike]; rfl, fun f hf p hp => ?_⟩
    rw [List.zip_cons_cons] at hp
    rcases List.mem_cons.mp hp with rfl | hp
    · exact hf i j
    · exact ih.2 f hf p hp
theorem ints_low : ∀ xs : List D, allF isI xs = true → PyData.depthAll xs = 0
  | [], _ => rfl
  | x :: xs, h => by
    rw [allF_eq, List.all_cons, Bool.and_eq_true, ← allF_eq] at h
    obtain ⟨i, rfl⟩ := isI_of h.1
    show max 0 (PyData.depthAll xs) = 0
    rw [ints_low xs h.2]; rfl
theorem ilt_data (i j : Int) : ilt i j = dataLt (.int i) (.int j) := by rw [ilt_eq]; exact (DatumOrd.lt_eq i j).symm
theorem lt_ints (f : D → D → Bool) (xs ys : List D) (h1 : allF isI xs = true) (h2 : allF isI ys = true) : ltU (ltU f) (.tuple xs) (.tuple ys) = dataLt (.tuple xs) (.tuple ys) := by
  have := ints_like xs ys h1 h2
  rw [dataLt_tuple, ltG_eq (f := ltU f) xs ys this.1 (this.2 _ fun i j => ilt_data i j)]
  rfl
def K3 (d : D) : Prop := ∃ i zs, d = .tuple [.int i, .tuple zs] ∧ allF isI zs = true
def KK (k : Nat) (d : D) : Prop := match k with
  | 1 => ∃ i, d = .int i
  | 2 => ∃ x xs, d = .tuple (x :: xs) ∧ allF isI (x :: xs) = true
  | 3 => K3 d
  | 4 => ∃ a b, d = .tuple [a, b] ∧ K3 a ∧ K3 b
  | _ => True
theorem kindF_ok (d : D) : KK (kindF d) d := by
  cases d with
  | int i => exact ⟨i, rfl⟩
  | tuple xs =>
    unfold kindF
    simp only
    split
    · trivial
    · rename_i i ys
      cases h : allF isI ys with
      | true => exact ⟨_, _, rfl, h⟩
      | false =>
        clear h
        show KK (match ys with | [.tuple zs] => bi (allF isI zs) 3 0 | _ => 0) _
        split
        · rename_i zs
          cases h2 : allF isI zs with
          | true => exact ⟨_, _, rfl, h2⟩
          | false => trivial
        · trivial
    · rename_i zs _ us
      cases h1 : allF isI zs with
      | false => trivial
      | true =>
        cases h2 : allF isI us with
        | false => trivial
        | true => exact ⟨_, _, rfl, ⟨_, _, rfl, h1⟩, ⟨_, _, rfl, h2⟩⟩
    · trivial
  | _ => trivial
theorem kindF_le (d : D) : kindF d ≤ 4 := by
  unfold kindF
  split
  · decide
  · split
    · decide
    · rename_i ys
      cases allF isI ys with
      | true => show 2 ≤ 4; decide
      | false =>
        show (match ys with | [.tuple zs] => bi (allF isI zs) 3 0 | _ => 0) ≤ 4
        split
        · rename_i zs
          cases allF isI zs
          · show 0 ≤ 4; decide
          · show 3 ≤ 4; decide
        · decide
    · rename_i zs _ us
      cases allF isI zs
      · show 0 ≤ 4; decide
      · cases allF isI us
        · show 0 ≤ 4; decide
        · show 4 ≤ 4; decide
    · decide
  · decide
theorem K3_like {a b : D} (ha : K3 a) (hb : K3 b) (f : D → D → Bool) : alike a b = true ∧ ltU (ltU (ltU f)) a b = dataLt a b := by
  obtain ⟨i, zs, rfl, h1⟩ := ha
  obtain ⟨j, us, rfl, h2⟩ := hb
  have h := ints_like zs us h1 h2
  have hl : alikeAll [PyData.int i, .tuple zs] [.int j, .tuple us] = true := by simp only [alikeAll, alike, h.1, Bool.and_self]
  refine ⟨by rw [alike]; exact hl, ?_⟩
  rw [dataLt_tuple, ltG_eq (f := ltU (ltU f)) _ _ hl fun p hp => ?_]
  · rfl
  · simp only [List.zip_cons_cons, List.mem_cons] at hp
    rcases hp with rfl | rfl | hp
    · exact ilt_data i j
    · exact lt_ints f zs us h1 h2
    · cases hp
theorem KK_like {k : Nat} (h0 : k ≠ 0) (h4 : k ≤ 4) {a b : D} (ha : KK k a) (hb : KK k b) : alike a b = true ∧ ltF a b = dataLt a b := by
  match k, h0, h4, ha, hb with
  | 1, _, _, ⟨i, e⟩, ⟨j, e'⟩ =>
    subst e; subst e'
    exact ⟨by rw [alike], ilt_data i j⟩
  | 2, _, _, ⟨x, xs, e, h1⟩, ⟨y, ys, e', h2⟩ =>
    subst e; subst e'
    exact ⟨by rw [alike]; exact (ints_like _ _ h1 h2).1, lt_ints _ _ _ h1 h2⟩
  | 3, _, _, ha, hb => exact K3_like ha hb _
  | 4, _, _, ⟨a1, a2, e, h1, h2⟩, ⟨b1, b2, e', h3, h4⟩ =>
    subst e; subst e'
    have g1 := K3_like h1 h3 fun _ _ => false
    have g2 := K3_like h2 h4 fun _ _ => false
    have hl : alikeAll [a1, a2] [b1, b2] = true := by simp only [alikeAll, g1.1, g2.1, Bool.and_self]
    refine ⟨by rw [alike]; exact hl, ?_⟩
    rw [dataLt_tuple, ltG_eq (f := ltU (ltU (ltU fun _ _ => false))) _ _ hl fun p hp => ?_]
    · rfl
    · simp only [List.zip_cons_cons, List.mem_cons] at hp
      rcases hp with rfl | rfl | hp
      · exact g1.2
      · exact g2.2
      · cases hp
theorem K3_depth {a : D} (ha : K3 a) : a.depth ≤ 3 := by
  obtain ⟨i, zs, rfl, h1⟩ := ha
  show max 0 (max (PyData.depthAll zs + 1) 0) + 1 ≤ 3
  rw [ints_low zs h1]; decide
theorem KK_low {k : Nat} (h0 : k ≠ 0) (h4 : k ≤ 4) {a : D} (ha : KK k a) : low a = true ∧ (if k = 1 then isOther a = true else isTup1 a = true) := by
  match k, h0, h4, ha with
  | 1, _, _, ⟨i, e⟩ => subst e; exact ⟨rfl, rfl⟩
  | 2, _, _, ⟨x, xs, e, h1⟩ =>
    subst e
    refine ⟨?_, rfl⟩
    show Nat.ble (PyData.depthAll (x :: xs) + 1) 64 = true
    rw [ints_low _ h1]; rfl
  | 3, _, _, h =>
    have := K3_depth h
    obtain ⟨i, zs, rfl, h1⟩ := h
    exact ⟨Nat.ble_eq_true_of_le (by omega), rfl⟩
  | 4, _, _, ⟨a1, a2, e, h1, h2⟩ =>
    subst e
    have g1 := K3_depth h1
    have g2 := K3_depth h2
    refine ⟨Nat.ble_eq_true_of_le ?_, rfl⟩
    show max a1.depth (max a2.depth 0) + 1 ≤ 64
    omega
noncomputable def sameK (ks : List D) : Bool := List.rec (motive := fun _ => Bool) true (fun x r _ => bi (Nat.beq (kindF x) 0) false (allF (fun y => Nat.beq (kindF y) (kindF x)) r)) ks
theorem sameK_ok {ks : List D} (h : sameK ks = true) : sortable ks = true ∧ ∀ x ∈ ks, ∀ y ∈ ks, dataLt x y = ltF x y := by
  cases ks with
  | nil => exact ⟨rfl, fun x hx => by cases hx⟩
  | cons x r =>
    have h : bi (Nat.beq (kindF x) 0) false (allF (fun y => Nat.beq (kindF y) (kindF x)) r) = true := h
    cases h0 : Nat.beq (kindF x) 0 with
    | true => rw [h0] at h; cases h
    | false =>
      rw [h0] at h
      have h : allF (fun y => Nat.beq (kindF y) (kindF x)) r = true := h
      rw [allF_eq, List.all_eq_true] at h
      have hz : kindF x ≠ 0 := fun e => by rw [e] at h0; cases h0
      have h4 := kindF_le x
      have hk : ∀ y ∈ x :: r, KK (kindF x) y := fun y hy => by
        rcases List.mem_cons.mp hy with rfl | hy
        · exact kindF_ok y
        · have := kindF_ok y
          rw [Nat.eq_of_beq_eq_true (h y hy)] at this
          exact this
      refine ⟨?_, fun a ha b hb => (KK_like hz h4 (hk a ha) (hk b hb)).2.symm⟩
      unfold sortable allAlike
      rw [Bool.and_eq_true, Bool.and_eq_true]
      refine ⟨⟨?_, ?_⟩, ?_⟩
      · rw [List.all_eq_true]; intro a ha; rw [List.all_eq_true]; intro b hb
        exact (KK_like hz h4 (hk a ha) (hk b hb)).1
      · rw [List.all_eq_true]; intro a ha
        exact (KK_low hz h4 (hk a ha)).1
      · by_cases h1 : kindF x = 1
        · have : (x :: r).all isOther = true := by
            rw [List.all_eq_true]; intro a ha
            have := (KK_low hz h4 (hk a ha)).2
            rw [if_pos h1] at this; exact this
          rw [this, Bool.or_true]
        · have : (x :: r).all isTup1 = true := by
            rw [List.all_eq_true]; intro a ha
            have := (KK_low hz h4 (hk a ha)).2
            rw [if_neg h1] at this; exact this
          rw [this, Bool.true_or]
noncomputable def sortF (xs : List D) : Option (List D) := bi (sameK xs) (some (isortF ltF xs)) (sortD xs)
theorem sortF_eq (xs : List D) : sortD xs = sortF xs := by
  unfold sortF
  cases h : sameK xs with
  | false => rfl
  | true =>
    have := sameK_ok h
    unfold sortD
    rw [this.1, if_pos rfl, ← isortF_eq]
    show some _ = some _
    congr 1
    exact isort_congr xs fun a ha b hb => by unfold leD; rw [this.2 b hb a ha]
noncomputable def sortK (ks : List (D × D)) : Option (List D) := bi (sameK (ks.map (·.1))) (some ((isortF (fun a b => ltF a.1 b.1) ks).map (·.2))) (if sortable (ks.map (·.1)) then some (sortBy ks) else none)
theorem sortK_eq (ks : List (D × D)) : (if sortable (ks.map (·.1)) = true then some (sortBy ks) else none) = sortK ks := by
  unfold sortK
  cases h : sameK (ks.map (·.1)) with
  | false => rfl
  | true =>
    have := sameK_ok h
    rw [this.1, if_pos rfl, ← isortF_eq]
    show some _ = some _
    congr 1
    unfold sortBy
    congr 1
    exact isort_congr ks fun a ha b hb => by
      show leD a.1 b.1 = _
      unfold leD
      rw [this.2 b.1 (List.mem_map.mpr ⟨b, hb, rfl⟩) a.1 (List.mem_map.mpr ⟨a, ha, rfl⟩)]
noncomputable def ltDF (a b : D) : Option Bool := bi (sameK [a, b]) (some (ltF a b)) (ltD a b)
theorem ltDF_eq (a b : D) : ltD a b = ltDF a b := by
  unfold ltDF
  cases h : sameK [a, b] with
  | false => rfl
  | true =>
    have := sameK_ok h
    have h1 := this.1
    unfold sortable allAlike at h1
    simp only [List.all_cons, List.all_nil, Bool.and_true, Bool.and_eq_true] at h1
    unfold ltD
    rw [h1.1.1.1.2, h1.1.2.1, this.2 a (by simp) b (by simp)]
    rfl
end Mx

set_option Elab.async false
set_option linter.all false
set_option maxRecDepth 100000
set_option maxHeartbeats 1000000
/-! Mf3: the pieces of expressions. -/
namespace Mx
open PySem PySem.W
variable (c : Cfg)
noncomputable def okO (o : Option D) (w : Wd) : Res Vl := Option.rec (motive := fun _ => Res Vl) .stuck (fun z => .ok (.d z) w) o
theorem okO_eq (o : Option D) (w : Wd) : ((ofO o w).bind fun z w => Res.ok (Vl.d z) w) = okO o w := by cases o <;> rfl
noncomputable def okB (o : Option Bool) (w : Wd) : Res Vl := Option.rec (motive := fun _ => Res Vl) .stuck (fun z => .ok (.d (.bool z)) w) o
theorem okB_eq (o : Option Bool) (w : Wd) : ((ofO (o.map PyData.bool) w).bind fun z w => Res.ok (Vl.d z) w) = okB o w := by cases o <;> rfl
/-! operations -/
noncomputable def addD (x y : D) : Option D := match x, y with
  | .int a, .int b => some (.int (a + b))
  | .tuple xs, .tuple ys => frc (xs ++ ys) fun l => bi (fits l.length) (some (.tuple l)) none
  | .list xs, .list ys => frc (xs ++ ys) fun l => bi (fits l.length) (some (.list l)) none
  | x, y => binD .add x y
theorem addD_eq (x y : D) : binD .add x y = addD x y := by
  cases x with
  | int a => cases y <;> rfl
  | tuple xs =>
    cases y with
    | tuple ys =>
      show (if fits (xs.length + ys.length) then some (PyData.tuple (xs ++ ys)) else none) = frc (xs ++ ys) fun l => bi (fits l.length) (some (.tuple l)) none
      rw [frc_eq, bi_eq, List.length_append]
    | _ => rfl
  | list xs =>
    cases y with
    | list ys =>
      show (if fits (xs.length + ys.length) then some (PyData.list (xs ++ ys)) else none) = frc (xs ++ ys) fun l => bi (fits l.length) (some (.list l)) none
      rw [frc_eq, bi_eq, List.length_append]
    | _ => rfl
  | _ => rfl
def subD (x y : D) : Option D := match x, y with
  | .int a, .int b => some (.int (a - b))
  | x, y => binD .sub x y
theorem subD_eq (x y : D) : binD .sub x y = subD x y := by
  cases x with
  | int a => cases y <;> rfl
  | _ => rfl
noncomputable def kB (g : D → D → Option D) (a b : KE) : KE := fun env w => db (a env w) fun x w => db (b env w) fun y w => okO (g x y) w
theorem l_add (a b : E) : ev c (.bin .add a b) = kB addD (ev c a) (ev c b) := by
  funext env w; rw [ev]; simp only [db_eq, okO_eq, addD_eq]; rfl
theorem l_sub (a b : E) : ev c (.bin .sub a b) = kB subD (ev c a) (ev c b) := by
  funext env w; rw [ev]; simp only [db_eq, okO_eq, subD_eq]; rfl
theorem l_mul (a b : E) : ev c (.bin .mul a b) = kB (binD .mul) (ev c a) (ev c b) := by
  funext env w; rw [ev]; simp only [db_eq, okO_eq]; rfl
theorem l_fdiv (a b : E) : ev c (.bin .fdiv a b) = kB (binD .fdiv) (ev c a) (ev c b) := by
  funext env w; rw [ev]; simp only [db_eq, okO_eq]; rfl
theorem l_mod (a b : E) : ev c (.bin .mod a b) = kB (binD .mod) (ev c a) (ev c b) := by
  funext env w; rw [ev]; simp only [db_eq, okO_eq]; rfl
theorem l_pow (a b : E) : ev c (.bin .pow a b) = kB (binD .pow) (ev c a) (ev c b) := by
  funext env w; rw [ev]; simp only [db_eq, okO_eq]; rfl
noncomputable def kNeg (a : KE) : KE := fun env w => nb (a env w) fun i w => .ok (.d (.int (-i))) w
theorem l_neg (a : E) : ev c (.neg a) = kNeg (ev c a) := by
  funext env w
  rw [ev, db_eq]
  unfold kNeg nb
  congr 1
noncomputable def kNot (a : KE) : KE := fun env w => tb_ (a env w) fun b w => .ok (.d (.bool (bi b false true))) w
theorem l_not (a : E) : ev c (.not a) = kNot (ev c a) := by
  funext env w
  rw [ev, tb_eq]
  unfold kNot
  congr 1
  funext b w
  cases b <;> rfl
noncomputable def kTru (a : KE) : KL Bool := fun env w => tb_ (a env w) fun b w => .ok b w
theorem tru_id (r : Res Vl) : r.tru = tb_ r fun b w => .ok b w := by
  rw [← tb_eq]
  cases r.tru <;> rfl
noncomputable def kAnd (a : KE) (r : KL Bool) : KL Bool := fun env w => tb_ (a env w) fun b w => bi b (r env w) (.ok false w)
noncomputable def kOr (a : KE) (r : KL Bool) : KL Bool := fun env w => tb_ (a env w) fun b w => bi b (.ok true w) (r env w)
noncomputable def kBool (r : KL Bool) : KE := fun env w => rb (r env w) fun b w => .ok (.d (.bool b)) w
theorem l_and (es : Es) : ev c (.and es) = kBool (evAnd c es) := by funext env w; rw [ev, rb_eq]; rfl
theorem l_or (es : Es) : ev c (.or es) = kBool (evOr c es) := by funext env w; rw [ev, rb_eq]; rfl
theorem l_and1 (e : E) : evAnd c (.cons e .nil) = kTru (ev c e) := by funext env w; rw [evAnd, tru_id]; rfl
theorem l_and2 (e e2 : E) (r : Es) : evAnd c (.cons e (.cons e2 r)) = kAnd (ev c e) (evAnd c (.cons e2 r)) := by
  funext env w; rw [evAnd, tb_eq]; simp only [bi_eq]; rfl
theorem l_or1 (e : E) : evOr c (.cons e .nil) = kTru (ev c e) := by funext env w; rw [evOr, tru_id]; rfl
theorem l_or2 (e e2 : E) (r : Es) : evOr c (.cons e (.cons e2 r)) = kOr (ev c e) (evOr c (.cons e2 r)) := by
  funext env w; rw [evOr, tb_eq]; simp only [bi_eq]; rfl
/-! comparisons -/
noncomputable def inD (x y : D) : Option Bool := match y with
  | .list xs => inF x xs
  | .tuple xs => inF x xs
  | .dict kvs => bi (keyF x) (some (hasF kvs x)) none
  | y => cmpD .inn x y
theorem inD_eq (x y : D) : cmpD .inn x y = inD x y := by
  have h1 : ∀ xs, cmpD .inn x (.list xs) = inL x xs := fun xs => by cases x <;> rfl
  have h2 : ∀ xs, cmpD .inn x (.tuple xs) = inL x xs := fun xs => by cases x <;> rfl
  have h3 : ∀ kvs, cmpD .inn x (.dict kvs) = if isTupKey x then some (dHas kvs x) else none := fun kvs => by cases x <;> rfl
  cases y with
  | list xs => rw [h1, inF_eq]; rfl
  | tuple xs => rw [h2, inF_eq]; rfl
  | dict kvs => rw [h3, bi_eq, keyF_eq, hasF_eq]; rfl
  | _ => rfl
noncomputable def notO (o : Option Bool) : Option Bool := Option.rec (motive := fun _ => Option Bool) none (fun b => some (bi b false true)) o
theorem notO_eq (o : Option Bool) : o.map (!·) = notO o := by
  cases o with
  | none => rfl
  | some b => cases b <;> rfl
theorem nin_eq (x y : D) : cmpD .nin x y = notO (inD x y) := by
  rw [← inD_eq, ← notO_eq]
  cases y with
  | dict kvs =>
    have h3 : cmpD .inn x (.dict kvs) = if isTupKey x then some (dHas kvs x) else none := by cases x <;> rfl
    have h4 : cmpD .nin x (.dict kvs) = if isTupKey x then some (!dHas kvs x) else none := by cases x <;> rfl
    rw [h3, h4]
    cases isTupKey x <;> rfl
  | list xs => cases x <;> rfl
  | tuple xs => cases x <;> rfl
  | _ => cases x <;> rfl
noncomputable def ltO (x y : D) : Option Bool := match x, y with
  | .int a, .int b => some (ilt a b)
  | .tuple xs, .tuple ys => ltDF (.tuple xs) (.tuple ys)
  | x, y => cmpD .lt x y
theorem ltO_eq (x y : D) : cmpD .lt x y = ltO x y := by
  cases x with
  | int a =>
    cases y with
    | int b => show some (decide (a < b)) = some (ilt a b); rw [ilt_eq]
    | _ => rfl
  | tuple xs =>
    cases y with
    | tuple ys => show ltD _ _ = ltDF _ _; rw [ltDF_eq]
    | _ => rfl
  | _ => rfl
noncomputable def leO (x y : D) : Option Bool := match x, y with
  | .int a, .int b => some (bi (ilt b a) false true)
  | x, y => cmpD .le x y
theorem leO_eq (x y : D) : cmpD .le x y = leO x y := by
  cases x with
  | int a =>
    cases y with
    | int b =>
      show some (decide (a ≤ b)) = some (bi (ilt b a) false true)
      rw [ilt_eq]
      by_cases h : b < a
      · rw [decide_eq_true h, decide_eq_false (by omega)]; rfl
      · rw [decide_eq_false h, decide_eq_true (by omega)]; rfl
    | _ => rfl
  | _ => rfl
noncomputable def gtO (x y : D) : Option Bool := match x, y with
  | .int a, .int b => some (ilt b a)
  | x, y => cmpD .gt x y
theorem gtO_eq (x y : D) : cmpD .gt x y = gtO x y := by
  cases x with
  | int a =>
    cases y with
    | int b => show some (decide (b < a)) = some (ilt b a); rw [ilt_eq]
    | _ => rfl
  | _ => rfl
noncomputable def geO (x y : D) : Option Bool := match x, y with
  | .int a, .int b => some (bi (ilt a b) false true)
  | x, y => cmpD .ge x y
theorem geO_eq (x y : D) : cmpD .ge x y = geO x y := by
  cases x with
  | int a =>
    cases y with
    | int b =>
      show some (decide (b ≤ a)) = some (bi (ilt a b) false true)
      rw [ilt_eq]
      by_cases h : a < b
      · rw [decide_eq_true h, decide_eq_false (by omega)]; rfl
      · rw [decide_eq_false h, decide_eq_true (by omega)]; rfl
    | _ => rfl
  | _ => rfl
noncomputable def neO (x y : D) : Option Bool := notO (eqF x y)
noncomputable def ninO (x y : D) : Option Bool := notO (inD x y)
theorem eqO_eq (x y : D) : cmpD .eq x y = eqF x y := by
  show eqD x y = _
  exact eqF_eq x y
theorem neO_eq (x y : D) : cmpD .ne x y = neO x y := by
  show (eqD x y).map _ = _
  rw [eqF_eq, notO_eq]; rfl
theorem cmpE (op : Cop) (h : op ≠ .is ∧ op ≠ .isnt) (a b : E) (env : Env) (w : Wd) : ev c (.cmp op a b) env w = (ev c a env w).dat.bind fun x w => (ev c b env w).dat.bind fun y w => (ofO (cmpG op x y) w).bind fun z w => .ok (.d z) w := by
  cases op <;> first | exact absurd rfl h.1 | exact absurd rfl h.2 | rfl
noncomputable def kC (g : D → D → Option Bool) (a b : KE) : KE := fun env w => db (a env w) fun x w => db (b env w) fun y w => okB (g x y) w
theorem l_eq (a b : E) : ev c (.cmp .eq a b) = kC eqF (ev c a) (ev c b) := by funext env w; rw [cmpE c _ (by decide)]; simp only [db_eq, cmpG, okB_eq, eqO_eq]; rfl
theorem l_ne (a b : E) : ev c (.cmp .ne a b) = kC neO (ev c a) (ev c b) := by funext env w; rw [cmpE c _ (by decide)]; simp only [db_eq, cmpG, okB_eq, neO_eq]; rfl
theorem l_lt (a b : E) : ev c (.cmp .lt a b) = kC ltO (ev c a) (ev c b) := by funext env w; rw [cmpE c _ (by decide)]; simp only [db_eq, cmpG, okB_eq, ltO_eq]; rfl
theorem l_le (a b : E) : ev c (.cmp .le a b) = kC leO (ev c a) (ev c b) := by funext env w; rw [cmpE c _ (by decide)]; simp only [db_eq, cmpG, okB_eq, leO_eq]; rfl
theorem l_gt (a b : E) : ev c (.cmp .gt a b) = kC gtO (ev c a) (ev c b) := by funext env w; rw [cmpE c _ (by decide)]; simp only [db_eq, cmpG, okB_eq, gtO_eq]; rfl
theorem l_ge (a b : E) : ev c (.cmp .ge a b) = kC geO (ev c a) (ev c b) := by funext env w; rw [cmpE c _ (by decide)]; simp only [db_eq, cmpG, okB_eq, geO_eq]; rfl
theorem l_inn (a b : E) : ev c (.cmp .inn a b) = kC inD (ev c a) (ev c b) := by funext env w; rw [cmpE c _ (by decide)]; simp only [db_eq, cmpG, okB_eq, inD_eq]; rfl
theorem l_nin (a b : E) : ev c (.cmp .nin a b) = kC ninO (ev c a) (ev c b) := by funext env w; rw [cmpE c _ (by decide)]; simp only [db_eq, cmpG, okB_eq, nin_eq]; rfl
noncomputable def kIs (a : KE) : KE := fun env w => rb (a env w) fun x w => .ok (.d (.bool x.isN)) w
noncomputable def kIsnt (a : KE) : KE := fun env w => rb (a env w) fun x w => .ok (.d (.bool (!x.isN))) w
theorem l_is (a b : E) : ev c (.cmp .is a b) = kIs (ev c a) := by funext env w; rw [ev]; simp only [rb_eq]; rfl
theorem l_isnt (a b : E) : ev c (.cmp .isnt a b) = kIsnt (ev c a) := by funext env w; rw [ev]; simp only [rb_eq]; rfl
noncomputable def cmpO (op : Cop) (x y : D) : Option Bool := match op with
  | .lt => ltO x y
  | .le => leO x y
  | op => cmpD op x y
theorem cmpO_eq (op : Cop) (x y : D) : cmpD op x y = cmpO op x y := by
  cases op with
  | lt => exact ltO_eq x y
  | le => exact leO_eq x y
  | _ => rfl
noncomputable def kC2 (op op' : Cop) (a b d : KE) : KE := fun env w => db (a env w) fun x w => db (b env w) fun y w => ob_ (cmpO op x y) w fun r w => bi r (db (d env w) fun z w => ob_ (cmpO op' y z) w fun r w => .ok (.d (.bool r)) w) (.ok (.d (.bool false)) w)
theorem l_cmp2 (op op' : Cop) (a b d : E) : ev c (.cmp2 op op' a b d) = kC2 op op' (ev c a) (ev c b) (ev c d) := by funext env w; rw [ev]; simp only [db_eq, ob_eq, bi_eq, cmpO_eq]; rfl
noncomputable def kIte (t a b : KE) : KE := fun env w => tb_ (t env w) fun x w => bi x (a env w) (b env w)
theorem l_ite (t a b : E) : ev c (.ite t a b) = kIte (ev c t) (ev c a) (ev c b) := by funext env w; rw [ev]; simp only [tb_eq, bi_eq]; rfl
/-! displays, items, slices -/
noncomputable def lenF {α : Type} (xs : List α) : Nat := List.rec (motive := fun _ => Nat) 0 (fun _ _ ih => Nat.succ ih) xs
noncomputable def kNil : KL (List D) := fun _ w => .ok [] w
noncomputable def kCons (a : KE) (r : KL (List D)) : KL (List D) := fun env w => db (a env w) fun x w => rb (r env w) fun xs w => .ok (x :: xs) w
theorem l_enil : evs c .nil = kNil := rfl
theorem l_econs (e : E) (r : Es) : evs c (.cons e r) = kCons (ev c e) (evs c r) := by funext env w; rw [evs]; simp only [db_eq]; simp only [rb_eq]; rfl
noncomputable def kANil : KL (List Vl) := fun _ w => .ok [] w
noncomputable def kACons (a : KE) (r : KL (List Vl)) : KL (List Vl) := fun env w => rb (a env w) fun x w => rb (r env w) fun xs w => .ok (x :: xs) w
theorem l_anil : evA c .nil = kANil := rfl
theorem l_acons (e : E) (r : Es) : evA c (.cons e r) = kACons (ev c e) (evA c r) := by funext env w; rw [evA]; simp only [rb_eq]; rfl
noncomputable def kTup (r : KL (List D)) : KE := fun env w => rb (r env w) fun xs w => bi (fits xs.length) (.ok (.d (.tuple xs)) w) .stuck
theorem l_tup (es : Es) : ev c (.tup es) = kTup (evs c es) := by funext env w; rw [ev]; simp only [rb_eq, bi_eq]; rfl
noncomputable def kLst (r : KL (List D)) : KE := fun env w => rb (r env w) fun xs w => bi (fits xs.length) (.ok (.d (.list xs)) w) .stuck
theorem l_lst (es : Es) : ev c (.lst es) = kLst (evs c es) := by funext env w; rw [ev]; simp only [rb_eq, bi_eq]; rfl
noncomputable def idxF (x y : D) : Option D := match x with
  | .dict kvs => bi (keyF y) (getF kvs y) none
  | x => idxD x y
theorem idxF_eq (x y : D) : idxD x y = idxF x y := by
  cases x with
  | dict kvs =>
    have h : idxD (.dict kvs) y = if isTupKey y then dGet kvs y else none := by cases y <;> rfl
    rw [h, bi_eq, keyF_eq, getF_eq]; rfl
  | _ => rfl
theorem l_idx (a i : E) : ev c (.idx a i) = kB idxF (ev c a) (ev c i) := by funext env w; rw [ev]; simp only [db_eq, okO_eq, idxF_eq]; rfl
def kONone : KL (Option Int) := fun _ w => .ok none w
noncomputable def kOSome (a : KE) : KL (Option Int) := fun env w => nb (a env w) fun i w => .ok (some i) w
theorem l_onone : evO c .none = kONone := rfl
theorem l_osome (e : E) : evO c (.some e) = kOSome (ev c e) := by funext env w; rw [evO]; simp only [nb_eq]; rfl
noncomputable def sliF (x : D) (lo hi : Option Int) : Option D := match x with
  | .list xs => frc (cut xs lo hi) fun l => some (.list l)
  | .tuple xs => frc (cut xs lo hi) fun l => some (.tuple l)
  | _ => none
theorem sliF_eq (x : D) (lo hi : Option Int) : sliD x lo hi = sliF x lo hi := by
  cases x with
  | list xs => show _ = frc _ _; rw [frc_eq]; rfl
  | tuple xs => show _ = frc _ _; rw [frc_eq]; rfl
  | _ => rfl
noncomputable def kSli (a : KE) (lo hi : KL (Option Int)) : KE := fun env w => db (a env w) fun x w => rb (lo env w) fun l w => rb (hi env w) fun h w => okO (sliF x l h) w
theorem l_sli (a : E) (lo hi : Eo) : ev c (.sli a lo hi) = kSli (ev c a) (evO c lo) (evO c hi) := by funext env w; rw [ev]; simp only [db_eq, okO_eq, sliF_eq]; simp only [rb_eq]; rfl
noncomputable def kU (g : D → Option D) (a : KE) : KE := fun env w => db (a env w) fun x w => okO (g x) w
theorem l_sl3 (a : E) (k : Nat) (st : Int) : ev c (.sl3 a k st) = kU (fun x => sl3D x k st) (ev c a) := by funext env w; rw [ev]; simp only [db_eq, okO_eq]; rfl
/-! calls -/
noncomputable def kCall (f : Nat) (r : KL (List Vl)) : KE := fun env w => rb (r env w) fun xs w => c.call f xs w
theorem l_call (f : Nat) (es : Es) : ev c (.call f es) = kCall c f (evA c es) := by funext env w; rw [ev]; simp only [rb_eq]; rfl
noncomputable def dictF (x : D) : Option D := match x with
  | .tuple xs => Option.rec (motive := fun _ => Option D) none (fun ps => bi (allF (fun p => keyF p.1) ps) (some (.dict (putsF ps []))) none) (pairsD xs)
  | _ => none
theorem dictF_eq (x : D) : b1D .dict x = dictF x := by
  cases x with
  | tuple xs =>
    show (pairsD xs).bind (fun ps => if keysOk [] ps then some (PyData.dict (dPutAll [] ps)) else none) = _
    dsimp only [dictF]
    cases pairsD xs with
    | none => rfl
    | some ps =>
      rw [Option.bind_some, bi_eq, keysF_eq, putsF_eq]
  | _ => rfl
theorem l_len (e : E) : ev c (.b1 .len e) = kU lenD (ev c e) := by funext env w; rw [ev]; simp only [db_eq, okO_eq]; rfl
theorem l_abs (e : E) : ev c (.b1 .abs e) = kU (b1D .abs) (ev c e) := by funext env w; rw [ev]; simp only [db_eq, okO_eq]; rfl
theorem l_int (e : E) : ev c (.b1 .int e) = kU (b1D .int) (ev c e) := by funext env w; rw [ev]; simp only [db_eq, okO_eq]; rfl
theorem l_str (e : E) : ev c (.b1 .str e) = kU (b1D .str) (ev c e) := by funext env w; rw [ev]; simp only [db_eq, okO_eq]; rfl
theorem l_dict (e : E) : ev c (.b1 .dict e) = kU dictF (ev c e) := by funext env w; rw [ev]; simp only [db_eq, okO_eq, dictF_eq]; rfl
/-! what is called with an iterable -/
noncomputable def sortedF (x : D) : Option D := match x with
  | .list xs => bi (fits xs.length) (Option.rec (motive := fun _ => Option D) none (fun l => frc l fun l => some (.list l)) (sortF xs)) none
  | _ => none
theorem sortedF_eq (x : D) : bitD .sorted x = sortedF x := by
  cases x with
  | list xs =>
    show (if fits xs.length then (sortD xs).map PyData.list else none) = _
    rw [sortF_eq]
    dsimp only [sortedF]
    rw [bi_eq]
    cases sortF xs with
    | none => rfl
    | some l => congr 1; show some (PyData.list l) = frc l _; rw [frc_eq]
  | _ => rfl
noncomputable def bAll (x : D) (b : Bool) : Option Bool := match x with
  | .bool a => some (bi a b false)
  | _ => none
noncomputable def bAny (x : D) (b : Bool) : Option Bool := match x with
  | .bool a => some (bi a true b)
  | _ => none
noncomputable def allF2 (xs : List D) : Option Bool := List.rec (motive := fun _ => Option Bool) (some true) (fun x _ ih => Option.rec (motive := fun _ => Option Bool) none (fun b => bAll x b) ih) xs
theorem allF2_eq : ∀ xs : List D, (allB xs).map (fun bs => bs.all id) = allF2 xs
  | [] => rfl
  | x :: xs => by
    have ih := allF2_eq xs
    show _ = Option.rec (motive := fun _ => Option Bool) none (fun b => bAll x b) (allF2 xs)
    rw [← ih]
    cases x with
    | bool a =>
      show ((allB xs).map fun l => a :: l).map _ = _
      cases allB xs with
      | none => rfl
      | some l => cases a <;> rfl
    | _ =>
      show none = _
      cases allB xs <;> rfl
noncomputable def anyF2 (xs : List D) : Option Bool := List.rec (motive := fun _ => Option Bool) (some false) (fun x _ ih => Option.rec (motive := fun _ => Option Bool) none (fun b => bAny x b) ih) xs
theorem anyF2_eq : ∀ xs : List D, (allB xs).map (fun bs => bs.any id) = anyF2 xs
  | [] => rfl
  | x :: xs => by
    have ih := anyF2_eq xs
    show _ = Option.rec (motive := fun _ => Option Bool) none (fun b => bAny x b) (anyF2 xs)
    rw [← ih]
    cases x with
    | bool a =>
      show ((allB xs).map fun l => a :: l).map _ = _
      cases allB xs with
      | none => rfl
      | some l => cases a <;> rfl
    | _ =>
      show none = _
      cases allB xs <;> rfl
noncomputable def blO (o : Option Bool) : Option D := Option.rec (motive := fun _ => Option D) none (fun b => some (.bool b)) o
noncomputable def bitF (b : Bi) (x : D) : Option D := match b, x with
  | .sorted, x => sortedF x
  | .all, .list xs => blO (allF2 xs)
  | .any, .list xs => blO (anyF2 xs)
  | b, x => bitD b x
theorem bitF_eq (b : Bi) (x : D) : bitD b x = bitF b x := by
  cases b with
  | sorted => exact sortedF_eq x
  | all =>
    cases x with
    | list xs =>
      show (allB xs).map (fun bs => PyData.bool (bs.all id)) = blO (allF2 xs)
      rw [← allF2_eq]
      cases allB xs <;> rfl
    | _ => rfl
  | any =>
    cases x with
    | list xs =>
      show (allB xs).map (fun bs => PyData.bool (bs.any id)) = blO (anyF2 xs)
      rw [← anyF2_eq]
      cases allB xs <;> rfl
    | _ => rfl
  | _ => rfl
theorem l_bitS (b : Bi) (e : E) : ev c (.bit b (.seq e)) = kU (bitF b) (ev c e) := by funext env w; cases b <;> (rw [ev]; simp only [db_eq, okO_eq, bitF_eq]; rfl)
noncomputable def kBit (b : Bi) (it : KL (List D)) : KE := fun env w => rb (it env w) fun xs w => bi (fits xs.length) (okO (bitF b (.list xs)) w) .stuck
noncomputable def kLz (a b : KE) : KE := fun env w => db (a env w) fun x w => db (b env w) fun y w => okO (lzD x y) w
theorem l_bitZ (a b : E) : ev c (.bit .list (.zip a b)) = kLz (ev c a) (ev c b) := by funext env w; rw [ev]; simp only [db_eq, okO_eq]; rfl
end Mx

set_option Elab.async false
set_option linter.all false
set_option maxRecDepth 100000
set_option maxHeartbeats 1000000
/-! Mf4: the pieces of comprehensions, objects, statements. -/
namespace Mx
open PySem PySem.W
variable (c : Cfg)
/-! iterables -/
noncomputable def kSeq (a : KE) : KL (List D) := fun env w => db (a env w) fun x w => match x with
  | .list xs => .ok xs w
  | .tuple xs => .ok xs w
  | .dict kvs => .ok (kvs.map (·.1)) w
  | _ => .stuck
theorem l_seq (e : E) : evI c (.seq e) = kSeq (ev c e) := by
  funext env w
  rw [evI, db_eq]
  unfold kSeq
  congr 1
noncomputable def kRng1 (a : KE) : KL (List D) := fun env w => nb (a env w) fun n w => bi (in62 n) (.ok (rangeD 0 n.toNat) w) .stuck
theorem l_rng1 (a : E) : evI c (.rng1 a) = kRng1 (ev c a) := by funext env w; rw [evI]; simp only [nb_eq, bi_eq]; rfl
noncomputable def kRng2 (a b : KE) : KL (List D) := fun env w => nb (a env w) fun m w => nb (b env w) fun n w => bi (in62 m && in62 n) (.ok (rangeD m (n - m).toNat) w) .stuck
theorem l_rng2 (a b : E) : evI c (.rng2 a b) = kRng2 (ev c a) (ev c b) := by funext env w; rw [evI]; simp only [nb_eq, bi_eq]; rfl
noncomputable def kRng3 (a b : KE) (st : Int) : KL (List D) := fun env w => nb (a env w) fun m w => nb (b env w) fun n w => bi (in62 m && in62 n && decide (st = 2)) (.ok (rng3D m st ((n - m + 1) / 2).toNat) w) .stuck
theorem l_rng3 (a b : E) (st : Int) : evI c (.rng3 a b st) = kRng3 (ev c a) (ev c b) st := by funext env w; rw [evI]; simp only [nb_eq, bi_eq]; rfl
noncomputable def kO {α : Type} (o : Option α) (w : Wd) : Res α := Option.rec (motive := fun _ => Res α) .stuck (fun a => .ok a w) o
noncomputable def kZip (a b : KE) : KL (List D) := fun env w => db (a env w) fun x w => db (b env w) fun y w => kO (zipX x y) w
theorem l_zip (a b : E) : evI c (.zip a b) = kZip (ev c a) (ev c b) := by
  funext env w
  rw [evI]
  simp only [db_eq]
  unfold kZip
  congr 1; funext x w; congr 1; funext y w
  cases zipX x y <;> rfl
noncomputable def kZip3 (a b d : KE) : KL (List D) := fun env w => db (a env w) fun x w => db (b env w) fun y w => db (d env w) fun z w => match itemsD x, itemsD y, itemsD z with
    | some xs, some ys, some zs => .ok (zip3D xs ys zs) w
    | _, _, _ => .stuck
theorem l_zip3 (a b d : E) : evI c (.zip3 a b d) = kZip3 (ev c a) (ev c b) (ev c d) := by
  funext env w
  rw [evI]
  simp only [db_eq]
  unfold kZip3
  congr 1
noncomputable def kEnu (a : KE) : KL (List D) := fun env w => db (a env w) fun x w => ob_ (itemsD x) w fun xs w => .ok (enuD 0 xs) w
theorem l_enu (e : E) : evI c (.enu e) = kEnu (ev c e) := by funext env w; rw [evI]; simp only [db_eq, ob_eq]; rfl
noncomputable def kKeys (a : KE) : KL (List D) := fun env w => db (a env w) fun x w => ob_ (dctOf x) w fun kvs w => .ok (kvs.map (·.1)) w
theorem l_keys (e : E) : evI c (.keys e) = kKeys (ev c e) := by funext env w; rw [evI]; simp only [db_eq, ob_eq]; rfl
noncomputable def kVals (a : KE) : KL (List D) := fun env w => db (a env w) fun x w => ob_ (dctOf x) w fun kvs w => .ok (kvs.map (·.2)) w
theorem l_vals (e : E) : evI c (.vals e) = kVals (ev c e) := by funext env w; rw [evI]; simp only [db_eq, ob_eq]; rfl
noncomputable def kItems (a : KE) : KL (List D) := fun env w => db (a env w) fun x w => ob_ (dctOf x) w fun kvs w => .ok (kvs.map fun p => .tuple [p.1, p.2]) w
theorem l_items (e : E) : evI c (.items e) = kItems (ev c e) := by funext env w; rw [evI]; simp only [db_eq, ob_eq]; rfl
/-! what is called with other iterables -/
theorem bit_gen (b : Bi) (it : It) (h1 : ∀ e, it ≠ .seq e) (h2 : ∀ x y, it ≠ .zip x y) : ev c (.bit b it) = kBit b (evI c it) := by
  funext env w
  cases it with
  | seq e => exact absurd rfl (h1 e)
  | zip x y => exact absurd rfl (h2 x y)
  | _ => cases b <;> (rw [ev] <;> first | (simp only [okO_eq, bi_eq, bitF_eq]; rw [rb_eq]; rfl) | (intros; contradiction) | (intros; simp_all))
theorem l_bitR1 (b : Bi) (a : E) : ev c (.bit b (.rng1 a)) = kBit b (evI c (.rng1 a)) := bit_gen c b _ (fun _ h => by cases h) (fun _ _ h => by cases h)
theorem l_bitR2 (b : Bi) (a a' : E) : ev c (.bit b (.rng2 a a')) = kBit b (evI c (.rng2 a a')) := bit_gen c b _ (fun _ h => by cases h) (fun _ _ h => by cases h)
theorem l_bitK (b : Bi) (a : E) : ev c (.bit b (.keys a)) = kBit b (evI c (.keys a)) := bit_gen c b _ (fun _ h => by cases h) (fun _ _ h => by cases h)
theorem l_bitV (b : Bi) (a : E) : ev c (.bit b (.vals a)) = kBit b (evI c (.vals a)) := bit_gen c b _ (fun _ h => by cases h) (fun _ _ h => by cases h)
theorem l_bitI (b : Bi) (a : E) : ev c (.bit b (.items a)) = kBit b (evI c (.items a)) := bit_gen c b _ (fun _ h => by cases h) (fun _ _ h => by cases h)
noncomputable def keyLF (call : D → Wd → Res Vl) (xs : List D) : Wd → Res (List (D × D)) := List.rec (motive := fun _ => Wd → Res (List (D × D))) (fun w => .ok [] w) (fun x _ ih w => db (call x w) fun k w => rb (ih w) fun r w => .ok ((k, x) :: r) w) xs
theorem keyLF_eq (call : D → Wd → Res Vl) : ∀ (xs : List D) (w : Wd), keyL call xs w = keyLF call xs w
  | [], _ => rfl
  | x :: xs, w => by
    rw [keyL]
    show _ = db (call x w) fun k w => rb (keyLF call xs w) fun r w => .ok ((k, x) :: r) w
    cases call x w with
    | ok v w =>
      cases v with
      | d k => show (keyL call xs w).bind _ = _; rw [keyLF_eq call xs, rb_eq]; rfl
      | ob _ => rfl
      | fn _ => rfl
    | exc _ _ _ => rfl
    | stuck => rfl
noncomputable def kSrt (f : Nat) (it : KL (List D)) : KE := fun env w => rb (it env w) fun xs w => rb (keyLF (fun x w => c.call f [.d x] w) xs w) fun ks w => bi (fits xs.length) (ob_ (sortK ks) w fun l w => .ok (.d (.list l)) w) .stuck
theorem l_srtK (f : Nat) (it : It) : ev c (.srtK f it) = kSrt c f (evI c it) := by
  funext env w
  rw [ev]
  simp only [rb_eq, keyLF_eq]
  unfold kSrt
  congr 1; funext xs w; congr 1; funext ks w
  rw [← sortK_eq]
  cases fits xs.length <;> cases sortable (ks.map (·.1)) <;> rfl
noncomputable def kIsi (t : Ty) (a : KE) : KE := fun env w => db (a env w) fun x w => .ok (.d (.bool (isiD x t))) w
theorem l_isi (e : E) (t : Ty) : ev c (.isi e t) = kIsi t (ev c e) := by funext env w; rw [ev]; simp only [db_eq]; rfl
/-! comprehensions -/
noncomputable def wipeF (own : List Nat) (env : Env) : Env := List.rec (motive := fun _ => Env) env (fun v _ ih => setE v none ih) own
theorem wipeF_eq (env : Env) : ∀ own, wipeE env own = wipeF own env
  | [] => rfl
  | v :: r => by rw [wipeE, wipeF_eq env r, setE_eq]; rfl
noncomputable def setsF (is : List Nat) : List D → Env → Option Env := List.rec (motive := fun _ => List D → Env → Option Env) (fun xs env => List.rec (motive := fun _ => Option Env) (some env) (fun _ _ _ => none) xs) (fun i _ ih xs env => List.rec (motive := fun _ => Option Env) none (fun x r _ => ih r (setE i (some (.d x)) env)) xs) is
theorem setsF_eq : ∀ (is : List Nat) (xs : List D) (env : Env), setAll env is xs = setsF is xs env
  | [], [], _ => rfl
  | [], _ :: _, _ => rfl
  | _ :: _, [], _ => rfl
  | i :: is, x :: xs, env => by rw [setAll, setsF_eq is xs, setE_eq]; rfl
noncomputable def bindF (tg : Tg) (x : D) (env : Env) : Option Env := Tg.rec (motive := fun _ => Option Env) (fun i => some (setE i (some (.d x)) env)) (fun is => match x with
  | .tuple xs => setsF is xs env
  | _ => none) tg
theorem bindF_eq (env : Env) (tg : Tg) (x : D) : bindTg env tg x = bindF tg x env := by
  cases tg with
  | name i => show some _ = some _; rw [setE_eq]
  | tup is =>
    cases x with
    | tuple xs => exact setsF_eq is xs env
    | _ => rfl
noncomputable def lcF (step : D → Wd → Res (Option D)) (xs : List D) : Wd → Res (List D) := List.rec (motive := fun _ => Wd → Res (List D)) (fun w => .ok [] w) (fun x _ ih w => rb (step x w) fun o w => rb (ih w) fun r w => Option.rec (motive := fun _ => Res (List D)) (.ok r w) (fun y => .ok (y :: r) w) o) xs
theorem lcF_eq (step : D → Wd → Res (Option D)) : ∀ (xs : List D) (w : Wd), lcL step xs w = lcF step xs w
  | [], _ => rfl
  | x :: xs, w => by
    rw [lcL, rb_eq]
    show _ = rb (step x w) fun o w => rb (lcF step xs w) fun r w => Option.rec (motive := fun _ => Res (List D)) (.ok r w) (fun y => .ok (y :: r) w) o
    congr 1; funext o w
    rw [rb_eq, lcF_eq step xs]
    congr 1; funext r w
    cases o <;> rfl
noncomputable def lccF (step : D → Wd → Res (List D)) (xs : List D) : Wd → Res (List D) := List.rec (motive := fun _ => Wd → Res (List D)) (fun w => .ok [] w) (fun x _ ih w => rb (step x w) fun o w => rb (ih w) fun r w => .ok (o ++ r) w) xs
theorem lccF_eq (step : D → Wd → Res (List D)) : ∀ (xs : List D) (w : Wd), lcLL step xs w = lccF step xs w
  | [], _ => rfl
  | x :: xs, w => by
    rw [lcLL, rb_eq]
    show _ = rb (step x w) fun o w => rb (lccF step xs w) fun r w => .ok (o ++ r) w
    congr 1; funext o w
    rw [rb_eq, lccF_eq step xs]
def kTNone : KL Bool := fun _ w => .ok true w
theorem l_tnone : evT c .none = kTNone := rfl
theorem l_tsome (e : E) : evT c (.some e) = kTru (ev c e) := by funext env w; rw [evT, tru_id]; rfl
noncomputable def kLst1 (ys : List D) (w : Wd) : Res Vl := bi (fits ys.length) (.ok (.d (.list ys)) w) .stuck
noncomputable def kLc (own : List Nat) (tg : Tg) (it : KL (List D)) (ifs : KL Bool) (elt : KE) : KE := fun env w => rb (it env w) fun xs w => rb (lcF (fun x w => ob_ (bindF tg x (wipeF own env)) w fun env' w => frc env' fun env' => rb (ifs env' w) fun t w => bi t (db (elt env' w) fun y w => .ok (some y) w) (.ok none w)) xs w) kLst1
theorem l_lc (own : List Nat) (tg : Tg) (it : It) (ifs : Eo) (elt : E) : ev c (.lc own tg it ifs elt) = kLc own tg (evI c it) (evT c ifs) (ev c elt) := by
  funext env w; rw [ev]; simp only [db_eq, ob_eq, bi_eq, lcF_eq, bindF_eq, wipeF_eq]; simp only [rb_eq]; unfold kLc; simp only [frc_eq]; rfl
noncomputable def kLc2 (own : List Nat) (tg : Tg) (it : KL (List D)) (tg2 : Tg) (it2 : KL (List D)) (ifs : KL Bool) (elt : KE) : KE := fun env w => rb (it env w) fun xs w => rb (lccF (fun x w => ob_ (bindF tg x (wipeF own env)) w fun env' w => frc env' fun env' => rb (it2 env' w) fun xs2 w => lcF (fun x w => ob_ (bindF tg2 x (wipeF tg2.ix env')) w fun env2 w => frc env2 fun env2 => rb (ifs env2 w) fun t w => bi t (db (elt env2 w) fun y w => .ok (some y) w) (.ok none w)) xs2 w) xs w) kLst1
theorem l_lc2 (own : List Nat) (tg : Tg) (it : It) (tg2 : Tg) (it2 : It) (ifs : Eo) (elt : E) : ev c (.lc2 own tg it tg2 it2 ifs elt) = kLc2 own tg (evI c it) tg2 (evI c it2) (evT c ifs) (ev c elt) := by
  funext env w; rw [ev]; simp only [db_eq, ob_eq, bi_eq, lcF_eq, lccF_eq, bindF_eq, wipeF_eq]; simp only [rb_eq]; unfold kLc2; simp only [frc_eq]; rfl
noncomputable def kDict (ys : List D) (w : Wd) : Res Vl := Option.rec (motive := fun _ => Res Vl) .stuck (fun ps => bi (fits ys.length) (bi (allF (fun p => keyF p.1) ps) (.ok (.d (.dict (putsF ps []))) w) .stuck) .stuck) (pairsD ys)
theorem kDict_eq (ys : List D) (w : Wd) : (match pairsD ys with | some ps => if fits ys.length && keysOk [] ps then Res.ok (Vl.d (.dict (dPutAll [] ps))) w else .stuck | none => .stuck) = kDict ys w := by
  unfold kDict
  cases pairsD ys with
  | none => rfl
  | some ps =>
    show (if (fits ys.length && keysOk [] ps) = true then Res.ok (Vl.d (.dict (dPutAll [] ps))) w else .stuck) = bi _ (bi _ _ _) _
    rw [keysF_eq, putsF_eq]
    cases fits ys.length <;> cases allF (fun p => keyF p.1) ps <;> rfl
noncomputable def kDc (own : List Nat) (tg : Tg) (it : KL (List D)) (k v : KE) : KE := fun env w => rb (it env w) fun xs w => rb (lcF (fun x w => ob_ (bindF tg x (wipeF own env)) w fun env' w => frc env' fun env' => db (k env' w) fun kd w => db (v env' w) fun vd w => .ok (some (.tuple [kd, vd])) w) xs w) kDict
theorem l_dc (own : List Nat) (tg : Tg) (it : It) (k v : E) : ev c (.dc own tg it k v) = kDc own tg (evI c it) (ev c k) (ev c v) := by
  funext env w; rw [ev]; simp only [db_eq, ob_eq, lcF_eq, bindF_eq, wipeF_eq]; simp only [rb_eq]; unfold kDc; simp only [frc_eq]; congr 1; funext xs w; congr 1; funext ys w; exact kDict_eq ys w
noncomputable def kDc2 (own : List Nat) (tg : Tg) (it : KL (List D)) (tg2 : Tg) (it2 : KL (List D)) (k v : KE) : KE := fun env w => rb (it env w) fun xs w => rb (lccF (fun x w => ob_ (bindF tg x (wipeF own env)) w fun env' w => frc env' fun env' => rb (it2 env' w) fun xs2 w => lcF (fun x w => ob_ (bindF tg2 x (wipeF tg2.ix env')) w fun env2 w => frc env2 fun env2 => db (k env2 w) fun kd w => db (v env2 w) fun vd w => .ok (some (.tuple [kd, vd])) w) xs2 w) xs w) kDict
theorem l_dc2 (own : List Nat) (tg : Tg) (it : It) (tg2 : Tg) (it2 : It) (k v : E) : ev c (.dc2 own tg it tg2 it2 k v) = kDc2 own tg (evI c it) tg2 (evI c it2) (ev c k) (ev c v) := by
  funext env w; rw [ev]; simp only [db_eq, ob_eq, lcF_eq, lccF_eq, bindF_eq, wipeF_eq]; simp only [rb_eq]; unfold kDc2; simp only [frc_eq]; congr 1; funext xs w; congr 1; funext ys w; exact kDict_eq ys w
noncomputable def kDct (ks vs : KL (List D)) : KE := fun env w => rb (ks env w) fun kz w => rb (vs env w) fun vz w => bi (keysOk [] (kz.zip vz) && Nat.beq kz.length vz.length && Nat.ble kz.length 15) (.ok (.d (.dict (dPutAll [] (kz.zip vz)))) w) .stuck
theorem l_dct (ks vs : Es) : ev c (.dct ks vs) = kDct (evs c ks) (evs c vs) := by funext env w; rw [ev]; simp only [rb_eq, bi_eq]; rfl
noncomputable def kCnt (a b : KE) : KE := kB (fun x y => (listD x).bind fun xs => cntG xs y) a b
theorem l_cnt (a b : E) : ev c (.cnt a b) = kCnt (ev c a) (ev c b) := by funext env w; rw [ev]; simp only [db_eq, okO_eq]; rfl
noncomputable def kIndex (a b : KE) : KE := kB (fun x y => (listD x).bind fun xs => idxG xs y) a b
theorem l_index (a b : E) : ev c (.index a b) = kIndex (ev c a) (ev c b) := by funext env w; rw [ev]; simp only [db_eq, okO_eq]; rfl
noncomputable def kGet (a b d : KE) : KE := fun env w => db (a env w) fun x w => db (b env w) fun y w => db (d env w) fun z w => match x with
    | .dict kvs => if keyFor kvs y then .ok (.d ((dGet kvs y).getD z)) w else .stuck
    | _ => .stuck
theorem l_get (a b d : E) : ev c (.get a b d) = kGet (ev c a) (ev c b) (ev c d) := by funext env w; rw [ev]; simp only [db_eq]; rfl
/-! objects -/
noncomputable def obb {β : Type} (v : Vl) (f : Nat → Res β) : Res β := Vl.rec (motive := fun _ => Res β) (fun _ => .stuck) (fun i => f i) (fun _ => .stuck) v
noncomputable def kOidx (o i : KE) : KE := fun env w => rb (o env w) fun x w => db (i env w) fun y w => obb x fun j => okO ((oget w j).bind fun d => idxF d y) w
theorem l_oidx (o i : E) : ev c (.oidx o i) = kOidx (ev c o) (ev c i) := by
  funext env w; rw [ev, rb_eq]
  unfold kOidx
  congr 1; funext x w
  rw [db_eq]
  congr 1; funext y w
  cases x with
  | ob j => show (ofO _ w).bind _ = okO _ w; rw [okO_eq]; simp only [idxF_eq]
  | _ => rfl
noncomputable def kFld (o : KE) (cl : Nat) (f : Str) : KE := fun env w => rb (o env w) fun x w => obb x fun i => kO (fldOf w i cl f) w
theorem l_fld (o : E) (cl : Nat) (f : Str) : ev c (.fld o cl f) = kFld (ev c o) cl f := by
  funext env w; rw [ev, rb_eq]
  unfold kFld
  congr 1; funext x w
  cases x with
  | ob j => show ofO _ w = kO _ w; cases fldOf w j cl f <;> rfl
  | _ => rfl
noncomputable def kMeth (o : KE) (cl m : Nat) (x : Str) (as : KL (List Vl)) : KE := fun env w => rb (o env w) fun v w => ob_ (insAt w v cl x) w fun i w => rb (as env w) fun xs w => c.call m (.ob i :: xs) w
theorem l_meth (o : E) (cl m : Nat) (x : Str) (es : Es) : ev c (.meth o cl m x es) = kMeth c (ev c o) cl m x (evA c es) := by funext env w; rw [ev]; simp only [ob_eq]; simp only [rb_eq]; rfl
noncomputable def kMk (cl m : Nat) (as : KL (List Vl)) : KE := fun env w => rb (as env w) fun xs w => frc (w ++ [.ins cl []]) fun w2 => rb (c.call m (.ob w.length :: xs) w2) fun r w' => match r with
    | .d .none => .ok (.ob w.length) w'
    | _ => .stuck
theorem l_mk (cl m : Nat) (es : Es) : ev c (.mk cl m es) = kMk c cl m (evA c es) := by funext env w; rw [ev]; simp only [rb_eq]; unfold kMk; simp only [frc_eq]; all_goals rfl
noncomputable def kCell (a : KE) : KE := fun env w => db (a env w) fun x w => match x with
    | .list xs => if flats xs then .ok (.ob w.length) (w ++ [.cell xs]) else .stuck
    | _ => .stuck
theorem l_cell (e : E) : ev c (.cell e) = kCell (ev c e) := by funext env w; rw [ev]; simp only [db_eq]; rfl
noncomputable def kDcell (a : KE) : KE := fun env w => db (a env w) fun x w => match x with
    | .dict kvs => frc (w ++ [.dct kvs]) fun w2 => .ok (.ob w.length) w2
    | _ => .stuck
theorem l_dcell (e : E) : ev c (.dcell e) = kDcell (ev c e) := by funext env w; rw [ev]; simp only [db_eq]; unfold kDcell; simp only [frc_eq]; all_goals rfl
noncomputable def kDeq0 (neg : Bool) (a : KE) : KE := fun env w => db (a env w) fun x w => match x with
    | .dict kvs => .ok (.d (.bool (if neg then !kvs.isEmpty else kvs.isEmpty))) w
    | _ => .stuck
theorem l_deq0 (neg : Bool) (e : E) : ev c (.deq0 neg e) = kDeq0 neg (ev c e) := by funext env w; rw [ev]; simp only [db_eq]; rfl
noncomputable def kRd (o : KE) : KE := fun env w => rb (o env w) fun x w => obb x fun i => okO (oget w i) w
theorem l_rd (o : E) : ev c (.rd o) = kRd (ev c o) := by
  funext env w; rw [ev, rb_eq]
  unfold kRd
  congr 1; funext x w
  cases x with
  | ob j => show (ofO _ w).bind _ = okO _ w; rw [okO_eq]
  | _ => rfl
end Mx

set_option Elab.async false
set_option linter.all false
set_option maxRecDepth 100000
set_option maxHeartbeats 1000000
/-! Mf5: the pieces of statements; calls. -/
namespace Mx
open PySem PySem.W
variable (c : Cfg)
abbrev KS := KL Fl
noncomputable def flN {β : Type} (fl : Fl) (w : Wd) (nx : Env → Res β) (ot : Fl → Res β) : Res β := Fl.rec (motive := fun _ => Res β) (fun env => nx env) (fun v => ot (.rt v)) (fun env => ot (.bk env)) (fun env => ot (.ct env)) fl
def kEnd : KS := fun env w => .ok (.nx env) w
noncomputable def kSq (s r : KS) : KS := fun env w => rb (s env w) fun fl w => Fl.rec (motive := fun _ => Res Fl) (fun env => r env w) (fun v => .ok (.rt v) w) (fun env => .ok (.bk env) w) (fun env => .ok (.ct env) w) fl
theorem l_snil : exs c .nil = kEnd := rfl
theorem l_scons (s : S) (r : Ss) : exs c (.cons s r) = kSq (ex c s) (exs c r) := by
  funext env w
  rw [exs, rb_eq]
  unfold kSq
  congr 1
  funext fl w
  cases fl <;> rfl
noncomputable def kAsg (i : Nat) (a : KE) : KS := fun env w => rb (a env w) fun v w => frc (setE i (some v) env) fun env => .ok (.nx env) w
theorem l_asg (i : Nat) (e : E) : ex c (.asg i e) = kAsg i (ev c e) := by funext env w; rw [ex]; simp only [rb_eq, setE_eq]; unfold kAsg; simp only [frc_eq]
noncomputable def kAsgT (is : List Nat) (a : KE) : KS := fun env w => db (a env w) fun x w => ob_ (bindF (.tup is) x env) w fun env' w => frc env' fun env => .ok (.nx env) w
theorem l_asgT (is : List Nat) (e : E) : ex c (.asgT is e) = kAsgT is (ev c e) := by funext env w; rw [ex]; simp only [db_eq, ob_eq, bindF_eq]; unfold kAsgT; simp only [frc_eq]
noncomputable def kPar (i j : Nat) (a b : KE) : KS := fun env w => rb (a env w) fun x w => rb (b env w) fun y w => frc (setE j (some y) (setE i (some x) env)) fun env => .ok (.nx env) w
theorem l_par (i j : Nat) (a b : E) : ex c (.par i j a b) = kPar i j (ev c a) (ev c b) := by funext env w; rw [ex]; simp only [rb_eq, setE_eq]; unfold kPar; simp only [frc_eq]
noncomputable def slF (i : Nat) (env : Env) : Option D := Option.rec (motive := fun _ => Option D) none (fun v => Vl.rec (motive := fun _ => Option D) (fun x => some x) (fun _ => none) (fun _ => none) v) (nthE i env)
theorem slF_eq (env : Env) (i : Nat) : slotD env i = slF i env := by
  unfold slotD slF
  rw [nthE_eq]
  cases env[i]? with
  | none => rfl
  | some o =>
    cases o with
    | none => rfl
    | some v => cases v <;> rfl
/-- a slot's list or dict is changed -/
noncomputable def kMod (i : Nat) (g : D → D → Option D) (a : KE) : KS := fun env w => db (a env w) fun x w => ob_ ((slF i env).bind fun l => g l x) w fun l w => frc (setE i (some (.d l)) env) fun env => .ok (.nx env) w
noncomputable def appF (l x : D) : Option D := match l with
  | .list xs => frc (xs ++ [x]) fun l => bi (fits l.length) (some (.list l)) none
  | _ => none
theorem appF_eq (l x : D) : appIn l x = appF l x := by
  cases l with
  | list xs =>
    show (if fits (xs.length + 1) then some (PyData.list (xs ++ [x])) else none) = frc _ _
    rw [frc_eq, bi_eq, List.length_append]; rfl
  | _ => rfl
theorem l_app (i : Nat) (e : E) : ex c (.app i e) = kMod i appF (ev c e) := by funext env w; rw [ex]; simp only [db_eq, ob_eq, setE_eq, slF_eq, appF_eq]; unfold kMod; simp only [frc_eq]
theorem l_ext (i : Nat) (e : E) : ex c (.ext i e) = kMod i extIn (ev c e) := by funext env w; rw [ex]; simp only [db_eq, ob_eq, setE_eq, slF_eq]; unfold kMod; simp only [frc_eq]
noncomputable def popF (l k : D) : Option D := match l with
  | .dict kvs => bi (keyF k) (bi (hasF kvs k) (bi (fits kvs.length) (some (.dict (delF kvs k))) none) none) none
  | _ => none
theorem popF_eq (l k : D) : popIn l k = popF l k := by
  cases l with
  | dict kvs =>
    show (if isTupKey k && dHas kvs k && fits kvs.length then some (PyData.dict (dDel kvs k)) else none) = bi _ (bi _ (bi _ _ _) _) _
    rw [keyF_eq, hasF_eq, delF_eq]
    cases keyF k <;> cases hasF kvs k <;> cases fits kvs.length <;> rfl
  | _ => rfl
theorem l_popK (i : Nat) (e : E) : ex c (.popK i e) = kMod i popF (ev c e) := by funext env w; rw [ex]; simp only [db_eq, ob_eq, setE_eq, slF_eq, popF_eq]; unfold kMod; simp only [frc_eq]
theorem l_upd (i : Nat) (e : E) : ex c (.upd i e) = kMod i updIn (ev c e) := by funext env w; rw [ex]; simp only [db_eq, ob_eq, setE_eq, slF_eq]; unfold kMod; simp only [frc_eq]
noncomputable def putInF (l k v : D) : Option D := match l with
  | .dict kvs => bi (keyF k) (bi (fits (kvs.length + 1)) (some (.dict (putF kvs k v))) none) none
  | l => putIn l k v
theorem putInF_eq (l k v : D) : putIn l k v = putInF l k v := by
  cases l with
  | dict kvs =>
    have h : putIn (.dict kvs) k v = if isTupKey k && fits (kvs.length + 1) then some (PyData.dict (dPut kvs k v)) else none := by cases k <;> rfl
    rw [h]
    show _ = bi _ (bi _ _ _) _
    rw [keyF_eq, putF_eq]
    cases keyF k <;> cases fits (kvs.length + 1) <;> rfl
  | _ => rfl
noncomputable def kPut (i : Nat) (k v : KE) : KS := fun env w => db (v env w) fun x w => db (k env w) fun y w => ob_ ((slF i env).bind fun l => putInF l y x) w fun l w => frc (setE i (some (.d l)) env) fun env => .ok (.nx env) w
theorem l_put (i : Nat) (k v : E) : ex c (.put i k v) = kPut i (ev c k) (ev c v) := by funext env w; rw [ex]; simp only [db_eq, ob_eq, setE_eq, slF_eq, putInF_eq]; unfold kPut; simp only [frc_eq]
noncomputable def oputF (w : Wd) (o : Nat) (k v : D) : Option Wd := match w[o]? with
  | some (.dct kvs) => bi (keyF k) (bi (fits (kvs.length + 1)) (some (w.set o (.dct (putF kvs k v)))) none) none
  | _ => oputW w o k v
theorem oputF_eq (w : Wd) (o : Nat) (k v : D) : oputW w o k v = oputF w o k v := by
  unfold oputF
  split
  · rename_i kvs h
    have e : oputW w o k v = if isTupKey k && fits (kvs.length + 1) then some (w.set o (.dct (dPut kvs k v))) else none := by
      unfold oputW
      rw [h]
      rfl
    rw [e, keyF_eq, putF_eq]
    cases keyF k <;> cases fits (kvs.length + 1) <;> rfl
  · rfl
noncomputable def kOput (o k v : KE) : KS := fun env w => db (v env w) fun x w => rb (o env w) fun ov w => db (k env w) fun y w => obb ov fun o => ob_ (oputF w o y x) w fun w' _ => frc w' fun w' => .ok (.nx env) w'
theorem l_oput (o k v : E) : ex c (.oput o k v) = kOput (ev c o) (ev c k) (ev c v) := by
  funext env w; rw [ex, db_eq]
  unfold kOput
  congr 1; funext x w
  rw [rb_eq]
  congr 1; funext ov w
  rw [db_eq]
  congr 1; funext y w
  cases ov with
  | ob j =>
    refine (ob_eq _ w _).trans ((congrArg (fun o => ob_ o w _) (oputF_eq w j y x)).trans ?_)
    show _ = ob_ (oputF w j y x) w fun w' _ => frc w' fun w' => Res.ok (Fl.nx env) w'
    simp only [frc_eq]
  | _ => rfl
noncomputable def kOapp (o e : KE) : KS := fun env w => rb (o env w) fun ov w => ob_ (cellAt w ov) w fun j w => db (e env w) fun x w => ob_ (oappW w j x) w fun w' _ => .ok (.nx env) w'
theorem l_oapp (o e : E) : ex c (.oapp o e) = kOapp (ev c o) (ev c e) := by funext env w; rw [ex]; simp only [db_eq, ob_eq]; simp only [rb_eq]; rfl
noncomputable def kFset (i cl : Nat) (f : Str) (a : KE) : KS := fun env w => rb (a env w) fun x w => Option.rec (motive := fun _ => Res Fl) .stuck (fun v => obb v fun o => ob_ (fsetW w o cl f x) w fun w' _ => frc w' fun w' => .ok (.nx env) w') (nthE i env)
theorem l_fset (i cl : Nat) (f : Str) (e : E) : ex c (.fset i cl f e) = kFset i cl f (ev c e) := by
  funext env w; rw [ex, rb_eq]
  unfold kFset
  congr 1; funext x w
  rw [nthE_eq]
  cases env[i]? with
  | none => rfl
  | some o =>
    cases o with
    | none => rfl
    | some v =>
      cases v with
      | ob j =>
        refine (ob_eq _ w _).trans ?_
        show _ = ob_ (fsetW w j cl f x) w fun w' _ => frc w' fun w' => Res.ok (Fl.nx env) w'
        simp only [frc_eq]
      | _ => rfl
noncomputable def kAug (i : Nat) (op : Bop) (a : KE) : KS := fun env w => ob_ (slF i env) w fun x w => db (a env w) fun y w => ob_ (augD op x y) w fun z w => frc (setE i (some (.d z)) env) fun env => .ok (.nx env) w
theorem l_aug (i : Nat) (op : Bop) (e : E) : ex c (.aug i op e) = kAug i op (ev c e) := by funext env w; rw [ex]; simp only [db_eq, ob_eq, setE_eq, slF_eq]; unfold kAug; simp only [frc_eq]
noncomputable def kExpr (a : KE) : KS := fun env w => rb (a env w) fun _ w => .ok (.nx env) w
theorem l_expr (e : E) : ex c (.expr e) = kExpr (ev c e) := by funext env w; rw [ex]; simp only [rb_eq]; rfl
noncomputable def kRet (a : KE) : KS := fun env w => rb (a env w) fun v w => .ok (.rt v) w
theorem l_ret (e : E) : ex c (.ret e) = kRet (ev c e) := by funext env w; rw [ex]; simp only [rb_eq]; rfl
def kRetN : KS := fun _ w => .ok (.rt (.d .none)) w
theorem l_retN : ex c .retN = kRetN := rfl
noncomputable def kIf (t : KE) (a b : KS) : KS := fun env w => tb_ (t env w) fun x w => bi x (a env w) (b env w)
theorem l_if (t : E) (a b : Ss) : ex c (.ite t a b) = kIf (ev c t) (exs c a) (exs c b) := by funext env w; rw [ex]; simp only [tb_eq, bi_eq]; rfl
noncomputable def forF (step : D → Env → Wd → Res Fl) (xs : List D) : Env → Wd → Res Fl := List.rec (motive := fun _ => Env → Wd → Res Fl) (fun env w => .ok (.nx env) w) (fun x _ ih env w => rb (step x env w) fun fl w => Fl.rec (motive := fun _ => Res Fl) (fun env => ih env w) (fun v => .ok (.rt v) w) (fun env => .ok (.nx env) w) (fun env => ih env w) fl) xs
theorem forF_eq (step : D → Env → Wd → Res Fl) : ∀ (xs : List D) (env : Env) (w : Wd), forL step xs env w = forF step xs env w
  | [], _, _ => rfl
  | x :: xs, env, w => by
    rw [forL, rb_eq]
    show _ = rb (step x env w) fun fl w => Fl.rec (motive := fun _ => Res Fl) (fun env => forF step xs env w) (fun v => .ok (.rt v) w) (fun env => .ok (.nx env) w) (fun env => forF step xs env w) fl
    congr 1; funext fl w
    cases fl with
    | nx e => exact forF_eq step xs e w
    | ct e => exact forF_eq step xs e w
    | rt v => rfl
    | bk e => rfl
noncomputable def kFor (tg : Tg) (it : KL (List D)) (b : KS) : KS := fun env w => rb (it env w) fun xs w => forF (fun x env w => ob_ (bindF tg x env) w fun env' w => frc env' fun env' => b env' w) xs env w
theorem l_for (tg : Tg) (it : It) (b : Ss) : ex c (.for_ tg it b) = kFor tg (evI c it) (exs c b) := by funext env w; rw [ex]; simp only [forF_eq, ob_eq, bindF_eq]; simp only [rb_eq]; unfold kFor; simp only [frc_eq]
noncomputable def whlF (test : KL Bool) (body : KS) (n : Nat) : Env → Wd → Res Fl := Nat.rec (motive := fun _ => Env → Wd → Res Fl) (fun _ _ => .stuck) (fun _ ih env w => rb (test env w) fun b w => bi b (rb (body env w) fun fl w => Fl.rec (motive := fun _ => Res Fl) (fun env => ih env w) (fun v => .ok (.rt v) w) (fun env => .ok (.nx env) w) (fun env => ih env w) fl) (.ok (.nx env) w)) n
theorem whlF_eq (test : KL Bool) (body : KS) : ∀ (n : Nat) (env : Env) (w : Wd), whlL test body n env w = whlF test body n env w
  | 0, _, _ => rfl
  | n + 1, env, w => by
    rw [whlL, rb_eq]
    show _ = rb (test env w) fun b w => bi b (rb (body env w) fun fl w => Fl.rec (motive := fun _ => Res Fl) (fun env => whlF test body n env w) (fun v => .ok (.rt v) w) (fun env => .ok (.nx env) w) (fun env => whlF test body n env w) fl) (.ok (.nx env) w)
    congr 1; funext b w
    rw [bi_eq]
    congr 1
    rw [rb_eq]
    congr 1; funext fl w
    cases fl with
    | nx e => exact whlF_eq test body n e w
    | ct e => exact whlF_eq test body n e w
    | rt v => rfl
    | bk e => rfl
noncomputable def kWhl (t : KE) (b : KS) : KS := whlF (kTru t) b c.fuel
theorem l_while (t : E) (b : Ss) : ex c (.while_ t b) = kWhl c (ev c t) (exs c b) := by
  funext env w; rw [ex, whlF_eq]
  unfold kWhl
  congr 1
  funext env w
  exact tru_id _
noncomputable def kRaise (cl : Nat) (as : KL (List D)) : KS := fun env w => rb (as env w) fun xs w => .exc cl xs w
theorem l_raise (cl : Nat) (es : Es) : ex c (.raise cl es) = kRaise cl (evs c es) := by funext env w; rw [ex]; simp only [rb_eq]; rfl
def kCont : KS := fun env w => .ok (.ct env) w
def kBrk : KS := fun env w => .ok (.bk env) w
def kSStuck : KS := fun _ _ => .stuck
theorem l_cont : ex c .cont = kCont := rfl
theorem l_brk : ex c .brk = kBrk := rfl
theorem l_pass : ex c .pass = kEnd := rfl
theorem l_sstuck : ex c .stuck = kSStuck := rfl
/-! ### calls -/
/-- a def for the kernel: number of parameters, number of slots to add, body -/
structure Kd where
  np : Nat
  more : List (Option Vl)
  body : Cfg → KS
noncomputable def sameL {α : Type} (xs : List α) : List α → Bool := List.rec (motive := fun _ => List α → Bool) (fun ys => List.rec (motive := fun _ => Bool) true (fun _ _ _ => false) ys) (fun _ _ ih ys => List.rec (motive := fun _ => Bool) false (fun _ ys _ => ih ys) ys) xs
theorem sameL_eq {α : Type} : ∀ xs ys : List α, Nat.beq xs.length ys.length = sameL xs ys
  | [], [] => rfl
  | [], _ :: _ => rfl
  | _ :: _, [] => rfl
  | _ :: xs, _ :: ys => sameL_eq xs ys
noncomputable def fin (w0 : Wd) (v : Vl) (w : Wd) : Res Vl := bi (sameL w w0) (.ok v w) (frc (trim w0.length v w) fun w => .ok v w)
theorem fin_eq (w0 : Wd) (v : Vl) (w : Wd) : Res.ok v (trim w0.length v w) = fin w0 v w := by
  unfold fin
  rw [frc_eq, ← sameL_eq]
  cases h : Nat.beq w.length w0.length with
  | false => rfl
  | true =>
    show _ = Res.ok v w
    rw [← Nat.eq_of_beq_eq_true h, trim_self]
noncomputable def outK (w0 : Wd) (fl : Fl) (w : Wd) : Res Vl := Fl.rec (motive := fun _ => Res Vl) (fun _ => fin w0 (.d .none) w) (fun v => fin w0 v w) (fun _ => .stuck) (fun _ => .stuck) fl
noncomputable def startK (vs : List Vl) (more : List (Option Vl)) : Env := List.rec (motive := fun _ => Env) more (fun v _ ih => some v :: ih) vs
theorem startK_eq : ∀ (vs : List Vl) (more : List (Option Vl)), vs.map some ++ more = startK vs more
  | [], _ => rfl
  | v :: vs, more => by rw [List.map_cons, List.cons_append, startK_eq vs]; rfl
noncomputable def runK (d : Kd) (c : Cfg) (vs : List Vl) (w : Wd) : Res Vl := bi (Nat.beq vs.length d.np) (rb (d.body c (startK vs d.more) w) (outK w)) .stuck
noncomputable def callK (tab : Nat → Option Kd) (F n : Nat) : Nat → List Vl → Wd → Res Vl := Nat.rec (motive := fun _ => Nat → List Vl → Wd → Res Vl) (fun _ _ _ => .stuck) (fun _ ih f vs w => Option.rec (motive := fun _ => Res Vl) .stuck (fun d => runK d ⟨ih, F⟩ vs w) (tab f)) n
/-- a def and its form for the kernel say the same -/
def KdOk (d : Df) (k : Kd) : Prop := d.ps.length = k.np ∧ List.replicate (d.N.length - k.np) none = k.more ∧ ∀ c, exs c d.body = k.body c
theorem callK_eq {tb : Tbl} {tab : Nat → Option Kd} (F : Nat) (h : ∀ f, match tb.lookup f, tab f with | some d, some k => KdOk d k | none, none => True | _, _ => False) : ∀ n, callN tb F n = callK tab F n
  | 0 => rfl
  | n + 1 => by
    funext f vs w
    rw [callN]
    show _ = Option.rec (motive := fun _ => Res Vl) .stuck (fun d => runK d ⟨callK tab F n, F⟩ vs w) (tab f)
    have hf := h f
    cases e1 : tb.lookup f with
    | none =>
      rw [e1] at hf
      cases e2 : tab f with
      | none => rfl
      | some k => rw [e2] at hf; exact hf.elim
    | some d =>
      rw [e1] at hf
      cases e2 : tab f with
      | none => rw [e2] at hf; exact hf.elim
      | some k =>
        rw [e2] at hf
        obtain ⟨h1, h2, h3⟩ := hf
        show (if Nat.beq vs.length d.ps.length = true then _ else _) = runK k ⟨callK tab F n, F⟩ vs w
        unfold runK
        rw [h1, callK_eq F h n, bi_eq]
        cases hb : Nat.beq vs.length k.np with
        | false => rfl
        | true =>
          show Res.bind _ _ = rb _ _
          rw [rb_eq, h3, ← startK_eq, startE, Nat.eq_of_beq_eq_true hb, h2]
          congr 1
          funext fl w'
          cases fl with
          | rt v => exact fin_eq w v w'
          | nx e => exact fin_eq w (.d .none) w'
          | bk e => rfl
          | ct e => rfl
/-- two tables say the same, place by place -/
def Ali : Tbl → List (Nat × Kd) → Prop
  | [], [] => True
  | p :: r, q :: s => p.1 = q.1 ∧ KdOk p.2 q.2 ∧ Ali r s
  | _, _ => False
theorem ali_ok : ∀ (tb : Tbl) (kt : List (Nat × Kd)), Ali tb kt → ∀ f, match tb.lookup f, kt.lookup f with | some d, some k => KdOk d k | none, none => True | _, _ => False
  | [], [], _, f => trivial
  | p :: r, q :: s, h, f => by
    obtain ⟨h1, h2, h3⟩ := h
    rw [List.lookup_cons, List.lookup_cons, ← h1]
    cases f == p.1 with
    | true => exact h2
    | false => exact ali_ok r s h3 f
  | [], _ :: _, h, _ => h.elim
  | _ :: _, [], h, _ => h.elim
/-- blocks by their statements -/
noncomputable def kBl (l : List KS) (r : KS) : KS := l.foldr kSq r
theorem kBl_ok : ∀ (l : List KS) (r : KS) {env env' : Env} {w w' : Wd}, kBl l kEnd env w = .ok (.nx env') w' → kBl l r env w = r env' w'
  | [], r, env, env', w, w', h => by
    have h : Res.ok (Fl.nx env) w = .ok (.nx env') w' := h
    cases h
    rfl
  | s :: l, r, env, env', w, w', h => by
    have h : rb (s env w) (fun fl w => Fl.rec (motive := fun _ => Res Fl) (fun env => kBl l kEnd env w) (fun v => .ok (.rt v) w) (fun env => .ok (.bk env) w) (fun env => .ok (.ct env) w) fl) = .ok (.nx env') w' := h
    show rb (s env w) (fun fl w => Fl.rec (motive := fun _ => Res Fl) (fun env => kBl l r env w) (fun v => .ok (.rt v) w) (fun env => .ok (.bk env) w) (fun env => .ok (.ct env) w) fl) = _
    cases e : s env w with
    | ok fl w2 =>
      rw [e] at h
      cases fl with
      | nx e2 => exact kBl_ok l r h
      | rt v => cases h
      | bk e2 => cases h
      | ct e2 => cases h
    | exc c x w2 => rw [e] at h; cases h
    | stuck => rw [e] at h; cases h
/-- the block ends in return True -/
def isRT (r : Res Fl) : Bool := match r with
  | .ok (.rt (.d (.bool b))) _ => b
  | _ => false
theorem isRT_ok {r : Res Fl} (h : isRT r = true) : ∃ w, r = .ok (.rt (.d (.bool true))) w := by
  unfold isRT at h
  split at h
  · subst h; exact ⟨_, rfl⟩
  · cases h
def envR (r : Res Fl) (i : Nat) : Option Vl := match r with
  | .ok (.nx env) _ => (env[i]?).join
  | _ => none
end Mx

set_option Elab.async false
set_option linter.all false
set_option maxRecDepth 100000
set_option maxHeartbeats 0
namespace Lk32
open PySem PySem.Spec PyProof.Rows L2 Mx
def top (i : Nat) : Stmt := PySem.Challenge.pw_morsematch_k32_cancel_by_hand.main.body.getD i (.Pass ⟨0, 0, 0, 0⟩)
def f_is_integer : Df := ⟨["value"], ["value"], [], (.cons (.ret (.and (.cons (.isi (.slot 0) .int) (.cons (.not (.isi (.slot 0) .bool)) .nil)))) .nil)⟩
def d_is_integer : He.DefD := ⟨("is_integer", none), "is_integer", "is_integer", defArgs (top 10), defBody (top 10), defScope (top 10), [], []⟩
def f_is_vertex : Df := ⟨["value"], ["value"], [], (.cons (.ret (.and (.cons (.call 2 (.cons (.slot 0) .nil)) (.cons (.cmp2 .le .le (.cst (.int 0)) (.slot 0) (.cst (.int 7))) .nil)))) .nil)⟩
def d_is_vertex : He.DefD := ⟨("is_vertex", none), "is_vertex", "is_vertex", defArgs (top 11), defBody (top 11), defScope (top 11), [], []⟩
def f_is_ascending : Df := ⟨["values"], ["values", "one", "other"], [], (.cons (.ret (.bit .all (.seq (.lc [1, 2] (.tup [1, 2]) (.zip (.slot 0) (.sli (.slot 0) (.some (.cst (.int 1))) .none)) .none (.cmp .lt (.slot 1) (.slot 2)))))) .nil)⟩
def d_is_ascending : He.DefD := ⟨("is_ascending", none), "is_ascending", "is_ascending", defArgs (top 12), defBody (top 12), defScope (top 12), [], []⟩
def f_is_simplex : Df := ⟨["value"], ["value", "part"], [], (.cons (.ite (.or (.cons (.not (.isi (.slot 0) .tuple)) (.cons (.not (.cmp2 .le .le (.cst (.int 1)) (.b1 .len (.slot 0)) (.cst (.int 4)))) (.cons (.not (.bit .all (.seq (.lc [1] (.name 1) (.seq (.slot 0)) .none (.call 3 (.cons (.slot 1) .nil)))))) .nil)))) (.cons (.ret (.cst (.bool false))) .nil) .nil) (.cons (.ret (.call 4 (.cons (.slot 0) .nil))) .nil))⟩
def d_is_simplex : He.DefD := ⟨("is_simplex", none), "is_simplex", "is_simplex", defArgs (top 13), defBody (top 13), defScope (top 13), [], []⟩
def f_simplex_key : Df := ⟨["simplex"], ["simplex"], [], (.cons (.ret (.tup (.cons (.b1 .len (.slot 0)) (.cons (.slot 0) .nil)))) .nil)⟩
def d_simplex_key : He.DefD := ⟨("simplex_key", none), "simplex_key", "simplex_key", defArgs (top 14), defBody (top 14), defScope (top 14), [], []⟩
def f_subsets : Df := ⟨["simplex"], ["simplex", "rows", "vertex", "row"], [], (.cons (.asg 1 (.lst (.cons (.tup .nil) .nil))) (.cons (.for_ (.name 2) (.seq (.slot 0)) (.cons (.asg 1 (.bin .add (.slot 1) (.lc [3] (.name 3) (.seq (.slot 1)) .none (.bin .add (.slot 3) (.tup (.cons (.slot 2) .nil)))))) .nil)) (.cons (.ret (.sli (.slot 1) (.some (.cst (.int 1))) .none)) .nil)))⟩
def d_subsets : He.DefD := ⟨("subsets", none), "subsets", "subsets", defArgs (top 15), defBody (top 15), defScope (top 15), [], []⟩
def f_closure : Df := ⟨["some"], ["some", "found", "simplex", "part"], [1], (.cons (.asg 1 (.dct .nil .nil)) (.cons (.for_ (.name 2) (.seq (.slot 0)) (.cons (.for_ (.name 3) (.seq (.call 7 (.cons (.slot 2) .nil))) (.cons (.put 1 (.slot 3) (.cst (.bool true))) .nil)) .nil)) (.cons (.ret (.bit .tuple (.seq (.srtK 6 (.keys (.slot 1)))))) .nil)))⟩
def d_closure : He.DefD := ⟨("closure", none), "closure", "closure", defArgs (top 16), defBody (top 16), defScope (top 16), [], []⟩
def f_does_contain : Df := ⟨["one", "other"], ["one", "other", "vertex"], [], (.cons (.ret (.bit .all (.seq (.lc [2] (.name 2) (.seq (.slot 1)) .none (.cmp .inn (.slot 2) (.slot 0)))))) .nil)⟩
def d_does_contain : He.DefD := ⟨("does_contain", none), "does_contain", "does_contain", defArgs (top 17), defBody (top 17), defScope (top 17), [], []⟩
def f_maximal : Df := ⟨["some"], ["some", "found", "simplex", "other"], [1], (.cons (.asg 1 (.lst .nil)) (.cons (.for_ (.name 2) (.seq (.slot 0)) (.cons (.ite (.not (.bit .any (.seq (.lc [3] (.name 3) (.seq (.slot 0)) .none (.and (.cons (.cmp .ne (.slot 3) (.slot 2)) (.cons (.call 9 (.cons (.slot 3) (.cons (.slot 2) .nil))) .nil))))))) (.cons (.app 1 (.slot 2)) .nil) .nil) .nil)) (.cons (.ret (.bit .tuple (.seq (.srtK 6 (.seq (.slot 1)))))) .nil)))⟩
def d_maximal : He.DefD := ⟨("maximal", none), "maximal", "maximal", defArgs (top 18), defBody (top 18), defScope (top 18), [], []⟩
def f_is_good : Df := ⟨["value"], ["value", "simplex"], [], (.cons (.ite (.or (.cons (.not (.isi (.slot 0) .tuple)) (.cons (.cmp .eq (.slot 0) (.tup .nil)) (.cons (.not (.bit .all (.seq (.lc [1] (.name 1) (.seq (.slot 0)) .none (.call 5 (.cons (.slot 1) .nil)))))) .nil)))) (.cons (.ret (.cst (.bool false))) .nil) .nil) (.cons (.ite (.or (.cons (.not (.call 4 (.cons (.lc [1] (.name 1) (.seq (.slot 0)) .none (.call 6 (.cons (.slot 1) .nil))) .nil))) (.cons (.cmp .ne (.call 10 (.cons (.slot 0) .nil)) (.slot 0)) .nil))) (.cons (.ret (.cst (.bool false))) .nil) .nil) (.cons (.ret (.cmp .le (.b1 .len (.call 8 (.cons (.slot 0) .nil))) (.glo 11 (.int 60)))) .nil)))⟩
def d_is_good : He.DefD := ⟨("is_good", none), "is_good", "is_good", defArgs (top 19), defBody (top 19), defScope (top 19), [], []⟩
def f_check_complex : Df := ⟨["facets"], ["facets"], [], (.cons (.ite (.not (.call 12 (.cons (.slot 0) .nil))) (.cons .stuck .nil) .nil) .nil)⟩
def d_check_complex : He.DefD := ⟨("check_complex", none), "check_complex", "check_complex", defArgs (top 20), defBody (top 20), defScope (top 20), [], []⟩
def f_dimension_of : Df := ⟨["facets"], ["facets"], [], (.cons (.ret (.bin .sub (.b1 .len (.idx (.slot 0) (.neg (.cst (.int 1))))) (.cst (.int 1)))) .nil)⟩
def d_dimension_of : He.DefD := ⟨("dimension_of", none), "dimension_of", "dimension_of", defArgs (top 21), defBody (top 21), defScope (top 21), [], []⟩
def f_counts_of : Df := ⟨["facets", "some"], ["facets", "some", "sizes", "simplex", "size"], [], (.cons (.asg 2 (.lc [3] (.name 3) (.seq (.slot 1)) .none (.b1 .len (.slot 3)))) (.cons (.ret (.bit .tuple (.seq (.lc [4] (.name 4) (.rng2 (.cst (.int 1)) (.bin .add (.call 14 (.cons (.slot 0) .nil)) (.cst (.int 2)))) .none (.cnt (.slot 2) (.slot 4)))))) .nil))⟩
def d_counts_of : He.DefD := ⟨("counts_of", none), "counts_of", "counts_of", defArgs (top 22), defBody (top 22), defScope (top 22), [], []⟩
def f_faces_of : Df := ⟨["simplex"], ["simplex", "at"], [], (.cons (.ite (.cmp .eq (.b1 .len (.slot 0)) (.cst (.int 1))) (.cons (.ret (.tup .nil)) .nil) .nil) (.cons (.ret (.bit .tuple (.seq (.bit .sorted (.seq (.lc [1] (.name 1) (.rng1 (.b1 .len (.slot 0))) .none (.bin .add (.sli (.slot 0) .none (.some (.slot 1))) (.sli (.slot 0) (.some (.bin .add (.slot 1) (.cst (.int 1)))) .none)))))))) .nil))⟩
def d_faces_of : He.DefD := ⟨("faces_of", none), "faces_of", "faces_of", defArgs (top 23), defBody (top 23), defScope (top 23), [], []⟩
def f_is_pair : Df := ⟨["every", "value"], ["every", "value", "part"], [], (.cons (.ite (.or (.cons (.not (.isi (.slot 1) .tuple)) (.cons (.cmp .ne (.b1 .len (.slot 1)) (.cst (.int 2))) (.cons (.not (.bit .all (.seq (.lc [2] (.name 2) (.seq (.slot 1)) .none (.call 5 (.cons (.slot 2) .nil)))))) .nil)))) (.cons (.ret (.cst (.bool false))) .nil) .nil) (.cons (.ret (.and (.cons (.cmp .inn (.idx (.slot 1) (.cst (.int 1))) (.slot 0)) (.cons (.cmp .inn (.idx (.slot 1) (.cst (.int 0))) (.call 16 (.cons (.idx (.slot 1) (.cst (.int 1))) .nil))) .nil)))) .nil))⟩
def d_is_pair : He.DefD := ⟨("is_pair", none), "is_pair", "is_pair", defArgs (top 25), defBody (top 25), defScope (top 25), [], []⟩
def f_pair_key : Df := ⟨["pair"], ["pair"], [], (.cons (.ret (.tup (.cons (.call 6 (.cons (.idx (.slot 0) (.cst (.int 0))) .nil)) (.cons (.call 6 (.cons (.idx (.slot 0) (.cst (.int 1))) .nil)) .nil)))) .nil)⟩
def d_pair_key : He.DefD := ⟨("pair_key", none), "pair_key", "pair_key", defArgs (top 26), defBody (top 26), defScope (top 26), [], []⟩
def f_are_pairs : Df := ⟨["every", "value"], ["every", "value", "pair", "one", "other"], [], (.cons (.ite (.or (.cons (.not (.isi (.slot 1) .tuple)) (.cons (.not (.bit .all (.seq (.lc [2] (.name 2) (.seq (.slot 1)) .none (.call 17 (.cons (.slot 0) (.cons (.slot 2) .nil))))))) .nil))) (.cons (.ret (.cst (.bool false))) .nil) .nil) (.cons (.ret (.bit .all (.seq (.lc [3, 4] (.tup [3, 4]) (.zip (.slot 1) (.sli (.slot 1) (.some (.cst (.int 1))) .none)) .none (.cmp .lt (.call 18 (.cons (.slot 3) .nil)) (.call 18 (.cons (.slot 4) .nil))))))) .nil))⟩
def d_are_pairs : He.DefD := ⟨("are_pairs", none), "are_pairs", "are_pairs", defArgs (top 27), defBody (top 27), defScope (top 27), [], []⟩
def f_is_good_matching : Df := ⟨["facets", "value"], ["facets", "value", "used", "pair", "simplex"], [], (.cons (.ite (.not (.call 19 (.cons (.call 8 (.cons (.slot 0) .nil)) (.cons (.slot 1) .nil)))) (.cons (.ret (.cst (.bool false))) .nil) .nil) (.cons (.asg 2 (.lc2 [3, 4] (.name 3) (.seq (.slot 1)) (.name 4) (.seq (.slot 3)) .none (.slot 4))) (.cons (.ret (.cmp .eq (.bit .lenset (.seq (.slot 2))) (.b1 .len (.slot 2)))) .nil)))⟩
def d_is_good_matching : He.DefD := ⟨("is_good_matching", none), "is_good_matching", "is_good_matching", defArgs (top 28), defBody (top 28), defScope (top 28), [], []⟩
def f_check_matching : Df := ⟨["facets", "matching"], ["facets", "matching"], [], (.cons (.expr (.call 13 (.cons (.slot 0) .nil))) (.cons (.ite (.not (.call 20 (.cons (.slot 0) (.cons (.slot 1) .nil)))) (.cons .stuck .nil) .nil) .nil))⟩
def d_check_matching : He.DefD := ⟨("check_matching", none), "check_matching", "check_matching", defArgs (top 29), defBody (top 29), defScope (top 29), [], []⟩
def f_sorted_pairs : Df := ⟨["pairs"], ["pairs"], [], (.cons (.ret (.bit .tuple (.seq (.srtK 18 (.seq (.slot 0)))))) .nil)⟩
def d_sorted_pairs : He.DefD := ⟨("sorted_pairs", none), "sorted_pairs", "sorted_pairs", defArgs (top 30), defBody (top 30), defScope (top 30), [], []⟩
def f_critical_of : Df := ⟨["facets", "matching"], ["facets", "matching", "used", "pair", "simplex"], [], (.cons (.asg 2 (.dc2 [3, 4] (.name 3) (.seq (.slot 1)) (.name 4) (.seq (.slot 3)) (.slot 4) (.cst (.bool true)))) (.cons (.ret (.bit .tuple (.seq (.lc [4] (.name 4) (.seq (.call 8 (.cons (.slot 0) .nil))) (.some (.cmp .nin (.slot 4) (.slot 2))) (.slot 4))))) .nil))⟩
def d_critical_of : He.DefD := ⟨("critical_of", none), "critical_of", "critical_of", defArgs (top 31), defBody (top 31), defScope (top 31), [], []⟩
def f_critical : Df := ⟨["facets", "matching"], ["facets", "matching"], [], (.cons (.expr (.call 21 (.cons (.slot 0) (.cons (.slot 1) .nil)))) (.cons (.ret (.call 23 (.cons (.slot 0) (.cons (.slot 1) .nil)))) .nil))⟩
def d_critical : He.DefD := ⟨("critical", none), "critical", "critical", defArgs (top 32), defBody (top 32), defScope (top 32), [], []⟩
def f_steps_from : Df := ⟨["up", "simplex"], ["up", "simplex", "face"], [], (.cons (.ret (.lc [2] (.name 2) (.seq (.call 16 (.cons (.idx (.slot 0) (.slot 1)) .nil))) (.some (.and (.cons (.cmp .ne (.slot 2) (.slot 1)) (.cons (.cmp .inn (.slot 2) (.slot 0)) .nil)))) (.slot 2))) .nil)⟩
def d_steps_from : He.DefD := ⟨("steps_from", none), "steps_from", "steps_from", defArgs (top 33), defBody (top 33), defScope (top 33), [], []⟩
def f_found_path : Df := ⟨["matching"], ["matching", "up", "left", "is_changed", "ends", "simplex", "row", "later", "cycle", "other", "part"], [2, 6], (.cons (.asg 1 (.b1 .dict (.slot 0))) (.cons (.asg 2 (.dc [5] (.name 5) (.seq (.slot 1)) (.slot 5) (.cst (.bool true)))) (.cons (.asg 3 (.cst (.bool true))) (.cons (.while_ (.slot 3) (.cons (.asg 4 (.lc [5] (.name 5) (.seq (.slot 2)) (.some (.not (.bit .any (.seq (.lc [9] (.name 9) (.seq (.call 25 (.cons (.slot 1) (.cons (.slot 5) .nil)))) .none (.cmp .inn (.slot 9) (.slot 2))))))) (.slot 5))) (.cons (.for_ (.name 5) (.seq (.slot 4)) (.cons (.popK 2 (.slot 5)) .nil)) (.cons (.asg 3 (.cmp .ne (.slot 4) (.lst .nil))) .nil)))) (.cons (.ite (.deq0 false (.slot 2)) (.cons (.ret (.cst (.none))) .nil) .nil) (.cons (.asg 6 (.lst (.cons (.bit .min (.seq (.slot 2))) .nil))) (.cons (.while_ (.cst (.bool true)) (.cons (.asg 7 (.bit .min (.seq (.lc [9] (.name 9) (.seq (.call 25 (.cons (.slot 1) (.cons (.idx (.slot 6) (.neg (.cst (.int 1)))) .nil)))) (.some (.cmp .inn (.slot 9) (.slot 2))) (.slot 9))))) (.cons (.ite (.cmp .inn (.slot 7) (.slot 6)) (.cons (.asg 8 (.sli (.slot 6) (.some (.index (.slot 6) (.slot 7))) .none)) (.cons (.ret (.bit .tuple (.seq (.lc2 [5, 10] (.name 5) (.seq (.slot 8)) (.name 10) (.seq (.tup (.cons (.slot 5) (.cons (.idx (.slot 1) (.slot 5)) .nil)))) .none (.slot 10))))) .nil)) .nil) (.cons (.app 6 (.slot 7)) .nil)))) .nil)))))))⟩
def d_found_path : He.DefD := ⟨("found_path", none), "found_path", "found_path", defArgs (top 34), defBody (top 34), defScope (top 34), [], []⟩
def f_check_acyclic : Df := ⟨["facets", "matching"], ["facets", "matching", "path"], [], (.cons (.expr (.call 21 (.cons (.slot 0) (.cons (.slot 1) .nil)))) (.cons (.asg 2 (.call 26 (.cons (.slot 1) .nil))) (.cons (.ite (.cmp .isnt (.slot 2) (.cst (.none))) (.cons .stuck .nil) .nil) .nil)))⟩
def d_check_acyclic : He.DefD := ⟨("check_acyclic", none), "check_acyclic", "check_acyclic", defArgs (top 35), defBody (top 35), defScope (top 35), [], []⟩
def f_sign_of : Df := ⟨["face", "simplex"], ["face", "simplex", "at", "vertex"], [], (.cons (.asg 2 (.index (.lc [3] (.name 3) (.seq (.slot 1)) .none (.cmp .inn (.slot 3) (.slot 0))) (.cst (.bool false)))) (.cons (.ret (.ite (.cmp .eq (.bin .mod (.slot 2) (.cst (.int 2))) (.cst (.int 0))) (.cst (.int 1)) (.neg (.cst (.int 1))))) .nil))⟩
def d_sign_of : He.DefD := ⟨("sign_of", none), "sign_of", "sign_of", defArgs (top 37), defBody (top 37), defScope (top 37), [], []⟩
def f_of_dimension : Df := ⟨["some", "dimension"], ["some", "dimension", "simplex"], [], (.cons (.ret (.lc [2] (.name 2) (.seq (.slot 0)) (.some (.cmp .eq (.b1 .len (.slot 2)) (.bin .add (.slot 1) (.cst (.int 1))))) (.slot 2))) .nil)⟩
def d_of_dimension : He.DefD := ⟨("of_dimension", none), "of_dimension", "of_dimension", defArgs (top 38), defBody (top 38), defScope (top 38), [], []⟩
def f_smallest : Df := ⟨["rows"], ["rows", "best", "i", "row", "j", "entry"], [], (.cons (.asg 1 (.cst (.none))) (.cons (.for_ (.tup [2, 3]) (.enu (.slot 0)) (.cons (.for_ (.tup [4, 5]) (.enu (.slot 3)) (.cons (.ite (.and (.cons (.cmp .ne (.slot 5) (.cst (.int 0))) (.cons (.or (.cons (.cmp .is (.slot 1) (.cst (.none))) (.cons (.cmp .lt (.b1 .abs (.slot 5)) (.idx (.slot 1) (.cst (.int 0)))) .nil))) .nil))) (.cons (.asg 1 (.tup (.cons (.b1 .abs (.slot 5)) (.cons (.slot 2) (.cons (.slot 4) .nil))))) .nil) .nil) .nil)) .nil)) (.cons (.ret (.ite (.cmp .isnt (.slot 1) (.cst (.none))) (.sli (.slot 1) (.some (.cst (.int 1))) .none) (.cst (.none)))) .nil)))⟩
def d_smallest : He.DefD := ⟨("smallest", none), "smallest", "smallest", defArgs (top 39), defBody (top 39), defScope (top 39), [], []⟩
def f_reduced : Df := ⟨["rows"], ["rows", "i", "j", "pivot", "at", "times", "column", "row", "bad", "entry", "other"], [], (.cons .stuck .nil)⟩
def d_reduced : He.DefD := ⟨("reduced", none), "reduced", "reduced", defArgs (top 40), defBody (top 40), defScope (top 40), [], []⟩
def f_invariants : Df := ⟨["matrix"], ["matrix", "rows", "found", "row"], [2], (.cons (.asg 1 (.lc [3] (.name 3) (.seq (.slot 0)) .none (.bit .list (.seq (.slot 3))))) (.cons (.asg 2 (.lst .nil)) (.cons (.while_ (.cmp .isnt (.call 30 (.cons (.slot 1) .nil)) (.cst (.none))) (.cons (.asg 1 (.call 31 (.cons (.slot 1) .nil))) (.cons (.app 2 (.b1 .abs (.idx (.idx (.slot 1) (.cst (.int 0))) (.cst (.int 0))))) (.cons (.asg 1 (.lc [3] (.name 3) (.seq (.sli (.slot 1) (.some (.cst (.int 1))) .none)) .none (.sli (.slot 3) (.some (.cst (.int 1))) .none))) .nil)))) (.cons (.ret (.slot 2)) .nil))))⟩
def d_invariants : He.DefD := ⟨("invariants", none), "invariants", "invariants", defArgs (top 41), defBody (top 41), defScope (top 41), [], []⟩
def f_all_invariants : Df := ⟨["facets", "matrices"], ["facets", "matrices", "matrix"], [], (.cons (.ret (.bin .add (.bin .add (.lst (.cons (.lst .nil) .nil)) (.lc [2] (.name 2) (.seq (.slot 1)) .none (.call 32 (.cons (.slot 2) .nil)))) (.lst (.cons (.lst .nil) .nil)))) .nil)⟩
def d_all_invariants : He.DefD := ⟨("all_invariants", none), "all_invariants", "all_invariants", defArgs (top 42), defBody (top 42), defScope (top 42), [], []⟩
def f_betti_from : Df := ⟨["numbers", "ranks"], ["numbers", "ranks", "at", "number"], [], (.cons (.ret (.bit .tuple (.seq (.lc [2, 3] (.tup [2, 3]) (.enu (.slot 0)) .none (.bin .sub (.bin .sub (.slot 3) (.idx (.slot 1) (.slot 2))) (.idx (.slot 1) (.bin .add (.slot 2) (.cst (.int 1))))))))) .nil)⟩
def d_betti_from : He.DefD := ⟨("betti_from", none), "betti_from", "betti_from", defArgs (top 43), defBody (top 43), defScope (top 43), [], []⟩
def f_betti_by : Df := ⟨["numbers", "factors"], ["numbers", "factors", "row"], [], (.cons (.ret (.call 34 (.cons (.slot 0) (.cons (.lc [2] (.name 2) (.seq (.slot 1)) .none (.b1 .len (.slot 2))) .nil)))) .nil)⟩
def d_betti_by : He.DefD := ⟨("betti_by", none), "betti_by", "betti_by", defArgs (top 44), defBody (top 44), defScope (top 44), [], []⟩
def f_Paths___init__ : Df := ⟨["self", "matching", "lower"], ["self", "matching", "lower"], [], (.cons (.fset 0 41 "up" (.b1 .dict (.slot 1))) (.cons (.fset 0 41 "lower" (.slot 2)) (.cons (.fset 0 41 "known" (.dcell (.dct .nil .nil))) .nil)))⟩
def d_Paths___init__ : He.DefD := ⟨("Paths", some "__init__"), "__init__", "Paths.__init__", defArgs (inClass (top 47) 0), defBody (inClass (top 47) 0), defScope (inClass (top 47) 0), [], []⟩
def f_Paths_after : Df := ⟨["self", "simplex"], ["self", "simplex", "face"], [], (.cons (.ret (.lc [2] (.name 2) (.seq (.call 16 (.cons (.idx (.fld (.slot 0) 41 "up") (.slot 1)) .nil))) (.some (.cmp .ne (.slot 2) (.slot 1))) (.slot 2))) .nil)⟩
def d_Paths_after : He.DefD := ⟨("Paths", some "after"), "after", "Paths.after", defArgs (inClass (top 47) 1), defBody (inClass (top 47) 1), defScope (inClass (top 47) 1), [], []⟩
def f_Paths_numbers : Df := ⟨["self", "simplex"], ["self", "simplex", "upper", "many", "whole", "face", "count", "total"], [], (.cons (.ite (.cmp .eq (.slot 1) (.fld (.slot 0) 41 "lower")) (.cons (.ret (.tup (.cons (.cst (.int 1)) (.cons (.cst (.int 1)) .nil)))) .nil) .nil) (.cons (.ite (.cmp .nin (.slot 1) (.fld (.slot 0) 41 "up")) (.cons (.ret (.tup (.cons (.cst (.int 0)) (.cons (.cst (.int 0)) .nil)))) .nil) .nil) (.cons (.ite (.cmp .nin (.slot 1) (.rd (.fld (.slot 0) 41 "known"))) (.cons (.asg 2 (.idx (.fld (.slot 0) 41 "up") (.slot 1))) (.cons (.asgT [3, 4] (.tup (.cons (.cst (.int 0)) (.cons (.cst (.int 0)) .nil)))) (.cons (.for_ (.name 5) (.seq (.meth (.slot 0) 41 40 "after" (.cons (.slot 1) .nil))) (.cons (.asgT [6, 7] (.meth (.slot 0) 41 42 "numbers" (.cons (.slot 5) .nil))) (.cons (.aug 3 .add (.slot 6)) (.cons (.aug 4 .sub (.bin .mul (.bin .mul (.call 28 (.cons (.slot 1) (.cons (.slot 2) .nil))) (.call 28 (.cons (.slot 5) (.cons (.slot 2) .nil)))) (.slot 7))) .nil)))) (.cons (.oput (.fld (.slot 0) 41 "known") (.slot 1) (.tup (.cons (.slot 3) (.cons (.slot 4) .nil)))) .nil)))) .nil) (.cons (.ret (.oidx (.fld (.slot 0) 41 "known") (.slot 1))) .nil))))⟩
def d_Paths_numbers : He.DefD := ⟨("Paths", some "numbers"), "numbers", "Paths.numbers", defArgs (inClass (top 47) 2), defBody (inClass (top 47) 2), defScope (inClass (top 47) 2), [], []⟩
def f_Paths_rows : Df := ⟨["self", "simplex"], ["self", "simplex", "found", "face", "row"], [2], (.cons (.ite (.cmp .eq (.slot 1) (.fld (.slot 0) 41 "lower")) (.cons (.ret (.lst (.cons (.tup (.cons (.slot 1) .nil)) .nil))) .nil) .nil) (.cons (.ite (.cmp .nin (.slot 1) (.fld (.slot 0) 41 "up")) (.cons (.ret (.lst .nil)) .nil) .nil) (.cons (.asg 2 (.lst .nil)) (.cons (.for_ (.name 3) (.seq (.meth (.slot 0) 41 40 "after" (.cons (.slot 1) .nil))) (.cons (.ext 2 (.lc [4] (.name 4) (.seq (.meth (.slot 0) 41 43 "rows" (.cons (.slot 3) .nil))) .none (.bin .add (.tup (.cons (.slot 1) (.cons (.idx (.fld (.slot 0) 41 "up") (.slot 1)) .nil))) (.slot 4)))) .nil)) (.cons (.ret (.slot 2)) .nil)))))⟩
def d_Paths_rows : He.DefD := ⟨("Paths", some "rows"), "rows", "Paths.rows", defArgs (inClass (top 47) 3), defBody (inClass (top 47) 3), defScope (inClass (top 47) 3), [], []⟩
def f_count_between : Df := ⟨["matching", "upper", "lower"], ["matching", "upper", "lower", "paths", "face"], [], (.cons (.asg 3 (.mk 41 39 (.cons (.slot 0) (.cons (.slot 2) .nil)))) (.cons (.ret (.bit .sum (.seq (.lc [4] (.name 4) (.seq (.call 16 (.cons (.slot 1) .nil))) .none (.idx (.meth (.slot 3) 41 42 "numbers" (.cons (.slot 4) .nil)) (.cst (.int 0))))))) .nil))⟩
def d_count_between : He.DefD := ⟨("count_between", none), "count_between", "count_between", defArgs (top 48), defBody (top 48), defScope (top 48), [], []⟩
def f_sum_between : Df := ⟨["matching", "upper", "lower"], ["matching", "upper", "lower", "paths", "face"], [], (.cons (.asg 3 (.mk 41 39 (.cons (.slot 0) (.cons (.slot 2) .nil)))) (.cons (.ret (.bit .sum (.seq (.lc [4] (.name 4) (.seq (.call 16 (.cons (.slot 1) .nil))) .none (.bin .mul (.call 28 (.cons (.slot 4) (.cons (.slot 1) .nil))) (.idx (.meth (.slot 3) 41 42 "numbers" (.cons (.slot 4) .nil)) (.cst (.int 1)))))))) .nil))⟩
def d_sum_between : He.DefD := ⟨("sum_between", none), "sum_between", "sum_between", defArgs (top 49), defBody (top 49), defScope (top 49), [], []⟩
def f_paths_between : Df := ⟨["matching", "upper", "lower"], ["matching", "upper", "lower", "paths", "face", "row"], [], (.cons (.asg 3 (.mk 41 39 (.cons (.slot 0) (.cons (.slot 2) .nil)))) (.cons (.ret (.bit .tuple (.seq (.lc2 [4, 5] (.name 4) (.seq (.call 16 (.cons (.slot 1) .nil))) (.name 5) (.seq (.meth (.slot 3) 41 43 "rows" (.cons (.slot 4) .nil))) .none (.bin .add (.tup (.cons (.slot 1) .nil)) (.slot 5)))))) .nil))⟩
def d_paths_between : He.DefD := ⟨("paths_between", none), "paths_between", "paths_between", defArgs (top 50), defBody (top 50), defScope (top 50), [], []⟩
def f_check_ends : Df := ⟨["facets", "matching", "upper", "lower"], ["facets", "matching", "upper", "lower", "known"], [], (.cons (.expr (.call 27 (.cons (.slot 0) (.cons (.slot 1) .nil)))) (.cons (.asg 4 (.call 23 (.cons (.slot 0) (.cons (.slot 1) .nil)))) (.cons (.ite (.or (.cons (.not (.call 5 (.cons (.slot 2) .nil))) (.cons (.cmp .nin (.slot 2) (.slot 4)) .nil))) (.cons .stuck .nil) .nil) (.cons (.ite (.or (.cons (.not (.call 5 (.cons (.slot 3) .nil))) (.cons (.cmp .nin (.slot 3) (.slot 4)) (.cons (.cmp .ne (.b1 .len (.slot 3)) (.bin .sub (.b1 .len (.slot 2)) (.cst (.int 1)))) .nil)))) (.cons .stuck .nil) .nil) .nil))))⟩
def d_check_ends : He.DefD := ⟨("check_ends", none), "check_ends", "check_ends", defArgs (top 51), defBody (top 51), defScope (top 51), [], []⟩
def f_gradient_paths : Df := ⟨["facets", "matching", "upper", "lower"], ["facets", "matching", "upper", "lower"], [], (.cons (.expr (.call 47 (.cons (.slot 0) (.cons (.slot 1) (.cons (.slot 2) (.cons (.slot 3) .nil)))))) (.cons (.ite (.cmp .gt (.call 44 (.cons (.slot 1) (.cons (.slot 2) (.cons (.slot 3) .nil)))) (.glo 48 (.int 200))) (.cons .stuck .nil) .nil) (.cons (.ret (.call 46 (.cons (.slot 1) (.cons (.slot 2) (.cons (.slot 3) .nil))))) .nil)))⟩
def d_gradient_paths : He.DefD := ⟨("gradient_paths", none), "gradient_paths", "gradient_paths", defArgs (top 52), defBody (top 52), defScope (top 52), [], []⟩
def f_signed_count : Df := ⟨["facets", "matching", "upper", "lower"], ["facets", "matching", "upper", "lower"], [], (.cons (.expr (.call 47 (.cons (.slot 0) (.cons (.slot 1) (.cons (.slot 2) (.cons (.slot 3) .nil)))))) (.cons (.ret (.call 45 (.cons (.slot 1) (.cons (.slot 2) (.cons (.slot 3) .nil))))) .nil))⟩
def d_signed_count : He.DefD := ⟨("signed_count", none), "signed_count", "signed_count", defArgs (top 53), defBody (top 53), defScope (top 53), [], []⟩
def f_all_cancellable : Df := ⟨["facets", "matching"], ["facets", "matching", "some", "found", "upper", "lower"], [3], (.cons (.asg 2 (.call 23 (.cons (.slot 0) (.cons (.slot 1) .nil)))) (.cons (.asg 3 (.lst .nil)) (.cons (.for_ (.name 4) (.seq (.slot 2)) (.cons (.for_ (.name 5) (.seq (.slot 2)) (.cons (.ite (.and (.cons (.cmp .eq (.b1 .len (.slot 5)) (.bin .sub (.b1 .len (.slot 4)) (.cst (.int 1)))) (.cons (.cmp .eq (.call 44 (.cons (.slot 1) (.cons (.slot 4) (.cons (.slot 5) .nil)))) (.cst (.int 1))) .nil))) (.cons (.app 3 (.tup (.cons (.slot 4) (.cons (.slot 5) .nil)))) .nil) .nil) .nil)) .nil)) (.cons (.ret (.bit .tuple (.seq (.slot 3)))) .nil))))⟩
def d_all_cancellable : He.DefD := ⟨("all_cancellable", none), "all_cancellable", "all_cancellable", defArgs (top 55), defBody (top 55), defScope (top 55), [], []⟩
def f_cancellable : Df := ⟨["facets", "matching"], ["facets", "matching"], [], (.cons (.expr (.call 27 (.cons (.slot 0) (.cons (.slot 1) .nil)))) (.cons (.ret (.call 51 (.cons (.slot 0) (.cons (.slot 1) .nil)))) .nil))⟩
def d_cancellable : He.DefD := ⟨("cancellable", none), "cancellable", "cancellable", defArgs (top 56), defBody (top 56), defScope (top 56), [], []⟩
def f_reversed_path : Df := ⟨["matching", "path"], ["matching", "path", "old", "new", "pair"], [], (.cons (.asg 2 (.bit .list (.zip (.sl3 (.slot 1) 1 2) (.sl3 (.slot 1) 2 2)))) (.cons (.asg 3 (.bit .list (.zip (.sl3 (.slot 1) 1 2) (.sl3 (.slot 1) 0 2)))) (.cons (.ret (.call 22 (.cons (.bin .add (.lc [4] (.name 4) (.seq (.slot 0)) (.some (.cmp .nin (.slot 4) (.slot 2))) (.slot 4)) (.slot 3)) .nil))) .nil)))⟩
def d_reversed_path : He.DefD := ⟨("reversed_path", none), "reversed_path", "reversed_path", defArgs (top 57), defBody (top 57), defScope (top 57), [], []⟩
def f_cancel : Df := ⟨["facets", "matching", "upper", "lower"], ["facets", "matching", "upper", "lower"], [], (.cons (.expr (.call 47 (.cons (.slot 0) (.cons (.slot 1) (.cons (.slot 2) (.cons (.slot 3) .nil)))))) (.cons (.ite (.cmp .ne (.call 44 (.cons (.slot 1) (.cons (.slot 2) (.cons (.slot 3) .nil)))) (.cst (.int 1))) (.cons .stuck .nil) .nil) (.cons (.ret (.call 53 (.cons (.slot 1) (.cons (.idx (.call 46 (.cons (.slot 1) (.cons (.slot 2) (.cons (.slot 3) .nil)))) (.cst (.int 0))) .nil)))) .nil)))⟩
def d_cancel : He.DefD := ⟨("cancel", none), "cancel", "cancel", defArgs (top 58), defBody (top 58), defScope (top 58), [], []⟩
def f_obstruction : Df := ⟨["facets", "matching", "upper", "lower"], ["facets", "matching", "upper", "lower", "found"], [], (.cons (.expr (.call 47 (.cons (.slot 0) (.cons (.slot 1) (.cons (.slot 2) (.cons (.slot 3) .nil)))))) (.cons (.asg 4 (.call 46 (.cons (.slot 1) (.cons (.slot 2) (.cons (.slot 3) .nil))))) (.cons (.ret (.ite (.cmp .eq (.b1 .len (.slot 4)) (.cst (.int 1))) (.cst (.none)) (.sli (.slot 4) .none (.some (.cst (.int 2)))))) .nil)))⟩
def d_obstruction : He.DefD := ⟨("obstruction", none), "obstruction", "obstruction", defArgs (top 59), defBody (top 59), defScope (top 59), [], []⟩
def f_cancel_all : Df := ⟨["facets", "matching"], ["facets", "matching", "some", "upper", "lower"], [], (.cons (.expr (.call 27 (.cons (.slot 0) (.cons (.slot 1) .nil)))) (.cons (.asg 2 (.call 51 (.cons (.slot 0) (.cons (.slot 1) .nil)))) (.cons (.while_ (.cmp .ne (.slot 2) (.tup .nil)) (.cons (.asgT [3, 4] (.idx (.slot 2) (.cst (.int 0)))) (.cons (.asg 1 (.call 53 (.cons (.slot 1) (.cons (.idx (.call 46 (.cons (.slot 1) (.cons (.slot 3) (.cons (.slot 4) .nil)))) (.cst (.int 0))) .nil)))) (.cons (.asg 2 (.call 51 (.cons (.slot 0) (.cons (.slot 1) .nil)))) .nil)))) (.cons (.ret (.slot 1)) .nil))))⟩
def d_cancel_all : He.DefD := ⟨("cancel_all", none), "cancel_all", "cancel_all", defArgs (top 60), defBody (top 60), defScope (top 60), [], []⟩
def f_matrix_between : Df := ⟨["facets", "matching", "dimension"], ["facets", "matching", "dimension", "some", "found", "lower", "upper"], [4], (.cons (.asg 3 (.call 23 (.cons (.slot 0) (.cons (.slot 1) .nil)))) (.cons (.asg 4 (.lst .nil)) (.cons (.for_ (.name 5) (.seq (.call 29 (.cons (.slot 3) (.cons (.bin .sub (.slot 2) (.cst (.int 1))) .nil)))) (.cons (.app 4 (.bit .tuple (.seq (.lc [6] (.name 6) (.seq (.call 29 (.cons (.slot 3) (.cons (.slot 2) .nil)))) .none (.call 45 (.cons (.slot 1) (.cons (.slot 6) (.cons (.slot 5) .nil)))))))) .nil)) (.cons (.ret (.bit .tuple (.seq (.slot 4)))) .nil))))⟩
def d_matrix_between : He.DefD := ⟨("matrix_between", none), "matrix_between", "matrix_between", defArgs (top 62), defBody (top 62), defScope (top 62), [], []⟩
def f_numbers_and_factors : Df := ⟨["facets", "matching"], ["facets", "matching", "dimensions", "matrices", "dimension"], [], (.cons (.asg 2 (.bit .list (.rng2 (.cst (.int 1)) (.bin .add (.call 14 (.cons (.slot 0) .nil)) (.cst (.int 1)))))) (.cons (.asg 3 (.lc [4] (.name 4) (.seq (.slot 2)) .none (.call 57 (.cons (.slot 0) (.cons (.slot 1) (.cons (.slot 4) .nil)))))) (.cons (.ret (.tup (.cons (.call 15 (.cons (.slot 0) (.cons (.call 23 (.cons (.slot 0) (.cons (.slot 1) .nil))) .nil))) (.cons (.call 33 (.cons (.slot 0) (.cons (.slot 3) .nil))) .nil)))) .nil)))⟩
def d_numbers_and_factors : He.DefD := ⟨("numbers_and_factors", none), "numbers_and_factors", "numbers_and_factors", defArgs (top 63), defBody (top 63), defScope (top 63), [], []⟩
def f_critical_betti : Df := ⟨["facets", "matching"], ["facets", "matching", "numbers", "factors"], [], (.cons (.expr (.call 27 (.cons (.slot 0) (.cons (.slot 1) .nil)))) (.cons (.asgT [2, 3] (.call 58 (.cons (.slot 0) (.cons (.slot 1) .nil)))) (.cons (.ret (.call 35 (.cons (.slot 2) (.cons (.slot 3) .nil)))) .nil)))⟩
def d_critical_betti : He.DefD := ⟨("critical_betti", none), "critical_betti", "critical_betti", defArgs (top 64), defBody (top 64), defScope (top 64), [], []⟩
def f__law_town : Df := ⟨["script"], ["script"], [], (.cons (.ret (.cell (.bin .add (.lst (.cons (.cst (.int 0)) .nil)) (.bit .list (.seq (.slot 0)))))) .nil)⟩
def d__law_town : He.DefD := ⟨("_law_town", none), "_law_town", "_law_town", defArgs (top 66), defBody (top 66), defScope (top 66), [], []⟩
def f__law_draw : Df := ⟨["script", "town", "limit"], ["script", "town", "limit", "at", "left", "number"], [], (.cons (.oput (.slot 1) (.cst (.int 0)) (.bin .add (.oidx (.slot 1) (.cst (.int 0))) (.cst (.int 1)))) (.cons (.ite (.cmp .eq (.slot 0) (.lst .nil)) (.cons (.ret (.bin .mod (.bin .fdiv (.bin .mul (.bin .mul (.oidx (.slot 1) (.cst (.int 0))) (.oidx (.slot 1) (.cst (.int 0)))) (.cst (.int 7))) (.cst (.int 3))) (.slot 2))) .nil) .nil) (.cons (.asg 3 (.bin .mod (.oidx (.slot 1) (.cst (.int 0))) (.b1 .len (.slot 0)))) (.cons (.asg 4 (.oidx (.slot 1) (.bin .add (.cst (.int 1)) (.slot 3)))) (.cons (.ite (.and (.cons (.cmp .ge (.idx (.slot 0) (.slot 3)) (.bin .pow (.cst (.int 10)) (.cst (.int 18)))) (.cons (.cmp .gt (.slot 4) (.cst (.int 0))) .nil))) (.cons (.oput (.slot 1) (.bin .add (.cst (.int 1)) (.slot 3)) (.bin .fdiv (.slot 4) (.slot 2))) (.cons (.ret (.bin .mod (.slot 4) (.slot 2))) .nil)) .nil) (.cons (.asg 5 (.bin .mod (.bin .add (.idx (.slot 0) (.slot 3)) (.bin .mul (.cst (.int 104729)) (.oidx (.slot 1) (.cst (.int 0))))) (.cst (.int 4294967291)))) (.cons (.asg 5 (.bin .mod (.bin .pow (.slot 5) (.cst (.int 5))) (.cst (.int 4294967279)))) (.cons (.ret (.bin .mod (.bin .fdiv (.bin .mod (.bin .add (.bin .mul (.bin .fdiv (.slot 5) (.cst (.int 64))) (.cst (.int 69621))) (.slot 5)) (.cst (.int 4294967231))) (.cst (.int 8))) (.slot 2))) .nil))))))))⟩
def d__law_draw : He.DefD := ⟨("_law_draw", none), "_law_draw", "_law_draw", defArgs (top 67), defBody (top 67), defScope (top 67), [], []⟩
def f_law : Df := ⟨["script"], ["script", "town", "n", "edges", "circle", "at", "pairs", "matching", "paths", "line", "cut", "broken", "edge", "disk", "last", "k", "path"], [], (.cons (.asg 1 (.call 60 (.cons (.slot 0) .nil))) (.cons (.asg 2 (.bin .add (.cst (.int 3)) (.call 61 (.cons (.slot 0) (.cons (.slot 1) (.cons (.cst (.int 6)) .nil)))))) (.cons (.asg 3 (.lc [15] (.name 15) (.rng1 (.bin .sub (.slot 2) (.cst (.int 1)))) .none (.tup (.cons (.slot 15) (.cons (.bin .add (.slot 15) (.cst (.int 1))) .nil))))) (.cons (.asg 4 (.bit .tuple (.seq (.bit .sorted (.seq (.bin .add (.slot 3) (.lst (.cons (.tup (.cons (.cst (.int 0)) (.cons (.bin .sub (.slot 2) (.cst (.int 1))) .nil))) .nil)))))))) (.cons (.asg 5 (.call 61 (.cons (.slot 0) (.cons (.slot 1) (.cons (.bin .sub (.slot 2) (.cst (.int 1))) .nil))))) (.cons (.asg 6 (.bin .add (.lc [15] (.name 15) (.rng1 (.slot 5)) .none (.tup (.cons (.tup (.cons (.slot 15) .nil)) (.cons (.tup (.cons (.slot 15) (.cons (.bin .add (.slot 15) (.cst (.int 1))) .nil))) .nil)))) (.lc [15] (.name 15) (.rng2 (.slot 5) (.bin .sub (.slot 2) (.cst (.int 1)))) .none (.tup (.cons (.tup (.cons (.bin .add (.slot 15) (.cst (.int 1))) .nil)) (.cons (.tup (.cons (.slot 15) (.cons (.bin .add (.slot 15) (.cst (.int 1))) .nil))) .nil)))))) (.cons (.asg 7 (.bit .tuple (.seq (.bit .sorted (.seq (.slot 6)))))) (.cons (.ite (.cmp .ne (.call 24 (.cons (.slot 4) (.cons (.slot 7) .nil))) (.tup (.cons (.tup (.cons (.slot 5) .nil)) (.cons (.tup (.cons (.cst (.int 0)) (.cons (.bin .sub (.slot 2) (.cst (.int 1))) .nil))) .nil)))) (.cons (.ret (.cst (.bool false))) .nil) .nil) (.cons (.asg 8 (.call 49 (.cons (.slot 4) (.cons (.slot 7) (.cons (.tup (.cons (.cst (.int 0)) (.cons (.bin .sub (.slot 2) (.cst (.int 1))) .nil))) (.cons (.tup (.cons (.slot 5) .nil)) .nil)))))) (.cons (.ite (.or (.cons (.cmp .ne (.b1 .len (.slot 8)) (.cst (.int 2))) (.cons (.cmp .ne (.slot 8) (.call 55 (.cons (.slot 4) (.cons (.slot 7) (.cons (.tup (.cons (.cst (.int 0)) (.cons (.bin .sub (.slot 2) (.cst (.int 1))) .nil))) (.cons (.tup (.cons (.slot 5) .nil)) .nil)))))) .nil))) (.cons (.ret (.cst (.bool false))) .nil) .nil) (.cons (.ite (.or (.cons (.cmp .ne (.call 50 (.cons (.slot 4) (.cons (.slot 7) (.cons (.tup (.cons (.cst (.int 0)) (.cons (.bin .sub (.slot 2) (.cst (.int 1))) .nil))) (.cons (.tup (.cons (.slot 5) .nil)) .nil))))) (.cst (.int 0))) (.cons (.cmp .ne (.call 52 (.cons (.slot 4) (.cons (.slot 7) .nil))) (.tup .nil)) .nil))) (.cons (.ret (.cst (.bool false))) .nil) .nil) (.cons (.ite (.cmp .ne (.lc [16] (.name 16) (.seq (.slot 8)) .none (.b1 .len (.slot 16))) (.lst (.cons (.bin .add (.cst (.int 2)) (.bin .mul (.cst (.int 2)) (.slot 5))) (.cons (.bin .add (.cst (.int 2)) (.bin .mul (.cst (.int 2)) (.bin .sub (.bin .sub (.slot 2) (.cst (.int 1))) (.slot 5)))) .nil)))) (.cons (.ret (.cst (.bool false))) .nil) .nil) (.cons (.asg 9 (.bit .tuple (.seq (.slot 3)))) (.cons (.asg 10 (.call 61 (.cons (.slot 0) (.cons (.slot 1) (.cons (.bin .sub (.slot 2) (.cst (.int 1))) .nil))))) (.cons (.asg 11 (.bit .tuple (.seq (.lc [15] (.name 15) (.rng1 (.bin .sub (.slot 2) (.cst (.int 1)))) (.some (.cmp .ne (.slot 15) (.slot 10))) (.tup (.cons (.tup (.cons (.slot 15) .nil)) (.cons (.tup (.cons (.slot 15) (.cons (.bin .add (.slot 15) (.cst (.int 1))) .nil))) .nil))))))) (.cons (.ite (.cmp .ne (.call 24 (.cons (.slot 9) (.cons (.slot 11) .nil))) (.tup (.cons (.tup (.cons (.slot 10) .nil)) (.cons (.tup (.cons (.bin .sub (.slot 2) (.cst (.int 1))) .nil)) (.cons (.tup (.cons (.slot 10) (.cons (.bin .add (.slot 10) (.cst (.int 1))) .nil))) .nil))))) (.cons (.ret (.cst (.bool false))) .nil) .nil) (.cons (.asg 12 (.tup (.cons (.slot 10) (.cons (.bin .add (.slot 10) (.cst (.int 1))) .nil)))) (.cons (.ite (.cmp .ne (.call 52 (.cons (.slot 9) (.cons (.slot 11) .nil))) (.tup (.cons (.tup (.cons (.slot 12) (.cons (.tup (.cons (.slot 10) .nil)) .nil))) (.cons (.tup (.cons (.slot 12) (.cons (.tup (.cons (.bin .sub (.slot 2) (.cst (.int 1))) .nil)) .nil))) .nil)))) (.cons (.ret (.cst (.bool false))) .nil) .nil) (.cons (.ite (.cmp .ne (.call 54 (.cons (.slot 9) (.cons (.slot 11) (.cons (.slot 12) (.cons (.tup (.cons (.slot 10) .nil)) .nil))))) (.bit .tuple (.seq (.lc [15] (.name 15) (.rng1 (.bin .sub (.slot 2) (.cst (.int 1)))) .none (.tup (.cons (.tup (.cons (.slot 15) .nil)) (.cons (.tup (.cons (.slot 15) (.cons (.bin .add (.slot 15) (.cst (.int 1))) .nil))) .nil))))))) (.cons (.ret (.cst (.bool false))) .nil) .nil) (.cons (.ite (.or (.cons (.cmp .ne (.call 50 (.cons (.slot 9) (.cons (.slot 11) (.cons (.slot 12) (.cons (.tup (.cons (.slot 10) .nil)) .nil))))) (.neg (.cst (.int 1)))) (.cons (.cmp .ne (.call 50 (.cons (.slot 9) (.cons (.slot 11) (.cons (.slot 12) (.cons (.tup (.cons (.bin .sub (.slot 2) (.cst (.int 1))) .nil)) .nil))))) (.cst (.int 1))) .nil))) (.cons (.ret (.cst (.bool false))) .nil) .nil) (.cons (.asg 13 (.bit .tuple (.seq (.lc [15] (.name 15) (.rng2 (.cst (.int 1)) (.bin .sub (.slot 2) (.cst (.int 1)))) .none (.tup (.cons (.cst (.int 0)) (.cons (.slot 15) (.cons (.bin .add (.slot 15) (.cst (.int 1))) .nil)))))))) (.cons (.asg 14 (.call 56 (.cons (.slot 13) (.cons (.tup .nil) .nil)))) (.cons (.ret (.and (.cons (.cmp .eq (.b1 .len (.call 24 (.cons (.slot 13) (.cons (.slot 14) .nil)))) (.cst (.int 1))) (.cons (.cmp .eq (.call 59 (.cons (.slot 13) (.cons (.slot 14) .nil))) (.tup (.cons (.cst (.int 1)) (.cons (.cst (.int 0)) (.cons (.cst (.int 0)) .nil))))) .nil)))) .nil)))))))))))))))))))))))⟩
def d_law : He.DefD := ⟨("law", none), "law", "law", defArgs (top 68), defBody (top 68), defScope (top 68), [], []⟩
def e_is_integer : Ent := ⟨2, f_is_integer, d_is_integer⟩
def e_is_vertex : Ent := ⟨3, f_is_vertex, d_is_vertex⟩
def e_is_ascending : Ent := ⟨4, f_is_ascending, d_is_ascending⟩
def e_is_simplex : Ent := ⟨5, f_is_simplex, d_is_simplex⟩
def e_simplex_key : Ent := ⟨6, f_simplex_key, d_simplex_key⟩
def e_subsets : Ent := ⟨7, f_subsets, d_subsets⟩
def e_closure : Ent := ⟨8, f_closure, d_closure⟩
def e_does_contain : Ent := ⟨9, f_does_contain, d_does_contain⟩
def e_maximal : Ent := ⟨10, f_maximal, d_maximal⟩
def e_is_good : Ent := ⟨12, f_is_good, d_is_good⟩
def e_check_complex : Ent := ⟨13, f_check_complex, d_check_complex⟩
def e_dimension_of : Ent := ⟨14, f_dimension_of, d_dimension_of⟩
def e_counts_of : Ent := ⟨15, f_counts_of, d_counts_of⟩
def e_faces_of : Ent := ⟨16, f_faces_of, d_faces_of⟩
def e_is_pair : Ent := ⟨17, f_is_pair, d_is_pair⟩
def e_pair_key : Ent := ⟨18, f_pair_key, d_pair_key⟩
def e_are_pairs : Ent := ⟨19, f_are_pairs, d_are_pairs⟩
def e_is_good_matching : Ent := ⟨20, f_is_good_matching, d_is_good_matching⟩
def e_check_matching : Ent := ⟨21, f_check_matching, d_check_matching⟩
def e_sorted_pairs : Ent := ⟨22, f_sorted_pairs, d_sorted_pairs⟩
def e_critical_of : Ent := ⟨23, f_critical_of, d_critical_of⟩
def e_critical : Ent := ⟨24, f_critical, d_critical⟩
def e_steps_from : Ent := ⟨25, f_steps_from, d_steps_from⟩
def e_found_path : Ent := ⟨26, f_found_path, d_found_path⟩
def e_check_acyclic : Ent := ⟨27, f_check_acyclic, d_check_acyclic⟩
def e_sign_of : Ent := ⟨28, f_sign_of, d_sign_of⟩
def e_of_dimension : Ent := ⟨29, f_of_dimension, d_of_dimension⟩
def e_smallest : Ent := ⟨30, f_smallest, d_smallest⟩
def e_reduced : Ent := ⟨31, f_reduced, d_reduced⟩
def e_invariants : Ent := ⟨32, f_invariants, d_invariants⟩
def e_all_invariants : Ent := ⟨33, f_all_invariants, d_all_invariants⟩
def e_betti_from : Ent := ⟨34, f_betti_from, d_betti_from⟩
def e_betti_by : Ent := ⟨35, f_betti_by, d_betti_by⟩
def e_Paths___init__ : Ent := ⟨39, f_Paths___init__, d_Paths___init__⟩
def e_Paths_after : Ent := ⟨40, f_Paths_after, d_Paths_after⟩
def e_Paths_numbers : Ent := ⟨42, f_Paths_numbers, d_Paths_numbers⟩
def e_Paths_rows : Ent := ⟨43, f_Paths_rows, d_Paths_rows⟩
def e_count_between : Ent := ⟨44, f_count_between, d_count_between⟩
def e_sum_between : Ent := ⟨45, f_sum_between, d_sum_between⟩
def e_paths_between : Ent := ⟨46, f_paths_between, d_paths_between⟩
def e_check_ends : Ent := ⟨47, f_check_ends, d_check_ends⟩
def e_gradient_paths : Ent := ⟨49, f_gradient_paths, d_gradient_paths⟩
def e_signed_count : Ent := ⟨50, f_signed_count, d_signed_count⟩
def e_all_cancellable : Ent := ⟨51, f_all_cancellable, d_all_cancellable⟩
def e_cancellable : Ent := ⟨52, f_cancellable, d_cancellable⟩
def e_reversed_path : Ent := ⟨53, f_reversed_path, d_reversed_path⟩
def e_cancel : Ent := ⟨54, f_cancel, d_cancel⟩
def e_obstruction : Ent := ⟨55, f_obstruction, d_obstruction⟩
def e_cancel_all : Ent := ⟨56, f_cancel_all, d_cancel_all⟩
def e_matrix_between : Ent := ⟨57, f_matrix_between, d_matrix_between⟩
def e_numbers_and_factors : Ent := ⟨58, f_numbers_and_factors, d_numbers_and_factors⟩
def e_critical_betti : Ent := ⟨59, f_critical_betti, d_critical_betti⟩
def e__law_town : Ent := ⟨60, f__law_town, d__law_town⟩
def e__law_draw : Ent := ⟨61, f__law_draw, d__law_draw⟩
def e_law : Ent := ⟨62, f_law, d_law⟩
def es : List Ent := ([e_is_integer, e_is_vertex, e_is_ascending, e_is_simplex, e_simplex_key, e_subsets, e_closure, e_does_contain, e_maximal, e_is_good, e_check_complex, e_dimension_of, e_counts_of, e_faces_of, e_is_pair, e_pair_key, e_are_pairs, e_is_good_matching, e_check_matching, e_sorted_pairs] : List Ent) ++ ([e_critical_of, e_critical, e_steps_from, e_found_path, e_check_acyclic, e_sign_of, e_of_dimension, e_smallest, e_reduced, e_invariants, e_all_invariants, e_betti_from, e_betti_by, e_Paths___init__, e_Paths_after, e_Paths_numbers, e_Paths_rows, e_count_between, e_sum_between, e_paths_between] : List Ent) ++ ([e_check_ends, e_gradient_paths, e_signed_count, e_all_cancellable, e_cancellable, e_reversed_path, e_cancel, e_obstruction, e_cancel_all, e_matrix_between, e_numbers_and_factors, e_critical_betti, e__law_town, e__law_draw, e_law] : List Ent)
def fa : List He.Fa := ([.glo "MorseError", .glo "InvalidComplex", .glo "InvalidSimplex", .glo "InvalidMatching", .glo "NoCancellation", .glo "TooMany", .glo "NotAcyclic", .int "MOST_complexes" 60, .glo "is_integer", .glo "is_vertex", .glo "is_ascending", .glo "is_simplex", .glo "simplex_key", .glo "subsets", .glo "closure", .glo "does_contain", .glo "maximal", .glo "is_good", .glo "check_complex", .glo "dimension_of"] : List He.Fa) ++ ([.glo "counts_of", .glo "faces_of", .glo "is_pair", .glo "pair_key", .glo "are_pairs", .glo "is_good_matching", .glo "check_matching", .glo "sorted_pairs", .glo "critical_of", .glo "critical", .glo "steps_from", .glo "found_path", .glo "check_acyclic", .glo "sign_of", .glo "of_dimension", .glo "smallest", .glo "reduced", .glo "invariants", .glo "all_invariants", .glo "betti_from"] : List He.Fa) ++ ([.glo "betti_by", .int "MOST_paths" 200, .glo "Paths", .cls "Paths", .mkr "Paths", .meth "Paths" "__init__", .meth "Paths" "after", .meth "Paths" "numbers", .meth "Paths" "rows", .noat "Paths" "up", .noat "Paths" "lower", .noat "Paths" "known", .glo "count_between", .glo "sum_between", .glo "paths_between", .glo "check_ends", .glo "gradient_paths", .glo "signed_count", .glo "all_cancellable", .glo "cancellable"] : List He.Fa) ++ ([.glo "reversed_path", .glo "cancel", .glo "obstruction", .glo "cancel_all", .glo "matrix_between", .glo "numbers_and_factors", .glo "critical_betti", .glo "_law_town", .glo "_law_draw", .glo "law", .free "len", .free "abs", .free "int", .free "str", .free "dict", .free "tuple", .free "list", .free "sorted", .free "all", .free "any"] : List He.Fa) ++ ([.free "sum", .free "min", .free "max", .free "set", .free "isinstance", .free "range", .free "zip", .free "enumerate", .free "bool"] : List He.Fa)
def loose : List PySem.Str := (["MorseError", "InvalidComplex", "InvalidSimplex", "InvalidMatching", "NoCancellation", "TooMany", "NotAcyclic", "MOST_complexes", "is_integer", "is_vertex", "is_ascending", "is_simplex", "simplex_key", "subsets", "closure", "does_contain", "maximal", "is_good", "check_complex", "dimension_of"] : List PySem.Str) ++ (["counts_of", "faces_of", "is_pair", "pair_key", "are_pairs", "is_good_matching", "check_matching", "sorted_pairs", "critical_of", "critical", "steps_from", "found_path", "check_acyclic", "sign_of", "of_dimension", "smallest", "reduced", "invariants", "all_invariants", "betti_from"] : List PySem.Str) ++ (["betti_by", "MOST_paths", "Paths", "count_between", "sum_between", "paths_between", "check_ends", "gradient_paths", "signed_count", "all_cancellable", "cancellable", "reversed_path", "cancel", "obstruction", "cancel_all", "matrix_between", "numbers_and_factors", "critical_betti", "_law_town", "_law_draw"] : List PySem.Str)
def nm : List PySem.Str := (["path", "NotAcyclic.__init__", "is_integer", "is_vertex", "is_ascending", "is_simplex", "simplex_key", "subsets", "closure", "does_contain", "maximal", "MOST_complexes", "is_good", "check_complex", "dimension_of", "counts_of", "faces_of", "is_pair", "pair_key", "are_pairs"] : List PySem.Str) ++ (["is_good_matching", "check_matching", "sorted_pairs", "critical_of", "critical", "steps_from", "found_path", "check_acyclic", "sign_of", "of_dimension", "smallest", "reduced", "invariants", "all_invariants", "betti_from", "betti_by", "up", "lower", "known", "Paths.__init__"] : List PySem.Str) ++ (["Paths.after", "Paths", "Paths.numbers", "Paths.rows", "count_between", "sum_between", "paths_between", "check_ends", "MOST_paths", "gradient_paths", "signed_count", "all_cancellable", "cancellable", "reversed_path", "cancel", "obstruction", "cancel_all", "matrix_between", "numbers_and_factors", "critical_betti"] : List PySem.Str) ++ (["_law_town", "_law_draw", "law", "__init__", "after", "numbers", "rows"] : List PySem.Str)
def glb : List (Nat × Mx.D) := [(11, .int 60), (48, .int 200)]
def mth : List (Nat × Nat × Nat) := [(39, 41, 63), (40, 41, 64), (42, 41, 65), (43, 41, 66)]
def cl : List (Nat × List PySem.Str) := [(41, ["up", "lower", "known"])]
def dfs : List Nat := [2, 3, 4, 5, 6, 7, 8, 9, 10, 12, 13, 14, 15, 16, 17, 18, 19, 20, 21, 22, 23, 24, 25, 26, 27, 28, 29, 30, 31, 32, 33, 34, 35, 39, 40, 42, 43, 44, 45, 46, 47, 49, 50, 51, 52, 53, 54, 55, 56, 57, 58, 59, 60, 61, 62]
abbrev R : PySem.W.OpenRow := PySem.W.OpenLaw.row PySem.Challenge.rw_morsematch_k32_cancel_by_hand
abbrev hk : PySem.W.Hook := He.hookD 5 fa (fnOfE es)
def ob (s : PySem.W.SharedT) : He.AlD := He.obsDG 5 fa (fnOfE es) (HandSHeadRun.getT s)
theorem ob_eq (s : PySem.W.SharedT) : ob s = hk.obs s.abs := He.obsDG_eq (HandSHeadRun.getT_eq s)
theorem run (w : World) : HandSHeadRun.RunEq R (PySem.W.view R.prog [68]) hk ob 4000 loose w := by
  intro os
  kernel_rfl
theorem dfs_eq : (tbOf es).map (·.1) = dfs := by decide +kernel
theorem c_is_integer : entB nm glb mth dfs cl e_is_integer = true := by decide +kernel
theorem w_is_integer : whereB nm mth fa e_is_integer = true := by decide +kernel
theorem b_is_integer : BindOk e_is_integer := fun _ _ _ _ _ _ us hl => match us, hl with | [_], _ => rfl
theorem c_is_vertex : entB nm glb mth dfs cl e_is_vertex = true := by decide +kernel
theorem w_is_vertex : whereB nm mth fa e_is_vertex = true := by decide +kernel
theorem b_is_vertex : BindOk e_is_vertex := fun _ _ _ _ _ _ us hl => match us, hl with | [_], _ => rfl
theorem c_is_ascending : entB nm glb mth dfs cl e_is_ascending = true := by decide +kernel
theorem w_is_ascending : whereB nm mth fa e_is_ascending = true := by decide +kernel
theorem b_is_ascending : BindOk e_is_ascending := fun _ _ _ _ _ _ us hl => match us, hl with | [_], _ => rfl
theorem c_is_simplex : entB nm glb mth dfs cl e_is_simplex = true := by decide +kernel
theorem w_is_simplex : whereB nm mth fa e_is_simplex = true := by decide +kernel
theorem b_is_simplex : BindOk e_is_simplex := fun _ _ _ _ _ _ us hl => match us, hl with | [_], _ => rfl
theorem c_simplex_key : entB nm glb mth dfs cl e_simplex_key = true := by decide +kernel
theorem w_simplex_key : whereB nm mth fa e_simplex_key = true := by decide +kernel
theorem b_simplex_key : BindOk e_simplex_key := fun _ _ _ _ _ _ us hl => match us, hl with | [_], _ => rfl
theorem c_subsets : entB nm glb mth dfs cl e_subsets = true := by decide +kernel
theorem w_subsets : whereB nm mth fa e_subsets = true := by decide +kernel
theorem b_subsets : BindOk e_subsets := fun _ _ _ _ _ _ us hl => match us, hl with | [_], _ => rfl
theorem c_closure : entB nm glb mth dfs cl e_closure = true := by decide +kernel
theorem w_closure : whereB nm mth fa e_closure = true := by decide +kernel
theorem b_closure : BindOk e_closure := fun _ _ _ _ _ _ us hl => match us, hl with | [_], _ => rfl
theorem c_does_contain : entB nm glb mth dfs cl e_does_contain = true := by decide +kernel
theorem w_does_contain : whereB nm mth fa e_does_contain = true := by decide +kernel
theorem b_does_contain : BindOk e_does_contain := fun _ _ _ _ _ _ us hl => match us, hl with | [_, _], _ => rfl
theorem c_maximal : entB nm glb mth dfs cl e_maximal = true := by decide +kernel
theorem w_maximal : whereB nm mth fa e_maximal = true := by decide +kernel
theorem b_maximal : BindOk e_maximal := fun _ _ _ _ _ _ us hl => match us, hl with | [_], _ => rfl
theorem c_is_good : entB nm glb mth dfs cl e_is_good = true := by decide +kernel
theorem w_is_good : whereB nm mth fa e_is_good = true := by decide +kernel
theorem b_is_good : BindOk e_is_good := fun _ _ _ _ _ _ us hl => match us, hl with | [_], _ => rfl
theorem c_check_complex : entB nm glb mth dfs cl e_check_complex = true := by decide +kernel
theorem w_check_complex : whereB nm mth fa e_check_complex = true := by decide +kernel
theorem b_check_complex : BindOk e_check_complex := fun _ _ _ _ _ _ us hl => match us, hl with | [_], _ => rfl
theorem c_dimension_of : entB nm glb mth dfs cl e_dimension_of = true := by decide +kernel
theorem w_dimension_of : whereB nm mth fa e_dimension_of = true := by decide +kernel
theorem b_dimension_of : BindOk e_dimension_of := fun _ _ _ _ _ _ us hl => match us, hl with | [_], _ => rfl
theorem c_counts_of : entB nm glb mth dfs cl e_counts_of = true := by decide +kernel
theorem w_counts_of : whereB nm mth fa e_counts_of = true := by decide +kernel
theorem b_counts_of : BindOk e_counts_of := fun _ _ _ _ _ _ us hl => match us, hl with | [_, _], _ => rfl
theorem c_faces_of : entB nm glb mth dfs cl e_faces_of = true := by decide +kernel
theorem w_faces_of : whereB nm mth fa e_faces_of = true := by decide +kernel
theorem b_faces_of : BindOk e_faces_of := fun _ _ _ _ _ _ us hl => match us, hl with | [_], _ => rfl
theorem c_is_pair : entB nm glb mth dfs cl e_is_pair = true := by decide +kernel
theorem w_is_pair : whereB nm mth fa e_is_pair = true := by decide +kernel
theorem b_is_pair : BindOk e_is_pair := fun _ _ _ _ _ _ us hl => match us, hl with | [_, _], _ => rfl
theorem c_pair_key : entB nm glb mth dfs cl e_pair_key = true := by decide +kernel
theorem w_pair_key : whereB nm mth fa e_pair_key = true := by decide +kernel
theorem b_pair_key : BindOk e_pair_key := fun _ _ _ _ _ _ us hl => match us, hl with | [_], _ => rfl
theorem c_are_pairs : entB nm glb mth dfs cl e_are_pairs = true := by decide +kernel
theorem w_are_pairs : whereB nm mth fa e_are_pairs = true := by decide +kernel
theorem b_are_pairs : BindOk e_are_pairs := fun _ _ _ _ _ _ us hl => match us, hl with | [_, _], _ => rfl
theorem c_is_good_matching : entB nm glb mth dfs cl e_is_good_matching = true := by decide +kernel
theorem w_is_good_matching : whereB nm mth fa e_is_good_matching = true := by decide +kernel
theorem b_is_good_matching : BindOk e_is_good_matching := fun _ _ _ _ _ _ us hl => match us, hl with | [_, _], _ => rfl
theorem c_check_matching : entB nm glb mth dfs cl e_check_matching = true := by decide +kernel
theorem w_check_matching : whereB nm mth fa e_check_matching = true := by decide +kernel
theorem b_check_matching : BindOk e_check_matching := fun _ _ _ _ _ _ us hl => match us, hl with | [_, _], _ => rfl
theorem c_sorted_pairs : entB nm glb mth dfs cl e_sorted_pairs = true := by decide +kernel
theorem w_sorted_pairs : whereB nm mth fa e_sorted_pairs = true := by decide +kernel
theorem b_sorted_pairs : BindOk e_sorted_pairs := fun _ _ _ _ _ _ us hl => match us, hl with | [_], _ => rfl
theorem c_critical_of : entB nm glb mth dfs cl e_critical_of = true := by decide +kernel
theorem w_critical_of : whereB nm mth fa e_critical_of = true := by decide +kernel
theorem b_critical_of : BindOk e_critical_of := fun _ _ _ _ _ _ us hl => match us, hl with | [_, _], _ => rfl
theorem c_critical : entB nm glb mth dfs cl e_critical = true := by decide +kernel
theorem w_critical : whereB nm mth fa e_critical = true := by decide +kernel
theorem b_critical : BindOk e_critical := fun _ _ _ _ _ _ us hl => match us, hl with | [_, _], _ => rfl
theorem c_steps_from : entB nm glb mth dfs cl e_steps_from = true := by decide +kernel
theorem w_steps_from : whereB nm mth fa e_steps_from = true := by decide +kernel
theorem b_steps_from : BindOk e_steps_from := fun _ _ _ _ _ _ us hl => match us, hl with | [_, _], _ => rfl
theorem c_found_path : entB nm glb mth dfs cl e_found_path = true := by decide +kernel
theorem w_found_path : whereB nm mth fa e_found_path = true := by decide +kernel
theorem b_found_path : BindOk e_found_path := fun _ _ _ _ _ _ us hl => match us, hl with | [_], _ => rfl
theorem c_check_acyclic : entB nm glb mth dfs cl e_check_acyclic = true := by decide +kernel
theorem w_check_acyclic : whereB nm mth fa e_check_acyclic = true := by decide +kernel
theorem b_check_acyclic : BindOk e_check_acyclic := fun _ _ _ _ _ _ us hl => match us, hl with | [_, _], _ => rfl
theorem c_sign_of : entB nm glb mth dfs cl e_sign_of = true := by decide +kernel
theorem w_sign_of : whereB nm mth fa e_sign_of = true := by decide +kernel
theorem b_sign_of : BindOk e_sign_of := fun _ _ _ _ _ _ us hl => match us, hl with | [_, _], _ => rfl
theorem c_of_dimension : entB nm glb mth dfs cl e_of_dimension = true := by decide +kernel
theorem w_of_dimension : whereB nm mth fa e_of_dimension = true := by decide +kernel
theorem b_of_dimension : BindOk e_of_dimension := fun _ _ _ _ _ _ us hl => match us, hl with | [_, _], _ => rfl
theorem c_smallest : entB nm glb mth dfs cl e_smallest = true := by decide +kernel
theorem w_smallest : whereB nm mth fa e_smallest = true := by decide +kernel
theorem b_smallest : BindOk e_smallest := fun _ _ _ _ _ _ us hl => match us, hl with | [_], _ => rfl
theorem c_reduced : entB nm glb mth dfs cl e_reduced = true := by decide +kernel
theorem w_reduced : whereB nm mth fa e_reduced = true := by decide +kernel
theorem b_reduced : BindOk e_reduced := fun _ _ _ _ _ _ us hl => match us, hl with | [_], _ => rfl
theorem c_invariants : entB nm glb mth dfs cl e_invariants = true := by decide +kernel
theorem w_invariants : whereB nm mth fa e_invariants = true := by decide +kernel
theorem b_invariants : BindOk e_invariants := fun _ _ _ _ _ _ us hl => match us, hl with | [_], _ => rfl
theorem c_all_invariants : entB nm glb mth dfs cl e_all_invariants = true := by decide +kernel
theorem w_all_invariants : whereB nm mth fa e_all_invariants = true := by decide +kernel
theorem b_all_invariants : BindOk e_all_invariants := fun _ _ _ _ _ _ us hl => match us, hl with | [_, _], _ => rfl
theorem c_betti_from : entB nm glb mth dfs cl e_betti_from = true := by decide +kernel
theorem w_betti_from : whereB nm mth fa e_betti_from = true := by decide +kernel
theorem b_betti_from : BindOk e_betti_from := fun _ _ _ _ _ _ us hl => match us, hl with | [_, _], _ => rfl
theorem c_betti_by : entB nm glb mth dfs cl e_betti_by = true := by decide +kernel
theorem w_betti_by : whereB nm mth fa e_betti_by = true := by decide +kernel
theorem b_betti_by : BindOk e_betti_by := fun _ _ _ _ _ _ us hl => match us, hl with | [_, _], _ => rfl
theorem c_Paths___init__ : entB nm glb mth dfs cl e_Paths___init__ = true := by decide +kernel
theorem w_Paths___init__ : whereB nm mth fa e_Paths___init__ = true := by decide +kernel
theorem b_Paths___init__ : BindOk e_Paths___init__ := fun _ _ _ _ _ _ us hl => match us, hl with | [_, _, _], _ => rfl
theorem c_Paths_after : entB nm glb mth dfs cl e_Paths_after = true := by decide +kernel
theorem w_Paths_after : whereB nm mth fa e_Paths_after = true := by decide +kernel
theorem b_Paths_after : BindOk e_Paths_after := fun _ _ _ _ _ _ us hl => match us, hl with | [_, _], _ => rfl
theorem c_Paths_numbers : entB nm glb mth dfs cl e_Paths_numbers = true := by decide +kernel
theorem w_Paths_numbers : whereB nm mth fa e_Paths_numbers = true := by decide +kernel
theorem b_Paths_numbers : BindOk e_Paths_numbers := fun _ _ _ _ _ _ us hl => match us, hl with | [_, _], _ => rfl
theorem c_Paths_rows : entB nm glb mth dfs cl e_Paths_rows = true := by decide +kernel
theorem w_Paths_rows : whereB nm mth fa e_Paths_rows = true := by decide +kernel
theorem b_Paths_rows : BindOk e_Paths_rows := fun _ _ _ _ _ _ us hl => match us, hl with | [_, _], _ => rfl
theorem c_count_between : entB nm glb mth dfs cl e_count_between = true := by decide +kernel
theorem w_count_between : whereB nm mth fa e_count_between = true := by decide +kernel
theorem b_count_between : BindOk e_count_between := fun _ _ _ _ _ _ us hl => match us, hl with | [_, _, _], _ => rfl
theorem c_sum_between : entB nm glb mth dfs cl e_sum_between = true := by decide +kernel
theorem w_sum_between : whereB nm mth fa e_sum_between = true := by decide +kernel
theorem b_sum_between : BindOk e_sum_between := fun _ _ _ _ _ _ us hl => match us, hl with | [_, _, _], _ => rfl
theorem c_paths_between : entB nm glb mth dfs cl e_paths_between = true := by decide +kernel
theorem w_paths_between : whereB nm mth fa e_paths_between = true := by decide +kernel
theorem b_paths_between : BindOk e_paths_between := fun _ _ _ _ _ _ us hl => match us, hl with | [_, _, _], _ => rfl
theorem c_check_ends : entB nm glb mth dfs cl e_check_ends = true := by decide +kernel
theorem w_check_ends : whereB nm mth fa e_check_ends = true := by decide +kernel
theorem b_check_ends : BindOk e_check_ends := fun _ _ _ _ _ _ us hl => match us, hl with | [_, _, _, _], _ => rfl
theorem c_gradient_paths : entB nm glb mth dfs cl e_gradient_paths = true := by decide +kernel
theorem w_gradient_paths : whereB nm mth fa e_gradient_paths = true := by decide +kernel
theorem b_gradient_paths : BindOk e_gradient_paths := fun _ _ _ _ _ _ us hl => match us, hl with | [_, _, _, _], _ => rfl
theorem c_signed_count : entB nm glb mth dfs cl e_signed_count = true := by decide +kernel
theorem w_signed_count : whereB nm mth fa e_signed_count = true := by decide +kernel
theorem b_signed_count : BindOk e_signed_count := fun _ _ _ _ _ _ us hl => match us, hl with | [_, _, _, _], _ => rfl
theorem c_all_cancellable : entB nm glb mth dfs cl e_all_cancellable = true := by decide +kernel
theorem w_all_cancellable : whereB nm mth fa e_all_cancellable = true := by decide +kernel
theorem b_all_cancellable : BindOk e_all_cancellable := fun _ _ _ _ _ _ us hl => match us, hl with | [_, _], _ => rfl
theorem c_cancellable : entB nm glb mth dfs cl e_cancellable = true := by decide +kernel
theorem w_cancellable : whereB nm mth fa e_cancellable = true := by decide +kernel
theorem b_cancellable : BindOk e_cancellable := fun _ _ _ _ _ _ us hl => match us, hl with | [_, _], _ => rfl
theorem c_reversed_path : entB nm glb mth dfs cl e_reversed_path = true := by decide +kernel
theorem w_reversed_path : whereB nm mth fa e_reversed_path = true := by decide +kernel
theorem b_reversed_path : BindOk e_reversed_path := fun _ _ _ _ _ _ us hl => match us, hl with | [_, _], _ => rfl
theorem c_cancel : entB nm glb mth dfs cl e_cancel = true := by decide +kernel
theorem w_cancel : whereB nm mth fa e_cancel = true := by decide +kernel
theorem b_cancel : BindOk e_cancel := fun _ _ _ _ _ _ us hl => match us, hl with | [_, _, _, _], _ => rfl
theorem c_obstruction : entB nm glb mth dfs cl e_obstruction = true := by decide +kernel
theorem w_obstruction : whereB nm mth fa e_obstruction = true := by decide +kernel
theorem b_obstruction : BindOk e_obstruction := fun _ _ _ _ _ _ us hl => match us, hl with | [_, _, _, _], _ => rfl
theorem c_cancel_all : entB nm glb mth dfs cl e_cancel_all = true := by decide +kernel
theorem w_cancel_all : whereB nm mth fa e_cancel_all = true := by decide +kernel
theorem b_cancel_all : BindOk e_cancel_all := fun _ _ _ _ _ _ us hl => match us, hl with | [_, _], _ => rfl
theorem c_matrix_between : entB nm glb mth dfs cl e_matrix_between = true := by decide +kernel
theorem w_matrix_between : whereB nm mth fa e_matrix_between = true := by decide +kernel
theorem b_matrix_between : BindOk e_matrix_between := fun _ _ _ _ _ _ us hl => match us, hl with | [_, _, _], _ => rfl
theorem c_numbers_and_factors : entB nm glb mth dfs cl e_numbers_and_factors = true := by decide +kernel
theorem w_numbers_and_factors : whereB nm mth fa e_numbers_and_factors = true := by decide +kernel
theorem b_numbers_and_factors : BindOk e_numbers_and_factors := fun _ _ _ _ _ _ us hl => match us, hl with | [_, _], _ => rfl
theorem c_critical_betti : entB nm glb mth dfs cl e_critical_betti = true := by decide +kernel
theorem w_critical_betti : whereB nm mth fa e_critical_betti = true := by decide +kernel
theorem b_critical_betti : BindOk e_critical_betti := fun _ _ _ _ _ _ us hl => match us, hl with | [_, _], _ => rfl
theorem c__law_town : entB nm glb mth dfs cl e__law_town = true := by decide +kernel
theorem w__law_town : whereB nm mth fa e__law_town = true := by decide +kernel
theorem b__law_town : BindOk e__law_town := fun _ _ _ _ _ _ us hl => match us, hl with | [_], _ => rfl
theorem c__law_draw : entB nm glb mth dfs cl e__law_draw = true := by decide +kernel
theorem w__law_draw : whereB nm mth fa e__law_draw = true := by decide +kernel
theorem b__law_draw : BindOk e__law_draw := fun _ _ _ _ _ _ us hl => match us, hl with | [_, _, _], _ => rfl
theorem c_law : entB nm glb mth dfs cl e_law = true := by decide +kernel
theorem w_law : whereB nm mth fa e_law = true := by decide +kernel
theorem b_law : BindOk e_law := fun _ _ _ _ _ _ us hl => match us, hl with | [_], _ => rfl
theorem r55 : AllE (fun e => entB nm glb mth ((tbOf es).map (·.1)) cl e = true ∧ whereB nm mth fa e = true ∧ BindOk e) (es.drop 55) := True.intro
theorem r54 : AllE (fun e => entB nm glb mth ((tbOf es).map (·.1)) cl e = true ∧ whereB nm mth fa e = true ∧ BindOk e) (es.drop 54) := ⟨⟨by rw [dfs_eq]; exact c_law, w_law, b_law⟩, r55⟩
theorem r53 : AllE (fun e => entB nm glb mth ((tbOf es).map (·.1)) cl e = true ∧ whereB nm mth fa e = true ∧ BindOk e) (es.drop 53) := ⟨⟨by rw [dfs_eq]; exact c__law_draw, w__law_draw, b__law_draw⟩, r54⟩
theorem r52 : AllE (fun e => entB nm glb mth ((tbOf es).map (·.1)) cl e = true ∧ whereB nm mth fa e = true ∧ BindOk e) (es.drop 52) := ⟨⟨by rw [dfs_eq]; exact c__law_town, w__law_town, b__law_town⟩, r53⟩
theorem r51 : AllE (fun e => entB nm glb mth ((tbOf es).map (·.1)) cl e = true ∧ whereB nm mth fa e = true ∧ BindOk e) (es.drop 51) := ⟨⟨by rw [dfs_eq]; exact c_critical_betti, w_critical_betti, b_critical_betti⟩, r52⟩
theorem r50 : AllE (fun e => entB nm glb mth ((tbOf es).map (·.1)) cl e = true ∧ whereB nm mth fa e = true ∧ BindOk e) (es.drop 50) := ⟨⟨by rw [dfs_eq]; exact c_numbers_and_factors, w_numbers_and_factors, b_numbers_and_factors⟩, r51⟩
theorem r49 : AllE (fun e => entB nm glb mth ((tbOf es).map (·.1)) cl e = true ∧ whereB nm mth fa e = true ∧ BindOk e) (es.drop 49) := ⟨⟨by rw [dfs_eq]; exact c_matrix_between, w_matrix_between, b_matrix_between⟩, r50⟩
theorem r48 : AllE (fun e => entB nm glb mth ((tbOf es).map (·.1)) cl e = true ∧ whereB nm mth fa e = true ∧ BindOk e) (es.drop 48) := ⟨⟨by rw [dfs_eq]; exact c_cancel_all, w_cancel_all, b_cancel_all⟩, r49⟩
theorem r47 : AllE (fun e => entB nm glb mth ((tbOf es).map (·.1)) cl e = true ∧ whereB nm mth fa e = true ∧ BindOk e) (es.drop 47) := ⟨⟨by rw [dfs_eq]; exact c_obstruction, w_obstruction, b_obstruction⟩, r48⟩
theorem r46 : AllE (fun e => entB nm glb mth ((tbOf es).map (·.1)) cl e = true ∧ whereB nm mth fa e = true ∧ BindOk e) (es.drop 46) := ⟨⟨by rw [dfs_eq]; exact c_cancel, w_cancel, b_cancel⟩, r47⟩
theorem r45 : AllE (fun e => entB nm glb mth ((tbOf es).map (·.1)) cl e = true ∧ whereB nm mth fa e = true ∧ BindOk e) (es.drop 45) := ⟨⟨by rw [dfs_eq]; exact c_reversed_path, w_reversed_path, b_reversed_path⟩, r46⟩
theorem r44 : AllE (fun e => entB nm glb mth ((tbOf es).map (·.1)) cl e = true ∧ whereB nm mth fa e = true ∧ BindOk e) (es.drop 44) := ⟨⟨by rw [dfs_eq]; exact c_cancellable, w_cancellable, b_cancellable⟩, r45⟩
theorem r43 : AllE (fun e => entB nm glb mth ((tbOf es).map (·.1)) cl e = true ∧ whereB nm mth fa e = true ∧ BindOk e) (es.drop 43) := ⟨⟨by rw [dfs_eq]; exact c_all_cancellable, w_all_cancellable, b_all_cancellable⟩, r44⟩
theorem r42 : AllE (fun e => entB nm glb mth ((tbOf es).map (·.1)) cl e = true ∧ whereB nm mth fa e = true ∧ BindOk e) (es.drop 42) := ⟨⟨by rw [dfs_eq]; exact c_signed_count, w_signed_count, b_signed_count⟩, r43⟩
theorem r41 : AllE (fun e => entB nm glb mth ((tbOf es).map (·.1)) cl e = true ∧ whereB nm mth fa e = true ∧ BindOk e) (es.drop 41) := ⟨⟨by rw [dfs_eq]; exact c_gradient_paths, w_gradient_paths, b_gradient_paths⟩, r42⟩
theorem r40 : AllE (fun e => entB nm glb mth ((tbOf es).map (·.1)) cl e = true ∧ whereB nm mth fa e = true ∧ BindOk e) (es.drop 40) := ⟨⟨by rw [dfs_eq]; exact c_check_ends, w_check_ends, b_check_ends⟩, r41⟩
theorem r39 : AllE (fun e => entB nm glb mth ((tbOf es).map (·.1)) cl e = true ∧ whereB nm mth fa e = true ∧ BindOk e) (es.drop 39) := ⟨⟨by rw [dfs_eq]; exact c_paths_between, w_paths_between, b_paths_between⟩, r40⟩
theorem r38 : AllE (fun e => entB nm glb mth ((tbOf es).map (·.1)) cl e = true ∧ whereB nm mth fa e = true ∧ BindOk e) (es.drop 38) := ⟨⟨by rw [dfs_eq]; exact c_sum_between, w_sum_between, b_sum_between⟩, r39⟩
theorem r37 : AllE (fun e => entB nm glb mth ((tbOf es).map (·.1)) cl e = true ∧ whereB nm mth fa e = true ∧ BindOk e) (es.drop 37) := ⟨⟨by rw [dfs_eq]; exact c_count_between, w_count_between, b_count_between⟩, r38⟩
theorem r36 : AllE (fun e => entB nm glb mth ((tbOf es).map (·.1)) cl e = true ∧ whereB nm mth fa e = true ∧ BindOk e) (es.drop 36) := ⟨⟨by rw [dfs_eq]; exact c_Paths_rows, w_Paths_rows, b_Paths_rows⟩, r37⟩
theorem r35 : AllE (fun e => entB nm glb mth ((tbOf es).map (·.1)) cl e = true ∧ whereB nm mth fa e = true ∧ BindOk e) (es.drop 35) := ⟨⟨by rw [dfs_eq]; exact c_Paths_numbers, w_Paths_numbers, b_Paths_numbers⟩, r36⟩
theorem r34 : AllE (fun e => entB nm glb mth ((tbOf es).map (·.1)) cl e = true ∧ whereB nm mth fa e = true ∧ BindOk e) (es.drop 34) := ⟨⟨by rw [dfs_eq]; exact c_Paths_after, w_Paths_after, b_Paths_after⟩, r35⟩
theorem r33 : AllE (fun e => entB nm glb mth ((tbOf es).map (·.1)) cl e = true ∧ whereB nm mth fa e = true ∧ BindOk e) (es.drop 33) := ⟨⟨by rw [dfs_eq]; exact c_Paths___init__, w_Paths___init__, b_Paths___init__⟩, r34⟩
theorem r32 : AllE (fun e => entB nm glb mth ((tbOf es).map (·.1)) cl e = true ∧ whereB nm mth fa e = true ∧ BindOk e) (es.drop 32) := ⟨⟨by rw [dfs_eq]; exact c_betti_by, w_betti_by, b_betti_by⟩, r33⟩
theorem r31 : AllE (fun e => entB nm glb mth ((tbOf es).map (·.1)) cl e = true ∧ whereB nm mth fa e = true ∧ BindOk e) (es.drop 31) := ⟨⟨by rw [dfs_eq]; exact c_betti_from, w_betti_from, b_betti_from⟩, r32⟩
theorem r30 : AllE (fun e => entB nm glb mth ((tbOf es).map (·.1)) cl e = true ∧ whereB nm mth fa e = true ∧ BindOk e) (es.drop 30) := ⟨⟨by rw [dfs_eq]; exact c_all_invariants, w_all_invariants, b_all_invariants⟩, r31⟩
theorem r29 : AllE (fun e => entB nm glb mth ((tbOf es).map (·.1)) cl e = true ∧ whereB nm mth fa e = true ∧ BindOk e) (es.drop 29) := ⟨⟨by rw [dfs_eq]; exact c_invariants, w_invariants, b_invariants⟩, r30⟩
theorem r28 : AllE (fun e => entB nm glb mth ((tbOf es).map (·.1)) cl e = true ∧ whereB nm mth fa e = true ∧ BindOk e) (es.drop 28) := ⟨⟨by rw [dfs_eq]; exact c_reduced, w_reduced, b_reduced⟩, r29⟩
theorem r27 : AllE (fun e => entB nm glb mth ((tbOf es).map (·.1)) cl e = true ∧ whereB nm mth fa e = true ∧ BindOk e) (es.drop 27) := ⟨⟨by rw [dfs_eq]; exact c_smallest, w_smallest, b_smallest⟩, r28⟩
theorem r26 : AllE (fun e => entB nm glb mth ((tbOf es).map (·.1)) cl e = true ∧ whereB nm mth fa e = true ∧ BindOk e) (es.drop 26) := ⟨⟨by rw [dfs_eq]; exact c_of_dimension, w_of_dimension, b_of_dimension⟩, r27⟩
theorem r25 : AllE (fun e => entB nm glb mth ((tbOf es).map (·.1)) cl e = true ∧ whereB nm mth fa e = true ∧ BindOk e) (es.drop 25) := ⟨⟨by rw [dfs_eq]; exact c_sign_of, w_sign_of, b_sign_of⟩, r26⟩
theorem r24 : AllE (fun e => entB nm glb mth ((tbOf es).map (·.1)) cl e = true ∧ whereB nm mth fa e = true ∧ BindOk e) (es.drop 24) := ⟨⟨by rw [dfs_eq]; exact c_check_acyclic, w_check_acyclic, b_check_acyclic⟩, r25⟩
theorem r23 : AllE (fun e => entB nm glb mth ((tbOf es).map (·.1)) cl e = true ∧ whereB nm mth fa e = true ∧ BindOk e) (es.drop 23) := ⟨⟨by rw [dfs_eq]; exact c_found_path, w_found_path, b_found_path⟩, r24⟩
theorem r22 : AllE (fun e => entB nm glb mth ((tbOf es).map (·.1)) cl e = true ∧ whereB nm mth fa e = true ∧ BindOk e) (es.drop 22) := ⟨⟨by rw [dfs_eq]; exact c_steps_from, w_steps_from, b_steps_from⟩, r23⟩
theorem r21 : AllE (fun e => entB nm glb mth ((tbOf es).map (·.1)) cl e = true ∧ whereB nm mth fa e = true ∧ BindOk e) (es.drop 21) := ⟨⟨by rw [dfs_eq]; exact c_critical, w_critical, b_critical⟩, r22⟩
theorem r20 : AllE (fun e => entB nm glb mth ((tbOf es).map (·.1)) cl e = true ∧ whereB nm mth fa e = true ∧ BindOk e) (es.drop 20) := ⟨⟨by rw [dfs_eq]; exact c_critical_of, w_critical_of, b_critical_of⟩, r21⟩
theorem r19 : AllE (fun e => entB nm glb mth ((tbOf es).map (·.1)) cl e = true ∧ whereB nm mth fa e = true ∧ BindOk e) (es.drop 19) := ⟨⟨by rw [dfs_eq]; exact c_sorted_pairs, w_sorted_pairs, b_sorted_pairs⟩, r20⟩
theorem r18 : AllE (fun e => entB nm glb mth ((tbOf es).map (·.1)) cl e = true ∧ whereB nm mth fa e = true ∧ BindOk e) (es.drop 18) := ⟨⟨by rw [dfs_eq]; exact c_check_matching, w_check_matching, b_check_matching⟩, r19⟩
theorem r17 : AllE (fun e => entB nm glb mth ((tbOf es).map (·.1)) cl e = true ∧ whereB nm mth fa e = true ∧ BindOk e) (es.drop 17) := ⟨⟨by rw [dfs_eq]; exact c_is_good_matching, w_is_good_matching, b_is_good_matching⟩, r18⟩
theorem r16 : AllE (fun e => entB nm glb mth ((tbOf es).map (·.1)) cl e = true ∧ whereB nm mth fa e = true ∧ BindOk e) (es.drop 16) := ⟨⟨by rw [dfs_eq]; exact c_are_pairs, w_are_pairs, b_are_pairs⟩, r17⟩
theorem r15 : AllE (fun e => entB nm glb mth ((tbOf es).map (·.1)) cl e = true ∧ whereB nm mth fa e = true ∧ BindOk e) (es.drop 15) := ⟨⟨by rw [dfs_eq]; exact c_pair_key, w_pair_key, b_pair_key⟩, r16⟩
theorem r14 : AllE (fun e => entB nm glb mth ((tbOf es).map (·.1)) cl e = true ∧ whereB nm mth fa e = true ∧ BindOk e) (es.drop 14) := ⟨⟨by rw [dfs_eq]; exact c_is_pair, w_is_pair, b_is_pair⟩, r15⟩
theorem r13 : AllE (fun e => entB nm glb mth ((tbOf es).map (·.1)) cl e = true ∧ whereB nm mth fa e = true ∧ BindOk e) (es.drop 13) := ⟨⟨by rw [dfs_eq]; exact c_faces_of, w_faces_of, b_faces_of⟩, r14⟩
theorem r12 : AllE (fun e => entB nm glb mth ((tbOf es).map (·.1)) cl e = true ∧ whereB nm mth fa e = true ∧ BindOk e) (es.drop 12) := ⟨⟨by rw [dfs_eq]; exact c_counts_of, w_counts_of, b_counts_of⟩, r13⟩
theorem r11 : AllE (fun e => entB nm glb mth ((tbOf es).map (·.1)) cl e = true ∧ whereB nm mth fa e = true ∧ BindOk e) (es.drop 11) := ⟨⟨by rw [dfs_eq]; exact c_dimension_of, w_dimension_of, b_dimension_of⟩, r12⟩
theorem r10 : AllE (fun e => entB nm glb mth ((tbOf es).map (·.1)) cl e = true ∧ whereB nm mth fa e = true ∧ BindOk e) (es.drop 10) := ⟨⟨by rw [dfs_eq]; exact c_check_complex, w_check_complex, b_check_complex⟩, r11⟩
theorem r9 : AllE (fun e => entB nm glb mth ((tbOf es).map (·.1)) cl e = true ∧ whereB nm mth fa e = true ∧ BindOk e) (es.drop 9) := ⟨⟨by rw [dfs_eq]; exact c_is_good, w_is_good, b_is_good⟩, r10⟩
theorem r8 : AllE (fun e => entB nm glb mth ((tbOf es).map (·.1)) cl e = true ∧ whereB nm mth fa e = true ∧ BindOk e) (es.drop 8) := ⟨⟨by rw [dfs_eq]; exact c_maximal, w_maximal, b_maximal⟩, r9⟩
theorem r7 : AllE (fun e => entB nm glb mth ((tbOf es).map (·.1)) cl e = true ∧ whereB nm mth fa e = true ∧ BindOk e) (es.drop 7) := ⟨⟨by rw [dfs_eq]; exact c_does_contain, w_does_contain, b_does_contain⟩, r8⟩
theorem r6 : AllE (fun e => entB nm glb mth ((tbOf es).map (·.1)) cl e = true ∧ whereB nm mth fa e = true ∧ BindOk e) (es.drop 6) := ⟨⟨by rw [dfs_eq]; exact c_closure, w_closure, b_closure⟩, r7⟩
theorem r5 : AllE (fun e => entB nm glb mth ((tbOf es).map (·.1)) cl e = true ∧ whereB nm mth fa e = true ∧ BindOk e) (es.drop 5) := ⟨⟨by rw [dfs_eq]; exact c_subsets, w_subsets, b_subsets⟩, r6⟩
theorem r4 : AllE (fun e => entB nm glb mth ((tbOf es).map (·.1)) cl e = true ∧ whereB nm mth fa e = true ∧ BindOk e) (es.drop 4) := ⟨⟨by rw [dfs_eq]; exact c_simplex_key, w_simplex_key, b_simplex_key⟩, r5⟩
theorem r3 : AllE (fun e => entB nm glb mth ((tbOf es).map (·.1)) cl e = true ∧ whereB nm mth fa e = true ∧ BindOk e) (es.drop 3) := ⟨⟨by rw [dfs_eq]; exact c_is_simplex, w_is_simplex, b_is_simplex⟩, r4⟩
theorem r2 : AllE (fun e => entB nm glb mth ((tbOf es).map (·.1)) cl e = true ∧ whereB nm mth fa e = true ∧ BindOk e) (es.drop 2) := ⟨⟨by rw [dfs_eq]; exact c_is_ascending, w_is_ascending, b_is_ascending⟩, r3⟩
theorem r1 : AllE (fun e => entB nm glb mth ((tbOf es).map (·.1)) cl e = true ∧ whereB nm mth fa e = true ∧ BindOk e) (es.drop 1) := ⟨⟨by rw [dfs_eq]; exact c_is_vertex, w_is_vertex, b_is_vertex⟩, r2⟩
theorem r0 : AllE (fun e => entB nm glb mth ((tbOf es).map (·.1)) cl e = true ∧ whereB nm mth fa e = true ∧ BindOk e) es := ⟨⟨by rw [dfs_eq]; exact c_is_integer, w_is_integer, b_is_integer⟩, r1⟩
section
open PySem.W
abbrev Rq : PySem.Program := PySem.W.view R.prog [68]
abbrev Rd : DefRec := HandSHeadRun.topDef R.prog 68
theorem p1 : opening R.prog = plainProg R.prog.main.scope.names := by kernel_rfl
theorem p2 : ∀ s, fenceModules? R.prog s = some s := fun s => by kernel_rfl
theorem p3 : defOf Rq R.name = some (Rd, []) := by kernel_rfl
theorem p4 : R.prog.theDef R.name = some (Rd.params, Rd.body, Rd.scope) := by kernel_rfl
theorem p5 : kwWritten? Rd.params.kwonlyargs Rd.params.kw_defaults = some [] := by kernel_rfl
theorem p6 : (!R.writes || R.records.isEmpty) = true := by rfl
theorem p8 : (chainsOk Rq && opensWell R.prog && (frees R.toRowW && R.within.isEmpty)) = true := by decide +kernel
theorem p9 : R.prog.bare := ⟨rfl, rfl, rfl, rfl, rfl, by decide +kernel⟩
theorem p11 : Rd.name = ("law" : PySem.Str) := by kernel_rfl
theorem p12 : Rd.params.defaults = [] := by kernel_rfl
theorem p13 : glb.all (glbB nm fa) = true := by decide +kernel
theorem p14 : cl.all (clsB nm fa) = true := by decide +kernel
theorem p15 : blts.all (freeB fa) = true := by decide +kernel
theorem p16 : (tbOf es).lookup 62 = some f_law := by rfl
end
theorem walk (F : Nat) (hlaw : ∀ ns : List Int, ns.length ≤ 63 → (callN (tbOf es) F 40 62 [.d (.list (ns.map PyData.int))] []).sat fun x _ => x = .d (.bool true)) : PySem.W.WalkO Rq loose (PySem.W.XL Rq []) hk.says R.toRowW Rd [] (fun f vs => PySem.call f vs) := by
  refine walk_W (l := PySem.Challenge.rw_morsematch_k32_cancel_by_hand) (n := 63) (k := 2 * 40) (x := "script") rfl (by decide) p12 ⟨rfl, by decide, by decide⟩ ?_
  intro w mg fa' h Y G hmg0
  obtain ⟨K, KX, c⟩ := Y
  have hmg : mg ("law" : PySem.Str) = some (.ref fa') := by
    rw [← p11]
    exact hmg0
  have M := mdl_of KX G c r0 p13 p14 p15
  obtain ⟨fa2, fd, sp, h1, h2, h3, h4⟩ := law_of M PySem.Challenge.rw_morsematch_k32_cancel_by_hand.prog w F 40 62 (d := f_law) p16 rfl rfl hlaw
  have e : fa2 = fa' := by
    have h1 : mg ("law" : PySem.Str) = some (.ref fa2) := h1
    rw [hmg] at h1
    injection h1 with z
    injection z with z
    exact z.symm
  subst e
  exact ⟨K, fd, sp, KX, fun s u => h2 s [u] rfl, h3, h4⟩
theorem holds (F : Nat) (hlaw : ∀ ns : List Int, ns.length ≤ 63 → (callN (tbOf es) F 40 62 [.d (.list (ns.map PyData.int))] []).sat fun x _ => x = .d (.bool true)) : PySem.Challenge.rw_morsematch_k32_cancel_by_hand.Holds := by
  w_on; o_law
  refine HandSHeadRun.head_any (r := R) (q := Rq) (H := hk) (ob := ob) (M := 4000) (loose := loose) (d := Rd) (kwd := []) ob_eq p1 p2 run p3 p4 p5 p6 (by first | assumption | decide +kernel) p8 p9 ?hw (walk F hlaw)
  case hw => w_witness2
end Lk32

set_option Elab.async false
set_option linter.all false
set_option maxRecDepth 100000
set_option maxHeartbeats 0
namespace Lk32
open PySem PySem.Spec L2 Mx
noncomputable def k_is_integer : Kd := ⟨1, [], fun c => (kSq (kRet (kBool (kAnd (kIsi .int (kSlot 0)) (kTru (kNot (kIsi .bool (kSlot 0))))))) kEnd)⟩
theorem kok_is_integer : KdOk f_is_integer k_is_integer := ⟨rfl, rfl, fun c => by simp only [f_is_integer, k_is_integer, l_slot, l_cst, l_glo, l_fn, l_stuck, l_add, l_sub, l_mul, l_fdiv, l_mod, l_pow, l_neg, l_not, l_and, l_or, l_and1, l_and2, l_or1, l_or2, l_eq, l_ne, l_lt, l_le, l_gt, l_ge, l_inn, l_nin, l_is, l_isnt, l_cmp2, l_ite, l_enil, l_econs, l_anil, l_acons, l_tup, l_lst, l_idx, l_onone, l_osome, l_sli, l_sl3, l_call, l_len, l_abs, l_int, l_str, l_dict, l_bitS, l_bitZ, l_bitR1, l_bitR2, l_bitK, l_bitV, l_bitI, l_seq, l_rng1, l_rng2, l_rng3, l_zip, l_zip3, l_enu, l_keys, l_vals, l_items, l_srtK, l_isi, l_tnone, l_tsome, l_lc, l_lc2, l_dc, l_dc2, l_dct, l_cnt, l_index, l_get, l_oidx, l_fld, l_meth, l_mk, l_cell, l_dcell, l_deq0, l_rd, l_snil, l_scons, l_asg, l_asgT, l_par, l_app, l_ext, l_popK, l_upd, l_put, l_oput, l_oapp, l_fset, l_aug, l_expr, l_ret, l_retN, l_if, l_for, l_while, l_raise, l_cont, l_brk, l_pass, l_sstuck]⟩
noncomputable def k_is_vertex : Kd := ⟨1, [], fun c => (kSq (kRet (kBool (kAnd (kCall c 2 (kACons (kSlot 0) kANil)) (kTru (kC2 .le .le (kOk (.d (.int 0))) (kSlot 0) (kOk (.d (.int 7)))))))) kEnd)⟩
theorem kok_is_vertex : KdOk f_is_vertex k_is_vertex := ⟨rfl, rfl, fun c => by simp only [f_is_vertex, k_is_vertex, l_slot, l_cst, l_glo, l_fn, l_stuck, l_add, l_sub, l_mul, l_fdiv, l_mod, l_pow, l_neg, l_not, l_and, l_or, l_and1, l_and2, l_or1, l_or2, l_eq, l_ne, l_lt, l_le, l_gt, l_ge, l_inn, l_nin, l_is, l_isnt, l_cmp2, l_ite, l_enil, l_econs, l_anil, l_acons, l_tup, l_lst, l_idx, l_onone, l_osome, l_sli, l_sl3, l_call, l_len, l_abs, l_int, l_str, l_dict, l_bitS, l_bitZ, l_bitR1, l_bitR2, l_bitK, l_bitV, l_bitI, l_seq, l_rng1, l_rng2, l_rng3, l_zip, l_zip3, l_enu, l_keys, l_vals, l_items, l_srtK, l_isi, l_tnone, l_tsome, l_lc, l_lc2, l_dc, l_dc2, l_dct, l_cnt, l_index, l_get, l_oidx, l_fld, l_meth, l_mk, l_cell, l_dcell, l_deq0, l_rd, l_snil, l_scons, l_asg, l_asgT, l_par, l_app, l_ext, l_popK, l_upd, l_put, l_oput, l_oapp, l_fset, l_aug, l_expr, l_ret, l_retN, l_if, l_for, l_while, l_raise, l_cont, l_brk, l_pass, l_sstuck]⟩
noncomputable def k_is_ascending : Kd := ⟨1, [none, none], fun c => (kSq (kRet (kU (bitF .all) (kLc [1, 2] (.tup [1, 2]) (kZip (kSlot 0) (kSli (kSlot 0) (kOSome (kOk (.d (.int 1)))) kONone)) kTNone (kC ltO (kSlot 1) (kSlot 2))))) kEnd)⟩
theorem kok_is_ascending : KdOk f_is_ascending k_is_ascending := ⟨rfl, rfl, fun c => by simp only [f_is_ascending, k_is_ascending, l_slot, l_cst, l_glo, l_fn, l_stuck, l_add, l_sub, l_mul, l_fdiv, l_mod, l_pow, l_neg, l_not, l_and, l_or, l_and1, l_and2, l_or1, l_or2, l_eq, l_ne, l_lt, l_le, l_gt, l_ge, l_inn, l_nin, l_is, l_isnt, l_cmp2, l_ite, l_enil, l_econs, l_anil, l_acons, l_tup, l_lst, l_idx, l_onone, l_osome, l_sli, l_sl3, l_call, l_len, l_abs, l_int, l_str, l_dict, l_bitS, l_bitZ, l_bitR1, l_bitR2, l_bitK, l_bitV, l_bitI, l_seq, l_rng1, l_rng2, l_rng3, l_zip, l_zip3, l_enu, l_keys, l_vals, l_items, l_srtK, l_isi, l_tnone, l_tsome, l_lc, l_lc2, l_dc, l_dc2, l_dct, l_cnt, l_index, l_get, l_oidx, l_fld, l_meth, l_mk, l_cell, l_dcell, l_deq0, l_rd, l_snil, l_scons, l_asg, l_asgT, l_par, l_app, l_ext, l_popK, l_upd, l_put, l_oput, l_oapp, l_fset, l_aug, l_expr, l_ret, l_retN, l_if, l_for, l_while, l_raise, l_cont, l_brk, l_pass, l_sstuck]⟩
noncomputable def k_is_simplex : Kd := ⟨1, [none], fun c => (kSq (kIf (kBool (kOr (kNot (kIsi .tuple (kSlot 0))) (kOr (kNot (kC2 .le .le (kOk (.d (.int 1))) (kU lenD (kSlot 0)) (kOk (.d (.int 4))))) (kTru (kNot (kU (bitF .all) (kLc [1] (.name 1) (kSeq (kSlot 0)) kTNone (kCall c 3 (kACons (kSlot 1) kANil))))))))) (kSq (kRet (kOk (.d (.bool false)))) kEnd) kEnd) (kSq (kRet (kCall c 4 (kACons (kSlot 0) kANil))) kEnd))⟩
theorem kok_is_simplex : KdOk f_is_simplex k_is_simplex := ⟨rfl, rfl, fun c => by simp only [f_is_simplex, k_is_simplex, l_slot, l_cst, l_glo, l_fn, l_stuck, l_add, l_sub, l_mul, l_fdiv, l_mod, l_pow, l_neg, l_not, l_and, l_or, l_and1, l_and2, l_or1, l_or2, l_eq, l_ne, l_lt, l_le, l_gt, l_ge, l_inn, l_nin, l_is, l_isnt, l_cmp2, l_ite, l_enil, l_econs, l_anil, l_acons, l_tup, l_lst, l_idx, l_onone, l_osome, l_sli, l_sl3, l_call, l_len, l_abs, l_int, l_str, l_dict, l_bitS, l_bitZ, l_bitR1, l_bitR2, l_bitK, l_bitV, l_bitI, l_seq, l_rng1, l_rng2, l_rng3, l_zip, l_zip3, l_enu, l_keys, l_vals, l_items, l_srtK, l_isi, l_tnone, l_tsome, l_lc, l_lc2, l_dc, l_dc2, l_dct, l_cnt, l_index, l_get, l_oidx, l_fld, l_meth, l_mk, l_cell, l_dcell, l_deq0, l_rd, l_snil, l_scons, l_asg, l_asgT, l_par, l_app, l_ext, l_popK, l_upd, l_put, l_oput, l_oapp, l_fset, l_aug, l_expr, l_ret, l_retN, l_if, l_for, l_while, l_raise, l_cont, l_brk, l_pass, l_sstuck]⟩
noncomputable def k_simplex_key : Kd := ⟨1, [], fun c => (kSq (kRet (kTup (kCons (kU lenD (kSlot 0)) (kCons (kSlot 0) kNil)))) kEnd)⟩
theorem kok_simplex_key : KdOk f_simplex_key k_simplex_key := ⟨rfl, rfl, fun c => by simp only [f_simplex_key, k_simplex_key, l_slot, l_cst, l_glo, l_fn, l_stuck, l_add, l_sub, l_mul, l_fdiv, l_mod, l_pow, l_neg, l_not, l_and, l_or, l_and1, l_and2, l_or1, l_or2, l_eq, l_ne, l_lt, l_le, l_gt, l_ge, l_inn, l_nin, l_is, l_isnt, l_cmp2, l_ite, l_enil, l_econs, l_anil, l_acons, l_tup, l_lst, l_idx, l_onone, l_osome, l_sli, l_sl3, l_call, l_len, l_abs, l_int, l_str, l_dict, l_bitS, l_bitZ, l_bitR1, l_bitR2, l_bitK, l_bitV, l_bitI, l_seq, l_rng1, l_rng2, l_rng3, l_zip, l_zip3, l_enu, l_keys, l_vals, l_items, l_srtK, l_isi, l_tnone, l_tsome, l_lc, l_lc2, l_dc, l_dc2, l_dct, l_cnt, l_index, l_get, l_oidx, l_fld, l_meth, l_mk, l_cell, l_dcell, l_deq0, l_rd, l_snil, l_scons, l_asg, l_asgT, l_par, l_app, l_ext, l_popK, l_upd, l_put, l_oput, l_oapp, l_fset, l_aug, l_expr, l_ret, l_retN, l_if, l_for, l_while, l_raise, l_cont, l_brk, l_pass, l_sstuck]⟩
noncomputable def k_subsets : Kd := ⟨1, [none, none, none], fun c => (kSq (kAsg 1 (kLst (kCons (kTup kNil) kNil))) (kSq (kFor (.name 2) (kSeq (kSlot 0)) (kSq (kAsg 1 (kB addD (kSlot 1) (kLc [3] (.name 3) (kSeq (kSlot 1)) kTNone (kB addD (kSlot 3) (kTup (kCons (kSlot 2) kNil)))))) kEnd)) (kSq (kRet (kSli (kSlot 1) (kOSome (kOk (.d (.int 1)))) kONone)) kEnd)))⟩
theorem kok_subsets : KdOk f_subsets k_subsets := ⟨rfl, rfl, fun c => by simp only [f_subsets, k_subsets, l_slot, l_cst, l_glo, l_fn, l_stuck, l_add, l_sub, l_mul, l_fdiv, l_mod, l_pow, l_neg, l_not, l_and, l_or, l_and1, l_and2, l_or1, l_or2, l_eq, l_ne, l_lt, l_le, l_gt, l_ge, l_inn, l_nin, l_is, l_isnt, l_cmp2, l_ite, l_enil, l_econs, l_anil, l_acons, l_tup, l_lst, l_idx, l_onone, l_osome, l_sli, l_sl3, l_call, l_len, l_abs, l_int, l_str, l_dict, l_bitS, l_bitZ, l_bitR1, l_bitR2, l_bitK, l_bitV, l_bitI, l_seq, l_rng1, l_rng2, l_rng3, l_zip, l_zip3, l_enu, l_keys, l_vals, l_items, l_srtK, l_isi, l_tnone, l_tsome, l_lc, l_lc2, l_dc, l_dc2, l_dct, l_cnt, l_index, l_get, l_oidx, l_fld, l_meth, l_mk, l_cell, l_dcell, l_deq0, l_rd, l_snil, l_scons, l_asg, l_asgT, l_par, l_app, l_ext, l_popK, l_upd, l_put, l_oput, l_oapp, l_fset, l_aug, l_expr, l_ret, l_retN, l_if, l_for, l_while, l_raise, l_cont, l_brk, l_pass, l_sstuck]⟩
noncomputable def k_closure : Kd := ⟨1, [none, none, none], fun c => (kSq (kAsg 1 (kDct kNil kNil)) (kSq (kFor (.name 2) (kSeq (kSlot 0)) (kSq (kFor (.name 3) (kSeq (kCall c 7 (kACons (kSlot 2) kANil))) (kSq (kPut 1 (kSlot 3) (kOk (.d (.bool true)))) kEnd)) kEnd)) (kSq (kRet (kU (bitF .tuple) (kSrt c 6 (kKeys (kSlot 1))))) kEnd)))⟩
theorem kok_closure : KdOk f_closure k_closure := ⟨rfl, rfl, fun c => by simp only [f_closure, k_closure, l_slot, l_cst, l_glo, l_fn, l_stuck, l_add, l_sub, l_mul, l_fdiv, l_mod, l_pow, l_neg, l_not, l_and, l_or, l_and1, l_and2, l_or1, l_or2, l_eq, l_ne, l_lt, l_le, l_gt, l_ge, l_inn, l_nin, l_is, l_isnt, l_cmp2, l_ite, l_enil, l_econs, l_anil, l_acons, l_tup, l_lst, l_idx, l_onone, l_osome, l_sli, l_sl3, l_call, l_len, l_abs, l_int, l_str, l_dict, l_bitS, l_bitZ, l_bitR1, l_bitR2, l_bitK, l_bitV, l_bitI, l_seq, l_rng1, l_rng2, l_rng3, l_zip, l_zip3, l_enu, l_keys, l_vals, l_items, l_srtK, l_isi, l_tnone, l_tsome, l_lc, l_lc2, l_dc, l_dc2, l_dct, l_cnt, l_index, l_get, l_oidx, l_fld, l_meth, l_mk, l_cell, l_dcell, l_deq0, l_rd, l_snil, l_scons, l_asg, l_asgT, l_par, l_app, l_ext, l_popK, l_upd, l_put, l_oput, l_oapp, l_fset, l_aug, l_expr, l_ret, l_retN, l_if, l_for, l_while, l_raise, l_cont, l_brk, l_pass, l_sstuck]⟩
noncomputable def k_does_contain : Kd := ⟨2, [none], fun c => (kSq (kRet (kU (bitF .all) (kLc [2] (.name 2) (kSeq (kSlot 1)) kTNone (kC inD (kSlot 2) (kSlot 0))))) kEnd)⟩
theorem kok_does_contain : KdOk f_does_contain k_does_contain := ⟨rfl, rfl, fun c => by simp only [f_does_contain, k_does_contain, l_slot, l_cst, l_glo, l_fn, l_stuck, l_add, l_sub, l_mul, l_fdiv, l_mod, l_pow, l_neg, l_not, l_and, l_or, l_and1, l_and2, l_or1, l_or2, l_eq, l_ne, l_lt, l_le, l_gt, l_ge, l_inn, l_nin, l_is, l_isnt, l_cmp2, l_ite, l_enil, l_econs, l_anil, l_acons, l_tup, l_lst, l_idx, l_onone, l_osome, l_sli, l_sl3, l_call, l_len, l_abs, l_int, l_str, l_dict, l_bitS, l_bitZ, l_bitR1, l_bitR2, l_bitK, l_bitV, l_bitI, l_seq, l_rng1, l_rng2, l_rng3, l_zip, l_zip3, l_enu, l_keys, l_vals, l_items, l_srtK, l_isi, l_tnone, l_tsome, l_lc, l_lc2, l_dc, l_dc2, l_dct, l_cnt, l_index, l_get, l_oidx, l_fld, l_meth, l_mk, l_cell, l_dcell, l_deq0, l_rd, l_snil, l_scons, l_asg, l_asgT, l_par, l_app, l_ext, l_popK, l_upd, l_put, l_oput, l_oapp, l_fset, l_aug, l_expr, l_ret, l_retN, l_if, l_for, l_while, l_raise, l_cont, l_brk, l_pass, l_sstuck]⟩
noncomputable def k_maximal : Kd := ⟨1, [none, none, none], fun c => (kSq (kAsg 1 (kLst kNil)) (kSq (kFor (.name 2) (kSeq (kSlot 0)) (kSq (kIf (kNot (kU (bitF .any) (kLc [3] (.name 3) (kSeq (kSlot 0)) kTNone (kBool (kAnd (kC neO (kSlot 3) (kSlot 2)) (kTru (kCall c 9 (kACons (kSlot 3) (kACons (kSlot 2) kANil))))))))) (kSq (kMod 1 appF (kSlot 2)) kEnd) kEnd) kEnd)) (kSq (kRet (kU (bitF .tuple) (kSrt c 6 (kSeq (kSlot 1))))) kEnd)))⟩
theorem kok_maximal : KdOk f_maximal k_maximal := ⟨rfl, rfl, fun c => by simp only [f_maximal, k_maximal, l_slot, l_cst, l_glo, l_fn, l_stuck, l_add, l_sub, l_mul, l_fdiv, l_mod, l_pow, l_neg, l_not, l_and, l_or, l_and1, l_and2, l_or1, l_or2, l_eq, l_ne, l_lt, l_le, l_gt, l_ge, l_inn, l_nin, l_is, l_isnt, l_cmp2, l_ite, l_enil, l_econs, l_anil, l_acons, l_tup, l_lst, l_idx, l_onone, l_osome, l_sli, l_sl3, l_call, l_len, l_abs, l_int, l_str, l_dict, l_bitS, l_bitZ, l_bitR1, l_bitR2, l_bitK, l_bitV, l_bitI, l_seq, l_rng1, l_rng2, l_rng3, l_zip, l_zip3, l_enu, l_keys, l_vals, l_items, l_srtK, l_isi, l_tnone, l_tsome, l_lc, l_lc2, l_dc, l_dc2, l_dct, l_cnt, l_index, l_get, l_oidx, l_fld, l_meth, l_mk, l_cell, l_dcell, l_deq0, l_rd, l_snil, l_scons, l_asg, l_asgT, l_par, l_app, l_ext, l_popK, l_upd, l_put, l_oput, l_oapp, l_fset, l_aug, l_expr, l_ret, l_retN, l_if, l_for, l_while, l_raise, l_cont, l_brk, l_pass, l_sstuck]⟩
noncomputable def k_is_good : Kd := ⟨1, [none], fun c => (kSq (kIf (kBool (kOr (kNot (kIsi .tuple (kSlot 0))) (kOr (kC eqF (kSlot 0) (kTup kNil)) (kTru (kNot (kU (bitF .all) (kLc [1] (.name 1) (kSeq (kSlot 0)) kTNone (kCall c 5 (kACons (kSlot 1) kANil))))))))) (kSq (kRet (kOk (.d (.bool false)))) kEnd) kEnd) (kSq (kIf (kBool (kOr (kNot (kCall c 4 (kACons (kLc [1] (.name 1) (kSeq (kSlot 0)) kTNone (kCall c 6 (kACons (kSlot 1) kANil))) kANil))) (kTru (kC neO (kCall c 10 (kACons (kSlot 0) kANil)) (kSlot 0))))) (kSq (kRet (kOk (.d (.bool false)))) kEnd) kEnd) (kSq (kRet (kC leO (kU lenD (kCall c 8 (kACons (kSlot 0) kANil))) (kOk (.d (.int 60))))) kEnd)))⟩
theorem kok_is_good : KdOk f_is_good k_is_good := ⟨rfl, rfl, fun c => by simp only [f_is_good, k_is_good, l_slot, l_cst, l_glo, l_fn, l_stuck, l_add, l_sub, l_mul, l_fdiv, l_mod, l_pow, l_neg, l_not, l_and, l_or, l_and1, l_and2, l_or1, l_or2, l_eq, l_ne, l_lt, l_le, l_gt, l_ge, l_inn, l_nin, l_is, l_isnt, l_cmp2, l_ite, l_enil, l_econs, l_anil, l_acons, l_tup, l_lst, l_idx, l_onone, l_osome, l_sli, l_sl3, l_call, l_len, l_abs, l_int, l_str, l_dict, l_bitS, l_bitZ, l_bitR1, l_bitR2, l_bitK, l_bitV, l_bitI, l_seq, l_rng1, l_rng2, l_rng3, l_zip, l_zip3, l_enu, l_keys, l_vals, l_items, l_srtK, l_isi, l_tnone, l_tsome, l_lc, l_lc2, l_dc, l_dc2, l_dct, l_cnt, l_index, l_get, l_oidx, l_fld, l_meth, l_mk, l_cell, l_dcell, l_deq0, l_rd, l_snil, l_scons, l_asg, l_asgT, l_par, l_app, l_ext, l_popK, l_upd, l_put, l_oput, l_oapp, l_fset, l_aug, l_expr, l_ret, l_retN, l_if, l_for, l_while, l_raise, l_cont, l_brk, l_pass, l_sstuck]⟩
noncomputable def k_check_complex : Kd := ⟨1, [], fun c => (kSq (kIf (kNot (kCall c 12 (kACons (kSlot 0) kANil))) (kSq kSStuck kEnd) kEnd) kEnd)⟩
theorem kok_check_complex : KdOk f_check_complex k_check_complex := ⟨rfl, rfl, fun c => by simp only [f_check_complex, k_check_complex, l_slot, l_cst, l_glo, l_fn, l_stuck, l_add, l_sub, l_mul, l_fdiv, l_mod, l_pow, l_neg, l_not, l_and, l_or, l_and1, l_and2, l_or1, l_or2, l_eq, l_ne, l_lt, l_le, l_gt, l_ge, l_inn, l_nin, l_is, l_isnt, l_cmp2, l_ite, l_enil, l_econs, l_anil, l_acons, l_tup, l_lst, l_idx, l_onone, l_osome, l_sli, l_sl3, l_call, l_len, l_abs, l_int, l_str, l_dict, l_bitS, l_bitZ, l_bitR1, l_bitR2, l_bitK, l_bitV, l_bitI, l_seq, l_rng1, l_rng2, l_rng3, l_zip, l_zip3, l_enu, l_keys, l_vals, l_items, l_srtK, l_isi, l_tnone, l_tsome, l_lc, l_lc2, l_dc, l_dc2, l_dct, l_cnt, l_index, l_get, l_oidx, l_fld, l_meth, l_mk, l_cell, l_dcell, l_deq0, l_rd, l_snil, l_scons, l_asg, l_asgT, l_par, l_app, l_ext, l_popK, l_upd, l_put, l_oput, l_oapp, l_fset, l_aug, l_expr, l_ret, l_retN, l_if, l_for, l_while, l_raise, l_cont, l_brk, l_pass, l_sstuck]⟩
noncomputable def k_dimension_of : Kd := ⟨1, [], fun c => (kSq (kRet (kB subD (kU lenD (kB idxF (kSlot 0) (kNeg (kOk (.d (.int 1)))))) (kOk (.d (.int 1))))) kEnd)⟩
theorem kok_dimension_of : KdOk f_dimension_of k_dimension_of := ⟨rfl, rfl, fun c => by simp only [f_dimension_of, k_dimension_of, l_slot, l_cst, l_glo, l_fn, l_stuck, l_add, l_sub, l_mul, l_fdiv, l_mod, l_pow, l_neg, l_not, l_and, l_or, l_and1, l_and2, l_or1, l_or2, l_eq, l_ne, l_lt, l_le, l_gt, l_ge, l_inn, l_nin, l_is, l_isnt, l_cmp2, l_ite, l_enil, l_econs, l_anil, l_acons, l_tup, l_lst, l_idx, l_onone, l_osome, l_sli, l_sl3, l_call, l_len, l_abs, l_int, l_str, l_dict, l_bitS, l_bitZ, l_bitR1, l_bitR2, l_bitK, l_bitV, l_bitI, l_seq, l_rng1, l_rng2, l_rng3, l_zip, l_zip3, l_enu, l_keys, l_vals, l_items, l_srtK, l_isi, l_tnone, l_tsome, l_lc, l_lc2, l_dc, l_dc2, l_dct, l_cnt, l_index, l_get, l_oidx, l_fld, l_meth, l_mk, l_cell, l_dcell, l_deq0, l_rd, l_snil, l_scons, l_asg, l_asgT, l_par, l_app, l_ext, l_popK, l_upd, l_put, l_oput, l_oapp, l_fset, l_aug, l_expr, l_ret, l_retN, l_if, l_for, l_while, l_raise, l_cont, l_brk, l_pass, l_sstuck]⟩
noncomputable def k_counts_of : Kd := ⟨2, [none, none, none], fun c => (kSq (kAsg 2 (kLc [3] (.name 3) (kSeq (kSlot 1)) kTNone (kU lenD (kSlot 3)))) (kSq (kRet (kU (bitF .tuple) (kLc [4] (.name 4) (kRng2 (kOk (.d (.int 1))) (kB addD (kCall c 14 (kACons (kSlot 0) kANil)) (kOk (.d (.int 2))))) kTNone (kCnt (kSlot 2) (kSlot 4))))) kEnd))⟩
theorem kok_counts_of : KdOk f_counts_of k_counts_of := ⟨rfl, rfl, fun c => by simp only [f_counts_of, k_counts_of, l_slot, l_cst, l_glo, l_fn, l_stuck, l_add, l_sub, l_mul, l_fdiv, l_mod, l_pow, l_neg, l_not, l_and, l_or, l_and1, l_and2, l_or1, l_or2, l_eq, l_ne, l_lt, l_le, l_gt, l_ge, l_inn, l_nin, l_is, l_isnt, l_cmp2, l_ite, l_enil, l_econs, l_anil, l_acons, l_tup, l_lst, l_idx, l_onone, l_osome, l_sli, l_sl3, l_call, l_len, l_abs, l_int, l_str, l_dict, l_bitS, l_bitZ, l_bitR1, l_bitR2, l_bitK, l_bitV, l_bitI, l_seq, l_rng1, l_rng2, l_rng3, l_zip, l_zip3, l_enu, l_keys, l_vals, l_items, l_srtK, l_isi, l_tnone, l_tsome, l_lc, l_lc2, l_dc, l_dc2, l_dct, l_cnt, l_index, l_get, l_oidx, l_fld, l_meth, l_mk, l_cell, l_dcell, l_deq0, l_rd, l_snil, l_scons, l_asg, l_asgT, l_par, l_app, l_ext, l_popK, l_upd, l_put, l_oput, l_oapp, l_fset, l_aug, l_expr, l_ret, l_retN, l_if, l_for, l_while, l_raise, l_cont, l_brk, l_pass, l_sstuck]⟩
noncomputable def k_faces_of : Kd := ⟨1, [none], fun c => (kSq (kIf (kC eqF (kU lenD (kSlot 0)) (kOk (.d (.int 1)))) (kSq (kRet (kTup kNil)) kEnd) kEnd) (kSq (kRet (kU (bitF .tuple) (kU (bitF .sorted) (kLc [1] (.name 1) (kRng1 (kU lenD (kSlot 0))) kTNone (kB addD (kSli (kSlot 0) kONone (kOSome (kSlot 1))) (kSli (kSlot 0) (kOSome (kB addD (kSlot 1) (kOk (.d (.int 1))))) kONone)))))) kEnd))⟩
theorem kok_faces_of : KdOk f_faces_of k_faces_of := ⟨rfl, rfl, fun c => by simp only [f_faces_of, k_faces_of, l_slot, l_cst, l_glo, l_fn, l_stuck, l_add, l_sub, l_mul, l_fdiv, l_mod, l_pow, l_neg, l_not, l_and, l_or, l_and1, l_and2, l_or1, l_or2, l_eq, l_ne, l_lt, l_le, l_gt, l_ge, l_inn, l_nin, l_is, l_isnt, l_cmp2, l_ite, l_enil, l_econs, l_anil, l_acons, l_tup, l_lst, l_idx, l_onone, l_osome, l_sli, l_sl3, l_call, l_len, l_abs, l_int, l_str, l_dict, l_bitS, l_bitZ, l_bitR1, l_bitR2, l_bitK, l_bitV, l_bitI, l_seq, l_rng1, l_rng2, l_rng3, l_zip, l_zip3, l_enu, l_keys, l_vals, l_items, l_srtK, l_isi, l_tnone, l_tsome, l_lc, l_lc2, l_dc, l_dc2, l_dct, l_cnt, l_index, l_get, l_oidx, l_fld, l_meth, l_mk, l_cell, l_dcell, l_deq0, l_rd, l_snil, l_scons, l_asg, l_asgT, l_par, l_app, l_ext, l_popK, l_upd, l_put, l_oput, l_oapp, l_fset, l_aug, l_expr, l_ret, l_retN, l_if, l_for, l_while, l_raise, l_cont, l_brk, l_pass, l_sstuck]⟩
noncomputable def k_is_pair : Kd := ⟨2, [none], fun c => (kSq (kIf (kBool (kOr (kNot (kIsi .tuple (kSlot 1))) (kOr (kC neO (kU lenD (kSlot 1)) (kOk (.d (.int 2)))) (kTru (kNot (kU (bitF .all) (kLc [2] (.name 2) (kSeq (kSlot 1)) kTNone (kCall c 5 (kACons (kSlot 2) kANil))))))))) (kSq (kRet (kOk (.d (.bool false)))) kEnd) kEnd) (kSq (kRet (kBool (kAnd (kC inD (kB idxF (kSlot 1) (kOk (.d (.int 1)))) (kSlot 0)) (kTru (kC inD (kB idxF (kSlot 1) (kOk (.d (.int 0)))) (kCall c 16 (kACons (kB idxF (kSlot 1) (kOk (.d (.int 1)))) kANil))))))) kEnd))⟩
theorem kok_is_pair : KdOk f_is_pair k_is_pair := ⟨rfl, rfl, fun c => by simp only [f_is_pair, k_is_pair, l_slot, l_cst, l_glo, l_fn, l_stuck, l_add, l_sub, l_mul, l_fdiv, l_mod, l_pow, l_neg, l_not, l_and, l_or, l_and1, l_and2, l_or1, l_or2, l_eq, l_ne, l_lt, l_le, l_gt, l_ge, l_inn, l_nin, l_is, l_isnt, l_cmp2, l_ite, l_enil, l_econs, l_anil, l_acons, l_tup, l_lst, l_idx, l_onone, l_osome, l_sli, l_sl3, l_call, l_len, l_abs, l_int, l_str, l_dict, l_bitS, l_bitZ, l_bitR1, l_bitR2, l_bitK, l_bitV, l_bitI, l_seq, l_rng1, l_rng2, l_rng3, l_zip, l_zip3, l_enu, l_keys, l_vals, l_items, l_srtK, l_isi, l_tnone, l_tsome, l_lc, l_lc2, l_dc, l_dc2, l_dct, l_cnt, l_index, l_get, l_oidx, l_fld, l_meth, l_mk, l_cell, l_dcell, l_deq0, l_rd, l_snil, l_scons, l_asg, l_asgT, l_par, l_app, l_ext, l_popK, l_upd, l_put, l_oput, l_oapp, l_fset, l_aug, l_expr, l_ret, l_retN, l_if, l_for, l_while, l_raise, l_cont, l_brk, l_pass, l_sstuck]⟩
noncomputable def k_pair_key : Kd := ⟨1, [], fun c => (kSq (kRet (kTup (kCons (kCall c 6 (kACons (kB idxF (kSlot 0) (kOk (.d (.int 0)))) kANil)) (kCons (kCall c 6 (kACons (kB idxF (kSlot 0) (kOk (.d (.int 1)))) kANil)) kNil)))) kEnd)⟩
theorem kok_pair_key : KdOk f_pair_key k_pair_key := ⟨rfl, rfl, fun c => by simp only [f_pair_key, k_pair_key, l_slot, l_cst, l_glo, l_fn, l_stuck, l_add, l_sub, l_mul, l_fdiv, l_mod, l_pow, l_neg, l_not, l_and, l_or, l_and1, l_and2, l_or1, l_or2, l_eq, l_ne, l_lt, l_le, l_gt, l_ge, l_inn, l_nin, l_is, l_isnt, l_cmp2, l_ite, l_enil, l_econs, l_anil, l_acons, l_tup, l_lst, l_idx, l_onone, l_osome, l_sli, l_sl3, l_call, l_len, l_abs, l_int, l_str, l_dict, l_bitS, l_bitZ, l_bitR1, l_bitR2, l_bitK, l_bitV, l_bitI, l_seq, l_rng1, l_rng2, l_rng3, l_zip, l_zip3, l_enu, l_keys, l_vals, l_items, l_srtK, l_isi, l_tnone, l_tsome, l_lc, l_lc2, l_dc, l_dc2, l_dct, l_cnt, l_index, l_get, l_oidx, l_fld, l_meth, l_mk, l_cell, l_dcell, l_deq0, l_rd, l_snil, l_scons, l_asg, l_asgT, l_par, l_app, l_ext, l_popK, l_upd, l_put, l_oput, l_oapp, l_fset, l_aug, l_expr, l_ret, l_retN, l_if, l_for, l_while, l_raise, l_cont, l_brk, l_pass, l_sstuck]⟩
noncomputable def k_are_pairs : Kd := ⟨2, [none, none, none], fun c => (kSq (kIf (kBool (kOr (kNot (kIsi .tuple (kSlot 1))) (kTru (kNot (kU (bitF .all) (kLc [2] (.name 2) (kSeq (kSlot 1)) kTNone (kCall c 17 (kACons (kSlot 0) (kACons (kSlot 2) kANil))))))))) (kSq (kRet (kOk (.d (.bool false)))) kEnd) kEnd) (kSq (kRet (kU (bitF .all) (kLc [3, 4] (.tup [3, 4]) (kZip (kSlot 1) (kSli (kSlot 1) (kOSome (kOk (.d (.int 1)))) kONone)) kTNone (kC ltO (kCall c 18 (kACons (kSlot 3) kANil)) (kCall c 18 (kACons (kSlot 4) kANil)))))) kEnd))⟩
theorem kok_are_pairs : KdOk f_are_pairs k_are_pairs := ⟨rfl, rfl, fun c => by simp only [f_are_pairs, k_are_pairs, l_slot, l_cst, l_glo, l_fn, l_stuck, l_add, l_sub, l_mul, l_fdiv, l_mod, l_pow, l_neg, l_not, l_and, l_or, l_and1, l_and2, l_or1, l_or2, l_eq, l_ne, l_lt, l_le, l_gt, l_ge, l_inn, l_nin, l_is, l_isnt, l_cmp2, l_ite, l_enil, l_econs, l_anil, l_acons, l_tup, l_lst, l_idx, l_onone, l_osome, l_sli, l_sl3, l_call, l_len, l_abs, l_int, l_str, l_dict, l_bitS, l_bitZ, l_bitR1, l_bitR2, l_bitK, l_bitV, l_bitI, l_seq, l_rng1, l_rng2, l_rng3, l_zip, l_zip3, l_enu, l_keys, l_vals, l_items, l_srtK, l_isi, l_tnone, l_tsome, l_lc, l_lc2, l_dc, l_dc2, l_dct, l_cnt, l_index, l_get, l_oidx, l_fld, l_meth, l_mk, l_cell, l_dcell, l_deq0, l_rd, l_snil, l_scons, l_asg, l_asgT, l_par, l_app, l_ext, l_popK, l_upd, l_put, l_oput, l_oapp, l_fset, l_aug, l_expr, l_ret, l_retN, l_if, l_for, l_while, l_raise, l_cont, l_brk, l_pass, l_sstuck]⟩
noncomputable def k_is_good_matching : Kd := ⟨2, [none, none, none], fun c => (kSq (kIf (kNot (kCall c 19 (kACons (kCall c 8 (kACons (kSlot 0) kANil)) (kACons (kSlot 1) kANil)))) (kSq (kRet (kOk (.d (.bool false)))) kEnd) kEnd) (kSq (kAsg 2 (kLc2 [3, 4] (.name 3) (kSeq (kSlot 1)) (.name 4) (kSeq (kSlot 3)) kTNone (kSlot 4))) (kSq (kRet (kC eqF (kU (bitF .lenset) (kSlot 2)) (kU lenD (kSlot 2)))) kEnd)))⟩
theorem kok_is_good_matching : KdOk f_is_good_matching k_is_good_matching := ⟨rfl, rfl, fun c => by simp only [f_is_good_matching, k_is_good_matching, l_slot, l_cst, l_glo, l_fn, l_stuck, l_add, l_sub, l_mul, l_fdiv, l_mod, l_pow, l_neg, l_not, l_and, l_or, l_and1, l_and2, l_or1, l_or2, l_eq, l_ne, l_lt, l_le, l_gt, l_ge, l_inn, l_nin, l_is, l_isnt, l_cmp2, l_ite, l_enil, l_econs, l_anil, l_acons, l_tup, l_lst, l_idx, l_onone, l_osome, l_sli, l_sl3, l_call, l_len, l_abs, l_int, l_str, l_dict, l_bitS, l_bitZ, l_bitR1, l_bitR2, l_bitK, l_bitV, l_bitI, l_seq, l_rng1, l_rng2, l_rng3, l_zip, l_zip3, l_enu, l_keys, l_vals, l_items, l_srtK, l_isi, l_tnone, l_tsome, l_lc, l_lc2, l_dc, l_dc2, l_dct, l_cnt, l_index, l_get, l_oidx, l_fld, l_meth, l_mk, l_cell, l_dcell, l_deq0, l_rd, l_snil, l_scons, l_asg, l_asgT, l_par, l_app, l_ext, l_popK, l_upd, l_put, l_oput, l_oapp, l_fset, l_aug, l_expr, l_ret, l_retN, l_if, l_for, l_while, l_raise, l_cont, l_brk, l_pass, l_sstuck]⟩
noncomputable def k_check_matching : Kd := ⟨2, [], fun c => (kSq (kExpr (kCall c 13 (kACons (kSlot 0) kANil))) (kSq (kIf (kNot (kCall c 20 (kACons (kSlot 0) (kACons (kSlot 1) kANil)))) (kSq kSStuck kEnd) kEnd) kEnd))⟩
theorem kok_check_matching : KdOk f_check_matching k_check_matching := ⟨rfl, rfl, fun c => by simp only [f_check_matching, k_check_matching, l_slot, l_cst, l_glo, l_fn, l_stuck, l_add, l_sub, l_mul, l_fdiv, l_mod, l_pow, l_neg, l_not, l_and, l_or, l_and1, l_and2, l_or1, l_or2, l_eq, l_ne, l_lt, l_le, l_gt, l_ge, l_inn, l_nin, l_is, l_isnt, l_cmp2, l_ite, l_enil, l_econs, l_anil, l_acons, l_tup, l_lst, l_idx, l_onone, l_osome, l_sli, l_sl3, l_call, l_len, l_abs, l_int, l_str, l_dict, l_bitS, l_bitZ, l_bitR1, l_bitR2, l_bitK, l_bitV, l_bitI, l_seq, l_rng1, l_rng2, l_rng3, l_zip, l_zip3, l_enu, l_keys, l_vals, l_items, l_srtK, l_isi, l_tnone, l_tsome, l_lc, l_lc2, l_dc, l_dc2, l_dct, l_cnt, l_index, l_get, l_oidx, l_fld, l_meth, l_mk, l_cell, l_dcell, l_deq0, l_rd, l_snil, l_scons, l_asg, l_asgT, l_par, l_app, l_ext, l_popK, l_upd, l_put, l_oput, l_oapp, l_fset, l_aug, l_expr, l_ret, l_retN, l_if, l_for, l_while, l_raise, l_cont, l_brk, l_pass, l_sstuck]⟩
noncomputable def k_sorted_pairs : Kd := ⟨1, [], fun c => (kSq (kRet (kU (bitF .tuple) (kSrt c 18 (kSeq (kSlot 0))))) kEnd)⟩
theorem kok_sorted_pairs : KdOk f_sorted_pairs k_sorted_pairs := ⟨rfl, rfl, fun c => by simp only [f_sorted_pairs, k_sorted_pairs, l_slot, l_cst, l_glo, l_fn, l_stuck, l_add, l_sub, l_mul, l_fdiv, l_mod, l_pow, l_neg, l_not, l_and, l_or, l_and1, l_and2, l_or1, l_or2, l_eq, l_ne, l_lt, l_le, l_gt, l_ge, l_inn, l_nin, l_is, l_isnt, l_cmp2, l_ite, l_enil, l_econs, l_anil, l_acons, l_tup, l_lst, l_idx, l_onone, l_osome, l_sli, l_sl3, l_call, l_len, l_abs, l_int, l_str, l_dict, l_bitS, l_bitZ, l_bitR1, l_bitR2, l_bitK, l_bitV, l_bitI, l_seq, l_rng1, l_rng2, l_rng3, l_zip, l_zip3, l_enu, l_keys, l_vals, l_items, l_srtK, l_isi, l_tnone, l_tsome, l_lc, l_lc2, l_dc, l_dc2, l_dct, l_cnt, l_index, l_get, l_oidx, l_fld, l_meth, l_mk, l_cell, l_dcell, l_deq0, l_rd, l_snil, l_scons, l_asg, l_asgT, l_par, l_app, l_ext, l_popK, l_upd, l_put, l_oput, l_oapp, l_fset, l_aug, l_expr, l_ret, l_retN, l_if, l_for, l_while, l_raise, l_cont, l_brk, l_pass, l_sstuck]⟩
noncomputable def k_critical_of : Kd := ⟨2, [none, none, none], fun c => (kSq (kAsg 2 (kDc2 [3, 4] (.name 3) (kSeq (kSlot 1)) (.name 4) (kSeq (kSlot 3)) (kSlot 4) (kOk (.d (.bool true))))) (kSq (kRet (kU (bitF .tuple) (kLc [4] (.name 4) (kSeq (kCall c 8 (kACons (kSlot 0) kANil))) (kTru (kC ninO (kSlot 4) (kSlot 2))) (kSlot 4)))) kEnd))⟩
theorem kok_critical_of : KdOk f_critical_of k_critical_of := ⟨rfl, rfl, fun c => by simp only [f_critical_of, k_critical_of, l_slot, l_cst, l_glo, l_fn, l_stuck, l_add, l_sub, l_mul, l_fdiv, l_mod, l_pow, l_neg, l_not, l_and, l_or, l_and1, l_and2, l_or1, l_or2, l_eq, l_ne, l_lt, l_le, l_gt, l_ge, l_inn, l_nin, l_is, l_isnt, l_cmp2, l_ite, l_enil, l_econs, l_anil, l_acons, l_tup, l_lst, l_idx, l_onone, l_osome, l_sli, l_sl3, l_call, l_len, l_abs, l_int, l_str, l_dict, l_bitS, l_bitZ, l_bitR1, l_bitR2, l_bitK, l_bitV, l_bitI, l_seq, l_rng1, l_rng2, l_rng3, l_zip, l_zip3, l_enu, l_keys, l_vals, l_items, l_srtK, l_isi, l_tnone, l_tsome, l_lc, l_lc2, l_dc, l_dc2, l_dct, l_cnt, l_index, l_get, l_oidx, l_fld, l_meth, l_mk, l_cell, l_dcell, l_deq0, l_rd, l_snil, l_scons, l_asg, l_asgT, l_par, l_app, l_ext, l_popK, l_upd, l_put, l_oput, l_oapp, l_fset, l_aug, l_expr, l_ret, l_retN, l_if, l_for, l_while, l_raise, l_cont, l_brk, l_pass, l_sstuck]⟩
noncomputable def k_critical : Kd := ⟨2, [], fun c => (kSq (kExpr (kCall c 21 (kACons (kSlot 0) (kACons (kSlot 1) kANil)))) (kSq (kRet (kCall c 23 (kACons (kSlot 0) (kACons (kSlot 1) kANil)))) kEnd))⟩
theorem kok_critical : KdOk f_critical k_critical := ⟨rfl, rfl, fun c => by simp only [f_critical, k_critical, l_slot, l_cst, l_glo, l_fn, l_stuck, l_add, l_sub, l_mul, l_fdiv, l_mod, l_pow, l_neg, l_not, l_and, l_or, l_and1, l_and2, l_or1, l_or2, l_eq, l_ne, l_lt, l_le, l_gt, l_ge, l_inn, l_nin, l_is, l_isnt, l_cmp2, l_ite, l_enil, l_econs, l_anil, l_acons, l_tup, l_lst, l_idx, l_onone, l_osome, l_sli, l_sl3, l_call, l_len, l_abs, l_int, l_str, l_dict, l_bitS, l_bitZ, l_bitR1, l_bitR2, l_bitK, l_bitV, l_bitI, l_seq, l_rng1, l_rng2, l_rng3, l_zip, l_zip3, l_enu, l_keys, l_vals, l_items, l_srtK, l_isi, l_tnone, l_tsome, l_lc, l_lc2, l_dc, l_dc2, l_dct, l_cnt, l_index, l_get, l_oidx, l_fld, l_meth, l_mk, l_cell, l_dcell, l_deq0, l_rd, l_snil, l_scons, l_asg, l_asgT, l_par, l_app, l_ext, l_popK, l_upd, l_put, l_oput, l_oapp, l_fset, l_aug, l_expr, l_ret, l_retN, l_if, l_for, l_while, l_raise, l_cont, l_brk, l_pass, l_sstuck]⟩
noncomputable def k_steps_from : Kd := ⟨2, [none], fun c => (kSq (kRet (kLc [2] (.name 2) (kSeq (kCall c 16 (kACons (kB idxF (kSlot 0) (kSlot 1)) kANil))) (kTru (kBool (kAnd (kC neO (kSlot 2) (kSlot 1)) (kTru (kC inD (kSlot 2) (kSlot 0)))))) (kSlot 2))) kEnd)⟩
theorem kok_steps_from : KdOk f_steps_from k_steps_from := ⟨rfl, rfl, fun c => by simp only [f_steps_from, k_steps_from, l_slot, l_cst, l_glo, l_fn, l_stuck, l_add, l_sub, l_mul, l_fdiv, l_mod, l_pow, l_neg, l_not, l_and, l_or, l_and1, l_and2, l_or1, l_or2, l_eq, l_ne, l_lt, l_le, l_gt, l_ge, l_inn, l_nin, l_is, l_isnt, l_cmp2, l_ite, l_enil, l_econs, l_anil, l_acons, l_tup, l_lst, l_idx, l_onone, l_osome, l_sli, l_sl3, l_call, l_len, l_abs, l_int, l_str, l_dict, l_bitS, l_bitZ, l_bitR1, l_bitR2, l_bitK, l_bitV, l_bitI, l_seq, l_rng1, l_rng2, l_rng3, l_zip, l_zip3, l_enu, l_keys, l_vals, l_items, l_srtK, l_isi, l_tnone, l_tsome, l_lc, l_lc2, l_dc, l_dc2, l_dct, l_cnt, l_index, l_get, l_oidx, l_fld, l_meth, l_mk, l_cell, l_dcell, l_deq0, l_rd, l_snil, l_scons, l_asg, l_asgT, l_par, l_app, l_ext, l_popK, l_upd, l_put, l_oput, l_oapp, l_fset, l_aug, l_expr, l_ret, l_retN, l_if, l_for, l_while, l_raise, l_cont, l_brk, l_pass, l_sstuck]⟩
noncomputable def k_found_path : Kd := ⟨1, [none, none, none, none, none, none, none, none, none, none], fun c => (kSq (kAsg 1 (kU dictF (kSlot 0))) (kSq (kAsg 2 (kDc [5] (.name 5) (kSeq (kSlot 1)) (kSlot 5) (kOk (.d (.bool true))))) (kSq (kAsg 3 (kOk (.d (.bool true)))) (kSq (kWhl c (kSlot 3) (kSq (kAsg 4 (kLc [5] (.name 5) (kSeq (kSlot 2)) (kTru (kNot (kU (bitF .any) (kLc [9] (.name 9) (kSeq (kCall c 25 (kACons (kSlot 1) (kACons (kSlot 5) kANil)))) kTNone (kC inD (kSlot 9) (kSlot 2)))))) (kSlot 5))) (kSq (kFor (.name 5) (kSeq (kSlot 4)) (kSq (kMod 2 popF (kSlot 5)) kEnd)) (kSq (kAsg 3 (kC neO (kSlot 4) (kLst kNil))) kEnd)))) (kSq (kIf (kDeq0 false (kSlot 2)) (kSq (kRet (kOk (.d (.none)))) kEnd) kEnd) (kSq (kAsg 6 (kLst (kCons (kU (bitF .min) (kSlot 2)) kNil))) (kSq (kWhl c (kOk (.d (.bool true))) (kSq (kAsg 7 (kU (bitF .min) (kLc [9] (.name 9) (kSeq (kCall c 25 (kACons (kSlot 1) (kACons (kB idxF (kSlot 6) (kNeg (kOk (.d (.int 1))))) kANil)))) (kTru (kC inD (kSlot 9) (kSlot 2))) (kSlot 9)))) (kSq (kIf (kC inD (kSlot 7) (kSlot 6)) (kSq (kAsg 8 (kSli (kSlot 6) (kOSome (kIndex (kSlot 6) (kSlot 7))) kONone)) (kSq (kRet (kU (bitF .tuple) (kLc2 [5, 10] (.name 5) (kSeq (kSlot 8)) (.name 10) (kSeq (kTup (kCons (kSlot 5) (kCons (kB idxF (kSlot 1) (kSlot 5)) kNil)))) kTNone (kSlot 10)))) kEnd)) kEnd) (kSq (kMod 6 appF (kSlot 7)) kEnd)))) kEnd)))))))⟩
theorem kok_found_path : KdOk f_found_path k_found_path := ⟨rfl, rfl, fun c => by simp only [f_found_path, k_found_path, l_slot, l_cst, l_glo, l_fn, l_stuck, l_add, l_sub, l_mul, l_fdiv, l_mod, l_pow, l_neg, l_not, l_and, l_or, l_and1, l_and2, l_or1, l_or2, l_eq, l_ne, l_lt, l_le, l_gt, l_ge, l_inn, l_nin, l_is, l_isnt, l_cmp2, l_ite, l_enil, l_econs, l_anil, l_acons, l_tup, l_lst, l_idx, l_onone, l_osome, l_sli, l_sl3, l_call, l_len, l_abs, l_int, l_str, l_dict, l_bitS, l_bitZ, l_bitR1, l_bitR2, l_bitK, l_bitV, l_bitI, l_seq, l_rng1, l_rng2, l_rng3, l_zip, l_zip3, l_enu, l_keys, l_vals, l_items, l_srtK, l_isi, l_tnone, l_tsome, l_lc, l_lc2, l_dc, l_dc2, l_dct, l_cnt, l_index, l_get, l_oidx, l_fld, l_meth, l_mk, l_cell, l_dcell, l_deq0, l_rd, l_snil, l_scons, l_asg, l_asgT, l_par, l_app, l_ext, l_popK, l_upd, l_put, l_oput, l_oapp, l_fset, l_aug, l_expr, l_ret, l_retN, l_if, l_for, l_while, l_raise, l_cont, l_brk, l_pass, l_sstuck]⟩
noncomputable def k_check_acyclic : Kd := ⟨2, [none], fun c => (kSq (kExpr (kCall c 21 (kACons (kSlot 0) (kACons (kSlot 1) kANil)))) (kSq (kAsg 2 (kCall c 26 (kACons (kSlot 1) kANil))) (kSq (kIf (kIsnt (kSlot 2)) (kSq kSStuck kEnd) kEnd) kEnd)))⟩
theorem kok_check_acyclic : KdOk f_check_acyclic k_check_acyclic := ⟨rfl, rfl, fun c => by simp only [f_check_acyclic, k_check_acyclic, l_slot, l_cst, l_glo, l_fn, l_stuck, l_add, l_sub, l_mul, l_fdiv, l_mod, l_pow, l_neg, l_not, l_and, l_or, l_and1, l_and2, l_or1, l_or2, l_eq, l_ne, l_lt, l_le, l_gt, l_ge, l_inn, l_nin, l_is, l_isnt, l_cmp2, l_ite, l_enil, l_econs, l_anil, l_acons, l_tup, l_lst, l_idx, l_onone, l_osome, l_sli, l_sl3, l_call, l_len, l_abs, l_int, l_str, l_dict, l_bitS, l_bitZ, l_bitR1, l_bitR2, l_bitK, l_bitV, l_bitI, l_seq, l_rng1, l_rng2, l_rng3, l_zip, l_zip3, l_enu, l_keys, l_vals, l_items, l_srtK, l_isi, l_tnone, l_tsome, l_lc, l_lc2, l_dc, l_dc2, l_dct, l_cnt, l_index, l_get, l_oidx, l_fld, l_meth, l_mk, l_cell, l_dcell, l_deq0, l_rd, l_snil, l_scons, l_asg, l_asgT, l_par, l_app, l_ext, l_popK, l_upd, l_put, l_oput, l_oapp, l_fset, l_aug, l_expr, l_ret, l_retN, l_if, l_for, l_while, l_raise, l_cont, l_brk, l_pass, l_sstuck]⟩
noncomputable def k_sign_of : Kd := ⟨2, [none, none], fun c => (kSq (kAsg 2 (kIndex (kLc [3] (.name 3) (kSeq (kSlot 1)) kTNone (kC inD (kSlot 3) (kSlot 0))) (kOk (.d (.bool false))))) (kSq (kRet (kIte (kC eqF (kB (binD .mod) (kSlot 2) (kOk (.d (.int 2)))) (kOk (.d (.int 0)))) (kOk (.d (.int 1))) (kNeg (kOk (.d (.int 1)))))) kEnd))⟩
theorem kok_sign_of : KdOk f_sign_of k_sign_of := ⟨rfl, rfl, fun c => by simp only [f_sign_of, k_sign_of, l_slot, l_cst, l_glo, l_fn, l_stuck, l_add, l_sub, l_mul, l_fdiv, l_mod, l_pow, l_neg, l_not, l_and, l_or, l_and1, l_and2, l_or1, l_or2, l_eq, l_ne, l_lt, l_le, l_gt, l_ge, l_inn, l_nin, l_is, l_isnt, l_cmp2, l_ite, l_enil, l_econs, l_anil, l_acons, l_tup, l_lst, l_idx, l_onone, l_osome, l_sli, l_sl3, l_call, l_len, l_abs, l_int, l_str, l_dict, l_bitS, l_bitZ, l_bitR1, l_bitR2, l_bitK, l_bitV, l_bitI, l_seq, l_rng1, l_rng2, l_rng3, l_zip, l_zip3, l_enu, l_keys, l_vals, l_items, l_srtK, l_isi, l_tnone, l_tsome, l_lc, l_lc2, l_dc, l_dc2, l_dct, l_cnt, l_index, l_get, l_oidx, l_fld, l_meth, l_mk, l_cell, l_dcell, l_deq0, l_rd, l_snil, l_scons, l_asg, l_asgT, l_par, l_app, l_ext, l_popK, l_upd, l_put, l_oput, l_oapp, l_fset, l_aug, l_expr, l_ret, l_retN, l_if, l_for, l_while, l_raise, l_cont, l_brk, l_pass, l_sstuck]⟩
noncomputable def k_of_dimension : Kd := ⟨2, [none], fun c => (kSq (kRet (kLc [2] (.name 2) (kSeq (kSlot 0)) (kTru (kC eqF (kU lenD (kSlot 2)) (kB addD (kSlot 1) (kOk (.d (.int 1)))))) (kSlot 2))) kEnd)⟩
theorem kok_of_dimension : KdOk f_of_dimension k_of_dimension := ⟨rfl, rfl, fun c => by simp only [f_of_dimension, k_of_dimension, l_slot, l_cst, l_glo, l_fn, l_stuck, l_add, l_sub, l_mul, l_fdiv, l_mod, l_pow, l_neg, l_not, l_and, l_or, l_and1, l_and2, l_or1, l_or2, l_eq, l_ne, l_lt, l_le, l_gt, l_ge, l_inn, l_nin, l_is, l_isnt, l_cmp2, l_ite, l_enil, l_econs, l_anil, l_acons, l_tup, l_lst, l_idx, l_onone, l_osome, l_sli, l_sl3, l_call, l_len, l_abs, l_int, l_str, l_dict, l_bitS, l_bitZ, l_bitR1, l_bitR2, l_bitK, l_bitV, l_bitI, l_seq, l_rng1, l_rng2, l_rng3, l_zip, l_zip3, l_enu, l_keys, l_vals, l_items, l_srtK, l_isi, l_tnone, l_tsome, l_lc, l_lc2, l_dc, l_dc2, l_dct, l_cnt, l_index, l_get, l_oidx, l_fld, l_meth, l_mk, l_cell, l_dcell, l_deq0, l_rd, l_snil, l_scons, l_asg, l_asgT, l_par, l_app, l_ext, l_popK, l_upd, l_put, l_oput, l_oapp, l_fset, l_aug, l_expr, l_ret, l_retN, l_if, l_for, l_while, l_raise, l_cont, l_brk, l_pass, l_sstuck]⟩
noncomputable def k_smallest : Kd := ⟨1, [none, none, none, none, none], fun c => (kSq (kAsg 1 (kOk (.d (.none)))) (kSq (kFor (.tup [2, 3]) (kEnu (kSlot 0)) (kSq (kFor (.tup [4, 5]) (kEnu (kSlot 3)) (kSq (kIf (kBool (kAnd (kC neO (kSlot 5) (kOk (.d (.int 0)))) (kTru (kBool (kOr (kIs (kSlot 1)) (kTru (kC ltO (kU (b1D .abs) (kSlot 5)) (kB idxF (kSlot 1) (kOk (.d (.int 0))))))))))) (kSq (kAsg 1 (kTup (kCons (kU (b1D .abs) (kSlot 5)) (kCons (kSlot 2) (kCons (kSlot 4) kNil))))) kEnd) kEnd) kEnd)) kEnd)) (kSq (kRet (kIte (kIsnt (kSlot 1)) (kSli (kSlot 1) (kOSome (kOk (.d (.int 1)))) kONone) (kOk (.d (.none))))) kEnd)))⟩
theorem kok_smallest : KdOk f_smallest k_smallest := ⟨rfl, rfl, fun c => by simp only [f_smallest, k_smallest, l_slot, l_cst, l_glo, l_fn, l_stuck, l_add, l_sub, l_mul, l_fdiv, l_mod, l_pow, l_neg, l_not, l_and, l_or, l_and1, l_and2, l_or1, l_or2, l_eq, l_ne, l_lt, l_le, l_gt, l_ge, l_inn, l_nin, l_is, l_isnt, l_cmp2, l_ite, l_enil, l_econs, l_anil, l_acons, l_tup, l_lst, l_idx, l_onone, l_osome, l_sli, l_sl3, l_call, l_len, l_abs, l_int, l_str, l_dict, l_bitS, l_bitZ, l_bitR1, l_bitR2, l_bitK, l_bitV, l_bitI, l_seq, l_rng1, l_rng2, l_rng3, l_zip, l_zip3, l_enu, l_keys, l_vals, l_items, l_srtK, l_isi, l_tnone, l_tsome, l_lc, l_lc2, l_dc, l_dc2, l_dct, l_cnt, l_index, l_get, l_oidx, l_fld, l_meth, l_mk, l_cell, l_dcell, l_deq0, l_rd, l_snil, l_scons, l_asg, l_asgT, l_par, l_app, l_ext, l_popK, l_upd, l_put, l_oput, l_oapp, l_fset, l_aug, l_expr, l_ret, l_retN, l_if, l_for, l_while, l_raise, l_cont, l_brk, l_pass, l_sstuck]⟩
noncomputable def k_reduced : Kd := ⟨1, [none, none, none, none, none, none, none, none, none, none], fun c => (kSq kSStuck kEnd)⟩
theorem kok_reduced : KdOk f_reduced k_reduced := ⟨rfl, rfl, fun c => by simp only [f_reduced, k_reduced, l_slot, l_cst, l_glo, l_fn, l_stuck, l_add, l_sub, l_mul, l_fdiv, l_mod, l_pow, l_neg, l_not, l_and, l_or, l_and1, l_and2, l_or1, l_or2, l_eq, l_ne, l_lt, l_le, l_gt, l_ge, l_inn, l_nin, l_is, l_isnt, l_cmp2, l_ite, l_enil, l_econs, l_anil, l_acons, l_tup, l_lst, l_idx, l_onone, l_osome, l_sli, l_sl3, l_call, l_len, l_abs, l_int, l_str, l_dict, l_bitS, l_bitZ, l_bitR1, l_bitR2, l_bitK, l_bitV, l_bitI, l_seq, l_rng1, l_rng2, l_rng3, l_zip, l_zip3, l_enu, l_keys, l_vals, l_items, l_srtK, l_isi, l_tnone, l_tsome, l_lc, l_lc2, l_dc, l_dc2, l_dct, l_cnt, l_index, l_get, l_oidx, l_fld, l_meth, l_mk, l_cell, l_dcell, l_deq0, l_rd, l_snil, l_scons, l_asg, l_asgT, l_par, l_app, l_ext, l_popK, l_upd, l_put, l_oput, l_oapp, l_fset, l_aug, l_expr, l_ret, l_retN, l_if, l_for, l_while, l_raise, l_cont, l_brk, l_pass, l_sstuck]⟩
noncomputable def k_invariants : Kd := ⟨1, [none, none, none], fun c => (kSq (kAsg 1 (kLc [3] (.name 3) (kSeq (kSlot 0)) kTNone (kU (bitF .list) (kSlot 3)))) (kSq (kAsg 2 (kLst kNil)) (kSq (kWhl c (kIsnt (kCall c 30 (kACons (kSlot 1) kANil))) (kSq (kAsg 1 (kCall c 31 (kACons (kSlot 1) kANil))) (kSq (kMod 2 appF (kU (b1D .abs) (kB idxF (kB idxF (kSlot 1) (kOk (.d (.int 0)))) (kOk (.d (.int 0)))))) (kSq (kAsg 1 (kLc [3] (.name 3) (kSeq (kSli (kSlot 1) (kOSome (kOk (.d (.int 1)))) kONone)) kTNone (kSli (kSlot 3) (kOSome (kOk (.d (.int 1)))) kONone))) kEnd)))) (kSq (kRet (kSlot 2)) kEnd))))⟩
theorem kok_invariants : KdOk f_invariants k_invariants := ⟨rfl, rfl, fun c => by simp only [f_invariants, k_invariants, l_slot, l_cst, l_glo, l_fn, l_stuck, l_add, l_sub, l_mul, l_fdiv, l_mod, l_pow, l_neg, l_not, l_and, l_or, l_and1, l_and2, l_or1, l_or2, l_eq, l_ne, l_lt, l_le, l_gt, l_ge, l_inn, l_nin, l_is, l_isnt, l_cmp2, l_ite, l_enil, l_econs, l_anil, l_acons, l_tup, l_lst, l_idx, l_onone, l_osome, l_sli, l_sl3, l_call, l_len, l_abs, l_int, l_str, l_dict, l_bitS, l_bitZ, l_bitR1, l_bitR2, l_bitK, l_bitV, l_bitI, l_seq, l_rng1, l_rng2, l_rng3, l_zip, l_zip3, l_enu, l_keys, l_vals, l_items, l_srtK, l_isi, l_tnone, l_tsome, l_lc, l_lc2, l_dc, l_dc2, l_dct, l_cnt, l_index, l_get, l_oidx, l_fld, l_meth, l_mk, l_cell, l_dcell, l_deq0, l_rd, l_snil, l_scons, l_asg, l_asgT, l_par, l_app, l_ext, l_popK, l_upd, l_put, l_oput, l_oapp, l_fset, l_aug, l_expr, l_ret, l_retN, l_if, l_for, l_while, l_raise, l_cont, l_brk, l_pass, l_sstuck]⟩
noncomputable def k_all_invariants : Kd := ⟨2, [none], fun c => (kSq (kRet (kB addD (kB addD (kLst (kCons (kLst kNil) kNil)) (kLc [2] (.name 2) (kSeq (kSlot 1)) kTNone (kCall c 32 (kACons (kSlot 2) kANil)))) (kLst (kCons (kLst kNil) kNil)))) kEnd)⟩
theorem kok_all_invariants : KdOk f_all_invariants k_all_invariants := ⟨rfl, rfl, fun c => by simp only [f_all_invariants, k_all_invariants, l_slot, l_cst, l_glo, l_fn, l_stuck, l_add, l_sub, l_mul, l_fdiv, l_mod, l_pow, l_neg, l_not, l_and, l_or, l_and1, l_and2, l_or1, l_or2, l_eq, l_ne, l_lt, l_le, l_gt, l_ge, l_inn, l_nin, l_is, l_isnt, l_cmp2, l_ite, l_enil, l_econs, l_anil, l_acons, l_tup, l_lst, l_idx, l_onone, l_osome, l_sli, l_sl3, l_call, l_len, l_abs, l_int, l_str, l_dict, l_bitS, l_bitZ, l_bitR1, l_bitR2, l_bitK, l_bitV, l_bitI, l_seq, l_rng1, l_rng2, l_rng3, l_zip, l_zip3, l_enu, l_keys, l_vals, l_items, l_srtK, l_isi, l_tnone, l_tsome, l_lc, l_lc2, l_dc, l_dc2, l_dct, l_cnt, l_index, l_get, l_oidx, l_fld, l_meth, l_mk, l_cell, l_dcell, l_deq0, l_rd, l_snil, l_scons, l_asg, l_asgT, l_par, l_app, l_ext, l_popK, l_upd, l_put, l_oput, l_oapp, l_fset, l_aug, l_expr, l_ret, l_retN, l_if, l_for, l_while, l_raise, l_cont, l_brk, l_pass, l_sstuck]⟩
noncomputable def k_betti_from : Kd := ⟨2, [none, none], fun c => (kSq (kRet (kU (bitF .tuple) (kLc [2, 3] (.tup [2, 3]) (kEnu (kSlot 0)) kTNone (kB subD (kB subD (kSlot 3) (kB idxF (kSlot 1) (kSlot 2))) (kB idxF (kSlot 1) (kB addD (kSlot 2) (kOk (.d (.int 1))))))))) kEnd)⟩
theorem kok_betti_from : KdOk f_betti_from k_betti_from := ⟨rfl, rfl, fun c => by simp only [f_betti_from, k_betti_from, l_slot, l_cst, l_glo, l_fn, l_stuck, l_add, l_sub, l_mul, l_fdiv, l_mod, l_pow, l_neg, l_not, l_and, l_or, l_and1, l_and2, l_or1, l_or2, l_eq, l_ne, l_lt, l_le, l_gt, l_ge, l_inn, l_nin, l_is, l_isnt, l_cmp2, l_ite, l_enil, l_econs, l_anil, l_acons, l_tup, l_lst, l_idx, l_onone, l_osome, l_sli, l_sl3, l_call, l_len, l_abs, l_int, l_str, l_dict, l_bitS, l_bitZ, l_bitR1, l_bitR2, l_bitK, l_bitV, l_bitI, l_seq, l_rng1, l_rng2, l_rng3, l_zip, l_zip3, l_enu, l_keys, l_vals, l_items, l_srtK, l_isi, l_tnone, l_tsome, l_lc, l_lc2, l_dc, l_dc2, l_dct, l_cnt, l_index, l_get, l_oidx, l_fld, l_meth, l_mk, l_cell, l_dcell, l_deq0, l_rd, l_snil, l_scons, l_asg, l_asgT, l_par, l_app, l_ext, l_popK, l_upd, l_put, l_oput, l_oapp, l_fset, l_aug, l_expr, l_ret, l_retN, l_if, l_for, l_while, l_raise, l_cont, l_brk, l_pass, l_sstuck]⟩
noncomputable def k_betti_by : Kd := ⟨2, [none], fun c => (kSq (kRet (kCall c 34 (kACons (kSlot 0) (kACons (kLc [2] (.name 2) (kSeq (kSlot 1)) kTNone (kU lenD (kSlot 2))) kANil)))) kEnd)⟩
theorem kok_betti_by : KdOk f_betti_by k_betti_by := ⟨rfl, rfl, fun c => by simp only [f_betti_by, k_betti_by, l_slot, l_cst, l_glo, l_fn, l_stuck, l_add, l_sub, l_mul, l_fdiv, l_mod, l_pow, l_neg, l_not, l_and, l_or, l_and1, l_and2, l_or1, l_or2, l_eq, l_ne, l_lt, l_le, l_gt, l_ge, l_inn, l_nin, l_is, l_isnt, l_cmp2, l_ite, l_enil, l_econs, l_anil, l_acons, l_tup, l_lst, l_idx, l_onone, l_osome, l_sli, l_sl3, l_call, l_len, l_abs, l_int, l_str, l_dict, l_bitS, l_bitZ, l_bitR1, l_bitR2, l_bitK, l_bitV, l_bitI, l_seq, l_rng1, l_rng2, l_rng3, l_zip, l_zip3, l_enu, l_keys, l_vals, l_items, l_srtK, l_isi, l_tnone, l_tsome, l_lc, l_lc2, l_dc, l_dc2, l_dct, l_cnt, l_index, l_get, l_oidx, l_fld, l_meth, l_mk, l_cell, l_dcell, l_deq0, l_rd, l_snil, l_scons, l_asg, l_asgT, l_par, l_app, l_ext, l_popK, l_upd, l_put, l_oput, l_oapp, l_fset, l_aug, l_expr, l_ret, l_retN, l_if, l_for, l_while, l_raise, l_cont, l_brk, l_pass, l_sstuck]⟩
noncomputable def k_Paths___init__ : Kd := ⟨3, [], fun c => (kSq (kFset 0 41 "up" (kU dictF (kSlot 1))) (kSq (kFset 0 41 "lower" (kSlot 2)) (kSq (kFset 0 41 "known" (kDcell (kDct kNil kNil))) kEnd)))⟩
theorem kok_Paths___init__ : KdOk f_Paths___init__ k_Paths___init__ := ⟨rfl, rfl, fun c => by simp only [f_Paths___init__, k_Paths___init__, l_slot, l_cst, l_glo, l_fn, l_stuck, l_add, l_sub, l_mul, l_fdiv, l_mod, l_pow, l_neg, l_not, l_and, l_or, l_and1, l_and2, l_or1, l_or2, l_eq, l_ne, l_lt, l_le, l_gt, l_ge, l_inn, l_nin, l_is, l_isnt, l_cmp2, l_ite, l_enil, l_econs, l_anil, l_acons, l_tup, l_lst, l_idx, l_onone, l_osome, l_sli, l_sl3, l_call, l_len, l_abs, l_int, l_str, l_dict, l_bitS, l_bitZ, l_bitR1, l_bitR2, l_bitK, l_bitV, l_bitI, l_seq, l_rng1, l_rng2, l_rng3, l_zip, l_zip3, l_enu, l_keys, l_vals, l_items, l_srtK, l_isi, l_tnone, l_tsome, l_lc, l_lc2, l_dc, l_dc2, l_dct, l_cnt, l_index, l_get, l_oidx, l_fld, l_meth, l_mk, l_cell, l_dcell, l_deq0, l_rd, l_snil, l_scons, l_asg, l_asgT, l_par, l_app, l_ext, l_popK, l_upd, l_put, l_oput, l_oapp, l_fset, l_aug, l_expr, l_ret, l_retN, l_if, l_for, l_while, l_raise, l_cont, l_brk, l_pass, l_sstuck]⟩
noncomputable def k_Paths_after : Kd := ⟨2, [none], fun c => (kSq (kRet (kLc [2] (.name 2) (kSeq (kCall c 16 (kACons (kB idxF (kFld (kSlot 0) 41 "up") (kSlot 1)) kANil))) (kTru (kC neO (kSlot 2) (kSlot 1))) (kSlot 2))) kEnd)⟩
theorem kok_Paths_after : KdOk f_Paths_after k_Paths_after := ⟨rfl, rfl, fun c => by simp only [f_Paths_after, k_Paths_after, l_slot, l_cst, l_glo, l_fn, l_stuck, l_add, l_sub, l_mul, l_fdiv, l_mod, l_pow, l_neg, l_not, l_and, l_or, l_and1, l_and2, l_or1, l_or2, l_eq, l_ne, l_lt, l_le, l_gt, l_ge, l_inn, l_nin, l_is, l_isnt, l_cmp2, l_ite, l_enil, l_econs, l_anil, l_acons, l_tup, l_lst, l_idx, l_onone, l_osome, l_sli, l_sl3, l_call, l_len, l_abs, l_int, l_str, l_dict, l_bitS, l_bitZ, l_bitR1, l_bitR2, l_bitK, l_bitV, l_bitI, l_seq, l_rng1, l_rng2, l_rng3, l_zip, l_zip3, l_enu, l_keys, l_vals, l_items, l_srtK, l_isi, l_tnone, l_tsome, l_lc, l_lc2, l_dc, l_dc2, l_dct, l_cnt, l_index, l_get, l_oidx, l_fld, l_meth, l_mk, l_cell, l_dcell, l_deq0, l_rd, l_snil, l_scons, l_asg, l_asgT, l_par, l_app, l_ext, l_popK, l_upd, l_put, l_oput, l_oapp, l_fset, l_aug, l_expr, l_ret, l_retN, l_if, l_for, l_while, l_raise, l_cont, l_brk, l_pass, l_sstuck]⟩
noncomputable def k_Paths_numbers : Kd := ⟨2, [none, none, none, none, none, none], fun c => (kSq (kIf (kC eqF (kSlot 1) (kFld (kSlot 0) 41 "lower")) (kSq (kRet (kTup (kCons (kOk (.d (.int 1))) (kCons (kOk (.d (.int 1))) kNil)))) kEnd) kEnd) (kSq (kIf (kC ninO (kSlot 1) (kFld (kSlot 0) 41 "up")) (kSq (kRet (kTup (kCons (kOk (.d (.int 0))) (kCons (kOk (.d (.int 0))) kNil)))) kEnd) kEnd) (kSq (kIf (kC ninO (kSlot 1) (kRd (kFld (kSlot 0) 41 "known"))) (kSq (kAsg 2 (kB idxF (kFld (kSlot 0) 41 "up") (kSlot 1))) (kSq (kAsgT [3, 4] (kTup (kCons (kOk (.d (.int 0))) (kCons (kOk (.d (.int 0))) kNil)))) (kSq (kFor (.name 5) (kSeq (kMeth c (kSlot 0) 41 40 "after" (kACons (kSlot 1) kANil))) (kSq (kAsgT [6, 7] (kMeth c (kSlot 0) 41 42 "numbers" (kACons (kSlot 5) kANil))) (kSq (kAug 3 .add (kSlot 6)) (kSq (kAug 4 .sub (kB (binD .mul) (kB (binD .mul) (kCall c 28 (kACons (kSlot 1) (kACons (kSlot 2) kANil))) (kCall c 28 (kACons (kSlot 5) (kACons (kSlot 2) kANil)))) (kSlot 7))) kEnd)))) (kSq (kOput (kFld (kSlot 0) 41 "known") (kSlot 1) (kTup (kCons (kSlot 3) (kCons (kSlot 4) kNil)))) kEnd)))) kEnd) (kSq (kRet (kOidx (kFld (kSlot 0) 41 "known") (kSlot 1))) kEnd))))⟩
theorem kok_Paths_numbers : KdOk f_Paths_numbers k_Paths_numbers := ⟨rfl, rfl, fun c => by simp only [f_Paths_numbers, k_Paths_numbers, l_slot, l_cst, l_glo, l_fn, l_stuck, l_add, l_sub, l_mul, l_fdiv, l_mod, l_pow, l_neg, l_not, l_and, l_or, l_and1, l_and2, l_or1, l_or2, l_eq, l_ne, l_lt, l_le, l_gt, l_ge, l_inn, l_nin, l_is, l_isnt, l_cmp2, l_ite, l_enil, l_econs, l_anil, l_acons, l_tup, l_lst, l_idx, l_onone, l_osome, l_sli, l_sl3, l_call, l_len, l_abs, l_int, l_str, l_dict, l_bitS, l_bitZ, l_bitR1, l_bitR2, l_bitK, l_bitV, l_bitI, l_seq, l_rng1, l_rng2, l_rng3, l_zip, l_zip3, l_enu, l_keys, l_vals, l_items, l_srtK, l_isi, l_tnone, l_tsome, l_lc, l_lc2, l_dc, l_dc2, l_dct, l_cnt, l_index, l_get, l_oidx, l_fld, l_meth, l_mk, l_cell, l_dcell, l_deq0, l_rd, l_snil, l_scons, l_asg, l_asgT, l_par, l_app, l_ext, l_popK, l_upd, l_put, l_oput, l_oapp, l_fset, l_aug, l_expr, l_ret, l_retN, l_if, l_for, l_while, l_raise, l_cont, l_brk, l_pass, l_sstuck]⟩
noncomputable def k_Paths_rows : Kd := ⟨2, [none, none, none], fun c => (kSq (kIf (kC eqF (kSlot 1) (kFld (kSlot 0) 41 "lower")) (kSq (kRet (kLst (kCons (kTup (kCons (kSlot 1) kNil)) kNil))) kEnd) kEnd) (kSq (kIf (kC ninO (kSlot 1) (kFld (kSlot 0) 41 "up")) (kSq (kRet (kLst kNil)) kEnd) kEnd) (kSq (kAsg 2 (kLst kNil)) (kSq (kFor (.name 3) (kSeq (kMeth c (kSlot 0) 41 40 "after" (kACons (kSlot 1) kANil))) (kSq (kMod 2 extIn (kLc [4] (.name 4) (kSeq (kMeth c (kSlot 0) 41 43 "rows" (kACons (kSlot 3) kANil))) kTNone (kB addD (kTup (kCons (kSlot 1) (kCons (kB idxF (kFld (kSlot 0) 41 "up") (kSlot 1)) kNil))) (kSlot 4)))) kEnd)) (kSq (kRet (kSlot 2)) kEnd)))))⟩
theorem kok_Paths_rows : KdOk f_Paths_rows k_Paths_rows := ⟨rfl, rfl, fun c => by simp only [f_Paths_rows, k_Paths_rows, l_slot, l_cst, l_glo, l_fn, l_stuck, l_add, l_sub, l_mul, l_fdiv, l_mod, l_pow, l_neg, l_not, l_and, l_or, l_and1, l_and2, l_or1, l_or2, l_eq, l_ne, l_lt, l_le, l_gt, l_ge, l_inn, l_nin, l_is, l_isnt, l_cmp2, l_ite, l_enil, l_econs, l_anil, l_acons, l_tup, l_lst, l_idx, l_onone, l_osome, l_sli, l_sl3, l_call, l_len, l_abs, l_int, l_str, l_dict, l_bitS, l_bitZ, l_bitR1, l_bitR2, l_bitK, l_bitV, l_bitI, l_seq, l_rng1, l_rng2, l_rng3, l_zip, l_zip3, l_enu, l_keys, l_vals, l_items, l_srtK, l_isi, l_tnone, l_tsome, l_lc, l_lc2, l_dc, l_dc2, l_dct, l_cnt, l_index, l_get, l_oidx, l_fld, l_meth, l_mk, l_cell, l_dcell, l_deq0, l_rd, l_snil, l_scons, l_asg, l_asgT, l_par, l_app, l_ext, l_popK, l_upd, l_put, l_oput, l_oapp, l_fset, l_aug, l_expr, l_ret, l_retN, l_if, l_for, l_while, l_raise, l_cont, l_brk, l_pass, l_sstuck]⟩
noncomputable def k_count_between : Kd := ⟨3, [none, none], fun c => (kSq (kAsg 3 (kMk c 41 39 (kACons (kSlot 0) (kACons (kSlot 2) kANil)))) (kSq (kRet (kU (bitF .sum) (kLc [4] (.name 4) (kSeq (kCall c 16 (kACons (kSlot 1) kANil))) kTNone (kB idxF (kMeth c (kSlot 3) 41 42 "numbers" (kACons (kSlot 4) kANil)) (kOk (.d (.int 0))))))) kEnd))⟩
theorem kok_count_between : KdOk f_count_between k_count_between := ⟨rfl, rfl, fun c => by simp only [f_count_between, k_count_between, l_slot, l_cst, l_glo, l_fn, l_stuck, l_add, l_sub, l_mul, l_fdiv, l_mod, l_pow, l_neg, l_not, l_and, l_or, l_and1, l_and2, l_or1, l_or2, l_eq, l_ne, l_lt, l_le, l_gt, l_ge, l_inn, l_nin, l_is, l_isnt, l_cmp2, l_ite, l_enil, l_econs, l_anil, l_acons, l_tup, l_lst, l_idx, l_onone, l_osome, l_sli, l_sl3, l_call, l_len, l_abs, l_int, l_str, l_dict, l_bitS, l_bitZ, l_bitR1, l_bitR2, l_bitK, l_bitV, l_bitI, l_seq, l_rng1, l_rng2, l_rng3, l_zip, l_zip3, l_enu, l_keys, l_vals, l_items, l_srtK, l_isi, l_tnone, l_tsome, l_lc, l_lc2, l_dc, l_dc2, l_dct, l_cnt, l_index, l_get, l_oidx, l_fld, l_meth, l_mk, l_cell, l_dcell, l_deq0, l_rd, l_snil, l_scons, l_asg, l_asgT, l_par, l_app, l_ext, l_popK, l_upd, l_put, l_oput, l_oapp, l_fset, l_aug, l_expr, l_ret, l_retN, l_if, l_for, l_while, l_raise, l_cont, l_brk, l_pass, l_sstuck]⟩
noncomputable def k_sum_between : Kd := ⟨3, [none, none], fun c => (kSq (kAsg 3 (kMk c 41 39 (kACons (kSlot 0) (kACons (kSlot 2) kANil)))) (kSq (kRet (kU (bitF .sum) (kLc [4] (.name 4) (kSeq (kCall c 16 (kACons (kSlot 1) kANil))) kTNone (kB (binD .mul) (kCall c 28 (kACons (kSlot 4) (kACons (kSlot 1) kANil))) (kB idxF (kMeth c (kSlot 3) 41 42 "numbers" (kACons (kSlot 4) kANil)) (kOk (.d (.int 1)))))))) kEnd))⟩
theorem kok_sum_between : KdOk f_sum_between k_sum_between := ⟨rfl, rfl, fun c => by simp only [f_sum_between, k_sum_between, l_slot, l_cst, l_glo, l_fn, l_stuck, l_add, l_sub, l_mul, l_fdiv, l_mod, l_pow, l_neg, l_not, l_and, l_or, l_and1, l_and2, l_or1, l_or2, l_eq, l_ne, l_lt, l_le, l_gt, l_ge, l_inn, l_nin, l_is, l_isnt, l_cmp2, l_ite, l_enil, l_econs, l_anil, l_acons, l_tup, l_lst, l_idx, l_onone, l_osome, l_sli, l_sl3, l_call, l_len, l_abs, l_int, l_str, l_dict, l_bitS, l_bitZ, l_bitR1, l_bitR2, l_bitK, l_bitV, l_bitI, l_seq, l_rng1, l_rng2, l_rng3, l_zip, l_zip3, l_enu, l_keys, l_vals, l_items, l_srtK, l_isi, l_tnone, l_tsome, l_lc, l_lc2, l_dc, l_dc2, l_dct, l_cnt, l_index, l_get, l_oidx, l_fld, l_meth, l_mk, l_cell, l_dcell, l_deq0, l_rd, l_snil, l_scons, l_asg, l_asgT, l_par, l_app, l_ext, l_popK, l_upd, l_put, l_oput, l_oapp, l_fset, l_aug, l_expr, l_ret, l_retN, l_if, l_for, l_while, l_raise, l_cont, l_brk, l_pass, l_sstuck]⟩
noncomputable def k_paths_between : Kd := ⟨3, [none, none, none], fun c => (kSq (kAsg 3 (kMk c 41 39 (kACons (kSlot 0) (kACons (kSlot 2) kANil)))) (kSq (kRet (kU (bitF .tuple) (kLc2 [4, 5] (.name 4) (kSeq (kCall c 16 (kACons (kSlot 1) kANil))) (.name 5) (kSeq (kMeth c (kSlot 3) 41 43 "rows" (kACons (kSlot 4) kANil))) kTNone (kB addD (kTup (kCons (kSlot 1) kNil)) (kSlot 5))))) kEnd))⟩
theorem kok_paths_between : KdOk f_paths_between k_paths_between := ⟨rfl, rfl, fun c => by simp only [f_paths_between, k_paths_between, l_slot, l_cst, l_glo, l_fn, l_stuck, l_add, l_sub, l_mul, l_fdiv, l_mod, l_pow, l_neg, l_not, l_and, l_or, l_and1, l_and2, l_or1, l_or2, l_eq, l_ne, l_lt, l_le, l_gt, l_ge, l_inn, l_nin, l_is, l_isnt, l_cmp2, l_ite, l_enil, l_econs, l_anil, l_acons, l_tup, l_lst, l_idx, l_onone, l_osome, l_sli, l_sl3, l_call, l_len, l_abs, l_int, l_str, l_dict, l_bitS, l_bitZ, l_bitR1, l_bitR2, l_bitK, l_bitV, l_bitI, l_seq, l_rng1, l_rng2, l_rng3, l_zip, l_zip3, l_enu, l_keys, l_vals, l_items, l_srtK, l_isi, l_tnone, l_tsome, l_lc, l_lc2, l_dc, l_dc2, l_dct, l_cnt, l_index, l_get, l_oidx, l_fld, l_meth, l_mk, l_cell, l_dcell, l_deq0, l_rd, l_snil, l_scons, l_asg, l_asgT, l_par, l_app, l_ext, l_popK, l_upd, l_put, l_oput, l_oapp, l_fset, l_aug, l_expr, l_ret, l_retN, l_if, l_for, l_while, l_raise, l_cont, l_brk, l_pass, l_sstuck]⟩
noncomputable def k_check_ends : Kd := ⟨4, [none], fun c => (kSq (kExpr (kCall c 27 (kACons (kSlot 0) (kACons (kSlot 1) kANil)))) (kSq (kAsg 4 (kCall c 23 (kACons (kSlot 0) (kACons (kSlot 1) kANil)))) (kSq (kIf (kBool (kOr (kNot (kCall c 5 (kACons (kSlot 2) kANil))) (kTru (kC ninO (kSlot 2) (kSlot 4))))) (kSq kSStuck kEnd) kEnd) (kSq (kIf (kBool (kOr (kNot (kCall c 5 (kACons (kSlot 3) kANil))) (kOr (kC ninO (kSlot 3) (kSlot 4)) (kTru (kC neO (kU lenD (kSlot 3)) (kB subD (kU lenD (kSlot 2)) (kOk (.d (.int 1))))))))) (kSq kSStuck kEnd) kEnd) kEnd))))⟩
theorem kok_check_ends : KdOk f_check_ends k_check_ends := ⟨rfl, rfl, fun c => by simp only [f_check_ends, k_check_ends, l_slot, l_cst, l_glo, l_fn, l_stuck, l_add, l_sub, l_mul, l_fdiv, l_mod, l_pow, l_neg, l_not, l_and, l_or, l_and1, l_and2, l_or1, l_or2, l_eq, l_ne, l_lt, l_le, l_gt, l_ge, l_inn, l_nin, l_is, l_isnt, l_cmp2, l_ite, l_enil, l_econs, l_anil, l_acons, l_tup, l_lst, l_idx, l_onone, l_osome, l_sli, l_sl3, l_call, l_len, l_abs, l_int, l_str, l_dict, l_bitS, l_bitZ, l_bitR1, l_bitR2, l_bitK, l_bitV, l_bitI, l_seq, l_rng1, l_rng2, l_rng3, l_zip, l_zip3, l_enu, l_keys, l_vals, l_items, l_srtK, l_isi, l_tnone, l_tsome, l_lc, l_lc2, l_dc, l_dc2, l_dct, l_cnt, l_index, l_get, l_oidx, l_fld, l_meth, l_mk, l_cell, l_dcell, l_deq0, l_rd, l_snil, l_scons, l_asg, l_asgT, l_par, l_app, l_ext, l_popK, l_upd, l_put, l_oput, l_oapp, l_fset, l_aug, l_expr, l_ret, l_retN, l_if, l_for, l_while, l_raise, l_cont, l_brk, l_pass, l_sstuck]⟩
noncomputable def k_gradient_paths : Kd := ⟨4, [], fun c => (kSq (kExpr (kCall c 47 (kACons (kSlot 0) (kACons (kSlot 1) (kACons (kSlot 2) (kACons (kSlot 3) kANil)))))) (kSq (kIf (kC gtO (kCall c 44 (kACons (kSlot 1) (kACons (kSlot 2) (kACons (kSlot 3) kANil)))) (kOk (.d (.int 200)))) (kSq kSStuck kEnd) kEnd) (kSq (kRet (kCall c 46 (kACons (kSlot 1) (kACons (kSlot 2) (kACons (kSlot 3) kANil))))) kEnd)))⟩
theorem kok_gradient_paths : KdOk f_gradient_paths k_gradient_paths := ⟨rfl, rfl, fun c => by simp only [f_gradient_paths, k_gradient_paths, l_slot, l_cst, l_glo, l_fn, l_stuck, l_add, l_sub, l_mul, l_fdiv, l_mod, l_pow, l_neg, l_not, l_and, l_or, l_and1, l_and2, l_or1, l_or2, l_eq, l_ne, l_lt, l_le, l_gt, l_ge, l_inn, l_nin, l_is, l_isnt, l_cmp2, l_ite, l_enil, l_econs, l_anil, l_acons, l_tup, l_lst, l_idx, l_onone, l_osome, l_sli, l_sl3, l_call, l_len, l_abs, l_int, l_str, l_dict, l_bitS, l_bitZ, l_bitR1, l_bitR2, l_bitK, l_bitV, l_bitI, l_seq, l_rng1, l_rng2, l_rng3, l_zip, l_zip3, l_enu, l_keys, l_vals, l_items, l_srtK, l_isi, l_tnone, l_tsome, l_lc, l_lc2, l_dc, l_dc2, l_dct, l_cnt, l_index, l_get, l_oidx, l_fld, l_meth, l_mk, l_cell, l_dcell, l_deq0, l_rd, l_snil, l_scons, l_asg, l_asgT, l_par, l_app, l_ext, l_popK, l_upd, l_put, l_oput, l_oapp, l_fset, l_aug, l_expr, l_ret, l_retN, l_if, l_for, l_while, l_raise, l_cont, l_brk, l_pass, l_sstuck]⟩
noncomputable def k_signed_count : Kd := ⟨4, [], fun c => (kSq (kExpr (kCall c 47 (kACons (kSlot 0) (kACons (kSlot 1) (kACons (kSlot 2) (kACons (kSlot 3) kANil)))))) (kSq (kRet (kCall c 45 (kACons (kSlot 1) (kACons (kSlot 2) (kACons (kSlot 3) kANil))))) kEnd))⟩
theorem kok_signed_count : KdOk f_signed_count k_signed_count := ⟨rfl, rfl, fun c => by simp only [f_signed_count, k_signed_count, l_slot, l_cst, l_glo, l_fn, l_stuck, l_add, l_sub, l_mul, l_fdiv, l_mod, l_pow, l_neg, l_not, l_and, l_or, l_and1, l_and2, l_or1, l_or2, l_eq, l_ne, l_lt, l_le, l_gt, l_ge, l_inn, l_nin, l_is, l_isnt, l_cmp2, l_ite, l_enil, l_econs, l_anil, l_acons, l_tup, l_lst, l_idx, l_onone, l_osome, l_sli, l_sl3, l_call, l_len, l_abs, l_int, l_str, l_dict, l_bitS, l_bitZ, l_bitR1, l_bitR2, l_bitK, l_bitV, l_bitI, l_seq, l_rng1, l_rng2, l_rng3, l_zip, l_zip3, l_enu, l_keys, l_vals, l_items, l_srtK, l_isi, l_tnone, l_tsome, l_lc, l_lc2, l_dc, l_dc2, l_dct, l_cnt, l_index, l_get, l_oidx, l_fld, l_meth, l_mk, l_cell, l_dcell, l_deq0, l_rd, l_snil, l_scons, l_asg, l_asgT, l_par, l_app, l_ext, l_popK, l_upd, l_put, l_oput, l_oapp, l_fset, l_aug, l_expr, l_ret, l_retN, l_if, l_for, l_while, l_raise, l_cont, l_brk, l_pass, l_sstuck]⟩
noncomputable def k_all_cancellable : Kd := ⟨2, [none, none, none, none], fun c => (kSq (kAsg 2 (kCall c 23 (kACons (kSlot 0) (kACons (kSlot 1) kANil)))) (kSq (kAsg 3 (kLst kNil)) (kSq (kFor (.name 4) (kSeq (kSlot 2)) (kSq (kFor (.name 5) (kSeq (kSlot 2)) (kSq (kIf (kBool (kAnd (kC eqF (kU lenD (kSlot 5)) (kB subD (kU lenD (kSlot 4)) (kOk (.d (.int 1))))) (kTru (kC eqF (kCall c 44 (kACons (kSlot 1) (kACons (kSlot 4) (kACons (kSlot 5) kANil)))) (kOk (.d (.int 1))))))) (kSq (kMod 3 appF (kTup (kCons (kSlot 4) (kCons (kSlot 5) kNil)))) kEnd) kEnd) kEnd)) kEnd)) (kSq (kRet (kU (bitF .tuple) (kSlot 3))) kEnd))))⟩
theorem kok_all_cancellable : KdOk f_all_cancellable k_all_cancellable := ⟨rfl, rfl, fun c => by simp only [f_all_cancellable, k_all_cancellable, l_slot, l_cst, l_glo, l_fn, l_stuck, l_add, l_sub, l_mul, l_fdiv, l_mod, l_pow, l_neg, l_not, l_and, l_or, l_and1, l_and2, l_or1, l_or2, l_eq, l_ne, l_lt, l_le, l_gt, l_ge, l_inn, l_nin, l_is, l_isnt, l_cmp2, l_ite, l_enil, l_econs, l_anil, l_acons, l_tup, l_lst, l_idx, l_onone, l_osome, l_sli, l_sl3, l_call, l_len, l_abs, l_int, l_str, l_dict, l_bitS, l_bitZ, l_bitR1, l_bitR2, l_bitK, l_bitV, l_bitI, l_seq, l_rng1, l_rng2, l_rng3, l_zip, l_zip3, l_enu, l_keys, l_vals, l_items, l_srtK, l_isi, l_tnone, l_tsome, l_lc, l_lc2, l_dc, l_dc2, l_dct, l_cnt, l_index, l_get, l_oidx, l_fld, l_meth, l_mk, l_cell, l_dcell, l_deq0, l_rd, l_snil, l_scons, l_asg, l_asgT, l_par, l_app, l_ext, l_popK, l_upd, l_put, l_oput, l_oapp, l_fset, l_aug, l_expr, l_ret, l_retN, l_if, l_for, l_while, l_raise, l_cont, l_brk, l_pass, l_sstuck]⟩
noncomputable def k_cancellable : Kd := ⟨2, [], fun c => (kSq (kExpr (kCall c 27 (kACons (kSlot 0) (kACons (kSlot 1) kANil)))) (kSq (kRet (kCall c 51 (kACons (kSlot 0) (kACons (kSlot 1) kANil)))) kEnd))⟩
theorem kok_cancellable : KdOk f_cancellable k_cancellable := ⟨rfl, rfl, fun c => by simp only [f_cancellable, k_cancellable, l_slot, l_cst, l_glo, l_fn, l_stuck, l_add, l_sub, l_mul, l_fdiv, l_mod, l_pow, l_neg, l_not, l_and, l_or, l_and1, l_and2, l_or1, l_or2, l_eq, l_ne, l_lt, l_le, l_gt, l_ge, l_inn, l_nin, l_is, l_isnt, l_cmp2, l_ite, l_enil, l_econs, l_anil, l_acons, l_tup, l_lst, l_idx, l_onone, l_osome, l_sli, l_sl3, l_call, l_len, l_abs, l_int, l_str, l_dict, l_bitS, l_bitZ, l_bitR1, l_bitR2, l_bitK, l_bitV, l_bitI, l_seq, l_rng1, l_rng2, l_rng3, l_zip, l_zip3, l_enu, l_keys, l_vals, l_items, l_srtK, l_isi, l_tnone, l_tsome, l_lc, l_lc2, l_dc, l_dc2, l_dct, l_cnt, l_index, l_get, l_oidx, l_fld, l_meth, l_mk, l_cell, l_dcell, l_deq0, l_rd, l_snil, l_scons, l_asg, l_asgT, l_par, l_app, l_ext, l_popK, l_upd, l_put, l_oput, l_oapp, l_fset, l_aug, l_expr, l_ret, l_retN, l_if, l_for, l_while, l_raise, l_cont, l_brk, l_pass, l_sstuck]⟩
noncomputable def k_reversed_path : Kd := ⟨2, [none, none, none], fun c => (kSq (kAsg 2 (kLz (kU (fun x => sl3D x 1 2) (kSlot 1)) (kU (fun x => sl3D x 2 2) (kSlot 1)))) (kSq (kAsg 3 (kLz (kU (fun x => sl3D x 1 2) (kSlot 1)) (kU (fun x => sl3D x 0 2) (kSlot 1)))) (kSq (kRet (kCall c 22 (kACons (kB addD (kLc [4] (.name 4) (kSeq (kSlot 0)) (kTru (kC ninO (kSlot 4) (kSlot 2))) (kSlot 4)) (kSlot 3)) kANil))) kEnd)))⟩
theorem kok_reversed_path : KdOk f_reversed_path k_reversed_path := ⟨rfl, rfl, fun c => by simp only [f_reversed_path, k_reversed_path, l_slot, l_cst, l_glo, l_fn, l_stuck, l_add, l_sub, l_mul, l_fdiv, l_mod, l_pow, l_neg, l_not, l_and, l_or, l_and1, l_and2, l_or1, l_or2, l_eq, l_ne, l_lt, l_le, l_gt, l_ge, l_inn, l_nin, l_is, l_isnt, l_cmp2, l_ite, l_enil, l_econs, l_anil, l_acons, l_tup, l_lst, l_idx, l_onone, l_osome, l_sli, l_sl3, l_call, l_len, l_abs, l_int, l_str, l_dict, l_bitS, l_bitZ, l_bitR1, l_bitR2, l_bitK, l_bitV, l_bitI, l_seq, l_rng1, l_rng2, l_rng3, l_zip, l_zip3, l_enu, l_keys, l_vals, l_items, l_srtK, l_isi, l_tnone, l_tsome, l_lc, l_lc2, l_dc, l_dc2, l_dct, l_cnt, l_index, l_get, l_oidx, l_fld, l_meth, l_mk, l_cell, l_dcell, l_deq0, l_rd, l_snil, l_scons, l_asg, l_asgT, l_par, l_app, l_ext, l_popK, l_upd, l_put, l_oput, l_oapp, l_fset, l_aug, l_expr, l_ret, l_retN, l_if, l_for, l_while, l_raise, l_cont, l_brk, l_pass, l_sstuck]⟩
noncomputable def k_cancel : Kd := ⟨4, [], fun c => (kSq (kExpr (kCall c 47 (kACons (kSlot 0) (kACons (kSlot 1) (kACons (kSlot 2) (kACons (kSlot 3) kANil)))))) (kSq (kIf (kC neO (kCall c 44 (kACons (kSlot 1) (kACons (kSlot 2) (kACons (kSlot 3) kANil)))) (kOk (.d (.int 1)))) (kSq kSStuck kEnd) kEnd) (kSq (kRet (kCall c 53 (kACons (kSlot 1) (kACons (kB idxF (kCall c 46 (kACons (kSlot 1) (kACons (kSlot 2) (kACons (kSlot 3) kANil)))) (kOk (.d (.int 0)))) kANil)))) kEnd)))⟩
theorem kok_cancel : KdOk f_cancel k_cancel := ⟨rfl, rfl, fun c => by simp only [f_cancel, k_cancel, l_slot, l_cst, l_glo, l_fn, l_stuck, l_add, l_sub, l_mul, l_fdiv, l_mod, l_pow, l_neg, l_not, l_and, l_or, l_and1, l_and2, l_or1, l_or2, l_eq, l_ne, l_lt, l_le, l_gt, l_ge, l_inn, l_nin, l_is, l_isnt, l_cmp2, l_ite, l_enil, l_econs, l_anil, l_acons, l_tup, l_lst, l_idx, l_onone, l_osome, l_sli, l_sl3, l_call, l_len, l_abs, l_int, l_str, l_dict, l_bitS, l_bitZ, l_bitR1, l_bitR2, l_bitK, l_bitV, l_bitI, l_seq, l_rng1, l_rng2, l_rng3, l_zip, l_zip3, l_enu, l_keys, l_vals, l_items, l_srtK, l_isi, l_tnone, l_tsome, l_lc, l_lc2, l_dc, l_dc2, l_dct, l_cnt, l_index, l_get, l_oidx, l_fld, l_meth, l_mk, l_cell, l_dcell, l_deq0, l_rd, l_snil, l_scons, l_asg, l_asgT, l_par, l_app, l_ext, l_popK, l_upd, l_put, l_oput, l_oapp, l_fset, l_aug, l_expr, l_ret, l_retN, l_if, l_for, l_while, l_raise, l_cont, l_brk, l_pass, l_sstuck]⟩
noncomputable def k_obstruction : Kd := ⟨4, [none], fun c => (kSq (kExpr (kCall c 47 (kACons (kSlot 0) (kACons (kSlot 1) (kACons (kSlot 2) (kACons (kSlot 3) kANil)))))) (kSq (kAsg 4 (kCall c 46 (kACons (kSlot 1) (kACons (kSlot 2) (kACons (kSlot 3) kANil))))) (kSq (kRet (kIte (kC eqF (kU lenD (kSlot 4)) (kOk (.d (.int 1)))) (kOk (.d (.none))) (kSli (kSlot 4) kONone (kOSome (kOk (.d (.int 2))))))) kEnd)))⟩
theorem kok_obstruction : KdOk f_obstruction k_obstruction := ⟨rfl, rfl, fun c => by simp only [f_obstruction, k_obstruction, l_slot, l_cst, l_glo, l_fn, l_stuck, l_add, l_sub, l_mul, l_fdiv, l_mod, l_pow, l_neg, l_not, l_and, l_or, l_and1, l_and2, l_or1, l_or2, l_eq, l_ne, l_lt, l_le, l_gt, l_ge, l_inn, l_nin, l_is, l_isnt, l_cmp2, l_ite, l_enil, l_econs, l_anil, l_acons, l_tup, l_lst, l_idx, l_onone, l_osome, l_sli, l_sl3, l_call, l_len, l_abs, l_int, l_str, l_dict, l_bitS, l_bitZ, l_bitR1, l_bitR2, l_bitK, l_bitV, l_bitI, l_seq, l_rng1, l_rng2, l_rng3, l_zip, l_zip3, l_enu, l_keys, l_vals, l_items, l_srtK, l_isi, l_tnone, l_tsome, l_lc, l_lc2, l_dc, l_dc2, l_dct, l_cnt, l_index, l_get, l_oidx, l_fld, l_meth, l_mk, l_cell, l_dcell, l_deq0, l_rd, l_snil, l_scons, l_asg, l_asgT, l_par, l_app, l_ext, l_popK, l_upd, l_put, l_oput, l_oapp, l_fset, l_aug, l_expr, l_ret, l_retN, l_if, l_for, l_while, l_raise, l_cont, l_brk, l_pass, l_sstuck]⟩
noncomputable def k_cancel_all : Kd := ⟨2, [none, none, none], fun c => (kSq (kExpr (kCall c 27 (kACons (kSlot 0) (kACons (kSlot 1) kANil)))) (kSq (kAsg 2 (kCall c 51 (kACons (kSlot 0) (kACons (kSlot 1) kANil)))) (kSq (kWhl c (kC neO (kSlot 2) (kTup kNil)) (kSq (kAsgT [3, 4] (kB idxF (kSlot 2) (kOk (.d (.int 0))))) (kSq (kAsg 1 (kCall c 53 (kACons (kSlot 1) (kACons (kB idxF (kCall c 46 (kACons (kSlot 1) (kACons (kSlot 3) (kACons (kSlot 4) kANil)))) (kOk (.d (.int 0)))) kANil)))) (kSq (kAsg 2 (kCall c 51 (kACons (kSlot 0) (kACons (kSlot 1) kANil)))) kEnd)))) (kSq (kRet (kSlot 1)) kEnd))))⟩
theorem kok_cancel_all : KdOk f_cancel_all k_cancel_all := ⟨rfl, rfl, fun c => by simp only [f_cancel_all, k_cancel_all, l_slot, l_cst, l_glo, l_fn, l_stuck, l_add, l_sub, l_mul, l_fdiv, l_mod, l_pow, l_neg, l_not, l_and, l_or, l_and1, l_and2, l_or1, l_or2, l_eq, l_ne, l_lt, l_le, l_gt, l_ge, l_inn, l_nin, l_is, l_isnt, l_cmp2, l_ite, l_enil, l_econs, l_anil, l_acons, l_tup, l_lst, l_idx, l_onone, l_osome, l_sli, l_sl3, l_call, l_len, l_abs, l_int, l_str, l_dict, l_bitS, l_bitZ, l_bitR1, l_bitR2, l_bitK, l_bitV, l_bitI, l_seq, l_rng1, l_rng2, l_rng3, l_zip, l_zip3, l_enu, l_keys, l_vals, l_items, l_srtK, l_isi, l_tnone, l_tsome, l_lc, l_lc2, l_dc, l_dc2, l_dct, l_cnt, l_index, l_get, l_oidx, l_fld, l_meth, l_mk, l_cell, l_dcell, l_deq0, l_rd, l_snil, l_scons, l_asg, l_asgT, l_par, l_app, l_ext, l_popK, l_upd, l_put, l_oput, l_oapp, l_fset, l_aug, l_expr, l_ret, l_retN, l_if, l_for, l_while, l_raise, l_cont, l_brk, l_pass, l_sstuck]⟩
noncomputable def k_matrix_between : Kd := ⟨3, [none, none, none, none], fun c => (kSq (kAsg 3 (kCall c 23 (kACons (kSlot 0) (kACons (kSlot 1) kANil)))) (kSq (kAsg 4 (kLst kNil)) (kSq (kFor (.name 5) (kSeq (kCall c 29 (kACons (kSlot 3) (kACons (kB subD (kSlot 2) (kOk (.d (.int 1)))) kANil)))) (kSq (kMod 4 appF (kU (bitF .tuple) (kLc [6] (.name 6) (kSeq (kCall c 29 (kACons (kSlot 3) (kACons (kSlot 2) kANil)))) kTNone (kCall c 45 (kACons (kSlot 1) (kACons (kSlot 6) (kACons (kSlot 5) kANil))))))) kEnd)) (kSq (kRet (kU (bitF .tuple) (kSlot 4))) kEnd))))⟩
theorem kok_matrix_between : KdOk f_matrix_between k_matrix_between := ⟨rfl, rfl, fun c => by simp only [f_matrix_between, k_matrix_between, l_slot, l_cst, l_glo, l_fn, l_stuck, l_add, l_sub, l_mul, l_fdiv, l_mod, l_pow, l_neg, l_not, l_and, l_or, l_and1, l_and2, l_or1, l_or2, l_eq, l_ne, l_lt, l_le, l_gt, l_ge, l_inn, l_nin, l_is, l_isnt, l_cmp2, l_ite, l_enil, l_econs, l_anil, l_acons, l_tup, l_lst, l_idx, l_onone, l_osome, l_sli, l_sl3, l_call, l_len, l_abs, l_int, l_str, l_dict, l_bitS, l_bitZ, l_bitR1, l_bitR2, l_bitK, l_bitV, l_bitI, l_seq, l_rng1, l_rng2, l_rng3, l_zip, l_zip3, l_enu, l_keys, l_vals, l_items, l_srtK, l_isi, l_tnone, l_tsome, l_lc, l_lc2, l_dc, l_dc2, l_dct, l_cnt, l_index, l_get, l_oidx, l_fld, l_meth, l_mk, l_cell, l_dcell, l_deq0, l_rd, l_snil, l_scons, l_asg, l_asgT, l_par, l_app, l_ext, l_popK, l_upd, l_put, l_oput, l_oapp, l_fset, l_aug, l_expr, l_ret, l_retN, l_if, l_for, l_while, l_raise, l_cont, l_brk, l_pass, l_sstuck]⟩
noncomputable def k_numbers_and_factors : Kd := ⟨2, [none, none, none], fun c => (kSq (kAsg 2 (kBit .list (kRng2 (kOk (.d (.int 1))) (kB addD (kCall c 14 (kACons (kSlot 0) kANil)) (kOk (.d (.int 1))))))) (kSq (kAsg 3 (kLc [4] (.name 4) (kSeq (kSlot 2)) kTNone (kCall c 57 (kACons (kSlot 0) (kACons (kSlot 1) (kACons (kSlot 4) kANil)))))) (kSq (kRet (kTup (kCons (kCall c 15 (kACons (kSlot 0) (kACons (kCall c 23 (kACons (kSlot 0) (kACons (kSlot 1) kANil))) kANil))) (kCons (kCall c 33 (kACons (kSlot 0) (kACons (kSlot 3) kANil))) kNil)))) kEnd)))⟩
theorem kok_numbers_and_factors : KdOk f_numbers_and_factors k_numbers_and_factors := ⟨rfl, rfl, fun c => by simp only [f_numbers_and_factors, k_numbers_and_factors, l_slot, l_cst, l_glo, l_fn, l_stuck, l_add, l_sub, l_mul, l_fdiv, l_mod, l_pow, l_neg, l_not, l_and, l_or, l_and1, l_and2, l_or1, l_or2, l_eq, l_ne, l_lt, l_le, l_gt, l_ge, l_inn, l_nin, l_is, l_isnt, l_cmp2, l_ite, l_enil, l_econs, l_anil, l_acons, l_tup, l_lst, l_idx, l_onone, l_osome, l_sli, l_sl3, l_call, l_len, l_abs, l_int, l_str, l_dict, l_bitS, l_bitZ, l_bitR1, l_bitR2, l_bitK, l_bitV, l_bitI, l_seq, l_rng1, l_rng2, l_rng3, l_zip, l_zip3, l_enu, l_keys, l_vals, l_items, l_srtK, l_isi, l_tnone, l_tsome, l_lc, l_lc2, l_dc, l_dc2, l_dct, l_cnt, l_index, l_get, l_oidx, l_fld, l_meth, l_mk, l_cell, l_dcell, l_deq0, l_rd, l_snil, l_scons, l_asg, l_asgT, l_par, l_app, l_ext, l_popK, l_upd, l_put, l_oput, l_oapp, l_fset, l_aug, l_expr, l_ret, l_retN, l_if, l_for, l_while, l_raise, l_cont, l_brk, l_pass, l_sstuck]⟩
noncomputable def k_critical_betti : Kd := ⟨2, [none, none], fun c => (kSq (kExpr (kCall c 27 (kACons (kSlot 0) (kACons (kSlot 1) kANil)))) (kSq (kAsgT [2, 3] (kCall c 58 (kACons (kSlot 0) (kACons (kSlot 1) kANil)))) (kSq (kRet (kCall c 35 (kACons (kSlot 2) (kACons (kSlot 3) kANil)))) kEnd)))⟩
theorem kok_critical_betti : KdOk f_critical_betti k_critical_betti := ⟨rfl, rfl, fun c => by simp only [f_critical_betti, k_critical_betti, l_slot, l_cst, l_glo, l_fn, l_stuck, l_add, l_sub, l_mul, l_fdiv, l_mod, l_pow, l_neg, l_not, l_and, l_or, l_and1, l_and2, l_or1, l_or2, l_eq, l_ne, l_lt, l_le, l_gt, l_ge, l_inn, l_nin, l_is, l_isnt, l_cmp2, l_ite, l_enil, l_econs, l_anil, l_acons, l_tup, l_lst, l_idx, l_onone, l_osome, l_sli, l_sl3, l_call, l_len, l_abs, l_int, l_str, l_dict, l_bitS, l_bitZ, l_bitR1, l_bitR2, l_bitK, l_bitV, l_bitI, l_seq, l_rng1, l_rng2, l_rng3, l_zip, l_zip3, l_enu, l_keys, l_vals, l_items, l_srtK, l_isi, l_tnone, l_tsome, l_lc, l_lc2, l_dc, l_dc2, l_dct, l_cnt, l_index, l_get, l_oidx, l_fld, l_meth, l_mk, l_cell, l_dcell, l_deq0, l_rd, l_snil, l_scons, l_asg, l_asgT, l_par, l_app, l_ext, l_popK, l_upd, l_put, l_oput, l_oapp, l_fset, l_aug, l_expr, l_ret, l_retN, l_if, l_for, l_while, l_raise, l_cont, l_brk, l_pass, l_sstuck]⟩
noncomputable def k__law_town : Kd := ⟨1, [], fun c => (kSq (kRet (kCell (kB addD (kLst (kCons (kOk (.d (.int 0))) kNil)) (kU (bitF .list) (kSlot 0))))) kEnd)⟩
theorem kok__law_town : KdOk f__law_town k__law_town := ⟨rfl, rfl, fun c => by simp only [f__law_town, k__law_town, l_slot, l_cst, l_glo, l_fn, l_stuck, l_add, l_sub, l_mul, l_fdiv, l_mod, l_pow, l_neg, l_not, l_and, l_or, l_and1, l_and2, l_or1, l_or2, l_eq, l_ne, l_lt, l_le, l_gt, l_ge, l_inn, l_nin, l_is, l_isnt, l_cmp2, l_ite, l_enil, l_econs, l_anil, l_acons, l_tup, l_lst, l_idx, l_onone, l_osome, l_sli, l_sl3, l_call, l_len, l_abs, l_int, l_str, l_dict, l_bitS, l_bitZ, l_bitR1, l_bitR2, l_bitK, l_bitV, l_bitI, l_seq, l_rng1, l_rng2, l_rng3, l_zip, l_zip3, l_enu, l_keys, l_vals, l_items, l_srtK, l_isi, l_tnone, l_tsome, l_lc, l_lc2, l_dc, l_dc2, l_dct, l_cnt, l_index, l_get, l_oidx, l_fld, l_meth, l_mk, l_cell, l_dcell, l_deq0, l_rd, l_snil, l_scons, l_asg, l_asgT, l_par, l_app, l_ext, l_popK, l_upd, l_put, l_oput, l_oapp, l_fset, l_aug, l_expr, l_ret, l_retN, l_if, l_for, l_while, l_raise, l_cont, l_brk, l_pass, l_sstuck]⟩
noncomputable def k__law_draw : Kd := ⟨3, [none, none, none], fun c => (kSq (kOput (kSlot 1) (kOk (.d (.int 0))) (kB addD (kOidx (kSlot 1) (kOk (.d (.int 0)))) (kOk (.d (.int 1))))) (kSq (kIf (kC eqF (kSlot 0) (kLst kNil)) (kSq (kRet (kB (binD .mod) (kB (binD .fdiv) (kB (binD .mul) (kB (binD .mul) (kOidx (kSlot 1) (kOk (.d (.int 0)))) (kOidx (kSlot 1) (kOk (.d (.int 0))))) (kOk (.d (.int 7)))) (kOk (.d (.int 3)))) (kSlot 2))) kEnd) kEnd) (kSq (kAsg 3 (kB (binD .mod) (kOidx (kSlot 1) (kOk (.d (.int 0)))) (kU lenD (kSlot 0)))) (kSq (kAsg 4 (kOidx (kSlot 1) (kB addD (kOk (.d (.int 1))) (kSlot 3)))) (kSq (kIf (kBool (kAnd (kC geO (kB idxF (kSlot 0) (kSlot 3)) (kB (binD .pow) (kOk (.d (.int 10))) (kOk (.d (.int 18))))) (kTru (kC gtO (kSlot 4) (kOk (.d (.int 0))))))) (kSq (kOput (kSlot 1) (kB addD (kOk (.d (.int 1))) (kSlot 3)) (kB (binD .fdiv) (kSlot 4) (kSlot 2))) (kSq (kRet (kB (binD .mod) (kSlot 4) (kSlot 2))) kEnd)) kEnd) (kSq (kAsg 5 (kB (binD .mod) (kB addD (kB idxF (kSlot 0) (kSlot 3)) (kB (binD .mul) (kOk (.d (.int 104729))) (kOidx (kSlot 1) (kOk (.d (.int 0)))))) (kOk (.d (.int 4294967291))))) (kSq (kAsg 5 (kB (binD .mod) (kB (binD .pow) (kSlot 5) (kOk (.d (.int 5)))) (kOk (.d (.int 4294967279))))) (kSq (kRet (kB (binD .mod) (kB (binD .fdiv) (kB (binD .mod) (kB addD (kB (binD .mul) (kB (binD .fdiv) (kSlot 5) (kOk (.d (.int 64)))) (kOk (.d (.int 69621)))) (kSlot 5)) (kOk (.d (.int 4294967231)))) (kOk (.d (.int 8)))) (kSlot 2))) kEnd))))))))⟩
theorem kok__law_draw : KdOk f__law_draw k__law_draw := ⟨rfl, rfl, fun c => by simp only [f__law_draw, k__law_draw, l_slot, l_cst, l_glo, l_fn, l_stuck, l_add, l_sub, l_mul, l_fdiv, l_mod, l_pow, l_neg, l_not, l_and, l_or, l_and1, l_and2, l_or1, l_or2, l_eq, l_ne, l_lt, l_le, l_gt, l_ge, l_inn, l_nin, l_is, l_isnt, l_cmp2, l_ite, l_enil, l_econs, l_anil, l_acons, l_tup, l_lst, l_idx, l_onone, l_osome, l_sli, l_sl3, l_call, l_len, l_abs, l_int, l_str, l_dict, l_bitS, l_bitZ, l_bitR1, l_bitR2, l_bitK, l_bitV, l_bitI, l_seq, l_rng1, l_rng2, l_rng3, l_zip, l_zip3, l_enu, l_keys, l_vals, l_items, l_srtK, l_isi, l_tnone, l_tsome, l_lc, l_lc2, l_dc, l_dc2, l_dct, l_cnt, l_index, l_get, l_oidx, l_fld, l_meth, l_mk, l_cell, l_dcell, l_deq0, l_rd, l_snil, l_scons, l_asg, l_asgT, l_par, l_app, l_ext, l_popK, l_upd, l_put, l_oput, l_oapp, l_fset, l_aug, l_expr, l_ret, l_retN, l_if, l_for, l_while, l_raise, l_cont, l_brk, l_pass, l_sstuck]⟩
noncomputable def k_law : Kd := ⟨1, [none, none, none, none, none, none, none, none, none, none, none, none, none, none, none, none], fun c => (kSq (kAsg 1 (kCall c 60 (kACons (kSlot 0) kANil))) (kSq (kAsg 2 (kB addD (kOk (.d (.int 3))) (kCall c 61 (kACons (kSlot 0) (kACons (kSlot 1) (kACons (kOk (.d (.int 6))) kANil)))))) (kSq (kAsg 3 (kLc [15] (.name 15) (kRng1 (kB subD (kSlot 2) (kOk (.d (.int 1))))) kTNone (kTup (kCons (kSlot 15) (kCons (kB addD (kSlot 15) (kOk (.d (.int 1)))) kNil))))) (kSq (kAsg 4 (kU (bitF .tuple) (kU (bitF .sorted) (kB addD (kSlot 3) (kLst (kCons (kTup (kCons (kOk (.d (.int 0))) (kCons (kB subD (kSlot 2) (kOk (.d (.int 1)))) kNil))) kNil)))))) (kSq (kAsg 5 (kCall c 61 (kACons (kSlot 0) (kACons (kSlot 1) (kACons (kB subD (kSlot 2) (kOk (.d (.int 1)))) kANil))))) (kSq (kAsg 6 (kB addD (kLc [15] (.name 15) (kRng1 (kSlot 5)) kTNone (kTup (kCons (kTup (kCons (kSlot 15) kNil)) (kCons (kTup (kCons (kSlot 15) (kCons (kB addD (kSlot 15) (kOk (.d (.int 1)))) kNil))) kNil)))) (kLc [15] (.name 15) (kRng2 (kSlot 5) (kB subD (kSlot 2) (kOk (.d (.int 1))))) kTNone (kTup (kCons (kTup (kCons (kB addD (kSlot 15) (kOk (.d (.int 1)))) kNil)) (kCons (kTup (kCons (kSlot 15) (kCons (kB addD (kSlot 15) (kOk (.d (.int 1)))) kNil))) kNil)))))) (kSq (kAsg 7 (kU (bitF .tuple) (kU (bitF .sorted) (kSlot 6)))) (kSq (kIf (kC neO (kCall c 24 (kACons (kSlot 4) (kACons (kSlot 7) kANil))) (kTup (kCons (kTup (kCons (kSlot 5) kNil)) (kCons (kTup (kCons (kOk (.d (.int 0))) (kCons (kB subD (kSlot 2) (kOk (.d (.int 1)))) kNil))) kNil)))) (kSq (kRet (kOk (.d (.bool false)))) kEnd) kEnd) (kSq (kAsg 8 (kCall c 49 (kACons (kSlot 4) (kACons (kSlot 7) (kACons (kTup (kCons (kOk (.d (.int 0))) (kCons (kB subD (kSlot 2) (kOk (.d (.int 1)))) kNil))) (kACons (kTup (kCons (kSlot 5) kNil)) kANil)))))) (kSq (kIf (kBool (kOr (kC neO (kU lenD (kSlot 8)) (kOk (.d (.int 2)))) (kTru (kC neO (kSlot 8) (kCall c 55 (kACons (kSlot 4) (kACons (kSlot 7) (kACons (kTup (kCons (kOk (.d (.int 0))) (kCons (kB subD (kSlot 2) (kOk (.d (.int 1)))) kNil))) (kACons (kTup (kCons (kSlot 5) kNil)) kANil))))))))) (kSq (kRet (kOk (.d (.bool false)))) kEnd) kEnd) (kSq (kIf (kBool (kOr (kC neO (kCall c 50 (kACons (kSlot 4) (kACons (kSlot 7) (kACons (kTup (kCons (kOk (.d (.int 0))) (kCons (kB subD (kSlot 2) (kOk (.d (.int 1)))) kNil))) (kACons (kTup (kCons (kSlot 5) kNil)) kANil))))) (kOk (.d (.int 0)))) (kTru (kC neO (kCall c 52 (kACons (kSlot 4) (kACons (kSlot 7) kANil))) (kTup kNil))))) (kSq (kRet (kOk (.d (.bool false)))) kEnd) kEnd) (kSq (kIf (kC neO (kLc [16] (.name 16) (kSeq (kSlot 8)) kTNone (kU lenD (kSlot 16))) (kLst (kCons (kB addD (kOk (.d (.int 2))) (kB (binD .mul) (kOk (.d (.int 2))) (kSlot 5))) (kCons (kB addD (kOk (.d (.int 2))) (kB (binD .mul) (kOk (.d (.int 2))) (kB subD (kB subD (kSlot 2) (kOk (.d (.int 1)))) (kSlot 5)))) kNil)))) (kSq (kRet (kOk (.d (.bool false)))) kEnd) kEnd) (kSq (kAsg 9 (kU (bitF .tuple) (kSlot 3))) (kSq (kAsg 10 (kCall c 61 (kACons (kSlot 0) (kACons (kSlot 1) (kACons (kB subD (kSlot 2) (kOk (.d (.int 1)))) kANil))))) (kSq (kAsg 11 (kU (bitF .tuple) (kLc [15] (.name 15) (kRng1 (kB subD (kSlot 2) (kOk (.d (.int 1))))) (kTru (kC neO (kSlot 15) (kSlot 10))) (kTup (kCons (kTup (kCons (kSlot 15) kNil)) (kCons (kTup (kCons (kSlot 15) (kCons (kB addD (kSlot 15) (kOk (.d (.int 1)))) kNil))) kNil)))))) (kSq (kIf (kC neO (kCall c 24 (kACons (kSlot 9) (kACons (kSlot 11) kANil))) (kTup (kCons (kTup (kCons (kSlot 10) kNil)) (kCons (kTup (kCons (kB subD (kSlot 2) (kOk (.d (.int 1)))) kNil)) (kCons (kTup (kCons (kSlot 10) (kCons (kB addD (kSlot 10) (kOk (.d (.int 1)))) kNil))) kNil))))) (kSq (kRet (kOk (.d (.bool false)))) kEnd) kEnd) (kSq (kAsg 12 (kTup (kCons (kSlot 10) (kCons (kB addD (kSlot 10) (kOk (.d (.int 1)))) kNil)))) (kSq (kIf (kC neO (kCall c 52 (kACons (kSlot 9) (kACons (kSlot 11) kANil))) (kTup (kCons (kTup (kCons (kSlot 12) (kCons (kTup (kCons (kSlot 10) kNil)) kNil))) (kCons (kTup (kCons (kSlot 12) (kCons (kTup (kCons (kB subD (kSlot 2) (kOk (.d (.int 1)))) kNil)) kNil))) kNil)))) (kSq (kRet (kOk (.d (.bool false)))) kEnd) kEnd) (kSq (kIf (kC neO (kCall c 54 (kACons (kSlot 9) (kACons (kSlot 11) (kACons (kSlot 12) (kACons (kTup (kCons (kSlot 10) kNil)) kANil))))) (kU (bitF .tuple) (kLc [15] (.name 15) (kRng1 (kB subD (kSlot 2) (kOk (.d (.int 1))))) kTNone (kTup (kCons (kTup (kCons (kSlot 15) kNil)) (kCons (kTup (kCons (kSlot 15) (kCons (kB addD (kSlot 15) (kOk (.d (.int 1)))) kNil))) kNil)))))) (kSq (kRet (kOk (.d (.bool false)))) kEnd) kEnd) (kSq (kIf (kBool (kOr (kC neO (kCall c 50 (kACons (kSlot 9) (kACons (kSlot 11) (kACons (kSlot 12) (kACons (kTup (kCons (kSlot 10) kNil)) kANil))))) (kNeg (kOk (.d (.int 1))))) (kTru (kC neO (kCall c 50 (kACons (kSlot 9) (kACons (kSlot 11) (kACons (kSlot 12) (kACons (kTup (kCons (kB subD (kSlot 2) (kOk (.d (.int 1)))) kNil)) kANil))))) (kOk (.d (.int 1))))))) (kSq (kRet (kOk (.d (.bool false)))) kEnd) kEnd) (kSq (kAsg 13 (kU (bitF .tuple) (kLc [15] (.name 15) (kRng2 (kOk (.d (.int 1))) (kB subD (kSlot 2) (kOk (.d (.int 1))))) kTNone (kTup (kCons (kOk (.d (.int 0))) (kCons (kSlot 15) (kCons (kB addD (kSlot 15) (kOk (.d (.int 1)))) kNil))))))) (kSq (kAsg 14 (kCall c 56 (kACons (kSlot 13) (kACons (kTup kNil) kANil)))) (kSq (kRet (kBool (kAnd (kC eqF (kU lenD (kCall c 24 (kACons (kSlot 13) (kACons (kSlot 14) kANil)))) (kOk (.d (.int 1)))) (kTru (kC eqF (kCall c 59 (kACons (kSlot 13) (kACons (kSlot 14) kANil))) (kTup (kCons (kOk (.d (.int 1))) (kCons (kOk (.d (.int 0))) (kCons (kOk (.d (.int 0))) kNil))))))))) kEnd)))))))))))))))))))))))⟩
theorem kok_law : KdOk f_law k_law := ⟨rfl, rfl, fun c => by simp only [f_law, k_law, l_slot, l_cst, l_glo, l_fn, l_stuck, l_add, l_sub, l_mul, l_fdiv, l_mod, l_pow, l_neg, l_not, l_and, l_or, l_and1, l_and2, l_or1, l_or2, l_eq, l_ne, l_lt, l_le, l_gt, l_ge, l_inn, l_nin, l_is, l_isnt, l_cmp2, l_ite, l_enil, l_econs, l_anil, l_acons, l_tup, l_lst, l_idx, l_onone, l_osome, l_sli, l_sl3, l_call, l_len, l_abs, l_int, l_str, l_dict, l_bitS, l_bitZ, l_bitR1, l_bitR2, l_bitK, l_bitV, l_bitI, l_seq, l_rng1, l_rng2, l_rng3, l_zip, l_zip3, l_enu, l_keys, l_vals, l_items, l_srtK, l_isi, l_tnone, l_tsome, l_lc, l_lc2, l_dc, l_dc2, l_dct, l_cnt, l_index, l_get, l_oidx, l_fld, l_meth, l_mk, l_cell, l_dcell, l_deq0, l_rd, l_snil, l_scons, l_asg, l_asgT, l_par, l_app, l_ext, l_popK, l_upd, l_put, l_oput, l_oapp, l_fset, l_aug, l_expr, l_ret, l_retN, l_if, l_for, l_while, l_raise, l_cont, l_brk, l_pass, l_sstuck]⟩
noncomputable def kt55 : List (Nat × Kd) := []
noncomputable def kt54 : List (Nat × Kd) := (62, k_law) :: kt55
noncomputable def kt53 : List (Nat × Kd) := (61, k__law_draw) :: kt54
noncomputable def kt52 : List (Nat × Kd) := (60, k__law_town) :: kt53
noncomputable def kt51 : List (Nat × Kd) := (59, k_critical_betti) :: kt52
noncomputable def kt50 : List (Nat × Kd) := (58, k_numbers_and_factors) :: kt51
noncomputable def kt49 : List (Nat × Kd) := (57, k_matrix_between) :: kt50
noncomputable def kt48 : List (Nat × Kd) := (56, k_cancel_all) :: kt49
noncomputable def kt47 : List (Nat × Kd) := (55, k_obstruction) :: kt48
noncomputable def kt46 : List (Nat × Kd) := (54, k_cancel) :: kt47
noncomputable def kt45 : List (Nat × Kd) := (53, k_reversed_path) :: kt46
noncomputable def kt44 : List (Nat × Kd) := (52, k_cancellable) :: kt45
noncomputable def kt43 : List (Nat × Kd) := (51, k_all_cancellable) :: kt44
noncomputable def kt42 : List (Nat × Kd) := (50, k_signed_count) :: kt43
noncomputable def kt41 : List (Nat × Kd) := (49, k_gradient_paths) :: kt42
noncomputable def kt40 : List (Nat × Kd) := (47, k_check_ends) :: kt41
noncomputable def kt39 : List (Nat × Kd) := (46, k_paths_between) :: kt40
noncomputable def kt38 : List (Nat × Kd) := (45, k_sum_between) :: kt39
noncomputable def kt37 : List (Nat × Kd) := (44, k_count_between) :: kt38
noncomputable def kt36 : List (Nat × Kd) := (43, k_Paths_rows) :: kt37
noncomputable def kt35 : List (Nat × Kd) := (42, k_Paths_numbers) :: kt36
noncomputable def kt34 : List (Nat × Kd) := (40, k_Paths_after) :: kt35
noncomputable def kt33 : List (Nat × Kd) := (39, k_Paths___init__) :: kt34
noncomputable def kt32 : List (Nat × Kd) := (35, k_betti_by) :: kt33
noncomputable def kt31 : List (Nat × Kd) := (34, k_betti_from) :: kt32
noncomputable def kt30 : List (Nat × Kd) := (33, k_all_invariants) :: kt31
noncomputable def kt29 : List (Nat × Kd) := (32, k_invariants) :: kt30
noncomputable def kt28 : List (Nat × Kd) := (31, k_reduced) :: kt29
noncomputable def kt27 : List (Nat × Kd) := (30, k_smallest) :: kt28
noncomputable def kt26 : List (Nat × Kd) := (29, k_of_dimension) :: kt27
noncomputable def kt25 : List (Nat × Kd) := (28, k_sign_of) :: kt26
noncomputable def kt24 : List (Nat × Kd) := (27, k_check_acyclic) :: kt25
noncomputable def kt23 : List (Nat × Kd) := (26, k_found_path) :: kt24
noncomputable def kt22 : List (Nat × Kd) := (25, k_steps_from) :: kt23
noncomputable def kt21 : List (Nat × Kd) := (24, k_critical) :: kt22
noncomputable def kt20 : List (Nat × Kd) := (23, k_critical_of) :: kt21
noncomputable def kt19 : List (Nat × Kd) := (22, k_sorted_pairs) :: kt20
noncomputable def kt18 : List (Nat × Kd) := (21, k_check_matching) :: kt19
noncomputable def kt17 : List (Nat × Kd) := (20, k_is_good_matching) :: kt18
noncomputable def kt16 : List (Nat × Kd) := (19, k_are_pairs) :: kt17
noncomputable def kt15 : List (Nat × Kd) := (18, k_pair_key) :: kt16
noncomputable def kt14 : List (Nat × Kd) := (17, k_is_pair) :: kt15
noncomputable def kt13 : List (Nat × Kd) := (16, k_faces_of) :: kt14
noncomputable def kt12 : List (Nat × Kd) := (15, k_counts_of) :: kt13
noncomputable def kt11 : List (Nat × Kd) := (14, k_dimension_of) :: kt12
noncomputable def kt10 : List (Nat × Kd) := (13, k_check_complex) :: kt11
noncomputable def kt9 : List (Nat × Kd) := (12, k_is_good) :: kt10
noncomputable def kt8 : List (Nat × Kd) := (10, k_maximal) :: kt9
noncomputable def kt7 : List (Nat × Kd) := (9, k_does_contain) :: kt8
noncomputable def kt6 : List (Nat × Kd) := (8, k_closure) :: kt7
noncomputable def kt5 : List (Nat × Kd) := (7, k_subsets) :: kt6
noncomputable def kt4 : List (Nat × Kd) := (6, k_simplex_key) :: kt5
noncomputable def kt3 : List (Nat × Kd) := (5, k_is_simplex) :: kt4
noncomputable def kt2 : List (Nat × Kd) := (4, k_is_ascending) :: kt3
noncomputable def kt1 : List (Nat × Kd) := (3, k_is_vertex) :: kt2
noncomputable def kt0 : List (Nat × Kd) := (2, k_is_integer) :: kt1
noncomputable def ktab (f : Nat) : Option Kd := kt0.lookup f
theorem ka55 : Ali (tbOf (es.drop 55)) kt55 := trivial
theorem ka54 : Ali (tbOf (es.drop 54)) kt54 := ⟨rfl, kok_law, ka55⟩
theorem ka53 : Ali (tbOf (es.drop 53)) kt53 := ⟨rfl, kok__law_draw, ka54⟩
theorem ka52 : Ali (tbOf (es.drop 52)) kt52 := ⟨rfl, kok__law_town, ka53⟩
theorem ka51 : Ali (tbOf (es.drop 51)) kt51 := ⟨rfl, kok_critical_betti, ka52⟩
theorem ka50 : Ali (tbOf (es.drop 50)) kt50 := ⟨rfl, kok_numbers_and_factors, ka51⟩
theorem ka49 : Ali (tbOf (es.drop 49)) kt49 := ⟨rfl, kok_matrix_between, ka50⟩
theorem ka48 : Ali (tbOf (es.drop 48)) kt48 := ⟨rfl, kok_cancel_all, ka49⟩
theorem ka47 : Ali (tbOf (es.drop 47)) kt47 := ⟨rfl, kok_obstruction, ka48⟩
theorem ka46 : Ali (tbOf (es.drop 46)) kt46 := ⟨rfl, kok_cancel, ka47⟩
theorem ka45 : Ali (tbOf (es.drop 45)) kt45 := ⟨rfl, kok_reversed_path, ka46⟩
theorem ka44 : Ali (tbOf (es.drop 44)) kt44 := ⟨rfl, kok_cancellable, ka45⟩
theorem ka43 : Ali (tbOf (es.drop 43)) kt43 := ⟨rfl, kok_all_cancellable, ka44⟩
theorem ka42 : Ali (tbOf (es.drop 42)) kt42 := ⟨rfl, kok_signed_count, ka43⟩
theorem ka41 : Ali (tbOf (es.drop 41)) kt41 := ⟨rfl, kok_gradient_paths, ka42⟩
theorem ka40 : Ali (tbOf (es.drop 40)) kt40 := ⟨rfl, kok_check_ends, ka41⟩
theorem ka39 : Ali (tbOf (es.drop 39)) kt39 := ⟨rfl, kok_paths_between, ka40⟩
theorem ka38 : Ali (tbOf (es.drop 38)) kt38 := ⟨rfl, kok_sum_between, ka39⟩
theorem ka37 : Ali (tbOf (es.drop 37)) kt37 := ⟨rfl, kok_count_between, ka38⟩
theorem ka36 : Ali (tbOf (es.drop 36)) kt36 := ⟨rfl, kok_Paths_rows, ka37⟩
theorem ka35 : Ali (tbOf (es.drop 35)) kt35 := ⟨rfl, kok_Paths_numbers, ka36⟩
theorem ka34 : Ali (tbOf (es.drop 34)) kt34 := ⟨rfl, kok_Paths_after, ka35⟩
theorem ka33 : Ali (tbOf (es.drop 33)) kt33 := ⟨rfl, kok_Paths___init__, ka34⟩
theorem ka32 : Ali (tbOf (es.drop 32)) kt32 := ⟨rfl, kok_betti_by, ka33⟩
theorem ka31 : Ali (tbOf (es.drop 31)) kt31 := ⟨rfl, kok_betti_from, ka32⟩
theorem ka30 : Ali (tbOf (es.drop 30)) kt30 := ⟨rfl, kok_all_invariants, ka31⟩
theorem ka29 : Ali (tbOf (es.drop 29)) kt29 := ⟨rfl, kok_invariants, ka30⟩
theorem ka28 : Ali (tbOf (es.drop 28)) kt28 := ⟨rfl, kok_reduced, ka29⟩
theorem ka27 : Ali (tbOf (es.drop 27)) kt27 := ⟨rfl, kok_smallest, ka28⟩
theorem ka26 : Ali (tbOf (es.drop 26)) kt26 := ⟨rfl, kok_of_dimension, ka27⟩
theorem ka25 : Ali (tbOf (es.drop 25)) kt25 := ⟨rfl, kok_sign_of, ka26⟩
theorem ka24 : Ali (tbOf (es.drop 24)) kt24 := ⟨rfl, kok_check_acyclic, ka25⟩
theorem ka23 : Ali (tbOf (es.drop 23)) kt23 := ⟨rfl, kok_found_path, ka24⟩
theorem ka22 : Ali (tbOf (es.drop 22)) kt22 := ⟨rfl, kok_steps_from, ka23⟩
theorem ka21 : Ali (tbOf (es.drop 21)) kt21 := ⟨rfl, kok_critical, ka22⟩
theorem ka20 : Ali (tbOf (es.drop 20)) kt20 := ⟨rfl, kok_critical_of, ka21⟩
theorem ka19 : Ali (tbOf (es.drop 19)) kt19 := ⟨rfl, kok_sorted_pairs, ka20⟩
theorem ka18 : Ali (tbOf (es.drop 18)) kt18 := ⟨rfl, kok_check_matching, ka19⟩
theorem ka17 : Ali (tbOf (es.drop 17)) kt17 := ⟨rfl, kok_is_good_matching, ka18⟩
theorem ka16 : Ali (tbOf (es.drop 16)) kt16 := ⟨rfl, kok_are_pairs, ka17⟩
theorem ka15 : Ali (tbOf (es.drop 15)) kt15 := ⟨rfl, kok_pair_key, ka16⟩
theorem ka14 : Ali (tbOf (es.drop 14)) kt14 := ⟨rfl, kok_is_pair, ka15⟩
theorem ka13 : Ali (tbOf (es.drop 13)) kt13 := ⟨rfl, kok_faces_of, ka14⟩
theorem ka12 : Ali (tbOf (es.drop 12)) kt12 := ⟨rfl, kok_counts_of, ka13⟩
theorem ka11 : Ali (tbOf (es.drop 11)) kt11 := ⟨rfl, kok_dimension_of, ka12⟩
theorem ka10 : Ali (tbOf (es.drop 10)) kt10 := ⟨rfl, kok_check_complex, ka11⟩
theorem ka9 : Ali (tbOf (es.drop 9)) kt9 := ⟨rfl, kok_is_good, ka10⟩
theorem ka8 : Ali (tbOf (es.drop 8)) kt8 := ⟨rfl, kok_maximal, ka9⟩
theorem ka7 : Ali (tbOf (es.drop 7)) kt7 := ⟨rfl, kok_does_contain, ka8⟩
theorem ka6 : Ali (tbOf (es.drop 6)) kt6 := ⟨rfl, kok_closure, ka7⟩
theorem ka5 : Ali (tbOf (es.drop 5)) kt5 := ⟨rfl, kok_subsets, ka6⟩
theorem ka4 : Ali (tbOf (es.drop 4)) kt4 := ⟨rfl, kok_simplex_key, ka5⟩
theorem ka3 : Ali (tbOf (es.drop 3)) kt3 := ⟨rfl, kok_is_simplex, ka4⟩
theorem ka2 : Ali (tbOf (es.drop 2)) kt2 := ⟨rfl, kok_is_ascending, ka3⟩
theorem ka1 : Ali (tbOf (es.drop 1)) kt1 := ⟨rfl, kok_is_vertex, ka2⟩
theorem ka0 : Ali (tbOf (es.drop 0)) kt0 := ⟨rfl, kok_is_integer, ka1⟩
theorem kcall (F n : Nat) : callN (tbOf es) F n = callK ktab F n := callK_eq F (ali_ok (tbOf es) kt0 ka0) n
end Lk32

set_option Elab.async false
set_option linter.all false
set_option maxRecDepth 100000
set_option maxHeartbeats 0
namespace Lk32
open PySem PySem.Spec L2 Mx
noncomputable def cK : Cfg := ⟨callK ktab 100 39, 100⟩
noncomputable def st0 (c : Cfg) : KS := (kAsg 1 (kCall c 60 (kACons (kSlot 0) kANil)))
noncomputable def st1 (c : Cfg) : KS := (kAsg 2 (kB addD (kOk (.d (.int 3))) (kCall c 61 (kACons (kSlot 0) (kACons (kSlot 1) (kACons (kOk (.d (.int 6))) kANil))))))
noncomputable def st2 (c : Cfg) : KS := (kAsg 3 (kLc [15] (.name 15) (kRng1 (kB subD (kSlot 2) (kOk (.d (.int 1))))) kTNone (kTup (kCons (kSlot 15) (kCons (kB addD (kSlot 15) (kOk (.d (.int 1)))) kNil)))))
noncomputable def st3 (c : Cfg) : KS := (kAsg 4 (kU (bitF .tuple) (kU (bitF .sorted) (kB addD (kSlot 3) (kLst (kCons (kTup (kCons (kOk (.d (.int 0))) (kCons (kB subD (kSlot 2) (kOk (.d (.int 1)))) kNil))) kNil))))))
noncomputable def st4 (c : Cfg) : KS := (kAsg 5 (kCall c 61 (kACons (kSlot 0) (kACons (kSlot 1) (kACons (kB subD (kSlot 2) (kOk (.d (.int 1)))) kANil)))))
noncomputable def st5 (c : Cfg) : KS := (kAsg 6 (kB addD (kLc [15] (.name 15) (kRng1 (kSlot 5)) kTNone (kTup (kCons (kTup (kCons (kSlot 15) kNil)) (kCons (kTup (kCons (kSlot 15) (kCons (kB addD (kSlot 15) (kOk (.d (.int 1)))) kNil))) kNil)))) (kLc [15] (.name 15) (kRng2 (kSlot 5) (kB subD (kSlot 2) (kOk (.d (.int 1))))) kTNone (kTup (kCons (kTup (kCons (kB addD (kSlot 15) (kOk (.d (.int 1)))) kNil)) (kCons (kTup (kCons (kSlot 15) (kCons (kB addD (kSlot 15) (kOk (.d (.int 1)))) kNil))) kNil))))))
noncomputable def st6 (c : Cfg) : KS := (kAsg 7 (kU (bitF .tuple) (kU (bitF .sorted) (kSlot 6))))
noncomputable def st7 (c : Cfg) : KS := (kIf (kC neO (kCall c 24 (kACons (kSlot 4) (kACons (kSlot 7) kANil))) (kTup (kCons (kTup (kCons (kSlot 5) kNil)) (kCons (kTup (kCons (kOk (.d (.int 0))) (kCons (kB subD (kSlot 2) (kOk (.d (.int 1)))) kNil))) kNil)))) (kSq (kRet (kOk (.d (.bool false)))) kEnd) kEnd)
noncomputable def st8 (c : Cfg) : KS := (kAsg 8 (kCall c 49 (kACons (kSlot 4) (kACons (kSlot 7) (kACons (kTup (kCons (kOk (.d (.int 0))) (kCons (kB subD (kSlot 2) (kOk (.d (.int 1)))) kNil))) (kACons (kTup (kCons (kSlot 5) kNil)) kANil))))))
noncomputable def st9 (c : Cfg) : KS := (kIf (kBool (kOr (kC neO (kU lenD (kSlot 8)) (kOk (.d (.int 2)))) (kTru (kC neO (kSlot 8) (kCall c 55 (kACons (kSlot 4) (kACons (kSlot 7) (kACons (kTup (kCons (kOk (.d (.int 0))) (kCons (kB subD (kSlot 2) (kOk (.d (.int 1)))) kNil))) (kACons (kTup (kCons (kSlot 5) kNil)) kANil))))))))) (kSq (kRet (kOk (.d (.bool false)))) kEnd) kEnd)
noncomputable def st10 (c : Cfg) : KS := (kIf (kBool (kOr (kC neO (kCall c 50 (kACons (kSlot 4) (kACons (kSlot 7) (kACons (kTup (kCons (kOk (.d (.int 0))) (kCons (kB subD (kSlot 2) (kOk (.d (.int 1)))) kNil))) (kACons (kTup (kCons (kSlot 5) kNil)) kANil))))) (kOk (.d (.int 0)))) (kTru (kC neO (kCall c 52 (kACons (kSlot 4) (kACons (kSlot 7) kANil))) (kTup kNil))))) (kSq (kRet (kOk (.d (.bool false)))) kEnd) kEnd)
noncomputable def st11 (c : Cfg) : KS := (kIf (kC neO (kLc [16] (.name 16) (kSeq (kSlot 8)) kTNone (kU lenD (kSlot 16))) (kLst (kCons (kB addD (kOk (.d (.int 2))) (kB (binD .mul) (kOk (.d (.int 2))) (kSlot 5))) (kCons (kB addD (kOk (.d (.int 2))) (kB (binD .mul) (kOk (.d (.int 2))) (kB subD (kB subD (kSlot 2) (kOk (.d (.int 1)))) (kSlot 5)))) kNil)))) (kSq (kRet (kOk (.d (.bool false)))) kEnd) kEnd)
noncomputable def st12 (c : Cfg) : KS := (kAsg 9 (kU (bitF .tuple) (kSlot 3)))
noncomputable def st13 (c : Cfg) : KS := (kAsg 10 (kCall c 61 (kACons (kSlot 0) (kACons (kSlot 1) (kACons (kB subD (kSlot 2) (kOk (.d (.int 1)))) kANil)))))
noncomputable def st14 (c : Cfg) : KS := (kAsg 11 (kU (bitF .tuple) (kLc [15] (.name 15) (kRng1 (kB subD (kSlot 2) (kOk (.d (.int 1))))) (kTru (kC neO (kSlot 15) (kSlot 10))) (kTup (kCons (kTup (kCons (kSlot 15) kNil)) (kCons (kTup (kCons (kSlot 15) (kCons (kB addD (kSlot 15) (kOk (.d (.int 1)))) kNil))) kNil))))))
noncomputable def st15 (c : Cfg) : KS := (kIf (kC neO (kCall c 24 (kACons (kSlot 9) (kACons (kSlot 11) kANil))) (kTup (kCons (kTup (kCons (kSlot 10) kNil)) (kCons (kTup (kCons (kB subD (kSlot 2) (kOk (.d (.int 1)))) kNil)) (kCons (kTup (kCons (kSlot 10) (kCons (kB addD (kSlot 10) (kOk (.d (.int 1)))) kNil))) kNil))))) (kSq (kRet (kOk (.d (.bool false)))) kEnd) kEnd)
noncomputable def st16 (c : Cfg) : KS := (kAsg 12 (kTup (kCons (kSlot 10) (kCons (kB addD (kSlot 10) (kOk (.d (.int 1)))) kNil))))
noncomputable def st17 (c : Cfg) : KS := (kIf (kC neO (kCall c 52 (kACons (kSlot 9) (kACons (kSlot 11) kANil))) (kTup (kCons (kTup (kCons (kSlot 12) (kCons (kTup (kCons (kSlot 10) kNil)) kNil))) (kCons (kTup (kCons (kSlot 12) (kCons (kTup (kCons (kB subD (kSlot 2) (kOk (.d (.int 1)))) kNil)) kNil))) kNil)))) (kSq (kRet (kOk (.d (.bool false)))) kEnd) kEnd)
noncomputable def st18 (c : Cfg) : KS := (kIf (kC neO (kCall c 54 (kACons (kSlot 9) (kACons (kSlot 11) (kACons (kSlot 12) (kACons (kTup (kCons (kSlot 10) kNil)) kANil))))) (kU (bitF .tuple) (kLc [15] (.name 15) (kRng1 (kB subD (kSlot 2) (kOk (.d (.int 1))))) kTNone (kTup (kCons (kTup (kCons (kSlot 15) kNil)) (kCons (kTup (kCons (kSlot 15) (kCons (kB addD (kSlot 15) (kOk (.d (.int 1)))) kNil))) kNil)))))) (kSq (kRet (kOk (.d (.bool false)))) kEnd) kEnd)
noncomputable def st19 (c : Cfg) : KS := (kIf (kBool (kOr (kC neO (kCall c 50 (kACons (kSlot 9) (kACons (kSlot 11) (kACons (kSlot 12) (kACons (kTup (kCons (kSlot 10) kNil)) kANil))))) (kNeg (kOk (.d (.int 1))))) (kTru (kC neO (kCall c 50 (kACons (kSlot 9) (kACons (kSlot 11) (kACons (kSlot 12) (kACons (kTup (kCons (kB subD (kSlot 2) (kOk (.d (.int 1)))) kNil)) kANil))))) (kOk (.d (.int 1))))))) (kSq (kRet (kOk (.d (.bool false)))) kEnd) kEnd)
noncomputable def st20 (c : Cfg) : KS := (kAsg 13 (kU (bitF .tuple) (kLc [15] (.name 15) (kRng2 (kOk (.d (.int 1))) (kB subD (kSlot 2) (kOk (.d (.int 1))))) kTNone (kTup (kCons (kOk (.d (.int 0))) (kCons (kSlot 15) (kCons (kB addD (kSlot 15) (kOk (.d (.int 1)))) kNil)))))))
noncomputable def st21 (c : Cfg) : KS := (kAsg 14 (kCall c 56 (kACons (kSlot 13) (kACons (kTup kNil) kANil))))
noncomputable def st22 (c : Cfg) : KS := (kRet (kBool (kAnd (kC eqF (kU lenD (kCall c 24 (kACons (kSlot 13) (kACons (kSlot 14) kANil)))) (kOk (.d (.int 1)))) (kTru (kC eqF (kCall c 59 (kACons (kSlot 13) (kACons (kSlot 14) kANil))) (kTup (kCons (kOk (.d (.int 1))) (kCons (kOk (.d (.int 0))) (kCons (kOk (.d (.int 0))) kNil)))))))))
theorem body_eq (c : Cfg) : k_law.body c = kBl [st0 c, st1 c, st2 c, st3 c, st4 c, st5 c, st6 c, st7 c, st8 c, st9 c, st10 c, st11 c, st12 c, st13 c, st14 c, st15 c, st16 c, st17 c, st18 c, st19 c, st20 c, st21 c, st22 c] kEnd := rfl
def ed3 : D := (.list [(.tuple [(.int 0), (.int 1)]), (.tuple [(.int 1), (.int 2)])])
def ci3 : D := (.tuple [(.tuple [(.int 0), (.int 1)]), (.tuple [(.int 0), (.int 2)]), (.tuple [(.int 1), (.int 2)])])
def ln3 : D := (.tuple [(.tuple [(.int 0), (.int 1)]), (.tuple [(.int 1), (.int 2)])])
theorem segA3 (sc : Vl) (X : List D) : kBl [st2 cK, st3 cK] kEnd [some sc, some (.ob 0), some (.d (.int 3)), none, none, none, none, none, none, none, none, none, none, none, none, none, none] [.cell X] = .ok (.nx [some sc, some (.ob 0), some (.d (.int 3)), some (.d ed3), some (.d ci3), none, none, none, none, none, none, none, none, none, none, none, none]) [.cell X] := by kernel_rfl
noncomputable def rB3_0 (sc : Vl) (X : List D) : Res Fl := kBl [st5 cK, st6 cK, st7 cK, st8 cK, st9 cK, st10 cK, st11 cK, st12 cK] kEnd [some sc, some (.ob 0), some (.d (.int 3)), some (.d ed3), some (.d ci3), some (.d (.int 0)), none, none, none, none, none, none, none, none, none, none, none] [.cell X]
theorem segB3_0 (sc : Vl) (X : List D) : rB3_0 sc X = .ok (.nx [some sc, some (.ob 0), some (.d (.int 3)), some (.d ed3), some (.d ci3), some (.d (.int 0)), envR (rB3_0 sc X) 6, envR (rB3_0 sc X) 7, envR (rB3_0 sc X) 8, some (.d ln3), none, none, none, none, none, none, none]) [.cell X] := by kernel_rfl
noncomputable def rB3_1 (sc : Vl) (X : List D) : Res Fl := kBl [st5 cK, st6 cK, st7 cK, st8 cK, st9 cK, st10 cK, st11 cK, st12 cK] kEnd [some sc, some (.ob 0), some (.d (.int 3)), some (.d ed3), some (.d ci3), some (.d (.int 1)), none, none, none, none, none, none, none, none, none, none, none] [.cell X]
theorem segB3_1 (sc : Vl) (X : List D) : rB3_1 sc X = .ok (.nx [some sc, some (.ob 0), some (.d (.int 3)), some (.d ed3), some (.d ci3), some (.d (.int 1)), envR (rB3_1 sc X) 6, envR (rB3_1 sc X) 7, envR (rB3_1 sc X) 8, some (.d ln3), none, none, none, none, none, none, none]) [.cell X] := by kernel_rfl
noncomputable def rC3_0 (sc : Vl) (X : List D) (v4 v5 v6 v7 v8 : Option Vl) : Res Fl := kBl [st14 cK, st15 cK, st16 cK, st17 cK, st18 cK, st19 cK] kEnd [some sc, some (.ob 0), some (.d (.int 3)), some (.d ed3), v4, v5, v6, v7, v8, some (.d ln3), some (.d (.int 0)), none, none, none, none, none, none] [.cell X]
theorem segC3_0 (sc : Vl) (X : List D) (v4 v5 v6 v7 v8 : Option Vl) : rC3_0 sc X v4 v5 v6 v7 v8 = .ok (.nx [some sc, some (.ob 0), some (.d (.int 3)), some (.d ed3), v4, v5, v6, v7, v8, some (.d ln3), some (.d (.int 0)), envR (rC3_0 sc X v4 v5 v6 v7 v8) 11, envR (rC3_0 sc X v4 v5 v6 v7 v8) 12, none, none, none, none]) [.cell X] := by kernel_rfl
noncomputable def rC3_1 (sc : Vl) (X : List D) (v4 v5 v6 v7 v8 : Option Vl) : Res Fl := kBl [st14 cK, st15 cK, st16 cK, st17 cK, st18 cK, st19 cK] kEnd [some sc, some (.ob 0), some (.d (.int 3)), some (.d ed3), v4, v5, v6, v7, v8, some (.d ln3), some (.d (.int 1)), none, none, none, none, none, none] [.cell X]
theorem segC3_1 (sc : Vl) (X : List D) (v4 v5 v6 v7 v8 : Option Vl) : rC3_1 sc X v4 v5 v6 v7 v8 = .ok (.nx [some sc, some (.ob 0), some (.d (.int 3)), some (.d ed3), v4, v5, v6, v7, v8, some (.d ln3), some (.d (.int 1)), envR (rC3_1 sc X v4 v5 v6 v7 v8) 11, envR (rC3_1 sc X v4 v5 v6 v7 v8) 12, none, none, none, none]) [.cell X] := by kernel_rfl
theorem segD3 (sc : Vl) (X : List D) (v3 v4 v5 v6 v7 v8 v9 v10 v11 v12 : Option Vl) : isRT (kBl [st20 cK, st21 cK, st22 cK] kEnd [some sc, some (.ob 0), some (.d (.int 3)), v3, v4, v5, v6, v7, v8, v9, v10, v11, v12, none, none, none, none] [.cell X]) = true := by kernel_rfl
def ed4 : D := (.list [(.tuple [(.int 0), (.int 1)]), (.tuple [(.int 1), (.int 2)]), (.tuple [(.int 2), (.int 3)])])
def ci4 : D := (.tuple [(.tuple [(.int 0), (.int 1)]), (.tuple [(.int 0), (.int 3)]), (.tuple [(.int 1), (.int 2)]), (.tuple [(.int 2), (.int 3)])])
def ln4 : D := (.tuple [(.tuple [(.int 0), (.int 1)]), (.tuple [(.int 1), (.int 2)]), (.tuple [(.int 2), (.int 3)])])
theorem segA4 (sc : Vl) (X : List D) : kBl [st2 cK, st3 cK] kEnd [some sc, some (.ob 0), some (.d (.int 4)), none, none, none, none, none, none, none, none, none, none, none, none, none, none] [.cell X] = .ok (.nx [some sc, some (.ob 0), some (.d (.int 4)), some (.d ed4), some (.d ci4), none, none, none, none, none, none, none, none, none, none, none, none]) [.cell X] := by kernel_rfl
noncomputable def rB4_0 (sc : Vl) (X : List D) : Res Fl := kBl [st5 cK, st6 cK, st7 cK, st8 cK, st9 cK, st10 cK, st11 cK, st12 cK] kEnd [some sc, some (.ob 0), some (.d (.int 4)), some (.d ed4), some (.d ci4), some (.d (.int 0)), none, none, none, none, none, none, none, none, none, none, none] [.cell X]
theorem segB4_0 (sc : Vl) (X : List D) : rB4_0 sc X = .ok (.nx [some sc, some (.ob 0), some (.d (.int 4)), some (.d ed4), some (.d ci4), some (.d (.int 0)), envR (rB4_0 sc X) 6, envR (rB4_0 sc X) 7, envR (rB4_0 sc X) 8, some (.d ln4), none, none, none, none, none, none, none]) [.cell X] := by kernel_rfl
noncomputable def rB4_1 (sc : Vl) (X : List D) : Res Fl := kBl [st5 cK, st6 cK, st7 cK, st8 cK, st9 cK, st10 cK, st11 cK, st12 cK] kEnd [some sc, some (.ob 0), some (.d (.int 4)), some (.d ed4), some (.d ci4), some (.d (.int 1)), none, none, none, none, none, none, none, none, none, none, none] [.cell X]
theorem segB4_1 (sc : Vl) (X : List D) : rB4_1 sc X = .ok (.nx [some sc, some (.ob 0), some (.d (.int 4)), some (.d ed4), some (.d ci4), some (.d (.int 1)), envR (rB4_1 sc X) 6, envR (rB4_1 sc X) 7, envR (rB4_1 sc X) 8, some (.d ln4), none, none, none, none, none, none, none]) [.cell X] := by kernel_rfl
noncomputable def rB4_2 (sc : Vl) (X : List D) : Res Fl := kBl [st5 cK, st6 cK, st7 cK, st8 cK, st9 cK, st10 cK, st11 cK, st12 cK] kEnd [some sc, some (.ob 0), some (.d (.int 4)), some (.d ed4), some (.d ci4), some (.d (.int 2)), none, none, none, none, none, none, none, none, none, none, none] [.cell X]
theorem segB4_2 (sc : Vl) (X : List D) : rB4_2 sc X = .ok (.nx [some sc, some (.ob 0), some (.d (.int 4)), some (.d ed4), some (.d ci4), some (.d (.int 2)), envR (rB4_2 sc X) 6, envR (rB4_2 sc X) 7, envR (rB4_2 sc X) 8, some (.d ln4), none, none, none, none, none, none, none]) [.cell X] := by kernel_rfl
noncomputable def rC4_0 (sc : Vl) (X : List D) (v4 v5 v6 v7 v8 : Option Vl) : Res Fl := kBl [st14 cK, st15 cK, st16 cK, st17 cK, st18 cK, st19 cK] kEnd [some sc, some (.ob 0), some (.d (.int 4)), some (.d ed4), v4, v5, v6, v7, v8, some (.d ln4), some (.d (.int 0)), none, none, none, none, none, none] [.cell X]
theorem segC4_0 (sc : Vl) (X : List D) (v4 v5 v6 v7 v8 : Option Vl) : rC4_0 sc X v4 v5 v6 v7 v8 = .ok (.nx [some sc, some (.ob 0), some (.d (.int 4)), some (.d ed4), v4, v5, v6, v7, v8, some (.d ln4), some (.d (.int 0)), envR (rC4_0 sc X v4 v5 v6 v7 v8) 11, envR (rC4_0 sc X v4 v5 v6 v7 v8) 12, none, none, none, none]) [.cell X] := by kernel_rfl
noncomputable def rC4_1 (sc : Vl) (X : List D) (v4 v5 v6 v7 v8 : Option Vl) : Res Fl := kBl [st14 cK, st15 cK, st16 cK, st17 cK, st18 cK, st19 cK] kEnd [some sc, some (.ob 0), some (.d (.int 4)), some (.d ed4), v4, v5, v6, v7, v8, some (.d ln4), some (.d (.int 1)), none, none, none, none, none, none] [.cell X]
theorem segC4_1 (sc : Vl) (X : List D) (v4 v5 v6 v7 v8 : Option Vl) : rC4_1 sc X v4 v5 v6 v7 v8 = .ok (.nx [some sc, some (.ob 0), some (.d (.int 4)), some (.d ed4), v4, v5, v6, v7, v8, some (.d ln4), some (.d (.int 1)), envR (rC4_1 sc X v4 v5 v6 v7 v8) 11, envR (rC4_1 sc X v4 v5 v6 v7 v8) 12, none, none, none, none]) [.cell X] := by kernel_rfl
noncomputable def rC4_2 (sc : Vl) (X : List D) (v4 v5 v6 v7 v8 : Option Vl) : Res Fl := kBl [st14 cK, st15 cK, st16 cK, st17 cK, st18 cK, st19 cK] kEnd [some sc, some (.ob 0), some (.d (.int 4)), some (.d ed4), v4, v5, v6, v7, v8, some (.d ln4), some (.d (.int 2)), none, none, none, none, none, none] [.cell X]
theorem segC4_2 (sc : Vl) (X : List D) (v4 v5 v6 v7 v8 : Option Vl) : rC4_2 sc X v4 v5 v6 v7 v8 = .ok (.nx [some sc, some (.ob 0), some (.d (.int 4)), some (.d ed4), v4, v5, v6, v7, v8, some (.d ln4), some (.d (.int 2)), envR (rC4_2 sc X v4 v5 v6 v7 v8) 11, envR (rC4_2 sc X v4 v5 v6 v7 v8) 12, none, none, none, none]) [.cell X] := by kernel_rfl
theorem segD4 (sc : Vl) (X : List D) (v3 v4 v5 v6 v7 v8 v9 v10 v11 v12 : Option Vl) : isRT (kBl [st20 cK, st21 cK, st22 cK] kEnd [some sc, some (.ob 0), some (.d (.int 4)), v3, v4, v5, v6, v7, v8, v9, v10, v11, v12, none, none, none, none] [.cell X]) = true := by kernel_rfl
def ed5 : D := (.list [(.tuple [(.int 0), (.int 1)]), (.tuple [(.int 1), (.int 2)]), (.tuple [(.int 2), (.int 3)]), (.tuple [(.int 3), (.int 4)])])
def ci5 : D := (.tuple [(.tuple [(.int 0), (.int 1)]), (.tuple [(.int 0), (.int 4)]), (.tuple [(.int 1), (.int 2)]), (.tuple [(.int 2), (.int 3)]), (.tuple [(.int 3), (.int 4)])])
def ln5 : D := (.tuple [(.tuple [(.int 0), (.int 1)]), (.tuple [(.int 1), (.int 2)]), (.tuple [(.int 2), (.int 3)]), (.tuple [(.int 3), (.int 4)])])
theorem segA5 (sc : Vl) (X : List D) : kBl [st2 cK, st3 cK] kEnd [some sc, some (.ob 0), some (.d (.int 5)), none, none, none, none, none, none, none, none, none, none, none, none, none, none] [.cell X] = .ok (.nx [some sc, some (.ob 0), some (.d (.int 5)), some (.d ed5), some (.d ci5), none, none, none, none, none, none, none, none, none, none, none, none]) [.cell X] := by kernel_rfl
noncomputable def rB5_0 (sc : Vl) (X : List D) : Res Fl := kBl [st5 cK, st6 cK, st7 cK, st8 cK, st9 cK, st10 cK, st11 cK, st12 cK] kEnd [some sc, some (.ob 0), some (.d (.int 5)), some (.d ed5), some (.d ci5), some (.d (.int 0)), none, none, none, none, none, none, none, none, none, none, none] [.cell X]
theorem segB5_0 (sc : Vl) (X : List D) : rB5_0 sc X = .ok (.nx [some sc, some (.ob 0), some (.d (.int 5)), some (.d ed5), some (.d ci5), some (.d (.int 0)), envR (rB5_0 sc X) 6, envR (rB5_0 sc X) 7, envR (rB5_0 sc X) 8, some (.d ln5), none, none, none, none, none, none, none]) [.cell X] := by kernel_rfl
noncomputable def rB5_1 (sc : Vl) (X : List D) : Res Fl := kBl [st5 cK, st6 cK, st7 cK, st8 cK, st9 cK, st10 cK, st11 cK, st12 cK] kEnd [some sc, some (.ob 0), some (.d (.int 5)), some (.d ed5), some (.d ci5), some (.d (.int 1)), none, none, none, none, none, none, none, none, none, none, none] [.cell X]
theorem segB5_1 (sc : Vl) (X : List D) : rB5_1 sc X = .ok (.nx [some sc, some (.ob 0), some (.d (.int 5)), some (.d ed5), some (.d ci5), some (.d (.int 1)), envR (rB5_1 sc X) 6, envR (rB5_1 sc X) 7, envR (rB5_1 sc X) 8, some (.d ln5), none, none, none, none, none, none, none]) [.cell X] := by kernel_rfl
noncomputable def rB5_2 (sc : Vl) (X : List D) : Res Fl := kBl [st5 cK, st6 cK, st7 cK, st8 cK, st9 cK, st10 cK, st11 cK, st12 cK] kEnd [some sc, some (.ob 0), some (.d (.int 5)), some (.d ed5), some (.d ci5), some (.d (.int 2)), none, none, none, none, none, none, none, none, none, none, none] [.cell X]
theorem segB5_2 (sc : Vl) (X : List D) : rB5_2 sc X = .ok (.nx [some sc, some (.ob 0), some (.d (.int 5)), some (.d ed5), some (.d ci5), some (.d (.int 2)), envR (rB5_2 sc X) 6, envR (rB5_2 sc X) 7, envR (rB5_2 sc X) 8, some (.d ln5), none, none, none, none, none, none, none]) [.cell X] := by kernel_rfl
noncomputable def rB5_3 (sc : Vl) (X : List D) : Res Fl := kBl [st5 cK, st6 cK, st7 cK, st8 cK, st9 cK, st10 cK, st11 cK, st12 cK] kEnd [some sc, some (.ob 0), some (.d (.int 5)), some (.d ed5), some (.d ci5), some (.d (.int 3)), none, none, none, none, none, none, none, none, none, none, none] [.cell X]
theorem segB5_3 (sc : Vl) (X : List D) : rB5_3 sc X = .ok (.nx [some sc, some (.ob 0), some (.d (.int 5)), some (.d ed5), some (.d ci5), some (.d (.int 3)), envR (rB5_3 sc X) 6, envR (rB5_3 sc X) 7, envR (rB5_3 sc X) 8, some (.d ln5), none, none, none, none, none, none, none]) [.cell X] := by kernel_rfl
noncomputable def rC5_0 (sc : Vl) (X : List D) (v4 v5 v6 v7 v8 : Option Vl) : Res Fl := kBl [st14 cK, st15 cK, st16 cK, st17 cK, st18 cK, st19 cK] kEnd [some sc, some (.ob 0), some (.d (.int 5)), some (.d ed5), v4, v5, v6, v7, v8, some (.d ln5), some (.d (.int 0)), none, none, none, none, none, none] [.cell X]
theorem segC5_0 (sc : Vl) (X : List D) (v4 v5 v6 v7 v8 : Option Vl) : rC5_0 sc X v4 v5 v6 v7 v8 = .ok (.nx [some sc, some (.ob 0), some (.d (.int 5)), some (.d ed5), v4, v5, v6, v7, v8, some (.d ln5), some (.d (.int 0)), envR (rC5_0 sc X v4 v5 v6 v7 v8) 11, envR (rC5_0 sc X v4 v5 v6 v7 v8) 12, none, none, none, none]) [.cell X] := by kernel_rfl
noncomputable def rC5_1 (sc : Vl) (X : List D) (v4 v5 v6 v7 v8 : Option Vl) : Res Fl := kBl [st14 cK, st15 cK, st16 cK, st17 cK, st18 cK, st19 cK] kEnd [some sc, some (.ob 0), some (.d (.int 5)), some (.d ed5), v4, v5, v6, v7, v8, some (.d ln5), some (.d (.int 1)), none, none, none, none, none, none] [.cell X]
theorem segC5_1 (sc : Vl) (X : List D) (v4 v5 v6 v7 v8 : Option Vl) : rC5_1 sc X v4 v5 v6 v7 v8 = .ok (.nx [some sc, some (.ob 0), some (.d (.int 5)), some (.d ed5), v4, v5, v6, v7, v8, some (.d ln5), some (.d (.int 1)), envR (rC5_1 sc X v4 v5 v6 v7 v8) 11, envR (rC5_1 sc X v4 v5 v6 v7 v8) 12, none, none, none, none]) [.cell X] := by kernel_rfl
noncomputable def rC5_2 (sc : Vl) (X : List D) (v4 v5 v6 v7 v8 : Option Vl) : Res Fl := kBl [st14 cK, st15 cK, st16 cK, st17 cK, st18 cK, st19 cK] kEnd [some sc, some (.ob 0), some (.d (.int 5)), some (.d ed5), v4, v5, v6, v7, v8, some (.d ln5), some (.d (.int 2)), none, none, none, none, none, none] [.cell X]
theorem segC5_2 (sc : Vl) (X : List D) (v4 v5 v6 v7 v8 : Option Vl) : rC5_2 sc X v4 v5 v6 v7 v8 = .ok (.nx [some sc, some (.ob 0), some (.d (.int 5)), some (.d ed5), v4, v5, v6, v7, v8, some (.d ln5), some (.d (.int 2)), envR (rC5_2 sc X v4 v5 v6 v7 v8) 11, envR (rC5_2 sc X v4 v5 v6 v7 v8) 12, none, none, none, none]) [.cell X] := by kernel_rfl
noncomputable def rC5_3 (sc : Vl) (X : List D) (v4 v5 v6 v7 v8 : Option Vl) : Res Fl := kBl [st14 cK, st15 cK, st16 cK, st17 cK, st18 cK, st19 cK] kEnd [some sc, some (.ob 0), some (.d (.int 5)), some (.d ed5), v4, v5, v6, v7, v8, some (.d ln5), some (.d (.int 3)), none, none, none, none, none, none] [.cell X]
theorem segC5_3 (sc : Vl) (X : List D) (v4 v5 v6 v7 v8 : Option Vl) : rC5_3 sc X v4 v5 v6 v7 v8 = .ok (.nx [some sc, some (.ob 0), some (.d (.int 5)), some (.d ed5), v4, v5, v6, v7, v8, some (.d ln5), some (.d (.int 3)), envR (rC5_3 sc X v4 v5 v6 v7 v8) 11, envR (rC5_3 sc X v4 v5 v6 v7 v8) 12, none, none, none, none]) [.cell X] := by kernel_rfl
theorem segD5 (sc : Vl) (X : List D) (v3 v4 v5 v6 v7 v8 v9 v10 v11 v12 : Option Vl) : isRT (kBl [st20 cK, st21 cK, st22 cK] kEnd [some sc, some (.ob 0), some (.d (.int 5)), v3, v4, v5, v6, v7, v8, v9, v10, v11, v12, none, none, none, none] [.cell X]) = true := by kernel_rfl
def ed6 : D := (.list [(.tuple [(.int 0), (.int 1)]), (.tuple [(.int 1), (.int 2)]), (.tuple [(.int 2), (.int 3)]), (.tuple [(.int 3), (.int 4)]), (.tuple [(.int 4), (.int 5)])])
def ci6 : D := (.tuple [(.tuple [(.int 0), (.int 1)]), (.tuple [(.int 0), (.int 5)]), (.tuple [(.int 1), (.int 2)]), (.tuple [(.int 2), (.int 3)]), (.tuple [(.int 3), (.int 4)]), (.tuple [(.int 4), (.int 5)])])
def ln6 : D := (.tuple [(.tuple [(.int 0), (.int 1)]), (.tuple [(.int 1), (.int 2)]), (.tuple [(.int 2), (.int 3)]), (.tuple [(.int 3), (.int 4)]), (.tuple [(.int 4), (.int 5)])])
theorem segA6 (sc : Vl) (X : List D) : kBl [st2 cK, st3 cK] kEnd [some sc, some (.ob 0), some (.d (.int 6)), none, none, none, none, none, none, none, none, none, none, none, none, none, none] [.cell X] = .ok (.nx [some sc, some (.ob 0), some (.d (.int 6)), some (.d ed6), some (.d ci6), none, none, none, none, none, none, none, none, none, none, none, none]) [.cell X] := by kernel_rfl
noncomputable def rB6_0 (sc : Vl) (X : List D) : Res Fl := kBl [st5 cK, st6 cK, st7 cK, st8 cK, st9 cK, st10 cK, st11 cK, st12 cK] kEnd [some sc, some (.ob 0), some (.d (.int 6)), some (.d ed6), some (.d ci6), some (.d (.int 0)), none, none, none, none, none, none, none, none, none, none, none] [.cell X]
theorem segB6_0 (sc : Vl) (X : List D) : rB6_0 sc X = .ok (.nx [some sc, some (.ob 0), some (.d (.int 6)), some (.d ed6), some (.d ci6), some (.d (.int 0)), envR (rB6_0 sc X) 6, envR (rB6_0 sc X) 7, envR (rB6_0 sc X) 8, some (.d ln6), none, none, none, none, none, none, none]) [.cell X] := by kernel_rfl
noncomputable def rB6_1 (sc : Vl) (X : List D) : Res Fl := kBl [st5 cK, st6 cK, st7 cK, st8 cK, st9 cK, st10 cK, st11 cK, st12 cK] kEnd [some sc, some (.ob 0), some (.d (.int 6)), some (.d ed6), some (.d ci6), some (.d (.int 1)), none, none, none, none, none, none, none, none, none, none, none] [.cell X]
theorem segB6_1 (sc : Vl) (X : List D) : rB6_1 sc X = .ok (.nx [some sc, some (.ob 0), some (.d (.int 6)), some (.d ed6), some (.d ci6), some (.d (.int 1)), envR (rB6_1 sc X) 6, envR (rB6_1 sc X) 7, envR (rB6_1 sc X) 8, some (.d ln6), none, none, none, none, none, none, none]) [.cell X] := by kernel_rfl
noncomputable def rB6_2 (sc : Vl) (X : List D) : Res Fl := kBl [st5 cK, st6 cK, st7 cK, st8 cK, st9 cK, st10 cK, st11 cK, st12 cK] kEnd [some sc, some (.ob 0), some (.d (.int 6)), some (.d ed6), some (.d ci6), some (.d (.int 2)), none, none, none, none, none, none, none, none, none, none, none] [.cell X]
theorem segB6_2 (sc : Vl) (X : List D) : rB6_2 sc X = .ok (.nx [some sc, some (.ob 0), some (.d (.int 6)), some (.d ed6), some (.d ci6), some (.d (.int 2)), envR (rB6_2 sc X) 6, envR (rB6_2 sc X) 7, envR (rB6_2 sc X) 8, some (.d ln6), none, none, none, none, none, none, none]) [.cell X] := by kernel_rfl
noncomputable def rB6_3 (sc : Vl) (X : List D) : Res Fl := kBl [st5 cK, st6 cK, st7 cK, st8 cK, st9 cK, st10 cK, st11 cK, st12 cK] kEnd [some sc, some (.ob 0), some (.d (.int 6)), some (.d ed6), some (.d ci6), some (.d (.int 3)), none, none, none, none, none, none, none, none, none, none, none] [.cell X]
theorem segB6_3 (sc : Vl) (X : List D) : rB6_3 sc X = .ok (.nx [some sc, some (.ob 0), some (.d (.int 6)), some (.d ed6), some (.d ci6), some (.d (.int 3)), envR (rB6_3 sc X) 6, envR (rB6_3 sc X) 7, envR (rB6_3 sc X) 8, some (.d ln6), none, none, none, none, none, none, none]) [.cell X] := by kernel_rfl
noncomputable def rB6_4 (sc : Vl) (X : List D) : Res Fl := kBl [st5 cK, st6 cK, st7 cK, st8 cK, st9 cK, st10 cK, st11 cK, st12 cK] kEnd [some sc, some (.ob 0), some (.d (.int 6)), some (.d ed6), some (.d ci6), some (.d (.int 4)), none, none, none, none, none, none, none, none, none, none, none] [.cell X]
theorem segB6_4 (sc : Vl) (X : List D) : rB6_4 sc X = .ok (.nx [some sc, some (.ob 0), some (.d (.int 6)), some (.d ed6), some (.d ci6), some (.d (.int 4)), envR (rB6_4 sc X) 6, envR (rB6_4 sc X) 7, envR (rB6_4 sc X) 8, some (.d ln6), none, none, none, none, none, none, none]) [.cell X] := by kernel_rfl
noncomputable def rC6_0 (sc : Vl) (X : List D) (v4 v5 v6 v7 v8 : Option Vl) : Res Fl := kBl [st14 cK, st15 cK, st16 cK, st17 cK, st18 cK, st19 cK] kEnd [some sc, some (.ob 0), some (.d (.int 6)), some (.d ed6), v4, v5, v6, v7, v8, some (.d ln6), some (.d (.int 0)), none, none, none, none, none, none] [.cell X]
theorem segC6_0 (sc : Vl) (X : List D) (v4 v5 v6 v7 v8 : Option Vl) : rC6_0 sc X v4 v5 v6 v7 v8 = .ok (.nx [some sc, some (.ob 0), some (.d (.int 6)), some (.d ed6), v4, v5, v6, v7, v8, some (.d ln6), some (.d (.int 0)), envR (rC6_0 sc X v4 v5 v6 v7 v8) 11, envR (rC6_0 sc X v4 v5 v6 v7 v8) 12, none, none, none, none]) [.cell X] := by kernel_rfl
noncomputable def rC6_1 (sc : Vl) (X : List D) (v4 v5 v6 v7 v8 : Option Vl) : Res Fl := kBl [st14 cK, st15 cK, st16 cK, st17 cK, st18 cK, st19 cK] kEnd [some sc, some (.ob 0), some (.d (.int 6)), some (.d ed6), v4, v5, v6, v7, v8, some (.d ln6), some (.d (.int 1)), none, none, none, none, none, none] [.cell X]
theorem segC6_1 (sc : Vl) (X : List D) (v4 v5 v6 v7 v8 : Option Vl) : rC6_1 sc X v4 v5 v6 v7 v8 = .ok (.nx [some sc, some (.ob 0), some (.d (.int 6)), some (.d ed6), v4, v5, v6, v7, v8, some (.d ln6), some (.d (.int 1)), envR (rC6_1 sc X v4 v5 v6 v7 v8) 11, envR (rC6_1 sc X v4 v5 v6 v7 v8) 12, none, none, none, none]) [.cell X] := by kernel_rfl
noncomputable def rC6_2 (sc : Vl) (X : List D) (v4 v5 v6 v7 v8 : Option Vl) : Res Fl := kBl [st14 cK, st15 cK, st16 cK, st17 cK, st18 cK, st19 cK] kEnd [some sc, some (.ob 0), some (.d (.int 6)), some (.d ed6), v4, v5, v6, v7, v8, some (.d ln6), some (.d (.int 2)), none, none, none, none, none, none] [.cell X]
theorem segC6_2 (sc : Vl) (X : List D) (v4 v5 v6 v7 v8 : Option Vl) : rC6_2 sc X v4 v5 v6 v7 v8 = .ok (.nx [some sc, some (.ob 0), some (.d (.int 6)), some (.d ed6), v4, v5, v6, v7, v8, some (.d ln6), some (.d (.int 2)), envR (rC6_2 sc X v4 v5 v6 v7 v8) 11, envR (rC6_2 sc X v4 v5 v6 v7 v8) 12, none, none, none, none]) [.cell X] := by kernel_rfl
noncomputable def rC6_3 (sc : Vl) (X : List D) (v4 v5 v6 v7 v8 : Option Vl) : Res Fl := kBl [st14 cK, st15 cK, st16 cK, st17 cK, st18 cK, st19 cK] kEnd [some sc, some (.ob 0), some (.d (.int 6)), some (.d ed6), v4, v5, v6, v7, v8, some (.d ln6), some (.d (.int 3)), none, none, none, none, none, none] [.cell X]
theorem segC6_3 (sc : Vl) (X : List D) (v4 v5 v6 v7 v8 : Option Vl) : rC6_3 sc X v4 v5 v6 v7 v8 = .ok (.nx [some sc, some (.ob 0), some (.d (.int 6)), some (.d ed6), v4, v5, v6, v7, v8, some (.d ln6), some (.d (.int 3)), envR (rC6_3 sc X v4 v5 v6 v7 v8) 11, envR (rC6_3 sc X v4 v5 v6 v7 v8) 12, none, none, none, none]) [.cell X] := by kernel_rfl
noncomputable def rC6_4 (sc : Vl) (X : List D) (v4 v5 v6 v7 v8 : Option Vl) : Res Fl := kBl [st14 cK, st15 cK, st16 cK, st17 cK, st18 cK, st19 cK] kEnd [some sc, some (.ob 0), some (.d (.int 6)), some (.d ed6), v4, v5, v6, v7, v8, some (.d ln6), some (.d (.int 4)), none, none, none, none, none, none] [.cell X]
theorem segC6_4 (sc : Vl) (X : List D) (v4 v5 v6 v7 v8 : Option Vl) : rC6_4 sc X v4 v5 v6 v7 v8 = .ok (.nx [some sc, some (.ob 0), some (.d (.int 6)), some (.d ed6), v4, v5, v6, v7, v8, some (.d ln6), some (.d (.int 4)), envR (rC6_4 sc X v4 v5 v6 v7 v8) 11, envR (rC6_4 sc X v4 v5 v6 v7 v8) 12, none, none, none, none]) [.cell X] := by kernel_rfl
theorem segD6 (sc : Vl) (X : List D) (v3 v4 v5 v6 v7 v8 v9 v10 v11 v12 : Option Vl) : isRT (kBl [st20 cK, st21 cK, st22 cK] kEnd [some sc, some (.ob 0), some (.d (.int 6)), v3, v4, v5, v6, v7, v8, v9, v10, v11, v12, none, none, none, none] [.cell X]) = true := by kernel_rfl
def ed7 : D := (.list [(.tuple [(.int 0), (.int 1)]), (.tuple [(.int 1), (.int 2)]), (.tuple [(.int 2), (.int 3)]), (.tuple [(.int 3), (.int 4)]), (.tuple [(.int 4), (.int 5)]), (.tuple [(.int 5), (.int 6)])])
def ci7 : D := (.tuple [(.tuple [(.int 0), (.int 1)]), (.tuple [(.int 0), (.int 6)]), (.tuple [(.int 1), (.int 2)]), (.tuple [(.int 2), (.int 3)]), (.tuple [(.int 3), (.int 4)]), (.tuple [(.int 4), (.int 5)]), (.tuple [(.int 5), (.int 6)])])
def ln7 : D := (.tuple [(.tuple [(.int 0), (.int 1)]), (.tuple [(.int 1), (.int 2)]), (.tuple [(.int 2), (.int 3)]), (.tuple [(.int 3), (.int 4)]), (.tuple [(.int 4), (.int 5)]), (.tuple [(.int 5), (.int 6)])])
theorem segA7 (sc : Vl) (X : List D) : kBl [st2 cK, st3 cK] kEnd [some sc, some (.ob 0), some (.d (.int 7)), none, none, none, none, none, none, none, none, none, none, none, none, none, none] [.cell X] = .ok (.nx [some sc, some (.ob 0), some (.d (.int 7)), some (.d ed7), some (.d ci7), none, none, none, none, none, none, none, none, none, none, none, none]) [.cell X] := by kernel_rfl
noncomputable def rB7_0 (sc : Vl) (X : List D) : Res Fl := kBl [st5 cK, st6 cK, st7 cK, st8 cK, st9 cK, st10 cK, st11 cK, st12 cK] kEnd [some sc, some (.ob 0), some (.d (.int 7)), some (.d ed7), some (.d ci7), some (.d (.int 0)), none, none, none, none, none, none, none, none, none, none, none] [.cell X]
theorem segB7_0 (sc : Vl) (X : List D) : rB7_0 sc X = .ok (.nx [some sc, some (.ob 0), some (.d (.int 7)), some (.d ed7), some (.d ci7), some (.d (.int 0)), envR (rB7_0 sc X) 6, envR (rB7_0 sc X) 7, envR (rB7_0 sc X) 8, some (.d ln7), none, none, none, none, none, none, none]) [.cell X] := by kernel_rfl
noncomputable def rB7_1 (sc : Vl) (X : List D) : Res Fl := kBl [st5 cK, st6 cK, st7 cK, st8 cK, st9 cK, st10 cK, st11 cK, st12 cK] kEnd [some sc, some (.ob 0), some (.d (.int 7)), some (.d ed7), some (.d ci7), some (.d (.int 1)), none, none, none, none, none, none, none, none, none, none, none] [.cell X]
theorem segB7_1 (sc : Vl) (X : List D) : rB7_1 sc X = .ok (.nx [some sc, some (.ob 0), some (.d (.int 7)), some (.d ed7), some (.d ci7), some (.d (.int 1)), envR (rB7_1 sc X) 6, envR (rB7_1 sc X) 7, envR (rB7_1 sc X) 8, some (.d ln7), none, none, none, none, none, none, none]) [.cell X] := by kernel_rfl
noncomputable def rB7_2 (sc : Vl) (X : List D) : Res Fl := kBl [st5 cK, st6 cK, st7 cK, st8 cK, st9 cK, st10 cK, st11 cK, st12 cK] kEnd [some sc, some (.ob 0), some (.d (.int 7)), some (.d ed7), some (.d ci7), some (.d (.int 2)), none, none, none, none, none, none, none, none, none, none, none] [.cell X]
theorem segB7_2 (sc : Vl) (X : List D) : rB7_2 sc X = .ok (.nx [some sc, some (.ob 0), some (.d (.int 7)), some (.d ed7), some (.d ci7), some (.d (.int 2)), envR (rB7_2 sc X) 6, envR (rB7_2 sc X) 7, envR (rB7_2 sc X) 8, some (.d ln7), none, none, none, none, none, none, none]) [.cell X] := by kernel_rfl
noncomputable def rB7_3 (sc : Vl) (X : List D) : Res Fl := kBl [st5 cK, st6 cK, st7 cK, st8 cK, st9 cK, st10 cK, st11 cK, st12 cK] kEnd [some sc, some (.ob 0), some (.d (.int 7)), some (.d ed7), some (.d ci7), some (.d (.int 3)), none, none, none, none, none, none, none, none, none, none, none] [.cell X]
theorem segB7_3 (sc : Vl) (X : List D) : rB7_3 sc X = .ok (.nx [some sc, some (.ob 0), some (.d (.int 7)), some (.d ed7), some (.d ci7), some (.d (.int 3)), envR (rB7_3 sc X) 6, envR (rB7_3 sc X) 7, envR (rB7_3 sc X) 8, some (.d ln7), none, none, none, none, none, none, none]) [.cell X] := by kernel_rfl
noncomputable def rB7_4 (sc : Vl) (X : List D) : Res Fl := kBl [st5 cK, st6 cK, st7 cK, st8 cK, st9 cK, st10 cK, st11 cK, st12 cK] kEnd [some sc, some (.ob 0), some (.d (.int 7)), some (.d ed7), some (.d ci7), some (.d (.int 4)), none, none, none, none, none, none, none, none, none, none, none] [.cell X]
theorem segB7_4 (sc : Vl) (X : List D) : rB7_4 sc X = .ok (.nx [some sc, some (.ob 0), some (.d (.int 7)), some (.d ed7), some (.d ci7), some (.d (.int 4)), envR (rB7_4 sc X) 6, envR (rB7_4 sc X) 7, envR (rB7_4 sc X) 8, some (.d ln7), none, none, none, none, none, none, none]) [.cell X] := by kernel_rfl
noncomputable def rB7_5 (sc : Vl) (X : List D) : Res Fl := kBl [st5 cK, st6 cK, st7 cK, st8 cK, st9 cK, st10 cK, st11 cK, st12 cK] kEnd [some sc, some (.ob 0), some (.d (.int 7)), some (.d ed7), some (.d ci7), some (.d (.int 5)), none, none, none, none, none, none, none, none, none, none, none] [.cell X]
theorem segB7_5 (sc : Vl) (X : List D) : rB7_5 sc X = .ok (.nx [some sc, some (.ob 0), some (.d (.int 7)), some (.d ed7), some (.d ci7), some (.d (.int 5)), envR (rB7_5 sc X) 6, envR (rB7_5 sc X) 7, envR (rB7_5 sc X) 8, some (.d ln7), none, none, none, none, none, none, none]) [.cell X] := by kernel_rfl
noncomputable def rC7_0 (sc : Vl) (X : List D) (v4 v5 v6 v7 v8 : Option Vl) : Res Fl := kBl [st14 cK, st15 cK, st16 cK, st17 cK, st18 cK, st19 cK] kEnd [some sc, some (.ob 0), some (.d (.int 7)), some (.d ed7), v4, v5, v6, v7, v8, some (.d ln7), some (.d (.int 0)), none, none, none, none, none, none] [.cell X]
theorem segC7_0 (sc : Vl) (X : List D) (v4 v5 v6 v7 v8 : Option Vl) : rC7_0 sc X v4 v5 v6 v7 v8 = .ok (.nx [some sc, some (.ob 0), some (.d (.int 7)), some (.d ed7), v4, v5, v6, v7, v8, some (.d ln7), some (.d (.int 0)), envR (rC7_0 sc X v4 v5 v6 v7 v8) 11, envR (rC7_0 sc X v4 v5 v6 v7 v8) 12, none, none, none, none]) [.cell X] := by kernel_rfl
noncomputable def rC7_1 (sc : Vl) (X : List D) (v4 v5 v6 v7 v8 : Option Vl) : Res Fl := kBl [st14 cK, st15 cK, st16 cK, st17 cK, st18 cK, st19 cK] kEnd [some sc, some (.ob 0), some (.d (.int 7)), some (.d ed7), v4, v5, v6, v7, v8, some (.d ln7), some (.d (.int 1)), none, none, none, none, none, none] [.cell X]
theorem segC7_1 (sc : Vl) (X : List D) (v4 v5 v6 v7 v8 : Option Vl) : rC7_1 sc X v4 v5 v6 v7 v8 = .ok (.nx [some sc, some (.ob 0), some (.d (.int 7)), some (.d ed7), v4, v5, v6, v7, v8, some (.d ln7), some (.d (.int 1)), envR (rC7_1 sc X v4 v5 v6 v7 v8) 11, envR (rC7_1 sc X v4 v5 v6 v7 v8) 12, none, none, none, none]) [.cell X] := by kernel_rfl
noncomputable def rC7_2 (sc : Vl) (X : List D) (v4 v5 v6 v7 v8 : Option Vl) : Res Fl := kBl [st14 cK, st15 cK, st16 cK, st17 cK, st18 cK, st19 cK] kEnd [some sc, some (.ob 0), some (.d (.int 7)), some (.d ed7), v4, v5, v6, v7, v8, some (.d ln7), some (.d (.int 2)), none, none, none, none, none, none] [.cell X]
theorem segC7_2 (sc : Vl) (X : List D) (v4 v5 v6 v7 v8 : Option Vl) : rC7_2 sc X v4 v5 v6 v7 v8 = .ok (.nx [some sc, some (.ob 0), some (.d (.int 7)), some (.d ed7), v4, v5, v6, v7, v8, some (.d ln7), some (.d (.int 2)), envR (rC7_2 sc X v4 v5 v6 v7 v8) 11, envR (rC7_2 sc X v4 v5 v6 v7 v8) 12, none, none, none, none]) [.cell X] := by kernel_rfl
noncomputable def rC7_3 (sc : Vl) (X : List D) (v4 v5 v6 v7 v8 : Option Vl) : Res Fl := kBl [st14 cK, st15 cK, st16 cK, st17 cK, st18 cK, st19 cK] kEnd [some sc, some (.ob 0), some (.d (.int 7)), some (.d ed7), v4, v5, v6, v7, v8, some (.d ln7), some (.d (.int 3)), none, none, none, none, none, none] [.cell X]
theorem segC7_3 (sc : Vl) (X : List D) (v4 v5 v6 v7 v8 : Option Vl) : rC7_3 sc X v4 v5 v6 v7 v8 = .ok (.nx [some sc, some (.ob 0), some (.d (.int 7)), some (.d ed7), v4, v5, v6, v7, v8, some (.d ln7), some (.d (.int 3)), envR (rC7_3 sc X v4 v5 v6 v7 v8) 11, envR (rC7_3 sc X v4 v5 v6 v7 v8) 12, none, none, none, none]) [.cell X] := by kernel_rfl
noncomputable def rC7_4 (sc : Vl) (X : List D) (v4 v5 v6 v7 v8 : Option Vl) : Res Fl := kBl [st14 cK, st15 cK, st16 cK, st17 cK, st18 cK, st19 cK] kEnd [some sc, some (.ob 0), some (.d (.int 7)), some (.d ed7), v4, v5, v6, v7, v8, some (.d ln7), some (.d (.int 4)), none, none, none, none, none, none] [.cell X]
theorem segC7_4 (sc : Vl) (X : List D) (v4 v5 v6 v7 v8 : Option Vl) : rC7_4 sc X v4 v5 v6 v7 v8 = .ok (.nx [some sc, some (.ob 0), some (.d (.int 7)), some (.d ed7), v4, v5, v6, v7, v8, some (.d ln7), some (.d (.int 4)), envR (rC7_4 sc X v4 v5 v6 v7 v8) 11, envR (rC7_4 sc X v4 v5 v6 v7 v8) 12, none, none, none, none]) [.cell X] := by kernel_rfl
noncomputable def rC7_5 (sc : Vl) (X : List D) (v4 v5 v6 v7 v8 : Option Vl) : Res Fl := kBl [st14 cK, st15 cK, st16 cK, st17 cK, st18 cK, st19 cK] kEnd [some sc, some (.ob 0), some (.d (.int 7)), some (.d ed7), v4, v5, v6, v7, v8, some (.d ln7), some (.d (.int 5)), none, none, none, none, none, none] [.cell X]
theorem segC7_5 (sc : Vl) (X : List D) (v4 v5 v6 v7 v8 : Option Vl) : rC7_5 sc X v4 v5 v6 v7 v8 = .ok (.nx [some sc, some (.ob 0), some (.d (.int 7)), some (.d ed7), v4, v5, v6, v7, v8, some (.d ln7), some (.d (.int 5)), envR (rC7_5 sc X v4 v5 v6 v7 v8) 11, envR (rC7_5 sc X v4 v5 v6 v7 v8) 12, none, none, none, none]) [.cell X] := by kernel_rfl
theorem segD7 (sc : Vl) (X : List D) (v3 v4 v5 v6 v7 v8 v9 v10 v11 v12 : Option Vl) : isRT (kBl [st20 cK, st21 cK, st22 cK] kEnd [some sc, some (.ob 0), some (.d (.int 7)), v3, v4, v5, v6, v7, v8, v9, v10, v11, v12, none, none, none, none] [.cell X]) = true := by kernel_rfl
def ed8 : D := (.list [(.tuple [(.int 0), (.int 1)]), (.tuple [(.int 1), (.int 2)]), (.tuple [(.int 2), (.int 3)]), (.tuple [(.int 3), (.int 4)]), (.tuple [(.int 4), (.int 5)]), (.tuple [(.int 5), (.int 6)]), (.tuple [(.int 6), (.int 7)])])
def ci8 : D := (.tuple [(.tuple [(.int 0), (.int 1)]), (.tuple [(.int 0), (.int 7)]), (.tuple [(.int 1), (.int 2)]), (.tuple [(.int 2), (.int 3)]), (.tuple [(.int 3), (.int 4)]), (.tuple [(.int 4), (.int 5)]), (.tuple [(.int 5), (.int 6)]), (.tuple [(.int 6), (.int 7)])])
def ln8 : D := (.tuple [(.tuple [(.int 0), (.int 1)]), (.tuple [(.int 1), (.int 2)]), (.tuple [(.int 2), (.int 3)]), (.tuple [(.int 3), (.int 4)]), (.tuple [(.int 4), (.int 5)]), (.tuple [(.int 5), (.int 6)]), (.tuple [(.int 6), (.int 7)])])
theorem segA8 (sc : Vl) (X : List D) : kBl [st2 cK, st3 cK] kEnd [some sc, some (.ob 0), some (.d (.int 8)), none, none, none, none, none, none, none, none, none, none, none, none, none, none] [.cell X] = .ok (.nx [some sc, some (.ob 0), some (.d (.int 8)), some (.d ed8), some (.d ci8), none, none, none, none, none, none, none, none, none, none, none, none]) [.cell X] := by kernel_rfl
noncomputable def rB8_0 (sc : Vl) (X : List D) : Res Fl := kBl [st5 cK, st6 cK, st7 cK, st8 cK, st9 cK, st10 cK, st11 cK, st12 cK] kEnd [some sc, some (.ob 0), some (.d (.int 8)), some (.d ed8), some (.d ci8), some (.d (.int 0)), none, none, none, none, none, none, none, none, none, none, none] [.cell X]
theorem segB8_0 (sc : Vl) (X : List D) : rB8_0 sc X = .ok (.nx [some sc, some (.ob 0), some (.d (.int 8)), some (.d ed8), some (.d ci8), some (.d (.int 0)), envR (rB8_0 sc X) 6, envR (rB8_0 sc X) 7, envR (rB8_0 sc X) 8, some (.d ln8), none, none, none, none, none, none, none]) [.cell X] := by kernel_rfl
noncomputable def rB8_1 (sc : Vl) (X : List D) : Res Fl := kBl [st5 cK, st6 cK, st7 cK, st8 cK, st9 cK, st10 cK, st11 cK, st12 cK] kEnd [some sc, some (.ob 0), some (.d (.int 8)), some (.d ed8), some (.d ci8), some (.d (.int 1)), none, none, none, none, none, none, none, none, none, none, none] [.cell X]
theorem segB8_1 (sc : Vl) (X : List D) : rB8_1 sc X = .ok (.nx [some sc, some (.ob 0), some (.d (.int 8)), some (.d ed8), some (.d ci8), some (.d (.int 1)), envR (rB8_1 sc X) 6, envR (rB8_1 sc X) 7, envR (rB8_1 sc X) 8, some (.d ln8), none, none, none, none, none, none, none]) [.cell X] := by kernel_rfl
noncomputable def rB8_2 (sc : Vl) (X : List D) : Res Fl := kBl [st5 cK, st6 cK, st7 cK, st8 cK, st9 cK, st10 cK, st11 cK, st12 cK] kEnd [some sc, some (.ob 0), some (.d (.int 8)), some (.d ed8), some (.d ci8), some (.d (.int 2)), none, none, none, none, none, none, none, none, none, none, none] [.cell X]
theorem segB8_2 (sc : Vl) (X : List D) : rB8_2 sc X = .ok (.nx [some sc, some (.ob 0), some (.d (.int 8)), some (.d ed8), some (.d ci8), some (.d (.int 2)), envR (rB8_2 sc X) 6, envR (rB8_2 sc X) 7, envR (rB8_2 sc X) 8, some (.d ln8), none, none, none, none, none, none, none]) [.cell X] := by kernel_rfl
noncomputable def rB8_3 (sc : Vl) (X : List D) : Res Fl := kBl [st5 cK, st6 cK, st7 cK, st8 cK, st9 cK, st10 cK, st11 cK, st12 cK] kEnd [some sc, some (.ob 0), some (.d (.int 8)), some (.d ed8), some (.d ci8), some (.d (.int 3)), none, none, none, none, none, none, none, none, none, none, none] [.cell X]
theorem segB8_3 (sc : Vl) (X : List D) : rB8_3 sc X = .ok (.nx [some sc, some (.ob 0), some (.d (.int 8)), some (.d ed8), some (.d ci8), some (.d (.int 3)), envR (rB8_3 sc X) 6, envR (rB8_3 sc X) 7, envR (rB8_3 sc X) 8, some (.d ln8), none, none, none, none, none, none, none]) [.cell X] := by kernel_rfl
noncomputable def rB8_4 (sc : Vl) (X : List D) : Res Fl := kBl [st5 cK, st6 cK, st7 cK, st8 cK, st9 cK, st10 cK, st11 cK, st12 cK] kEnd [some sc, some (.ob 0), some (.d (.int 8)), some (.d ed8), some (.d ci8), some (.d (.int 4)), none, none, none, none, none, none, none, none, none, none, none] [.cell X]
theorem segB8_4 (sc : Vl) (X : List D) : rB8_4 sc X = .ok (.nx [some sc, some (.ob 0), some (.d (.int 8)), some (.d ed8), some (.d ci8), some (.d (.int 4)), envR (rB8_4 sc X) 6, envR (rB8_4 sc X) 7, envR (rB8_4 sc X) 8, some (.d ln8), none, none, none, none, none, none, none]) [.cell X] := by kernel_rfl
noncomputable def rB8_5 (sc : Vl) (X : List D) : Res Fl := kBl [st5 cK, st6 cK, st7 cK, st8 cK, st9 cK, st10 cK, st11 cK, st12 cK] kEnd [some sc, some (.ob 0), some (.d (.int 8)), some (.d ed8), some (.d ci8), some (.d (.int 5)), none, none, none, none, none, none, none, none, none, none, none] [.cell X]
theorem segB8_5 (sc : Vl) (X : List D) : rB8_5 sc X = .ok (.nx [some sc, some (.ob 0), some (.d (.int 8)), some (.d ed8), some (.d ci8), some (.d (.int 5)), envR (rB8_5 sc X) 6, envR (rB8_5 sc X) 7, envR (rB8_5 sc X) 8, some (.d ln8), none, none, none, none, none, none, none]) [.cell X] := by kernel_rfl
noncomputable def rB8_6 (sc : Vl) (X : List D) : Res Fl := kBl [st5 cK, st6 cK, st7 cK, st8 cK, st9 cK, st10 cK, st11 cK, st12 cK] kEnd [some sc, some (.ob 0), some (.d (.int 8)), some (.d ed8), some (.d ci8), some (.d (.int 6)), none, none, none, none, none, none, none, none, none, none, none] [.cell X]
theorem segB8_6 (sc : Vl) (X : List D) : rB8_6 sc X = .ok (.nx [some sc, some (.ob 0), some (.d (.int 8)), some (.d ed8), some (.d ci8), some (.d (.int 6)), envR (rB8_6 sc X) 6, envR (rB8_6 sc X) 7, envR (rB8_6 sc X) 8, some (.d ln8), none, none, none, none, none, none, none]) [.cell X] := by kernel_rfl
noncomputable def rC8_0 (sc : Vl) (X : List D) (v4 v5 v6 v7 v8 : Option Vl) : Res Fl := kBl [st14 cK, st15 cK, st16 cK, st17 cK, st18 cK, st19 cK] kEnd [some sc, some (.ob 0), some (.d (.int 8)), some (.d ed8), v4, v5, v6, v7, v8, some (.d ln8), some (.d (.int 0)), none, none, none, none, none, none] [.cell X]
theorem segC8_0 (sc : Vl) (X : List D) (v4 v5 v6 v7 v8 : Option Vl) : rC8_0 sc X v4 v5 v6 v7 v8 = .ok (.nx [some sc, some (.ob 0), some (.d (.int 8)), some (.d ed8), v4, v5, v6, v7, v8, some (.d ln8), some (.d (.int 0)), envR (rC8_0 sc X v4 v5 v6 v7 v8) 11, envR (rC8_0 sc X v4 v5 v6 v7 v8) 12, none, none, none, none]) [.cell X] := by kernel_rfl
noncomputable def rC8_1 (sc : Vl) (X : List D) (v4 v5 v6 v7 v8 : Option Vl) : Res Fl := kBl [st14 cK, st15 cK, st16 cK, st17 cK, st18 cK, st19 cK] kEnd [some sc, some (.ob 0), some (.d (.int 8)), some (.d ed8), v4, v5, v6, v7, v8, some (.d ln8), some (.d (.int 1)), none, none, none, none, none, none] [.cell X]
theorem segC8_1 (sc : Vl) (X : List D) (v4 v5 v6 v7 v8 : Option Vl) : rC8_1 sc X v4 v5 v6 v7 v8 = .ok (.nx [some sc, some (.ob 0), some (.d (.int 8)), some (.d ed8), v4, v5, v6, v7, v8, some (.d ln8), some (.d (.int 1)), envR (rC8_1 sc X v4 v5 v6 v7 v8) 11, envR (rC8_1 sc X v4 v5 v6 v7 v8) 12, none, none, none, none]) [.cell X] := by kernel_rfl
noncomputable def rC8_2 (sc : Vl) (X : List D) (v4 v5 v6 v7 v8 : Option Vl) : Res Fl := kBl [st14 cK, st15 cK, st16 cK, st17 cK, st18 cK, st19 cK] kEnd [some sc, some (.ob 0), some (.d (.int 8)), some (.d ed8), v4, v5, v6, v7, v8, some (.d ln8), some (.d (.int 2)), none, none, none, none, none, none] [.cell X]
theorem segC8_2 (sc : Vl) (X : List D) (v4 v5 v6 v7 v8 : Option Vl) : rC8_2 sc X v4 v5 v6 v7 v8 = .ok (.nx [some sc, some (.ob 0), some (.d (.int 8)), some (.d ed8), v4, v5, v6, v7, v8, some (.d ln8), some (.d (.int 2)), envR (rC8_2 sc X v4 v5 v6 v7 v8) 11, envR (rC8_2 sc X v4 v5 v6 v7 v8) 12, none, none, none, none]) [.cell X] := by kernel_rfl
noncomputable def rC8_3 (sc : Vl) (X : List D) (v4 v5 v6 v7 v8 : Option Vl) : Res Fl := kBl [st14 cK, st15 cK, st16 cK, st17 cK, st18 cK, st19 cK] kEnd [some sc, some (.ob 0), some (.d (.int 8)), some (.d ed8), v4, v5, v6, v7, v8, some (.d ln8), some (.d (.int 3)), none, none, none, none, none, none] [.cell X]
theorem segC8_3 (sc : Vl) (X : List D) (v4 v5 v6 v7 v8 : Option Vl) : rC8_3 sc X v4 v5 v6 v7 v8 = .ok (.nx [some sc, some (.ob 0), some (.d (.int 8)), some (.d ed8), v4, v5, v6, v7, v8, some (.d ln8), some (.d (.int 3)), envR (rC8_3 sc X v4 v5 v6 v7 v8) 11, envR (rC8_3 sc X v4 v5 v6 v7 v8) 12, none, none, none, none]) [.cell X] := by kernel_rfl
noncomputable def rC8_4 (sc : Vl) (X : List D) (v4 v5 v6 v7 v8 : Option Vl) : Res Fl := kBl [st14 cK, st15 cK, st16 cK, st17 cK, st18 cK, st19 cK] kEnd [some sc, some (.ob 0), some (.d (.int 8)), some (.d ed8), v4, v5, v6, v7, v8, some (.d ln8), some (.d (.int 4)), none, none, none, none, none, none] [.cell X]
theorem segC8_4 (sc : Vl) (X : List D) (v4 v5 v6 v7 v8 : Option Vl) : rC8_4 sc X v4 v5 v6 v7 v8 = .ok (.nx [some sc, some (.ob 0), some (.d (.int 8)), some (.d ed8), v4, v5, v6, v7, v8, some (.d ln8), some (.d (.int 4)), envR (rC8_4 sc X v4 v5 v6 v7 v8) 11, envR (rC8_4 sc X v4 v5 v6 v7 v8) 12, none, none, none, none]) [.cell X] := by kernel_rfl
noncomputable def rC8_5 (sc : Vl) (X : List D) (v4 v5 v6 v7 v8 : Option Vl) : Res Fl := kBl [st14 cK, st15 cK, st16 cK, st17 cK, st18 cK, st19 cK] kEnd [some sc, some (.ob 0), some (.d (.int 8)), some (.d ed8), v4, v5, v6, v7, v8, some (.d ln8), some (.d (.int 5)), none, none, none, none, none, none] [.cell X]
theorem segC8_5 (sc : Vl) (X : List D) (v4 v5 v6 v7 v8 : Option Vl) : rC8_5 sc X v4 v5 v6 v7 v8 = .ok (.nx [some sc, some (.ob 0), some (.d (.int 8)), some (.d ed8), v4, v5, v6, v7, v8, some (.d ln8), some (.d (.int 5)), envR (rC8_5 sc X v4 v5 v6 v7 v8) 11, envR (rC8_5 sc X v4 v5 v6 v7 v8) 12, none, none, none, none]) [.cell X] := by kernel_rfl
noncomputable def rC8_6 (sc : Vl) (X : List D) (v4 v5 v6 v7 v8 : Option Vl) : Res Fl := kBl [st14 cK, st15 cK, st16 cK, st17 cK, st18 cK, st19 cK] kEnd [some sc, some (.ob 0), some (.d (.int 8)), some (.d ed8), v4, v5, v6, v7, v8, some (.d ln8), some (.d (.int 6)), none, none, none, none, none, none] [.cell X]
theorem segC8_6 (sc : Vl) (X : List D) (v4 v5 v6 v7 v8 : Option Vl) : rC8_6 sc X v4 v5 v6 v7 v8 = .ok (.nx [some sc, some (.ob 0), some (.d (.int 8)), some (.d ed8), v4, v5, v6, v7, v8, some (.d ln8), some (.d (.int 6)), envR (rC8_6 sc X v4 v5 v6 v7 v8) 11, envR (rC8_6 sc X v4 v5 v6 v7 v8) 12, none, none, none, none]) [.cell X] := by kernel_rfl
theorem segD8 (sc : Vl) (X : List D) (v3 v4 v5 v6 v7 v8 v9 v10 v11 v12 : Option Vl) : isRT (kBl [st20 cK, st21 cK, st22 cK] kEnd [some sc, some (.ob 0), some (.d (.int 8)), v3, v4, v5, v6, v7, v8, v9, v10, v11, v12, none, none, none, none] [.cell X]) = true := by kernel_rfl
end Lk32

set_option Elab.async false
set_option linter.all false
set_option maxRecDepth 100000
set_option maxHeartbeats 0
namespace Lk32
open PySem PySem.Spec L2 Mx
theorem kBl_ex {l : List KS} {r : KS} {env env' : Mx.Env} {w w' : Wd} (h : kBl l kEnd env w = .ok (.nx env') w') (g : ∃ w2, r env' w' = .ok (.rt (.d (.bool true))) w2) : ∃ w2, kBl l r env w = .ok (.rt (.d (.bool true))) w2 := by
  rw [kBl_ok l r h]
  exact g
theorem asg_ok {i : Nat} {a : KE} {env : Mx.Env} {w w' : Wd} {v : Vl} (h : a env w = .ok v w') : kBl [kAsg i a] kEnd env w = .ok (.nx (setE i (some v) env)) w' := by
  show rb (rb (a env w) _) _ = _
  rw [h]
  show rb (frc (setE i (some v) env) fun env => Res.ok (Fl.nx env) w') _ = _
  rw [frc_eq]
  rfl
theorem draw (ns rest : List Int) (t L : Int) (hl : rest.length = ns.length) (hm : ns.length ≤ most) (h0 : 0 ≤ t) (h1 : t < 2 ^ 60) (hL : 0 < L) (hL2 : L < 1073741824) :
    ∃ (r : Int) (rest' : List Int), 0 ≤ r ∧ r < L ∧ rest'.length = ns.length ∧ cK.call 61 [.d (T ns), .ob 0, .d (T L)] [.cell ((t :: rest).map T)] = .ok (.d (T r)) [.cell (((t + 1) :: rest').map T)] := by
  obtain ⟨r, rest', a, b, c, d⟩ := c_draw (tb := tbOf es) (F := 100) (fd := 61) rfl 38 ns rest t L [] hl hm h0 h1 hL hL2
  rw [kcall] at d
  exact ⟨r, rest', a, b, c.trans hl, d⟩
theorem runC3 (ns : List Int) (X : List D) (v4 v5 v6 v7 v8 : Option Vl) (cut : Int) (h0 : 0 ≤ cut) (h1 : cut < 2) : ∃ w, (kBl [st14 cK, st15 cK, st16 cK, st17 cK, st18 cK, st19 cK] (kBl [st20 cK, st21 cK, st22 cK] kEnd)) [some (.d (T ns)), some (.ob 0), some (.d (.int 3)), some (.d ed3), v4, v5, v6, v7, v8, some (.d ln3), some (.d (T cut)), none, none, none, none, none, none] [.cell X] = .ok (.rt (.d (.bool true))) w := by
  have : cut = 0 ∨ cut = 1 := by omega
  rcases this with rfl | rfl
  · exact kBl_ex (segC3_0 (.d (T ns)) X v4 v5 v6 v7 v8) (isRT_ok (segD3 ..))
  · exact kBl_ex (segC3_1 (.d (T ns)) X v4 v5 v6 v7 v8) (isRT_ok (segD3 ..))
theorem runB3 (ns rest : List Int) (hl : rest.length = ns.length) (hm : ns.length ≤ most) (at_ : Int) (h0 : 0 ≤ at_) (h1 : at_ < 2) : ∃ w, (kBl [st5 cK, st6 cK, st7 cK, st8 cK, st9 cK, st10 cK, st11 cK, st12 cK] (kBl [st13 cK] (kBl [st14 cK, st15 cK, st16 cK, st17 cK, st18 cK, st19 cK] (kBl [st20 cK, st21 cK, st22 cK] kEnd)))) [some (.d (T ns)), some (.ob 0), some (.d (.int 3)), some (.d ed3), some (.d ci3), some (.d (T at_)), none, none, none, none, none, none, none, none, none, none, none] [.cell ((2 :: rest).map T)] = .ok (.rt (.d (.bool true))) w := by
  obtain ⟨r, rest2, a1, a2, a3, a4⟩ := draw ns rest 2 2 hl hm (by decide) (by decide) (by decide) (by decide)
  have : at_ = 0 ∨ at_ = 1 := by omega
  rcases this with rfl | rfl
  · exact kBl_ex (segB3_0 (.d (T ns)) ((2 :: rest).map T)) (kBl_ex (asg_ok (i := 10) (w' := [.cell ((3 :: rest2).map T)]) (v := .d (T r)) a4) (runC3 ns _ _ _ _ _ _ r a1 a2))
  · exact kBl_ex (segB3_1 (.d (T ns)) ((2 :: rest).map T)) (kBl_ex (asg_ok (i := 10) (w' := [.cell ((3 :: rest2).map T)]) (v := .d (T r)) a4) (runC3 ns _ _ _ _ _ _ r a1 a2))
theorem runA3 (ns rest : List Int) (hl : rest.length = ns.length) (hm : ns.length ≤ most) : ∃ w, (kBl [st2 cK, st3 cK] (kBl [st4 cK] (kBl [st5 cK, st6 cK, st7 cK, st8 cK, st9 cK, st10 cK, st11 cK, st12 cK] (kBl [st13 cK] (kBl [st14 cK, st15 cK, st16 cK, st17 cK, st18 cK, st19 cK] (kBl [st20 cK, st21 cK, st22 cK] kEnd)))))) [some (.d (T ns)), some (.ob 0), some (.d (.int 3)), none, none, none, none, none, none, none, none, none, none, none, none, none, none] [.cell ((1 :: rest).map T)] = .ok (.rt (.d (.bool true))) w := by
  obtain ⟨r, rest2, a1, a2, a3, a4⟩ := draw ns rest 1 2 hl hm (by decide) (by decide) (by decide) (by decide)
  exact kBl_ex (segA3 (.d (T ns)) ((1 :: rest).map T)) (kBl_ex (asg_ok (i := 5) (w' := [.cell ((2 :: rest2).map T)]) (v := .d (T r)) a4) (runB3 ns rest2 a3 hm r a1 a2))
theorem runC4 (ns : List Int) (X : List D) (v4 v5 v6 v7 v8 : Option Vl) (cut : Int) (h0 : 0 ≤ cut) (h1 : cut < 3) : ∃ w, (kBl [st14 cK, st15 cK, st16 cK, st17 cK, st18 cK, st19 cK] (kBl [st20 cK, st21 cK, st22 cK] kEnd)) [some (.d (T ns)), some (.ob 0), some (.d (.int 4)), some (.d ed4), v4, v5, v6, v7, v8, some (.d ln4), some (.d (T cut)), none, none, none, none, none, none] [.cell X] = .ok (.rt (.d (.bool true))) w := by
  have : cut = 0 ∨ cut = 1 ∨ cut = 2 := by omega
  rcases this with rfl | rfl | rfl
  · exact kBl_ex (segC4_0 (.d (T ns)) X v4 v5 v6 v7 v8) (isRT_ok (segD4 ..))
  · exact kBl_ex (segC4_1 (.d (T ns)) X v4 v5 v6 v7 v8) (isRT_ok (segD4 ..))
  · exact kBl_ex (segC4_2 (.d (T ns)) X v4 v5 v6 v7 v8) (isRT_ok (segD4 ..))
theorem runB4 (ns rest : List Int) (hl : rest.length = ns.length) (hm : ns.length ≤ most) (at_ : Int) (h0 : 0 ≤ at_) (h1 : at_ < 3) : ∃ w, (kBl [st5 cK, st6 cK, st7 cK, st8 cK, st9 cK, st10 cK, st11 cK, st12 cK] (kBl [st13 cK] (kBl [st14 cK, st15 cK, st16 cK, st17 cK, st18 cK, st19 cK] (kBl [st20 cK, st21 cK, st22 cK] kEnd)))) [some (.d (T ns)), some (.ob 0), some (.d (.int 4)), some (.d ed4), some (.d ci4), some (.d (T at_)), none, none, none, none, none, none, none, none, none, none, none] [.cell ((2 :: rest).map T)] = .ok (.rt (.d (.bool true))) w := by
  obtain ⟨r, rest2, a1, a2, a3, a4⟩ := draw ns rest 2 3 hl hm (by decide) (by decide) (by decide) (by decide)
  have : at_ = 0 ∨ at_ = 1 ∨ at_ = 2 := by omega
  rcases this with rfl | rfl | rfl
  · exact kBl_ex (segB4_0 (.d (T ns)) ((2 :: rest).map T)) (kBl_ex (asg_ok (i := 10) (w' := [.cell ((3 :: rest2).map T)]) (v := .d (T r)) a4) (runC4 ns _ _ _ _ _ _ r a1 a2))
  · exact kBl_ex (segB4_1 (.d (T ns)) ((2 :: rest).map T)) (kBl_ex (asg_ok (i := 10) (w' := [.cell ((3 :: rest2).map T)]) (v := .d (T r)) a4) (runC4 ns _ _ _ _ _ _ r a1 a2))
  · exact kBl_ex (segB4_2 (.d (T ns)) ((2 :: rest).map T)) (kBl_ex (asg_ok (i := 10) (w' := [.cell ((3 :: rest2).map T)]) (v := .d (T r)) a4) (runC4 ns _ _ _ _ _ _ r a1 a2))
theorem runA4 (ns rest : List Int) (hl : rest.length = ns.length) (hm : ns.length ≤ most) : ∃ w, (kBl [st2 cK, st3 cK] (kBl [st4 cK] (kBl [st5 cK, st6 cK, st7 cK, st8 cK, st9 cK, st10 cK, st11 cK, st12 cK] (kBl [st13 cK] (kBl [st14 cK, st15 cK, st16 cK, st17 cK, st18 cK, st19 cK] (kBl [st20 cK, st21 cK, st22 cK] kEnd)))))) [some (.d (T ns)), some (.ob 0), some (.d (.int 4)), none, none, none, none, none, none, none, none, none, none, none, none, none, none] [.cell ((1 :: rest).map T)] = .ok (.rt (.d (.bool true))) w := by
  obtain ⟨r, rest2, a1, a2, a3, a4⟩ := draw ns rest 1 3 hl hm (by decide) (by decide) (by decide) (by decide)
  exact kBl_ex (segA4 (.d (T ns)) ((1 :: rest).map T)) (kBl_ex (asg_ok (i := 5) (w' := [.cell ((2 :: rest2).map T)]) (v := .d (T r)) a4) (runB4 ns rest2 a3 hm r a1 a2))
theorem runC5 (ns : List Int) (X : List D) (v4 v5 v6 v7 v8 : Option Vl) (cut : Int) (h0 : 0 ≤ cut) (h1 : cut < 4) : ∃ w, (kBl [st14 cK, st15 cK, st16 cK, st17 cK, st18 cK, st19 cK] (kBl [st20 cK, st21 cK, st22 cK] kEnd)) [some (.d (T ns)), some (.ob 0), some (.d (.int 5)), some (.d ed5), v4, v5, v6, v7, v8, some (.d ln5), some (.d (T cut)), none, none, none, none, none, none] [.cell X] = .ok (.rt (.d (.bool true))) w := by
  have : cut = 0 ∨ cut = 1 ∨ cut = 2 ∨ cut = 3 := by omega
  rcases this with rfl | rfl | rfl | rfl
  · exact kBl_ex (segC5_0 (.d (T ns)) X v4 v5 v6 v7 v8) (isRT_ok (segD5 ..))
  · exact kBl_ex (segC5_1 (.d (T ns)) X v4 v5 v6 v7 v8) (isRT_ok (segD5 ..))
  · exact kBl_ex (segC5_2 (.d (T ns)) X v4 v5 v6 v7 v8) (isRT_ok (segD5 ..))
  · exact kBl_ex (segC5_3 (.d (T ns)) X v4 v5 v6 v7 v8) (isRT_ok (segD5 ..))
theorem runB5 (ns rest : List Int) (hl : rest.length = ns.length) (hm : ns.length ≤ most) (at_ : Int) (h0 : 0 ≤ at_) (h1 : at_ < 4) : ∃ w, (kBl [st5 cK, st6 cK, st7 cK, st8 cK, st9 cK, st10 cK, st11 cK, st12 cK] (kBl [st13 cK] (kBl [st14 cK, st15 cK, st16 cK, st17 cK, st18 cK, st19 cK] (kBl [st20 cK, st21 cK, st22 cK] kEnd)))) [some (.d (T ns)), some (.ob 0), some (.d (.int 5)), some (.d ed5), some (.d ci5), some (.d (T at_)), none, none, none, none, none, none, none, none, none, none, none] [.cell ((2 :: rest).map T)] = .ok (.rt (.d (.bool true))) w := by
  obtain ⟨r, rest2, a1, a2, a3, a4⟩ := draw ns rest 2 4 hl hm (by decide) (by decide) (by decide) (by decide)
  have : at_ = 0 ∨ at_ = 1 ∨ at_ = 2 ∨ at_ = 3 := by omega
  rcases this with rfl | rfl | rfl | rfl
  · exact kBl_ex (segB5_0 (.d (T ns)) ((2 :: rest).map T)) (kBl_ex (asg_ok (i := 10) (w' := [.cell ((3 :: rest2).map T)]) (v := .d (T r)) a4) (runC5 ns _ _ _ _ _ _ r a1 a2))
  · exact kBl_ex (segB5_1 (.d (T ns)) ((2 :: rest).map T)) (kBl_ex (asg_ok (i := 10) (w' := [.cell ((3 :: rest2).map T)]) (v := .d (T r)) a4) (runC5 ns _ _ _ _ _ _ r a1 a2))
  · exact kBl_ex (segB5_2 (.d (T ns)) ((2 :: rest).map T)) (kBl_ex (asg_ok (i := 10) (w' := [.cell ((3 :: rest2).map T)]) (v := .d (T r)) a4) (runC5 ns _ _ _ _ _ _ r a1 a2))
  · exact kBl_ex (segB5_3 (.d (T ns)) ((2 :: rest).map T)) (kBl_ex (asg_ok (i := 10) (w' := [.cell ((3 :: rest2).map T)]) (v := .d (T r)) a4) (runC5 ns _ _ _ _ _ _ r a1 a2))
theorem runA5 (ns rest : List Int) (hl : rest.length = ns.length) (hm : ns.length ≤ most) : ∃ w, (kBl [st2 cK, st3 cK] (kBl [st4 cK] (kBl [st5 cK, st6 cK, st7 cK, st8 cK, st9 cK, st10 cK, st11 cK, st12 cK] (kBl [st13 cK] (kBl [st14 cK, st15 cK, st16 cK, st17 cK, st18 cK, st19 cK] (kBl [st20 cK, st21 cK, st22 cK] kEnd)))))) [some (.d (T ns)), some (.ob 0), some (.d (.int 5)), none, none, none, none, none, none, none, none, none, none, none, none, none, none] [.cell ((1 :: rest).map T)] = .ok (.rt (.d (.bool true))) w := by
  obtain ⟨r, rest2, a1, a2, a3, a4⟩ := draw ns rest 1 4 hl hm (by decide) (by decide) (by decide) (by decide)
  exact kBl_ex (segA5 (.d (T ns)) ((1 :: rest).map T)) (kBl_ex (asg_ok (i := 5) (w' := [.cell ((2 :: rest2).map T)]) (v := .d (T r)) a4) (runB5 ns rest2 a3 hm r a1 a2))
theorem runC6 (ns : List Int) (X : List D) (v4 v5 v6 v7 v8 : Option Vl) (cut : Int) (h0 : 0 ≤ cut) (h1 : cut < 5) : ∃ w, (kBl [st14 cK, st15 cK, st16 cK, st17 cK, st18 cK, st19 cK] (kBl [st20 cK, st21 cK, st22 cK] kEnd)) [some (.d (T ns)), some (.ob 0), some (.d (.int 6)), some (.d ed6), v4, v5, v6, v7, v8, some (.d ln6), some (.d (T cut)), none, none, none, none, none, none] [.cell X] = .ok (.rt (.d (.bool true))) w := by
  have : cut = 0 ∨ cut = 1 ∨ cut = 2 ∨ cut = 3 ∨ cut = 4 := by omega
  rcases this with rfl | rfl | rfl | rfl | rfl
  · exact kBl_ex (segC6_0 (.d (T ns)) X v4 v5 v6 v7 v8) (isRT_ok (segD6 ..))
  · exact kBl_ex (segC6_1 (.d (T ns)) X v4 v5 v6 v7 v8) (isRT_ok (segD6 ..))
  · exact kBl_ex (segC6_2 (.d (T ns)) X v4 v5 v6 v7 v8) (isRT_ok (segD6 ..))
  · exact kBl_ex (segC6_3 (.d (T ns)) X v4 v5 v6 v7 v8) (isRT_ok (segD6 ..))
  · exact kBl_ex (segC6_4 (.d (T ns)) X v4 v5 v6 v7 v8) (isRT_ok (segD6 ..))
theorem runB6 (ns rest : List Int) (hl : rest.length = ns.length) (hm : ns.length ≤ most) (at_ : Int) (h0 : 0 ≤ at_) (h1 : at_ < 5) : ∃ w, (kBl [st5 cK, st6 cK, st7 cK, st8 cK, st9 cK, st10 cK, st11 cK, st12 cK] (kBl [st13 cK] (kBl [st14 cK, st15 cK, st16 cK, st17 cK, st18 cK, st19 cK] (kBl [st20 cK, st21 cK, st22 cK] kEnd)))) [some (.d (T ns)), some (.ob 0), some (.d (.int 6)), some (.d ed6), some (.d ci6), some (.d (T at_)), none, none, none, none, none, none, none, none, none, none, none] [.cell ((2 :: rest).map T)] = .ok (.rt (.d (.bool true))) w := by
  obtain ⟨r, rest2, a1, a2, a3, a4⟩ := draw ns rest 2 5 hl hm (by decide) (by decide) (by decide) (by decide)
  have : at_ = 0 ∨ at_ = 1 ∨ at_ = 2 ∨ at_ = 3 ∨ at_ = 4 := by omega
  rcases this with rfl | rfl | rfl | rfl | rfl
  · exact kBl_ex (segB6_0 (.d (T ns)) ((2 :: rest).map T)) (kBl_ex (asg_ok (i := 10) (w' := [.cell ((3 :: rest2).map T)]) (v := .d (T r)) a4) (runC6 ns _ _ _ _ _ _ r a1 a2))
  · exact kBl_ex (segB6_1 (.d (T ns)) ((2 :: rest).map T)) (kBl_ex (asg_ok (i := 10) (w' := [.cell ((3 :: rest2).map T)]) (v := .d (T r)) a4) (runC6 ns _ _ _ _ _ _ r a1 a2))
  · exact kBl_ex (segB6_2 (.d (T ns)) ((2 :: rest).map T)) (kBl_ex (asg_ok (i := 10) (w' := [.cell ((3 :: rest2).map T)]) (v := .d (T r)) a4) (runC6 ns _ _ _ _ _ _ r a1 a2))
  · exact kBl_ex (segB6_3 (.d (T ns)) ((2 :: rest).map T)) (kBl_ex (asg_ok (i := 10) (w' := [.cell ((3 :: rest2).map T)]) (v := .d (T r)) a4) (runC6 ns _ _ _ _ _ _ r a1 a2))
  · exact kBl_ex (segB6_4 (.d (T ns)) ((2 :: rest).map T)) (kBl_ex (asg_ok (i := 10) (w' := [.cell ((3 :: rest2).map T)]) (v := .d (T r)) a4) (runC6 ns _ _ _ _ _ _ r a1 a2))
theorem runA6 (ns rest : List Int) (hl : rest.length = ns.length) (hm : ns.length ≤ most) : ∃ w, (kBl [st2 cK, st3 cK] (kBl [st4 cK] (kBl [st5 cK, st6 cK, st7 cK, st8 cK, st9 cK, st10 cK, st11 cK, st12 cK] (kBl [st13 cK] (kBl [st14 cK, st15 cK, st16 cK, st17 cK, st18 cK, st19 cK] (kBl [st20 cK, st21 cK, st22 cK] kEnd)))))) [some (.d (T ns)), some (.ob 0), some (.d (.int 6)), none, none, none, none, none, none, none, none, none, none, none, none, none, none] [.cell ((1 :: rest).map T)] = .ok (.rt (.d (.bool true))) w := by
  obtain ⟨r, rest2, a1, a2, a3, a4⟩ := draw ns rest 1 5 hl hm (by decide) (by decide) (by decide) (by decide)
  exact kBl_ex (segA6 (.d (T ns)) ((1 :: rest).map T)) (kBl_ex (asg_ok (i := 5) (w' := [.cell ((2 :: rest2).map T)]) (v := .d (T r)) a4) (runB6 ns rest2 a3 hm r a1 a2))
theorem runC7 (ns : List Int) (X : List D) (v4 v5 v6 v7 v8 : Option Vl) (cut : Int) (h0 : 0 ≤ cut) (h1 : cut < 6) : ∃ w, (kBl [st14 cK, st15 cK, st16 cK, st17 cK, st18 cK, st19 cK] (kBl [st20 cK, st21 cK, st22 cK] kEnd)) [some (.d (T ns)), some (.ob 0), some (.d (.int 7)), some (.d ed7), v4, v5, v6, v7, v8, some (.d ln7), some (.d (T cut)), none, none, none, none, none, none] [.cell X] = .ok (.rt (.d (.bool true))) w := by
  have : cut = 0 ∨ cut = 1 ∨ cut = 2 ∨ cut = 3 ∨ cut = 4 ∨ cut = 5 := by omega
  rcases this with rfl | rfl | rfl | rfl | rfl | rfl
  · exact kBl_ex (segC7_0 (.d (T ns)) X v4 v5 v6 v7 v8) (isRT_ok (segD7 ..))
  · exact kBl_ex (segC7_1 (.d (T ns)) X v4 v5 v6 v7 v8) (isRT_ok (segD7 ..))
  · exact kBl_ex (segC7_2 (.d (T ns)) X v4 v5 v6 v7 v8) (isRT_ok (segD7 ..))
  · exact kBl_ex (segC7_3 (.d (T ns)) X v4 v5 v6 v7 v8) (isRT_ok (segD7 ..))
  · exact kBl_ex (segC7_4 (.d (T ns)) X v4 v5 v6 v7 v8) (isRT_ok (segD7 ..))
  · exact kBl_ex (segC7_5 (.d (T ns)) X v4 v5 v6 v7 v8) (isRT_ok (segD7 ..))
theorem runB7 (ns rest : List Int) (hl : rest.length = ns.length) (hm : ns.length ≤ most) (at_ : Int) (h0 : 0 ≤ at_) (h1 : at_ < 6) : ∃ w, (kBl [st5 cK, st6 cK, st7 cK, st8 cK, st9 cK, st10 cK, st11 cK, st12 cK] (kBl [st13 cK] (kBl [st14 cK, st15 cK, st16 cK, st17 cK, st18 cK, st19 cK] (kBl [st20 cK, st21 cK, st22 cK] kEnd)))) [some (.d (T ns)), some (.ob 0), some (.d (.int 7)), some (.d ed7), some (.d ci7), some (.d (T at_)), none, none, none, none, none, none, none, none, none, none, none] [.cell ((2 :: rest).map T)] = .ok (.rt (.d (.bool true))) w := by
  obtain ⟨r, rest2, a1, a2, a3, a4⟩ := draw ns rest 2 6 hl hm (by decide) (by decide) (by decide) (by decide)
  have : at_ = 0 ∨ at_ = 1 ∨ at_ = 2 ∨ at_ = 3 ∨ at_ = 4 ∨ at_ = 5 := by omega
  rcases this with rfl | rfl | rfl | rfl | rfl | rfl
  · exact kBl_ex (segB7_0 (.d (T ns)) ((2 :: rest).map T)) (kBl_ex (asg_ok (i := 10) (w' := [.cell ((3 :: rest2).map T)]) (v := .d (T r)) a4) (runC7 ns _ _ _ _ _ _ r a1 a2))
  · exact kBl_ex (segB7_1 (.d (T ns)) ((2 :: rest).map T)) (kBl_ex (asg_ok (i := 10) (w' := [.cell ((3 :: rest2).map T)]) (v := .d (T r)) a4) (runC7 ns _ _ _ _ _ _ r a1 a2))
  · exact kBl_ex (segB7_2 (.d (T ns)) ((2 :: rest).map T)) (kBl_ex (asg_ok (i := 10) (w' := [.cell ((3 :: rest2).map T)]) (v := .d (T r)) a4) (runC7 ns _ _ _ _ _ _ r a1 a2))
  · exact kBl_ex (segB7_3 (.d (T ns)) ((2 :: rest).map T)) (kBl_ex (asg_ok (i := 10) (w' := [.cell ((3 :: rest2).map T)]) (v := .d (T r)) a4) (runC7 ns _ _ _ _ _ _ r a1 a2))
  · exact kBl_ex (segB7_4 (.d (T ns)) ((2 :: rest).map T)) (kBl_ex (asg_ok (i := 10) (w' := [.cell ((3 :: rest2).map T)]) (v := .d (T r)) a4) (runC7 ns _ _ _ _ _ _ r a1 a2))
  · exact kBl_ex (segB7_5 (.d (T ns)) ((2 :: rest).map T)) (kBl_ex (asg_ok (i := 10) (w' := [.cell ((3 :: rest2).map T)]) (v := .d (T r)) a4) (runC7 ns _ _ _ _ _ _ r a1 a2))
theorem runA7 (ns rest : List Int) (hl : rest.length = ns.length) (hm : ns.length ≤ most) : ∃ w, (kBl [st2 cK, st3 cK] (kBl [st4 cK] (kBl [st5 cK, st6 cK, st7 cK, st8 cK, st9 cK, st10 cK, st11 cK, st12 cK] (kBl [st13 cK] (kBl [st14 cK, st15 cK, st16 cK, st17 cK, st18 cK, st19 cK] (kBl [st20 cK, st21 cK, st22 cK] kEnd)))))) [some (.d (T ns)), some (.ob 0), some (.d (.int 7)), none, none, none, none, none, none, none, none, none, none, none, none, none, none] [.cell ((1 :: rest).map T)] = .ok (.rt (.d (.bool true))) w := by
  obtain ⟨r, rest2, a1, a2, a3, a4⟩ := draw ns rest 1 6 hl hm (by decide) (by decide) (by decide) (by decide)
  exact kBl_ex (segA7 (.d (T ns)) ((1 :: rest).map T)) (kBl_ex (asg_ok (i := 5) (w' := [.cell ((2 :: rest2).map T)]) (v := .d (T r)) a4) (runB7 ns rest2 a3 hm r a1 a2))
theorem runC8 (ns : List Int) (X : List D) (v4 v5 v6 v7 v8 : Option Vl) (cut : Int) (h0 : 0 ≤ cut) (h1 : cut < 7) : ∃ w, (kBl [st14 cK, st15 cK, st16 cK, st17 cK, st18 cK, st19 cK] (kBl [st20 cK, st21 cK, st22 cK] kEnd)) [some (.d (T ns)), some (.ob 0), some (.d (.int 8)), some (.d ed8), v4, v5, v6, v7, v8, some (.d ln8), some (.d (T cut)), none, none, none, none, none, none] [.cell X] = .ok (.rt (.d (.bool true))) w := by
  have : cut = 0 ∨ cut = 1 ∨ cut = 2 ∨ cut = 3 ∨ cut = 4 ∨ cut = 5 ∨ cut = 6 := by omega
  rcases this with rfl | rfl | rfl | rfl | rfl | rfl | rfl
  · exact kBl_ex (segC8_0 (.d (T ns)) X v4 v5 v6 v7 v8) (isRT_ok (segD8 ..))
  · exact kBl_ex (segC8_1 (.d (T ns)) X v4 v5 v6 v7 v8) (isRT_ok (segD8 ..))
  · exact kBl_ex (segC8_2 (.d (T ns)) X v4 v5 v6 v7 v8) (isRT_ok (segD8 ..))
  · exact kBl_ex (segC8_3 (.d (T ns)) X v4 v5 v6 v7 v8) (isRT_ok (segD8 ..))
  · exact kBl_ex (segC8_4 (.d (T ns)) X v4 v5 v6 v7 v8) (isRT_ok (segD8 ..))
  · exact kBl_ex (segC8_5 (.d (T ns)) X v4 v5 v6 v7 v8) (isRT_ok (segD8 ..))
  · exact kBl_ex (segC8_6 (.d (T ns)) X v4 v5 v6 v7 v8) (isRT_ok (segD8 ..))
theorem runB8 (ns rest : List Int) (hl : rest.length = ns.length) (hm : ns.length ≤ most) (at_ : Int) (h0 : 0 ≤ at_) (h1 : at_ < 7) : ∃ w, (kBl [st5 cK, st6 cK, st7 cK, st8 cK, st9 cK, st10 cK, st11 cK, st12 cK] (kBl [st13 cK] (kBl [st14 cK, st15 cK, st16 cK, st17 cK, st18 cK, st19 cK] (kBl [st20 cK, st21 cK, st22 cK] kEnd)))) [some (.d (T ns)), some (.ob 0), some (.d (.int 8)), some (.d ed8), some (.d ci8), some (.d (T at_)), none, none, none, none, none, none, none, none, none, none, none] [.cell ((2 :: rest).map T)] = .ok (.rt (.d (.bool true))) w := by
  obtain ⟨r, rest2, a1, a2, a3, a4⟩ := draw ns rest 2 7 hl hm (by decide) (by decide) (by decide) (by decide)
  have : at_ = 0 ∨ at_ = 1 ∨ at_ = 2 ∨ at_ = 3 ∨ at_ = 4 ∨ at_ = 5 ∨ at_ = 6 := by omega
  rcases this with rfl | rfl | rfl | rfl | rfl | rfl | rfl
  · exact kBl_ex (segB8_0 (.d (T ns)) ((2 :: rest).map T)) (kBl_ex (asg_ok (i := 10) (w' := [.cell ((3 :: rest2).map T)]) (v := .d (T r)) a4) (runC8 ns _ _ _ _ _ _ r a1 a2))
  · exact kBl_ex (segB8_1 (.d (T ns)) ((2 :: rest).map T)) (kBl_ex (asg_ok (i := 10) (w' := [.cell ((3 :: rest2).map T)]) (v := .d (T r)) a4) (runC8 ns _ _ _ _ _ _ r a1 a2))
  · exact kBl_ex (segB8_2 (.d (T ns)) ((2 :: rest).map T)) (kBl_ex (asg_ok (i := 10) (w' := [.cell ((3 :: rest2).map T)]) (v := .d (T r)) a4) (runC8 ns _ _ _ _ _ _ r a1 a2))
  · exact kBl_ex (segB8_3 (.d (T ns)) ((2 :: rest).map T)) (kBl_ex (asg_ok (i := 10) (w' := [.cell ((3 :: rest2).map T)]) (v := .d (T r)) a4) (runC8 ns _ _ _ _ _ _ r a1 a2))
  · exact kBl_ex (segB8_4 (.d (T ns)) ((2 :: rest).map T)) (kBl_ex (asg_ok (i := 10) (w' := [.cell ((3 :: rest2).map T)]) (v := .d (T r)) a4) (runC8 ns _ _ _ _ _ _ r a1 a2))
  · exact kBl_ex (segB8_5 (.d (T ns)) ((2 :: rest).map T)) (kBl_ex (asg_ok (i := 10) (w' := [.cell ((3 :: rest2).map T)]) (v := .d (T r)) a4) (runC8 ns _ _ _ _ _ _ r a1 a2))
  · exact kBl_ex (segB8_6 (.d (T ns)) ((2 :: rest).map T)) (kBl_ex (asg_ok (i := 10) (w' := [.cell ((3 :: rest2).map T)]) (v := .d (T r)) a4) (runC8 ns _ _ _ _ _ _ r a1 a2))
theorem runA8 (ns rest : List Int) (hl : rest.length = ns.length) (hm : ns.length ≤ most) : ∃ w, (kBl [st2 cK, st3 cK] (kBl [st4 cK] (kBl [st5 cK, st6 cK, st7 cK, st8 cK, st9 cK, st10 cK, st11 cK, st12 cK] (kBl [st13 cK] (kBl [st14 cK, st15 cK, st16 cK, st17 cK, st18 cK, st19 cK] (kBl [st20 cK, st21 cK, st22 cK] kEnd)))))) [some (.d (T ns)), some (.ob 0), some (.d (.int 8)), none, none, none, none, none, none, none, none, none, none, none, none, none, none] [.cell ((1 :: rest).map T)] = .ok (.rt (.d (.bool true))) w := by
  obtain ⟨r, rest2, a1, a2, a3, a4⟩ := draw ns rest 1 7 hl hm (by decide) (by decide) (by decide) (by decide)
  exact kBl_ex (segA8 (.d (T ns)) ((1 :: rest).map T)) (kBl_ex (asg_ok (i := 5) (w' := [.cell ((2 :: rest2).map T)]) (v := .d (T r)) a4) (runB8 ns rest2 a3 hm r a1 a2))
theorem hlaw (ns : List Int) (hn : ns.length ≤ 63) : (callN (tbOf es) 100 40 62 [.d (.list (ns.map PyData.int))] []).sat fun x _ => x = .d (.bool true) := by
  have hm : ns.length ≤ most := Nat.le_trans hn (by decide)
  have key : ∃ w, k_law.body cK (startE f_law.N [.d (T ns)]) [] = .ok (.rt (.d (.bool true))) w := by
    have t0 : cK.call 60 [.d (T ns)] [] = .ok (.ob 0) [.cell ((0 :: ns).map T)] := by
      have := c_town (tb := tbOf es) (F := 100) (ft := 60) rfl 38 ns (Nat.le_trans (Nat.succ_le_succ hn) (by decide))
      rw [kcall] at this
      exact this
    obtain ⟨r, rest, a1, a2, a3, a4⟩ := draw ns ns 0 6 rfl hm (by decide) (by decide) (by decide) (by decide)
    rw [body_eq]
    show ∃ w, (kBl [st0 cK] (kBl [st1 cK] (kBl [st2 cK, st3 cK] (kBl [st4 cK] (kBl [st5 cK, st6 cK, st7 cK, st8 cK, st9 cK, st10 cK, st11 cK, st12 cK] (kBl [st13 cK] (kBl [st14 cK, st15 cK, st16 cK, st17 cK, st18 cK, st19 cK] (kBl [st20 cK, st21 cK, st22 cK] kEnd)))))))) [some (.d (T ns)), none, none, none, none, none, none, none, none, none, none, none, none, none, none, none, none] [] = .ok (.rt (.d (.bool true))) w
    refine kBl_ex (asg_ok (i := 1) (w' := [.cell ((0 :: ns).map T)]) (v := .ob 0) t0) ?_
    have t1 : kB addD (kOk (.d (.int 3))) (kCall cK 61 (kACons (kSlot 0) (kACons (kSlot 1) (kACons (kOk (.d (.int 6))) kANil)))) [some (.d (T ns)), some (.ob 0), none, none, none, none, none, none, none, none, none, none, none, none, none, none, none] [.cell ((0 :: ns).map T)] = .ok (.d (T (3 + r))) [.cell ((1 :: rest).map T)] := by
      show db (cK.call 61 [.d (T ns), .ob 0, .d (T (6 : Int))] [.cell ((0 :: ns).map T)]) _ = _
      rw [a4]
      rfl
    refine kBl_ex (asg_ok (i := 2) (w' := [.cell ((1 :: rest).map T)]) (v := .d (T (3 + r))) t1) ?_
    have : r = 0 ∨ r = 1 ∨ r = 2 ∨ r = 3 ∨ r = 4 ∨ r = 5 := by omega
    rcases this with rfl | rfl | rfl | rfl | rfl | rfl
    · exact runA3 ns rest a3 hm
    · exact runA4 ns rest a3 hm
    · exact runA5 ns rest a3 hm
    · exact runA6 ns rest a3 hm
    · exact runA7 ns rest a3 hm
    · exact runA8 ns rest a3 hm
  obtain ⟨w, hw⟩ := key
  have hc : (⟨callN (tbOf es) 100 39, 100⟩ : Cfg) = cK := by unfold cK; rw [kcall]
  rw [callS p16 rfl, hc, kok_law.2.2]
  show Res.sat (Res.bind (k_law.body cK (startE f_law.N [.d (T ns)]) []) _) _
  rw [hw]
  show Res.sat (Res.ok _ _) _
  rfl
theorem done : PySem.Challenge.rw_morsematch_k32_cancel_by_hand.Holds := holds 100 hlaw
end Lk32

open PySem PySem.W PyProof.Rows
set_option Elab.async false
set_option maxRecDepth 100000 in
set_option maxHeartbeats 8000000 in
theorem PySem.Challenge.cw_morsematch_k32_cancel_by_hand_holds : PySem.Challenge.rw_morsematch_k32_cancel_by_hand.Holds := by
  exact Lk32.done
