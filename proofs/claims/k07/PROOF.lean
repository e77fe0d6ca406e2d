import PyProof.Rows.All
import Wide.All
import OpenK.AllK
import Wide.FinOn
import HandS.ForMost
import KE.LtData
import HandS.Sort
import KE.KDictKeyed
import KE.SortData
import KE.DataCmp
import HandS.TupAny
import HandS.TupMul
import HandS.Deep
import KE.KDictLaw
import HandS.Conv
import KE.KDictCopyH
import HandS.TupSets
import KE.DataMinMax
import HandS.Star
import HandS.Flow
import HandS.ReCall
import HandS.IsInst
import KE.GoesMore
import HandS.Iter
import KE.GoesEnum
import HandS.Comp
import HandS.SetFor
import HandS.Strs
import KE.KDictWalk
import HandS.SetKeys
import HandS.DictTup
import HandS.Defaults
import HandS.Head0
import HandS.Head1
import HandS.Head2
import HandS.HeadEnd
import HandS.HeadHook1
import HandS.HeadHook2
import PySem.Challenge.RW_roletalks_k07_whole_bad_says
set_option Elab.async false
set_option linter.all false
namespace Rt
open PySem

/-! ### results -/
inductive Res (α : Type) where
  | ok (a : α)
  | exn (c : Nat) (fs : List PyData)
  | bad
def Res.bind {α β : Type} : Res α → (α → Res β) → Res β
  | .ok a, f => f a
  | .exn c fs, _ => .exn c fs
  | .bad, _ => .bad
@[simp] theorem Res.bind_ok {α β : Type} (a : α) (f : α → Res β) : (Res.ok a).bind f = f a := rfl
@[simp] theorem Res.bind_exn {α β : Type} (c : Nat) (fs : List PyData) (f : α → Res β) : (Res.exn c fs).bind f = .exn c fs := rfl
@[simp] theorem Res.bind_bad {α β : Type} (f : α → Res β) : (Res.bad : Res α).bind f = .bad := rfl
theorem Res.bind_eq_ok {α β : Type} {r : Res α} {f : α → Res β} {b : β} (h : r.bind f = .ok b) : ∃ a, r = .ok a ∧ f a = .ok b := by
  cases r with
  | ok a => exact ⟨a, rfl, h⟩
  | exn c fs => cases h
  | bad => cases h
def Res.guard {α : Type} (b : Bool) (r : Res α) : Res α := if b = true then r else .bad
@[simp] theorem Res.guard_true {α : Type} (r : Res α) : Res.guard true r = r := rfl
theorem Res.guard_eq_ok {α : Type} {b : Bool} {r : Res α} {a : α} (h : Res.guard b r = .ok a) : b = true ∧ r = .ok a := by
  cases b with
  | true => exact ⟨rfl, h⟩
  | false => cases h
def Res.get {α : Type} : Option α → Res α
  | some a => .ok a
  | none => .bad
@[simp] theorem Res.get_some {α : Type} (a : α) : Res.get (some a) = .ok a := rfl
theorem Res.get_eq_ok {α : Type} {o : Option α} {a : α} (h : Res.get o = .ok a) : o = some a := by
  cases o with
  | some b => exact congrArg some (Res.ok.inj h)
  | none => cases h

/-- the most items of a list -/
def lim : Nat := 2 ^ 24

/-! ### what a slot holds -/
inductive Ob where
  | lst (ds : List PyData)
  | dct (kvs : List (PyData × PyData))
inductive Sl where
  | un
  | shr (d : PyData)
  | own (o : Ob)
abbrev Rho := List Sl
inductive Rv where
  | val (s : Sl)
  | nam (i : Nat)
def Ob.dat : Ob → PyData
  | .lst ds => .list ds
  | .dct kvs => .dict kvs
def gt (ρ : Rho) (i : Nat) : Sl := ρ.getD i .un
def rdS : Sl → Res PyData
  | .shr d => .ok d
  | .own o => .ok o.dat
  | .un => .bad
/-- the data of a result -/
def rd (ρ : Rho) : Rv → Res PyData
  | .val s => rdS s
  | .nam i => rdS (gt ρ i)
/-- the data of a result that is kept somewhere: it is frozen -/
def stl (ρ : Rho) : Rv → Res (PyData × Rho)
  | .val s => (rdS s).bind fun d => .ok (d, ρ)
  | .nam i => (rdS (gt ρ i)).bind fun d => .ok (d, ρ.set i (.shr d))
/-- a result that goes into a slot: what is new stays owned -/
def tak (ρ : Rho) : Rv → Res (Sl × Rho)
  | .val .un => .bad
  | .val s => .ok (s, ρ)
  | .nam i => (rdS (gt ρ i)).bind fun d => .ok (.shr d, ρ.set i (.shr d))
def rds (ρ : Rho) : List Rv → Res (List PyData)
  | [] => .ok []
  | r :: rs => (rd ρ r).bind fun d => (rds ρ rs).bind fun ds => .ok (d :: ds)

/-! ### operations on data -/
inductive Bop where
  | add | sub | mul | fdiv | mod | pow
  deriving DecidableEq
inductive Cop where
  | eq | ne | lt | le | gt | ge | inn | nin
  deriving DecidableEq
inductive Ty where
  | int | bool | str | tuple | list
  deriving DecidableEq
inductive Bi where
  | len | sorted | sset | lset | sitems | lvals | tuple | list | dict | any | all | sum | min | max | int | str | lrange
  deriving DecidableEq
inductive Me where
  | get | index | count | join | split | replace
  deriving DecidableEq
inductive Mu where
  | append | update | pop
  deriving DecidableEq

def bigI : Int := 18446744073709551616
def okMul (a : Int) : Bool := decide (-bigI < a) && decide (a < bigI)
def binR : Bop → PyData → PyData → Res Sl
  | .add, .int a, .int b => .ok (.shr (.int (a + b)))
  | .add, .str a, .str b => .guard (decide (a.length + b.length ≤ lim)) (.ok (.shr (.str (a ++ b))))
  | .add, .tuple xs, .tuple ys => .guard (decide (xs.length + ys.length ≤ lim)) (.ok (.shr (.tuple (xs ++ ys))))
  | .add, .list xs, .list ys => .guard (decide (xs.length + ys.length ≤ lim)) (.ok (.own (.lst (xs ++ ys))))
  | .sub, .int a, .int b => .ok (.shr (.int (a - b)))
  | .mul, .int a, .int b => .guard (okMul a) (.ok (.shr (.int (a * b))))
  | .mul, .tuple xs, .int b => .guard (!xs.isEmpty && decide (2 ≤ b) && decide (b ≤ 1000) && decide (xs.length ≤ 1000)) (.ok (.shr (.tuple (List.replicate b.toNat xs).flatten)))
  | .fdiv, .int a, .int b => .guard (decide (b ≠ 0) && decide (b.natAbs < 1073741824)) (.ok (.shr (.int (a.fdiv b))))
  | .mod, .int a, .int b => .guard (decide (b ≠ 0)) (.ok (.shr (.int (a.fmod b))))
  | .pow, .int a, .int b => .guard (decide (0 ≤ b) && decide (b ≤ 1000) && okMul a) (.ok (.shr (.int (a ^ b.toNat))))
  | _, _, _ => .bad

/-- data that may be compared for equality -/
def shp (d : PyData) : Bool := SeqAt.shaped d
def eqR : PyData → PyData → Res Bool
  | .int a, .int b => .ok (decide (a = b))
  | .str a, .str b => .ok (decide (a = b))
  | .bool a, .bool b => .ok (decide (a = b))
  | .none, .none => .ok true
  | x, y => .guard (shp x && shp y) (.ok (PyData.eqv x y))
/-- a dict may be held against the empty dict -/
def eqC : PyData → PyData → Res Bool
  | .dict xs, y => (match y with
    | .dict [] => .ok xs.isEmpty
    | y => eqR (.dict xs) y)
  | x, y => eqR x y
mutual
/-- no dict within -/
def noD : PyData → Bool
  | .dict _ => false
  | .list xs => noDs xs
  | .tuple xs => noDs xs
  | _ => true
def noDs : List PyData → Bool
  | [] => true
  | x :: xs => noD x && noDs xs
end
def isNo : PyData → Bool
  | .none => true
  | _ => false
/-- data that may be compared by order -/
def okLt (x y : PyData) : Bool := PySem.W.alike x y && !isNo x && noD x && noD y && decide (x.depth ≤ 64)
def ltR : PyData → PyData → Res Bool
  | .int a, .int b => .ok (decide (a < b))
  | x, y => .guard (okLt x y) (.ok (PySem.W.dataLt x y))
def leR : PyData → PyData → Res Bool
  | .int a, .int b => .ok (decide (a ≤ b))
  | x, y => .guard (okLt x y) (.ok (!PySem.W.dataLt y x))
/-- the value at a key -/
def look (kvs : List (PyData × PyData)) (k : PyData) : Option PyData := (kvs.find? fun p => PyData.eqv p.1 k).map (·.2)
def put (kvs : List (PyData × PyData)) (k v : PyData) : List (PyData × PyData) :=
  if (kvs.any fun p => PyData.eqv p.1 k) = true then kvs.map (fun p => if PyData.eqv p.1 k = true then (p.1, v) else p) else kvs ++ [(k, v)]
mutual
/-- data that may be a key -/
def okKey : Nat → PyData → Bool
  | _, .none => true
  | _, .bool _ => true
  | _, .int _ => true
  | _, .str _ => true
  | n + 1, .tuple xs => okKeys n xs
  | _, _ => false
def okKeys : Nat → List PyData → Bool
  | _, [] => true
  | n, x :: xs => okKey n x && okKeys n xs
end
/-- 0: a number or a text, 1: a tuple of keys -/
def kindK : PyData → Option Nat
  | .int _ => some 0
  | .str _ => some 0
  | .tuple xs => if okKeys 6 xs = true then some 1 else none
  | _ => none
def isKey (d : PyData) : Bool := (kindK d).isSome
/-- the key is of the kind of the dict's keys -/
def okFor (kvs : List (PyData × PyData)) (k : PyData) : Bool := isKey k && match kvs with
  | [] => true
  | p :: _ => decide (kindK p.1 = kindK k)
def inR (x : PyData) : PyData → Res Bool
  | .list ds => .guard (shp x && shp (.list ds)) (.ok (ds.any fun z => PyData.eqv z x))
  | .tuple ds => .guard (shp x && shp (.tuple ds)) (.ok (ds.any fun z => PyData.eqv z x))
  | .dict kvs => .guard (okFor kvs x) (.ok (look kvs x).isSome)
  | .str b => match x with
    | .str a => .ok (!(Builtin.Str.occurrences b a 0 b.length 1).isEmpty)
    | _ => .bad
  | _ => .bad
def cmpR : Cop → PyData → PyData → Res Bool
  | .eq, x, y => eqC x y
  | .ne, x, y => (eqC x y).bind fun b => .ok (!b)
  | .lt, x, y => ltR x y
  | .gt, x, y => ltR y x
  | .le, x, y => leR x y
  | .ge, x, y => leR y x
  | .inn, x, y => inR x y
  | .nin, x, y => (inR x y).bind fun b => .ok (!b)
def at1 (c : Nat) : PyData := .str ⟨#[c]⟩
def idxR : PyData → PyData → Res PyData
  | .list ds, .int i => .get (L2.atI ds i)
  | .tuple ds, .int i => .get (L2.atI ds i)
  | .str z, .int i => .guard (decide (z.length ≤ lim)) ((Res.get (L2.atI z.cps.toList i)).bind fun c => .ok (at1 c))
  | .dict kvs, k => .guard (okFor kvs k) (.get (look kvs k))
  | _, _ => .bad
def cutD {α : Type} (xs : List α) (lo hi : Option Int) : List α := (xs.drop (HT.sIx xs.length 0 lo)).take (HT.sIx xs.length xs.length hi - HT.sIx xs.length 0 lo)
def slcR : PyData → Option Int → Option Int → Res Sl
  | .list ds, lo, hi => .ok (.own (.lst (cutD ds lo hi)))
  | .tuple ds, lo, hi => .ok (.shr (.tuple (cutD ds lo hi)))
  | .str z, lo, hi => .guard (decide (z.length ≤ lim)) (.ok (.shr (.str (L2.cutS z lo hi))))
  | _, _, _ => .bad

/-! ### built-in functions on data -/
def seqD : PyData → Res (List PyData)
  | .list ds => .ok ds
  | .tuple ds => .ok ds
  | .dict kvs => .ok (kvs.map (·.1))
  | _ => .bad
def items : PyData → Res (List PyData)
  | .list ds => .ok ds
  | .tuple ds => .ok ds
  | .dict kvs => .ok (kvs.map (·.1))
  | .str z => .ok (z.cps.toList.map at1)
  | _ => .bad
def alikes : List PyData → Bool
  | [] => true
  | x :: xs => PySem.W.alike x x && xs.all (fun y => PySem.W.alike x y && PySem.W.alike y x) && alikes xs
def isTupC : PyData → Bool
  | .tuple (_ :: _) => true
  | _ => false
def notTN : PyData → Bool
  | .tuple _ => false
  | .none => false
  | _ => true
def okSort (ds : List PyData) : Bool := alikes ds && (decide (ds.length ≤ 1) && ds.all (fun d => !isNo d) || ds.all isTupC || ds.all notTN) && decide (ds.length ≤ lim) && ds.all fun d => decide (d.depth ≤ 64)
def leD (a b : PyData) : Bool := !PySem.W.dataLt b a
def sortD (ds : List PyData) : List PyData := ds.mergeSort leD
def dedup : List PyData → List PyData
  | [] => []
  | x :: xs => x :: (dedup xs).filter fun y => !PyData.eqv x y
def intsOf : List PyData → Option (List Int)
  | [] => some []
  | .int i :: r => (intsOf r).map (i :: ·)
  | _ => none
def boolsOf : List PyData → Option (List Bool)
  | [] => some []
  | .bool i :: r => (boolsOf r).map (i :: ·)
  | _ => none
def strsOf : List PyData → Option (List Str)
  | [] => some []
  | .str i :: r => (strsOf r).map (i :: ·)
  | _ => none
def keysOf : List PyData → Option (List L2.Key)
  | [] => some []
  | .int i :: r => (keysOf r).map (.inl i :: ·)
  | .str i :: r => (keysOf r).map (.inr i :: ·)
  | _ => none
/-- how many differ -/
def nb {α : Type} [DecidableEq α] : List α → Nat
  | [] => 0
  | k :: l => if k ∈ l then nb l else nb l + 1
def pairsOf : List PyData → Option (List (PyData × PyData))
  | [] => some []
  | .tuple [a, b] :: r => (pairsOf r).map ((a, b) :: ·)
  | _ => none
def leastD : PyData → List PyData → PyData
  | m, [] => m
  | m, x :: xs => leastD (if PySem.W.dataLt x m = true then x else m) xs
def mostD : PyData → List PyData → PyData
  | m, [] => m
  | m, x :: xs => mostD (if PySem.W.dataLt m x = true then x else m) xs
def putAll (kvs : List (PyData × PyData)) : List (PyData × PyData) → List (PyData × PyData)
  | [] => kvs
  | p :: r => putAll (put kvs p.1 p.2) r
mutual
/-- the hash of a key without texts -/
def hK : PyData → Option Int
  | .none => some (reduceHash 0xFCA86420)
  | .bool b => some (hashInt (if b = true then 1 else 0))
  | .int i => some (hashInt i)
  | .tuple xs => (hKs xs).map fun hs => reduceHash (Builtin.Tuple.tupleHashOf hs)
  | _ => none
def hKs : List PyData → Option (List Int)
  | [] => some []
  | x :: xs => (hK x).bind fun h => (hKs xs).map (h :: ·)
end
/-- no two keys hash alike -/
def apart (kvs : List (PyData × PyData)) : Bool := match hKs (kvs.map (·.1)) with
  | some hs => decide hs.Nodup
  | none => false
def tupKeys (kvs : List (PyData × PyData)) : Bool := kvs.all fun p => decide (kindK p.1 = some 1)
/-- into a list that rises by the key -/
def insK {α : Type} (key : α → Int) (x : α) : List α → List α
  | [] => [x]
  | y :: ys => if key x < key y then x :: y :: ys else if key y < key x then y :: insK key x ys else y :: ys
def sdK {α : Type} (key : α → Int) : List α → List α
  | [] => []
  | x :: xs => insK key x (sdK key xs)
def tupsOf : List PyData → Option (List (List Int))
  | [] => some []
  | .tuple ds :: r => (intsOf ds).bind fun is => (tupsOf r).map (is :: ·)
  | _ => none
def setB : Int := 1048576
/-- the sorted set of a list -/
def ssetR (ds : List PyData) : Res (List PyData) := match intsOf ds with
  | some is => Res.guard (decide (is.length < 64)) (.ok ((sdK id is).map .int))
  | none => match tupsOf ds with
    | some ts => Res.guard (decide (ts.length < 64) && decide (1 ≤ (ts.headD []).length) && ts.all fun t => decide (t.length = (ts.headD []).length) && t.all fun m => decide (0 ≤ m) && decide (m < setB))
        (.ok ((sdK (TS.code setB) ts).map fun t => .tuple (t.map .int)))
    | none => .bad
def biR : Bi → List PyData → Res Sl
  | .len, [.list ds] => .ok (.shr (.int ds.length))
  | .len, [.tuple ds] => .ok (.shr (.int ds.length))
  | .len, [.dict ds] => .ok (.shr (.int ds.length))
  | .len, [.str z] => .guard (decide (z.length ≤ lim)) (.ok (.shr (.int z.length)))
  | .sorted, [.list ds] => .guard (okSort ds) (.ok (.own (.lst (sortD ds))))
  | .sset, [.list ds] => (ssetR ds).bind fun es => .ok (.own (.lst es))
  | .lset, [.list ds] => (Res.get (keysOf ds)).bind fun ks => .guard (decide (ks.length < 64)) (.ok (.shr (.int (nb ks.reverse))))
  | .sitems, [.dict kvs] => Res.guard (okSort (kvs.map fun p => .tuple [p.1, p.2])) (.ok (.own (.lst (sortD (kvs.map fun p => .tuple [p.1, p.2])))))
  | .lvals, [.dict kvs] => .ok (.own (.lst (kvs.map (·.2))))
  | .tuple, [.list ds] => .ok (.shr (.tuple ds))
  | .tuple, [.tuple ds] => .ok (.shr (.tuple ds))
  | .list, [.list ds] => .ok (.own (.lst ds))
  | .list, [.tuple ds] => .ok (.own (.lst ds))
  | .list, [.dict kvs] => .ok (.own (.lst (kvs.map (·.1))))
  | .dict, [.dict kvs] => .guard (!kvs.isEmpty && tupKeys kvs && apart kvs) (.ok (.own (.dct kvs)))
  | .dict, [.list ds] => (Res.get (pairsOf ds)).bind fun kvs => .guard (kvs.all fun p => decide (kindK p.1 = some 0)) (.ok (.own (.dct (putAll [] kvs))))
  | .any, [.list ds] => (Res.get (boolsOf ds)).bind fun bs => .ok (.shr (.bool (bs.any id)))
  | .all, [.list ds] => (Res.get (boolsOf ds)).bind fun bs => .ok (.shr (.bool (bs.all id)))
  | .sum, [.list ds] => (Res.get (intsOf ds)).bind fun is => .ok (.shr (.int is.sum))
  | .min, [.list (d :: ds)] => .guard (okSort (d :: ds)) (.ok (.shr (leastD d ds)))
  | .max, [.list (d :: ds)] => .guard (okSort (d :: ds)) (.ok (.shr (mostD d ds)))
  | .int, [.int a] => .ok (.shr (.int a))
  | .int, [.bool a] => .ok (.shr (.int (if a then 1 else 0)))
  | .str, [.int a] => .guard (decide (a.natAbs < 1000000)) (.ok (.shr (.str (toString a))))
  | .lrange, [.int a] => .guard (decide (0 ≤ a) && decide (a ≤ 1000)) (.ok (.own (.lst ((List.range a.toNat).map fun (i : Nat) => .int (i : Int)))))
  | _, _ => .bad
def notDc : PyData → Bool
  | .dict _ => false
  | _ => true
def tyIs : Ty → PyData → Bool
  | .int, .int _ => true
  | .int, .bool _ => true
  | .bool, .bool _ => true
  | .str, .str _ => true
  | .tuple, .tuple _ => true
  | .list, .list _ => true
  | _, _ => false
/-- the first place of an equal item -/
def place (x : PyData) : List PyData → Option Nat
  | [] => none
  | y :: ys => if PyData.eqv y x = true then some 0 else (place x ys).map (· + 1)
def meR : Me → PyData → List PyData → Res Sl
  | .get, .dict kvs, [k] => .guard (okFor kvs k) (.ok (.shr ((look kvs k).getD .none)))
  | .get, .dict kvs, [k, v] => .guard (okFor kvs k) (.ok (.shr ((look kvs k).getD v)))
  | .index, .list ds, [x] => .guard (shp x && shp (.list ds)) ((Res.get (place x ds)).bind fun j => .ok (.shr (.int j)))
  | .count, .list ds, [.int i] => (Res.get (intsOf ds)).bind fun is => .ok (.shr (.int (is.count i)))
  | _, _, _ => .bad

/-- what the changed thing is -/
def kindU : Mu → Sl → Bool
  | .append, .own (.lst _) => true
  | .pop, .own (.lst _) => true
  | .update, .own (.dct _) => true
  | _, _ => false
/-- what the method's thing is -/
def kindM : Me → PyData → Bool
  | .get, .dict _ => true
  | .index, .list _ => true
  | .count, .list _ => true
  | _, _ => false

/-! ### the language -/
inductive Tg where
  | v (i : Nat)
  | nil
  | cons (t ts : Tg)
inductive CE where
  | var (i : Nat)
  | cst (d : PyData)
  | nil
  | cons (star : Bool) (e es : CE)
  | tup (es : CE)
  | lst (es : CE)
  | dct (es : CE)
  | bin (o : Bop) (a b : CE)
  | rep (es b : CE)
  | neg (a : CE)
  | not (a : CE)
  | and (a b : CE)
  | or (a b : CE)
  | cmp (o : Cop) (a b : CE)
  | chn (o p : Cop) (a b c : CE)
  | isN (a : CE)
  | notN (a : CE)
  | isi (ts : List Ty) (a : CE)
  | ife (c a b : CE)
  | idx (a i : CE)
  | slc (a lo hi : CE)
  | call (f : Nat) (as : CE)
  | bi (b : Bi) (as : CE)
  | met (m : Me) (o as : CE)
  | dget (o as : CE)
  | mut (m : Mu) (i : Nat) (as : CE)
  | ext (i : Nat) (e : CE)
  | lc (own : List Nat) (t : Tg) (it cond e : CE)
  | lc2 (own own1 : List Nat) (t : Tg) (it : CE) (t1 : Tg) (it1 cond e : CE)
  | rng1 (b : CE)
  | rng2 (a b : CE)
  | enu (a : CE)
  | zip (a b : CE)
  | itm (a : CE)
  | ex (a : CE)
inductive CS where
  | skip
  | seq (a b : CS)
  | ret (e : CE)
  | exp (e : CE)
  | asg (t : Tg) (e : CE)
  | par (is : List Nat) (es : CE)
  | put (i : Nat) (k e : CE)
  | aug (i : Nat) (o : Bop) (e : CE)
  | augp (i : Nat) (k : CE) (o : Bop) (e : CE)
  | ife (c : CE) (a b : CS)
  | whl (c : CE) (b : CS)
  | for_ (t : Tg) (it : CE) (b : CS)
  | raise (c : Nat) (as : CE)
inductive Fl where
  | nxt
  | brk
  | cnt
  | ret (s : Sl)

abbrev Fenv := Nat → List Sl → Res (Sl × List Sl)

/-! ### the evaluator -/
/-- targets of frozen data -/
def bts (np : Nat) : Tg → List PyData → Rho → Res Rho
  | .nil, [], ρ => .ok ρ
  | .cons t ts, d :: ds, ρ => (match t with
      | .v i => Res.guard (decide (np ≤ i) && decide (i < ρ.length)) (.ok (ρ.set i (.shr d)))
      | t => (match d with
        | .tuple es => bts np t es ρ
        | _ => .bad)).bind fun ρ => bts np ts ds ρ
  | _, _, _ => .bad
def bt (np : Nat) : Tg → PyData → Rho → Res Rho
  | .v i, d, ρ => Res.guard (decide (np ≤ i) && decide (i < ρ.length)) (.ok (ρ.set i (.shr d)))
  | t, .tuple es, ρ => bts np t es ρ
  | _, _, _ => .bad
def wipeR (ρ : Rho) : List Nat → Rho
  | [] => ρ
  | i :: is => wipeR (ρ.set i .un) is
def backR (ρ0 : Rho) (ρ : Rho) : List Nat → Rho
  | [] => ρ
  | i :: is => backR ρ0 (ρ.set i (gt ρ0 i)) is
/-- one item after another; what each gives -/
def lcGo (f : PyData → Rho → Res (List PyData × Rho)) : List PyData → List PyData → Rho → Res (List PyData × Rho)
  | [], acc, ρ => .ok (acc, ρ)
  | d :: ds, acc, ρ => (f d ρ).bind fun p => Res.guard (decide ((acc ++ p.1).length ≤ lim)) (lcGo f ds (acc ++ p.1) p.2)
def optI (ρ : Rho) : Rv → Res (Option Int)
  | r => (rd ρ r).bind fun d => match d with
    | .int i => .ok (some i)
    | _ => .bad
/-- an owned thing -/
def ownO (ρ : Rho) : Rv → Option Ob
  | .val (.own o) => some o
  | .val _ => none
  | .nam i => match gt ρ i with
    | .own o => some o
    | _ => none
/-- the slots that a call hands over -/
def argS (ρ : Rho) : Rv → Sl
  | .val s => s
  | .nam i => gt ρ i
def isOwn : Sl → Bool
  | .own _ => true
  | _ => false
def isUn : Sl → Bool
  | .un => true
  | _ => false
def nams : List Rv → List Nat
  | [] => []
  | .nam i :: r => i :: nams r
  | .val _ :: r => nams r
def backS : List Rv → List Sl → Rho → Rho
  | .nam i :: r, s :: ss, ρ => backS r ss (ρ.set i s)
  | .val _ :: r, _ :: ss, ρ => backS r ss ρ
  | _, _, ρ => ρ
def mutR : Mu → Ob → List PyData → Res (Sl × Ob)
  | .append, .lst ds, [d] => Res.guard (decide (ds.length < lim)) (.ok (.shr .none, .lst (ds ++ [d])))
  | .update, .dct kvs, [.dict es] => Res.guard (tupKeys kvs && tupKeys es && (!kvs.isEmpty || apart es) && decide (kvs.length + es.length ≤ lim)) (.ok (.shr .none, .dct (putAll kvs es)))
  | .pop, .lst ds, [.int i] => (Res.get (L2.atI ds i)).bind fun d => Res.guard (decide (0 ≤ i)) (.ok (.shr d, .lst (ds.eraseIdx i.toNat)))
  | _, _, _ => .bad
def zipD : List PyData → List PyData → List PyData
  | a :: as, b :: bs => .tuple [a, b] :: zipD as bs
  | _, _ => []
def enuD : Nat → List PyData → List PyData
  | _, [] => []
  | n, a :: as => .tuple [.int n, a] :: enuD (n + 1) as
def rngD (a b : Int) : List PyData := (List.range (b - a).toNat).map fun (i : Nat) => .int (a + (i : Int))
def okRng (a : Int) : Bool := decide (-1000000000 ≤ a) && decide (a ≤ 1000000000)

/-- a truth value -/
def tst (r : Res (Rv × Rho)) : Res (Bool × Rho) := r.bind fun p => (rd p.2 p.1).bind fun x => match x with
  | .bool b => .ok (b, p.2)
  | _ => .bad
def CE.isNil : CE → Bool
  | .nil => true
  | _ => false
/-- a comprehension's test -/
def cnd (c : CE) (ρ : Rho) (r : Res (Rv × Rho)) : Res (Bool × Rho) := if c.isNil = true then .ok (true, ρ) else tst r
/-- a bound of a slice -/
def opt (c : CE) (ρ : Rho) (r : Res (Rv × Rho)) : Res (Option Int × Rho) := if c.isNil = true then .ok (none, ρ) else r.bind fun p => (optI p.2 p.1).bind fun i => .ok (i, p.2)
mutual
def evE (Φ : Fenv) : CE → Rho → Res (Rv × Rho)
  | .var i, ρ => match gt ρ i with
    | .un => .bad
    | .shr d => .ok (.val (.shr d), ρ)
    | .own _ => .ok (.nam i, ρ)
  | .cst d, ρ => .ok (.val (.shr d), ρ)
  | .tup es, ρ => (evL Φ es ρ).bind fun p => Res.guard (decide (p.1.length ≤ lim)) (.ok (.val (.shr (.tuple p.1)), p.2))
  | .lst es, ρ => (evL Φ es ρ).bind fun p => Res.guard (decide (p.1.length ≤ lim)) (.ok (.val (.own (.lst p.1)), p.2))
  | .dct .nil, ρ => .ok (.val (.own (.dct [])), ρ)
  | .dct (.cons false a (.cons false b .nil)), ρ => (evE Φ a ρ).bind fun p => (stl p.2 p.1).bind fun x =>
      (evE Φ b x.2).bind fun q => (stl q.2 q.1).bind fun y => Res.guard (decide (kindK x.1 = some 0)) (.ok (.val (.own (.dct [(x.1, y.1)])), y.2))
  | .bin o a b, ρ => (evE Φ a ρ).bind fun p => (evE Φ b p.2).bind fun q => (rd q.2 p.1).bind fun x => (rd q.2 q.1).bind fun y =>
      (binR o x y).bind fun s => .ok (.val s, q.2)
  | .rep es b, ρ => (evL Φ es ρ).bind fun p => (evE Φ b p.2).bind fun q => (rd q.2 q.1).bind fun y => match y with
    | .int k => Res.guard (decide (-1 ≤ k) && decide (k ≤ 1000) && decide (p.1.length ≤ 1000)) (.ok (.val (.own (.lst (List.replicate k.toNat p.1).flatten)), q.2))
    | _ => .bad
  | .neg a, ρ => (evE Φ a ρ).bind fun p => (rd p.2 p.1).bind fun x => match x with
    | .int i => .ok (.val (.shr (.int (-i))), p.2)
    | _ => .bad
  | .not a, ρ => (tst (evE Φ a ρ)).bind fun p => .ok (.val (.shr (.bool (!p.1))), p.2)
  | .and a b, ρ => (tst (evE Φ a ρ)).bind fun p => if p.1 = true then (tst (evE Φ b p.2)).bind fun q => .ok (.val (.shr (.bool q.1)), q.2) else .ok (.val (.shr (.bool false)), p.2)
  | .or a b, ρ => (tst (evE Φ a ρ)).bind fun p => if p.1 = true then .ok (.val (.shr (.bool true)), p.2) else (tst (evE Φ b p.2)).bind fun q => .ok (.val (.shr (.bool q.1)), q.2)
  | .cmp o a b, ρ => (evE Φ a ρ).bind fun p => (evE Φ b p.2).bind fun q => (rd q.2 p.1).bind fun x => (rd q.2 q.1).bind fun y =>
      (cmpR o x y).bind fun s => .ok (.val (.shr (.bool s)), q.2)
  | .chn o o' a b c, ρ => (evE Φ a ρ).bind fun p => (evE Φ b p.2).bind fun q => (rd q.2 p.1).bind fun x => (rd q.2 q.1).bind fun y =>
      (cmpR o x y).bind fun s => if s = true then (evE Φ c q.2).bind fun r => (rd r.2 q.1).bind fun y => (rd r.2 r.1).bind fun z =>
        (cmpR o' y z).bind fun s => .ok (.val (.shr (.bool s)), r.2)
      else .ok (.val (.shr (.bool false)), q.2)
  | .isN a, ρ => (evE Φ a ρ).bind fun p => (rd p.2 p.1).bind fun x => .ok (.val (.shr (.bool (isNo x))), p.2)
  | .notN a, ρ => (evE Φ a ρ).bind fun p => (rd p.2 p.1).bind fun x => .ok (.val (.shr (.bool (!isNo x))), p.2)
  | .isi ts a, ρ => (evE Φ a ρ).bind fun p => (rd p.2 p.1).bind fun x => Res.guard (notDc x) (.ok (.val (.shr (.bool (ts.any fun t => tyIs t x))), p.2))
  | .ife c a b, ρ => (tst (evE Φ c ρ)).bind fun p => if p.1 = true then evE Φ a p.2 else evE Φ b p.2
  | .idx a i, ρ => (evE Φ a ρ).bind fun p => (evE Φ i p.2).bind fun q => (rd q.2 p.1).bind fun x => (rd q.2 q.1).bind fun y =>
      (idxR x y).bind fun d => .ok (.val (.shr d), q.2)
  | .slc a lo hi, ρ => (evE Φ a ρ).bind fun p => (opt lo p.2 (evE Φ lo p.2)).bind fun l => (opt hi l.2 (evE Φ hi l.2)).bind fun h =>
      (rd h.2 p.1).bind fun x => (slcR x l.1 h.1).bind fun s => .ok (.val s, h.2)
  | .call f as, ρ => (evA Φ as ρ).bind fun p => Res.guard (decide (nams p.1).Nodup && (p.1.map (argS p.2)).all (fun s => !isUn s))
      ((Φ f (p.1.map (argS p.2))).bind fun r => .ok (.val r.1, backS p.1 r.2 p.2))
  | .bi b as, ρ => (evA Φ as ρ).bind fun p => (rds p.2 p.1).bind fun ds => (biR b ds).bind fun s => .ok (.val s, p.2)
  | .met m o as, ρ => (evE Φ o ρ).bind fun p => (rd p.2 p.1).bind fun x0 => Res.guard (kindM m x0) ((evA Φ as p.2).bind fun q => (rd q.2 p.1).bind fun x => (rds q.2 q.1).bind fun ds =>
      (meR m x ds).bind fun s => .ok (.val s, q.2))
  | .dget o as, ρ => (evE Φ o ρ).bind fun p => (rd p.2 p.1).bind fun x0 => Res.guard (kindM .get x0) ((evL Φ as p.2).bind fun q => (rd q.2 p.1).bind fun x => (meR .get x q.1).bind fun s => .ok (.val s, q.2))
  | .ext i e, ρ => Res.guard (kindU .append (gt ρ i)) ((evE Φ e ρ).bind fun p => match gt p.2 i, ownO p.2 p.1 with
    | .own (.lst ds), some (.lst es) => Res.guard (decide (ds.length + es.length ≤ lim)) (.ok (.val (.shr .none), p.2.set i (.own (.lst (ds ++ es)))))
    | _, _ => .bad)
  | .mut m i as, ρ => Res.guard (kindU m (gt ρ i)) ((evL Φ as ρ).bind fun p => match gt p.2 i with
    | .own o => (mutR m o p.1).bind fun r => .ok (.val r.1, p.2.set i (.own r.2))
    | _ => .bad)
  | .lc own t it cond e, ρ => (evI Φ it ρ).bind fun p =>
      (lcGo (fun d ρ => (bt 0 t d ρ).bind fun ρ => (cnd cond ρ (evE Φ cond ρ)).bind fun c => if c.1 = true then (evE Φ e c.2).bind fun r => (stl r.2 r.1).bind fun x => .ok ([x.1], wipeR x.2 own) else .ok ([], wipeR c.2 own))
        p.1 [] (wipeR p.2 own)).bind fun r => .ok (.val (.own (.lst r.1)), backR p.2 r.2 own)
  | .lc2 own own1 t it t1 it1 cond e, ρ => (evI Φ it ρ).bind fun p =>
      (lcGo (fun d ρ => (bt 0 t d ρ).bind fun ρ => (evI Φ it1 ρ).bind fun p1 =>
        (lcGo (fun d ρ => (bt 0 t1 d ρ).bind fun ρ => (cnd cond ρ (evE Φ cond ρ)).bind fun c => if c.1 = true then (evE Φ e c.2).bind fun r => (stl r.2 r.1).bind fun x => .ok ([x.1], wipeR x.2 own1) else .ok ([], wipeR c.2 own1))
          p1.1 [] (wipeR p1.2 own1)).bind fun r => .ok (r.1, wipeR r.2 own)) p.1 [] (wipeR p.2 own)).bind fun r => .ok (.val (.own (.lst r.1)), backR p.2 r.2 own)
  | _, _ => .bad
/-- the items of a display -/
def evL (Φ : Fenv) : CE → Rho → Res (List PyData × Rho)
  | .nil, ρ => .ok ([], ρ)
  | .cons false e es, ρ => (evE Φ e ρ).bind fun p => (stl p.2 p.1).bind fun x => (evL Φ es x.2).bind fun q => .ok (x.1 :: q.1, q.2)
  | .cons true e es, ρ => (evE Φ e ρ).bind fun p => (stl p.2 p.1).bind fun x => (evL Φ es x.2).bind fun q => match x.1 with
    | .list ds => .ok (ds ++ q.1, q.2)
    | .tuple ds => .ok (ds ++ q.1, q.2)
    | _ => .bad
  | _, _ => .bad
/-- the arguments of a call -/
def evA (Φ : Fenv) : CE → Rho → Res (List Rv × Rho)
  | .nil, ρ => .ok ([], ρ)
  | .cons false e es, ρ => (evE Φ e ρ).bind fun p => (evA Φ es p.2).bind fun q => .ok (p.1 :: q.1, q.2)
  | _, _ => .bad
/-- what is walked -/
def evI (Φ : Fenv) : CE → Rho → Res (List PyData × Rho)
  | .rng1 b, ρ => (evE Φ b ρ).bind fun p => (rd p.2 p.1).bind fun x => match x with
    | .int i => Res.guard (okRng i) (.ok (rngD 0 i, p.2))
    | _ => .bad
  | .rng2 a b, ρ => (evE Φ a ρ).bind fun p => (evE Φ b p.2).bind fun q => (rd q.2 p.1).bind fun x => (rd q.2 q.1).bind fun y => match x, y with
    | .int i, .int j => Res.guard (okRng i && okRng j) (.ok (rngD i j, q.2))
    | _, _ => .bad
  | .enu a, ρ => (evE Φ a ρ).bind fun p => (stl p.2 p.1).bind fun x => match x.1 with
    | .list ds => .ok (enuD 0 ds, x.2)
    | .tuple ds => .ok (enuD 0 ds, x.2)
    | _ => .bad
  | .zip a b, ρ => (evE Φ a ρ).bind fun p => (stl p.2 p.1).bind fun x => (evE Φ b x.2).bind fun q => (stl q.2 q.1).bind fun y => match x.1, y.1 with
    | .tuple ds, .tuple es => .ok (zipD ds es, y.2)
    | _, _ => .bad
  | .itm a, ρ => (evE Φ a ρ).bind fun p => (stl p.2 p.1).bind fun x => match x.1 with
    | .dict kvs => .ok (kvs.map fun q => .tuple [q.1, q.2], x.2)
    | _ => .bad
  | .ex a, ρ => (evE Φ a ρ).bind fun p => (stl p.2 p.1).bind fun x => (seqD x.1).bind fun ds => .ok (ds, x.2)
  | _, _ => .bad
end

/-! ### statements -/
def whlGo (c : Rho → Res (Bool × Rho)) (b : Rho → Res (Fl × Rho)) : Nat → Rho → Res (Fl × Rho)
  | 0, _ => .bad
  | m + 1, ρ => (c ρ).bind fun p => if p.1 = true then (b p.2).bind fun q => match q.1 with
      | .nxt => whlGo c b m q.2
      | .cnt => whlGo c b m q.2
      | .brk => .ok (.nxt, q.2)
      | .ret s => .ok (.ret s, q.2)
    else .ok (.nxt, p.2)
def forGo (f : PyData → Rho → Res (Fl × Rho)) : List PyData → Rho → Res (Fl × Rho)
  | [], ρ => .ok (.nxt, ρ)
  | d :: ds, ρ => (f d ρ).bind fun q => match q.1 with
      | .nxt => forGo f ds q.2
      | .cnt => forGo f ds q.2
      | .brk => .ok (.nxt, q.2)
      | .ret s => .ok (.ret s, q.2)
/-- what a def hands back: an owned local moves out -/
def retR (np : Nat) (ρ : Rho) : Rv → Res (Sl × Rho)
  | .val .un => .bad
  | .val s => .ok (s, ρ)
  | .nam i => match gt ρ i with
    | .own o => if i < np then .ok (.shr o.dat, ρ.set i (.shr o.dat)) else .ok (.own o, ρ.set i .un)
    | .shr d => .ok (.shr d, ρ)
    | .un => .bad
/-- a name is stored -/
def stS (np : Nat) (i : Nat) (s : Sl) (ρ : Rho) : Res Rho := Res.guard (decide (np ≤ i) && decide (i < ρ.length)) (.ok (ρ.set i s))
def taks (ρ : Rho) : List Rv → Res (List Sl × Rho)
  | [] => .ok ([], ρ)
  | r :: rs => (tak ρ r).bind fun p => (taks p.2 rs).bind fun q => .ok (p.1 :: q.1, q.2)
def stAll (np : Nat) : List Nat → List Sl → Rho → Res Rho
  | [], [], ρ => .ok ρ
  | i :: is, s :: ss, ρ => (stS np i s ρ).bind fun ρ => stAll np is ss ρ
  | _, _, _ => .bad
def putR : Ob → PyData → PyData → Res Ob
  | .lst ds, .int i, d => (Res.get (L2.ixN ds.length i)).bind fun j => .ok (.lst (ds.set j d))
  | .dct kvs, k, d => Res.guard (okFor kvs k && decide (kvs.length < lim)) (.ok (.dct (put kvs k d)))
  | _, _, _ => .bad
def ipOk : Bop → Bool
  | .add => true
  | .sub => true
  | _ => false
def ipF : Bop → Int → Int → Int
  | .add, a, b => a + b
  | _, a, b => a - b
def augF (np i : Nat) (o : Bop) (fa : Rho → Res (Rv × Rho)) (ρ : Rho) : Res (Fl × Rho) := Res.guard (decide (np ≤ i)) ((rdS (gt ρ i)).bind fun x => match x with
  | .int a => (fa ρ).bind fun p => (rd p.2 p.1).bind fun y => match y with
    | .int b => (stS np i (.shr (.int (ipF o a b))) p.2).bind fun ρ => .ok (.nxt, ρ)
    | _ => .bad
  | _ => .bad)
/-- an item of an owned list is raised or lowered -/
def augpF (i : Nat) (o : Bop) (fk fa : Rho → Res (Rv × Rho)) (ρ : Rho) : Res (Fl × Rho) := Res.guard (isOwn (gt ρ i)) ((fk ρ).bind fun q => (stl q.2 q.1).bind fun y => match gt y.2 i, y.1 with
  | .own (.lst ds), .int k => Res.guard (ipOk o && decide (0 ≤ k)) ((Res.get ds[k.toNat]?).bind fun v => (fa y.2).bind fun p => (rd p.2 p.1).bind fun w => match v, w, gt p.2 i with
    | .int a, .int b, .own (.lst es) => Res.guard (decide (k.toNat < es.length)) (.ok (.nxt, p.2.set i (.own (.lst (es.set k.toNat (.int (ipF o a b)))))))
    | _, _, _ => .bad)
  | _, _ => .bad)
def slD : Sl → Res PyData := rdS
def evS (Φ : Fenv) (m np : Nat) : CS → Rho → Res (Fl × Rho)
  | .skip, ρ => .ok (.nxt, ρ)
  | .seq a b, ρ => (evS Φ m np a ρ).bind fun p => match p.1 with
    | .nxt => evS Φ m np b p.2
    | f => .ok (f, p.2)
  | .ret e, ρ => (evE Φ e ρ).bind fun p => (retR np p.2 p.1).bind fun q => .ok (.ret q.1, q.2)
  | .exp e, ρ => (evE Φ e ρ).bind fun p => .ok (.nxt, p.2)
  | .asg (.v i) e, ρ => (evE Φ e ρ).bind fun p => (tak p.2 p.1).bind fun q => (stS np i q.1 q.2).bind fun ρ => .ok (.nxt, ρ)
  | .asg t e, ρ => (evE Φ e ρ).bind fun p => (stl p.2 p.1).bind fun q => (bt np t q.1 q.2).bind fun ρ => .ok (.nxt, ρ)
  | .par is es, ρ => (evA Φ es ρ).bind fun p => (taks p.2 p.1).bind fun q => Res.guard (decide is.Nodup) ((stAll np is q.1 q.2).bind fun ρ => .ok (.nxt, ρ))
  | .put i k e, ρ => (evE Φ e ρ).bind fun p => (stl p.2 p.1).bind fun x => Res.guard (isOwn (gt x.2 i)) ((evE Φ k x.2).bind fun q => (stl q.2 q.1).bind fun y => match gt y.2 i with
    | .own o => (putR o y.1 x.1).bind fun o2 => .ok (.nxt, y.2.set i (.own o2))
    | _ => .bad)
  | .aug i o e, ρ => augF np i o (fun ρ => evE Φ e ρ) ρ
  | .augp i k o e, ρ => augpF i o (fun ρ => evE Φ k ρ) (fun ρ => evE Φ e ρ) ρ
  | .ife c a b, ρ => (tst (evE Φ c ρ)).bind fun p => if p.1 = true then evS Φ m np a p.2 else evS Φ m np b p.2
  | .whl c b, ρ => whlGo (fun ρ => tst (evE Φ c ρ)) (fun ρ => evS Φ m np b ρ) m ρ
  | .for_ t it b, ρ => (evI Φ it ρ).bind fun p => forGo (fun d ρ => (bt np t d ρ).bind fun ρ => evS Φ m np b ρ) p.1 p.2
  | .raise c as, ρ => (evL Φ as ρ).bind fun p => .exn c p.1

/-- a def -/
structure CF where
  np : Nat
  ns : Nat
  body : CS
def evF (tbl : List CF) (m : Nat) : Nat → Fenv
  | 0 => fun _ _ => .bad
  | n + 1 => fun f as => match tbl[f]? with
    | none => .bad
    | some F => Res.guard (decide (as.length = F.np)) ((evS (evF tbl m n) m F.np F.body (as ++ List.replicate (F.ns - F.np) .un)).bind fun p => Res.guard ((p.2.take F.np).all fun s => !isUn s) (match p.1 with
      | .nxt => .ok (.shr .none, p.2.take F.np)
      | .ret s => .ok (s, p.2.take F.np)
      | _ => .bad))
end Rt
set_option maxRecDepth 100000
namespace Rt
open PySem PySem.Spec PyProof.Rows L2

mutual
/-- a key's datum as the library's key -/
def nk : PyData → NestedKey
  | .none => .none
  | .bool b => .num (if b = true then 1 else 0)
  | .int i => .num i
  | .str x => .text x
  | .tuple xs => .tup (nks xs)
  | .list _ => .none
  | .dict _ => .none
def nks : List PyData → List NestedKey
  | [] => []
  | x :: xs => nk x :: nks xs
end
def kD : Key → PyData
  | .inl i => .int i
  | .inr x => .str x
/-- a dict whose keys are tuples at known places -/
def tO (P : Program) (w : World) (a : Addr) (xs : List (NestedKey × Addr × Value)) : HO := .ext fun h =>
  ∃ o es ep, h.get? a = some o ∧ o.ExactDict ∧ o.data = .dict es ep ∧ es.toList = xs.map (entryOfKey (nestedKind P w)) ∧ (xs.map (·.1)).Nodup ∧ (a == sysModules) = false ∧ xs.length ≤ sizeLine

/-- a frozen list, or one of the written part -/
def SqF (K : PySem.W.Frag) (H : Hp) (a : Addr) (xs : List V) : Prop :=
  (∃ o, H a = some (.frz o (.lst xs))) ∨ ∃ (o : Obj) (us : Array Value) (m : Nat), K.lookup a = some o ∧ o.cls = .type "list" ∧ o.dict = none ∧ o.data = .seq us m ∧ us.size ≤ sizeLine ∧ Vals xs us.toList
theorem SqF.sqL {K : PySem.W.Frag} {H : Hp} {a : Addr} {xs : List V} (h : SqF K H a xs) : SqL K H a xs := h.elim (fun ⟨o, h⟩ => .inl (.inr ⟨o, h⟩)) .inr
section
variable (P : Program) (w : World) (K : PySem.W.Frag) (H : Hp)
mutual
inductive Rp : V → PyData → Prop
  | non : Rp .non .none
  | bl (b : Bool) : Rp (.bl b) (.bool b)
  | int (i : Int) : Rp (.int i) (.int i)
  | str (x : Str) : Rp (.str x) (.str x)
  | tup {a : Addr} {vs : List V} {ds : List PyData} : SqT K H a vs → RpAll vs ds → Rp (.ref a) (.tuple ds)
  | lst {a : Addr} {vs : List V} {ds : List PyData} : SqF K H a vs → RpAll vs ds → Rp (.ref a) (.list ds)
  | dK {a : Addr} {o : Obj} {ks : List (Key × V)} {kvs : List (PyData × PyData)} : H a = some (.frz o (.dK ks)) → RpK ks kvs → Rp (.ref a) (.dict kvs)
  | dT {a : Addr} {o : Obj} {xs : List (NestedKey × Addr × Value)} {kvs : List (PyData × PyData)} : H a = some (.frz o (tO P w a xs)) → xs ≠ [] → RpT xs kvs → Rp (.ref a) (.dict kvs)
inductive RpAll : List V → List PyData → Prop
  | nil : RpAll [] []
  | cons {v : V} {vs : List V} {d : PyData} {ds : List PyData} : Rp v d → RpAll vs ds → RpAll (v :: vs) (d :: ds)
inductive RpK : List (Key × V) → List (PyData × PyData) → Prop
  | nil : RpK [] []
  | cons {k : Key} {v : V} {ks : List (Key × V)} {d : PyData} {kvs : List (PyData × PyData)} : Rp v d → RpK ks kvs → RpK ((k, v) :: ks) ((kD k, d) :: kvs)
inductive RpT : List (NestedKey × Addr × Value) → List (PyData × PyData) → Prop
  | nil : RpT [] []
  | cons {b : Addr} {v : V} {u : Value} {xs : List (NestedKey × Addr × Value)} {k d : PyData} {kvs : List (PyData × PyData)} : Rp (.ref b) k → kindK k = some 1 → RelV v u → Rp v d → RpT xs kvs → RpT ((nk k, b, u) :: xs) ((k, d) :: kvs)
end
end

/-- what is frozen stays -/
structure Keep (H H' : Hp) : Prop where
  tup : ∀ a xs, H a = some (.tup xs) → H' a = some (.tup xs)
  frz : ∀ a o u, H a = some (.frz o u) → H' a = some (.frz o u)
theorem Keep.refl (H : Hp) : Keep H H := ⟨fun _ _ h => h, fun _ _ _ h => h⟩
theorem Keep.trans {H H1 H2 : Hp} (a : Keep H H1) (b : Keep H1 H2) : Keep H H2 := ⟨fun x xs h => b.tup x xs (a.tup x xs h), fun x o u h => b.frz x o u (a.frz x o u h)⟩
theorem Keep.sqT {K : PySem.W.Frag} {H H' : Hp} (k : Keep H H') {a : Addr} {vs : List V} (h : SqT K H a vs) : SqT K H' a vs := by
  rcases h with (h | ⟨o, h⟩) | h
  · exact .inl (.inl (k.tup a vs h))
  · exact .inl (.inr ⟨o, k.frz a o _ h⟩)
  · exact .inr h

theorem Keep.sqF {K : PySem.W.Frag} {H H' : Hp} (k : Keep H H') {a : Addr} {vs : List V} (h : SqF K H a vs) : SqF K H' a vs := h.elim (fun ⟨o, h⟩ => .inl ⟨o, k.frz a o _ h⟩) .inr
section
variable {P : Program} {w : World} {K : PySem.W.Frag} {H H' : Hp}
mutual
theorem Rp.keep (k : Keep H H') : ∀ {v : V} {d : PyData}, Rp P w K H v d → Rp P w K H' v d
  | _, _, .non => .non
  | _, _, .bl b => .bl b
  | _, _, .int i => .int i
  | _, _, .str x => .str x
  | _, _, .tup h r => .tup (k.sqT h) (RpAll.keep k r)
  | _, _, .lst h r => .lst (k.sqF h) (RpAll.keep k r)
  | _, _, .dK h r => .dK (k.frz _ _ _ h) (RpK.keep k r)
  | _, _, .dT h n r => .dT (k.frz _ _ _ h) n (RpT.keep k r)
theorem RpAll.keep (k : Keep H H') : ∀ {vs : List V} {ds : List PyData}, RpAll P w K H vs ds → RpAll P w K H' vs ds
  | _, _, .nil => .nil
  | _, _, .cons h r => .cons (Rp.keep k h) (RpAll.keep k r)
theorem RpK.keep (k : Keep H H') : ∀ {vs : List (Key × V)} {ds : List (PyData × PyData)}, RpK P w K H vs ds → RpK P w K H' vs ds
  | _, _, .nil => .nil
  | _, _, .cons h r => .cons (Rp.keep k h) (RpK.keep k r)
theorem RpT.keep (k : Keep H H') : ∀ {vs : List (NestedKey × Addr × Value)} {ds : List (PyData × PyData)}, RpT P w K H vs ds → RpT P w K H' vs ds
  | _, _, .nil => .nil
  | _, _, .cons h q r s t => .cons (Rp.keep k h) q r (Rp.keep k s) (RpT.keep k t)
end

theorem RpAll.length : ∀ {vs : List V} {ds : List PyData}, RpAll P w K H vs ds → vs.length = ds.length
  | _, _, .nil => rfl
  | _, _, .cons _ r => by simp [RpAll.length r]
theorem RpAll.append : ∀ {vs us : List V} {ds es : List PyData}, RpAll P w K H vs ds → RpAll P w K H us es → RpAll P w K H (vs ++ us) (ds ++ es)
  | _, _, _, _, .nil, s => s
  | _, _, _, _, .cons h r, s => .cons h (RpAll.append r s)
theorem RpAll.get : ∀ {vs : List V} {ds : List PyData} {i : Nat} {d : PyData}, RpAll P w K H vs ds → ds[i]? = some d → ∃ v, vs[i]? = some v ∧ Rp P w K H v d
  | _, _, _, _, .nil, e => by simp at e
  | _, _, 0, _, .cons h _, e => by simp at e; subst e; exact ⟨_, rfl, h⟩
  | _, _, i + 1, d, .cons _ r, e => by
    obtain ⟨v, h1, h2⟩ := RpAll.get (i := i) (d := d) r (by simpa using e)
    exact ⟨v, by simpa using h1, h2⟩
theorem RpAll.take : ∀ {vs : List V} {ds : List PyData} (n : Nat), RpAll P w K H vs ds → RpAll P w K H (vs.take n) (ds.take n)
  | _, _, 0, _ => .nil
  | _, _, _ + 1, .nil => .nil
  | _, _, n + 1, .cons h r => .cons h (RpAll.take n r)
theorem RpAll.drop : ∀ {vs : List V} {ds : List PyData} (n : Nat), RpAll P w K H vs ds → RpAll P w K H (vs.drop n) (ds.drop n)
  | _, _, 0, r => r
  | _, _, _ + 1, .nil => .nil
  | _, _, n + 1, .cons _ r => RpAll.drop n r
theorem RpAll.set {v : V} {d : PyData} (h : Rp P w K H v d) : ∀ {vs : List V} {ds : List PyData} (i : Nat), RpAll P w K H vs ds → RpAll P w K H (vs.set i v) (ds.set i d)
  | _, _, _, .nil => .nil
  | _, _, 0, .cons _ r => .cons h r
  | _, _, i + 1, .cons q r => .cons q (RpAll.set h i r)
theorem RpAll.eraseIdx : ∀ {vs : List V} {ds : List PyData} (i : Nat), RpAll P w K H vs ds → RpAll P w K H (vs.eraseIdx i) (ds.eraseIdx i)
  | _, _, _, .nil => .nil
  | _, _, 0, .cons _ r => r
  | _, _, i + 1, .cons q r => .cons q (RpAll.eraseIdx i r)
theorem RpAll.flat : ∀ {vs : List V} {ds : List PyData} (n : Nat), RpAll P w K H vs ds → RpAll P w K H (List.replicate n vs).flatten (List.replicate n ds).flatten
  | _, _, 0, _ => .nil
  | _, _, n + 1, r => by
    simp only [List.replicate_succ, List.flatten_cons]
    exact r.append (RpAll.flat n r)

/-! ### an owned thing -/
def OwnAt (P : Program) (w : World) (K : PySem.W.Frag) (H : Hp) (a : Addr) : Ob → Prop
  | .lst ds => ∃ vs, H a = some (.lst vs) ∧ RpAll P w K H vs ds
  | .dct kvs => (∃ ks, H a = some (.dK ks) ∧ RpK P w K H ks kvs) ∨ ∃ xs, H a = some (tO P w a xs) ∧ xs ≠ [] ∧ RpT P w K H xs kvs
/-- an object that may be written -/
def Wr : HO → Prop
  | .lst _ => True
  | .dK _ => True
  | .ext _ => True
  | _ => False
theorem Wr.mut {u : HO} (h : Wr u) : Mut (some u) := by cases u <;> first | exact h | exact True.intro
theorem OwnAt.wr {a : Addr} {o : Ob} (h : OwnAt P w K H a o) : ∃ u, H a = some u ∧ Wr u := by
  cases o with
  | lst ds => obtain ⟨vs, e, _⟩ := h; exact ⟨_, e, True.intro⟩
  | dct kvs =>
    rcases h with ⟨ks, e, _⟩ | ⟨xs, e, _, _⟩
    · exact ⟨_, e, True.intro⟩
    · exact ⟨_, e, True.intro⟩
theorem OwnAt.keep (k : Keep H H') {a : Addr} (ha : ∀ u, H a = some u → H' a = some u) {o : Ob} (h : OwnAt P w K H a o) : OwnAt P w K H' a o := by
  cases o with
  | lst ds => obtain ⟨vs, e, r⟩ := h; exact ⟨vs, ha _ e, r.keep k⟩
  | dct kvs =>
    rcases h with ⟨ks, e, r⟩ | ⟨xs, e, n, r⟩
    · exact .inl ⟨ks, ha _ e, r.keep k⟩
    · exact .inr ⟨xs, ha _ e, n, r.keep k⟩
end

/-! ### slots -/
def RpS (P : Program) (w : World) (K : PySem.W.Frag) (H : Hp) (v : V) : Sl → Prop
  | .un => True
  | .shr d => Rp P w K H v d
  | .own o => ∃ a, v = .ref a ∧ OwnAt P w K H a o
/-- the slot i is owned, at the address a -/
def OwI (σ : L2.St) (ρ : Rho) (i : Nat) (a : Addr) : Prop := (∃ o, gt ρ i = .own o) ∧ σ[i]? = some (some (.ref a))
def Ow (σ : L2.St) (ρ : Rho) (a : Addr) : Prop := ∃ i, OwI σ ρ i a
structure Ok (P : Program) (w : World) (K : PySem.W.Frag) (H : Hp) (σ : L2.St) (ρ : Rho) : Prop where
  rep : ∀ i, gt ρ i ≠ .un → ∃ v, σ[i]? = some (some v) ∧ RpS P w K H v (gt ρ i)
  sep : ∀ i j a, OwI σ ρ i a → OwI σ ρ j a → i = j
  len : ρ.length = σ.length
/-- all but what the slots own stays -/
def Fr (σ : L2.St) (ρ : Rho) (H H' : Hp) : Prop := ∀ a u, H a = some u → ¬ Ow σ ρ a → H' a = some u
/-- what is owned behind was owned ahead -/
structure Sub (ρ ρ' : Rho) : Prop where
  len : ρ'.length = ρ.length
  own : ∀ i o, gt ρ' i = .own o → ∃ o', gt ρ i = .own o'
theorem Sub.refl (ρ : Rho) : Sub ρ ρ := ⟨rfl, fun _ o h => ⟨o, h⟩⟩
theorem Sub.trans {ρ ρ1 ρ2 : Rho} (a : Sub ρ ρ1) (b : Sub ρ1 ρ2) : Sub ρ ρ2 := ⟨b.len.trans a.len, fun i o h => let ⟨o', h'⟩ := b.own i o h; a.own i o' h'⟩
theorem Sub.ow {σ : L2.St} {ρ ρ' : Rho} (s : Sub ρ ρ') {a : Addr} (h : Ow σ ρ' a) : Ow σ ρ a := by
  obtain ⟨i, ⟨o, e⟩, z⟩ := h
  exact ⟨i, s.own i o e, z⟩
theorem Fr.refl (σ : L2.St) (ρ : Rho) (H : Hp) : Fr σ ρ H H := fun _ _ h _ => h
theorem Fr.trans {σ : L2.St} {ρ ρ1 : Rho} {H H1 H2 : Hp} (a : Fr σ ρ H H1) (s : Sub ρ ρ1) (b : Fr σ ρ1 H1 H2) : Fr σ ρ H H2 := fun x u h n => b x u (a x u h n) fun z => n (s.ow z)
section
variable {P : Program} {w : World} {K : PySem.W.Frag} {H H1 H2 H' : Hp} {σ : L2.St} {ρ ρ1 ρ2 ρ' : Rho}
theorem Ok.owI (k : Ok P w K H σ ρ) {i : Nat} {a : Addr} (h : OwI σ ρ i a) : ∃ o, gt ρ i = .own o ∧ OwnAt P w K H a o := by
  obtain ⟨⟨o, e⟩, z⟩ := h
  obtain ⟨v, e2, r⟩ := k.rep i (by rw [e]; exact fun q => nomatch q)
  rw [e] at r
  obtain ⟨b, rfl, r⟩ := r
  rw [z] at e2
  cases e2
  exact ⟨o, e, r⟩
theorem Ok.ow (k : Ok P w K H σ ρ) {a : Addr} (h : Ow σ ρ a) : ∃ u, H a = some u ∧ Wr u := by
  obtain ⟨i, h⟩ := h
  obtain ⟨o, _, r⟩ := k.owI h
  exact r.wr
theorem Ok.notOw (k : Ok P w K H σ ρ) {a : Addr} (h : ∀ u, H a = some u → ¬ Wr u) : ¬ Ow σ ρ a := fun z => by
  obtain ⟨u, e, q⟩ := k.ow z
  exact h u e q
theorem Fr.keep (k : Ok P w K H σ ρ) (f : Fr σ ρ H H') : Keep H H' :=
  ⟨fun a xs h => f a _ h (k.notOw fun u e q => by rw [h] at e; cases e; exact q), fun a o u h => f a _ h (k.notOw fun v e q => by rw [h] at e; cases e; exact q)⟩

/-- what a result stands for -/
def RV (P : Program) (w : World) (K : PySem.W.Frag) (H : Hp) (σ : L2.St) (ρ : Rho) (v : V) : Rv → Prop
  | .val .un => False
  | .val (.shr d) => Rp P w K H v d
  | .val (.own o) => ∃ a, v = .ref a ∧ OwnAt P w K H a o ∧ ¬ Ow σ ρ a
  | .nam i => σ[i]? = some (some v)
/-- what is new was not there -/
def Nw (H : Hp) (v : V) : Rv → Prop
  | .val (.own _) => ∀ a, v = .ref a → H a = none
  | _ => True
theorem RV.keep {v : V} {r : Rv} (h : RV P w K H1 σ ρ1 v r) (k : Ok P w K H1 σ ρ1) (f : Fr σ ρ1 H1 H2) (s : Sub ρ1 ρ2) : RV P w K H2 σ ρ2 v r := by
  cases r with
  | nam i => exact h
  | val x =>
    cases x with
    | un => exact h
    | shr d => exact Rp.keep (f.keep k) h
    | own o =>
      obtain ⟨a, e, q, n⟩ := h
      exact ⟨a, e, q.keep (f.keep k) fun u z => f a u z n, fun z => n (s.ow z)⟩
/-- behind an expression -/
structure Pst (P : Program) (w : World) (K : PySem.W.Frag) (σ : L2.St) (ρ : Rho) (H : Hp) (ρ' : Rho) (H' : Hp) : Prop where
  fr : Fr σ ρ H H'
  ok : Ok P w K H' σ ρ'
  sub : Sub ρ ρ'
  trk : ∀ a, H' a = none → H a = none
theorem Pst.refl (k : Ok P w K H σ ρ) : Pst P w K σ ρ H ρ H := ⟨Fr.refl _ _ _, k, Sub.refl _, fun _ h => h⟩
theorem Pst.trans (a : Pst P w K σ ρ H ρ1 H1) (b : Pst P w K σ ρ1 H1 ρ2 H2) : Pst P w K σ ρ H ρ2 H2 := ⟨a.fr.trans a.sub b.fr, b.ok, a.sub.trans b.sub, fun x h => a.trk x (b.trk x h)⟩
theorem Pst.keep (k : Ok P w K H σ ρ) (a : Pst P w K σ ρ H ρ1 H1) : Keep H H1 := a.fr.keep k
/-- an object is laid where nothing was -/
theorem fr_new {p : Addr} {u : HO} (h : H p = none) : Fr σ ρ H (upd H p u) := fun a o e _ => by rw [upd_ne (ne_of_none e h)]; exact e
theorem keep_new {p : Addr} {u : HO} (h : H p = none) : Keep H (upd H p u) := ⟨fun a o e => by rw [upd_ne (ne_of_none e h)]; exact e, fun a o v e => by rw [upd_ne (ne_of_none e h)]; exact e⟩
theorem Ok.new (k : Ok P w K H σ ρ) {p : Addr} {u : HO} (h : H p = none) : Ok P w K (upd H p u) σ ρ := by
  refine ⟨fun i n => ?_, k.sep, k.len⟩
  obtain ⟨v, e, r⟩ := k.rep i n
  refine ⟨v, e, ?_⟩
  cases q : gt ρ i with
  | un => exact True.intro
  | shr d => rw [q] at r; exact Rp.keep (keep_new h) r
  | own o =>
    rw [q] at r
    obtain ⟨a, ea, r⟩ := r
    exact ⟨a, ea, r.keep (keep_new h) fun z ez => by rw [upd_ne (ne_of_none ez h)]; exact ez⟩
theorem Pst.new (a : Pst P w K σ ρ H ρ1 H1) {p : Addr} {u : HO} (h : H1 p = none) : Pst P w K σ ρ H ρ1 (upd H1 p u) := a.trans ⟨fr_new h, a.ok.new h, Sub.refl _, fun x e => by
  unfold upd at e
  split at e
  · cases e
  · exact e⟩
theorem Nw.back {v : V} {r : Rv} (h : Nw H1 v r) (a : Pst P w K σ ρ H ρ1 H1) : Nw H v r := by
  cases r with
  | nam i => exact True.intro
  | val x =>
    cases x with
    | own o => exact fun b e => a.trk b (h b e)
    | _ => exact True.intro
end
end Rt
set_option maxRecDepth 100000
set_option maxHeartbeats 4000000
namespace Rt
open PySem PySem.Spec PyProof.Rows L2

/-- objects are laid, nothing else changes -/
inductive Grow (H : Hp) : Hp → Prop
  | refl : Grow H H
  | put {H' : Hp} {p : Addr} {u : HO} : Grow H H' → H' p = none → Grow H (upd H' p u)
section
variable {P : Program} {w : World} {K : PySem.W.Frag} {H H1 H2 H' : Hp} {σ : L2.St} {ρ ρ1 ρ2 ρ' : Rho}
theorem Grow.one {p : Addr} {u : HO} (h : H p = none) : Grow H (upd H p u) := .put .refl h
theorem Grow.at (g : Grow H H') : ∀ {a : Addr} {u : HO}, H a = some u → H' a = some u := by
  induction g with
  | refl => exact fun h => h
  | put _ hp ih =>
    intro a u h
    have z := ih h
    rw [upd_ne (ne_of_none z hp)]
    exact z
theorem Grow.was (g : Grow H H') {a : Addr} (h : H' a = none) : H a = none := by
  cases q : H a with
  | none => rfl
  | some u => rw [g.at q] at h; cases h
theorem Grow.keep (g : Grow H H') : Keep H H' := ⟨fun _ _ h => g.at h, fun _ _ _ h => g.at h⟩
theorem Pst.grow (a : Pst P w K σ ρ H ρ1 H1) (g : Grow H1 H2) : Pst P w K σ ρ H ρ1 H2 := by
  induction g with
  | refl => exact a
  | put _ hp ih => exact ih.new hp

/-- the value can be read as the datum -/
def RdV (P : Program) (w : World) (K : PySem.W.Frag) (H : Hp) (v : V) (d : PyData) : Prop := Rp P w K H v d ∨ ∃ a o, v = .ref a ∧ OwnAt P w K H a o ∧ d = o.dat
theorem RV.rd {v : V} {r : Rv} {d : PyData} (h : RV P w K H σ ρ v r) (k : Ok P w K H σ ρ) (e : Rt.rd ρ r = .ok d) : RdV P w K H v d := by
  have slot : ∀ s : Sl, RpS P w K H v s → rdS s = .ok d → RdV P w K H v d := by
    intro s hs es
    cases s with
    | un => cases es
    | shr x => cases es; exact .inl hs
    | own o => cases es; obtain ⟨a, ea, q⟩ := hs; exact .inr ⟨a, o, ea, q, rfl⟩
  cases r with
  | val s =>
    cases s with
    | un => exact h.elim
    | shr x => exact slot (.shr x) h e
    | own o => obtain ⟨a, ea, q, _⟩ := h; exact slot (.own o) ⟨a, ea, q⟩ e
  | nam i =>
    have hu : gt ρ i ≠ .un := fun z => by rw [show Rt.rd ρ (.nam i) = rdS (gt ρ i) from rfl, z] at e; cases e
    obtain ⟨u, e1, q⟩ := k.rep i hu
    rw [show σ[i]? = some (some v) from h] at e1
    cases e1
    exact slot _ q e
theorem RdV.grow (g : Grow H H') {v : V} {d : PyData} (h : RdV P w K H v d) : RdV P w K H' v d := by
  rcases h with h | ⟨a, o, e, q, z⟩
  · exact .inl (h.keep g.keep)
  · exact .inr ⟨a, o, e, q.keep g.keep fun u x => g.at x, z⟩
/-- by the kind of data -/
theorem RdV.int {v : V} {i : Int} (h : RdV P w K H v (.int i)) : v = .int i := by
  rcases h with h | ⟨a, o, _, _, z⟩
  · cases h; rfl
  · cases o <;> cases z
theorem RdV.str {v : V} {x : Str} (h : RdV P w K H v (.str x)) : v = .str x := by
  rcases h with h | ⟨a, o, _, _, z⟩
  · cases h; rfl
  · cases o <;> cases z
theorem RdV.bool {v : V} {x : Bool} (h : RdV P w K H v (.bool x)) : v = .bl x := by
  rcases h with h | ⟨a, o, _, _, z⟩
  · cases h; rfl
  · cases o <;> cases z
theorem RdV.none {v : V} (h : RdV P w K H v .none) : v = .non := by
  rcases h with h | ⟨a, o, _, _, z⟩
  · cases h; rfl
  · cases o <;> cases z
theorem RdV.tuple {v : V} {ds : List PyData} (h : RdV P w K H v (.tuple ds)) : ∃ a vs, v = .ref a ∧ SqT K H a vs ∧ RpAll P w K H vs ds := by
  rcases h with h | ⟨a, o, _, _, z⟩
  · cases h with
    | tup h r => exact ⟨_, _, rfl, h, r⟩
  · cases o <;> cases z
theorem RdV.list {v : V} {ds : List PyData} (h : RdV P w K H v (.list ds)) : ∃ a vs, v = .ref a ∧ SqL K H a vs ∧ RpAll P w K H vs ds := by
  rcases h with h | ⟨a, o, e, q, z⟩
  · cases h with
    | lst h r => exact ⟨_, _, rfl, h.sqL, r⟩
  · cases o with
    | lst es => cases z; obtain ⟨vs, e2, r⟩ := q; exact ⟨a, vs, e, .inl (.inl e2), r⟩
    | dct kvs => cases z
theorem Rp.tuple {v : V} {ds : List PyData} (h : Rp P w K H v (.tuple ds)) : ∃ a vs, v = .ref a ∧ SqT K H a vs ∧ RpAll P w K H vs ds := RdV.tuple (.inl h)
mutual
theorem noD_lay : ∀ d : PyData, d.canLay0 = true → noD d = true
  | .none, _ => rfl
  | .bool _, _ => rfl
  | .int _, _ => rfl
  | .str _, _ => rfl
  | .list xs, h => by unfold noD; exact noDs_lay xs (by simpa [PyData.canLay0] using h)
  | .tuple xs, h => by unfold noD; exact noDs_lay xs (by simpa [PyData.canLay0] using h)
  | .dict _, h => by simp [PyData.canLay0] at h
theorem noDs_lay : ∀ d : List PyData, PyData.canLayAll0 d = true → noDs d = true
  | [], _ => rfl
  | x :: xs, h => by
    have c2 : x.canLay0 = true ∧ PyData.canLayAll0 xs = true := by simpa [PyData.canLayAll0] using h
    unfold noDs
    rw [noD_lay x c2.1, noDs_lay xs c2.2]
    rfl
end
mutual
theorem noD_self : ∀ x : PyData, PySem.W.alike x x = true → noD x = true
  | .none, _ => rfl
  | .bool _, _ => rfl
  | .int _, _ => rfl
  | .str _, _ => rfl
  | .list xs, h => by unfold noD; exact noDs_self xs (by simpa [PySem.W.alike] using h)
  | .tuple xs, h => by unfold noD; exact noDs_self xs (by simpa [PySem.W.alike] using h)
  | .dict _, h => by simp [PySem.W.alike] at h
theorem noDs_self : ∀ xs : List PyData, PySem.W.alikeAll xs xs = true → noDs xs = true
  | [], _ => rfl
  | x :: xs, h => by
    have h2 := PySem.W.alike_all_cons h
    unfold noDs
    rw [noD_self x h2.1, noDs_self xs h2.2]
    rfl
end
mutual
theorem Rp.dp : ∀ (d : PyData) (v : V), noD d = true → Rp P w K H v d → Dp K H v d
  | .none, _, _, h => by cases h; exact .non
  | .bool b, _, _, h => by cases h; exact .bl b
  | .int i, _, _, h => by cases h; exact .int i
  | .str x, _, _, h => by cases h; exact .str x
  | .tuple ds, _, c, h => by
    cases h with
    | tup h r => exact .tup h (RpAll.dp ds _ (by simpa [noD] using c) r)
  | .list ds, _, c, h => by
    cases h with
    | lst h r => exact .lst h.sqL (RpAll.dp ds _ (by simpa [noD] using c) r)
  | .dict _, _, c, _ => by simp [noD] at c
theorem RpAll.dp : ∀ (ds : List PyData) (vs : List V), noDs ds = true → RpAll P w K H vs ds → DpAll K H vs ds
  | [], _, _, h => by cases h; exact .nil
  | d :: ds, _, c, h => by
    have c2 : noD d = true ∧ noDs ds = true := by simpa [noDs] using c
    cases h with
    | cons h r => exact .cons (Rp.dp d _ c2.1 h) (RpAll.dp ds _ c2.2 r)
end
theorem RdV.dp {v : V} {d : PyData} (c : noD d = true) (h : RdV P w K H v d) : Dp K H v d := by
  rcases h with h | ⟨a, o, e, q, z⟩
  · exact h.dp d v c
  · subst z e
    cases o with
    | lst ds => obtain ⟨vs, e2, r⟩ := q; exact .lst (.inl (.inl e2)) (r.dp ds vs (by simpa [Ob.dat, noD] using c))
    | dct kvs => simp [Ob.dat, noD] at c
/-- a new result -/
structure Mk (P : Program) (w : World) (K : PySem.W.Frag) (H H' : Hp) (v : V) (s : Sl) : Prop where
  grow : Grow H H'
  rep : RpS P w K H' v s
  nw : ∀ o, s = .own o → ∀ a, v = .ref a → H a = none
  ne : s ≠ .un
theorem Mk.old {v : V} {d : PyData} (h : Rp P w K H v d) : Mk P w K H H v (.shr d) := ⟨.refl, h, fun _ e => (nomatch e), fun e => (nomatch e)⟩
theorem Mk.tup {p : Addr} {vs : List V} {ds : List PyData} (hp : H p = none) (r : RpAll P w K H vs ds) : Mk P w K H (upd H p (.tup vs)) (.ref p) (.shr (.tuple ds)) :=
  ⟨.one hp, .tup (.inl (.inl upd_same)) (r.keep (keep_new hp)), fun _ e => (nomatch e), fun e => (nomatch e)⟩
theorem Mk.lst {p : Addr} {vs : List V} {ds : List PyData} (hp : H p = none) (r : RpAll P w K H vs ds) : Mk P w K H (upd H p (.lst vs)) (.ref p) (.own (.lst ds)) :=
  ⟨.one hp, ⟨p, rfl, vs, upd_same, r.keep (keep_new hp)⟩, fun _ _ a e => by cases e; exact hp, fun e => (nomatch e)⟩
end

/-! ### a op b -/
def rBin (P : Program) (w : World) (K : PySem.W.Frag) (o : Bop) : R2 := fun x y H Q => ∃ dx dy s, RdV P w K H x dx ∧ RdV P w K H y dy ∧ binR o dx dy = .ok s ∧ ∀ v H', Mk P w K H H' v s → Q v H'
def opr : Bop → Operator
  | .add => .Add
  | .sub => .Sub
  | .mul => .Mult
  | .fdiv => .FloorDiv
  | .mod => .Mod
  | .pow => .Pow
section
variable {X : Cx}
theorem lim_line : lim = sizeLine := by unfold lim sizeLine; rfl
theorem add_lists {pins : List (Addr × Obj)} {s : Shared} {σ : L2.St} {H : Hp} {a b : Addr} {xs ys : List V} {Q : VK} (I : Inv X pins σ H s) (ha : SqL X.K H a xs) (hb : SqL X.K H b ys) (hz : xs.length + ys.length ≤ sizeLine)
    (q : ∀ p, H p = none → Q (.ref p) (upd H p (.lst (xs ++ ys)))) : wpAny (model X.prog X.w) X.A (binaryOp .Add (.ref a) (.ref b)) (EP X pins σ Q) X.xe s := by
  obtain ⟨us, r1, ⟨⟨c1, d1, t1, l1⟩, n1, g1, e1, f1, k1⟩, _⟩ := I.list ha
  obtain ⟨ws, r2, ⟨⟨c2, d2, t2, l2⟩, n2, g2, e2, f2, k2⟩, _⟩ := I.list hb
  simp only at e1 f1 k1 e2 f2 k2
  subst e1 f1 k1 e2 f2 k2
  have z1 := r1.length
  have z2 := r2.length
  refine concat_meets ⟨_, g1, rfl⟩ ⟨_, g2, rfl⟩ noFill_list_add seq_list_add PySem.F.slot_list_add PySem.F.entry_list_add (PySem.F.args_list_add_2 _ _) (list_addW a b us.toArray ws.toArray n1 n2 none none l1 l2 (by simp only [List.size_toArray]; omega)) ⟨g1, g2, ?_⟩
  rw [show us.toArray ++ ws.toArray = (us ++ ws).toArray by simp]
  exact ⟨.ref s.heap.objs.size, _, I.lnew (t' := s.toks) (r1.append r2) (by simp only [List.length_append]; omega), rfl, q _ I.fresh⟩
theorem opB (o : Bop) : OpR X (binaryOp (opr o)) (rBin X.prog X.w X.K o) := by
  intro pins s σ H x y v u Q I rx ry h
  obtain ⟨dx, dy, sl, hx, hy, e, q⟩ := h
  have done : ∀ d : PyData, sl = .shr d → ∀ z, Rp X.prog X.w X.K H z d → Q z H := fun d ed z r => q z H (ed ▸ Mk.old r)
  cases o <;> cases dx <;> simp only [binR] at e <;> (try cases e) <;> cases dy <;> simp only at e <;> (try cases e)
  case add.int.int a b => exact op_add pins s σ H x y v u Q I rx ry ⟨a, b, hx.int, hy.int, done _ rfl _ (.int _)⟩
  case add.str.str a b =>
    obtain ⟨e1, e2⟩ := Res.guard_eq_ok e
    cases e2
    exact op_add_str pins s σ H x y v u Q I rx ry ⟨a, b, hx.str, hy.str, by rw [← lim_line]; exact of_decide_eq_true e1, done _ rfl _ (.str _)⟩
  case add.list.list a b =>
    obtain ⟨e1, e2⟩ := Res.guard_eq_ok e
    cases e2
    obtain ⟨p, xs, rfl, h1, r1⟩ := hx.list
    obtain ⟨p2, ys, rfl, h2, r2⟩ := hy.list
    cases rx
    cases ry
    have l1 := r1.length
    have l2 := r2.length
    have e3 := of_decide_eq_true e1
    rw [lim_line] at e3
    exact add_lists I h1 h2 (by omega) fun p hp => q _ _ (Mk.lst hp (r1.append r2))
  case add.tuple.tuple a b =>
    obtain ⟨e1, e2⟩ := Res.guard_eq_ok e
    cases e2
    obtain ⟨p, xs, rfl, h1, r1⟩ := hx.tuple
    obtain ⟨p2, ys, rfl, h2, r2⟩ := hy.tuple
    have l1 := r1.length
    have l2 := r2.length
    have e3 := of_decide_eq_true e1
    rw [lim_line] at e3
    refine op_catA pins s σ H _ _ v u Q I rx ry ⟨p, p2, xs, ys, rfl, rfl, h1, h2, by omega, fun z => ?_, fun _ z => ?_, fun _ _ p hp => q _ _ (Mk.tup hp (r1.append r2))⟩
    · subst z
      cases r1
      exact q _ _ (Mk.old (.tup h2 r2))
    · subst z
      cases r2
      exact q _ _ (Mk.old (by rw [List.append_nil]; exact .tup h1 r1))
  case sub.int.int a b => exact op_sub pins s σ H x y v u Q I rx ry ⟨a, b, hx.int, hy.int, done _ rfl _ (.int _)⟩
  case mul.int.int a b =>
    obtain ⟨e1, e2⟩ := Res.guard_eq_ok e
    cases e2
    have e3 : -bigI < a ∧ a < bigI := by simpa [okMul] using e1
    exact op_mul pins s σ H x y v u Q I rx ry ⟨a, b, hx.int, hy.int, .inl e3, done _ rfl _ (.int _)⟩
  case mul.tuple.int a b =>
    obtain ⟨e1, e2⟩ := Res.guard_eq_ok e
    cases e2
    obtain ⟨p, xs, rfl, h1, r1⟩ := hx.tuple
    have l1 := r1.length
    simp only [Bool.and_eq_true, decide_eq_true_eq] at e1
    obtain ⟨⟨⟨e3, e4⟩, e5⟩, e6⟩ := e1
    refine op_repT pins s σ H _ y v u Q I rx ry ⟨p, b, xs, rfl, hy.int, h1, fun z => ?_, e4, e5, by omega, fun p hp => q _ _ (Mk.tup hp (r1.flat _))⟩
    subst z
    cases r1
    simp at e3
  case fdiv.int.int a b =>
    obtain ⟨e1, e2⟩ := Res.guard_eq_ok e
    cases e2
    simp only [Bool.and_eq_true, decide_eq_true_eq] at e1
    exact op_fdivN pins s σ H x y v u Q I rx ry ⟨a, b, hx.int, hy.int, e1, done _ rfl _ (.int _)⟩
  case mod.int.int a b =>
    obtain ⟨e1, e2⟩ := Res.guard_eq_ok e
    cases e2
    exact op_modN pins s σ H x y v u Q I rx ry ⟨a, b, hx.int, hy.int, of_decide_eq_true e1, done _ rfl _ (.int _)⟩
  case pow.int.int a b =>
    obtain ⟨e1, e2⟩ := Res.guard_eq_ok e
    cases e2
    have e3 : (0 ≤ b ∧ b ≤ 1000) ∧ -bigI < a ∧ a < bigI := by simpa [okMul] using e1
    unfold bigI at e3
    exact op_pow pins s σ H x y v u Q I rx ry ⟨a, b, hx.int, hy.int, ⟨e3.1.1, by omega, by show a.natAbs < 18446744073709551616; omega⟩, done _ rfl _ (.int _)⟩
end
end Rt
set_option maxRecDepth 100000
set_option maxHeartbeats 4000000
namespace Rt
open PySem PySem.Spec PyProof.Rows L2
def rCmp (P : Program) (w : World) (K : PySem.W.Frag) (o : Cop) : R2 := fun x y H Q => ∃ dx dy b, RdV P w K H x dx ∧ RdV P w K H y dy ∧ cmpR o dx dy = .ok b ∧ Q (.bl b) H
def copr : Cop → CmpOp
  | .eq => .Eq
  | .ne => .NotEq
  | .lt => .Lt
  | .le => .LtE
  | .gt => .Gt
  | .ge => .GtE
  | .inn => .In
  | .nin => .NotIn
section
variable {X : Cx} {pins : List (Addr × Obj)} {s : Shared} {σ : L2.St} {H : Hp}
theorem shp_lay {d : PyData} (h : shp d = true) : noD d = true := noD_lay d (SeqAt.canLay_of_shaped h)
theorem RdV.reads (I : Inv X pins σ H s) {v : V} {u : Value} {d : PyData} (c : noD d = true) (h : RdV X.prog X.w X.K H v d) (r : RelV v u) : ∃ as, Reads s.heap u d as := Dp.reads I d v u (h.dp c) r
theorem eq_ok (hu : X.A.units + 70 < cLine) {dx dy : PyData} {b : Bool} {x y : V} {v u : Value} {Q : VK} (I : Inv X pins σ H s) (hx : RdV X.prog X.w X.K H x dx) (hy : RdV X.prog X.w X.K H y dy) (rx : RelV x v) (ry : RelV y u) (e : eqR dx dy = .ok b) :
    (Q (.bl b) H → wpAny (model X.prog X.w) X.A (compareOp .Eq v u) (EP X pins σ Q) X.xe s) ∧ (Q (.bl (!b)) H → wpAny (model X.prog X.w) X.A (compareOp .NotEq v u) (EP X pins σ Q) X.xe s) := by
  have gen : shp dx = true → shp dy = true → b = PyData.eqv dx dy → (Q (.bl b) H → wpAny (model X.prog X.w) X.A (compareOp .Eq v u) (EP X pins σ Q) X.xe s) ∧ (Q (.bl (!b)) H → wpAny (model X.prog X.w) X.A (compareOp .NotEq v u) (EP X pins σ Q) X.xe s) := by
    intro h1 h2 h3
    subst h3
    exact ⟨fun q => op_eqD (by omega) pins s σ H x y v u Q I rx ry ⟨dx, dy, hx.dp (shp_lay h1), hy.dp (shp_lay h2), h1, h2, q⟩, fun q => op_neD (by omega) pins s σ H x y v u Q I rx ry ⟨dx, dy, hx.dp (shp_lay h1), hy.dp (shp_lay h2), h1, h2, q⟩⟩
  have sc : ∀ x' y' : V, x = x' → y = y' → scal x' y' = true → b = decide (x' = y') → (Q (.bl b) H → wpAny (model X.prog X.w) X.A (compareOp .Eq v u) (EP X pins σ Q) X.xe s) ∧ (Q (.bl (!b)) H → wpAny (model X.prog X.w) X.A (compareOp .NotEq v u) (EP X pins σ Q) X.xe s) := by
    intro x' y' e1 e2 e3 e4
    subst e1 e2 e4
    exact ⟨fun q => op_eq pins s σ H _ _ v u Q I rx ry ⟨e3, q⟩, fun q => op_ne pins s σ H _ _ v u Q I rx ry ⟨e3, q⟩⟩
  have main : (shp dx = true ∧ shp dy = true ∧ b = PyData.eqv dx dy) ∨ ∃ x' y', x = x' ∧ y = y' ∧ scal x' y' = true ∧ b = decide (x' = y') := by
    unfold eqR at e
    split at e
    · cases e; exact .inr ⟨_, _, hx.int, hy.int, rfl, by simp⟩
    · cases e; exact .inr ⟨_, _, hx.str, hy.str, rfl, by simp⟩
    · cases e; exact .inr ⟨_, _, hx.bool, hy.bool, rfl, by simp⟩
    · cases e; exact .inr ⟨_, _, hx.none, hy.none, rfl, by simp⟩
    · obtain ⟨e1, e2⟩ := Res.guard_eq_ok e
      cases e2
      have e3 := Bool.and_eq_true_iff.mp e1
      exact .inl ⟨e3.1, e3.2, rfl⟩
  rcases main with ⟨a, b, c⟩ | ⟨x', y', a, b, c, d⟩
  · exact gen a b c
  · exact sc x' y' a b c d
theorem okLt_and {x y : PyData} (h : okLt x y = true) : PySem.W.alike x y = true ∧ x ≠ .none ∧ noD x = true ∧ noD y = true ∧ x.depth ≤ 64 := by
  simp only [okLt, Bool.and_eq_true, decide_eq_true_eq] at h
  obtain ⟨⟨⟨⟨h1, h2⟩, h3⟩, h4⟩, h5⟩ := h
  exact ⟨h1, fun z => by subst z; simp [isNo] at h2, h3, h4, h5⟩
/-- x < y and y > x -/
theorem lt_ok (hu : X.A.units + 70 < cLine) {dx dy : PyData} {b : Bool} {x y : V} {v u : Value} {Q : VK} (I : Inv X pins σ H s) (hx : RdV X.prog X.w X.K H x dx) (hy : RdV X.prog X.w X.K H y dy) (rx : RelV x v) (ry : RelV y u) (e : ltR dx dy = .ok b) (q : Q (.bl b) H) :
    wpAny (model X.prog X.w) X.A (compareOp .Lt v u) (EP X pins σ Q) X.xe s := by
  unfold ltR at e
  split at e
  · cases e
    exact op_lt pins s σ H x y v u Q I rx ry ⟨_, _, hx.int, hy.int, q⟩
  · obtain ⟨e1, e2⟩ := Res.guard_eq_ok e
    cases e2
    obtain ⟨h1, h2, h3, h4, h5⟩ := okLt_and e1
    obtain ⟨as, r1⟩ := hx.reads I h3 rx
    obtain ⟨bs, r2⟩ := hy.reads I h4 ry
    exact PySem.W.lt_data r1 r2 h1 h2 (by omega) ⟨.bl _, H, I, rfl, q⟩
theorem gt_ok (hu : X.A.units + 70 < cLine) {dx dy : PyData} {b : Bool} {x y : V} {v u : Value} {Q : VK} (I : Inv X pins σ H s) (hx : RdV X.prog X.w X.K H x dx) (hy : RdV X.prog X.w X.K H y dy) (rx : RelV x v) (ry : RelV y u) (e : ltR dy dx = .ok b) (q : Q (.bl b) H) :
    wpAny (model X.prog X.w) X.A (compareOp .Gt v u) (EP X pins σ Q) X.xe s := by
  unfold ltR at e
  split at e
  · cases e
    exact op_gt pins s σ H x y v u Q I rx ry ⟨_, _, hx.int, hy.int, q⟩
  · obtain ⟨e1, e2⟩ := Res.guard_eq_ok e
    cases e2
    obtain ⟨h1, h2, h3, h4, h5⟩ := okLt_and e1
    obtain ⟨as, r1⟩ := hx.reads I h4 rx
    obtain ⟨bs, r2⟩ := hy.reads I h3 ry
    exact PySem.W.gt_data r1 r2 (by rw [PySem.W.alike_comm]; exact h1) (fun z => h2 (by rw [z] at h1; rw [PySem.W.alike_comm] at h1; revert h1; cases dy <;> simp [PySem.W.alike])) (by omega) ⟨.bl _, H, I, rfl, q⟩
theorem le_ok (hu : X.A.units + 70 < cLine) {dx dy : PyData} {b : Bool} {x y : V} {v u : Value} {Q : VK} (I : Inv X pins σ H s) (hx : RdV X.prog X.w X.K H x dx) (hy : RdV X.prog X.w X.K H y dy) (rx : RelV x v) (ry : RelV y u) (e : leR dx dy = .ok b) (q : Q (.bl b) H) :
    wpAny (model X.prog X.w) X.A (compareOp .LtE v u) (EP X pins σ Q) X.xe s := by
  unfold leR at e
  split at e
  · cases e
    exact op_le pins s σ H x y v u Q I rx ry ⟨_, _, hx.int, hy.int, q⟩
  · obtain ⟨e1, e2⟩ := Res.guard_eq_ok e
    cases e2
    obtain ⟨h1, h2, h3, h4, h5⟩ := okLt_and e1
    obtain ⟨as, r1⟩ := hx.reads I h3 rx
    obtain ⟨bs, r2⟩ := hy.reads I h4 ry
    exact PySem.W.le_data r1 r2 h1 h2 (by omega) ⟨.bl _, H, I, rfl, q⟩
theorem ge_ok (hu : X.A.units + 70 < cLine) {dx dy : PyData} {b : Bool} {x y : V} {v u : Value} {Q : VK} (I : Inv X pins σ H s) (hx : RdV X.prog X.w X.K H x dx) (hy : RdV X.prog X.w X.K H y dy) (rx : RelV x v) (ry : RelV y u) (e : leR dy dx = .ok b) (q : Q (.bl b) H) :
    wpAny (model X.prog X.w) X.A (compareOp .GtE v u) (EP X pins σ Q) X.xe s := by
  unfold leR at e
  split at e
  · cases e
    exact op_ge pins s σ H x y v u Q I rx ry ⟨_, _, hx.int, hy.int, q⟩
  · obtain ⟨e1, e2⟩ := Res.guard_eq_ok e
    cases e2
    obtain ⟨h1, h2, h3, h4, h5⟩ := okLt_and e1
    obtain ⟨as, r1⟩ := hx.reads I h4 rx
    obtain ⟨bs, r2⟩ := hy.reads I h3 ry
    exact PySem.W.ge_data r1 r2 (by rw [PySem.W.alike_comm]; exact h1) (fun z => h2 (by rw [z] at h1; rw [PySem.W.alike_comm] at h1; revert h1; cases dy <;> simp [PySem.W.alike])) (by omega) ⟨.bl _, H, I, rfl, q⟩
end
end Rt
set_option maxRecDepth 100000
set_option maxHeartbeats 4000000
namespace Rt
open PySem PySem.Spec PyProof.Rows L2
/-! ### keys -/
theorem kind1 {d : PyData} (h : kindK d = some 1) : ∃ xs, d = .tuple xs ∧ okKeys 6 xs = true := by
  cases d with
  | tuple xs =>
    simp only [kindK] at h
    split at h
    · exact ⟨xs, rfl, by assumption⟩
    · cases h
  | _ => cases h
theorem kind0 {d : PyData} (h : kindK d = some 0) : ∃ k : Key, d = kD k := by
  cases d with
  | int i => exact ⟨.inl i, rfl⟩
  | str x => exact ⟨.inr x, rfl⟩
  | tuple xs =>
    simp only [kindK] at h
    split at h <;> cases h
  | _ => cases h
mutual
theorem nk_depth : ∀ (n : Nat) (d : PyData), okKey n d = true → (nk d).depth ≤ n
  | _, .none, _ => by simp [nk, NestedKey.depth]
  | _, .bool _, _ => by simp [nk, NestedKey.depth]
  | _, .int _, _ => by simp [nk, NestedKey.depth]
  | _, .str _, _ => by simp [nk, NestedKey.depth]
  | 0, .tuple xs, h => by simp [okKey] at h
  | n + 1, .tuple xs, h => by
    have z := nks_depth n xs (by simpa [okKey] using h)
    simp only [nk, NestedKey.depth]
    omega
  | 0, .list _, h => by simp [okKey] at h
  | _ + 1, .list _, h => by simp [okKey] at h
  | 0, .dict _, h => by simp [okKey] at h
  | _ + 1, .dict _, h => by simp [okKey] at h
theorem nks_depth : ∀ (n : Nat) (ds : List PyData), okKeys n ds = true → NestedKey.depthAll (nks ds) ≤ n
  | _, [], _ => by simp [nks, NestedKey.depthAll]
  | n, d :: ds, h => by
    have h2 : okKey n d = true ∧ okKeys n ds = true := by simpa [okKeys] using h
    have a := nk_depth n d h2.1
    have b := nks_depth n ds h2.2
    simp only [nks, NestedKey.depthAll]
    omega
end
section
variable {X : Cx} {pins : List (Addr × Obj)} {s : Shared} {σ : L2.St} {H : Hp}
mutual
theorem Rp.nested (I : Inv X pins σ H s) : ∀ (n : Nat) (d : PyData) (v : V) (u : Value), okKey n d = true → Rp X.prog X.w X.K H v d → RelV v u → NestedIs s.heap (nk d) u
  | _, .none, _, _, _, h, r => by cases h; cases r; exact .none
  | _, .bool b, _, _, _, h, r => by cases h; cases r; exact .bool rfl
  | _, .int i, _, _, _, h, r => by cases h; obtain ⟨t, rfl⟩ := r; exact .int i t
  | _, .str x, _, _, _, h, r => by cases h; obtain ⟨t, rfl⟩ := r; exact .text x t
  | 0, .tuple xs, _, _, c, _, _ => by simp [okKey] at c
  | n + 1, .tuple xs, _, _, c, h, r => by
    cases h with
    | tup h1 h2 =>
      cases r
      obtain ⟨its, rv, ⟨o, ho, hc, m, hd⟩, _⟩ := I.tuple h1
      exact .tup ho hc hd (by simpa using RpAll.nested I n xs _ its (by simpa [okKey] using c) h2 rv)
  | 0, .list _, _, _, c, _, _ => by simp [okKey] at c
  | _ + 1, .list _, _, _, c, _, _ => by simp [okKey] at c
  | 0, .dict _, _, _, c, _, _ => by simp [okKey] at c
  | _ + 1, .dict _, _, _, c, _, _ => by simp [okKey] at c
theorem RpAll.nested (I : Inv X pins σ H s) : ∀ (n : Nat) (ds : List PyData) (vs : List V) (us : List Value), okKeys n ds = true → RpAll X.prog X.w X.K H vs ds → Vals vs us → NestedAll s.heap (nks ds) us
  | _, [], _, _, _, h, r => by cases h; cases r; exact .nil
  | n, d :: ds, _, _, c, h, r => by
    have c2 : okKey n d = true ∧ okKeys n ds = true := by simpa [okKeys] using c
    cases h with
    | cons h1 h2 =>
      cases r with
      | cons r1 r2 => exact .cons (Rp.nested I n d _ _ c2.1 h1 r1) (RpAll.nested I n ds _ _ c2.2 h2 r2)
end
theorem Rp.key (I : Inv X pins σ H s) {d : PyData} {b : Addr} (c : kindK d = some 1) (h : Rp X.prog X.w X.K H (.ref b) d) : (nestedKind X.prog X.w).is s.heap (nk d) b := by
  obtain ⟨xs, rfl, c2⟩ := kind1 c
  have c3 : okKey 7 (.tuple xs) = true := by simpa [okKey] using c2
  exact ⟨Rp.nested I 7 _ _ _ c3 h rfl, Nat.le_trans (nk_depth 7 _ c3) (by omega)⟩
end
mutual
theorem eqv_nk : ∀ (n m : Nat) (a b : PyData), okKey n a = true → okKey m b = true → PyData.eqv a b = NestedKey.beq (nk a) (nk b)
  | _, _, .none, b, _, h => by cases b <;> simp_all [PyData.eqv, nk, NestedKey.beq, okKey]
  | _, _, .bool x, b, _, h => by
    cases b with
    | bool y => cases x <;> cases y <;> simp [PyData.eqv, nk, NestedKey.beq]
    | int y => cases x <;> simp [PyData.eqv, nk, NestedKey.beq, Bool.beq_eq_decide_eq]
    | list y => cases ‹Nat› <;> simp [okKey] at h
    | dict y => cases ‹Nat› <;> simp [okKey] at h
    | _ => simp [PyData.eqv, nk, NestedKey.beq]
  | _, _, .int x, b, _, h => by
    cases b with
    | bool y => cases y <;> simp [PyData.eqv, nk, NestedKey.beq, Bool.beq_eq_decide_eq]
    | int y => simp [PyData.eqv, nk, NestedKey.beq, Bool.beq_eq_decide_eq]
    | list y => cases ‹Nat› <;> simp [okKey] at h
    | dict y => cases ‹Nat› <;> simp [okKey] at h
    | _ => simp [PyData.eqv, nk, NestedKey.beq]
  | _, _, .str x, b, _, h => by
    cases b with
    | str y => simp [PyData.eqv, nk, NestedKey.beq, Bool.beq_eq_decide_eq]
    | list y => cases ‹Nat› <;> simp [okKey] at h
    | dict y => cases ‹Nat› <;> simp [okKey] at h
    | _ => simp [PyData.eqv, nk, NestedKey.beq]
  | 0, _, .tuple _, _, h, _ => by simp [okKey] at h
  | n + 1, 0, .tuple xs, .tuple _, _, h => by simp [okKey] at h
  | n + 1, m + 1, .tuple xs, .tuple ys, h1, h2 => by
    simp only [PyData.eqv, nk, NestedKey.beq]
    exact eqvs_nk n m xs ys (by simpa [okKey] using h1) (by simpa [okKey] using h2)
  | n + 1, _, .tuple xs, .none, _, h => by simp [PyData.eqv, nk, NestedKey.beq]
  | n + 1, _, .tuple xs, .bool _, _, h => by simp [PyData.eqv, nk, NestedKey.beq]
  | n + 1, _, .tuple xs, .int _, _, h => by simp [PyData.eqv, nk, NestedKey.beq]
  | n + 1, _, .tuple xs, .str _, _, h => by simp [PyData.eqv, nk, NestedKey.beq]
  | n + 1, m, .tuple xs, .list _, _, h => by cases m <;> simp [okKey] at h
  | n + 1, m, .tuple xs, .dict _, _, h => by cases m <;> simp [okKey] at h
  | n, _, .list _, _, h, _ => by cases n <;> simp [okKey] at h
  | n, _, .dict _, _, h, _ => by cases n <;> simp [okKey] at h
theorem eqvs_nk : ∀ (n m : Nat) (a b : List PyData), okKeys n a = true → okKeys m b = true → PyData.eqvAll a b = NestedKey.beqAll (nks a) (nks b)
  | _, _, [], [], _, _ => by simp [PyData.eqvAll, nks, NestedKey.beqAll]
  | _, _, [], _ :: _, _, _ => by simp [PyData.eqvAll, nks, NestedKey.beqAll]
  | _, _, _ :: _, [], _, _ => by simp [PyData.eqvAll, nks, NestedKey.beqAll]
  | n, m, x :: xs, y :: ys, h1, h2 => by
    have c1 : okKey n x = true ∧ okKeys n xs = true := by simpa [okKeys] using h1
    have c2 : okKey m y = true ∧ okKeys m ys = true := by simpa [okKeys] using h2
    simp only [PyData.eqvAll, nks, NestedKey.beqAll]
    rw [eqv_nk n m x y c1.1 c2.1, eqvs_nk n m xs ys c1.2 c2.2]
end
theorem eqv_kind1 {a b : PyData} (ha : kindK a = some 1) (hb : kindK b = some 1) : PyData.eqv a b = decide (nk a = nk b) := by
  obtain ⟨xs, rfl, c2⟩ := kind1 ha
  obtain ⟨ys, rfl, c3⟩ := kind1 hb
  rw [NestedKey.decide_eq]
  exact eqv_nk 7 7 _ _ (by simpa [okKey] using c2) (by simpa [okKey] using c3)
theorem eqv_kD (a b : Key) : PyData.eqv (kD a) (kD b) = decide (a = b) := by
  cases a <;> cases b <;> simp [kD, PyData.eqv, Bool.beq_eq_decide_eq]

/-! ### looking up, putting -/
section
variable {P : Program} {w : World} {K : PySem.W.Frag} {H H' : Hp}
theorem look_cons (p : PyData × PyData) (kvs : List (PyData × PyData)) (k : PyData) : look (p :: kvs) k = if PyData.eqv p.1 k = true then some p.2 else look kvs k := by
  unfold look
  rw [List.find?_cons]
  cases PyData.eqv p.1 k <;> rfl
theorem valV_cons {κ : Type} [DecidableEq κ] (p : κ × V) (kvs : List (κ × V)) (k : κ) : valV (p :: kvs) k = if p.1 = k then some p.2 else valV kvs k := by
  unfold valV
  rw [List.find?_cons]
  by_cases h : p.1 = k <;> simp [h]
theorem atKey_cons (p : NestedKey × Addr × Value) (xs : List (NestedKey × Addr × Value)) (k : NestedKey) : atKey (p :: xs) k = if p.1 = k then some p.2 else atKey xs k := by
  unfold atKey
  rw [List.find?_cons]
  by_cases h : p.1 = k <;> simp [h]
theorem RpK.look (k : Key) : ∀ {ks : List (Key × V)} {kvs : List (PyData × PyData)}, RpK P w K H ks kvs → (Rt.look kvs (kD k) = none ∧ valV ks k = none) ∨ ∃ v d, Rt.look kvs (kD k) = some d ∧ valV ks k = some v ∧ Rp P w K H v d
  | _, _, .nil => .inl ⟨rfl, rfl⟩
  | _, _, .cons (k := k0) h r => by
    rw [look_cons, valV_cons, eqv_kD]
    by_cases e : k0 = k
    · simp only [e, decide_true, if_true]
      exact .inr ⟨_, _, rfl, rfl, h⟩
    · simp only [e, decide_false, if_false, Bool.false_eq_true]
      exact RpK.look k r
theorem RpT.look {k : PyData} (hk : kindK k = some 1) : ∀ {xs : List (NestedKey × Addr × Value)} {kvs : List (PyData × PyData)}, RpT P w K H xs kvs →
    (Rt.look kvs k = none ∧ atKey xs (nk k) = none) ∨ ∃ b u v d, Rt.look kvs k = some d ∧ atKey xs (nk k) = some (b, u) ∧ RelV v u ∧ Rp P w K H v d
  | _, _, .nil => .inl ⟨rfl, rfl⟩
  | _, _, .cons (k := k0) h1 h2 h3 h4 r => by
    rw [look_cons, atKey_cons, eqv_kind1 h2 hk]
    by_cases e : nk k0 = nk k
    · simp only [e, decide_true, if_true]
      exact .inr ⟨_, _, _, _, rfl, rfl, h3, h4⟩
    · simp only [e, decide_false, if_false, Bool.false_eq_true]
      exact RpT.look hk r
theorem RpK.any (k : Key) : ∀ {ks : List (Key × V)} {kvs : List (PyData × PyData)}, RpK P w K H ks kvs → (kvs.any fun p => PyData.eqv p.1 (kD k)) = ks.any fun kv => decide (kv.1 = k)
  | _, _, .nil => rfl
  | _, _, .cons h r => by rw [List.any_cons, List.any_cons, RpK.any k r, eqv_kD]
theorem RpK.map {v : V} {d : PyData} (k : Key) (hv : Rp P w K H v d) : ∀ {ks : List (Key × V)} {kvs : List (PyData × PyData)}, RpK P w K H ks kvs →
    RpK P w K H (ks.map fun kv => if kv.1 = k then (kv.1, v) else kv) (kvs.map fun p => if PyData.eqv p.1 (kD k) = true then (p.1, d) else p)
  | _, _, .nil => .nil
  | _, _, .cons (k := k0) h r => by
    rw [List.map_cons, List.map_cons, eqv_kD]
    by_cases e : k0 = k
    · simp only [e, decide_true, if_true]
      exact .cons hv (RpK.map k hv r)
    · simp only [e, decide_false, if_false, Bool.false_eq_true]
      exact .cons h (RpK.map k hv r)
theorem RpK.append : ∀ {ks ls : List (Key × V)} {kvs lvs : List (PyData × PyData)}, RpK P w K H ks kvs → RpK P w K H ls lvs → RpK P w K H (ks ++ ls) (kvs ++ lvs)
  | _, _, _, _, .nil, s => s
  | _, _, _, _, .cons h r, s => .cons h (RpK.append r s)
theorem RpK.put {v : V} {d : PyData} (k : Key) (hv : Rp P w K H v d) {ks : List (Key × V)} {kvs : List (PyData × PyData)} (h : RpK P w K H ks kvs) : RpK P w K H (putK ks k v) (Rt.put kvs (kD k) d) := by
  unfold putK Rt.put
  rw [h.any k]
  split
  · exact h.map k hv
  · exact h.append (.cons hv .nil)
theorem RpT.any {k : PyData} (hk : kindK k = some 1) : ∀ {xs : List (NestedKey × Addr × Value)} {kvs : List (PyData × PyData)}, RpT P w K H xs kvs → (kvs.any fun p => PyData.eqv p.1 k) = (atKey xs (nk k)).isSome
  | _, _, .nil => rfl
  | _, _, .cons (k := k0) h1 h2 h3 h4 r => by
    rw [List.any_cons, atKey_cons, RpT.any hk r, eqv_kind1 h2 hk]
    by_cases e : nk k0 = nk k <;> simp [e]
theorem RpT.map {k : PyData} (hk : kindK k = some 1) {v : V} {u : Value} {d : PyData} (hr : RelV v u) (hv : Rp P w K H v d) : ∀ {xs : List (NestedKey × Addr × Value)} {kvs : List (PyData × PyData)}, RpT P w K H xs kvs →
    RpT P w K H (xs.map (putAt (nk k) u)) (kvs.map fun p => if PyData.eqv p.1 k = true then (p.1, d) else p)
  | _, _, .nil => .nil
  | _, _, .cons (k := k0) h1 h2 h3 h4 r => by
    have ih := RpT.map hk hr hv r
    rw [List.map_cons, List.map_cons, eqv_kind1 h2 hk]
    by_cases e : nk k0 = nk k
    · rw [show putAt (nk k) u (nk k0, _, _) = (nk k0, _, u) from if_pos e]
      simp only [e, decide_true, if_true]
      rw [← e]
      rw [← e] at ih
      exact .cons h1 h2 hr hv ih
    · rw [show putAt (nk k) u (nk k0, _, _) = (nk k0, _, _) from if_neg e]
      simp only [e, decide_false, if_false, Bool.false_eq_true]
      exact .cons h1 h2 h3 h4 ih
theorem RpT.append : ∀ {ks ls : List (NestedKey × Addr × Value)} {kvs lvs : List (PyData × PyData)}, RpT P w K H ks kvs → RpT P w K H ls lvs → RpT P w K H (ks ++ ls) (kvs ++ lvs)
  | _, _, _, _, .nil, s => s
  | _, _, _, _, .cons h1 h2 h3 h4 r, s => .cons h1 h2 h3 h4 (RpT.append r s)
theorem RpT.put {k : PyData} (hk : kindK k = some 1) {b : Addr} {v : V} {u : Value} {d : PyData} (hb : Rp P w K H (.ref b) k) (hr : RelV v u) (hv : Rp P w K H v d) {xs : List (NestedKey × Addr × Value)} {kvs : List (PyData × PyData)} (h : RpT P w K H xs kvs) :
    RpT P w K H (storedH xs (nk k) b u) (Rt.put kvs k d) := by
  unfold storedH Rt.put
  rw [h.any hk]
  split
  · exact h.map hk hr hv
  · exact h.append (.cons hb hk hr hv .nil)
theorem RpK.length : ∀ {ks : List (Key × V)} {kvs : List (PyData × PyData)}, RpK P w K H ks kvs → ks.length = kvs.length
  | _, _, .nil => rfl
  | _, _, .cons _ r => by simp [RpK.length r]
theorem RpT.length : ∀ {ks : List (NestedKey × Addr × Value)} {kvs : List (PyData × PyData)}, RpT P w K H ks kvs → ks.length = kvs.length
  | _, _, .nil => rfl
  | _, _, .cons _ _ _ _ r => by simp [RpT.length r]
theorem RdV.dict {v : V} {kvs : List (PyData × PyData)} (h : RdV P w K H v (.dict kvs)) : ∃ a, v = .ref a ∧ ((∃ ks, Rd H a (.dK ks) ∧ RpK P w K H ks kvs) ∨ ∃ xs, Rd H a (tO P w a xs) ∧ xs ≠ [] ∧ RpT P w K H xs kvs) := by
  rcases h with h | ⟨a, o, e, q, z⟩
  · cases h with
    | dK h r => exact ⟨_, rfl, .inl ⟨_, .inr ⟨_, h⟩, r⟩⟩
    | dT h n r => exact ⟨_, rfl, .inr ⟨_, .inr ⟨_, h⟩, n, r⟩⟩
  · cases o with
    | lst ds => cases z
    | dct es =>
      cases z
      rcases q with ⟨ks, e2, r⟩ | ⟨xs, e2, n, r⟩
      · exact ⟨a, e, .inl ⟨ks, .inl e2, r⟩⟩
      · exact ⟨a, e, .inr ⟨xs, .inl e2, n, r⟩⟩
theorem kD_kind (k : Key) : kindK (kD k) = some 0 := by cases k <;> rfl
theorem RpK.kind {ks : List (Key × V)} {p : PyData × PyData} {kvs : List (PyData × PyData)} (h : RpK P w K H ks (p :: kvs)) : kindK p.1 = some 0 := by
  cases h with
  | cons h r => exact kD_kind _
theorem RpT.kind {xs : List (NestedKey × Addr × Value)} {p : PyData × PyData} {kvs : List (PyData × PyData)} (h : RpT P w K H xs (p :: kvs)) : kindK p.1 = some 1 := by
  cases h with
  | cons _ h _ _ _ => exact h
theorem okFor_kinds {kvs : List (PyData × PyData)} {k : PyData} (h : okFor kvs k = true) : (kindK k = some 0 ∨ kindK k = some 1) ∧ ∀ p r, kvs = p :: r → kindK p.1 = kindK k := by
  unfold okFor at h
  obtain ⟨h1, h2⟩ := Bool.and_eq_true_iff.mp h
  refine ⟨?_, fun p r e => ?_⟩
  · unfold isKey at h1
    cases k with
    | int i => exact .inl rfl
    | str x => exact .inl rfl
    | tuple xs =>
      simp only [kindK] at h1 ⊢
      split at h1
      · rename_i z; rw [if_pos z]; exact .inr rfl
      · cases h1
    | _ => cases h1
  · subst e
    exact of_decide_eq_true h2
end
section
variable {X : Cx} {pins : List (Addr × Obj)} {s : Shared} {σ : L2.St} {H : Hp}
theorem RpT.is (I : Inv X pins σ H s) : ∀ {xs : List (NestedKey × Addr × Value)} {kvs : List (PyData × PyData)}, RpT X.prog X.w X.K H xs kvs → ∀ x ∈ xs, (nestedKind X.prog X.w).is s.heap x.1 x.2.1
  | _, _, .nil, _, h => by cases h
  | _, _, .cons h1 h2 _ _ r, x, h => by
    rcases List.mem_cons.mp h with e | h
    · subst e; exact h1.key I h2
    · exact RpT.is I r x h
/-- the raw dict -/
theorem tO_raw (I : Inv X pins σ H s) {a : Addr} {xs : List (NestedKey × Addr × Value)} {kvs : List (PyData × PyData)} (h : Rd H a (tO X.prog X.w a xs)) (r : RpT X.prog X.w X.K H xs kvs) :
    s.heap.DictOfH (nestedKind X.prog X.w) a xs ∧ (a == sysModules) = false ∧ xs.length ≤ sizeLine := by
  obtain ⟨⟨o, es, ep, h1, h2, h3, h4, h5, h6, h7⟩, _⟩ := h.ok I.hok
  exact ⟨⟨o, es, ep, h1, h2, h3, h4, RpT.is I r, h5⟩, h6, h7⟩
/-- an empty dict is of every kind -/
theorem empty_raw (I : Inv X pins σ H s) {a : Addr} (h : Rd H a (.dK [])) : s.heap.DictOfH (nestedKind X.prog X.w) a [] ∧ (a == sysModules) = false := by
  obtain ⟨_, hd, vs, rel, o, es, ep, h1, h2, h3, _, h5, _⟩ := dk_rd I.hok h
  have e0 : vs = [] := by cases rel; rfl
  subst e0
  have e1 : es.toList = [] := by
    have z := h5.length
    exact List.eq_nil_of_length_eq_zero z
  exact ⟨⟨o, es, ep, h1, h2, h3, by rw [e1]; rfl, fun x hx => (by cases hx), List.nodup_nil⟩, hd⟩
/-- what a look-up finds: by a number or a text, or by a tuple -/
inductive Fnd (X : Cx) (H : Hp) (s : Shared) (a : Addr) (y : V) (kvs : List (PyData × PyData)) (k : PyData) : Prop
  | num (o : Option V) : DGet H a y o → (∀ d, look kvs k = some d → ∃ v, o = some v ∧ Rp X.prog X.w X.K H v d) → (look kvs k = none → o = none) → Fnd X H s a y kvs k
  | tup (b : Addr) (xs : List (NestedKey × Addr × Value)) : y = .ref b → (nestedKind X.prog X.w).is s.heap (nk k) b → s.heap.DictOfH (nestedKind X.prog X.w) a xs → (a == sysModules) = false →
      (∀ d, look kvs k = some d → ∃ b u v, atKey xs (nk k) = some (b, u) ∧ RelV v u ∧ Rp X.prog X.w X.K H v d) → (look kvs k = none → atKey xs (nk k) = none) → Fnd X H s a y kvs k
theorem fnd (I : Inv X pins σ H s) {x y : V} {kvs : List (PyData × PyData)} {k : PyData} (hx : RdV X.prog X.w X.K H x (.dict kvs)) (hy : RdV X.prog X.w X.K H y k) (hk : okFor kvs k = true) : ∃ a, x = .ref a ∧ Fnd X H s a y kvs k := by
  obtain ⟨kk, kh⟩ := okFor_kinds hk
  obtain ⟨a, rfl, hd⟩ := hx.dict
  refine ⟨a, rfl, ?_⟩
  rcases kk with k0 | k1
  · obtain ⟨q, rfl⟩ := kind0 k0
    have ey : y = kV q := by
      cases q with
      | inl i => exact hy.int
      | inr z => exact hy.str
    rcases hd with ⟨ks, e, r⟩ | ⟨xs, e, n, r⟩
    · refine .num (valV ks q) (.inl ⟨ks, q, e, ey, rfl⟩) (fun d hl => ?_) fun hl => ?_
      · rcases r.look q with ⟨z, _⟩ | ⟨v, d', z1, z2, z3⟩
        · rw [z] at hl; cases hl
        · rw [z1] at hl; cases hl; exact ⟨v, z2, z3⟩
      · rcases r.look q with ⟨_, z⟩ | ⟨v, d', z1, z2, z3⟩
        · exact z
        · rw [z1] at hl; cases hl
    · cases kvs with
      | nil => cases r; exact absurd rfl n
      | cons p t =>
        have e1 := kh p t rfl
        rw [r.kind, k0] at e1
        cases e1
  · obtain ⟨ks, ek, _⟩ := kind1 k1
    have hyr : Rp X.prog X.w X.K H y k := by
      rcases hy with h | ⟨b, o, _, _, z⟩
      · exact h
      · subst ek; cases o <;> cases z
    obtain ⟨b, eb⟩ : ∃ b, y = .ref b := by
      subst ek
      cases hyr with
      | tup _ _ => exact ⟨_, rfl⟩
    subst eb
    rcases hd with ⟨ls, e, r⟩ | ⟨xs, e, n, r⟩
    · cases kvs with
      | nil =>
        cases r
        obtain ⟨q1, q2⟩ := empty_raw I e
        exact .tup b [] rfl (hyr.key I k1) q1 q2 (fun d hl => by cases hl) fun _ => rfl
      | cons p t =>
        have e1 := kh p t rfl
        rw [r.kind, k1] at e1
        cases e1
    · obtain ⟨q1, q2, _⟩ := tO_raw I e r
      refine .tup b xs rfl (hyr.key I k1) q1 q2 (fun d hl => ?_) fun hl => ?_
      · rcases r.look k1 with ⟨z, _⟩ | ⟨b', u, v, d', z1, z2, z3, z4⟩
        · rw [z] at hl; cases hl
        · rw [z1] at hl; cases hl; exact ⟨b', u, v, z2, z3, z4⟩
      · rcases r.look k1 with ⟨_, z⟩ | ⟨b', u, v, d', z1, z2, z3, z4⟩
        · exact z
        · rw [z1] at hl; cases hl
end
end Rt
set_option maxRecDepth 100000
set_option maxHeartbeats 1000000
namespace Rt
open PySem PySem.Spec PyProof.Rows L2
/-! ### a dict's entries -/
inductive Ents (P : Program) (w : World) (K : PySem.W.Frag) (H : Hp) : List DictEntry → List (PyData × PyData) → Prop
  | nil : Ents P w K H [] []
  | cons {e : DictEntry} {es : List DictEntry} {k d : PyData} {kvs : List (PyData × PyData)} (kv vv : V) : RelV kv e.key → Rp P w K H kv k → RelV vv e.val → Rp P w K H vv d → Ents P w K H es kvs → Ents P w K H (e :: es) ((k, d) :: kvs)
section
variable {P : Program} {w : World} {K : PySem.W.Frag} {H H' : Hp}
theorem Rp.key0 (k : Key) : Rp P w K H (kV k) (kD k) := by cases k with
  | inl i => exact .int i
  | inr x => exact .str x
theorem ents_K : ∀ {ks : List (Key × V)} {vs : List (Key × Value)} {es : List DictEntry} {kvs : List (PyData × PyData)}, RpK P w K H ks kvs → KV ks vs → PySem.Pairs (mixKind P w) es vs → Ents P w K H es kvs
  | _, _, _, _, .nil, .nil, .nil => .nil
  | _, _, _, _, .cons (k := k) h r, .cons q t, .cons a b c => by
    refine .cons (kV k) _ ?_ (Rp.key0 k) ?_ h (ents_K r t c)
    · have e := q.1
      simp only at e
      rw [e]
      exact keyIs_rel a
    · rw [b]
      exact q.2
theorem ents_T : ∀ {xs : List (NestedKey × Addr × Value)} {kvs : List (PyData × PyData)}, RpT P w K H xs kvs → Ents P w K H (xs.map (entryOfKey (nestedKind P w))) kvs
  | _, _, .nil => .nil
  | _, _, .cons h1 h2 h3 h4 r => .cons (.ref _) _ rfl h1 h3 h4 (ents_T r)
theorem Ents.length : ∀ {es : List DictEntry} {kvs : List (PyData × PyData)}, Ents P w K H es kvs → es.length = kvs.length
  | _, _, .nil => rfl
  | _, _, .cons _ _ _ _ _ _ r => by simp [Ents.length r]
theorem Ents.keys : ∀ {es : List DictEntry} {kvs : List (PyData × PyData)}, Ents P w K H es kvs → ∃ vs, Vals vs (es.map (·.key)) ∧ RpAll P w K H vs (kvs.map (·.1))
  | _, _, .nil => ⟨[], .nil, .nil⟩
  | _, _, .cons kv vv a b _ _ r => by
    obtain ⟨vs, h1, h2⟩ := Ents.keys r
    exact ⟨kv :: vs, .cons a h1, .cons b h2⟩
end
section
variable {X : Cx} {pins : List (Addr × Obj)} {s : Shared} {σ : L2.St} {H : Hp}
theorem dict_raw (I : Inv X pins σ H s) {x : V} {kvs : List (PyData × PyData)} (h : RdV X.prog X.w X.K H x (.dict kvs)) :
    ∃ a o es ep, x = .ref a ∧ s.heap.get? a = some o ∧ o.ExactDict ∧ o.data = .dict es ep ∧ (a == sysModules) = false ∧ kvs.length ≤ sizeLine ∧ Ents X.prog X.w X.K H es.toList kvs := by
  obtain ⟨a, rfl, hd⟩ := h.dict
  rcases hd with ⟨ks, e, r⟩ | ⟨xs, e, n, r⟩
  · obtain ⟨z, hs, vs, rel, o, es, ep, h1, h2, h3, _, h5, _⟩ := dk_rd I.hok e
    exact ⟨a, o, es, ep, rfl, h1, h2, h3, hs, by rw [← r.length]; exact z, ents_K r rel h5⟩
  · obtain ⟨⟨o, es, ep, h1, h2, h3, h4, h5, h6, h7⟩, _⟩ := e.ok I.hok
    exact ⟨a, o, es, ep, rfl, h1, h2, h3, h6, by rw [← r.length]; exact h7, by rw [h4]; exact ents_T r⟩
end
/-! ### a dict and an empty dict -/
section
variable {P : Program} {w : World} {A : Around} {E : Value → Shared → Prop} {s : Shared}
theorem pairs_empty {nm : String} {a b : Addr} {es es2 : Array DictEntry} {ep ep2 : Nat} {Q : Bool → Shared → Prop} (ha : (a == sysModules) = false) (hb : (b == sysModules) = false) (da : s.heap.DictRaw a es ep) (db : s.heap.DictRaw b es2 ep2) (h0 : es2.size = 0) (h : Q (es.size == 0) s) :
    wpAny (model P w) A (Builtin.Dict.samePairs nm a b) Q E s := by
  obtain ⟨oa, hoa, _, hda⟩ := da
  obtain ⟨ob, hob, _, hdb⟩ := db
  unfold Builtin.Dict.samePairs Builtin.Dict.showsAll
  rw [if_neg (by rw [ha]; exact Bool.false_ne_true), if_neg (by rw [hb]; exact Bool.false_ne_true)]
  refine wpAny_bind (wpAny_pure (wpAny_bind (wpAny_pure (wpAny_bind (wpAny_dictEntries hoa hda ?_)))))
  refine wpAny_bind (wpAny_dictEntries hob hdb ?_)
  cases hz : es.size with
  | zero =>
    rw [hz] at h
    rw [if_neg (by rw [h0]; simp)]
    refine wpAny_bind (wpAny_dictEpoch hoa hda ?_)
    refine wpAny_bind ?_
    rw [Std.Legacy.Range.forIn_eq_forIn_range']
    exact wpAny_pure (wpAny_pure h)
  | succ k =>
    rw [hz] at h
    rw [if_pos (by rw [h0]; simp)]
    exact wpAny_bind (wpAny_rule (wpAny_pure h))
theorem eq_empty {a b : Addr} {es es2 : Array DictEntry} {ep ep2 : Nat} {Q : Value → Shared → Prop} (ha : (a == sysModules) = false) (hb : (b == sysModules) = false) (da : s.heap.DictRaw a es ep) (db : s.heap.DictRaw b es2 ep2) (h0 : es2.size = 0) (hu : A.units < cLine) :
    (Q (.bool (es.size == 0)) s → wpAny (model P w) A (compareOp .Eq (.ref a) (.ref b)) Q E s) ∧ (Q (.bool (!(es.size == 0))) s → wpAny (model P w) A (compareOp .NotEq (.ref a) (.ref b)) Q E s) := by
  constructor
  · intro h
    refine wpAny_richCompare_same_room (op := .Eq) da.typeIs db.typeIs PySem.F.slot_dict_eq (wpAny_call_entry PySem.F.slot_dict_eq da.typeIs PySem.F.entry_dict_eq ?_ (PySem.F.args_dict_eq_2 _ _)) hu
    show wpAny _ _ (Builtin.Dict.dictSlotArgs "__eq__" ⟨[.ref a, .ref b], []⟩ >>= _) _ _ s
    unfold Builtin.Dict.dictSlotArgs
    refine wpAny_bind (wpAny_bind (wpAny_notOrdered_dict da.typeIs (wpAny_pure ?_)))
    refine wpAny_bind (wpAny_isInstance (T := "dict") db.typeIs PySem.F.sub_dict_dict ?_)
    simp only [Bool.not_true, Bool.false_eq_true, if_false]
    refine wpAny_bind (wpAny_pure (wpAny_bind (wpAny_pure (wpAny_bind (pairs_empty ha hb da db h0 ?_)))))
    refine wpAny_pure ⟨_, rfl, ?_, ?_⟩
    · exact fun x => nomatch x
    · simpa using h
  · intro h
    refine wpAny_richCompare_same_room (op := .NotEq) da.typeIs db.typeIs PySem.F.slot_dict_ne (wpAny_call_entry PySem.F.slot_dict_ne da.typeIs PySem.F.entry_dict_ne ?_ (PySem.F.args_dict_ne_2 _ _)) hu
    show wpAny _ _ (Builtin.Dict.dictSlotArgs "__ne__" ⟨[.ref a, .ref b], []⟩ >>= _) _ _ s
    unfold Builtin.Dict.dictSlotArgs
    refine wpAny_bind (wpAny_bind (wpAny_notOrdered_dict da.typeIs (wpAny_pure ?_)))
    refine wpAny_bind (wpAny_isInstance (T := "dict") db.typeIs PySem.F.sub_dict_dict ?_)
    simp only [Bool.not_true, Bool.false_eq_true, if_false]
    refine wpAny_bind (wpAny_pure (wpAny_bind (wpAny_pure (wpAny_bind (pairs_empty ha hb da db h0 ?_)))))
    refine wpAny_pure ⟨_, rfl, ?_, ?_⟩
    · exact fun x => nomatch x
    · simpa using h
end
end Rt
set_option maxRecDepth 100000
set_option maxHeartbeats 4000000
namespace Rt
open PySem PySem.Spec PyProof.Rows L2
section
variable {X : Cx} {pins : List (Addr × Obj)} {s : Shared} {σ : L2.St} {H : Hp}
theorem vat {xs : List (NestedKey × Addr × Value)} {k : NestedKey} : valueAt (pairsH xs) k = (atKey xs k).map (·.2) := valueAt_pairsH xs k
theorem in_ok (hu : X.A.units + 70 < cLine) {dx dy : PyData} {b : Bool} {x y : V} {v u : Value} {Q : VK} (I : Inv X pins σ H s) (hx : RdV X.prog X.w X.K H x dx) (hy : RdV X.prog X.w X.K H y dy) (rx : RelV x v) (ry : RelV y u) (e : inR dx dy = .ok b) :
    (Q (.bl b) H → wpAny (model X.prog X.w) X.A (compareOp .In v u) (EP X pins σ Q) X.xe s) ∧ (Q (.bl (!b)) H → wpAny (model X.prog X.w) X.A (compareOp .NotIn v u) (EP X pins σ Q) X.xe s) := by
  unfold inR at e
  cases dy with
  | list ds =>
    obtain ⟨e1, e2⟩ := Res.guard_eq_ok e
    cases e2
    obtain ⟨h1, h2⟩ := Bool.and_eq_true_iff.mp e1
    exact ⟨fun q => op_inD (by omega) pins s σ H x y v u Q I rx ry ⟨dx, ds, hx.dp (shp_lay h1), hy.dp (shp_lay h2), h1, h2, q⟩, fun q => op_notInD (by omega) pins s σ H x y v u Q I rx ry ⟨dx, ds, hx.dp (shp_lay h1), hy.dp (shp_lay h2), h1, h2, q⟩⟩
  | tuple ds =>
    obtain ⟨e1, e2⟩ := Res.guard_eq_ok e
    cases e2
    obtain ⟨h1, h2⟩ := Bool.and_eq_true_iff.mp e1
    obtain ⟨as, r1⟩ := hx.reads I (shp_lay h1) rx
    obtain ⟨bs, r2⟩ := hy.reads I (shp_lay h2) ry
    have c2 : PyData.canLayAll0 ds = true := by simpa [PyData.canLay0] using SeqAt.canLay_of_shaped h2
    exact ⟨fun q => SeqAt.in_tuple_reads r2 r1 c2 (SeqAt.canLay_of_shaped h1) (PyProof.Rows.room_in_shaped h1 (by omega)) ⟨.bl _, H, I, rfl, q⟩, fun q => SeqAt.notIn_tuple_reads r2 r1 c2 (SeqAt.canLay_of_shaped h1) (PyProof.Rows.room_in_shaped h1 (by omega)) ⟨.bl _, H, I, rfl, q⟩⟩
  | dict kvs =>
    obtain ⟨e1, e2⟩ := Res.guard_eq_ok e
    cases e2
    obtain ⟨a, rfl, f⟩ := fnd I hy hx e1
    cases ry
    cases f with
    | num o g f1 f2 =>
      have eo : o.isSome = (look kvs dx).isSome := by
        cases q : look kvs dx with
        | none => rw [f2 q]; rfl
        | some d => obtain ⟨v, e, _⟩ := f1 d q; rw [e]; rfl
      rw [← eo]
      exact ⟨fun q => d_in (by omega) I g rx fun s' I' => ⟨.bl _, H, I', rfl, q⟩, fun q => d_notIn (by omega) I g rx fun s' I' => ⟨.bl _, H, I', rfl, q⟩⟩
    | tup b xs eb hk hd hs f1 f2 =>
      subst eb
      cases rx
      have eo : (valueAt (pairsH xs) (nk dx)).isSome = (look kvs dx).isSome := by
        rw [vat]
        cases q : look kvs dx with
        | none => rw [f2 q]; rfl
        | some d => obtain ⟨b, u, v, e, _⟩ := f1 d q; rw [e]; rfl
      rw [← eo]
      exact ⟨fun q => in_keyed (knd := nestedKind X.prog X.w) (show X.A.in1.units + 8 < cLine by show X.A.units + 1 + 8 < cLine; omega) hk hs ⟨xs, hd, rfl⟩ ⟨.bl _, H, I.tok _, rfl, q⟩,
        fun q => notIn_keyed (knd := nestedKind X.prog X.w) (show X.A.in1.units + 8 < cLine by show X.A.units + 1 + 8 < cLine; omega) hk hs ⟨xs, hd, rfl⟩ ⟨.bl _, H, I.tok _, rfl, q⟩⟩
  | str b =>
    cases dx with
    | str a =>
      cases e
      exact ⟨fun q => op_in_str pins s σ H x y v u Q I rx ry ⟨a, b, hx.str, hy.str, q⟩, fun q => op_notin_str pins s σ H x y v u Q I rx ry ⟨a, b, hx.str, hy.str, q⟩⟩
    | _ => cases e
  | _ => cases e
theorem eqC_ok (hu : X.A.units + 70 < cLine) {dx dy : PyData} {b : Bool} {x y : V} {v u : Value} {Q : VK} (I : Inv X pins σ H s) (hx : RdV X.prog X.w X.K H x dx) (hy : RdV X.prog X.w X.K H y dy) (rx : RelV x v) (ry : RelV y u) (e : eqC dx dy = .ok b) :
    (Q (.bl b) H → wpAny (model X.prog X.w) X.A (compareOp .Eq v u) (EP X pins σ Q) X.xe s) ∧ (Q (.bl (!b)) H → wpAny (model X.prog X.w) X.A (compareOp .NotEq v u) (EP X pins σ Q) X.xe s) := by
  unfold eqC at e
  split at e
  · split at e
    · cases e
      obtain ⟨a, o, es, ep, rfl, h1, h2, h3, h4, h5, h6⟩ := dict_raw I hx
      obtain ⟨a', o', es', ep', rfl, k1, k2, k3, k4, k5, k6⟩ := dict_raw I hy
      cases rx
      cases ry
      have z := h6.length
      have z' : es'.size = 0 := by have := k6.length; simpa using this
      rename_i xs _
      have ez : (es.size == 0) = xs.isEmpty := by
        rw [Array.length_toList] at z
        rw [z]
        cases xs <;> rfl
      have q := fun {Q' : Value → Shared → Prop} => eq_empty (P := X.prog) (w := X.w) (A := X.A) (E := X.xe) (Q := Q') h4 k4 ⟨o, h1, h2, h3⟩ ⟨o', k1, k2, k3⟩ z' (show X.A.units < cLine by omega)
      rw [ez] at q
      exact ⟨fun w => q.1 ⟨.bl _, H, I, rfl, w⟩, fun w => q.2 ⟨.bl _, H, I, rfl, w⟩⟩
    · exact eq_ok hu I hx hy rx ry e
  · exact eq_ok hu I hx hy rx ry e
theorem opC (hu : X.A.units + 70 < cLine) (o : Cop) : OpR X (compareOp (copr o)) (rCmp X.prog X.w X.K o) := by
  intro pins s σ H x y v u Q I rx ry h
  obtain ⟨dx, dy, b, hx, hy, e, q⟩ := h
  cases o with
  | eq => exact (eqC_ok hu I hx hy rx ry e).1 q
  | ne =>
    obtain ⟨b2, e1, e2⟩ := Res.bind_eq_ok e
    cases e2
    exact (eqC_ok hu I hx hy rx ry e1).2 q
  | lt => exact lt_ok hu I hx hy rx ry e q
  | gt => exact gt_ok hu I hx hy rx ry e q
  | le => exact le_ok hu I hx hy rx ry e q
  | ge => exact ge_ok hu I hx hy rx ry e q
  | inn => exact (in_ok hu I hx hy rx ry e).1 q
  | nin =>
    obtain ⟨b2, e1, e2⟩ := Res.bind_eq_ok e
    cases e2
    exact (in_ok hu I hx hy rx ry e1).2 q

/-! ### subscripts -/
def rIdx (P : Program) (w : World) (K : PySem.W.Frag) : R2 := fun x y H Q => ∃ dx dy d, RdV P w K H x dx ∧ RdV P w K H y dy ∧ idxR dx dy = .ok d ∧ ∀ v, Rp P w K H v d → Q v H
theorem RpAll.atI {vs : List V} {ds : List PyData} {i : Int} {d : PyData} (r : RpAll X.prog X.w X.K H vs ds) (e : L2.atI ds i = some d) : ∃ v, L2.atI vs i = some v ∧ Rp X.prog X.w X.K H v d := by
  unfold L2.atI at e ⊢
  rw [r.length]
  cases q : ixN ds.length i with
  | none => rw [q] at e; cases e
  | some j =>
    rw [q] at e
    exact r.get e
theorem ixI (hu : X.A.units + 70 < cLine) : IxR X (rIdx X.prog X.w X.K) := by
  intro value slice pins s σ H x y v u Q I rx ry h hs
  obtain ⟨dx, dy, d, hx, hy, e, q⟩ := h
  unfold idxR at e
  split at e
  · rename_i ds i
    obtain ⟨a, vs, rfl, h1, r⟩ := hx.list
    obtain ⟨z, e1, r1⟩ := r.atI (Res.get_eq_ok e)
    exact ix_list value slice pins s σ H _ y v u Q I rx ry ⟨a, vs, i, z, rfl, hy.int, h1, e1, q z r1⟩ hs
  · rename_i ds i
    obtain ⟨a, vs, rfl, h1, r⟩ := hx.tuple
    obtain ⟨z, e1, r1⟩ := r.atI (Res.get_eq_ok e)
    exact ix_tup value slice pins s σ H _ y v u Q I rx ry ⟨a, vs, i, z, rfl, hy.int, h1, e1, q z r1⟩ hs
  · rename_i z i
    obtain ⟨e1, e2⟩ := Res.guard_eq_ok e
    obtain ⟨c, e3, e4⟩ := Res.bind_eq_ok e2
    cases e4
    exact ix_str value slice pins s σ H x y v u Q I rx ry ⟨z, i, c, hx.str, hy.int, by rw [← lim_line]; exact of_decide_eq_true e1, Res.get_eq_ok e3, q _ (.str _)⟩ hs
  · rename_i kvs
    obtain ⟨e1, e2⟩ := Res.guard_eq_ok e
    have e3 := Res.get_eq_ok e2
    obtain ⟨a, rfl, f⟩ := fnd I hx hy e1
    cases rx
    cases f with
    | num o g f1 f2 =>
      obtain ⟨z, e4, rz⟩ := f1 d e3
      subst e4
      exact tail_any (dict_typeIs I g) (PySem.F.slot_dict_getitem).lookup (d_getItem (by omega) I g ry fun w' s' I' rw' => ⟨z, H, I', rw', q z rz⟩) hs
    | tup b xs eb hk hd hs2 f1 f2 =>
      subst eb
      cases ry
      obtain ⟨b', u', z, e4, rz, rp⟩ := f1 d e3
      exact tail_any hd.typeIs (PySem.F.slot_dict_getitem).lookup (getItem_keyed (knd := nestedKind X.prog X.w) (show X.A.in1.units + 8 < cLine by show X.A.units + 1 + 8 < cLine; omega) hk ⟨xs, hd, rfl⟩ (by rw [vat, e4]; rfl) ⟨z, H, I.tok _, rz, q z rp⟩) hs
  · cases e
end
end Rt
set_option maxRecDepth 100000
set_option maxHeartbeats 1000000
namespace Rt
open PySem PySem.Spec PyProof.Rows L2
theorem tO_new {P : Program} {w : World} {H : Hp} {h : Heap} {a : Addr} {xs : List (NestedKey × Addr × Value)} (d : h.DictOfH (nestedKind P w) a xs) (hd : (a == sysModules) = false) (hz : xs.length ≤ sizeLine) : ObjOk P w H h a (tO P w a xs) := by
  obtain ⟨o, es, ep, h1, h2, h3, h4, h5, h6⟩ := d
  refine ⟨⟨o, es, ep, h1, h2, h3, h4, h6, hd, hz⟩, ⟨o, h1⟩, fun g1 g2 ⟨o', es', ep', k1, k2, k3, k4, k5, k6, k7⟩ f => ⟨o', es', ep', f _ k1, k2, k3, k4, k5, k6, k7⟩⟩
/-! ### hashes of keys without texts -/
mutual
theorem hK_ok {w : World} : ∀ (d : PyData) (z : Int), hK d = some z → (nk d).hash w = z
  | .none, z, h => by
    unfold hK at h
    exact Option.some.inj h
  | .bool b, z, h => by
    unfold hK at h
    exact Option.some.inj h
  | .int i, z, h => by
    unfold hK at h
    exact Option.some.inj h
  | .str x, z, h => by
    unfold hK at h
    cases h
  | .list x, z, h => by
    unfold hK at h
    cases h
  | .dict x, z, h => by
    unfold hK at h
    cases h
  | .tuple xs, z, h => by
    unfold hK at h
    obtain ⟨hs, e, rfl⟩ := Option.map_eq_some_iff.mp h
    have := hKs_ok (w := w) xs hs e
    show reduceHash (Builtin.Tuple.tupleHashOf (NestedKey.hashes w (nks xs))) = _
    rw [this]
theorem hKs_ok {w : World} : ∀ (ds : List PyData) (zs : List Int), hKs ds = some zs → NestedKey.hashes w (nks ds) = zs
  | [], zs, h => by
    unfold hKs at h
    exact Option.some.inj h
  | d :: ds, zs, h => by
    unfold hKs at h
    cases h1 : hK d with
    | none => rw [h1] at h; cases h
    | some z =>
      rw [h1] at h
      obtain ⟨ys, e, rfl⟩ := Option.map_eq_some_iff.mp (show (hKs ds).map (z :: ·) = some zs from h)
      show NestedKey.hash w (nk d) :: NestedKey.hashes w (nks ds) = _
      rw [hK_ok d z h1, hKs_ok ds ys e]
end
section
variable {P : Program} {w : World} {K : PySem.W.Frag} {H : Hp}
theorem RpT.hashes : ∀ {xs : List (NestedKey × Addr × Value)} {kvs : List (PyData × PyData)} {hs : List Int}, RpT P w K H xs kvs → hKs (kvs.map (·.1)) = some hs → xs.map (fun x => (nestedKind P w).hash x.1) = hs
  | _, _, hs, .nil, h => by
    unfold hKs at h
    exact Option.some.inj h
  | _, _, hs, .cons (k := k) (kvs := kvs) h1 h2 h3 h4 r, h => by
    unfold hKs at h
    simp only [List.map_cons] at h
    cases e1 : hK k with
    | none => rw [e1] at h; cases h
    | some z =>
      rw [e1] at h
      obtain ⟨ys, e, rfl⟩ := Option.map_eq_some_iff.mp (show (hKs (kvs.map (·.1))).map (z :: ·) = some hs from h)
      rw [List.map_cons, RpT.hashes r e]
      show NestedKey.hash w (nk k) :: ys = _
      rw [hK_ok k z e1]
theorem RpT.apart {xs : List (NestedKey × Addr × Value)} {kvs : List (PyData × PyData)} (r : RpT P w K H xs kvs) (h : Rt.apart kvs = true) : (xs.map fun x => (nestedKind P w).hash x.1).Nodup := by
  unfold Rt.apart at h
  cases e : hKs (kvs.map (·.1)) with
  | none => rw [e] at h; cases h
  | some hs =>
    rw [e] at h
    rw [r.hashes e]
    exact of_decide_eq_true h
theorem RpT.merge : ∀ {ys : List (NestedKey × Addr × Value)} {lvs : List (PyData × PyData)} {xs : List (NestedKey × Addr × Value)} {kvs : List (PyData × PyData)}, RpT P w K H ys lvs → RpT P w K H xs kvs → RpT P w K H (storedAllH xs ys) (putAll kvs lvs)
  | _, _, _, _, .nil, h => h
  | _, _, _, _, .cons h1 h2 h3 h4 r, h => by
    have e := RpT.merge r (h.put h2 h1 h3 h4)
    exact e
theorem tupKeys_cons {p : PyData × PyData} {kvs : List (PyData × PyData)} (h : tupKeys (p :: kvs) = true) : kindK p.1 = some 1 := by
  unfold tupKeys at h
  rw [List.all_cons, Bool.and_eq_true] at h
  exact of_decide_eq_true h.1
end
section
variable {X : Cx} {pins : List (Addr × Obj)} {s : Shared} {σ : L2.St} {H : Hp}
theorem RpT.types (I : Inv X pins σ H s) : ∀ {xs : List (NestedKey × Addr × Value)} {kvs : List (PyData × PyData)}, RpT X.prog X.w X.K H xs kvs → ∀ x ∈ xs, s.TypeIs (.ref x.2.1) "tuple"
  | _, _, .nil, _, h => by cases h
  | _, _, .cons h1 h2 _ _ r, x, h => by
    rcases List.mem_cons.mp h with e | h
    · subst e
      have q := (h1.key I h2).1
      obtain ⟨ks, rfl, _⟩ := kind1 h2
      cases q with
      | tup e1 e2 _ _ => exact ⟨_, e1, e2⟩
    · exact RpT.types I r x h
/-- what a dict with tuple keys is: tuples at known places, or nothing -/
theorem tup_raw (I : Inv X pins σ H s) {x : V} {kvs : List (PyData × PyData)} (hx : RdV X.prog X.w X.K H x (.dict kvs)) (ht : tupKeys kvs = true) :
    ∃ a xs, x = .ref a ∧ s.heap.DictOfH (nestedKind X.prog X.w) a xs ∧ (a == sysModules) = false ∧ RpT X.prog X.w X.K H xs kvs := by
  obtain ⟨a, rfl, hd⟩ := hx.dict
  rcases hd with ⟨ls, e, r⟩ | ⟨xs, e, n, r⟩
  · cases kvs with
    | nil =>
      cases r
      obtain ⟨q1, q2⟩ := empty_raw I e
      exact ⟨a, [], rfl, q1, q2, .nil⟩
    | cons p t =>
      have e1 := tupKeys_cons ht
      rw [r.kind] at e1
      cases e1
  · obtain ⟨q1, q2, _⟩ := tO_raw I e r
    exact ⟨a, xs, rfl, q1, q2, r⟩
end
/-! ### dict(d), d with tuple keys -/
section
variable {P : Program} {w : World} {A : Around} {E : Value → Shared → Prop} {s : Shared} {K : Type} [DecidableEq K] {knd : HeapKind P w K}
theorem dict_of_tup {o : Addr} {xs : List (K × Addr × Value)} {Q : Value → Shared → Prop} (hu : knd.room A.in1.in1) (lo : (o == sysModules) = false) (ho : s.heap.DictOfH knd o xs) (hz : xs.length ≤ sizeLine) (ty : ∀ x ∈ xs, s.TypeIs (.ref x.2.1) "tuple") (hap : (xs.map fun x => knd.hash x.1).Nodup)
    (st : ∀ h', (∀ b q, s.heap.get? b = some q → h'.get? b = some q) → ∀ x ∈ xs, knd.is h' x.1 x.2.1)
    (h : ∀ h', h'.DictOfH knd s.heap.objs.size xs → (∀ b q, s.heap.get? b = some q → h'.get? b = some q) → Q (.ref s.heap.objs.size) { s with heap := h' }) :
    wpAny (model P w) A (call (.type "dict") [.ref o]) Q E s := by
  refine callType_codes (Q₁ := fun v t => v = .ref s.heap.objs.size ∧ t = { s with heap := s.heap.push { cls := .type "dict", data := .dict #[] } }) F.kt_called_dict (F.kt_typeCall_dict_1 _) F.entry_dict_init (kt_code_dict_new _ ⟨rfl, rfl⟩) ?_
  rintro v t ⟨rfl, rfl⟩
  have k0 : ∀ b q, s.heap.get? b = some q → (s.heap.push { cls := .type "dict", data := .dict #[] }).get? b = some q := fun b q e => Heap.get?_push_of_some _ e
  have new : (s.heap.push { cls := .type "dict", data := .dict #[] }).DictOfH knd s.heap.objs.size [] := Heap.DictOfH.new s.heap
  have ho2 : (s.heap.push { cls := .type "dict", data := .dict #[] }).DictOfH knd o xs := by
    obtain ⟨ob, es, ep, e1, e2, e3, e4, e5, e6⟩ := ho
    exact ⟨ob, es, ep, k0 _ _ e1, e2, e3, e4, st _ k0, e6⟩
  have ne : s.heap.objs.size ≠ o := by
    obtain ⟨ob, es, ep, e1, _⟩ := ho
    exact fun e => Nat.lt_irrefl _ (by have := Heap.lt_size e1; rw [← e] at this; exact this)
  have nd := ho.nodup
  have tyIs : Shared.TypeIs { s with heap := s.heap.push { cls := .type "dict", data := .dict #[] } } (.ref s.heap.objs.size) "dict" := new.typeIs
  refine ⟨tyIs, F.args_dict_init_2 _ _, ?_⟩
  unfold Builtin.«dict.__init__»
  refine wpAny_bind ?_
  unfold Builtin.Dict.selfAndRest
  refine wpAny_bind (wpAny_notOrdered_dict tyIs ?_)
  refine wpAny_pure (a := (s.heap.objs.size, [Value.ref o])) ?_
  refine updateFrom_dictH (A := A.in1) (kvs := []) (more := xs) .none hu ne lo new ho2 (.inr ⟨fun x hx => let ⟨ob, e1, e2⟩ := ty x hx; ⟨ob, k0 _ _ e1, e2⟩, hap⟩) (by simpa using hz) fun h' d1 _ sb => ?_
  rw [storedAllH_nil_of_nodup xs nd] at d1
  exact ⟨rfl, h h' d1 fun b q e => (sb.2 b (Nat.ne_of_lt (Heap.lt_size e))).trans (k0 b q e)⟩
end
section
variable {X : Cx} {pins : List (Addr × Obj)} {s : Shared} {σ : L2.St} {H : Hp}
theorem Mk.tO {P : Program} {w : World} {K : PySem.W.Frag} {H : Hp} {p : Addr} {xs : List (NestedKey × Addr × Value)} {kvs : List (PyData × PyData)} (hp : H p = none) (n : xs ≠ []) (r : RpT P w K H xs kvs) : Mk P w K H (upd H p (tO P w p xs)) (.ref p) (.own (.dct kvs)) :=
  ⟨.one hp, ⟨p, rfl, .inr ⟨xs, upd_same, n, r.keep (keep_new hp)⟩⟩, fun _ _ a e => by cases e; exact hp, fun e => (nomatch e)⟩
theorem copy_ok (hu : X.A.units + 100 < cLine) (I : Inv X pins σ H s) {x : V} {u : Value} {kvs : List (PyData × PyData)} {sl : Sl} {Q : VK} (hx : RdV X.prog X.w X.K H x (.dict kvs)) (rx : RelV x u) (e : biR .dict [.dict kvs] = .ok sl) (q : ∀ v H', Mk X.prog X.w X.K H H' v sl → Q v H') :
    wpAny (model X.prog X.w) X.A (call (.type "dict") [u]) (EP X pins σ Q) X.xe s := by
  obtain ⟨g, e⟩ := Res.guard_eq_ok e
  cases e
  simp only [Bool.and_eq_true] at g
  obtain ⟨⟨g1, g2⟩, g3⟩ := g
  obtain ⟨a, xs, rfl, h1, h2, r⟩ := tup_raw I hx g2
  cases rx
  have n : xs ≠ [] := fun z => by
    subst z
    cases r
    simp at g1
  have hz : xs.length ≤ sizeLine := by
    obtain ⟨a', o, es, ep, ea, k1, k2, k3, k4, k5, k6⟩ := dict_raw I hx
    rw [r.length]
    exact k5
  refine dict_of_tup (knd := nestedKind X.prog X.w) (by show X.A.units + 1 + 1 + 8 < cLine; omega) h2 h1 hz (r.types I) (r.apart g3) (fun h' kp x hx => ?_) fun h' d1 kp => ?_
  · have I2 : Inv X pins σ H { s with heap := h' } := I.kept (t' := s.toks) kp
    exact r.is I2 x hx
  · exact ⟨.ref s.heap.objs.size, _, I.laid (t' := s.toks) kp (Nat.le_refl _) (tO_new d1 (beq_eq_false_iff_ne.mpr fun z => Nat.lt_irrefl _ (by have := I.big; rw [← z] at this; exact this)) hz), rfl, q _ _ (Mk.tO I.fresh n r)⟩
end
end Rt
set_option maxRecDepth 100000
set_option maxHeartbeats 4000000
namespace Rt
open PySem PySem.Spec PyProof.Rows L2
section
variable {X : Cx} {pins : List (Addr × Obj)} {s : Shared} {σ : L2.St} {H : Hp}
/-- a list laid behind all -/
theorem laid_lst (I : Inv X pins σ H s) {h' : Heap} {tk : Nat} {us : List Value} {vs : List V} {ds : List PyData} {c : Nat} {p : Addr} {Q : VK} (kp : ∀ b u, s.heap.get? b = some u → h'.get? b = some u) (hp : s.heap.objs.size ≤ p)
    (e : h'.get? p = some { cls := .type "list", dict := none, data := .seq us.toArray c, slots := #[] }) (rv : Vals vs us) (r : RpAll X.prog X.w X.K H vs ds) (hz : ds.length ≤ sizeLine)
    (q : ∀ v H', Mk X.prog X.w X.K H H' v (.own (.lst ds)) → Q v H') : EP X pins σ Q (.ref p) { s with heap := h', toks := tk } :=
  ⟨.ref p, _, I.laid (t' := tk) (o := .lst vs) kp hp ⟨by rw [r.length]; exact hz, us, c, rv, e⟩, rfl, q _ _ (Mk.lst (I.hok.fresh hp) r)⟩

/-! ### sorting -/
open PySem.W in
theorem each_of : ∀ {vs : List V} {us : List Value} {ds : List PyData}, Vals vs us → RpAll X.prog X.w X.K H vs ds → EachIs (fun u d => ∃ v, RelV v u ∧ Rp X.prog X.w X.K H v d) us ds
  | _, _, _, .nil, .nil => .nil
  | _, _, _, .cons a b, .cons c d => .cons ⟨_, a, c⟩ (each_of b d)
open PySem.W in
theorem of_each : ∀ {us : List Value} {ds : List PyData}, EachIs (fun u d => ∃ v, RelV v u ∧ Rp X.prog X.w X.K H v d) us ds → ∃ vs, Vals vs us ∧ RpAll X.prog X.w X.K H vs ds
  | _, _, .nil => ⟨[], .nil, .nil⟩
  | _, _, .cons ⟨v, a, c⟩ t => by
    obtain ⟨vs, h1, h2⟩ := of_each t
    exact ⟨v :: vs, .cons a h1, .cons c h2⟩
open PySem.W in
theorem each_reads (I : Inv X pins σ H s) : ∀ {us : List Value} {ds : List PyData}, EachIs (fun u d => ∃ v, RelV v u ∧ Rp X.prog X.w X.K H v d) us ds → (∀ d ∈ ds, noD d = true) → EachIs (fun u d => ∃ as, Reads s.heap u d as) us ds
  | _, _, .nil, _ => .nil
  | _, _, .cons ⟨v, a, c⟩ t, h => .cons (RdV.reads I (h _ List.mem_cons_self) (.inl c) a) (each_reads I t fun d m => h d (List.mem_cons_of_mem _ m))
theorem alikes_mem : ∀ {ds : List PyData}, alikes ds = true → ∀ x ∈ ds, ∀ y ∈ ds, PySem.W.alike x y = true
  | [], _, _, h, _, _ => by cases h
  | d :: ds, c, x, hx, y, hy => by
    simp only [alikes, Bool.and_eq_true, List.all_eq_true] at c
    obtain ⟨⟨c1, c2⟩, c3⟩ := c
    rcases List.mem_cons.mp hx with ex | hx
    · rcases List.mem_cons.mp hy with ey | hy
      · rw [ex, ey]; exact c1
      · rw [ex]; exact (c2 y hy).1
    · rcases List.mem_cons.mp hy with ey | hy
      · rw [ey]; exact (c2 x hx).2
      · exact alikes_mem c3 x hx y hy
open PySem.W in
theorem sorts_one {A : Around} {P : Program} {w : World} {s : Shared} {us : List Value} {ds : List PyData} (e : EachIs (fun v d => ∃ as, Reads s.heap v d as) us ds) (hal : AllAlike ds) (h1 : ds.length ≤ 1) (hn : ∀ d ∈ ds, d ≠ .none) (hu : ∀ d, d ∈ ds → A.units + d.depth < cLine) :
    SortsAt P w A s (dataKind s.heap ds) us := by
  refine ⟨fun v hv => ?_, general', fun E x y a b Q ha hb hq => ?_, fun h2 => ?_⟩
  · obtain ⟨d, hd, as, r⟩ := e.left v hv
    exact ⟨_, dataKind_some hal hd r⟩
  · obtain ⟨d, as, hd, ra, rfl⟩ := dataKind_inv ha
    obtain ⟨d', as', hd', rb, rfl⟩ := dataKind_inv hb
    exact oneLt_alike (f := false) (fun z => nomatch z) ra rb (hal d hd d' hd') (hn d hd) (Nat.lt_of_le_of_lt (Nat.add_le_add_left (Nat.min_le_left _ _) _) (hu d hd)) hq
  · have := e.length
    omega
theorem okSort_and {ds : List PyData} (h : okSort ds = true) : PySem.W.AllAlike ds ∧ (ds.length ≤ 1 ∧ (∀ d ∈ ds, d ≠ .none) ∨ PySem.W.Sortable ds) ∧ ds.length ≤ sizeLine ∧ (∀ d ∈ ds, d.depth ≤ 64) ∧ ∀ d ∈ ds, noD d = true := by
  unfold okSort at h
  simp only [Bool.and_eq_true, Bool.or_eq_true, decide_eq_true_eq, List.all_eq_true] at h
  obtain ⟨⟨⟨h1, h2⟩, h3⟩, h4⟩ := h
  refine ⟨fun x hx y hy => alikes_mem h1 x hx y hy, ?_, by rw [← lim_line]; exact h3, h4, fun d hd => noD_self d (alikes_mem h1 d hd d hd)⟩
  rcases h2 with (⟨h2, h5⟩ | h2) | h2
  · exact .inl ⟨h2, fun d hd e => by subst e; have := h5 _ hd; simp [isNo] at this⟩
  · refine .inr (.inl fun d hd => ?_)
    have := h2 d hd
    cases d with
    | tuple xs =>
      cases xs with
      | nil => simp [isTupC] at this
      | cons x r => exact ⟨x, r, rfl⟩
    | _ => simp [isTupC] at this
  · refine .inr (.inr fun d hd => ⟨fun e => ?_, fun xs e => ?_⟩)
    · subst e; have := h2 _ hd; simp [notTN] at this
    · subst e; have := h2 _ hd; simp [notTN] at this
open PySem.W in
theorem sorted_list (hu : X.A.units + 100 < cLine) (I : Inv X pins σ H s) {a : Addr} {vs : List V} {ds : List PyData} {Q : VK} (hl : SqL X.K H a vs) (r : RpAll X.prog X.w X.K H vs ds) (ho : okSort ds = true)
    (q : ∀ v H', Mk X.prog X.w X.K H H' v (.own (.lst (sortD ds))) → Q v H') : wpAny (model X.prog X.w) X.A (call (.builtin "sorted") [.ref a]) (EP X pins σ Q) X.xe s := by
  obtain ⟨o1, o2, o3, o4, o5⟩ := okSort_and ho
  obtain ⟨its, rv, pl, hz⟩ := I.list hl
  have e1 := each_of rv r
  have e2 := each_reads I e1 o5
  have e3 : EachIs (fun v b => ∃ as, Reads (sortingHeap (copyHeap s.heap its) (s.heap.objs.size + 1) its) v b as) its ds := e2.mono fun _ _ ⟨as, r⟩ => ⟨as, PyProof.Rows.Reads.keeps (fun _ _ => sorting_copy_old) r⟩
  have hb : ∀ d, d ∈ ds → X.A.in1.in1.units + d.depth < cLine := fun d hd => by
    have := o4 d hd
    show X.A.units + 1 + 1 + d.depth < cLine
    omega
  have S : SortsAt X.prog X.w X.A.in1.in1 { s with heap := sortingHeap (copyHeap s.heap its) (s.heap.objs.size + 1) its } (dataKind (sortingHeap (copyHeap s.heap its) (s.heap.objs.size + 1) its) ds) its := by
    rcases o2 with ⟨o2, o6⟩ | o2
    · exact sorts_one e3 o1 o2 o6 hb
    · exact SortsAt.data (s := { s with heap := sortingHeap (copyHeap s.heap its) (s.heap.objs.size + 1) its }) e3 o1 o2 hb
  have hlen : its.length ≤ sizeLine := by rw [e1.length]; exact o3
  refine sorted_vals pl.isList S hlen ?_
  have e4 := sortVals_data (enc := id) (bs := ds) (h' := sortingHeap (copyHeap s.heap its) (s.heap.objs.size + 1) its) false e1 (by simpa using e3) (by rw [List.map_id]; exact o1)
  rw [List.map_id] at e4
  obtain ⟨vs', h1, h2⟩ := of_each e4
  have e5 : ds.mergeSort (dataLe false id) = sortD ds := rfl
  rw [e5] at h2
  obtain ⟨ep, hat⟩ := PyProof.Rows.sortedAll_at s.heap its (sortVals (dataKind (sortingHeap (copyHeap s.heap its) (s.heap.objs.size + 1) its) ds) false its its).toArray
  exact laid_lst (tk := s.toks) I (fun _ _ => PyProof.Rows.sortedAll_old) (Nat.le_succ _) hat h1 h2 (by unfold sortD; rw [List.length_mergeSort]; exact o3) q

/-! ### len, list, tuple, any, all, int, sum .. -/
theorem len_ok (I : Inv X pins σ H s) {x : V} {u : Value} {d : PyData} {sl : Sl} {Q : VK} (hx : RdV X.prog X.w X.K H x d) (rx : RelV x u) (e : biR .len [d] = .ok sl) (q : ∀ v H', Mk X.prog X.w X.K H H' v sl → Q v H') :
    wpAny (model X.prog X.w) X.A (call (.builtin "len") [u]) (EP X pins σ Q) X.xe s := by
  cases d with
  | list ds =>
    cases e
    obtain ⟨a, vs, rfl, h1, r⟩ := hx.list
    exact call_len_seq pins s σ H [.ref a] [u] Q I (.cons rx .nil) ⟨a, vs, rfl, .inl h1, q _ _ (Mk.old (by rw [r.length]; exact .int _))⟩
  | tuple ds =>
    cases e
    obtain ⟨a, vs, rfl, h1, r⟩ := hx.tuple
    exact call_len_seq pins s σ H [.ref a] [u] Q I (.cons rx .nil) ⟨a, vs, rfl, .inr h1, q _ _ (Mk.old (by rw [r.length]; exact .int _))⟩
  | str z =>
    obtain ⟨e1, e2⟩ := Res.guard_eq_ok e
    cases e2
    cases hx.str
    exact call_len_str pins s σ H [.str z] [u] Q I (.cons rx .nil) ⟨z, rfl, by rw [← lim_line]; exact of_decide_eq_true e1, q _ _ (Mk.old (.int _))⟩
  | dict kvs =>
    cases e
    obtain ⟨a, o, es, ep, rfl, h1, h2, h3, h4, h5, h6⟩ := dict_raw I hx
    cases rx
    have z : es.size = kvs.length := by rw [← h6.length]; simp
    refine PyProof.Rows.call_len_slot (n := kvs.length) ⟨o, h1, h2.1⟩ PySem.F.slot_dict_len (fun Q' hq => ?_) (by omega) (by rw [sizeLine_eq] at h5; omega) ⟨.int kvs.length, H, I.tok _, ⟨_, rfl⟩, q _ _ (Mk.old (.int _))⟩
    refine call_len_raw h4 ⟨o, h1, h2, h3⟩ ?_
    rw [z]
    exact hq
  | _ => cases e
theorem boolsOf_eq : ∀ {ds : List PyData} {bs : List Bool}, boolsOf ds = some bs → ds = bs.map .bool
  | [], bs, h => by cases h; rfl
  | .bool b :: r, bs, h => by
    unfold boolsOf at h
    obtain ⟨cs, e, rfl⟩ := Option.map_eq_some_iff.mp h
    rw [boolsOf_eq e]; rfl
  | .none :: _, _, h => by simp [boolsOf] at h
  | .int _ :: _, _, h => by simp [boolsOf] at h
  | .str _ :: _, _, h => by simp [boolsOf] at h
  | .list _ :: _, _, h => by simp [boolsOf] at h
  | .tuple _ :: _, _, h => by simp [boolsOf] at h
  | .dict _ :: _, _, h => by simp [boolsOf] at h
theorem intsOf_eq : ∀ {ds : List PyData} {bs : List Int}, intsOf ds = some bs → ds = bs.map .int
  | [], bs, h => by cases h; rfl
  | .int b :: r, bs, h => by
    unfold intsOf at h
    obtain ⟨cs, e, rfl⟩ := Option.map_eq_some_iff.mp h
    rw [intsOf_eq e]; rfl
  | .none :: _, _, h => by simp [intsOf] at h
  | .bool _ :: _, _, h => by simp [intsOf] at h
  | .str _ :: _, _, h => by simp [intsOf] at h
  | .list _ :: _, _, h => by simp [intsOf] at h
  | .tuple _ :: _, _, h => by simp [intsOf] at h
  | .dict _ :: _, _, h => by simp [intsOf] at h
theorem RpAll.bools : ∀ {bs : List Bool} {vs : List V}, RpAll X.prog X.w X.K H vs (bs.map .bool) → vs = bs.map .bl
  | [], _, h => by cases h; rfl
  | b :: bs, _, h => by
    cases h with
    | cons h r => cases h; rw [RpAll.bools r]; rfl
theorem RpAll.ints : ∀ {bs : List Int} {vs : List V}, RpAll X.prog X.w X.K H vs (bs.map .int) → vs = bs.map .int
  | [], _, h => by cases h; rfl
  | b :: bs, _, h => by
    cases h with
    | cons h r => cases h; rw [RpAll.ints r]; rfl
theorem list_ok (hc : X.calm = true) (I : Inv X pins σ H s) {x : V} {u : Value} {d : PyData} {sl : Sl} {Q : VK} (hx : RdV X.prog X.w X.K H x d) (rx : RelV x u) (e : biR .list [d] = .ok sl) (q : ∀ v H', Mk X.prog X.w X.K H H' v sl → Q v H') :
    wpAny (model X.prog X.w) X.A (call (.type "list") [u]) (EP X pins σ Q) X.xe s := by
  cases d with
  | list ds =>
    cases e
    obtain ⟨a, vs, rfl, h1, r⟩ := hx.list
    exact call_list_of pins s σ H [.ref a] [u] Q I (.cons rx .nil) ⟨a, vs, rfl, .inl h1, fun l hl => q _ _ (Mk.lst hl r)⟩
  | tuple ds =>
    cases e
    obtain ⟨a, vs, rfl, h1, r⟩ := hx.tuple
    exact call_list_of pins s σ H [.ref a] [u] Q I (.cons rx .nil) ⟨a, vs, rfl, .inr h1, fun l hl => q _ _ (Mk.lst hl r)⟩
  | dict kvs =>
    cases e
    obtain ⟨a, o, es, ep, rfl, h1, h2, h3, h4, h5, h6⟩ := dict_raw I hx
    cases rx
    have z : es.size = kvs.length := by rw [← h6.length]; simp
    obtain ⟨vs, r1, r2⟩ := h6.keys
    refine PySem.W.kdl_call (kdl_raw h4 h2 h3) (I.ok.hd hc) h1 (by rw [z]; exact h5) fun h' tk acc' c' kp e it => ?_
    have ea : acc'.toList = es.toList.map (·.key) := by
      refine List.ext_getElem? fun j => ?_
      rw [List.getElem?_map]
      cases hj : acc'.toList[j]? with
      | none =>
        have h8 := List.getElem?_eq_none_iff.mp hj
        rw [Array.length_toList, it.1] at h8
        rw [List.getElem?_eq_none (by rw [Array.length_toList]; exact h8)]
        rfl
      | some v =>
        obtain ⟨en, hen, hv⟩ := it.2 j v (by rw [← Array.getElem?_toList]; exact hj)
        rw [Array.getElem?_toList, hen, hv]
        rfl
    exact laid_lst (tk := tk) I kp (Nat.le_refl _) (by rw [Array.toArray_toList]; exact e) (by rw [ea]; exact r1) r2 (by rw [List.length_map]; exact h5) q
  | _ => cases e
theorem tuple_ok (I : Inv X pins σ H s) {x : V} {u : Value} {d : PyData} {sl : Sl} {Q : VK} (hx : RdV X.prog X.w X.K H x d) (rx : RelV x u) (e : biR .tuple [d] = .ok sl) (q : ∀ v H', Mk X.prog X.w X.K H H' v sl → Q v H') :
    wpAny (model X.prog X.w) X.A (call (.type "tuple") [u]) (EP X pins σ Q) X.xe s := by
  cases d with
  | list ds =>
    cases e
    obtain ⟨a, vs, rfl, h1, r⟩ := hx.list
    exact call_tuple_of pins s σ H [.ref a] [u] Q I (.cons rx .nil) ⟨a, vs, rfl, .inl ⟨h1, fun l hl => q _ _ (Mk.tup hl r)⟩⟩
  | tuple ds =>
    cases e
    obtain ⟨a, vs, rfl, h1, r⟩ := hx.tuple
    exact call_tuple_of pins s σ H [.ref a] [u] Q I (.cons rx .nil) ⟨a, vs, rfl, .inr ⟨h1, q _ _ (Mk.old (.tup h1 r))⟩⟩
  | _ => cases e
/-! ### dict(a list of pairs) -/
theorem kD_v {P : Program} {w : World} {K : PySem.W.Frag} {H : Hp} {v : V} {k : Key} (h : Rp P w K H v (kD k)) : v = kV k := by
  cases k with
  | inl i => cases h; rfl
  | inr x => cases h; rfl
theorem pairs_rp {P : Program} {w : World} {K : PySem.W.Frag} {H : Hp} : ∀ {ds : List PyData} {kvs : List (PyData × PyData)} {vs : List V}, pairsOf ds = some kvs → (∀ p ∈ kvs, kindK p.1 = some 0) → RpAll P w K H vs ds →
    ∃ (ps : List Addr) (ks : List (Key × V)), vs = ps.map V.ref ∧ Paired (fun p kv => SqT K H p [kV kv.1, kv.2]) ps ks ∧ RpK P w K H ks kvs
  | [], kvs, vs, h, _, r => by
    cases h
    cases r
    exact ⟨[], [], rfl, .nil, .nil⟩
  | d :: ds, kvs, vs, h, g, r => by
    cases d with
    | tuple es =>
      cases es with
      | nil => cases h
      | cons a es =>
        cases es with
        | nil => cases h
        | cons b es =>
          cases es with
          | cons _ _ => cases h
          | nil =>
            have h' : (pairsOf ds).map ((a, b) :: ·) = some kvs := h
            obtain ⟨kvs', e1, rfl⟩ := Option.map_eq_some_iff.mp h'
            cases r with
            | cons r1 r2 =>
              obtain ⟨ps, ks, e2, e3, e4⟩ := pairs_rp e1 (fun p hp => g p (List.mem_cons_of_mem _ hp)) r2
              obtain ⟨k, ek⟩ := kind0 (g (a, b) List.mem_cons_self)
              cases ek
              cases r1 with
              | @tup p us _ hs hr =>
                cases hr with
                | cons q1 q2 =>
                  cases q2 with
                  | cons q2 q3 =>
                    cases q3
                    have ev := kD_v q1
                    subst ev
                    exact ⟨p :: ps, (k, _) :: ks, by rw [e2]; rfl, .cons hs e3, .cons q2 e4⟩
    | _ => cases h
theorem RpK.merge {P : Program} {w : World} {K : PySem.W.Frag} {H : Hp} : ∀ {ks : List (Key × V)} {kvs : List (PyData × PyData)} {ls : List (Key × V)} {lvs : List (PyData × PyData)}, RpK P w K H ks kvs → RpK P w K H ls lvs → RpK P w K H (mergeK ls ks) (putAll lvs kvs)
  | _, _, _, _, .nil, h => h
  | _, _, _, _, .cons (k := k) a b, h => by
    have e := RpK.merge b (h.put k a)
    exact e
theorem Mk.dK {P : Program} {w : World} {K : PySem.W.Frag} {H : Hp} {p : Addr} {ks : List (Key × V)} {kvs : List (PyData × PyData)} (hp : H p = none) (r : RpK P w K H ks kvs) : Mk P w K H (upd H p (.dK ks)) (.ref p) (.own (.dct kvs)) :=
  ⟨.one hp, ⟨p, rfl, .inl ⟨ks, upd_same, r.keep (keep_new hp)⟩⟩, fun _ _ a e => by cases e; exact hp, fun e => (nomatch e)⟩
theorem dict_ok (hu : X.A.units + 100 < cLine) (hc : X.calm = true) (I : Inv X pins σ H s) {x : V} {u : Value} {d : PyData} {sl : Sl} {Q : VK} (hx : RdV X.prog X.w X.K H x d) (rx : RelV x u) (e : biR .dict [d] = .ok sl) (q : ∀ v H', Mk X.prog X.w X.K H H' v sl → Q v H') :
    wpAny (model X.prog X.w) X.A (call (.type "dict") [u]) (EP X pins σ Q) X.xe s := by
  cases d with
  | list ds =>
    obtain ⟨kvs, e1, e⟩ := Res.bind_eq_ok e
    obtain ⟨g, e⟩ := Res.guard_eq_ok e
    cases e
    obtain ⟨a, vs, rfl, h1, r⟩ := hx.list
    obtain ⟨ps, ks, e2, e3, e4⟩ := pairs_rp (Res.get_eq_ok e1) (fun p hp => of_decide_eq_true (List.all_eq_true.mp g p hp)) r
    subst e2
    exact call_dictP hc pins s σ H [.ref a] [u] Q I (.cons rx .nil) ⟨a, ps, ks, rfl, h1, e3, fun p hp => q _ _ (Mk.dK hp (RpK.merge e4 .nil))⟩
  | dict kvs => exact copy_ok hu I hx rx e q
  | _ => cases e
/-! ### min, max, sum -/
theorem reads_all {h : Heap} : ∀ {us : List Value} {ds : List PyData}, PySem.W.EachIs (fun u d => ∃ as, Reads h u d as) us ds → ∃ as, ReadsAll h us ds as
  | _, _, .nil => ⟨[], .nil⟩
  | _, _, .cons ⟨a, r⟩ t => let ⟨b, q⟩ := reads_all t; ⟨a ++ b, .cons r q⟩
theorem depth_all : ∀ {ds : List PyData} {n : Nat}, (∀ d ∈ ds, d.depth ≤ n) → PyData.depthAll ds ≤ n
  | [], _, _ => Nat.zero_le _
  | d :: ds, n, h => by
    have h1 := h d List.mem_cons_self
    have h2 := depth_all fun x hx => h x (List.mem_cons_of_mem _ hx)
    unfold PyData.depthAll
    omega
theorem least_fold : ∀ (xs : List PyData) (x : PyData), xs.foldl (fun a y => if PySem.W.dataLt y a then y else a) x = leastD x xs
  | [], _ => rfl
  | y :: xs, x => least_fold xs _
theorem most_fold : ∀ (xs : List PyData) (x : PyData), xs.foldl (fun a y => if PySem.W.dataLt a y then y else a) x = mostD x xs
  | [], _ => rfl
  | y :: xs, x => most_fold xs _
theorem okSort_al {ds : List PyData} (h : okSort ds = true) : PySem.W.AlikeAll ds ∧ PyData.depthAll ds ≤ 64 ∧ ∀ d ∈ ds, noD d = true := by
  obtain ⟨o1, o2, o3, o4, o5⟩ := okSort_and h
  refine ⟨⟨o1, fun d hd => ?_⟩, depth_all o4, o5⟩
  rcases o2 with ⟨_, o2⟩ | o2 | o2
  · exact o2 d hd
  · obtain ⟨x, r, e⟩ := o2 d hd
    intro z
    rw [e] at z
    cases z
  · exact (o2 d hd).1
theorem min_list (hu : X.A.units + 100 < cLine) (hc : X.calm = true) (I : Inv X pins σ H s) {a : Addr} {vs : List V} {d : PyData} {ds : List PyData} {Q : VK} (hl : SqL X.K H a vs) (r : RpAll X.prog X.w X.K H vs (d :: ds)) (ho : okSort (d :: ds) = true)
    (q : ∀ v, Rp X.prog X.w X.K H v (leastD d ds) → Q v H) : wpAny (model X.prog X.w) X.A (call (.builtin "min") [.ref a]) (EP X pins σ Q) X.xe s := by
  obtain ⟨al, dp, nd⟩ := okSort_al ho
  obtain ⟨its, rv, pl, hz⟩ := I.list hl
  have e1 := each_of rv r
  obtain ⟨as, ra⟩ := reads_all (each_reads I e1 nd)
  have hn := PySem.W.readsAll_len (vs := its.toArray) ra
  refine PySem.call_min_walkH (PySem.W.iter_listW (A := X.A.in1) (I.ok.hd hc) pl.isList fun s2 e W st hfp hw hk => ⟨_, _, _, _, _, _, _, s.heap, _, rfl, W, st, hfp, (by rw [hn]; exact Nat.succ_pos _), hw, hk, PySem.W.cmpIn_lt (A := X.A.in1) ra al (show X.A.units + 1 + PyData.depthAll (d :: ds) < cLine by omega), fun v s' hP m => ?_⟩)
  obtain ⟨h', tk, rfl, hk'⟩ := PySem.W.moved_old e rfl m
  have e2 := (PySem.W.argBest_fold PySem.W.dataLt PyData.none d ds ds.length (Nat.le_refl _)).2
  rw [List.take_length, least_fold] at e2
  have hsz : its.toArray.size - 1 = ds.length := by rw [hn]; rfl
  rw [hsz] at hP
  generalize PySem.argBest (fun i j => PySem.W.dataLt ((d :: ds).getD i .none) ((d :: ds).getD j .none)) ds.length = j at hP e2
  have hv : its[j]? = some v := by simpa using hP
  obtain ⟨_, _, hj, _, _⟩ := PySem.W.readsAll_at ra j v hv
  obtain ⟨w, hw1, hw2⟩ := r.get (List.getElem?_eq_getElem hj)
  obtain ⟨u, hu1, hu2⟩ := rv.get hw1
  rw [hv] at hu1
  cases hu1
  have e3 : (d :: ds)[j] = leastD d ds := by
    rw [← e2, List.getD_eq_getElem?_getD, List.getElem?_eq_getElem hj]
    rfl
  rw [e3] at hw2
  exact ⟨w, H, I.kept hk', hu2, q w hw2⟩
theorem max_list (hu : X.A.units + 100 < cLine) (hc : X.calm = true) (I : Inv X pins σ H s) {a : Addr} {vs : List V} {d : PyData} {ds : List PyData} {Q : VK} (hl : SqL X.K H a vs) (r : RpAll X.prog X.w X.K H vs (d :: ds)) (ho : okSort (d :: ds) = true)
    (q : ∀ v, Rp X.prog X.w X.K H v (mostD d ds) → Q v H) : wpAny (model X.prog X.w) X.A (call (.builtin "max") [.ref a]) (EP X pins σ Q) X.xe s := by
  obtain ⟨al, dp, nd⟩ := okSort_al ho
  obtain ⟨its, rv, pl, hz⟩ := I.list hl
  have e1 := each_of rv r
  obtain ⟨as, ra⟩ := reads_all (each_reads I e1 nd)
  have hn := PySem.W.readsAll_len (vs := its.toArray) ra
  refine PySem.call_max_walkH (PySem.W.iter_listW (A := X.A.in1) (I.ok.hd hc) pl.isList fun s2 e W st hfp hw hk => ⟨_, _, _, _, _, _, _, s.heap, _, rfl, W, st, hfp, (by rw [hn]; exact Nat.succ_pos _), hw, hk, PySem.W.cmpIn_gt (A := X.A.in1) ra al (show X.A.units + 1 + PyData.depthAll (d :: ds) < cLine by omega), fun v s' hP m => ?_⟩)
  obtain ⟨h', tk, rfl, hk'⟩ := PySem.W.moved_old e rfl m
  have e2 := (PySem.W.argBest_fold (fun y x => PySem.W.dataLt x y) PyData.none d ds ds.length (Nat.le_refl _)).2
  rw [List.take_length, most_fold] at e2
  have hsz : its.toArray.size - 1 = ds.length := by rw [hn]; rfl
  rw [hsz] at hP
  generalize PySem.argBest (fun i j => PySem.W.dataLt ((d :: ds).getD j .none) ((d :: ds).getD i .none)) ds.length = j at hP e2
  have hv : its[j]? = some v := by simpa using hP
  obtain ⟨_, _, hj, _, _⟩ := PySem.W.readsAll_at ra j v hv
  obtain ⟨w, hw1, hw2⟩ := r.get (List.getElem?_eq_getElem hj)
  obtain ⟨u, hu1, hu2⟩ := rv.get hw1
  rw [hv] at hu1
  cases hu1
  have e3 : (d :: ds)[j] = mostD d ds := by
    rw [← e2, List.getD_eq_getElem?_getD, List.getElem?_eq_getElem hj]
    rfl
  rw [e3] at hw2
  exact ⟨w, H, I.kept hk', hu2, q w hw2⟩
def rBi (P : Program) (w : World) (K : PySem.W.Frag) (b : Bi) : List V → Hp → VK → Prop := fun xs H Q => ∃ ds sl, PySem.W.EachIs (RdV P w K H) xs ds ∧ biR b ds = .ok sl ∧ ∀ v H', Mk P w K H H' v sl → Q v H'
def biF : Bi → Value
  | .len => .builtin "len"
  | .sorted => .builtin "sorted"
  | .tuple => .type "tuple"
  | .list => .type "list"
  | .dict => .type "dict"
  | .any => .builtin "any"
  | .all => .builtin "all"
  | .sum => .builtin "sum"
  | .min => .builtin "min"
  | .max => .builtin "max"
  | .int => .type "int"
  | .str => .type "str"
  | _ => .none
/-- what is served so far -/
def biOk : Bi → Bool
  | .len => true
  | .sorted => true
  | .tuple => true
  | .list => true
  | .any => true
  | .all => true
  | .int => true
  | .sum => true
  | .min => true
  | .max => true
  | .dict => true
  | _ => false
theorem opBi (hu : X.A.units + 100 < cLine) (hc : X.calm = true) (b : Bi) (hb : biOk b = true) : CallR X (biF b) (rBi X.prog X.w X.K b) := by
  intro pins s σ H xs us Q I r h
  obtain ⟨ds, sl, hx, e, q⟩ := h
  cases hx with
  | nil => cases b <;> cases e
  | @cons x d xs' ds' h1 h2 =>
    cases h2 with
    | nil =>
      obtain ⟨u, rfl, rx⟩ := vals1 r
      cases b with
      | len => exact len_ok I h1 rx e q
      | list => exact list_ok hc I h1 rx e q
      | dict => exact dict_ok hu hc I h1 rx e q
      | tuple => exact tuple_ok I h1 rx e q
      | sorted =>
        cases d with
        | list ds =>
          obtain ⟨e1, e2⟩ := Res.guard_eq_ok e
          cases e2
          obtain ⟨a, vs, rfl, h3, r3⟩ := h1.list
          cases rx
          exact sorted_list hu I h3 r3 e1 q
        | _ => cases e
      | any =>
        cases d with
        | list ds =>
          obtain ⟨bs, e1, e2⟩ := Res.bind_eq_ok e
          cases e2
          have e3 := boolsOf_eq (Res.get_eq_ok e1)
          subst e3
          obtain ⟨a, vs, rfl, h3, r3⟩ := h1.list
          have e4 := r3.bools
          subst e4
          exact cr_any hc pins s σ H _ _ Q I r ⟨a, bs, rfl, h3, q _ _ (Mk.old (.bl _))⟩
        | _ => cases e
      | all =>
        cases d with
        | list ds =>
          obtain ⟨bs, e1, e2⟩ := Res.bind_eq_ok e
          cases e2
          have e3 := boolsOf_eq (Res.get_eq_ok e1)
          subst e3
          obtain ⟨a, vs, rfl, h3, r3⟩ := h1.list
          have e4 := r3.bools
          subst e4
          exact cr_all hc pins s σ H _ _ Q I r ⟨a, bs, rfl, h3, q _ _ (Mk.old (.bl _))⟩
        | _ => cases e
      | sum =>
        cases d with
        | list ds =>
          obtain ⟨bs, e1, e2⟩ := Res.bind_eq_ok e
          cases e2
          have e3 := intsOf_eq (Res.get_eq_ok e1)
          subst e3
          obtain ⟨a, vs, rfl, h3, r3⟩ := h1.list
          have e4 := r3.ints
          subst e4
          exact cr_sum hc pins s σ H _ _ Q I r ⟨a, bs, rfl, h3, q _ _ (Mk.old (.int _))⟩
        | _ => cases e
      | min =>
        cases d with
        | list ds =>
          cases ds with
          | nil => cases e
          | cons d ds =>
            obtain ⟨e1, e2⟩ := Res.guard_eq_ok e
            cases e2
            obtain ⟨a, vs, rfl, h3, r3⟩ := h1.list
            cases rx
            exact min_list hu hc I h3 r3 e1 fun v hv => q _ _ (Mk.old hv)
        | _ => cases e
      | max =>
        cases d with
        | list ds =>
          cases ds with
          | nil => cases e
          | cons d ds =>
            obtain ⟨e1, e2⟩ := Res.guard_eq_ok e
            cases e2
            obtain ⟨a, vs, rfl, h3, r3⟩ := h1.list
            cases rx
            exact max_list hu hc I h3 r3 e1 fun v hv => q _ _ (Mk.old hv)
        | _ => cases e
      | int =>
        cases d with
        | int i =>
          cases e
          cases h1.int
          exact call_int1 pins s σ H _ _ Q I r (.inl ⟨i, rfl, q _ _ (Mk.old (.int _))⟩)
        | bool b =>
          cases e
          cases h1.bool
          exact call_int1 pins s σ H _ _ Q I r (.inr ⟨b, rfl, q _ _ (Mk.old (.int _))⟩)
        | _ => cases e
      | _ => cases hb
    | cons h3 h4 => cases b <;> first | (cases hb; done) | (cases d <;> cases e) | (cases d <;> first | (cases e; done) | (rename_i xs; cases xs <;> cases e))
end
end Rt
set_option maxRecDepth 100000
set_option maxHeartbeats 4000000
namespace Rt
open PySem PySem.Spec PyProof.Rows L2
/-! ### readings by the evaluator -/
section
variable (P : Program) (w : World) (K : PySem.W.Frag)
/-- a result -/
def tR (f : Rho → Res (Rv × Rho)) : TE := fun σ H Q => ∃ ρ r ρ', Ok P w K H σ ρ ∧ f ρ = .ok (r, ρ') ∧ ∀ v H', Pst P w K σ ρ H ρ' H' → RV P w K H' σ ρ' v r → Nw H v r → Q v H'
/-- a kept datum -/
def tS (f : Rho → Res (PyData × Rho)) : TE := fun σ H Q => ∃ ρ d ρ', Ok P w K H σ ρ ∧ f ρ = .ok (d, ρ') ∧ ∀ v H', Pst P w K σ ρ H ρ' H' → Rp P w K H' v d → Q v H'
/-- a test -/
def tT (f : Rho → Res (Bool × Rho)) : TT := fun σ H Q => ∃ ρ b ρ', Ok P w K H σ ρ ∧ f ρ = .ok (b, ρ') ∧ ∀ H', Pst P w K σ ρ H ρ' H' → Q b H'
/-- kept data -/
def tL (f : Rho → Res (List PyData × Rho)) : TA := fun σ H Q => ∃ ρ ds ρ', Ok P w K H σ ρ ∧ f ρ = .ok (ds, ρ') ∧ ∀ vs H', Pst P w K σ ρ H ρ' H' → RpAll P w K H' vs ds → Q vs H'
/-- results -/
inductive RVs (H : Hp) (σ : L2.St) (ρ : Rho) : List V → List Rv → Prop
  | nil : RVs H σ ρ [] []
  | cons {v : V} {vs : List V} {r : Rv} {rs : List Rv} : RV P w K H σ ρ v r → RVs H σ ρ vs rs → RVs H σ ρ (v :: vs) (r :: rs)
def Nws (H : Hp) : List V → List Rv → Prop
  | v :: vs, r :: rs => Nw H v r ∧ Nws H vs rs
  | _, _ => True
/-- the new things stand apart -/
def Apart : List V → List Rv → Prop
  | v :: vs, .val (.own _) :: rs => (∀ (j : Nat) (o : Ob), rs[j]? = some (.val (.own o)) → vs[j]? ≠ some v) ∧ Apart vs rs
  | _ :: vs, _ :: rs => Apart vs rs
  | _, _ => True
def tA (f : Rho → Res (List Rv × Rho)) : TA := fun σ H Q => ∃ ρ rs ρ', Ok P w K H σ ρ ∧ f ρ = .ok (rs, ρ') ∧ ∀ vs H', Pst P w K σ ρ H ρ' H' → RVs P w K H' σ ρ' vs rs → Nws H vs rs → Apart vs rs → Q vs H'
end
section
variable {X : Cx} {e : Expr} {t t' : TE}
theorem pe_weak (h : PE X e t) (f : ∀ σ H Q, t' σ H Q → t σ H Q) : PE X e t' := ⟨fun pins s σ H Q I q => h.run pins s σ H Q I (f σ H Q q)⟩
theorem pt_weak {t t' : TT} (h : PT X e t) (f : ∀ σ H Q, t' σ H Q → t σ H Q) : PT X e t' := ⟨fun pins s σ H Q I q => h.run pins s σ H Q I (f σ H Q q)⟩
theorem pw_weak {t t' : TT} (h : PW X e t) (f : ∀ σ H Q, t' σ H Q → t σ H Q) : PW X e t' := ⟨fun wh pins s σ H Q I q => h.run wh pins s σ H Q I (f σ H Q q)⟩
theorem pa_weak {es : List Expr} {t t' : TA} (h : PA X es t) (f : ∀ σ H Q, t' σ H Q → t σ H Q) : PA X es t' := ⟨fun pos pins s σ H Q I q => h.run pos pins s σ H Q I (f σ H Q q)⟩
theorem ps_weak {st : Stmt} {t t' : TS} (h : PS X st t) (f : ∀ D σ H, t' D σ H → t D σ H) : PS X st t' := ⟨fun pins s σ H D I q => h.run pins s σ H D I (f D σ H q)⟩
end

/-! ### freezing -/
section
variable {X : Cx} {pins : List (Addr × Obj)} {s : Shared} {σ : L2.St} {H H' : Hp} {ρ ρ' : Rho}
theorem gt_set (ρ : Rho) (i j : Nat) (x : Sl) : gt (ρ.set i x) j = if i = j ∧ i < ρ.length then x else gt ρ j := by
  unfold gt
  rw [List.getD_eq_getElem?_getD, List.getElem?_set, List.getD_eq_getElem?_getD]
  by_cases h : i = j
  · subst h
    by_cases h2 : i < ρ.length
    · simp [h2]
    · simp [h2]
  · simp [h]
theorem gt_lt {ρ : Rho} {i : Nat} (h : gt ρ i ≠ .un) : i < ρ.length := by
  refine Nat.lt_of_not_le fun z => h ?_
  unfold gt
  rw [List.getD_eq_getElem?_getD, List.getElem?_eq_none z]
  rfl
/-- the heap where the object at a is frozen -/
theorem keep_frz {a : Addr} {u : HO} {o : Obj} (h : H a = some u) (wr : Wr u) : Keep H (upd H a (.frz o u)) := by
  refine ⟨fun b xs e => ?_, fun b ob v e => ?_⟩
  · rw [upd_ne]
    · exact e
    · rintro rfl; rw [h] at e; cases e; exact wr.elim
  · rw [upd_ne]
    · exact e
    · rintro rfl; rw [h] at e; cases e; exact wr.elim
theorem own_frz {P : Program} {w : World} {K : PySem.W.Frag} {a : Addr} {x : Ob} (h : OwnAt P w K H a x) : ∃ u, H a = some u ∧ Wr u ∧ ∀ o : Obj, Rp P w K (upd H a (.frz o u)) (.ref a) x.dat := by
  cases x with
  | lst ds =>
    obtain ⟨vs, e, r⟩ := h
    exact ⟨_, e, True.intro, fun o => .lst (.inl ⟨o, upd_same⟩) (r.keep (keep_frz e True.intro))⟩
  | dct kvs =>
    rcases h with ⟨ks, e, r⟩ | ⟨xs, e, n, r⟩
    · exact ⟨_, e, True.intro, fun o => .dK upd_same (r.keep (keep_frz e True.intro))⟩
    · exact ⟨_, e, True.intro, fun o => .dT upd_same n (r.keep (keep_frz (o := o) e True.intro))⟩
/-- an object is frozen that no slot owns any more -/
theorem Ok.frz {P : Program} {w : World} {K : PySem.W.Frag} (k : Ok P w K H σ ρ) {a : Addr} {u : HO} {o : Obj} (h : H a = some u) (wr : Wr u) (n : ¬ Ow σ ρ a) : Ok P w K (upd H a (.frz o u)) σ ρ := by
  refine ⟨fun i z => ?_, k.sep, k.len⟩
  obtain ⟨v, e, r⟩ := k.rep i z
  refine ⟨v, e, ?_⟩
  cases q : gt ρ i with
  | un => exact True.intro
  | shr d => rw [q] at r; exact Rp.keep (keep_frz h wr) r
  | own x =>
    rw [q] at r
    obtain ⟨b, eb, r⟩ := r
    refine ⟨b, eb, r.keep (keep_frz h wr) fun u' z' => ?_⟩
    rw [upd_ne]
    · exact z'
    · rintro rfl
      exact n ⟨i, ⟨x, q⟩, by rw [e, eb]⟩
theorem upd_none {H : Hp} {p a : Addr} {u : HO} (e : upd H p u a = none) : H a = none := by
  unfold upd at e
  split at e
  · cases e
  · exact e
theorem frz_stl (I : Inv X pins σ H s) (k : Ok X.prog X.w X.K H σ ρ) {v : V} {r : Rv} {d : PyData} (h : RV X.prog X.w X.K H σ ρ v r) (e : stl ρ r = .ok (d, ρ')) :
    ∃ H', Inv X pins σ H' s ∧ Ok X.prog X.w X.K H' σ ρ' ∧ Sub ρ ρ' ∧ Rp X.prog X.w X.K H' v d ∧ (∀ a, H' a = none → H a = none) ∧ ∀ a u, H a = some u → (v = .ref a → (∀ o, r ≠ .val (.own o)) ∧ ¬ Ow σ ρ a) → H' a = some u := by
  cases r with
  | val x =>
    cases x with
    | un => exact h.elim
    | shr y => cases e; exact ⟨H, I, k, Sub.refl _, h, fun _ z => z, fun _ _ z _ => z⟩
    | own x =>
      cases e
      obtain ⟨a, rfl, q, n⟩ := h
      obtain ⟨u, e, wr, f⟩ := own_frz q
      obtain ⟨od, I'⟩ := I.lock e wr.mut
      refine ⟨_, I', k.frz e wr n, Sub.refl _, f od, fun _ z => upd_none z, fun b u' z c => ?_⟩
      rw [upd_ne]
      · exact z
      · rintro rfl
        exact (c rfl).1 x rfl
  | nam i =>
    have es : rdS (gt ρ i) = .ok d ∧ ρ' = ρ.set i (.shr d) := by
      obtain ⟨d', e1, e2⟩ := Res.bind_eq_ok e
      cases e2
      exact ⟨e1, rfl⟩
    obtain ⟨e1, rfl⟩ := es
    have hu : gt ρ i ≠ .un := fun z => by rw [z] at e1; cases e1
    have hi := gt_lt hu
    obtain ⟨v', ev, r⟩ := k.rep i hu
    rw [show σ[i]? = some (some v) from h] at ev
    cases ev
    have sub : Sub ρ (ρ.set i (.shr d)) := by
      refine ⟨List.length_set .., fun j o z => ?_⟩
      rw [gt_set] at z
      split at z
      · cases z
      · exact ⟨o, z⟩
    have okset : ∀ {H2 : Hp}, Ok X.prog X.w X.K H2 σ ρ → Rp X.prog X.w X.K H2 v d → Ok X.prog X.w X.K H2 σ (ρ.set i (.shr d)) := by
      intro H2 k2 r2
      refine ⟨fun j z => ?_, fun j j' a h1 h2 => ?_, by rw [List.length_set]; exact k2.len⟩
      · rw [gt_set] at z ⊢
        split
        · rename_i c
          rw [← c.1]
          exact ⟨v, h, r2⟩
        · rename_i c
          rw [if_neg c] at z
          exact k2.rep j z
      · refine k2.sep j j' a ⟨?_, h1.2⟩ ⟨?_, h2.2⟩
        · obtain ⟨o, z⟩ := h1.1
          exact sub.own j o z
        · obtain ⟨o, z⟩ := h2.1
          exact sub.own j' o z
    cases q : gt ρ i with
    | un => exact absurd q hu
    | shr y =>
      rw [q] at r e1
      cases e1
      exact ⟨H, I, okset k r, sub, r, fun _ z => z, fun _ _ z _ => z⟩
    | own x =>
      rw [q] at r e1
      cases e1
      obtain ⟨a, rfl, r⟩ := r
      obtain ⟨u, e, wr, f⟩ := own_frz r
      obtain ⟨od, I'⟩ := I.lock e wr.mut
      have hn : ¬ Ow σ (ρ.set i (.shr x.dat)) a := by
        rintro ⟨j, ⟨o, z⟩, z2⟩
        rw [gt_set] at z
        split at z
        · cases z
        · rename_i c
          have := k.sep i j a ⟨⟨x, q⟩, h⟩ ⟨⟨o, z⟩, z2⟩
          exact c ⟨this, hi⟩
      have k3 : Ok X.prog X.w X.K (upd H a (.frz od u)) σ (ρ.set i (.shr x.dat)) := by
        refine ⟨fun j z => ?_, fun j j' b h1 h2 => ?_, by rw [List.length_set]; exact k.len⟩
        · rw [gt_set] at z ⊢
          split
          · rename_i c
            rw [← c.1]
            exact ⟨_, h, f od⟩
          · rename_i c
            rw [if_neg c] at z
            obtain ⟨v2, ev2, r2⟩ := k.rep j z
            refine ⟨v2, ev2, ?_⟩
            cases q2 : gt ρ j with
            | un => exact True.intro
            | shr d2 => rw [q2] at r2; exact Rp.keep (keep_frz e wr) r2
            | own x2 =>
              rw [q2] at r2
              obtain ⟨b, rfl, r2⟩ := r2
              refine ⟨b, rfl, r2.keep (keep_frz e wr) fun u' z' => ?_⟩
              rw [upd_ne]
              · exact z'
              · rintro rfl
                exact c ⟨k.sep i j b ⟨⟨x, q⟩, h⟩ ⟨⟨x2, q2⟩, ev2⟩, hi⟩
        · refine k.sep j j' b ⟨?_, h1.2⟩ ⟨?_, h2.2⟩
          · obtain ⟨o, z⟩ := h1.1
            exact sub.own j o z
          · obtain ⟨o, z⟩ := h2.1
            exact sub.own j' o z
      refine ⟨_, I', k3, sub, f od, fun _ z => upd_none z, fun b u' z c => ?_⟩
      rw [upd_ne]
      · exact z
      · rintro rfl
        exact (c rfl).2 ⟨i, ⟨x, q⟩, h⟩
/-- a result is kept -/
theorem Pst.stl {P : Program} {w : World} {K : PySem.W.Frag} {ρ1 : Rho} {H1 : Hp} {v : V} {r : Rv} (a : Pst P w K σ ρ H ρ1 H1) (n : Nw H v r) (k : Ok P w K H' σ ρ') (sb : Sub ρ1 ρ') (tr : ∀ a, H' a = none → H1 a = none)
    (f : ∀ a u, H1 a = some u → (v = .ref a → (∀ o, r ≠ .val (.own o)) ∧ ¬ Ow σ ρ1 a) → H' a = some u) : Pst P w K σ ρ H ρ' H' := by
  refine ⟨fun b u z nb => f b u (a.fr b u z nb) fun e => ⟨fun o eo => ?_, fun q => nb (a.sub.ow q)⟩, k, a.sub.trans sb, fun b z => a.trk b (tr b z)⟩
  subst eo
  have := n b e
  rw [z] at this
  cases this
/-- the result of e is kept -/
theorem pe_stl {e : Expr} {f : Rho → Res (Rv × Rho)} (h : PE X e (tR X.prog X.w X.K f)) : PE X e (tS X.prog X.w X.K fun ρ => (f ρ).bind fun p => stl p.2 p.1) := by
  refine ⟨fun pins s σ H Q I hq => ?_⟩
  obtain ⟨ρ, d, ρ', k, ef, q⟩ := hq
  obtain ⟨⟨r, ρ1⟩, e1, e2⟩ := Res.bind_eq_ok ef
  refine thn (h.run pins s σ H (fun v H1 => Pst X.prog X.w X.K σ ρ H ρ1 H1 ∧ RV X.prog X.w X.K H1 σ ρ1 v r ∧ Nw H v r) I ⟨ρ, r, ρ1, k, e1, fun v H' a b c => ⟨a, b, c⟩⟩) fun u s1 hz => ?_
  obtain ⟨v, H1, I1, rv, a, b, c⟩ := hz
  obtain ⟨H2, I2, k2, sb, r2, tr, f2⟩ := frz_stl I1 a.ok b e2
  exact ⟨v, H2, I2, rv, q v H2 (a.stl c k2 sb tr f2) r2⟩
end

/-! ### rules -/
section
variable {P : Program} {w : World} {K : PySem.W.Frag} {H H1 H2 H' : Hp} {σ : L2.St} {ρ ρ1 ρ2 ρ' : Rho}
theorem Ok.free (k : Ok P w K H σ ρ) {a : Addr} (h : H a = none) : ¬ Ow σ ρ a := fun z => by
  obtain ⟨u, e, _⟩ := k.ow z
  rw [h] at e
  cases e
theorem Mk.rv {v : V} {sl : Sl} (m : Mk P w K H1 H' v sl) (a : Pst P w K σ ρ H ρ1 H1) : Pst P w K σ ρ H ρ1 H' ∧ RV P w K H' σ ρ1 v (.val sl) ∧ Nw H v (.val sl) := by
  refine ⟨a.grow m.grow, ?_, ?_⟩
  · cases sl with
    | un => exact absurd rfl m.ne
    | shr d => exact m.rep
    | own o =>
      obtain ⟨b, e, q⟩ := m.rep
      exact ⟨b, e, q, a.ok.free (m.nw o rfl b e)⟩
  · cases sl with
    | own o => exact fun b e => a.trk b (m.nw o rfl b e)
    | _ => exact True.intro
theorem RVs.keep {vs : List V} {rs : List Rv} (h : RVs P w K H1 σ ρ1 vs rs) (k : Ok P w K H1 σ ρ1) (f : Fr σ ρ1 H1 H2) (s : Sub ρ1 ρ2) : RVs P w K H2 σ ρ2 vs rs := by
  induction h with
  | nil => exact .nil
  | cons h r ih => exact .cons (h.keep k f s) ih
theorem RVs.rds {vs : List V} {rs : List Rv} (h : RVs P w K H σ ρ vs rs) (k : Ok P w K H σ ρ) : ∀ {ds : List PyData}, rds ρ rs = .ok ds → PySem.W.EachIs (RdV P w K H) vs ds := by
  induction h with
  | nil => intro ds e; cases e; exact .nil
  | cons h r ih =>
    intro ds e
    obtain ⟨d, e1, e2⟩ := Res.bind_eq_ok e
    obtain ⟨ds2, e3, e4⟩ := Res.bind_eq_ok e2
    cases e4
    exact .cons (h.rd k e1) (ih e3)
theorem Nws.back {vs : List V} {rs : List Rv} (h : Nws H1 vs rs) (a : Pst P w K σ ρ H ρ1 H1) : Nws H vs rs := by
  induction vs generalizing rs with
  | nil => cases rs <;> exact True.intro
  | cons v vs ih =>
    cases rs with
    | nil => exact True.intro
    | cons r rs => exact ⟨h.1.back a, ih h.2⟩
end
abbrev tRX (X : Cx) := tR X.prog X.w X.K
abbrev tSX (X : Cx) := tS X.prog X.w X.K
abbrev tTX (X : Cx) := tT X.prog X.w X.K
abbrev tLX (X : Cx) := tL X.prog X.w X.K
abbrev tAX (X : Cx) := tA X.prog X.w X.K
section
variable {X : Cx} {a b c e : Expr} {es : List Expr} {pos : Pos} {fa fb fc : Rho → Res (Rv × Rho)} {fs : Rho → Res (PyData × Rho)} {fl : Rho → Res (List PyData × Rho)} {fr : Rho → Res (List Rv × Rho)}
def fVar (i : Nat) (ρ : Rho) : Res (Rv × Rho) := match gt ρ i with
  | .un => .bad
  | .shr d => .ok (.val (.shr d), ρ)
  | .own _ => .ok (.nam i, ρ)
theorem pe_vr {i : Nat} {x : Str} (hN : X.N[i]? = some x) (hv : Vis X.env.scope x) (hd : (x == ("__debug__" : Str)) = false) (hcd : (x == ("__classdict__" : Str)) = false) : PE X (.Name x pos) (tRX X (fVar i)) := by
  refine pe_weak (pe_var (i := i) hN hv hd hcd) fun σ H Q ⟨ρ, r, ρ', k, e, q⟩ => ?_
  unfold fVar at e
  have hu : gt ρ i ≠ .un := fun z => by rw [z] at e; cases e
  obtain ⟨v, ev, rv⟩ := k.rep i hu
  refine ⟨v, ev, ?_⟩
  cases z : gt ρ i with
  | un => exact absurd z hu
  | shr d =>
    rw [z] at e rv
    cases e
    exact q v H (Pst.refl k) rv True.intro
  | own o =>
    rw [z] at e
    cases e
    exact q v H (Pst.refl k) ev True.intro
def fCst (d : PyData) (ρ : Rho) : Res (Rv × Rho) := .ok (.val (.shr d), ρ)
theorem pe_cst {v : V} {d : PyData} (h : PE X e (fun σ H Q => Q v H)) (r : ∀ H, Rp X.prog X.w X.K H v d) : PE X e (tRX X (fCst d)) := by
  refine pe_weak h fun σ H Q ⟨ρ, r2, ρ', k, e, q⟩ => ?_
  cases e
  exact q v H (Pst.refl k) (r H) True.intro

/-! lists of arguments, of items -/
theorem pa_l0 : PA X [] (tLX X fun ρ => .ok ([], ρ)) := pa_weak pa_nil fun σ H Q ⟨ρ, ds, ρ', k, e, q⟩ => by cases e; exact q [] H (Pst.refl k) .nil
theorem pa_l1 (ha : PE X e (tRX X fa)) (hr : PA X es (tLX X fl)) (hs : starEach (e :: es) X.env = (false, eval e X.env) :: starEach es X.env) :
    PA X (e :: es) (tLX X fun ρ => (fa ρ).bind fun p => (stl p.2 p.1).bind fun x => (fl x.2).bind fun q => .ok (x.1 :: q.1, q.2)) := by
  refine pa_weak (pa_cons (pe_stl ha) hr hs) fun σ H Q ⟨ρ, ds, ρ', k, e, q⟩ => ?_
  obtain ⟨p, e1, e2⟩ := Res.bind_eq_ok e
  obtain ⟨x, e3, e4⟩ := Res.bind_eq_ok e2
  obtain ⟨y, e5, e6⟩ := Res.bind_eq_ok e4
  cases e6
  refine ⟨ρ, x.1, x.2, k, by show (fa ρ).bind _ = _; rw [e1]; exact e3, fun v H1 a1 r1 => ⟨x.2, y.1, y.2, a1.ok, e5, fun vs H2 a2 r2 => ?_⟩⟩
  exact q _ H2 (a1.trans a2) (.cons (r1.keep (a2.keep a1.ok)) r2)
theorem pa_ls {p : Pos} (ha : PE X e (tRX X fa)) (hr : PA X es (tLX X fl)) :
    PA X (.Starred e p :: es) (tLX X fun ρ => (fa ρ).bind fun p => (stl p.2 p.1).bind fun x => (fl x.2).bind fun q => match x.1 with
      | .list ds => .ok (ds ++ q.1, q.2)
      | .tuple ds => .ok (ds ++ q.1, q.2)
      | _ => .bad) := by
  refine pa_weak (StX.pa_star (pe_stl ha) hr) fun σ H Q ⟨ρ, ds, ρ', k, e, q⟩ => ?_
  obtain ⟨p, e1, e2⟩ := Res.bind_eq_ok e
  obtain ⟨x, e3, e4⟩ := Res.bind_eq_ok e2
  obtain ⟨y, e5, e6⟩ := Res.bind_eq_ok e4
  refine ⟨ρ, x.1, x.2, k, by show (fa ρ).bind _ = _; rw [e1]; exact e3, fun v H1 a1 r1 => ?_⟩
  split at e6
  · rename_i ds2 ex
    cases e6
    rw [ex] at r1
    obtain ⟨b, vs1, rfl, h1, h2⟩ := RdV.list (.inl r1)
    exact ⟨b, vs1, rfl, (.inr h1), x.2, y.1, y.2, a1.ok, e5, fun vs H2 a2 r2 => q _ H2 (a1.trans a2) ((h2.keep (a2.keep a1.ok)).append r2)⟩
  · rename_i ds2 ex
    cases e6
    rw [ex] at r1
    obtain ⟨b, vs1, rfl, h1, h2⟩ := RdV.tuple (.inl r1)
    exact ⟨b, vs1, rfl, .inl h1, x.2, y.1, y.2, a1.ok, e5, fun vs H2 a2 r2 => q _ H2 (a1.trans a2) ((h2.keep (a2.keep a1.ok)).append r2)⟩
  · cases e6
theorem pa_a0 : PA X [] (tAX X fun ρ => .ok ([], ρ)) := pa_weak pa_nil fun σ H Q ⟨ρ, ds, ρ', k, e, q⟩ => by cases e; exact q [] H (Pst.refl k) .nil True.intro True.intro
theorem nws_get {H : Hp} {a : Addr} : ∀ {vs : List V} {rs : List Rv} {j : Nat} {o : Ob}, Nws H vs rs → rs[j]? = some (.val (.own o)) → vs[j]? = some (.ref a) → H a = none
  | [], _, _, _, _, _, h => by simp at h
  | _ :: _, [], _, _, _, h, _ => by simp at h
  | v :: vs, r :: rs, 0, o, h, h1, h2 => by
    simp at h1 h2
    subst h1 h2
    exact h.1 a rfl
  | v :: vs, r :: rs, j + 1, o, h, h1, h2 => nws_get (j := j) (o := o) h.2 (by simpa using h1) (by simpa using h2)
theorem pa_a1 (ha : PE X e (tRX X fa)) (hr : PA X es (tAX X fr)) (hs : starEach (e :: es) X.env = (false, eval e X.env) :: starEach es X.env) :
    PA X (e :: es) (tAX X fun ρ => (fa ρ).bind fun p => (fr p.2).bind fun q => .ok (p.1 :: q.1, q.2)) := by
  refine pa_weak (pa_cons ha hr hs) fun σ H Q ⟨ρ, ds, ρ', k, e, q⟩ => ?_
  obtain ⟨p, e1, e2⟩ := Res.bind_eq_ok e
  obtain ⟨y, e5, e6⟩ := Res.bind_eq_ok e2
  cases e6
  refine ⟨ρ, p.1, p.2, k, e1, fun v H1 a1 r1 n1 => ⟨p.2, y.1, y.2, a1.ok, e5, fun vs H2 a2 r2 n2 ap2 => ?_⟩⟩
  refine q _ H2 (a1.trans a2) (.cons (r1.keep a1.ok a2.fr a2.sub) r2) ⟨n1, n2.back a1⟩ ?_
  cases z : p.1 with
  | nam i => exact ap2
  | val x =>
    cases x with
    | own o =>
      refine ⟨fun j o' hj hv => ?_, ap2⟩
      rw [z] at r1
      obtain ⟨b, rfl, qb, _⟩ := r1
      have h1 := nws_get n2 hj hv
      obtain ⟨u, eu, _⟩ := qb.wr
      rw [h1] at eu
      cases eu
    | _ => exact ap2
theorem pe_tpl {k : Nat} (h : PA X es (tLX X fl)) : PE X (.Tuple es k pos) (tRX X fun ρ => (fl ρ).bind fun p => Res.guard (decide (p.1.length ≤ lim)) (.ok (.val (.shr (.tuple p.1)), p.2))) := by
  refine pe_weak (pe_tup h) fun σ H Q ⟨ρ, r, ρ', k, e, q⟩ => ?_
  obtain ⟨p, e1, e2⟩ := Res.bind_eq_ok e
  obtain ⟨e3, e4⟩ := Res.guard_eq_ok e2
  cases e4
  have e5 := of_decide_eq_true e3
  rw [lim_line] at e5
  refine ⟨ρ, p.1, p.2, k, e1, fun vs H1 a1 r1 => ⟨by rw [r1.length]; exact e5, fun b hb => ?_⟩⟩
  obtain ⟨m1, m2, m3⟩ := (Mk.tup hb r1).rv a1
  exact q _ _ m1 m2 m3
theorem pe_lsp (h : PA X es (tLX X fl)) : PE X (.List es pos) (tRX X fun ρ => (fl ρ).bind fun p => Res.guard (decide (p.1.length ≤ lim)) (.ok (.val (.own (.lst p.1)), p.2))) := by
  refine pe_weak (pe_lst h) fun σ H Q ⟨ρ, r, ρ', k, e, q⟩ => ?_
  obtain ⟨p, e1, e2⟩ := Res.bind_eq_ok e
  obtain ⟨e3, e4⟩ := Res.guard_eq_ok e2
  cases e4
  have e5 := of_decide_eq_true e3
  rw [lim_line] at e5
  refine ⟨ρ, p.1, p.2, k, e1, fun vs H1 a1 r1 => ⟨by rw [r1.length]; exact e5, fun b hb => ?_⟩⟩
  obtain ⟨m1, m2, m3⟩ := (Mk.lst hb r1).rv a1
  exact q _ _ m1 m2 m3
theorem pe_dc0 : PE X (.Dict [] [] pos) (tRX X fun ρ => .ok (.val (.own (.dct [])), ρ)) := by
  refine pe_weak pe_dnewK fun σ H Q ⟨ρ, r, ρ', k, e, q⟩ b hb => ?_
  cases e
  have m : Mk X.prog X.w X.K H (upd H b (.dK [])) (.ref b) (.own (.dct [])) := ⟨.one hb, ⟨b, rfl, .inl ⟨[], upd_same, .nil⟩⟩, fun _ _ a e => by cases e; exact hb, fun e => (nomatch e)⟩
  obtain ⟨m1, m2, m3⟩ := m.rv (Pst.refl k)
  exact q _ _ m1 m2 m3
theorem pe_bin (o : Bop) (ha : PE X a (tRX X fa)) (hb : PE X b (tRX X fb)) :
    PE X (.BinOp a (opr o) b pos) (tRX X fun ρ => (fa ρ).bind fun p => (fb p.2).bind fun q => (rd q.2 p.1).bind fun x => (rd q.2 q.1).bind fun y => (binR o x y).bind fun s => .ok (.val s, q.2)) := by
  refine pe_weak (pe_op (opB o) ha hb) fun σ H Q ⟨ρ, r, ρ', k, e, q⟩ => ?_
  obtain ⟨p, e1, e⟩ := Res.bind_eq_ok e
  obtain ⟨y, e2, e⟩ := Res.bind_eq_ok e
  obtain ⟨dx, e3, e⟩ := Res.bind_eq_ok e
  obtain ⟨dy, e4, e⟩ := Res.bind_eq_ok e
  obtain ⟨s, e5, e⟩ := Res.bind_eq_ok e
  cases e
  refine ⟨ρ, p.1, p.2, k, e1, fun v1 H1 a1 r1 n1 => ⟨p.2, y.1, y.2, a1.ok, e2, fun v2 H2 a2 r2 n2 => ⟨dx, dy, s, (r1.keep a1.ok a2.fr a2.sub).rd a2.ok e3, r2.rd a2.ok e4, e5, fun v H' m => ?_⟩⟩⟩
  obtain ⟨m1, m2, m3⟩ := m.rv (a1.trans a2)
  exact q _ _ m1 m2 m3
theorem pe_cmpr (hu : X.A.units + 70 < cLine) (o : Cop) (ha : PE X a (tRX X fa)) (hb : PE X b (tRX X fb)) (hm : behindInMarks (copr o) b = false) :
    PE X (.Compare a [copr o] [b] pos) (tRX X fun ρ => (fa ρ).bind fun p => (fb p.2).bind fun q => (rd q.2 p.1).bind fun x => (rd q.2 q.1).bind fun y => (cmpR o x y).bind fun s => .ok (.val (.shr (.bool s)), q.2)) := by
  refine pe_weak (pe_cmpR (opC hu o) ha hb hm) fun σ H Q ⟨ρ, r, ρ', k, e, q⟩ => ?_
  obtain ⟨p, e1, e⟩ := Res.bind_eq_ok e
  obtain ⟨y, e2, e⟩ := Res.bind_eq_ok e
  obtain ⟨dx, e3, e⟩ := Res.bind_eq_ok e
  obtain ⟨dy, e4, e⟩ := Res.bind_eq_ok e
  obtain ⟨s, e5, e⟩ := Res.bind_eq_ok e
  cases e
  exact ⟨ρ, p.1, p.2, k, e1, fun v1 H1 a1 r1 n1 => ⟨p.2, y.1, y.2, a1.ok, e2, fun v2 H2 a2 r2 n2 => ⟨dx, dy, s, (r1.keep a1.ok a2.fr a2.sub).rd a2.ok e3, r2.rd a2.ok e4, e5, q _ _ (a1.trans a2) (.bl _) True.intro⟩⟩⟩
theorem pt_cmpr (hu : X.A.units + 70 < cLine) (o : Cop) (ha : PE X a (tRX X fa)) (hb : PE X b (tRX X fb)) (hm : behindInMarks (copr o) b = false) :
    PT X (.Compare a [copr o] [b] pos) (tTX X fun ρ => (fa ρ).bind fun p => (fb p.2).bind fun q => (rd q.2 p.1).bind fun x => (rd q.2 q.1).bind fun y => (cmpR o x y).bind fun s => .ok (s, q.2)) := by
  refine pt_weak (pt_cmpR (opC hu o) ha hb hm) fun σ H Q ⟨ρ, r, ρ', k, e, q⟩ => ?_
  obtain ⟨p, e1, e⟩ := Res.bind_eq_ok e
  obtain ⟨y, e2, e⟩ := Res.bind_eq_ok e
  obtain ⟨dx, e3, e⟩ := Res.bind_eq_ok e
  obtain ⟨dy, e4, e⟩ := Res.bind_eq_ok e
  obtain ⟨s, e5, e⟩ := Res.bind_eq_ok e
  cases e
  exact ⟨ρ, p.1, p.2, k, e1, fun v1 H1 a1 r1 n1 => ⟨p.2, y.1, y.2, a1.ok, e2, fun v2 H2 a2 r2 n2 => ⟨dx, dy, _, (r1.keep a1.ok a2.fr a2.sub).rd a2.ok e3, r2.rd a2.ok e4, e5, _, rfl, q _ (a1.trans a2)⟩⟩⟩
theorem pe_idx (hu : X.A.units + 70 < cLine) (ha : PE X a (tRX X fa)) (hb : PE X b (tRX X fb)) (hp : PlainIx b) :
    PE X (.Subscript a b pos) (tRX X fun ρ => (fa ρ).bind fun p => (fb p.2).bind fun q => (rd q.2 p.1).bind fun x => (rd q.2 q.1).bind fun y => (idxR x y).bind fun d => .ok (.val (.shr d), q.2)) := by
  refine pe_weak (pe_ix (ixI hu) ha hb hp) fun σ H Q ⟨ρ, r, ρ', k, e, q⟩ => ?_
  obtain ⟨p, e1, e⟩ := Res.bind_eq_ok e
  obtain ⟨y, e2, e⟩ := Res.bind_eq_ok e
  obtain ⟨dx, e3, e⟩ := Res.bind_eq_ok e
  obtain ⟨dy, e4, e⟩ := Res.bind_eq_ok e
  obtain ⟨s, e5, e⟩ := Res.bind_eq_ok e
  cases e
  exact ⟨ρ, p.1, p.2, k, e1, fun v1 H1 a1 r1 n1 => ⟨p.2, y.1, y.2, a1.ok, e2, fun v2 H2 a2 r2 n2 => ⟨dx, dy, s, (r1.keep a1.ok a2.fr a2.sub).rd a2.ok e3, r2.rd a2.ok e4, e5, fun v rv => q _ _ (a1.trans a2) rv True.intro⟩⟩⟩
end
end Rt
set_option maxRecDepth 100000
set_option maxHeartbeats 4000000
namespace Rt
open PySem PySem.Spec PyProof.Rows L2
/-! ### truth values -/
theorem tst_ok {r : Res (Rv × Rho)} {b : Bool} {ρ' : Rho} (h : tst r = .ok (b, ρ')) : ∃ p, r = .ok p ∧ rd p.2 p.1 = .ok (.bool b) ∧ p.2 = ρ' := by
  obtain ⟨p, e1, e⟩ := Res.bind_eq_ok h
  obtain ⟨x, e2, e⟩ := Res.bind_eq_ok e
  cases x <;> first
    | (cases e; exact ⟨p, e1, e2, rfl⟩)
    | cases e
theorem tst_val (b : Bool) (ρ : Rho) : tst (.ok (.val (.shr (.bool b)), ρ)) = .ok (b, ρ) := rfl
def plainT (e : Expr) : Bool := match e with
  | .UnaryOp .Not _ _ => false
  | .BoolOp _ _ _ => false
  | .IfExp _ _ _ _ => false
  | .Compare _ _ _ _ => false
  | _ => true
theorem plain_ok {e : Expr} (h : plainT e = true) (env : Env) (whole : Sem Value) : isTrue e env whole = (do let v ← whole; standAt e.pos; holding [v] (truthy v)) := by
  cases e with
  | UnaryOp o _ _ => cases o <;> first
    | rfl
    | cases h
  | BoolOp _ _ _ => cases h
  | IfExp _ _ _ _ => cases h
  | Compare _ _ _ _ => cases h
  | _ => rfl
section
variable {X : Cx} {a b c e : Expr} {es rest : List Expr} {pos : Pos} {fa fb fc : Rho → Res (Rv × Rho)} {fs : Rho → Res (PyData × Rho)} {fl : Rho → Res (List PyData × Rho)} {fr : Rho → Res (List Rv × Rho)}
theorem pt_of (ha : PE X e (tRX X fa)) (he : plainT e = true) : PT X e (tTX X fun ρ => tst (fa ρ)) := by
  refine pt_weak (pt_val ha fun w => plain_ok he X.env w) fun σ H Q ⟨ρ, b, ρ', k, e, q⟩ => ?_
  obtain ⟨p, e1, e2, rfl⟩ := tst_ok e
  exact ⟨ρ, p.1, p.2, k, e1, fun v H1 a r n => ⟨b, (r.rd a.ok e2).bool, q H1 a⟩⟩
theorem pe_weakF {ga : Rho → Res (Rv × Rho)} (h : PE X e (tRX X fa)) (f : ∀ ρ r, ga ρ = .ok r → fa ρ = .ok r) : PE X e (tRX X ga) := pe_weak h fun σ H Q ⟨ρ, r, ρ', k, e, q⟩ => ⟨ρ, r, ρ', k, f ρ _ e, q⟩
theorem pt_weakF {ga ta : Rho → Res (Bool × Rho)} (h : PT X e (tTX X ta)) (f : ∀ ρ r, ga ρ = .ok r → ta ρ = .ok r) : PT X e (tTX X ga) := pt_weak h fun σ H Q ⟨ρ, r, ρ', k, e, q⟩ => ⟨ρ, r, ρ', k, f ρ _ e, q⟩
/-- as a test, a result that is a bool -/
theorem tst_bind {α : Type} {r : Res α} {f : α → Res (Rv × Rho)} {p : Bool × Rho} (h : tst (r.bind f) = .ok p) : ∃ a, r = .ok a ∧ tst (f a) = .ok p := by
  cases r with
  | ok a => exact ⟨a, rfl, h⟩
  | exn _ _ => cases h
  | bad => cases h
/-! ### not, and, or -/
theorem pe_nt (ha : PE X a (tRX X fa)) : PE X (.UnaryOp .Not a pos) (tRX X fun ρ => (tst (fa ρ)).bind fun p => .ok (.val (.shr (.bool (!p.1))), p.2)) := by
  refine pe_weak (pe_not ha) fun σ H Q ⟨ρ, r, ρ', k, e, q⟩ => ?_
  obtain ⟨⟨b, ρ1⟩, e0, e⟩ := Res.bind_eq_ok e
  cases e
  obtain ⟨p, e1, e2, rfl⟩ := tst_ok e0
  exact ⟨ρ, p.1, p.2, k, e1, fun v H1 a r n => ⟨b, (r.rd a.ok e2).bool, q _ H1 a (.bl _) True.intro⟩⟩
theorem pt_nt (ha : PT X a (tTX X fun ρ => tst (fa ρ))) : PT X (.UnaryOp .Not a pos) (tTX X fun ρ => tst ((tst (fa ρ)).bind fun p => .ok (.val (.shr (.bool (!p.1))), p.2))) := by
  refine pt_weak (pt_not ha) fun σ H Q ⟨ρ, r, ρ', k, e, q⟩ => ?_
  obtain ⟨⟨b, ρ1⟩, e1, e⟩ := tst_bind e
  cases e
  exact ⟨ρ, b, ρ1, k, e1, fun H1 a => q H1 a⟩
def fAnd (fa fb : Rho → Res (Rv × Rho)) (ρ : Rho) : Res (Rv × Rho) := (tst (fa ρ)).bind fun p => if p.1 = true then (tst (fb p.2)).bind fun q => .ok (.val (.shr (.bool q.1)), q.2) else .ok (.val (.shr (.bool false)), p.2)
def fOr (fa fb : Rho → Res (Rv × Rho)) (ρ : Rho) : Res (Rv × Rho) := (tst (fa ρ)).bind fun p => if p.1 = true then .ok (.val (.shr (.bool true)), p.2) else (tst (fb p.2)).bind fun q => .ok (.val (.shr (.bool q.1)), q.2)
theorem pe_an (ha : PE X a (tRX X fa)) (hb : PE X (.BoolOp .And (b :: rest) pos) (tRX X fb)) : PE X (.BoolOp .And (a :: b :: rest) pos) (tRX X (fAnd fa fb)) := by
  refine pe_weak (pe_and ha hb) fun σ H Q ⟨ρ, r, ρ', k, e, q⟩ => ?_
  obtain ⟨⟨b, ρ1⟩, e0, e⟩ := Res.bind_eq_ok e
  obtain ⟨p, e1, e2, rfl⟩ := tst_ok e0
  refine ⟨ρ, p.1, p.2, k, e1, fun v H1 a r n => ⟨b, (r.rd a.ok e2).bool, ?_⟩⟩
  cases b with
  | false => cases e; exact q _ H1 a (.bl _) True.intro
  | true =>
    rw [if_pos rfl] at e ⊢
    obtain ⟨⟨c, ρ2⟩, e5, e⟩ := Res.bind_eq_ok e
    cases e
    obtain ⟨p3, e3, e4, rfl⟩ := tst_ok e5
    refine ⟨p.2, p3.1, p3.2, a.ok, e3, fun v3 H3 a3 r3 n3 => ?_⟩
    have := (r3.rd a3.ok e4).bool
    subst this
    exact q _ H3 (a.trans a3) (.bl _) True.intro
theorem pe_o (ha : PE X a (tRX X fa)) (hb : PE X (.BoolOp .Or (b :: rest) pos) (tRX X fb)) : PE X (.BoolOp .Or (a :: b :: rest) pos) (tRX X (fOr fa fb)) := by
  refine pe_weak (pe_or ha hb) fun σ H Q ⟨ρ, r, ρ', k, e, q⟩ => ?_
  obtain ⟨⟨b, ρ1⟩, e0, e⟩ := Res.bind_eq_ok e
  obtain ⟨p, e1, e2, rfl⟩ := tst_ok e0
  refine ⟨ρ, p.1, p.2, k, e1, fun v H1 a r n => ⟨b, (r.rd a.ok e2).bool, ?_⟩⟩
  cases b with
  | true => cases e; exact q _ H1 a (.bl _) True.intro
  | false =>
    obtain ⟨⟨c, ρ2⟩, e5, e⟩ := Res.bind_eq_ok e
    cases e
    obtain ⟨p3, e3, e4, rfl⟩ := tst_ok e5
    refine ⟨p.2, p3.1, p3.2, a.ok, e3, fun v3 H3 a3 r3 n3 => ?_⟩
    have := (r3.rd a3.ok e4).bool
    subst this
    exact q _ H3 (a.trans a3) (.bl _) True.intro
theorem pw_an (ha : PT X a (tTX X fun ρ => tst (fa ρ))) (hb : PW X (.BoolOp .And (b :: rest) pos) (tTX X fun ρ => tst (fb ρ))) : PW X (.BoolOp .And (a :: b :: rest) pos) (tTX X fun ρ => tst (fAnd fa fb ρ)) := by
  refine pw_weak (pw_and ha hb) fun σ H Q ⟨ρ, r, ρ', k, e, q⟩ => ?_
  obtain ⟨⟨b, ρ1⟩, e1, e⟩ := tst_bind e
  refine ⟨ρ, b, ρ1, k, e1, fun H1 a => ?_⟩
  cases b with
  | false => cases e; exact q H1 a
  | true =>
    obtain ⟨⟨c, ρ2⟩, e3, e⟩ := tst_bind e
    cases e
    exact ⟨ρ1, c, ρ2, a.ok, e3, fun H3 a3 => q H3 (a.trans a3)⟩
theorem pw_o (ha : PT X a (tTX X fun ρ => tst (fa ρ))) (hb : PW X (.BoolOp .Or (b :: rest) pos) (tTX X fun ρ => tst (fb ρ))) : PW X (.BoolOp .Or (a :: b :: rest) pos) (tTX X fun ρ => tst (fOr fa fb ρ)) := by
  refine pw_weak (pw_or ha hb) fun σ H Q ⟨ρ, r, ρ', k, e, q⟩ => ?_
  obtain ⟨⟨b, ρ1⟩, e1, e⟩ := tst_bind e
  refine ⟨ρ, b, ρ1, k, e1, fun H1 a => ?_⟩
  cases b with
  | true => cases e; exact q H1 a
  | false =>
    obtain ⟨⟨c, ρ2⟩, e3, e⟩ := tst_bind e
    cases e
    exact ⟨ρ1, c, ρ2, a.ok, e3, fun H3 a3 => q H3 (a.trans a3)⟩
/-! ### comparisons as tests, chains, is None -/
def fCmp (o : Cop) (fa fb : Rho → Res (Rv × Rho)) (ρ : Rho) : Res (Rv × Rho) := (fa ρ).bind fun p => (fb p.2).bind fun q => (rd q.2 p.1).bind fun x => (rd q.2 q.1).bind fun y => (cmpR o x y).bind fun s => .ok (.val (.shr (.bool s)), q.2)
theorem pt_cm (hu : X.A.units + 70 < cLine) (o : Cop) (ha : PE X a (tRX X fa)) (hb : PE X b (tRX X fb)) (hm : behindInMarks (copr o) b = false) :
    PT X (.Compare a [copr o] [b] pos) (tTX X fun ρ => tst (fCmp o fa fb ρ)) := by
  refine pt_weakF (pt_cmpr hu o ha hb hm) fun ρ r e => ?_
  obtain ⟨p, e1, e⟩ := tst_bind e
  obtain ⟨y, e2, e⟩ := tst_bind e
  obtain ⟨dx, e3, e⟩ := tst_bind e
  obtain ⟨dy, e4, e⟩ := tst_bind e
  obtain ⟨s, e5, e⟩ := tst_bind e
  cases e
  simp only [e1, Res.bind_ok, e2, e3, e4, e5]
def fChn (o o' : Cop) (fa fb fc : Rho → Res (Rv × Rho)) (ρ : Rho) : Res (Rv × Rho) := (fa ρ).bind fun p => (fb p.2).bind fun q => (rd q.2 p.1).bind fun x => (rd q.2 q.1).bind fun y =>
      (cmpR o x y).bind fun s => if s = true then (fc q.2).bind fun r => (rd r.2 q.1).bind fun y => (rd r.2 r.1).bind fun z =>
        (cmpR o' y z).bind fun s => .ok (.val (.shr (.bool s)), r.2)
      else .ok (.val (.shr (.bool false)), q.2)
theorem pe_chn (hu : X.A.units + 70 < cLine) (o o' : Cop) (ha : PE X a (tRX X fa)) (hb : PE X b (tRX X fb)) (hc : PE X c (tRX X fc)) (hm : lastMarks [copr o, copr o'] [b, c] = false) :
    PE X (.Compare a [copr o, copr o'] [b, c] pos) (tRX X (fChn o o' fa fb fc)) := by
  refine pe_weak (pe_chain (opC hu o) (opC hu o') ha hb hc hm) fun σ H Q ⟨ρ, r, ρ', k, e, q⟩ => ?_
  obtain ⟨p, e1, e⟩ := Res.bind_eq_ok e
  obtain ⟨y, e2, e⟩ := Res.bind_eq_ok e
  obtain ⟨dx, e3, e⟩ := Res.bind_eq_ok e
  obtain ⟨dy, e4, e⟩ := Res.bind_eq_ok e
  obtain ⟨s, e5, e⟩ := Res.bind_eq_ok e
  refine ⟨ρ, p.1, p.2, k, e1, fun v1 H1 a1 r1 n1 => ⟨p.2, y.1, y.2, a1.ok, e2, fun v2 H2 a2 r2 n2 => ⟨dx, dy, s, (r1.keep a1.ok a2.fr a2.sub).rd a2.ok e3, r2.rd a2.ok e4, e5, s, rfl, ?_⟩⟩⟩
  cases s with
  | false => cases e; exact q _ _ (a1.trans a2) (.bl _) True.intro
  | true =>
    rw [if_pos rfl] at e ⊢
    obtain ⟨z, f1, e⟩ := Res.bind_eq_ok e
    obtain ⟨dy2, f2, e⟩ := Res.bind_eq_ok e
    obtain ⟨dz, f3, e⟩ := Res.bind_eq_ok e
    obtain ⟨s2, f4, e⟩ := Res.bind_eq_ok e
    cases e
    exact ⟨y.2, z.1, z.2, a2.ok, f1, fun v3 H3 a3 r3 n3 => ⟨dy2, dz, s2, (r2.keep a2.ok a3.fr a3.sub).rd a3.ok f2, r3.rd a3.ok f3, f4, q _ _ ((a1.trans a2).trans a3) (.bl _) True.intro⟩⟩
theorem pt_chn (hu : X.A.units + 70 < cLine) (o o' : Cop) (ha : PE X a (tRX X fa)) (hb : PE X b (tRX X fb)) (hc : PE X c (tRX X fc)) (hm : lastMarks [copr o, copr o'] [b, c] = false) :
    PT X (.Compare a [copr o, copr o'] [b, c] pos) (tTX X fun ρ => tst (fChn o o' fa fb fc ρ)) := by
  refine pt_weak (pt_chain (opC hu o) (opC hu o') ha hb hc hm) fun σ H Q ⟨ρ, r, ρ', k, e, q⟩ => ?_
  obtain ⟨p, e1, e⟩ := tst_bind e
  obtain ⟨y, e2, e⟩ := tst_bind e
  obtain ⟨dx, e3, e⟩ := tst_bind e
  obtain ⟨dy, e4, e⟩ := tst_bind e
  obtain ⟨s, e5, e⟩ := tst_bind e
  refine ⟨ρ, p.1, p.2, k, e1, fun v1 H1 a1 r1 n1 => ⟨p.2, y.1, y.2, a1.ok, e2, fun v2 H2 a2 r2 n2 => ⟨dx, dy, s, (r1.keep a1.ok a2.fr a2.sub).rd a2.ok e3, r2.rd a2.ok e4, e5, s, rfl, ?_⟩⟩⟩
  cases s with
  | false => cases e; exact ⟨_, rfl, q _ (a1.trans a2)⟩
  | true =>
    rw [if_pos rfl] at e ⊢
    obtain ⟨z, f1, e⟩ := tst_bind e
    obtain ⟨dy2, f2, e⟩ := tst_bind e
    obtain ⟨dz, f3, e⟩ := tst_bind e
    obtain ⟨s2, f4, e⟩ := tst_bind e
    cases e
    exact ⟨y.2, z.1, z.2, a2.ok, f1, fun v3 H3 a3 r3 n3 => ⟨dy2, dz, _, (r2.keep a2.ok a3.fr a3.sub).rd a3.ok f2, r3.rd a3.ok f3, f4, _, rfl, q _ ((a1.trans a2).trans a3)⟩⟩
theorem rd_non {P : Program} {w : World} {K : PySem.W.Frag} {H : Hp} {v : V} {d : PyData} (h : RdV P w K H v d) : decide (v = .non) = isNo d := by
  rcases h with h | ⟨a, o, rfl, q, rfl⟩
  · cases h <;> rfl
  · cases o <;> rfl
def fIsN (f : Bool → Bool) (fa : Rho → Res (Rv × Rho)) (ρ : Rho) : Res (Rv × Rho) := (fa ρ).bind fun p => (rd p.2 p.1).bind fun x => .ok (.val (.shr (.bool (f (isNo x)))), p.2)
theorem pe_isn {j p'} (ha : PE X a (tRX X fa)) : PE X (.Compare a [.Is] [.Constant .none j p'] pos) (tRX X (fIsN id fa)) := by
  refine pe_weak (pe_cmpR op_isN ha pe_non rfl) fun σ H Q ⟨ρ, r, ρ', k, e, q⟩ => ?_
  obtain ⟨p, e1, e⟩ := Res.bind_eq_ok e
  obtain ⟨dx, e3, e⟩ := Res.bind_eq_ok e
  cases e
  refine ⟨ρ, p.1, p.2, k, e1, fun v1 H1 a1 r1 n1 => ⟨rfl, ?_⟩⟩
  rw [rd_non (r1.rd a1.ok e3)]
  exact q _ _ a1 (.bl _) True.intro
theorem pt_isn {j p'} (ha : PE X a (tRX X fa)) : PT X (.Compare a [.Is] [.Constant .none j p'] pos) (tTX X fun ρ => tst (fIsN id fa ρ)) := by
  refine pt_weak (pt_cmpR op_isN ha pe_non rfl) fun σ H Q ⟨ρ, r, ρ', k, e, q⟩ => ?_
  obtain ⟨p, e1, e⟩ := tst_bind e
  obtain ⟨dx, e3, e⟩ := tst_bind e
  cases e
  refine ⟨ρ, p.1, p.2, k, e1, fun v1 H1 a1 r1 n1 => ⟨rfl, _, rfl, ?_⟩⟩
  rw [rd_non (r1.rd a1.ok e3)]
  exact q _ a1
theorem pe_ntn {j p'} (ha : PE X a (tRX X fa)) : PE X (.Compare a [.IsNot] [.Constant .none j p'] pos) (tRX X (fIsN (! ·) fa)) := by
  refine pe_weak (pe_cmpR op_notN ha pe_non rfl) fun σ H Q ⟨ρ, r, ρ', k, e, q⟩ => ?_
  obtain ⟨p, e1, e⟩ := Res.bind_eq_ok e
  obtain ⟨dx, e3, e⟩ := Res.bind_eq_ok e
  cases e
  refine ⟨ρ, p.1, p.2, k, e1, fun v1 H1 a1 r1 n1 => ⟨rfl, ?_⟩⟩
  rw [rd_non (r1.rd a1.ok e3)]
  exact q _ _ a1 (.bl _) True.intro
theorem pt_ntn {j p'} (ha : PE X a (tRX X fa)) : PT X (.Compare a [.IsNot] [.Constant .none j p'] pos) (tTX X fun ρ => tst (fIsN (! ·) fa ρ)) := by
  refine pt_weak (pt_cmpR op_notN ha pe_non rfl) fun σ H Q ⟨ρ, r, ρ', k, e, q⟩ => ?_
  obtain ⟨p, e1, e⟩ := tst_bind e
  obtain ⟨dx, e3, e⟩ := tst_bind e
  cases e
  refine ⟨ρ, p.1, p.2, k, e1, fun v1 H1 a1 r1 n1 => ⟨rfl, _, rfl, ?_⟩⟩
  rw [rd_non (r1.rd a1.ok e3)]
  exact q _ a1
/-! ### a if c else b, -a -/
theorem pe_if (hc : PT X c (tTX X fun ρ => tst (fc ρ))) (ha : PE X a (tRX X fa)) (hb : PE X b (tRX X fb)) :
    PE X (.IfExp c a b pos) (tRX X fun ρ => (tst (fc ρ)).bind fun p => if p.1 = true then fa p.2 else fb p.2) := by
  refine pe_weak (pe_ifExp hc ha hb) fun σ H Q ⟨ρ, r, ρ', k, e, q⟩ => ?_
  obtain ⟨⟨b, ρ1⟩, e1, e⟩ := Res.bind_eq_ok e
  refine ⟨ρ, b, ρ1, k, e1, fun H1 a1 => ?_⟩
  cases b with
  | true => exact ⟨ρ1, r, ρ', a1.ok, e, fun v H' a2 r2 n2 => q v H' (a1.trans a2) r2 (n2.back a1)⟩
  | false => exact ⟨ρ1, r, ρ', a1.ok, e, fun v H' a2 r2 n2 => q v H' (a1.trans a2) r2 (n2.back a1)⟩
theorem pe_ng (ha : PE X a (tRX X fa)) : PE X (.UnaryOp .USub a pos) (tRX X fun ρ => (fa ρ).bind fun p => (rd p.2 p.1).bind fun x => match x with
    | .int i => .ok (.val (.shr (.int (-i))), p.2)
    | _ => .bad) := by
  refine pe_weak (pe_un un_neg ha) fun σ H Q ⟨ρ, r, ρ', k, e, q⟩ => ?_
  obtain ⟨p, e1, e⟩ := Res.bind_eq_ok e
  obtain ⟨dx, e3, e⟩ := Res.bind_eq_ok e
  cases dx <;> first
    | (cases e; exact ⟨ρ, p.1, p.2, k, e1, fun v1 H1 a1 r1 n1 => ⟨_, (r1.rd a1.ok e3).int, q _ _ a1 (.int _) True.intro⟩⟩)
    | cases e
/-! ### [..] * n -/
theorem pe_rp (hes : PA X es (tLX X fl)) (hb : PE X b (tRX X fb)) {p2 : Pos} : PE X (.BinOp (.List es p2) .Mult b pos) (tRX X fun ρ => (fl ρ).bind fun p => (fb p.2).bind fun q => (rd q.2 q.1).bind fun y => match y with
    | .int k => Res.guard (decide (-1 ≤ k) && decide (k ≤ 1000) && decide (p.1.length ≤ 1000)) (.ok (.val (.own (.lst (List.replicate k.toNat p.1).flatten)), q.2))
    | _ => .bad) := by
  refine pe_weak (pe_op op_rep (pe_lst hes) hb) fun σ H Q ⟨ρ, r, ρ', k, e, q⟩ => ?_
  obtain ⟨p, e1, e⟩ := Res.bind_eq_ok e
  obtain ⟨y, e2, e⟩ := Res.bind_eq_ok e
  obtain ⟨dy, e3, e⟩ := Res.bind_eq_ok e
  cases dy with
  | int j =>
    obtain ⟨g, e⟩ := Res.guard_eq_ok e
    cases e
    simp only [Bool.and_eq_true, decide_eq_true_eq] at g
    obtain ⟨⟨g1, g2⟩, g3⟩ := g
    refine ⟨ρ, p.1, p.2, k, e1, fun vs H1 a1 r1 => ?_⟩
    have hl := r1.length
    have hz : vs.length ≤ sizeLine := by rw [hl]; exact Nat.le_trans g3 (by decide)
    refine ⟨hz, fun b hb => ?_⟩
    obtain ⟨m1, m2, m3⟩ := (Mk.lst hb r1).rv a1
    refine ⟨p.2, y.1, y.2, m1.ok, e2, fun v2 H2 a2 r2 n2 => ?_⟩
    obtain ⟨z, ez, ⟨ws, hw, rw'⟩, nz⟩ := m2.keep m1.ok a2.fr a2.sub
    cases ez
    have hmul : p.1.length * j.toNat ≤ sizeLine := Nat.le_trans (Nat.mul_le_mul g3 (show j.toNat ≤ 1000 by omega)) (by decide)
    refine ⟨b, j, ws, rfl, (r2.rd a2.ok e3).int, hw, by omega, by omega, by rw [rw'.length]; exact hmul, fun b2 hb2 => ?_⟩
    obtain ⟨l1, l2, l3⟩ := (Mk.lst hb2 (rw'.flat j.toNat)).rv (m1.trans a2)
    exact q _ _ l1 l2 l3
  | _ => cases e
/-! ### slices -/
def fOpt : Option (Rho → Res (Rv × Rho)) → Rho → Res (Option Int × Rho)
  | none, ρ => .ok (none, ρ)
  | some f, ρ => (f ρ).bind fun p => (optI p.2 p.1).bind fun i => .ok (i, p.2)
def tO' (P : Program) (w : World) (K : PySem.W.Frag) (f : Rho → Res (Option Int × Rho)) : TO := fun σ H Q => ∃ ρ r ρ', Ok P w K H σ ρ ∧ f ρ = .ok (r, ρ') ∧ ∀ H', Pst P w K σ ρ H ρ' H' → Q r H'
theorem po_weak {e : Option Expr} {t t' : TO} (h : PO X e t) (f : ∀ σ H Q, t' σ H Q → t σ H Q) : PO X e t' := ⟨fun pins s σ H Q I q => h.run pins s σ H Q I (f σ H Q q)⟩
theorem po_no : PO X none (tO' X.prog X.w X.K (fOpt none)) := po_weak po_none fun σ H Q ⟨ρ, r, ρ', k, e, q⟩ => by cases e; exact q H (Pst.refl k)
theorem po_so (ha : PE X a (tRX X fa)) : PO X (some a) (tO' X.prog X.w X.K (fOpt (some fa))) := by
  refine po_weak (po_some ha) fun σ H Q ⟨ρ, r, ρ', k, e, q⟩ => ?_
  obtain ⟨p, e1, e⟩ := Res.bind_eq_ok e
  obtain ⟨i, e2, e⟩ := Res.bind_eq_ok e
  cases e
  obtain ⟨d, e3, e4⟩ := Res.bind_eq_ok e2
  cases d <;> first
    | (cases e4; exact ⟨ρ, p.1, p.2, k, e1, fun v1 H1 a1 r1 n1 => ⟨_, (r1.rd a1.ok e3).int, q _ a1⟩⟩)
    | cases e4
def rSl (P : Program) (w : World) (K : PySem.W.Frag) : V → Option Int → Option Int → Hp → VK → Prop := fun x lo hi H Q => ∃ d sl, RdV P w K H x d ∧ slcR d lo hi = .ok sl ∧ ∀ v H', Mk P w K H H' v sl → Q v H'
theorem cut_eq {P : Program} {w : World} {K : PySem.W.Frag} {H : Hp} {vs : List V} {ds : List PyData} (r : RpAll P w K H vs ds) (lo hi : Option Int) : RpAll P w K H (cutV vs lo hi) (cutD ds lo hi) := by
  unfold cutV cutD
  rw [r.length]
  exact (r.drop _).take _
theorem slR : SlR X (rSl X.prog X.w X.K) := by
  intro pins s σ H x v vl vu lo hi sl Q I rx hs pl pu h
  obtain ⟨d, sl2, hx, e, q⟩ := h
  cases d with
  | list ds =>
    cases e
    obtain ⟨a, vs, rfl, h1, h2⟩ := hx.list
    exact sl_list pins s σ H _ v vl vu lo hi sl Q I rx hs pl pu ⟨a, vs, rfl, h1, fun p hp => q _ _ (Mk.lst hp (cut_eq h2 lo hi))⟩
  | tuple ds =>
    cases e
    obtain ⟨a, vs, rfl, h1, h2⟩ := hx.tuple
    refine sl_tupA pins s σ H _ v vl vu lo hi sl Q I rx hs pl pu ⟨a, vs, rfl, h1, fun hw => ?_, fun hw p hp => q _ _ (Mk.tup hp (cut_eq h2 lo hi))⟩
    have e2 : cutD ds lo hi = ds := by
      unfold cutD
      rw [h2.length] at hw
      rw [hw.1, hw.2]
      simp
    rw [e2] at q
    exact q _ _ (Mk.old (.tup h1 h2))
  | str z =>
    obtain ⟨g, e⟩ := Res.guard_eq_ok e
    cases e
    have g := of_decide_eq_true g
    rw [lim_line] at g
    exact sl_str pins s σ H _ v vl vu lo hi sl Q I rx hs pl pu ⟨z, hx.str, g, q _ _ (Mk.old (.str _))⟩
  | _ => cases e
theorem pe_sl {lo hi : Option Expr} {gl gh : Rho → Res (Option Int × Rho)} {p2 : Pos} (ha : PE X a (tRX X fa)) (hl : PO X lo (tO' X.prog X.w X.K gl)) (hh : PO X hi (tO' X.prog X.w X.K gh)) :
    PE X (.Subscript a (.Slice lo hi none p2) pos) (tRX X fun ρ => (fa ρ).bind fun p => (gl p.2).bind fun l => (gh l.2).bind fun h => (rd h.2 p.1).bind fun x => (slcR x l.1 h.1).bind fun s => .ok (.val s, h.2)) := by
  refine pe_weak (pe_slice slR ha hl hh) fun σ H Q ⟨ρ, r, ρ', k, e, q⟩ => ?_
  obtain ⟨p, e1, e⟩ := Res.bind_eq_ok e
  obtain ⟨l, e2, e⟩ := Res.bind_eq_ok e
  obtain ⟨h, e3, e⟩ := Res.bind_eq_ok e
  obtain ⟨x, e4, e⟩ := Res.bind_eq_ok e
  obtain ⟨sl, e5, e⟩ := Res.bind_eq_ok e
  cases e
  refine ⟨ρ, p.1, p.2, k, e1, fun v1 H1 a1 r1 n1 => ⟨p.2, l.1, l.2, a1.ok, e2, fun H2 a2 => ⟨l.2, h.1, h.2, a2.ok, e3, fun H3 a3 => ?_⟩⟩⟩
  have a23 := a2.trans a3
  refine ⟨x, sl, (r1.keep a1.ok a23.fr a23.sub).rd a3.ok e4, e5, fun v H' m => ?_⟩
  obtain ⟨m1, m2, m3⟩ := m.rv (a1.trans a23)
  exact q _ _ m1 m2 m3
/-! ### built-in functions -/
theorem pa_rds {P : Program} {w : World} {K : PySem.W.Frag} {H : Hp} {σ : L2.St} {ρ : Rho} {vs : List V} {rs : List Rv} {ds : List PyData} (h : RVs P w K H σ ρ vs rs) (k : Ok P w K H σ ρ) (e : rds ρ rs = .ok ds) : PySem.W.EachIs (RdV P w K H) vs ds := h.rds k e
def fBi (b : Bi) (fr : Rho → Res (List Rv × Rho)) (ρ : Rho) : Res (Rv × Rho) := (fr ρ).bind fun p => (rds p.2 p.1).bind fun ds => (biR b ds).bind fun s => .ok (.val s, p.2)
theorem tcb {b : Bi} {σ : L2.St} {H : Hp} {Q : VK} (h : tRX X (fBi b fr) σ H Q) : tCB (rBi X.prog X.w X.K b) (tAX X fr) σ H Q := by
  obtain ⟨ρ, r, ρ', k, e, q⟩ := h
  obtain ⟨p, e1, e⟩ := Res.bind_eq_ok e
  obtain ⟨ds, e2, e⟩ := Res.bind_eq_ok e
  obtain ⟨sl, e3, e⟩ := Res.bind_eq_ok e
  cases e
  refine ⟨ρ, p.1, p.2, k, e1, fun vs H1 a1 r1 n1 ap1 => ⟨ds, sl, r1.rds a1.ok e2, e3, fun v H' m => ?_⟩⟩
  obtain ⟨m1, m2, m3⟩ := m.rv a1
  exact q _ _ m1 m2 m3
theorem star_plain {e : Expr} {es : List Expr} {env : Env} (h : ∀ x p, e ≠ .Starred x p) : starEach (e :: es) env = (false, eval e env) :: starEach es env := by
  cases e <;> first
    | rfl
    | exact absurd rfl (h _ _)
end
end Rt
set_option maxRecDepth 100000
set_option maxHeartbeats 4000000
namespace Rt
open PySem PySem.Spec PyProof.Rows L2
/-! ### argument lists without a star -/
def isStar : Expr → Bool
  | .Starred _ _ => true
  | _ => false
def noStar (es : List Expr) : Bool := es.all fun e => !isStar e
theorem star_one {e : Expr} {es : List Expr} {env : Env} (h : isStar e = false) : starEach (e :: es) env = (false, eval e env) :: starEach es env := by
  cases e <;> first
    | rfl
    | cases h
theorem noStar_any {env : Env} {pos : Pos} : ∀ {es : List Expr}, noStar es = true → (backTo pos (starEach es env)).any (·.1) = false
  | [], _ => rfl
  | e :: es, h => by
    have h2 : isStar e = false ∧ noStar es = true := by simpa [noStar] using h
    rw [star_one h2.1]
    have := noStar_any (env := env) (pos := pos) h2.2
    simpa [backTo] using this
/-! ### built-in functions by name -/
def biN : Bi → Str
  | .len => "len"
  | .sorted => "sorted"
  | .tuple => "tuple"
  | .list => "list"
  | .dict => "dict"
  | .any => "any"
  | .all => "all"
  | .sum => "sum"
  | .min => "min"
  | .max => "max"
  | .int => "int"
  | .str => "str"
  | _ => ""
theorem biN_boot {b : Bi} (h : biOk b = true) : bootBuiltins (biN b) = some (biF b) := by
  cases b <;> first
    | (cases h; done)
    | decide +kernel
theorem biN_name {b : Bi} (h : biOk b = true) : biN b ≠ "__name__" ∧ (biN b == ("__debug__" : Str)) = false := by
  cases b <;> first
    | (cases h; done)
    | decide +kernel
section
variable {X : Cx} {a b c e : Expr} {es rest : List Expr} {p pos : Pos} {fa fb fc : Rho → Res (Rv × Rho)} {fl : Rho → Res (List PyData × Rho)} {fr : Rho → Res (List Rv × Rho)}
theorem pe_bi (hu : X.A.units + 100 < cLine) (hc : X.calm = true) (b : Bi) (hb : biOk b = true) (hg : Gl X (biN b)) (hm : X.mg (biN b) = none) (ha : PA X (e :: es) (tAX X fr)) (hs : noStar (e :: es) = true) :
    PE X (.Call (.Name (biN b) p) (e :: es) [] pos) (tRX X (fBi b fr)) := by
  have h2 : isStar e = false ∧ noStar es = true := by simpa [noStar] using hs
  obtain ⟨n1, n2⟩ := biN_name hb
  have hv := biN_boot hb
  have ho := opBi hu hc b hb
  cases hF : biF b with
  | builtin id =>
    rw [hF] at hv ho
    exact pe_weak (pe_callB ho hg hm hv ha n1 n2 (star_one h2.1) (noStar_any h2.2)) fun σ H Q h => tcb h
  | type T =>
    rw [hF] at hv ho
    exact pe_weak (pe_callTy ho hg hm hv ha n1 n2 (star_one h2.1) (noStar_any h2.2)) fun σ H Q h => tcb h
  | _ => cases b <;> first
    | (cases hb; done)
    | cases hF
/-! ### isinstance -/
def tyN : Ty → String
  | .int => "int"
  | .bool => "bool"
  | .str => "str"
  | .tuple => "tuple"
  | .list => "list"
def tyD : PyData → String
  | .none => "NoneType"
  | .bool _ => "bool"
  | .int _ => "int"
  | .str _ => "str"
  | .tuple _ => "tuple"
  | .list _ => "list"
  | .dict _ => "dict"
theorem tyX_of {P : Program} {w : World} {K : PySem.W.Frag} {H : Hp} {v : V} {d : PyData} (h : RdV P w K H v d) (n : notDc d = true) : TyX K H v (.type (tyD d)) := by
  rcases h with h | ⟨a, o, rfl, q, rfl⟩
  · cases h with
    | non => exact .base .non
    | bl b => exact .base (.bl b)
    | int i => exact .base (.int i)
    | str x => exact .base (.str x)
    | tup h r =>
      rcases h with (h | ⟨o, h⟩) | ⟨o, its, m, h1, h2, _⟩
      · exact .base (.tup h)
      · exact .fTuple h
      · exact .kTuple h1 h2
    | lst h r =>
      rcases h with ⟨o, h⟩ | ⟨o, us, m, h1, h2, _⟩
      · exact .base (.frz h)
      · exact .kList h1 h2
    | dK h r => cases n
    | dT h m r => cases n
  · cases o with
    | lst ds => obtain ⟨vs, h, r⟩ := q; exact .base (.lst h)
    | dct kvs => cases n
theorem kit_d (t : Ty) (d : PyData) (n : notDc d = true) {K : PySem.W.Frag} : PySem.W.kitOne K (.type (tyD d)) (.type (tyN t)) = some (tyIs t d) := by
  refine kit_ty ?_
  cases d <;> first
    | (cases n; done)
    | (cases t <;> (simp only [tyD, tyN, tyIs]; decide +kernel))
theorem kit_ds (d : PyData) (n : notDc d = true) {K : PySem.W.Frag} : ∀ ts : List Ty, PySem.W.kitAny K (.type (tyD d)) (ts.map fun t => Value.type (tyN t)) = some (ts.any fun t => tyIs t d)
  | [] => rfl
  | t :: ts => by
    refine kitAny_cons (kit_d t d n) (fun hb => ?_) fun hb => ?_
    · rw [List.any_cons, hb, Bool.false_or]
      exact kit_ds d n ts
    · rw [List.any_cons, hb, Bool.true_or]
theorem ty_boot (t : Ty) : bootBuiltins (tyN t) = some (.type (tyN t)) := by cases t <;> decide +kernel
theorem ty_name (t : Ty) : (tyN t : Str) ≠ "__name__" ∧ ((tyN t : Str) == ("__debug__" : Str)) = false := by cases t <;> decide +kernel
def fIsi (ts : List Ty) (fa : Rho → Res (Rv × Rho)) (ρ : Rho) : Res (Rv × Rho) := (fa ρ).bind fun p => (rd p.2 p.1).bind fun x => Res.guard (notDc x) (.ok (.val (.shr (.bool (ts.any fun t => tyIs t x))), p.2))
theorem pe_is1 {p1 : Pos} (t : Ty) (hg : Gl X "isinstance") (hm : X.mg "isinstance" = none) (hgt : Gl X (tyN t)) (hmt : X.mg (tyN t) = none) (ha : PE X a (tRX X fa)) (hs : isStar a = false) :
    PE X (.Call (.Name "isinstance" p) [a, .Name (tyN t) p1] [] pos) (tRX X (fIsi [t] fa)) := by
  refine pe_weak (pe_callB call_isi hg hm boot_isinstance (pa_cons ha (pa_cons (pe_bltn (v := .ty (tyN t)) hgt hmt (ty_boot t) rfl (ty_name t).1 (ty_name t).2) pa_nil rfl) (star_one hs)) (by decide) (by decide) (star_one hs) rfl) fun σ H Q ⟨ρ, r, ρ', k, e, q⟩ => ?_
  obtain ⟨y, e1, e⟩ := Res.bind_eq_ok e
  obtain ⟨d, e2, e⟩ := Res.bind_eq_ok e
  obtain ⟨g, e⟩ := Res.guard_eq_ok e
  cases e
  refine ⟨ρ, y.1, y.2, k, e1, fun v H1 a1 r1 n1 => ⟨v, .ty (tyN t), .type (tyD d), .type (tyN t), tyIs t d, rfl, .ty _, tyX_of (r1.rd a1.ok e2) g, kit_d t d g, ?_⟩⟩
  have := q (.bl (tyIs t d)) H1 a1
  simp only [List.any_cons, List.any_nil, Bool.or_false] at this
  exact this (.bl _) True.intro
def tyVs (ts : List Ty) : List V := ts.map fun t => V.ty (tyN t)
theorem cls_all : ∀ ts : List Ty, PySem.Paired ClsV (tyVs ts) (ts.map fun t => Value.type (tyN t))
  | [] => .nil
  | t :: ts => .cons (.ty _) (cls_all ts)
/-- the names of the types -/
inductive TyNs : List Ty → List Expr → Prop
  | nil : TyNs [] []
  | cons {t : Ty} {ts : List Ty} {p1 : Pos} {es : List Expr} : TyNs ts es → TyNs (t :: ts) (.Name (tyN t) p1 :: es)
def tCk (vs : List V) : TA := fun _ H Q => Q vs H
theorem pa_tys {ts : List Ty} {es : List Expr} (h : TyNs ts es) (hgt : ∀ t ∈ ts, Gl X (tyN t)) (hmt : ∀ t ∈ ts, X.mg (tyN t) = none) : PA X es (tCk (tyVs ts)) := by
  induction h with
  | nil => exact pa_nil
  | @cons t ts p1 es h ih =>
    exact pa_weak (pa_cons (pe_bltn (v := .ty (tyN t)) (hgt t (List.mem_cons_self ..)) (hmt t (List.mem_cons_self ..)) (ty_boot t) rfl (ty_name t).1 (ty_name t).2) (ih (fun t ht => hgt t (List.mem_cons_of_mem _ ht)) fun t ht => hmt t (List.mem_cons_of_mem _ ht)) rfl) fun σ H Q q => q
theorem pe_isT {ts : List Ty} {es : List Expr} {kk : Nat} {pt : Pos} (h : TyNs ts es) (hl : ts.length ≤ 8) (hg : Gl X "isinstance") (hm : X.mg "isinstance" = none) (hgt : ∀ t ∈ ts, Gl X (tyN t)) (hmt : ∀ t ∈ ts, X.mg (tyN t) = none) (ha : PE X a (tRX X fa)) (hs : isStar a = false) :
    PE X (.Call (.Name "isinstance" p) [a, .Tuple es kk pt] [] pos) (tRX X (fIsi ts fa)) := by
  refine pe_weak (pe_callB call_isiT hg hm boot_isinstance (pa_cons ha (pa_cons (pe_tup (pa_tys h hgt hmt)) pa_nil rfl) (star_one hs)) (by decide) (by decide) (star_one hs) rfl) fun σ H Q ⟨ρ, r, ρ', k, e, q⟩ => ?_
  obtain ⟨y, e1, e⟩ := Res.bind_eq_ok e
  obtain ⟨d, e2, e⟩ := Res.bind_eq_ok e
  obtain ⟨g, e⟩ := Res.guard_eq_ok e
  cases e
  refine ⟨ρ, y.1, y.2, k, e1, fun v H1 a1 r1 n1 => ⟨?_, fun b hb => ?_⟩⟩
  · have : (tyVs ts).length = ts.length := by simp [tyVs]
    rw [this]
    exact Nat.le_trans hl (by decide)
  · have a2 := a1.new (u := .tup (tyVs ts)) hb
    refine ⟨v, b, tyVs ts, .type (tyD d), ts.map fun t => Value.type (tyN t), ts.any fun t => tyIs t d, rfl, upd_same, cls_all ts, tyX_of (RdV.grow (.one hb) (r1.rd a1.ok e2)) g, kit_ds d g ts, ?_⟩
    exact q _ _ a2 (.bl _) True.intro
/-! ### methods of lists that change nothing -/
theorem place_ok {x : PyData} : ∀ {ds : List PyData} {j : Nat}, place x ds = some j → ∃ z, ds[j]? = some z ∧ PyData.eqv z x = true ∧ ∀ (m : Nat) (z' : PyData), m < j → ds[m]? = some z' → PyData.eqv z' x = false
  | [], j, h => by cases h
  | y :: ys, j, h => by
    unfold place at h
    split at h
    · rename_i c
      cases h
      exact ⟨y, rfl, c, fun m z' hm => absurd hm (Nat.not_lt_zero m)⟩
    · rename_i c
      cases q : place x ys with
      | none => rw [q] at h; cases h
      | some i =>
        rw [q] at h
        cases h
        obtain ⟨z, h1, h2, h3⟩ := place_ok q
        refine ⟨z, by simpa using h1, h2, fun m z' hm hz => ?_⟩
        cases m with
        | zero =>
          simp at hz
          subst hz
          simpa using c
        | succ m => exact h3 m z' (Nat.lt_of_succ_lt_succ hm) (by simpa using hz)
theorem intsOf_count {ds : List PyData} {is : List Int} (h : intsOf ds = some is) : ds = is.map .int := intsOf_eq h
def meOk : Me → Bool
  | .index => true
  | _ => false
def rMe (P : Program) (w : World) (K : PySem.W.Frag) (m : Me) : V → List V → Hp → VK → Prop := fun x xs H Q => ∃ d ds sl, RdV P w K H x d ∧ PySem.W.EachIs (RdV P w K H) xs ds ∧ meR m d ds = .ok sl ∧ ∀ v H', Mk P w K H H' v sl → Q v H'
theorem opMe (hu : X.A.units + 70 < cLine) (m : Me) (hm : meOk m = true) : MtR X "list.index" (rMe X.prog X.w X.K .index) := by
  intro pins s σ H x xs v us Q I rx rxs h
  obtain ⟨d, ds, sl, hx, hxs, e, q⟩ := h
  cases d with
  | list es =>
    cases hxs with
    | nil => cases e
    | @cons y dy ys dys hy hr =>
      cases hr with
      | cons _ _ => cases e
      | nil =>
        obtain ⟨g, e⟩ := Res.guard_eq_ok e
        obtain ⟨j, e1, e⟩ := Res.bind_eq_ok e
        cases e
        simp only [Bool.and_eq_true] at g
        obtain ⟨z, z1, z2, z3⟩ := place_ok (Res.get_eq_ok e1)
        have hd := hx.dp (shp_lay g.2)
        obtain ⟨a, vs, rfl, h1, h2⟩ := hx.list
        exact mt_indexD (by omega) pins s σ H _ _ v us Q I rx rxs ⟨a, y, dy, es, j, z, rfl, rfl, hd, hy.dp (shp_lay g.1), g.2, g.1, z1, z2, z3, q _ _ (Mk.old (.int _))⟩
  | _ => cases e
def tyRd (P : Program) (w : World) (K : PySem.W.Frag) (x : V) (H : Hp) : Prop := ∃ ds, RdV P w K H x (.list ds)
theorem tyRd_ok : TyOk X "list" (tyRd X.prog X.w X.K) := by
  intro pins σ H s x v I rx ⟨ds, h⟩
  obtain ⟨a, vs, rfl, h1, h2⟩ := h.list
  exact tyV_is I rx (.inl ⟨rfl, vs, h1⟩)
def fMe (m : Me) (fo : Rho → Res (Rv × Rho)) (fr : Rho → Res (List Rv × Rho)) (ρ : Rho) : Res (Rv × Rho) := (fo ρ).bind fun p => (rd p.2 p.1).bind fun x0 => Res.guard (kindM m x0) ((fr p.2).bind fun q => (rd q.2 p.1).bind fun x => (rds q.2 q.1).bind fun ds =>
  (meR m x ds).bind fun s => .ok (.val s, q.2))
theorem tmg {m : Me} {fo : Rho → Res (Rv × Rho)} {ty : V → Hp → Prop} (hty : ∀ {H v d}, RdV X.prog X.w X.K H v d → kindM m d = true → ty v H) {σ : L2.St} {H : Hp} {Q : VK} (h : tRX X (fMe m fo fr) σ H Q) : tMG ty (rMe X.prog X.w X.K m) (tRX X fo) (tAX X fr) σ H Q := by
  obtain ⟨ρ, r, ρ', k, e, q⟩ := h
  obtain ⟨p, e1, e⟩ := Res.bind_eq_ok e
  obtain ⟨x0, e2, e⟩ := Res.bind_eq_ok e
  obtain ⟨g, e⟩ := Res.guard_eq_ok e
  obtain ⟨y, e3, e⟩ := Res.bind_eq_ok e
  obtain ⟨x, e4, e⟩ := Res.bind_eq_ok e
  obtain ⟨ds, e5, e⟩ := Res.bind_eq_ok e
  obtain ⟨sl, e6, e⟩ := Res.bind_eq_ok e
  cases e
  refine ⟨ρ, p.1, p.2, k, e1, fun v H1 a1 r1 n1 => ⟨hty (r1.rd a1.ok e2) g, p.2, y.1, y.2, a1.ok, e3, fun vs H2 a2 r2 n2 ap2 => ⟨x, ds, sl, (r1.keep a1.ok a2.fr a2.sub).rd a2.ok e4, r2.rds a2.ok e5, e6, fun v H' m => ?_⟩⟩⟩
  obtain ⟨m1, m2, m3⟩ := m.rv (a1.trans a2)
  exact q _ _ m1 m2 m3
theorem pe_ind {o : Expr} {fo : Rho → Res (Rv × Rho)} {apos cpos : Pos} (hu : X.A.units + 70 < cLine) (ho : PE X o (tRX X fo)) (ha : PA X [e] (tAX X fr)) (hs : isStar e = false) (hbase : attributeBase o "index" X.env (eval o X.env) = eval o X.env) (hline : (apos.endLine == cpos.line) = true) :
    PE X (.Call (.Attribute o "index" apos) [e] [] cpos) (tRX X (fMe .index fo fr)) :=
  pe_weak (pe_mG tyRd_ok F.plainAttrs_list F.slot_list_index F.type_list_index (opMe hu .index rfl) ho ha hbase (by rw [star_one hs]; rfl) hline (star_one hs) rfl) fun σ H Q h => tmg (ty := tyRd X.prog X.w X.K) (fun {H v d} h g => by
    cases d with
    | list ds => exact ⟨ds, h⟩
    | _ => cases g) h
/-! ### an object written -/
theorem keep_upd {H : Hp} {a : Addr} {u u2 : HO} (h : H a = some u) (wr : Wr u) : Keep H (upd H a u2) := by
  refine ⟨fun b xs e => ?_, fun b ob v e => ?_⟩
  · rw [upd_ne]
    · exact e
    · rintro rfl; rw [h] at e; cases e; exact wr.elim
  · rw [upd_ne]
    · exact e
    · rintro rfl; rw [h] at e; cases e; exact wr.elim
section
variable {P : Program} {w : World} {K : PySem.W.Frag} {H : Hp} {σ : L2.St} {ρ : Rho}
/-- one that no slot owns -/
theorem Ok.upd (k : Ok P w K H σ ρ) {a : Addr} {u u2 : HO} (h : H a = some u) (wr : Wr u) (n : ¬ Ow σ ρ a) : Ok P w K (L2.upd H a u2) σ ρ := by
  refine ⟨fun i z => ?_, k.sep, k.len⟩
  obtain ⟨v, e, r⟩ := k.rep i z
  refine ⟨v, e, ?_⟩
  cases q : gt ρ i with
  | un => exact True.intro
  | shr d => rw [q] at r; exact Rp.keep (keep_upd h wr) r
  | own x =>
    rw [q] at r
    obtain ⟨b, eb, r⟩ := r
    refine ⟨b, eb, r.keep (keep_upd h wr) fun u' z' => ?_⟩
    rw [upd_ne]
    · exact z'
    · rintro rfl
      exact n ⟨i, ⟨x, q⟩, by rw [e, eb]⟩
theorem Ok.wr (k : Ok P w K H σ ρ) {i : Nat} {a : Addr} {o o' : Ob} {u : HO} (hi : gt ρ i = .own o) (hv : σ[i]? = some (some (.ref a))) (h : OwnAt P w K (L2.upd H a u) a o') :
    Pst P w K σ ρ H (ρ.set i (.own o')) (L2.upd H a u) := by
  obtain ⟨o1, e1, q1⟩ := k.owI ⟨⟨o, hi⟩, hv⟩
  obtain ⟨u0, e0, wr⟩ := q1.wr
  have hl : i < ρ.length := gt_lt (fun z => by rw [hi] at z; cases z)
  have sub : Sub ρ (ρ.set i (.own o')) := ⟨List.length_set .., fun j x z => by
    rw [gt_set] at z
    split at z
    · rename_i c; rw [← c.1]; exact ⟨o, hi⟩
    · exact ⟨x, z⟩⟩
  refine ⟨fun b v e n => ?_, ⟨fun j z => ?_, fun j j' b h1 h2 => ?_, by rw [List.length_set]; exact k.len⟩, sub, fun b => upd_none⟩
  · rw [upd_ne]
    · exact e
    · rintro rfl; exact n ⟨i, ⟨o, hi⟩, hv⟩
  · rw [gt_set] at z ⊢
    split
    · rename_i c
      rw [← c.1]
      exact ⟨_, hv, a, rfl, h⟩
    · rename_i c
      rw [if_neg c] at z
      obtain ⟨v, e, r⟩ := k.rep j z
      refine ⟨v, e, ?_⟩
      cases q : gt ρ j with
      | un => exact True.intro
      | shr d => rw [q] at r; exact Rp.keep (keep_upd e0 wr) r
      | own x =>
        rw [q] at r
        obtain ⟨b, rfl, r⟩ := r
        refine ⟨b, rfl, r.keep (keep_upd e0 wr) fun u' z' => ?_⟩
        rw [upd_ne]
        · exact z'
        · rintro rfl
          exact c ⟨k.sep i j b ⟨⟨o, hi⟩, hv⟩ ⟨⟨x, q⟩, e⟩, hl⟩
  · exact k.sep j j' b ⟨let ⟨x, z⟩ := h1.1; sub.own j x z, h1.2⟩ ⟨let ⟨x, z⟩ := h2.1; sub.own j' x z, h2.2⟩
/-- where the name at i stands -/
theorem Ok.at (k : Ok P w K H σ ρ) {i : Nat} {o : Ob} (hi : gt ρ i = .own o) : ∃ a, σ[i]? = some (some (.ref a)) ∧ OwnAt P w K H a o := by
  obtain ⟨v, e, r⟩ := k.rep i (fun z => by rw [hi] at z; cases z)
  rw [hi] at r
  obtain ⟨a, rfl, q⟩ := r
  exact ⟨a, e, q⟩
end
/-! ### methods that change the thing of a name -/
def fMut (m : Mu) (i : Nat) (fl : Rho → Res (List PyData × Rho)) (ρ : Rho) : Res (Rv × Rho) := Res.guard (kindU m (gt ρ i)) ((fl ρ).bind fun p => match gt p.2 i with
  | .own o => (mutR m o p.1).bind fun r => .ok (.val r.1, p.2.set i (.own r.2))
  | _ => .bad)
theorem pe_app {i : Nat} {x : Str} {pn apos cpos : Pos} (hN : X.N[i]? = some x) (hv : Vis X.env.scope x) (hd : (x == ("__debug__" : Str)) = false) (hcd : (x == ("__classdict__" : Str)) = false)
    (ha : PA X [e] (tLX X fl)) (hs : isStar e = false) (hbase : attributeBase (.Name x pn) "append" X.env (eval (.Name x pn) X.env) = eval (.Name x pn) X.env) (hline : (apos.endLine == cpos.line) = true) :
    PE X (.Call (.Attribute (.Name x pn) "append" apos) [e] [] cpos) (tRX X (fMut .append i fl)) := by
  refine pe_weak (pe_mG (id := "list.append") (r := rAppend) tyRd_ok F.plainAttrs_list F.slot_list_append F.type_list_append mt_append (pe_var hN hv hd hcd) ha hbase (by rw [star_one hs]; rfl) hline (star_one hs) rfl) fun σ H Q ⟨ρ, r, ρ', k, e, q⟩ => ?_
  obtain ⟨g, e⟩ := Res.guard_eq_ok e
  obtain ⟨p, e1, e⟩ := Res.bind_eq_ok e
  cases h0 : gt ρ i with
  | own o0 =>
    rw [h0] at g
    cases o0 with
    | lst es0 =>
      obtain ⟨a, hσ, q0⟩ := k.at h0
      refine ⟨_, hσ, ⟨es0, .inr ⟨a, _, rfl, q0, rfl⟩⟩, ρ, p.1, p.2, k, e1, fun vs H1 a1 r1 => ?_⟩
      cases h1 : gt p.2 i with
      | own o =>
        simp only [h1] at e
        obtain ⟨y, e2, e⟩ := Res.bind_eq_ok e
        cases e
        cases o with
        | dct _ => cases hp : p.1 <;> simp [mutR, hp] at e2
        | lst ds =>
          cases hp : p.1 with
          | nil => simp [mutR, hp] at e2
          | cons d dr =>
            rw [hp] at e2 r1
            cases dr with
            | cons _ _ => simp [mutR] at e2
            | nil =>
              obtain ⟨g2, e2⟩ := Res.guard_eq_ok e2
              cases e2
              have g3 := of_decide_eq_true g2
              rw [lim_line] at g3
              cases r1 with
              | @cons vv _ _ _ rv rr =>
                cases rr
                obtain ⟨a2, hσ2, xs, hx, rx⟩ := a1.ok.at h1
                rw [hσ] at hσ2
                cases hσ2
                refine ⟨a, xs, _, rfl, rfl, hx, by rw [rx.length]; exact g3, ?_⟩
                have kp := keep_upd (u2 := .lst (xs ++ [vv])) hx True.intro
                have w1 := a1.ok.wr h1 hσ (o' := .lst (ds ++ [d])) ⟨_, upd_same, (rx.keep kp).append (.cons (rv.keep kp) .nil)⟩
                exact q _ _ (a1.trans w1) .non True.intro
      | _ => simp [h1] at e
    | dct _ => cases g
  | _ => rw [h0] at g; cases g
end
end Rt
set_option maxRecDepth 100000
set_option maxHeartbeats 4000000
namespace Rt
open PySem PySem.Spec PyProof.Rows L2
/-! ### what a def promises -/
section
variable (P : Program) (w : World) (K : PySem.W.Frag)
/-- the arguments stand for the slots; what is owned stands apart -/
structure ArgOk (H : Hp) (vs : List V) (ss : List Sl) : Prop where
  len : vs.length = ss.length
  rep : ∀ (i : Nat) (v : V) (s : Sl), vs[i]? = some v → ss[i]? = some s → s ≠ .un ∧ RpS P w K H v s
  sep : ∀ (i j : Nat) (a : Addr) (o o' : Ob), ss[i]? = some (.own o) → ss[j]? = some (.own o') → vs[i]? = some (.ref a) → vs[j]? = some (.ref a) → i = j
def OwA (vs : List V) (ss : List Sl) (a : Addr) : Prop := ∃ (i : Nat) (o : Ob), ss[i]? = some (.own o) ∧ vs[i]? = some (.ref a)
/-- behind the call -/
structure Aft (H : Hp) (vs : List V) (ss : List Sl) (H' : Hp) (v : V) (s : Sl) (ss' : List Sl) : Prop where
  fr : ∀ a u, H a = some u → ¬ OwA vs ss a → H' a = some u
  trk : ∀ a, H' a = none → H a = none
  len : ss'.length = ss.length
  rep : ∀ (i : Nat) (v : V) (s : Sl), vs[i]? = some v → ss'[i]? = some s → s ≠ .un ∧ RpS P w K H' v s
  own : ∀ (i : Nat) (o : Ob), ss'[i]? = some (.own o) → ∃ o' : Ob, ss[i]? = some (.own o')
  res : s ≠ .un ∧ RpS P w K H' v s
  nw : ∀ o a, s = .own o → v = .ref a → H a = none
def spF (np : Nat) (f : List Sl → Res (Sl × List Sl)) : Sp := fun vs H Q _ => ∃ ss r, ss.length = np ∧ f ss = .ok r ∧ ArgOk P w K H vs ss ∧ ∀ v H', Aft P w K H vs ss H' v r.1 r.2 → Q v H'
end
/-! ### the slots of a call -/
section
variable {P : Program} {w : World} {K : PySem.W.Frag} {H H1 H' : Hp} {σ : L2.St} {ρ ρ1 : Rho}
theorem RVs.len {vs : List V} {rs : List Rv} (h : RVs P w K H σ ρ vs rs) : vs.length = rs.length := by
  induction h with
  | nil => rfl
  | cons _ _ ih => simp [ih]
theorem RVs.get {vs : List V} {rs : List Rv} (h : RVs P w K H σ ρ vs rs) : ∀ {i : Nat} {v : V} {r : Rv}, vs[i]? = some v → rs[i]? = some r → RV P w K H σ ρ v r := by
  induction h with
  | nil => intro i v r h1; simp at h1
  | cons h _ ih =>
    intro i v r h1 h2
    cases i with
    | zero => simp at h1 h2; subst h1 h2; exact h
    | succ i => exact ih (by simpa using h1) (by simpa using h2)
theorem mem_nams : ∀ {rs : List Rv} {k : Nat} {i : Nat}, rs[k]? = some (.nam i) → i ∈ nams rs
  | [], k, i, h => by simp at h
  | r :: rs, 0, i, h => by simp at h; subst h; simp [nams]
  | r :: rs, k + 1, i, h => by
    have := mem_nams (rs := rs) (k := k) (i := i) (by simpa using h)
    cases r <;> simp [nams, this]
theorem nams_inj : ∀ {rs : List Rv} {k j i : Nat}, (nams rs).Nodup → rs[k]? = some (.nam i) → rs[j]? = some (.nam i) → k = j
  | [], k, j, i, _, h, _ => by simp at h
  | r :: rs, 0, 0, i, _, _, _ => rfl
  | r :: rs, 0, j + 1, i, n, h1, h2 => by
    simp at h1 h2
    subst h1
    have := mem_nams (rs := rs) (k := j) (i := i) h2
    simp [nams] at n
    exact absurd this n.1
  | r :: rs, k + 1, 0, i, n, h1, h2 => by
    simp at h1 h2
    subst h2
    have := mem_nams (rs := rs) (k := k) (i := i) h1
    simp [nams] at n
    exact absurd this n.1
  | r :: rs, k + 1, j + 1, i, n, h1, h2 => by
    have n2 : (nams rs).Nodup := by
      cases r with
      | nam m => simp [nams] at n; exact n.2
      | val _ => exact n
    exact congrArg (· + 1) (nams_inj n2 (by simpa using h1) (by simpa using h2))
theorem apart_get : ∀ {vs : List V} {rs : List Rv}, Apart vs rs → ∀ {i j : Nat} {o o' : Ob} {a : Addr}, rs[i]? = some (.val (.own o)) → rs[j]? = some (.val (.own o')) → vs[i]? = some (.ref a) → vs[j]? = some (.ref a) → i = j
  | [], _, _, i, j, o, o', a, _, _, h, _ => by simp at h
  | v :: vs, [], _, i, j, o, o', a, h, _, _, _ => by simp at h
  | v :: vs, r :: rs, _, 0, 0, _, _, _, _, _, _, _ => rfl
  | v :: vs, r :: rs, ap, 0, j + 1, o, o', a, h1, h2, h3, h4 => by
    simp at h1 h2 h3 h4
    subst h1 h3
    exact absurd h4 (ap.1 j o' h2)
  | v :: vs, r :: rs, ap, i + 1, 0, o, o', a, h1, h2, h3, h4 => by
    simp at h1 h2 h3 h4
    subst h2 h4
    exact absurd h3 (ap.1 i o h1)
  | v :: vs, r :: rs, ap, i + 1, j + 1, o, o', a, h1, h2, h3, h4 => by
    have ap2 : Apart vs rs := by
      cases r with
      | nam m => exact ap
      | val s =>
        cases s with
        | own x => exact ap.2
        | _ => exact ap
    exact congrArg (· + 1) (apart_get ap2 (o := o) (o' := o') (by simpa using h1) (by simpa using h2) (by simpa using h3) (by simpa using h4))
theorem backS_len : ∀ (rs : List Rv) (ss : List Sl) (ρ : Rho), (backS rs ss ρ).length = ρ.length
  | [], _, ρ => by simp [backS]
  | .nam i :: rs, [], ρ => by simp [backS]
  | .nam i :: rs, s :: ss, ρ => by simp [backS, backS_len rs ss]
  | .val _ :: rs, [], ρ => by simp [backS]
  | .val _ :: rs, s :: ss, ρ => by simp [backS, backS_len rs ss]
theorem backS_get : ∀ (rs : List Rv) (ss : List Sl) (ρ : Rho) (i : Nat), rs.length = ss.length → (nams rs).Nodup →
    (∃ (k : Nat) (s : Sl), rs[k]? = some (Rv.nam i) ∧ ss[k]? = some s ∧ (i < ρ.length → gt (backS rs ss ρ) i = s)) ∨ ((∀ k : Nat, rs[k]? ≠ some (Rv.nam i)) ∧ gt (backS rs ss ρ) i = gt ρ i)
  | [], _, ρ, i, _, _ => .inr ⟨fun k => by simp, by simp [backS]⟩
  | r :: rs, [], ρ, i, h, _ => by simp at h
  | r :: rs, s :: ss, ρ, i, h, n => by
    have hl : rs.length = ss.length := by simpa using h
    have n2 : (nams rs).Nodup := by
      cases r with
      | nam m => simp [nams] at n; exact n.2
      | val _ => exact n
    cases r with
    | val x =>
      rcases backS_get rs ss ρ i hl n2 with ⟨k, s', h1, h2, h3⟩ | ⟨h1, h2⟩
      · exact .inl ⟨k + 1, s', by simpa using h1, by simpa using h2, h3⟩
      · refine .inr ⟨fun k => ?_, h2⟩
        cases k with
        | zero => simp
        | succ k => simpa using h1 k
    | nam m =>
      rcases backS_get rs ss (ρ.set m s) i hl n2 with ⟨k, s', h1, h2, h3⟩ | ⟨h1, h2⟩
      · exact .inl ⟨k + 1, s', by simpa using h1, by simpa using h2, fun hi => h3 (by simpa using hi)⟩
      · by_cases c : m = i
        · subst c
          refine .inl ⟨0, s, rfl, rfl, fun hi => ?_⟩
          show gt (backS rs ss (ρ.set m s)) m = s
          rw [h2, gt_set, if_pos ⟨rfl, hi⟩]
        · refine .inr ⟨fun k => ?_, ?_⟩
          · cases k with
            | zero => simp [c]
            | succ k => simpa using h1 k
          · show gt (backS rs ss (ρ.set m s)) i = gt ρ i
            rw [h2, gt_set, if_neg fun z => c z.1]
theorem argS_own {rs : List Rv} {k : Nat} {o : Ob} (h : (rs.map (argS ρ))[k]? = some (.own o)) : rs[k]? = some (.val (.own o)) ∨ ∃ i, rs[k]? = some (.nam i) ∧ gt ρ i = .own o := by
  rw [List.getElem?_map] at h
  cases q : rs[k]? with
  | none => rw [q] at h; cases h
  | some r =>
    rw [q] at h
    have e := Option.some.inj h
    cases r with
    | val s => exact .inl (by rw [show s = .own o from e])
    | nam i => exact .inr ⟨i, rfl, e⟩
/-- the arguments of a call -/
theorem args_ok (k : Ok P w K H σ ρ) {vs : List V} {rs : List Rv} (r : RVs P w K H σ ρ vs rs) (ap : Apart vs rs) (nd : (nams rs).Nodup) (hu : (rs.map (argS ρ)).all (fun s => !isUn s) = true) : ArgOk P w K H vs (rs.map (argS ρ)) := by
  have own : ∀ {i : Nat} {o : Ob} {a : Addr}, (rs.map (argS ρ))[i]? = some (.own o) → vs[i]? = some (.ref a) → (rs[i]? = some (.val (.own o)) ∧ ¬ Ow σ ρ a) ∨ ∃ j, rs[i]? = some (.nam j) ∧ OwI σ ρ j a := by
    intro i o a h1 h2
    rcases argS_own h1 with e | ⟨j, e1, e2⟩
    · obtain ⟨b, eb, _, n⟩ := r.get h2 e
      cases eb
      exact .inl ⟨e, n⟩
    · exact .inr ⟨j, e1, ⟨o, e2⟩, r.get h2 e1⟩
  refine ⟨by rw [List.length_map]; exact r.len, fun i v s h1 h2 => ⟨fun z => ?_, ?_⟩, fun i j a o o' h1 h2 h3 h4 => ?_⟩
  · subst z
    have := List.all_eq_true.mp hu _ (List.mem_of_getElem? h2)
    cases this
  · rw [List.getElem?_map] at h2
    cases q : rs[i]? with
    | none => rw [q] at h2; cases h2
    | some x =>
      rw [q] at h2
      have e := Option.some.inj h2
      have rv := r.get h1 q
      cases x with
      | val s' =>
        have e : s' = s := e
        subst e
        cases s' with
        | un => exact rv.elim
        | shr d => exact rv
        | own o => obtain ⟨a, e1, e2, _⟩ := rv; exact ⟨a, e1, e2⟩
      | nam j =>
        have e : gt ρ j = s := e
        subst e
        by_cases z : gt ρ j = .un
        · rw [z]; exact True.intro
        · obtain ⟨u, e1, e2⟩ := k.rep j z
          rw [show σ[j]? = some (some v) from rv] at e1
          cases e1
          exact e2
  · rcases own h1 h3 with ⟨e1, n1⟩ | ⟨x, e1, w1⟩
    · rcases own h2 h4 with ⟨e2, n2⟩ | ⟨y, e2, w2⟩
      · exact apart_get ap e1 e2 h3 h4
      · exact absurd ⟨y, w2⟩ n1
    · rcases own h2 h4 with ⟨e2, n2⟩ | ⟨y, e2, w2⟩
      · exact absurd ⟨x, w1⟩ n2
      · have := k.sep x y a w1 w2
        subst this
        exact nams_inj nd e1 e2
/-- behind the call -/
theorem aft_ok {H0 : Hp} {ρ0 : Rho} (a0 : Pst P w K σ ρ0 H0 ρ H) {vs : List V} {rs : List Rv} (r : RVs P w K H σ ρ vs rs) (nw : Nws H0 vs rs) (nd : (nams rs).Nodup) {v : V} {s : Sl} {ss' : List Sl}
    (f : Aft P w K H vs (rs.map (argS ρ)) H' v s ss') : Pst P w K σ ρ0 H0 (backS rs ss' ρ) H' ∧ RV P w K H' σ (backS rs ss' ρ) v (.val s) ∧ Nw H0 v (.val s) := by
  have k := a0.ok
  have hl : rs.length = ss'.length := by have := f.len; simp at this; exact this.symm
  have ownA : ∀ {a : Addr}, OwA vs (rs.map (argS ρ)) a → Ow σ ρ a ∨ H0 a = none := by
    rintro a ⟨i, o, h1, h2⟩
    rcases argS_own h1 with e | ⟨j, e1, e2⟩
    · exact .inr (nws_get nw e h2)
    · exact .inl ⟨j, ⟨o, e2⟩, r.get h2 e1⟩
  have sub : Sub ρ (backS rs ss' ρ) := by
    refine ⟨backS_len .., fun i o z => ?_⟩
    rcases backS_get rs ss' ρ i hl nd with ⟨m, s', h1, h2, h3⟩ | ⟨h1, h2⟩
    · by_cases hi : i < ρ.length
      · rw [h3 hi] at z
        subst z
        obtain ⟨o', e⟩ := f.own m o h2
        rcases argS_own e with e | ⟨j, e1, e2⟩
        · rw [h1] at e; cases e
        · rw [h1] at e1; cases e1; exact ⟨o', e2⟩
      · have : gt (backS rs ss' ρ) i = .un := by
          unfold gt
          rw [List.getD_eq_getElem?_getD, List.getElem?_eq_none (by rw [backS_len]; omega)]
          rfl
        rw [this] at z; cases z
    · exact ⟨o, by rw [← h2]; exact z⟩
  have tupk : ∀ a u, H a = some u → ¬ Wr u → H' a = some u := fun a u e n => f.fr a u e fun ⟨i, o, h1, h2⟩ => by
    rcases argS_own h1 with e2 | ⟨j, e1, e2⟩
    · obtain ⟨b, eb, q, _⟩ := r.get h2 e2
      cases eb
      obtain ⟨u2, e3, wr⟩ := q.wr
      rw [e] at e3; cases e3; exact n wr
    · obtain ⟨u2, e3, wr⟩ := k.ow ⟨j, ⟨o, e2⟩, r.get h2 e1⟩
      rw [e] at e3; cases e3; exact n wr
  have kp : Keep H H' := ⟨fun a xs e => tupk a _ e fun z => z, fun a o u e => tupk a _ e fun z => z⟩
  have ok : Ok P w K H' σ (backS rs ss' ρ) := by
    refine ⟨fun i z => ?_, fun i j a h1 h2 => k.sep i j a ⟨let ⟨x, q⟩ := h1.1; sub.own i x q, h1.2⟩ ⟨let ⟨x, q⟩ := h2.1; sub.own j x q, h2.2⟩, by rw [backS_len]; exact k.len⟩
    have hi : i < ρ.length := by have := gt_lt z; rwa [backS_len] at this
    rcases backS_get rs ss' ρ i hl nd with ⟨m, s', h1, h2, h3⟩ | ⟨h1, h2⟩
    · rw [h3 hi]
      have hm : m < vs.length := by rw [r.len]; exact (List.getElem?_eq_some_iff.mp h1).1
      have hv : vs[m]? = some vs[m] := List.getElem?_eq_getElem hm
      exact ⟨vs[m], r.get hv h1, (f.rep m _ s' hv h2).2⟩
    · rw [h2] at z ⊢
      obtain ⟨u, e, q⟩ := k.rep i z
      refine ⟨u, e, ?_⟩
      cases c : gt ρ i with
      | un => exact True.intro
      | shr d => rw [c] at q; exact Rp.keep kp q
      | own o =>
        rw [c] at q
        obtain ⟨a, rfl, q⟩ := q
        refine ⟨a, rfl, q.keep kp fun u ea => f.fr a u ea ?_⟩
        rintro ⟨m, o2, g1, g2⟩
        rcases argS_own g1 with e2 | ⟨j, e1, e2⟩
        · obtain ⟨b, eb, _, n⟩ := r.get g2 e2
          cases eb
          exact n ⟨i, ⟨o, c⟩, e⟩
        · have := k.sep i j a ⟨⟨o, c⟩, e⟩ ⟨⟨o2, e2⟩, r.get g2 e1⟩
          subst this
          exact h1 m e1
  have trk : ∀ a, H' a = none → H0 a = none := fun a z => a0.trk a (f.trk a z)
  have nw2 : Nw H0 v (.val s) := by
    cases s with
    | own o => exact fun b e => a0.trk b (f.nw o b rfl e)
    | _ => exact True.intro
  refine ⟨⟨fun a u e n => f.fr a u (a0.fr a u e n) fun z => ?_, ok, a0.sub.trans sub, trk⟩, ?_, nw2⟩
  · rcases ownA z with q | q
    · exact n (a0.sub.ow q)
    · rw [q] at e; cases e
  · obtain ⟨n1, q⟩ := f.res
    cases s with
    | un => exact absurd rfl n1
    | shr d => exact q
    | own o =>
      obtain ⟨a, e, q⟩ := q
      refine ⟨a, e, q, fun z => ?_⟩
      obtain ⟨u, eu, _⟩ := k.ow (sub.ow z)
      rw [f.nw o a rfl e] at eu
      cases eu
end
section
variable {X : Cx} {e : Expr} {es : List Expr} {p pos : Pos} {fr : Rho → Res (List Rv × Rho)}
def fCall (np : Nat) (f : List Sl → Res (Sl × List Sl)) (fr : Rho → Res (List Rv × Rho)) (ρ : Rho) : Res (Rv × Rho) := (fr ρ).bind fun p => Res.guard (decide (nams p.1).Nodup && (p.1.map (argS p.2)).all (fun s => !isUn s))
  ((f (p.1.map (argS p.2))).bind fun r => .ok (.val r.1, backS p.1 r.2 p.2))
/-- the promise holds -/
structure FnGd (X : Cx) (n : Nat) (x : Str) (np : Nat) (f : List Sl → Res (Sl × List Sl)) : Prop where
  ex : ∃ (CX : CXT) (a : Addr) (fd : FuncData) (ps : List Str), X.mg x = some (.ref a) ∧ PySem.W.keepIn X.K (.ref a) = true ∧ FnOk X.prog X.w X.K X.mg X.base CX n a fd ps (spF X.prog X.w X.K np f) ∧ Binds X.K fd ps [] ∧
    ∀ outer H s E e s', ¬ CX outer H s E e s'
  db : (x == ("__debug__" : Str)) = false
theorem pe_fn {n np : Nat} {x : Str} {f : List Sl → Res (Sl × List Sl)} (F : FnGd X n x np f) (hnp : ∀ ss r, f ss = .ok r → ss.length = np) (hr : Room n X.A) (hg : Gl X x) (ha : PA X (e :: es) (tAX X fr)) (hs : noStar (e :: es) = true) :
    PE X (.Call (.Name x p) (e :: es) [] pos) (tRX X (fCall np f fr)) := by
  obtain ⟨CX, a, fd, ps, hm, hk, ho, hb, hx⟩ := F.ex
  have h2 : isStar e = false ∧ noStar es = true := by simpa [noStar] using hs
  refine pe_weak (pe_call (E := fun _ _ _ => False) ho hr hg hm hk hb (.nil : Vals [] []) (fun pins σ H s e s' I z => absurd z (hx _ _ _ _ _ _)) ha F.db (star_one h2.1) (noStar_any h2.2)) fun σ H Q ⟨ρ, r, ρ', k, e, q⟩ => ?_
  obtain ⟨y, e1, e⟩ := Res.bind_eq_ok e
  obtain ⟨g, e⟩ := Res.guard_eq_ok e
  obtain ⟨z, e2, e⟩ := Res.bind_eq_ok e
  cases e
  simp only [Bool.and_eq_true, decide_eq_true_eq] at g
  refine ⟨ρ, y.1, y.2, k, e1, fun vs H1 a1 r1 n1 ap1 => ?_⟩
  show spF X.prog X.w X.K np f (vs ++ []) H1 Q _
  rw [List.append_nil]
  refine ⟨_, z, hnp _ _ e2, e2, args_ok a1.ok r1 ap1 g.1 g.2, fun v H' f => ?_⟩
  obtain ⟨m1, m2, m3⟩ := aft_ok a1 r1 n1 g.1 f
  exact q v H' m1 m2 m3
end
end Rt
set_option maxRecDepth 100000
set_option maxHeartbeats 4000000
namespace Rt
open PySem PySem.Spec PyProof.Rows L2
/-! ### what is walked -/
/-- J hands out the data, whatever else may happen to what is not frozen -/
def Walk (P : Program) (w : World) (K : PySem.W.Frag) (J : It) (H : Hp) (ds : List PyData) : Prop := ∀ H2, Keep H H2 → ∀ i : Nat,
  (ds.length ≤ i → J.stop i H2) ∧ ∀ d, ds[i]? = some d → J.go i H2 ∧ ∀ x H3, J.yld i H2 x H3 → Grow H2 H3 ∧ Rp P w K H3 x d
def tI (P : Program) (w : World) (K : PySem.W.Frag) (f : Rho → Res (List PyData × Rho)) : TI := fun σ H R => ∃ ρ ds ρ', Ok P w K H σ ρ ∧ f ρ = .ok (ds, ρ') ∧ ∀ J H', Pst P w K σ ρ H ρ' H' → Walk P w K J H' ds → R J H'
abbrev tIX (X : Cx) := tI X.prog X.w X.K
theorem Walk.keep {P : Program} {w : World} {K : PySem.W.Frag} {J : It} {H H' : Hp} {ds : List PyData} (h : Walk P w K J H ds) (k : Keep H H') : Walk P w K J H' ds := fun H2 k2 => h H2 (k.trans k2)
section
variable {P : Program} {w : World} {K : PySem.W.Frag} {H : Hp} {a : Addr} {vs : List V} {ds : List PyData}
theorem sqL_inj {xs ys : List V} {o : Obj} (h1 : H a = some (.frz o (.lst xs))) (nk : K.lookup a = none) (h2 : SqL K H a ys) : ys = xs := by
  rcases h2 with (h2 | ⟨o2, h2⟩) | ⟨o2, its, n, h2, _⟩
  · rw [h1] at h2; cases h2
  · rw [h1] at h2; cases h2; rfl
  · rw [nk] at h2; cases h2
end
section
variable {X : Cx} {tg a b e : Expr} {p pos : Pos} {fa fb : Rho → Res (Rv × Rho)} {fl : Rho → Res (List PyData × Rho)} {fr : Rho → Res (List Rv × Rho)}
theorem rngD_get {i j : Int} {m : Nat} {d : PyData} (h : (rngD i j)[m]? = some d) : m < (j - i).toNat ∧ d = .int (i + (m : Int)) := by
  unfold rngD at h
  rw [List.getElem?_map] at h
  by_cases c : m < (j - i).toNat
  · rw [List.getElem?_range c] at h
    exact ⟨c, (Option.some.inj h).symm⟩
  · rw [List.getElem?_eq_none (by rw [List.length_range]; omega)] at h
    cases h
theorem walk_rng {P : Program} {w : World} {K : PySem.W.Frag} {H : Hp} (i j : Int) : Walk P w K (Itr i (j - i).toNat) H (rngD i j) := by
  intro H2 k m
  refine ⟨fun h => ?_, fun d h => ?_⟩
  · have : (rngD i j).length = (j - i).toNat := by simp [rngD]
    rw [this] at h
    exact h
  · obtain ⟨h1, rfl⟩ := rngD_get h
    refine ⟨h1, fun x H3 y => ?_⟩
    obtain ⟨rfl, rfl⟩ := y
    exact ⟨.refl, .int _⟩
theorem pi_r1 (hg : Gl X "range") (hm : X.mg "range" = none) (ha : PE X a (tRX X fa)) (hs : isStar a = false) :
    PI X tg (.Call (.Name "range" p) [a] [] pos) (tIX X fun ρ => (fa ρ).bind fun p => (rd p.2 p.1).bind fun x => match x with
      | .int i => Res.guard (okRng i) (.ok (rngD 0 i, p.2))
      | _ => .bad) := by
  refine ⟨fun pins s σ H R I ⟨ρ, ds, ρ', k, e, q⟩ => (pi_range1 hg hm (pa_cons ha pa_nil (star_one hs)) (star_one hs)).run pins s σ H R I ?_⟩
  obtain ⟨y, e1, e⟩ := Res.bind_eq_ok e
  obtain ⟨x, e2, e⟩ := Res.bind_eq_ok e
  cases x with
  | int i =>
    obtain ⟨g, e⟩ := Res.guard_eq_ok e
    cases e
    have g : -1000000000 ≤ i ∧ i ≤ 1000000000 := by simpa [okRng] using g
    refine ⟨ρ, y.1, y.2, k, e1, fun v H1 a1 r1 n1 => ⟨i, by rw [(r1.rd a1.ok e2).int], by omega, by omega, q _ _ a1 ?_⟩⟩
    have := walk_rng (P := X.prog) (w := X.w) (K := X.K) (H := H1) 0 i
    simpa using this
  | _ => cases e
theorem pi_r2 (hg : Gl X "range") (hm : X.mg "range" = none) (ha : PE X a (tRX X fa)) (hb : PE X b (tRX X fb)) (hs : isStar a = false) (hs2 : isStar b = false) :
    PI X tg (.Call (.Name "range" p) [a, b] [] pos) (tIX X fun ρ => (fa ρ).bind fun p => (fb p.2).bind fun q => (rd q.2 p.1).bind fun x => (rd q.2 q.1).bind fun y => match x, y with
      | .int i, .int j => Res.guard (okRng i && okRng j) (.ok (rngD i j, q.2))
      | _, _ => .bad) := by
  refine ⟨fun pins s σ H R I ⟨ρ, ds, ρ', k, e, q⟩ => (pi_range2 hg hm (pa_cons ha (pa_cons hb pa_nil (star_one hs2)) (star_one hs)) (by rw [star_one hs, star_one hs2]; rfl) (star_one hs2)).run pins s σ H R I ?_⟩
  obtain ⟨y, e1, e⟩ := Res.bind_eq_ok e
  obtain ⟨z, e2, e⟩ := Res.bind_eq_ok e
  obtain ⟨dx, e3, e⟩ := Res.bind_eq_ok e
  obtain ⟨dy, e4, e⟩ := Res.bind_eq_ok e
  cases dx with
  | int i =>
    cases dy with
    | int j =>
      obtain ⟨g, e⟩ := Res.guard_eq_ok e
      cases e
      have g : (-1000000000 ≤ i ∧ i ≤ 1000000000) ∧ -1000000000 ≤ j ∧ j ≤ 1000000000 := by simpa [okRng] using g
      refine ⟨ρ, y.1, y.2, k, e1, fun v H1 a1 r1 n1 => ⟨y.2, z.1, z.2, a1.ok, e2, fun v2 H2 a2 r2 n2 => ⟨i, j, ?_, by omega, q _ _ (a1.trans a2) (walk_rng i j)⟩⟩⟩
      rw [((r1.keep a1.ok a2.fr a2.sub).rd a2.ok e3).int, (r2.rd a2.ok e4).int]
    | _ => cases e
  | _ => cases e
theorem get_lt {α : Type} {ds : List α} {i : Nat} {d : α} (h : ds[i]? = some d) : i < ds.length := (List.getElem?_eq_some_iff.mp h).1
end
/-! ### a dict that is frozen, walked by its keys -/
def Itw (d : Addr) (o : Obj) (vs : List V) : It where
  go := fun i H => (∃ u, H d = some (.frz o u)) ∧ i < vs.length
  yld := fun i H x H' => H' = H ∧ vs[i]? = some x
  stop := fun i H => (∃ u, H d = some (.frz o u)) ∧ vs.length ≤ i
theorem frz_get {X : Cx} {pins : List (Addr × Obj)} {σ : L2.St} {H : Hp} {s : Shared} {d : Addr} {o : Obj} {u : HO} (I : Inv X pins σ H s) (h : H d = some (.frz o u)) : s.heap.get? d = some o := by
  obtain ⟨hd, _⟩ := I.hok d _ h
  exact hd
theorem turn_w {P : Program} {w : World} {K : PySem.W.Frag} {tg : Expr} {d : Addr} {o : Obj} {es : Array DictEntry} {ep : Nat} {vs : List V} (it : Addr) (hod : o.data = .dict es ep) (hv : Vals vs (es.toList.map (·.key))) :
    Turn P w K tg (Itw d o vs) [it] it (fun i h => h.IsKeyIter it d i es.size ep) where
  mem := by simp
  obj := fun i h st b hb => by
    obtain rfl : b = it := by simpa using hb
    obtain ⟨oi, e, _, dd⟩ := st
    exact ⟨oi, e, fun v z => by rw [dd] at z; cases z⟩
  keep := fun i h h' st k => st.at fun oi e => k it (by simp) oi e
  item := by
    intro X hP hw hK hc i pins s σ H E I hf st hg
    subst hP hw hK
    obtain ⟨⟨u, hu⟩, hi⟩ := hg
    obtain ⟨f0, f1, f2, f3, f4, f5⟩ := hf it (by simp)
    have hgd := frz_get I hu
    obtain ⟨key, hk, rk⟩ := hv.get (List.getElem?_eq_getElem hi)
    rw [List.getElem?_map] at hk
    obtain ⟨en, hen, rfl⟩ := Option.map_eq_some_iff.mp hk
    refine next_key_item st hgd hod rfl (by simpa using hen) fun h' st' sb => ?_
    have I1 : Inv X pins σ H { s with heap := h' } := I.turned (t' := s.toks) (fun b ob hb e => (sb.2 b hb).trans e) f0 f1 f3 f4 f5
    obtain ⟨oi, e, c, dd⟩ := id st'
    exact ⟨en.key, rfl, go_of (s := { s with heap := h' }) e c dd (by decide) ⟨vs[i], H, I1, rk, ⟨rfl, List.getElem?_eq_getElem hi⟩, st', fun b hb => (hf b hb).1⟩⟩
  done := by
    intro X hP hw hK hc i pins s σ H E I hf st hg
    subst hP hw hK
    obtain ⟨⟨u, hu⟩, hi⟩ := hg
    obtain ⟨f0, f1, f2, f3, f4, f5⟩ := hf it (by simp)
    have hgd := frz_get I hu
    have hl := hv.length
    have hl2 : es.toList.length = es.size := Array.length_toList ..
    rw [List.length_map] at hl
    exact next_key_end (I.ok.hd hc) st hgd hod rfl (by omega) fun h' eb => ⟨rfl, I.turned (t' := s.toks) (fun b ob hb e => eb b ob hb e) f0 f1 f3 f4 f5⟩
  self := fun A i s Q E st h => wpAny_pyIter_keyiter st h
theorem walk_w {P : Program} {w : World} {K : PySem.W.Frag} {H : Hp} {d : Addr} {o : Obj} {u : HO} {vs : List V} {ds : List PyData} (h : H d = some (.frz o u)) (r : RpAll P w K H vs ds) : Walk P w K (Itw d o vs) H ds := by
  intro H2 kp i
  have hf := kp.frz _ _ _ h
  refine ⟨fun hi => ⟨⟨u, hf⟩, by rw [r.length]; exact hi⟩, fun d hd => ?_⟩
  obtain ⟨z, hz, rz⟩ := r.get hd
  refine ⟨⟨⟨u, hf⟩, get_lt hz⟩, fun x H3 yy => ?_⟩
  obtain ⟨rfl, yy⟩ := yy
  rw [hz] at yy
  cases yy
  exact ⟨.refl, rz.keep kp⟩
section
variable {X : Cx} {tg e : Expr} {fa : Rho → Res (Rv × Rho)}
theorem pi_dk (ha : PE X e (tRX X fa)) : PI X tg e (tIX X fun ρ => (fa ρ).bind fun p => (stl p.2 p.1).bind fun x => match x.1 with
    | .dict kvs => .ok (kvs.map (·.1), x.2)
    | _ => .bad) := by
  have hS := pe_stl ha
  refine ⟨fun pins s σ H R I ⟨ρ, ds, ρ', k, e, q⟩ => ?_⟩
  obtain ⟨y, e1, e⟩ := Res.bind_eq_ok e
  obtain ⟨x, e2, e⟩ := Res.bind_eq_ok e
  have ef : ((fa ρ).bind fun p => stl p.2 p.1) = .ok (x.1, x.2) := by rw [e1]; exact e2
  cases hx : x.1 with
  | dict kvs =>
    rw [hx] at e ef
    cases e
    refine thn (hS.run pins s σ H (fun v H1 => Pst X.prog X.w X.K σ ρ H x.2 H1 ∧ Rp X.prog X.w X.K H1 v (.dict kvs)) I ⟨ρ, _, _, k, ef, fun v H1 a1 r1 => ⟨a1, r1⟩⟩) fun u s1 ⟨v, H1, I1, rv, a1, r1⟩ => ?_
    obtain ⟨a, o, es, ep, rfl, h1, h2, h3, h4, h5, h6⟩ := dict_raw I1 (.inl r1)
    cases (show u = Value.ref a from rv)
    obtain ⟨vs, hv, hr⟩ := h6.keys
    have hfz : ∃ u, H1 a = some (.frz o u) := by
      cases r1 with
      | dK hf _ =>
        have := frz_get I1 hf
        rw [h1] at this
        cases this
        exact ⟨_, hf⟩
      | dT hf _ _ =>
        have := frz_get I1 hf
        rw [h1] at this
        cases this
        exact ⟨_, hf⟩
    obtain ⟨uu, hfz⟩ := hfz
    exact iter_keys h4 h1 h2 h3 (pi_one (tk := s1.toks) I1 _ (turn_w _ h3 hv) ⟨_, Heap.get?_push_size _ rfl, rfl, rfl⟩ (q _ _ a1 (walk_w hfz hr)))
  | _ => rw [hx] at e; cases e
end
section
variable {X : Cx} {tg a b e : Expr} {p pos : Pos} {fa fb : Rho → Res (Rv × Rho)} {fl : Rho → Res (List PyData × Rho)} {fr : Rho → Res (List Rv × Rho)}
/-- what is read at a is one thing -/
theorem pi_e (ha : PE X e (tRX X fa)) : PI X tg e (tIX X fun ρ => (fa ρ).bind fun p => (stl p.2 p.1).bind fun x => (seqD x.1).bind fun ds => .ok (ds, x.2)) := by
  have hS := pe_stl ha
  refine ⟨fun pins s σ H R I ⟨ρ, ds, ρ', k, e, q⟩ => ?_⟩
  obtain ⟨y, e1, e⟩ := Res.bind_eq_ok e
  obtain ⟨x, e2, e⟩ := Res.bind_eq_ok e
  obtain ⟨es, e3, e⟩ := Res.bind_eq_ok e
  cases e
  have ef : ((fa ρ).bind fun p => stl p.2 p.1) = .ok (x.1, x.2) := by rw [e1]; exact e2
  cases hx : x.1 with
  | list us =>
    rw [hx] at e3 ef
    cases e3
    refine (pi_list hS).run pins s σ H R I ⟨ρ, _, _, k, ef, fun v H1 a1 r1 => ?_⟩
    obtain ⟨b, vs, rfl, h1, h2⟩ := RdV.list (.inl r1)
    refine ⟨b, rfl, ⟨vs, h1⟩, q _ _ a1 fun H2 kp i => ?_⟩
    cases r1 with
    | lst hf hr =>
      rename_i ws
      have hq : SqL X.K H2 b ws := (kp.sqF hf).sqL
      refine ⟨fun hi => ⟨ws, hq, by rw [hr.length]; exact hi⟩, fun d hd => ?_⟩
      obtain ⟨z, hz, rz⟩ := hr.get hd
      refine ⟨⟨ws, z, hq, hz⟩, fun x' H3 yy => ?_⟩
      obtain ⟨rfl, yy⟩ := yy
      have := yy ws hq
      rw [hz] at this
      cases this
      exact ⟨.refl, rz.keep kp⟩
  | tuple us =>
    rw [hx] at e3 ef
    cases e3
    refine (pi_tup hS).run pins s σ H R I ⟨ρ, _, _, k, ef, fun v H1 a1 r1 => ?_⟩
    cases r1 with
    | @tup b ws _ hf hr =>
      refine ⟨b, rfl, ⟨ws, hf⟩, q _ _ a1 fun H2 kp i => ?_⟩
      have hq : SqT X.K H2 b ws := kp.sqT hf
      refine ⟨fun hi => ⟨ws, hq, by rw [hr.length]; exact hi⟩, fun d hd => ?_⟩
      obtain ⟨z, hz, rz⟩ := hr.get hd
      refine ⟨⟨ws, z, hq, hz⟩, fun x' H3 yy => ?_⟩
      obtain ⟨rfl, yy⟩ := yy
      have := yy ws hq
      rw [hz] at this
      cases this
      exact ⟨.refl, rz.keep kp⟩
  | dict us =>
    rw [hx] at e3
    cases e3
    refine (pi_dk ha).run pins s σ H R I ⟨ρ, us.map (·.1), x.2, k, ?_, q⟩
    show (fa ρ).bind _ = _
    rw [e1]
    show (stl y.2 y.1).bind _ = _
    rw [e2]
    show (match x.1 with
      | .dict kvs => Res.ok (kvs.map (fun z : PyData × PyData => z.1), x.2)
      | _ => Res.bad) = _
    rw [hx]
  | _ => rw [hx] at e3; cases e3
end
end Rt
set_option maxRecDepth 100000
set_option maxHeartbeats 4000000
namespace Rt
open PySem PySem.Spec PyProof.Rows L2
open AutoSeq1 (wpAny_loadPart')
/-! ### enumerate(a tuple) -/
abbrev eItT (q : Addr) : Obj := { cls := .type "tuple_iterator", data := .fields #[.ref q, .int 0 0] }
abbrev eEn (j : Addr) : Obj := { cls := .type "enumerate", data := .fields #[.none, .bool false, .ref j, rawInt 0, .none, .none] }
theorem enum_tup_new (q : Addr) (us : Array Value) (m : Nat) (dd : Option Addr) (ss : Array (Option Value)) :
    Meets (Builtin.«enumerate.__new__» ⟨[.type "enumerate", .ref q], []⟩) (fun _ R s => s.heap.get? q = some { cls := .type "tuple", dict := dd, data := .seq us m, slots := ss } ∧
      R (.ok (.ret (.ref (s.heap.push (eItT q)).objs.size))) { s with heap := (s.heap.push (eItT q)).push (eEn s.heap.objs.size) }) :=
  .of_wp fun prog w A R s hh => by
    obtain ⟨hp, gg, dd2, tk, os⟩ := s
    obtain ⟨hq, hh⟩ := hh
    have sub0 := sub_enumerate
    have hT : Heap.IsTuple (Shared.heap ⟨hp, gg, dd2, tk, os⟩) q us := ⟨_, hq, rfl, m, rfl⟩
    wp_walk using wpAny_loadPart' hq
    refine wpAny_stack_any fun st2 => wpAny_pure ?_
    split
    · rename_i c2 _ _ _ _ _
      cases (c2 == Value.type "enumerate")
      · wp_walk using wpAny_loadPart' hq, wpAny_pyIter_tuple hT
        exact ⟨_, rfl, hh⟩
      · wp_walk using wpAny_loadPart' hq, wpAny_pyIter_tuple hT
        exact ⟨_, rfl, hh⟩
    · wp_walk using wpAny_loadPart' hq, wpAny_pyIter_tuple hT
      exact ⟨_, rfl, hh⟩
theorem call_enum_tup {prog : Program} {w : World} {A : Around} {E : Value → Shared → Prop} {s : Shared} {q : Addr} {us : Array Value} {Q : Value → Shared → Prop} (hT : s.heap.IsTuple q us)
    (hQ : ∀ h2, IsEnum h2 (s.heap.objs.size + 1) s.heap.objs.size 0 .none → h2.IsTupleIter s.heap.objs.size q 0 → (∀ b o, s.heap.get? b = some o → h2.get? b = some o) → Q (.ref (s.heap.objs.size + 1)) { s with heap := h2 }) :
    wpAny (model prog w) A (call (.type "enumerate") [.ref q]) Q E s := by
  obtain ⟨⟨c, dd, dt, sl⟩, hq, hc, m, hd⟩ := hT
  have hc : c = .type "tuple" := hc
  have hd : dt = .seq us m := hd
  subst hc hd
  refine callType_new F.called_enumerate (by decide) (F.typeCall_enumerate_1 _) (F.newCall_enumerate_1 _) (fun obj => F.args_object_init_2 obj _) F.entry_enumerate_new (enum_tup_new q us m dd sl) ⟨hq, ?_⟩
  have hz : (s.heap.push (eItT q)).objs.size = s.heap.objs.size + 1 := Heap.size_push ..
  have he : IsEnum ((s.heap.push (eItT q)).push (eEn s.heap.objs.size)) (s.heap.objs.size + 1) s.heap.objs.size 0 .none := by
    have z := Heap.get?_push_size (s.heap.push (eItT q)) (o := eEn s.heap.objs.size) rfl
    rw [hz] at z
    exact z
  show _ ∧ _
  rw [hz]
  exact ⟨⟨_, he, rfl⟩, hQ _ he ⟨_, Heap.get?_push_of_some _ (Heap.get?_push_size _ rfl), rfl, rfl⟩ fun b o x => Heap.get?_push_of_some _ (Heap.get?_push_of_some _ x)⟩
/-- (i, x) for x of the tuple at a -/
def IteT (K : PySem.W.Frag) (a : Addr) : It where
  go := fun i H => ∃ (xs : List V) (x : V), SqT K H a xs ∧ xs[i]? = some x
  yld := fun i H v H' => ∃ T x, v = .ref T ∧ H T = none ∧ H' = upd H T (.tup [.int (i : Nat), x]) ∧ ∀ xs, SqT K H a xs → xs[i]? = some x
  stop := fun i H => ∃ xs : List V, SqT K H a xs ∧ xs.length ≤ i
theorem turn_enumT {P : Program} {w : World} {K : PySem.W.Frag} {elts : List Expr} {kk : Nat} {tpos : Pos} (a e it : Addr) :
    Turn P w K (.Tuple elts kk tpos) (IteT K a) [e, it] e (fun i h => (∃ old, IsEnum h e it ((i : Nat) : Int) old) ∧ h.IsTupleIter it a i ∧ e ≠ it) where
  mem := by simp
  obj := fun i h st b hb => by
    obtain ⟨⟨old, he⟩, ⟨o, ho, hc, hd⟩, hne⟩ := st
    rcases List.mem_cons.mp hb with z | hb
    · rw [z]; exact ⟨_, he, fun v q => nomatch q⟩
    · rw [List.mem_singleton.mp hb]; exact ⟨o, ho, fun v q => by rw [hd] at q; cases q⟩
  keep := fun i h h' st k => let ⟨⟨old, he⟩, hi, hne⟩ := st; ⟨⟨old, k e (by simp) _ he⟩, hi.at fun o q => k it (by simp) o q, hne⟩
  item := by
    intro X hP hw hK hc i pins s σ H E I hf st hg
    subst hP hw hK
    obtain ⟨⟨old, he⟩, hit, hne⟩ := st
    obtain ⟨xs, x, hq, hx⟩ := hg
    obtain ⟨its, rv, pT, hz⟩ := I.tuple hq
    obtain ⟨u, hu, ru⟩ := rv.get hx
    have pT : s.heap.IsTuple a its.toArray := pT
    have hae : e ≠ a := by
      rintro rfl
      obtain ⟨o, ho, hcl, _⟩ := pT
      rw [he] at ho
      cases ho
      exact absurd (show Value.type "enumerate" = Value.type "tuple" from hcl) (by decide +kernel)
    have hai : a ≠ it := by
      rintro rfl
      obtain ⟨o, ho, hcl, _⟩ := pT
      obtain ⟨o2, ho2, hc2, _⟩ := hit
      rw [ho] at ho2
      cases ho2
      rw [hcl] at hc2
      exact absurd hc2 (by decide +kernel)
    have D := Draws.tuple (prog := X.prog) (w := X.w) (A := X.A.in1) (I.ok.hd hc) it a hai its.toArray
    have hel : e < s.heap.objs.size := Heap.lt_size he
    have hil : it < s.heap.objs.size := by obtain ⟨_, q, _⟩ := hit; exact Heap.lt_size q
    have hlt : i < its.toArray.size := by
      have := get_lt hx
      have := rv.length
      simp only [List.size_toArray]
      omega
    refine wpAny_pyNext_enum_itemD D he ⟨hit, pT⟩ hlt hne (by simp [hne, hae]) fun x2 h' tk px ho st' hT hsz hk => ?_
    have hu2 : its.toArray[i]? = some u := by simpa using hu
    rw [hu2] at px
    cases px
    refine ⟨_, rfl, wpAny_letOwnedTupleGo_enum (s := { s with heap := h', toks := tk + 1 }) ho fun h'' he' sb => ?_⟩
    have hT2 : h''.get? s.heap.objs.size = some { cls := .type "tuple", data := .seq #[.int i tk, u] } := (sb.2 _ (Nat.ne_of_gt hel)).trans hT
    have new : ObjOk X.prog X.w (upd H s.heap.objs.size (.tup [.int (i : Nat), x])) h'' s.heap.objs.size (.tup [.int (i : Nat), x]) := ⟨by show 2 ≤ sizeLine; decide, [.int i tk, u], .cons ⟨_, rfl⟩ (.cons ru .nil), ⟨_, hT2, rfl, _, rfl⟩⟩
    have I1 : Inv X pins σ (upd H s.heap.objs.size (.tup [.int (i : Nat), x])) { s with heap := h'', toks := tk + 1 } :=
      I.turnedNew (ch := [e, it]) (fun b ob hb q => (sb.2 b (fun z => hb (by rw [z]; simp))).trans (hk b ob (fun z => hb (by rw [z]; simp)) (fun z => hb (by rw [z]; simp)) q)) hf (Nat.le_refl _) new
    refine ⟨.ref s.heap.objs.size, _, I1, rfl, ⟨_, x, rfl, I.hok.fresh (Nat.le_refl _), rfl, fun ys hy => by rw [I.tuple_inj hy hq]; exact hx⟩, ⟨⟨u, ?_⟩, st'.1.at fun o q => (sb.2 it (Ne.symm hne)).trans q, hne⟩, fun b hb => ?_⟩
    · have e1 : ((i + 1 : Nat) : Int) = (i : Int) + 1 := by omega
      rw [e1]; exact he'
    · have hb2 : b < s.heap.objs.size := by
        rcases List.mem_cons.mp hb with z | hb
        · rw [z]; exact hel
        · rw [List.mem_singleton.mp hb]; exact hil
      rw [upd_ne (Nat.ne_of_lt hb2)]
      exact (hf b hb).1
  done := by
    intro X hP hw hK hc i pins s σ H E I hf st hg
    subst hP hw hK
    obtain ⟨⟨old, he⟩, hit, hne⟩ := st
    obtain ⟨xs, hq, hx⟩ := hg
    obtain ⟨its, rv, pT, hz⟩ := I.tuple hq
    have pT : s.heap.IsTuple a its.toArray := pT
    obtain ⟨f0, f1, f2, f3, f4, f5⟩ := hf it (by simp)
    have hl := rv.length
    have hT : s.TypeIs (.ref e) "enumerate" := ⟨_, he, rfl⟩
    unfold pyNext
    refine wpAny_bind (wpAny_attempt (wpAny_callSpecial?_slot (name := Str.ofString "__next__") hT F.slot_enumerate_next (wpAny_call_entry F.slot_enumerate_next hT F.entry_enumerate_next ?_ (F.args_enumerate_next_1 _))))
    show wpAny _ _ (field (.ref e) 2 >>= _) _ _ _
    refine wpAny_bind (wpAny_field he rfl (x := .ref it) rfl ?_)
    refine wpAny_bind (wpAny_nextOf_tuple_end (A := X.A.in1) (I.ok.hd hc) hit pT (by simp; omega) fun h' x he' hx' => ?_)
    obtain ⟨o, ho, hcl⟩ := hx'
    refine wpAny_bind (wpAny_isInstance (T := "StopIteration") (b := true) ⟨o, ho, hcl⟩ isSubtype_stop ?_)
    exact wpAny_pure ⟨rfl, I.turned (t' := s.toks) (fun b o hb q => he' b o hb q) f0 f1 f3 f4 f5⟩
  self := fun A i s Q E st h => let ⟨⟨_, he⟩, _⟩ := st; wpAny_pyIter_enum he h
def iEnumT (K : PySem.W.Frag) (ta : TA) : TI := fun σ H R => ta σ H fun vs H1 => ∃ a xs, vs = [.ref a] ∧ SqT K H1 a xs ∧ R (IteT K a) H1
theorem pi_enumT {X : Cx} {e : Expr} {ta : TA} {p pos tpos : Pos} {elts : List Expr} {kk : Nat} (hg : Gl X "enumerate") (hm : X.mg "enumerate" = none) (ha : PA X [e] ta) (hs : starEach [e] X.env = [(false, eval e X.env)]) :
    PI X (.Tuple elts kk tpos) (.Call (.Name "enumerate" p) [e] [] pos) (iEnumT X.K ta) := by
  refine ⟨fun pins s σ H R I h => ?_⟩
  refine Call_ (ld_blt I hg hm boot_enumerate (PyProof.Rows.callWith_type1 (thn (ha.run pos pins s σ H _ I h) fun us s1 ⟨vs, H1, I1, r1, a, xs, ex, hq, q⟩ => ?_) hs rfl))
  subst ex
  obtain ⟨u, rfl, ru⟩ := vals1 r1
  cases ru
  obtain ⟨its, rv, pT, hz⟩ := I1.tuple hq
  refine call_enum_tup (show s1.heap.IsTuple a its.toArray from pT) fun h2 he hit hk => wpAny_pyIter_enum he ?_
  have I2 : Inv X pins σ H1 { s1 with heap := h2 } := I1.kept (t' := s1.toks) hk
  refine ⟨s1.heap.objs.size + 1, [s1.heap.objs.size + 1, s1.heap.objs.size], _, _, H1, rfl, I2, turn_enumT a (s1.heap.objs.size + 1) s1.heap.objs.size, ⟨⟨.none, he⟩, hit, Nat.succ_ne_self _⟩, fun b hb => ?_, q⟩
  have hle : s1.heap.objs.size ≤ b := by
    rcases List.mem_cons.mp hb with z | hb
    · rw [z]; exact Nat.le_add_right _ _
    · rw [List.mem_singleton.mp hb]; exact Nat.le_refl _
  exact I1.fpOk hle (I1.hok.fresh hle)
theorem enuD_len : ∀ (n : Nat) (ds : List PyData), (enuD n ds).length = ds.length
  | _, [] => rfl
  | n, d :: ds => by simp [enuD, enuD_len (n + 1) ds]
theorem enuD_get : ∀ {n : Nat} {ds : List PyData} {i : Nat} {d : PyData}, (enuD n ds)[i]? = some d → ∃ z, ds[i]? = some z ∧ d = .tuple [.int (n + i : Nat), z]
  | _, [], i, d, h => by simp [enuD] at h
  | n, x :: ds, 0, d, h => by simp [enuD] at h; exact ⟨x, rfl, h.symm⟩
  | n, x :: ds, i + 1, d, h => by
    obtain ⟨z, h1, h2⟩ := enuD_get (n := n + 1) (ds := ds) (i := i) (d := d) (by simpa [enuD] using h)
    refine ⟨z, by simpa using h1, ?_⟩
    rw [h2, show n + 1 + i = n + (i + 1) by omega]
section
variable {X : Cx} {e : Expr} {p pos tpos : Pos} {elts : List Expr} {kk : Nat} {fa : Rho → Res (Rv × Rho)}
theorem pi_en (hg : Gl X "enumerate") (hm : X.mg "enumerate" = none) (ha : PE X e (tRX X fa)) (hs : isStar e = false) :
    PI X (.Tuple elts kk tpos) (.Call (.Name "enumerate" p) [e] [] pos) (tIX X fun ρ => (fa ρ).bind fun p => (stl p.2 p.1).bind fun x => match x.1 with
      | .list ds => .ok (enuD 0 ds, x.2)
      | .tuple ds => .ok (enuD 0 ds, x.2)
      | _ => .bad) := by
  have hS := pe_stl ha
  have hA : PA X [e] (tCons (tSX X fun ρ => (fa ρ).bind fun p => stl p.2 p.1) tNil) := pa_cons hS pa_nil (star_one hs)
  refine ⟨fun pins s σ H R I ⟨ρ, ds, ρ', k, e, q⟩ => ?_⟩
  obtain ⟨y, e1, e⟩ := Res.bind_eq_ok e
  obtain ⟨x, e2, e⟩ := Res.bind_eq_ok e
  have ef : ((fa ρ).bind fun p => stl p.2 p.1) = .ok (x.1, x.2) := by rw [e1]; exact e2
  cases hx : x.1 with
  | list us =>
    rw [hx] at e ef
    cases e
    refine (pi_enum hg hm hA (star_one hs)).run pins s σ H R I ⟨ρ, _, _, k, ef, fun v H1 a1 r1 => ?_⟩
    cases r1 with
    | @lst b ws _ hf hr =>
      refine ⟨b, ws, rfl, hf.sqL, q _ _ a1 fun H2 kp i => ?_⟩
      have hq : SqL X.K H2 b ws := (kp.sqF hf).sqL
      refine ⟨fun hi => ⟨ws, hq, by rw [enuD_len] at hi; rw [hr.length]; exact hi⟩, fun d hd => ?_⟩
      obtain ⟨z, hz, rfl⟩ := enuD_get hd
      obtain ⟨v, hv, rz⟩ := hr.get hz
      refine ⟨⟨ws, v, hq, hv⟩, fun x' H3 yy => ?_⟩
      obtain ⟨T, x2, rfl, hT, rfl, yy⟩ := yy
      have := yy ws hq
      rw [hv] at this
      cases this
      have g : Grow H2 (upd H2 T (.tup [.int (i : Nat), v])) := .one hT
      exact ⟨g, .tup (.inl (.inl upd_same)) (.cons (by simpa using Rp.int (P := X.prog) (w := X.w) (K := X.K) (i : Int)) (.cons ((rz.keep kp).keep g.keep) .nil))⟩
  | tuple us =>
    rw [hx] at e ef
    cases e
    refine (pi_enumT hg hm hA (star_one hs)).run pins s σ H R I ⟨ρ, _, _, k, ef, fun v H1 a1 r1 => ?_⟩
    cases r1 with
    | @tup b ws _ hf hr =>
      refine ⟨b, ws, rfl, hf, q _ _ a1 fun H2 kp i => ?_⟩
      have hq : SqT X.K H2 b ws := kp.sqT hf
      refine ⟨fun hi => ⟨ws, hq, by rw [enuD_len] at hi; rw [hr.length]; exact hi⟩, fun d hd => ?_⟩
      obtain ⟨z, hz, rfl⟩ := enuD_get hd
      obtain ⟨v, hv, rz⟩ := hr.get hz
      refine ⟨⟨ws, v, hq, hv⟩, fun x' H3 yy => ?_⟩
      obtain ⟨T, x2, rfl, hT, rfl, yy⟩ := yy
      have := yy ws hq
      rw [hv] at this
      cases this
      have g : Grow H2 (upd H2 T (.tup [.int (i : Nat), v])) := .one hT
      exact ⟨g, .tup (.inl (.inl upd_same)) (.cons (by simpa using Rp.int (P := X.prog) (w := X.w) (K := X.K) (i : Int)) (.cons ((rz.keep kp).keep g.keep) .nil))⟩
  | _ => rw [hx] at e; cases e
end
end Rt
set_option maxRecDepth 100000
set_option maxHeartbeats 4000000
namespace Rt
open PySem PySem.Spec PyProof.Rows L2
/-! ### targets -/
mutual
def tgs : Tg → List Nat
  | .v i => [i]
  | .nil => []
  | .cons t ts => tgs t ++ tgs ts
end
/-- behind a store of targets -/
structure TgR (P : Program) (w : World) (K : PySem.W.Frag) (H : Hp) (is : List Nat) (σ : L2.St) (ρ : Rho) (σ' : L2.St) (ρ' : Rho) : Prop where
  ok : Ok P w K H σ' ρ'
  len : ρ'.length = ρ.length
  same : ∀ i, i ∉ is → σ'[i]? = σ[i]? ∧ gt ρ' i = gt ρ i
  own : ∀ i o, gt ρ' i = .own o → gt ρ i = .own o ∧ σ'[i]? = σ[i]?
  sl : σ'.length = σ.length
section
variable {P : Program} {w : World} {K : PySem.W.Frag} {H : Hp} {is js : List Nat} {σ σ1 σ2 : L2.St} {ρ ρ1 ρ2 : Rho}
theorem TgR.refl (k : Ok P w K H σ ρ) : TgR P w K H [] σ ρ σ ρ := ⟨k, rfl, fun _ _ => ⟨rfl, rfl⟩, fun _ _ h => ⟨h, rfl⟩, rfl⟩
theorem TgR.trans (a : TgR P w K H is σ ρ σ1 ρ1) (b : TgR P w K H js σ1 ρ1 σ2 ρ2) : TgR P w K H (is ++ js) σ ρ σ2 ρ2 := by
  refine ⟨b.ok, b.len.trans a.len, fun i h => ?_, fun i o h => ?_, b.sl.trans a.sl⟩
  · simp only [List.mem_append, not_or] at h
    exact ⟨(b.same i h.2).1.trans (a.same i h.1).1, (b.same i h.2).2.trans (a.same i h.1).2⟩
  · obtain ⟨h1, h2⟩ := b.own i o h
    obtain ⟨h3, h4⟩ := a.own i o h1
    exact ⟨h3, h2.trans h4⟩
theorem TgR.ow (a : TgR P w K H is σ ρ σ1 ρ1) {x : Addr} {i : Nat} (h : OwI σ1 ρ1 i x) : OwI σ ρ i x := by
  obtain ⟨⟨o, e⟩, z⟩ := h
  obtain ⟨h1, h2⟩ := a.own i o e
  exact ⟨⟨o, h1⟩, by rw [← h2]; exact z⟩
theorem TgR.one (k : Ok P w K H σ ρ) {i : Nat} {v : V} {d : PyData} (hi : i < ρ.length) (r : Rp P w K H v d) : TgR P w K H [i] σ ρ (σ.set i (some v)) (ρ.set i (.shr d)) := by
  have hl : i < σ.length := by rw [← k.len]; exact hi
  have ow : ∀ j x, gt (ρ.set i (.shr d)) j = .own x → gt ρ j = .own x ∧ (σ.set i (some v))[j]? = σ[j]? := fun j x z => by
    rw [gt_set] at z
    split at z
    · cases z
    · rename_i c
      refine ⟨z, ?_⟩
      rw [List.getElem?_set_ne]
      exact fun e => c ⟨e, hi⟩
  refine ⟨⟨fun j z => ?_, fun j j' a h1 h2 => ?_, by rw [List.length_set, List.length_set]; exact k.len⟩, List.length_set .., fun j h => ?_, ow, List.length_set ..⟩
  · rw [gt_set] at z ⊢
    split
    · rename_i c
      rw [← c.1]
      exact ⟨v, List.getElem?_set_self hl, r⟩
    · rename_i c
      rw [if_neg c] at z
      obtain ⟨u, e, q⟩ := k.rep j z
      refine ⟨u, ?_, q⟩
      rw [List.getElem?_set_ne (fun e => c ⟨e, hi⟩)]
      exact e
  · obtain ⟨⟨o1, e1⟩, z1⟩ := h1
    obtain ⟨⟨o2, e2⟩, z2⟩ := h2
    obtain ⟨a1, b1⟩ := ow j o1 e1
    obtain ⟨a2, b2⟩ := ow j' o2 e2
    exact k.sep j j' a ⟨⟨o1, a1⟩, b1.symm.trans z1⟩ ⟨⟨o2, a2⟩, b2.symm.trans z2⟩
  · simp only [List.mem_singleton] at h
    refine ⟨List.getElem?_set_ne (Ne.symm h), ?_⟩
    rw [gt_set, if_neg fun c => h c.1.symm]
end
/-- a target's reading -/
def gT (P : Program) (w : World) (K : PySem.W.Frag) (np : Nat) (t : Tg) : TG := fun v σ H Q => ∃ ρ d ρ', Ok P w K H σ ρ ∧ Rp P w K H v d ∧ bt np t d ρ = .ok ρ' ∧ ∀ σ', TgR P w K H (tgs t) σ ρ σ' ρ' → Q σ' H
def gTs (P : Program) (w : World) (K : PySem.W.Frag) (np : Nat) (t : Tg) : TGs := fun vs σ H Q => ∃ ρ ds ρ', Ok P w K H σ ρ ∧ RpAll P w K H vs ds ∧ bts np t ds ρ = .ok ρ' ∧ ∀ σ', TgR P w K H (tgs t) σ ρ σ' ρ' → Q σ' H
theorem bt_np {np : Nat} {i : Nat} {d : PyData} {ρ ρ' : Rho} (h : bt np (.v i) d ρ = .ok ρ') : np ≤ i ∧ i < ρ.length ∧ ρ' = ρ.set i (.shr d) := by
  have h : Res.guard (decide (np ≤ i) && decide (i < ρ.length)) (.ok (ρ.set i (.shr d))) = .ok ρ' := by
    cases d <;> exact h
  obtain ⟨g, e⟩ := Res.guard_eq_ok h
  cases e
  simp only [Bool.and_eq_true, decide_eq_true_eq] at g
  exact ⟨g.1, g.2, rfl⟩
section
variable {X : Cx} {pos : Pos} {e : Expr} {es : List Expr} {t ts : Tg} {np : Nat}
theorem pg_v {i : Nat} {x : Str} (hN : X.N.Nodup) (hi : X.N[i]? = some x) (hx : Loc X.env.scope x) (hf : X.fn x = true ∨ X.env.scope.names.lookup x = some .local) : PG X (.Name x pos) (gT X.prog X.w X.K np (.v i)) := by
  refine ⟨fun pins s σ H v u Q I r ⟨ρ, d, ρ', k, rp, e, q⟩ => (pg_name hN hi hx hf).run pins s σ H v u Q I r ?_⟩
  obtain ⟨h1, h2, rfl⟩ := bt_np e
  exact q _ (TgR.one k h2 rp)
theorem pgs_n : PGs X [] (gTs X.prog X.w X.K np .nil) := by
  refine ⟨fun pins s σ H vs us Q I r ⟨ρ, ds, ρ', k, rp, e, q⟩ => pgs_nil.run pins s σ H vs us Q I r ?_⟩
  cases rp with
  | nil => cases e; exact ⟨rfl, q _ (TgR.refl k)⟩
  | cons _ _ => cases e
theorem pgs_c (h1 : PG X e (gT X.prog X.w X.K np t)) (h2 : PGs X es (gTs X.prog X.w X.K np ts)) (hs : isStar e = false) : PGs X (e :: es) (gTs X.prog X.w X.K np (.cons t ts)) := by
  refine ⟨fun pins s σ H vs us Q I r ⟨ρ, ds, ρ', k, rp, e, q⟩ => (pgs_cons h1 h2 ?_).run pins s σ H vs us Q I r ?_⟩
  · cases ‹Expr› <;> first
      | rfl
      | cases hs
  · cases rp with
    | nil => cases e
    | @cons v vs d ds rv rr =>
      have e2 : ∃ ρ1, bt np t d ρ = .ok ρ1 ∧ bts np ts ds ρ1 = .ok ρ' := by
        unfold bts at e
        obtain ⟨ρ1, f1, f2⟩ := Res.bind_eq_ok e
        refine ⟨ρ1, ?_, f2⟩
        cases t with
        | v i => cases d <;> exact f1
        | nil => cases d <;> first
          | exact f1
          | cases f1
        | cons _ _ => cases d <;> first
          | exact f1
          | cases f1
      obtain ⟨ρ1, f1, f2⟩ := e2
      refine ⟨v, vs, rfl, ρ, d, ρ1, k, rv, f1, fun σ1 t1 => ⟨ρ1, ds, ρ', t1.ok, rr, f2, fun σ2 t2 => q σ2 (t1.trans t2)⟩⟩
def tgLen : Tg → Nat
  | .cons _ ts => tgLen ts + 1
  | _ => 0
theorem bts_len : ∀ {ts : Tg} {ds : List PyData} {ρ ρ' : Rho}, bts np ts ds ρ = .ok ρ' → ds.length = tgLen ts
  | .nil, [], _, _, _ => rfl
  | .cons t ts, d :: ds, ρ, ρ', h => by
    unfold bts at h
    obtain ⟨ρ1, f1, f2⟩ := Res.bind_eq_ok h
    simp [tgLen, bts_len f2]
  | .v _, [], _, _, h => by cases h
  | .v _, _ :: _, _, _, h => by cases h
  | .nil, _ :: _, _, _, h => by cases h
  | .cons _ _, [], _, _, h => by cases h
def isV : Tg → Bool
  | .v _ => true
  | _ => false
theorem pg_t {kk : Nat} (hc : X.calm = true) (h : PGs X es (gTs X.prog X.w X.K np t)) (hv : isV t = false) (hn : (assignEach es X.env).length = tgLen t) (hst : (assignEach es X.env).findIdx? (·.1) = none) : PG X (.Tuple es kk pos) (gT X.prog X.w X.K np t) := by
  refine ⟨fun pins s σ H v u Q I r ⟨ρ, d, ρ', k, rp, e, q⟩ => (pg_tup hc h hn hst).run pins s σ H v u Q I r ?_⟩
  cases t with
  | v i => cases hv
  | _ =>
    cases d <;> first
      | (cases e; done)
      | (cases rp with
         | tup hq rr => exact ⟨_, _, rfl, hq, by rw [rr.length]; exact bts_len e, ρ, _, ρ', k, rr, e, q⟩)
end
/-! ### comprehensions -/
theorem gt_wipe {ρ : Rho} {i : Nat} : ∀ {vs : List Nat}, gt (wipeR ρ vs) i = if i ∈ vs then .un else gt ρ i
  | [] => by simp [wipeR]
  | v :: vs => by
    unfold wipeR
    rw [gt_wipe (vs := vs), gt_set]
    by_cases h : i ∈ vs
    · simp [h]
    · by_cases hv : v = i
      · subst hv
        by_cases hl : v < ρ.length
        · simp [h, hl]
        · simp only [h, if_false, List.mem_cons, true_or, if_true]
          rw [if_neg (fun c => hl c.2)]
          unfold gt
          rw [List.getD_eq_getElem?_getD, List.getElem?_eq_none (by omega)]
          rfl
      · have : ¬ i ∈ v :: vs := by simp [h, Ne.symm hv]
        rw [if_neg h, if_neg this, if_neg fun c => hv c.1]
theorem wipeR_len {ρ : Rho} : ∀ {vs : List Nat}, (wipeR ρ vs).length = ρ.length
  | [] => rfl
  | v :: vs => by unfold wipeR; rw [wipeR_len (vs := vs), List.length_set]
theorem backR_len {ρ0 ρ : Rho} : ∀ {vs : List Nat}, (backR ρ0 ρ vs).length = ρ.length
  | [] => rfl
  | v :: vs => by unfold backR; rw [backR_len (vs := vs), List.length_set]
theorem gt_back {ρ0 ρ : Rho} {i : Nat} (hl : ρ.length = ρ0.length) : ∀ {vs : List Nat}, gt (backR ρ0 ρ vs) i = if i ∈ vs then gt ρ0 i else gt ρ i := by
  intro vs
  induction vs generalizing ρ with
  | nil => simp [backR]
  | cons v vs ih =>
    unfold backR
    rw [ih (by rw [List.length_set]; exact hl), gt_set]
    by_cases h : i ∈ vs
    · simp [h]
    · by_cases hv : v = i
      · subst hv
        by_cases hlt : v < ρ.length
        · simp [h, hlt]
        · simp only [h, if_false, List.mem_cons, true_or, if_true]
          rw [if_neg (fun c => hlt c.2)]
          unfold gt
          rw [List.getD_eq_getElem?_getD, List.getD_eq_getElem?_getD, List.getElem?_eq_none (by omega), List.getElem?_eq_none (by omega)]
      · have : ¬ i ∈ v :: vs := by simp [h, Ne.symm hv]
        rw [if_neg h, if_neg this, if_neg fun c => hv c.1]
section
variable {P : Program} {w : World} {K : PySem.W.Frag} {H H1 H2 H' : Hp} {σ σ2 : L2.St} {ρ ρ1 ρ2 ρ3 : Rho} {vs : List Nat}
theorem Ok.wipe (k : Ok P w K H σ ρ) : Ok P w K H (L2.wipe σ vs) (wipeR ρ vs) := by
  have ow : ∀ i, gt (wipeR ρ vs) i ≠ .un → i ∉ vs ∧ gt (wipeR ρ vs) i = gt ρ i := fun i z => by
    rw [gt_wipe] at z ⊢
    split at z
    · exact absurd rfl z
    · rename_i c
      exact ⟨c, by rw [if_neg c]⟩
  refine ⟨fun i z => ?_, fun i j a h1 h2 => ?_, by rw [wipeR_len, wipe_length]; exact k.len⟩
  · obtain ⟨c, e⟩ := ow i z
    rw [e] at z ⊢
    obtain ⟨v, e2, q⟩ := k.rep i z
    exact ⟨v, by rw [wipe_out c]; exact e2, q⟩
  · obtain ⟨⟨o1, e1⟩, z1⟩ := h1
    obtain ⟨⟨o2, e2⟩, z2⟩ := h2
    obtain ⟨c1, f1⟩ := ow i (by rw [e1]; exact fun q => nomatch q)
    obtain ⟨c2, f2⟩ := ow j (by rw [e2]; exact fun q => nomatch q)
    exact k.sep i j a ⟨⟨o1, f1.symm.trans e1⟩, (wipe_out c1).symm.trans z1⟩ ⟨⟨o2, f2.symm.trans e2⟩, (wipe_out c2).symm.trans z2⟩
theorem ow_wipe {i : Nat} {a : Addr} (h : OwI (L2.wipe σ vs) (wipeR ρ vs) i a) : i ∉ vs ∧ OwI σ ρ i a := by
  obtain ⟨⟨o, e⟩, z⟩ := h
  rw [gt_wipe] at e
  split at e
  · cases e
  · rename_i c
    exact ⟨c, ⟨o, e⟩, (wipe_out c).symm.trans z⟩
/-- one turn of a block: the targets stored, the tests and the item read, the own names forgotten -/
theorem turn_blk (a : Pst P w K (L2.wipe σ vs) ρ H ρ1 H1) (t : TgR P w K H1 vs (L2.wipe σ vs) ρ1 σ2 ρ2) (hw : L2.wipe σ2 vs = L2.wipe σ vs) (b : Pst P w K σ2 ρ2 H1 ρ3 H2) : Pst P w K (L2.wipe σ vs) ρ H (wipeR ρ3 vs) H2 := by
  have sub : Sub ρ1 (wipeR ρ3 vs) := by
    refine ⟨by rw [wipeR_len, b.sub.len, t.len], fun i o e => ?_⟩
    rw [gt_wipe] at e
    split at e
    · cases e
    · obtain ⟨o2, e2⟩ := b.sub.own i o e
      exact ⟨o2, (t.own i o2 e2).1⟩
  refine a.trans ⟨fun x u e n => b.fr x u e fun ⟨i, z⟩ => n ⟨i, t.ow z⟩, ?_, sub, b.trk⟩
  have := b.ok.wipe (vs := vs)
  rwa [hw] at this
/-- the new list changes, which no slot owns -/
theorem Pst.updN (a : Pst P w K σ ρ H ρ1 H1) {D : Addr} {u u2 : HO} (h0 : H D = none) (h1 : H1 D = some u) (wr : Wr u) (n : ¬ Ow σ ρ D) : Pst P w K σ ρ H ρ1 (upd H1 D u2) := by
  refine ⟨fun x v e m => ?_, a.ok.upd h1 wr fun z => n (a.sub.ow z), a.sub, fun x z => a.trk x (upd_none z)⟩
  rw [upd_ne]
  · exact a.fr x v e m
  · rintro rfl; rw [h0] at e; cases e
/-- the block is left -/
theorem blk_end (k0 : Ok P w K H σ ρ) (b : Pst P w K (L2.wipe σ vs) (wipeR ρ vs) H ρ3 H2) : Pst P w K σ ρ H (backR ρ ρ3 vs) H2 := by
  have hl : ρ3.length = ρ.length := by rw [b.sub.len, wipeR_len]
  have back : ∀ i o, gt (backR ρ ρ3 vs) i = .own o → (i ∈ vs ∧ gt ρ i = .own o) ∨ (i ∉ vs ∧ gt ρ3 i = .own o ∧ ∃ o', gt ρ i = .own o') := fun i o e => by
    rw [gt_back hl] at e
    split at e
    · exact .inl ⟨‹_›, e⟩
    · rename_i c
      obtain ⟨o', e'⟩ := b.sub.own i o e
      rw [gt_wipe, if_neg c] at e'
      exact .inr ⟨c, e, o', e'⟩
  have sub : Sub ρ (backR ρ ρ3 vs) := ⟨by rw [backR_len]; exact hl, fun i o e => by
    rcases back i o e with ⟨_, h⟩ | ⟨_, _, h⟩
    · exact ⟨o, h⟩
    · exact h⟩
  have fr : Fr σ ρ H H2 := fun x u e n => b.fr x u e fun ⟨i, z⟩ => n ⟨i, (ow_wipe z).2⟩
  have kp : Keep H H2 := b.keep k0.wipe
  refine ⟨fr, ⟨fun i z => ?_, fun i j a h1 h2 => ?_, by rw [backR_len, hl]; exact k0.len⟩, sub, b.trk⟩
  · rw [gt_back hl] at z ⊢
    by_cases c : i ∈ vs
    · rw [if_pos c] at z ⊢
      obtain ⟨v, e, q⟩ := k0.rep i z
      refine ⟨v, e, ?_⟩
      cases g : gt ρ i with
      | un => exact True.intro
      | shr d => rw [g] at q; exact Rp.keep kp q
      | own o =>
        rw [g] at q
        obtain ⟨a, rfl, q⟩ := q
        refine ⟨a, rfl, q.keep kp fun u ea => b.fr a u ea fun ⟨j, y⟩ => ?_⟩
        obtain ⟨c2, y⟩ := ow_wipe y
        have := k0.sep i j a ⟨⟨o, g⟩, e⟩ y
        subst this
        exact c2 c
    · rw [if_neg c] at z ⊢
      obtain ⟨v, e, q⟩ := b.ok.rep i z
      exact ⟨v, by rw [← wipe_out c]; exact e, q⟩
  · exact k0.sep i j a ⟨let ⟨o, z⟩ := h1.1; sub.own i o z, h1.2⟩ ⟨let ⟨o, z⟩ := h2.1; sub.own j o z, h2.2⟩
end
/-- one turn -/
def lcF (t : Tg) (fc : Rho → Res (Bool × Rho)) (fe : Rho → Res (Rv × Rho)) (own : List Nat) (d : PyData) (ρ : Rho) : Res (List PyData × Rho) :=
  (bt 0 t d ρ).bind fun ρ => (fc ρ).bind fun c => if c.1 = true then (fe c.2).bind fun r => (stl r.2 r.1).bind fun x => .ok ([x.1], wipeR x.2 own) else .ok ([], wipeR c.2 own)
def fLc (own : List Nat) (t : Tg) (fi : Rho → Res (List PyData × Rho)) (fc : Rho → Res (Bool × Rho)) (fe : Rho → Res (Rv × Rho)) (ρ : Rho) : Res (Rv × Rho) :=
  (fi ρ).bind fun p => (lcGo (lcF t fc fe own) p.1 [] (wipeR p.2 own)).bind fun r => .ok (.val (.own (.lst r.1)), backR p.2 r.2 own)
theorem wipe_tg {σ σ2 : L2.St} {vs : List Nat} (hl : σ2.length = σ.length) (h : ∀ i, i ∉ vs → σ2[i]? = σ[i]?) : L2.wipe σ2 vs = L2.wipe σ vs := by
  have key : ∀ {τ : L2.St} {vs : List Nat} {i : Nat}, i < τ.length → i ∈ vs → (L2.wipe τ vs)[i]? = some none := by
    intro τ vs
    induction vs with
    | nil => intro i _ h; simp at h
    | cons v vs ih =>
      intro i hi h
      unfold L2.wipe
      by_cases c : v = i
      · subst c
        rw [List.getElem?_set_self (by rw [wipe_length]; exact hi)]
      · rw [List.getElem?_set_ne c]
        exact ih hi (by simpa [Ne.symm c] using h)
  refine List.ext_getElem? fun i => ?_
  by_cases c : i ∈ vs
  · by_cases hi : i < σ.length
    · rw [key (by omega) c, key hi c]
    · rw [List.getElem?_eq_none (by rw [wipe_length]; omega), List.getElem?_eq_none (by rw [wipe_length]; omega)]
  · rw [wipe_out c, wipe_out c, h i c]
section
variable {X : Cx} {elt tg iter : Expr} {ifs : List Expr} {scope : Scope} {own : List (Str × Nat)} {pos : Pos} {t : Tg} {fi : Rho → Res (List PyData × Rho)} {fc : Rho → Res (Bool × Rho)} {fe : Rho → Res (Rv × Rho)}
theorem tlc (vs : List Nat) (hvs : tgs t = vs) {σ : L2.St} {H : Hp} {Q : VK} (h : tRX X (fLc vs t fi fc fe) σ H Q) :
    tLc (tIX X fi) (gT X.prog X.w X.K 0 t) (tTX X fc) (tSX X fun ρ => (fe ρ).bind fun p => stl p.2 p.1) vs σ H Q := by
  obtain ⟨ρ, r, ρ', k, e, q⟩ := h
  obtain ⟨⟨ds, ρ1⟩, e1, e⟩ := Res.bind_eq_ok e
  obtain ⟨⟨res, ρe⟩, e2, e⟩ := Res.bind_eq_ok e
  cases e
  refine ⟨ρ, ds, ρ1, k, e1, fun J H1 a1 wk D hD => ?_⟩
  have kw := a1.ok.wipe (vs := vs)
  have nD : ¬ Ow (L2.wipe σ vs) (wipeR ρ1 vs) D := kw.free hD
  have e2 : lcGo (lcF t fc fe vs) ds [] (wipeR ρ1 vs) = .ok (res, ρe) := e2
  -- the turns
  refine ⟨fun i m H2 => m = ds.length - i ∧ i ≤ ds.length ∧ ∃ acc ρi us, lcGo (lcF t fc fe vs) (ds.drop i) acc ρi = .ok (res, ρe) ∧ H2 D = some (.lst us) ∧ RpAll X.prog X.w X.K H2 us acc ∧ Pst X.prog X.w X.K (L2.wipe σ vs) (wipeR ρ1 vs) H1 ρi H2 ∧ acc.length ≤ lim,
    ⟨ds.length, by simp, Nat.zero_le _, [], _, [], e2, upd_same, .nil, (Pst.refl kw).new hD, Nat.zero_le _⟩, ?_⟩
  rintro i m H2 ⟨rfl, hi, acc, ρi, us, eg, hu, ru, a2, hz⟩
  have kp : Keep H1 H2 := a2.keep kw
  by_cases hlt : i < ds.length
  · have hd : ds[i]? = some ds[i] := List.getElem?_eq_getElem hlt
    have hdr : ds.drop i = ds[i] :: ds.drop (i + 1) := by rw [List.drop_eq_getElem_cons hlt]
    rw [hdr] at eg
    unfold lcGo at eg
    obtain ⟨⟨ps, ρn⟩, f1, eg⟩ := Res.bind_eq_ok eg
    obtain ⟨g1, eg⟩ := Res.guard_eq_ok eg
    have g1 := of_decide_eq_true g1
    obtain ⟨go, yl⟩ := (wk H2 kp i).2 _ hd
    refine .inr ⟨go, fun H3 => ds.length - (i + 1) = ds.length - (i + 1) ∧ i + 1 ≤ ds.length ∧ ∃ acc ρi us, lcGo (lcF t fc fe vs) (ds.drop (i + 1)) acc ρi = .ok (res, ρe) ∧ H3 D = some (.lst us) ∧ RpAll X.prog X.w X.K H3 us acc ∧ Pst X.prog X.w X.K (L2.wipe σ vs) (wipeR ρ1 vs) H1 ρi H3 ∧ acc.length ≤ lim,
      fun H' p' => ⟨ds.length - (i + 1), by omega, p'.1, p'.2.1, p'.2.2⟩, fun x H3 yy => ?_⟩
    obtain ⟨gr, rx⟩ := yl x H3 yy
    have a3 := a2.grow gr
    unfold lcF at f1
    obtain ⟨ρ2, f2, f1⟩ := Res.bind_eq_ok f1
    refine ⟨ρi, _, ρ2, a3.ok, rx, f2, fun σ2 t2 => ?_⟩
    rw [hvs] at t2
    have ww : L2.wipe (L2.wipe σ vs) vs = L2.wipe σ vs := wipe_tg (by rw [wipe_length]) fun j hj => by rw [wipe_out hj]
    have hw : L2.wipe σ2 vs = L2.wipe σ vs := (wipe_tg t2.sl fun j hj => (t2.same j hj).1).trans ww
    refine ⟨hw, ?_⟩
    obtain ⟨⟨c, ρ3⟩, f3, f1⟩ := Res.bind_eq_ok f1
    refine ⟨ρ2, c, ρ3, t2.ok, f3, fun H4 a4 => ?_⟩
    have hu3 : H3 D = some (.lst us) := gr.at hu
    have ru3 : RpAll X.prog X.w X.K H3 us acc := ru.keep gr.keep
    have nD2 : ¬ Ow σ2 ρ2 D := fun ⟨j, z⟩ => nD (a3.sub.ow ⟨j, t2.ow z⟩)
    cases c with
    | false =>
      cases f1
      dsimp only
      rw [if_neg Bool.false_ne_true]
      rw [List.append_nil] at eg g1
      exact ⟨rfl, hlt, acc, _, us, eg, a4.fr D _ hu3 nD2, ru3.keep (a4.keep t2.ok), turn_blk a3 t2 hw a4, g1⟩
    | true =>
      dsimp only
      rw [if_pos rfl] at f1 ⊢
      obtain ⟨r5, f5, f1⟩ := Res.bind_eq_ok f1
      obtain ⟨x6, f6, f1⟩ := Res.bind_eq_ok f1
      cases f1
      refine ⟨ρ3, x6.1, x6.2, a4.ok, by show (fe ρ3).bind _ = _; rw [f5]; exact f6, fun v H5 a5 r5 => ?_⟩
      have a45 := a4.trans a5
      have hu5 : H5 D = some (.lst us) := a45.fr D _ hu3 nD2
      have ru5 : RpAll X.prog X.w X.K H5 us acc := ru3.keep (a45.keep t2.ok)
      have tb := turn_blk a3 t2 hw a45
      rw [List.length_append] at g1
      have hlu := ru5.length
      simp only [List.length_singleton] at g1
      rw [lim_line] at g1
      refine ⟨us, hu5, by omega, rfl, hlt, acc ++ [x6.1], _, us ++ [v], eg, upd_same, ?_, tb.updN hD hu5 True.intro nD, by rw [List.length_append, lim_line]; simp only [List.length_singleton]; omega⟩
      exact (ru5.keep (keep_upd hu5 True.intro)).append (.cons (r5.keep (keep_upd hu5 True.intro)) .nil)
  · have e0 : i = ds.length := by omega
    subst e0
    rw [List.drop_length] at eg
    cases eg
    refine .inl ⟨(wk H2 kp _).1 (Nat.le_refl _), ?_⟩
    have b1 := blk_end a1.ok a2
    refine q _ H2 (a1.trans b1) ⟨D, rfl, ⟨us, hu, ru⟩, fun z => ?_⟩ fun b eb => by cases eb; exact a1.trk D hD
    obtain ⟨i, z⟩ := b1.sub.ow z
    exact (a1.ok.free hD) ⟨i, z⟩
end
end Rt
set_option maxRecDepth 100000
set_option maxHeartbeats 4000000
namespace Rt
open PySem PySem.Spec PyProof.Rows L2
/-! ### behind a statement -/
structure SPst (P : Program) (w : World) (K : PySem.W.Frag) (np : Nat) (σ : L2.St) (ρ : Rho) (H : Hp) (σ' : L2.St) (ρ' : Rho) (H' : Hp) : Prop where
  fr : Fr σ ρ H H'
  ok : Ok P w K H' σ' ρ'
  own : ∀ i a, OwI σ' ρ' i a → (i < np ∧ OwI σ ρ i a) ∨ (np ≤ i ∧ ((∃ j, np ≤ j ∧ OwI σ ρ j a) ∨ H a = none))
  trk : ∀ a, H' a = none → H a = none
  len : ρ'.length = ρ.length
  par : ∀ i, i < np → σ'[i]? = σ[i]?
structure RetOk (P : Program) (w : World) (K : PySem.W.Frag) (np : Nat) (σ : L2.St) (ρ : Rho) (H : Hp) (σ' : L2.St) (ρ' : Rho) (H' : Hp) (v : V) (s : Sl) : Prop where
  rep : s ≠ .un ∧ RpS P w K H' v s
  own : ∀ o a, s = .own o → v = .ref a → ¬ Ow σ' ρ' a ∧ ((∃ j, np ≤ j ∧ OwI σ ρ j a) ∨ H a = none)
/-- what is wanted behind it -/
def Obl (P : Program) (w : World) (K : PySem.W.Frag) (np : Nat) (D : Ends) (σ : L2.St) (ρ : Rho) (H : Hp) (f : Fl) (ρ' : Rho) : Prop := match f with
  | .nxt => ∀ σ' H', SPst P w K np σ ρ H σ' ρ' H' → D.nx σ' H'
  | .brk => ∀ σ' H', SPst P w K np σ ρ H σ' ρ' H' → D.bk σ' H'
  | .cnt => ∀ σ' H', SPst P w K np σ ρ H σ' ρ' H' → D.ct σ' H'
  | .ret s => ∀ v σ' H', SPst P w K np σ ρ H σ' ρ' H' → RetOk P w K np σ ρ H σ' ρ' H' v s → D.rt v H'
def tSt (P : Program) (w : World) (K : PySem.W.Frag) (np : Nat) (f : Rho → Res (Fl × Rho)) : TS := fun D σ H => ∃ ρ fl ρ', Ok P w K H σ ρ ∧ f ρ = .ok (fl, ρ') ∧ Obl P w K np D σ ρ H fl ρ'
section
variable {P : Program} {w : World} {K : PySem.W.Frag} {np : Nat} {σ σ1 σ2 : L2.St} {ρ ρ1 ρ2 : Rho} {H H1 H2 : Hp}
theorem SPst.refl (k : Ok P w K H σ ρ) : SPst P w K np σ ρ H σ ρ H := ⟨Fr.refl _ _ _, k, fun i a z => by
  by_cases h : i < np
  · exact .inl ⟨h, z⟩
  · exact .inr ⟨by omega, .inl ⟨i, by omega, z⟩⟩, fun _ z => z, rfl, fun _ _ => rfl⟩
theorem SPst.ow (a : SPst P w K np σ ρ H σ1 ρ1 H1) {x : Addr} (h : Ow σ1 ρ1 x) : Ow σ ρ x ∨ H x = none := by
  obtain ⟨i, z⟩ := h
  rcases a.own i x z with ⟨_, q⟩ | ⟨_, ⟨j, _, q⟩ | q⟩
  · exact .inl ⟨i, q⟩
  · exact .inl ⟨j, q⟩
  · exact .inr q
theorem SPst.own2 (a : SPst P w K np σ ρ H σ1 ρ1 H1) {x : Addr} (h : (∃ j, np ≤ j ∧ OwI σ1 ρ1 j x) ∨ H1 x = none) : (∃ j, np ≤ j ∧ OwI σ ρ j x) ∨ H x = none := by
  rcases h with ⟨j, hj, z⟩ | z
  · rcases a.own j x z with ⟨h, _⟩ | ⟨_, q⟩
    · omega
    · exact q
  · exact .inr (a.trk x z)
theorem SPst.trans (a : SPst P w K np σ ρ H σ1 ρ1 H1) (b : SPst P w K np σ1 ρ1 H1 σ2 ρ2 H2) : SPst P w K np σ ρ H σ2 ρ2 H2 := by
  refine ⟨fun x u e n => b.fr x u (a.fr x u e n) fun z => ?_, b.ok, fun i x z => ?_, fun x z => a.trk x (b.trk x z), b.len.trans a.len, fun i h => (b.par i h).trans (a.par i h)⟩
  · rcases a.ow z with q | q
    · exact n q
    · rw [q] at e; cases e
  · rcases b.own i x z with ⟨h, q⟩ | ⟨h, q⟩
    · rcases a.own i x q with ⟨_, r⟩ | ⟨h2, _⟩
      · exact .inl ⟨h, r⟩
      · omega
    · exact .inr ⟨h, a.own2 q⟩
theorem Obl.step {D : Ends} {f : Fl} {ρ' : Rho} (a : SPst P w K np σ ρ H σ1 ρ1 H1) (o : Obl P w K np D σ ρ H f ρ') : Obl P w K np D σ1 ρ1 H1 f ρ' := by
  cases f with
  | nxt => exact fun σ' H' b => o σ' H' (a.trans b)
  | brk => exact fun σ' H' b => o σ' H' (a.trans b)
  | cnt => exact fun σ' H' b => o σ' H' (a.trans b)
  | ret s => exact fun v σ' H' b r => o v σ' H' (a.trans b) ⟨r.rep, fun x y e1 e2 => ⟨(r.own x y e1 e2).1, a.own2 (r.own x y e1 e2).2⟩⟩
theorem SPst.keep (k : Ok P w K H σ ρ) (a : SPst P w K np σ ρ H σ1 ρ1 H1) : Keep H H1 := a.fr.keep k
theorem Pst.st (a : Pst P w K σ ρ H ρ1 H1) : SPst P w K np σ ρ H σ ρ1 H1 := ⟨a.fr, a.ok, fun i x z => by
  have q : OwI σ ρ i x := ⟨let ⟨o, e⟩ := z.1; a.sub.own i o e, z.2⟩
  by_cases h : i < np
  · exact .inl ⟨h, q⟩
  · exact .inr ⟨by omega, .inl ⟨i, by omega, q⟩⟩, a.trk, a.sub.len, fun _ _ => rfl⟩
theorem TgR.st {is : List Nat} (t : TgR P w K H is σ ρ σ1 ρ1) (h : ∀ i ∈ is, np ≤ i) : SPst P w K np σ ρ H σ1 ρ1 H := ⟨Fr.refl _ _ _, t.ok, fun i x z => by
  have q := t.ow z
  by_cases h : i < np
  · exact .inl ⟨h, q⟩
  · exact .inr ⟨by omega, .inl ⟨i, by omega, q⟩⟩, fun _ z => z, t.len, fun i hi => (t.same i fun z => by have := h i z; omega).1⟩
/-- a result is stored in a slot -/
theorem st_set (k : Ok P w K H σ ρ) {i : Nat} {v : V} {s : Sl} (hi : np ≤ i) (hl : i < ρ.length) (hs : s ≠ .un) (r : RpS P w K H v s) (ow : ∀ o a, s = .own o → v = .ref a → ¬ Ow σ ρ a) :
    Ok P w K H (σ.set i (some v)) (ρ.set i s) := by
  have hl2 : i < σ.length := by rw [← k.len]; exact hl
  have ow2 : ∀ j a, OwI (σ.set i (some v)) (ρ.set i s) j a → (j = i ∧ ∃ o, s = .own o ∧ v = .ref a) ∨ (j ≠ i ∧ OwI σ ρ j a) := fun j a z => by
    obtain ⟨⟨o, e⟩, z⟩ := z
    rw [gt_set] at e
    by_cases c : i = j
    · subst c
      rw [if_pos ⟨rfl, hl⟩] at e
      rw [List.getElem?_set_self hl2] at z
      exact .inl ⟨rfl, o, e, by cases z; rfl⟩
    · rw [if_neg fun q => c q.1] at e
      rw [List.getElem?_set_ne c] at z
      exact .inr ⟨fun q => c q.symm, ⟨o, e⟩, z⟩
  refine ⟨fun j z => ?_, fun j j' a h1 h2 => ?_, by rw [List.length_set, List.length_set]; exact k.len⟩
  · rw [gt_set] at z ⊢
    split
    · rename_i c
      rw [← c.1]
      exact ⟨v, List.getElem?_set_self hl2, r⟩
    · rename_i c
      rw [if_neg c] at z
      obtain ⟨u, e, q⟩ := k.rep j z
      exact ⟨u, by rw [List.getElem?_set_ne (fun e => c ⟨e, hl⟩)]; exact e, q⟩
  · rcases ow2 j a h1 with ⟨rfl, o, e1, e2⟩ | ⟨n1, q1⟩
    · rcases ow2 j' a h2 with ⟨rfl, _⟩ | ⟨n2, q2⟩
      · rfl
      · exact absurd ⟨j', q2⟩ (ow o a e1 e2)
    · rcases ow2 j' a h2 with ⟨rfl, o, e1, e2⟩ | ⟨n2, q2⟩
      · exact absurd ⟨j, q1⟩ (ow o a e1 e2)
      · exact k.sep j j' a q1 q2
end
abbrev tStX (X : Cx) (np : Nat) := tSt X.prog X.w X.K np
section
variable {X : Cx} {np : Nat} {e c : Expr} {st : Stmt} {sts a b : List Stmt} {pos : Pos} {fa fc : Rho → Res (Rv × Rho)} {fs gs : Rho → Res (Fl × Rho)}
theorem pss_weak {t t' : TS} (h : PSs X sts t) (f : ∀ D σ H, t' D σ H → t D σ H) : PSs X sts t' := ⟨fun pins s σ H D I q => h.run pins s σ H D I (f D σ H q)⟩
theorem pss_0 : PSs X [] (tStX X np fun ρ => .ok (.nxt, ρ)) := pss_weak pss_nil fun D σ H ⟨ρ, fl, ρ', k, e, o⟩ => by
  cases e
  exact o σ H (SPst.refl k)
def seqS (fs gs : Rho → Res (Fl × Rho)) (ρ : Rho) : Res (Fl × Rho) := (fs ρ).bind fun p => match p.1 with
  | .nxt => gs p.2
  | f => .ok (f, p.2)
theorem pss_c (h1 : PS X st (tStX X np fs)) (h2 : PSs X sts (tStX X np gs)) : PSs X (st :: sts) (tStX X np (seqS fs gs)) := by
  refine pss_weak (pss_cons h1 h2) fun D σ H ⟨ρ, fl, ρ', k, e, o⟩ => ?_
  obtain ⟨⟨f1, ρ1⟩, e1, e⟩ := Res.bind_eq_ok e
  refine ⟨ρ, f1, ρ1, k, e1, ?_⟩
  cases f1 with
  | nxt => exact fun σ1 H1 a => ⟨ρ1, fl, ρ', a.ok, e, o.step a⟩
  | brk => cases e; exact o
  | cnt => cases e; exact o
  | ret s => cases e; exact o
theorem ps_e (h : PE X e (tRX X fa)) (hs : swapsWith e none pos.line X.env = pure false) : PS X (.Expr e pos) (tStX X np fun ρ => (fa ρ).bind fun p => .ok (.nxt, p.2)) := by
  refine ps_weak (ps_expr h hs) fun D σ H ⟨ρ, fl, ρ', k, e, o⟩ => ?_
  obtain ⟨p, e1, e⟩ := Res.bind_eq_ok e
  cases e
  exact ⟨ρ, p.1, p.2, k, e1, fun v H1 a _ _ => o σ H1 a.st⟩
theorem ps_i (hc : PT X c (tTX X fun ρ => tst (fc ρ))) (ha : PSs X a (tStX X np fs)) (hb : PSs X b (tStX X np gs)) : PS X (.If c a b pos) (tStX X np fun ρ => (tst (fc ρ)).bind fun p => if p.1 = true then fs p.2 else gs p.2) := by
  refine ps_weak (ps_if hc ha hb) fun D σ H ⟨ρ, fl, ρ', k, e, o⟩ => ?_
  obtain ⟨⟨b, ρ1⟩, e1, e⟩ := Res.bind_eq_ok e
  refine ⟨ρ, b, ρ1, k, e1, fun H1 a1 => ?_⟩
  cases b with
  | true => exact ⟨ρ1, fl, ρ', a1.ok, e, o.step a1.st⟩
  | false => exact ⟨ρ1, fl, ρ', a1.ok, e, o.step a1.st⟩
theorem set_un {P : Program} {w : World} {K : PySem.W.Frag} {H : Hp} {σ : L2.St} {ρ : Rho} {i : Nat} (k : Ok P w K H σ ρ) : Ok P w K H σ (ρ.set i .un) ∧ ∀ j a, OwI σ (ρ.set i .un) j a → j ≠ i ∧ OwI σ ρ j a := by
  have ow : ∀ j a, OwI σ (ρ.set i .un) j a → j ≠ i ∧ OwI σ ρ j a := fun j a z => by
    obtain ⟨⟨o, e⟩, z⟩ := z
    rw [gt_set] at e
    split at e
    · cases e
    · rename_i c
      refine ⟨fun q => ?_, ⟨o, e⟩, z⟩
      subst q
      exact c ⟨rfl, gt_lt fun h => by rw [h] at e; cases e⟩
  refine ⟨⟨fun j z => ?_, fun j j' a h1 h2 => k.sep j j' a (ow j a h1).2 (ow j' a h2).2, by rw [List.length_set]; exact k.len⟩, ow⟩
  rw [gt_set] at z ⊢
  split
  · rename_i c
    rw [if_pos c] at z
    exact absurd rfl z
  · rename_i c
    rw [if_neg c] at z
    exact k.rep j z
def tRt (P : Program) (w : World) (K : PySem.W.Frag) (np : Nat) (f : Rho → Res (Sl × Rho)) : TE := fun σ H Q => ∃ ρ s ρ', Ok P w K H σ ρ ∧ f ρ = .ok (s, ρ') ∧ ∀ v H', SPst P w K np σ ρ H σ ρ' H' → RetOk P w K np σ ρ H σ ρ' H' v s → Q v H'
theorem pe_rt (h : PE X e (tRX X fa)) : PE X e (tRt X.prog X.w X.K np fun ρ => (fa ρ).bind fun p => retR np p.2 p.1) := by
  refine ⟨fun pins s σ H Q I ⟨ρ, sl, ρ', k, ef, q⟩ => ?_⟩
  obtain ⟨⟨r, ρ1⟩, e1, e2⟩ := Res.bind_eq_ok ef
  refine thn (h.run pins s σ H (fun v H1 => Pst X.prog X.w X.K σ ρ H ρ1 H1 ∧ RV X.prog X.w X.K H1 σ ρ1 v r ∧ Nw H v r) I ⟨ρ, r, ρ1, k, e1, fun v H' a b c => ⟨a, b, c⟩⟩) fun u s1 hz => ?_
  obtain ⟨v, H1, I1, rv, a, b, c⟩ := hz
  have plain : ∀ d, sl = .shr d → ρ' = ρ1 → Rp X.prog X.w X.K H1 v d → EP X pins σ Q u s1 := by
    rintro d rfl rfl r
    exact ⟨v, H1, I1, rv, q v H1 a.st ⟨⟨fun z => (nomatch z), r⟩, fun _ _ z => nomatch z⟩⟩
  cases r with
  | val x =>
    cases x with
    | un => cases e2
    | shr d => cases e2; exact plain d rfl rfl b
    | own o =>
      cases e2
      obtain ⟨ad, rfl, b1, b2⟩ := b
      exact ⟨_, H1, I1, rv, q _ H1 a.st ⟨⟨fun z => (nomatch z), ad, rfl, b1⟩, fun o' a' z1 z2 => by cases z2; exact ⟨b2, .inr (c _ rfl)⟩⟩⟩
  | nam i =>
    have e2 : retR np ρ1 (.nam i) = .ok (sl, ρ') := e2
    unfold retR at e2
    dsimp only at e2
    cases hg : gt ρ1 i with
    | un => rw [hg] at e2; cases e2
    | shr d =>
      rw [hg] at e2
      cases e2
      obtain ⟨v', ev, r'⟩ := a.ok.rep i (by rw [hg]; exact fun z => nomatch z)
      rw [show σ[i]? = some (some v) from b] at ev
      cases ev
      rw [hg] at r'
      exact plain d rfl rfl r'
    | own o =>
      rw [hg] at e2
      dsimp only at e2
      by_cases hi : i < np
      · rw [if_pos hi] at e2
        cases e2
        have es : stl ρ1 (.nam i) = .ok (o.dat, ρ1.set i (.shr o.dat)) := by
          show (rdS (gt ρ1 i)).bind _ = _
          rw [hg]
          rfl
        obtain ⟨H2, I2, k2, sb, r2, tr, f2⟩ := frz_stl I1 a.ok b es
        exact ⟨v, H2, I2, rv, q v H2 (a.stl c k2 sb tr f2).st ⟨⟨fun z => (nomatch z), r2⟩, fun _ _ z => nomatch z⟩⟩
      · rw [if_neg hi] at e2
        cases e2
        obtain ⟨k2, ow2⟩ := set_un (i := i) a.ok
        obtain ⟨ad, hσ, b1⟩ := a.ok.at hg
        rw [show σ[i]? = some (some v) from b] at hσ
        cases hσ
        have w : OwI σ ρ1 i ad := ⟨⟨o, hg⟩, b⟩
        have a2 : Pst X.prog X.w X.K σ ρ H (ρ1.set i .un) H1 := ⟨a.fr, k2, ⟨by rw [List.length_set]; exact a.sub.len, fun j o' z => by
          rw [gt_set] at z
          split at z
          · cases z
          · exact a.sub.own j o' z⟩, a.trk⟩
        refine ⟨_, H1, I1, rv, q _ H1 a2.st ⟨⟨fun z => (nomatch z), ad, rfl, b1⟩, fun o' a' z1 z2 => ?_⟩⟩
        cases z2
        refine ⟨fun ⟨j, z⟩ => ?_, .inl ⟨i, by omega, let ⟨o2, e⟩ := w.1; a.sub.own i o2 e, w.2⟩⟩
        obtain ⟨n, z⟩ := ow2 j ad z
        exact n (a.ok.sep j i ad z w)
theorem ps_rt (h : PE X e (tRX X fa)) : PS X (.Return (some e) pos) (tStX X np fun ρ => (fa ρ).bind fun p => (retR np p.2 p.1).bind fun q => .ok (.ret q.1, q.2)) := by
  refine ps_weak (ps_ret (pe_rt (np := np) h)) fun D σ H ⟨ρ, fl, ρ', k, e, o⟩ => ?_
  obtain ⟨p, e1, e⟩ := Res.bind_eq_ok e
  obtain ⟨y, e2, e⟩ := Res.bind_eq_ok e
  cases e
  exact ⟨ρ, y.1, y.2, k, by show (fa ρ).bind _ = _; rw [e1]; exact e2, fun v H1 a r => o v σ H1 a r⟩
/-! ### a name is stored -/
def tTk (P : Program) (w : World) (K : PySem.W.Frag) (f : Rho → Res (Sl × Rho)) : TE := fun σ H Q => ∃ ρ s ρ', Ok P w K H σ ρ ∧ f ρ = .ok (s, ρ') ∧ ∀ v H', Pst P w K σ ρ H ρ' H' → RV P w K H' σ ρ' v (.val s) → Nw H v (.val s) → Q v H'
theorem pe_tk (h : PE X e (tRX X fa)) : PE X e (tTk X.prog X.w X.K fun ρ => (fa ρ).bind fun p => tak p.2 p.1) := by
  refine ⟨fun pins s σ H Q I ⟨ρ, sl, ρ', k, ef, q⟩ => ?_⟩
  obtain ⟨⟨r, ρ1⟩, e1, e2⟩ := Res.bind_eq_ok ef
  refine thn (h.run pins s σ H (fun v H1 => Pst X.prog X.w X.K σ ρ H ρ1 H1 ∧ RV X.prog X.w X.K H1 σ ρ1 v r ∧ Nw H v r) I ⟨ρ, r, ρ1, k, e1, fun v H' a b c => ⟨a, b, c⟩⟩) fun u s1 hz => ?_
  obtain ⟨v, H1, I1, rv, a, b, c⟩ := hz
  cases r with
  | val x =>
    cases x with
    | un => cases e2
    | shr d => cases e2; exact ⟨v, H1, I1, rv, q v H1 a b c⟩
    | own o => cases e2; exact ⟨v, H1, I1, rv, q v H1 a b c⟩
  | nam i =>
    have e2 : (rdS (gt ρ1 i)).bind (fun d => Res.ok (Sl.shr d, ρ1.set i (.shr d))) = .ok (sl, ρ') := e2
    obtain ⟨d, e3, e4⟩ := Res.bind_eq_ok e2
    cases e4
    have es : stl ρ1 (.nam i) = .ok (d, ρ1.set i (.shr d)) := by
      show (rdS (gt ρ1 i)).bind _ = _
      rw [e3]
      rfl
    obtain ⟨H2, I2, k2, sb, r2, tr, f2⟩ := frz_stl I1 a.ok b es
    exact ⟨v, H2, I2, rv, q v H2 (a.stl c k2 sb tr f2) r2 True.intro⟩
theorem st_name {P : Program} {w : World} {K : PySem.W.Frag} {σ : L2.St} {ρ ρ1 : Rho} {H H1 : Hp} (a : Pst P w K σ ρ H ρ1 H1) {i : Nat} {v : V} {s : Sl} (b : RV P w K H1 σ ρ1 v (.val s)) (c : Nw H v (.val s)) (hi : np ≤ i) (hl : i < ρ1.length) :
    SPst P w K np σ ρ H (σ.set i (some v)) (ρ1.set i s) H1 := by
  have hs : s ≠ .un := by rintro rfl; exact b
  have hr : RpS P w K H1 v s := by
    cases s with
    | un => exact True.intro
    | shr d => exact b
    | own o => obtain ⟨x, e, q, _⟩ := b; exact ⟨x, e, q⟩
  have ow : ∀ o x, s = .own o → v = .ref x → ¬ Ow σ ρ1 x := by
    rintro o x rfl rfl
    obtain ⟨y, e, _, n⟩ := b
    cases e
    exact n
  have nw : ∀ o x, s = .own o → v = .ref x → H x = none := by
    rintro o x rfl rfl
    exact c x rfl
  have k2 : Ok P w K H1 (σ.set i (some v)) (ρ1.set i s) := st_set (np := np) a.ok hi hl hs hr ow
  have hl2 : i < σ.length := by rw [← a.ok.len]; exact hl
  refine ⟨a.fr, k2, fun j x z => ?_, a.trk, by rw [List.length_set]; exact a.sub.len, fun j hj => List.getElem?_set_ne (by omega)⟩
  obtain ⟨⟨o, e⟩, z⟩ := z
  rw [gt_set] at e
  by_cases h : i = j
  · subst h
    rw [if_pos ⟨rfl, hl⟩] at e
    rw [List.getElem?_set_self hl2] at z
    cases z
    exact .inr ⟨hi, .inr (nw o x e rfl)⟩
  · rw [if_neg fun q => h q.1] at e
    rw [List.getElem?_set_ne h] at z
    have q : OwI σ ρ j x := ⟨a.sub.own j o e, z⟩
    by_cases hj : j < np
    · exact .inl ⟨hj, q⟩
    · exact .inr ⟨by omega, .inl ⟨j, by omega, q⟩⟩
end
end Rt
set_option maxRecDepth 100000
set_option maxHeartbeats 4000000
namespace Rt
open PySem PySem.Spec PyProof.Rows L2
/-! ### o[k] = v of a thing that is owned -/
def rPut (P : Program) (w : World) (K : PySem.W.Frag) : TSet := fun o i v H Q => ∃ a ob di dv ob', o = .ref a ∧ OwnAt P w K H a ob ∧ Rp P w K H i di ∧ Rp P w K H v dv ∧ putR ob di dv = .ok ob' ∧ ∀ u, OwnAt P w K (upd H a u) a ob' → Q (upd H a u)
section
variable {X : Cx}
theorem storedH_len (xs : List (NestedKey × Addr × Value)) (k : NestedKey) (b : Addr) (u : Value) : (storedH xs k b u).length ≤ xs.length + 1 := by
  unfold storedH
  split
  · simp
  · simp
theorem storedH_ne (xs : List (NestedKey × Addr × Value)) (k : NestedKey) (b : Addr) (u : Value) : storedH xs k b u ≠ [] := by
  unfold storedH
  split
  · rename_i h
    intro z
    have : xs = [] := by simpa using z
    subst this
    simp [atKey] at h
  · simp
theorem set_put (hu : X.A.units + 70 < cLine) : PSet X (rPut X.prog X.w X.K) := by
  intro pins s σ H o i v ov iv u Q I ro ri rv h
  obtain ⟨a, ob, di, dv, ob', rfl, hob, hi, hv, e, q⟩ := h
  cases ob with
  | lst ds =>
    cases di with
    | int k =>
      obtain ⟨j, e1, e⟩ := Res.bind_eq_ok e
      cases e
      obtain ⟨vs, hl, r⟩ := hob
      cases hi
      have e2 := Res.get_eq_ok e1
      rw [← r.length] at e2
      refine set_list pins s σ H _ _ v ov iv u Q I ro ri rv ⟨a, vs, k, j, rfl, rfl, hl, e2, q _ ⟨_, upd_same, ?_⟩⟩
      have kp := keep_upd (u2 := .lst (vs.set j v)) hl True.intro
      exact (r.keep kp).set (hv.keep kp) j
    | _ => cases e
  | dct kvs =>
    have e : Res.guard (okFor kvs di && decide (kvs.length < lim)) (.ok (.dct (put kvs di dv))) = .ok ob' := by
      cases di <;> exact e
    obtain ⟨g, e⟩ := Res.guard_eq_ok e
    cases e
    simp only [Bool.and_eq_true, decide_eq_true_eq] at g
    obtain ⟨g1, g2⟩ := g
    rw [lim_line] at g2
    obtain ⟨kk, kh⟩ := okFor_kinds g1
    cases (show ov = Value.ref a from ro)
    rcases kk with k0 | k1
    · obtain ⟨k, rfl⟩ := kind0 k0
      have ei : i = kV k := by
        cases k with
        | inl _ => cases hi; rfl
        | inr _ => cases hi; rfl
      rcases hob with ⟨ks, hd, r⟩ | ⟨xs, hd, n, r⟩
      · have kp := keep_upd (u2 := .dK (putK ks k v)) hd True.intro
        refine d_setItem (by omega) I (.inl ⟨ks, k, hd, ei, by rw [r.length]; exact g2, rfl⟩) ri rv fun s' I' => ⟨_, I', q _ (.inl ⟨_, upd_same, (r.keep kp).put k (hv.keep kp)⟩)⟩
      · cases kvs with
        | nil => cases r; exact absurd rfl n
        | cons p t =>
          have e1 := kh p t rfl
          rw [r.kind, k0] at e1
          cases e1
    · obtain ⟨ks, ek, _⟩ := kind1 k1
      obtain ⟨b, eb⟩ : ∃ b, i = .ref b := by
        subst ek
        cases hi with
        | tup _ _ => exact ⟨_, rfl⟩
      subst eb
      cases (show iv = Value.ref b from ri)
      have go : ∀ (u0 : HO) (xs : List (NestedKey × Addr × Value)), H a = some u0 → Wr u0 → s.heap.DictOfH (nestedKind X.prog X.w) a xs → (a == sysModules) = false → RpT X.prog X.w X.K H xs kvs →
          wpAny (model X.prog X.w) X.A (setItem (.ref a) (.ref b) u) (fun _ s' => ∃ H', Inv X pins σ H' s' ∧ Q H') X.xe s := by
        intro u0 xs h0 wr hm hsys r
        have hz : xs.length ≤ sizeLine := by rw [r.length]; omega
        refine wpAny_setItem_heap (hsz := hz) (show X.A.in1.units + 8 < cLine from by show X.A.units + 1 + 8 < cLine; omega) (hi.key I k1) hm fun h' hm' hs => ?_
        have hl2 := storedH_len xs (nk di) b u
        have kp := keep_upd (u2 := tO X.prog X.w a (storedH xs (nk di) b u)) h0 wr
        have he : ∃ o, h'.get? a = some o := let ⟨o, _, _, hq, _⟩ := hm'; ⟨o, hq⟩
        refine ⟨_, d_write I (by rw [h0]; exact wr.mut) hs he (tO_new hm' hsys (by rw [r.length] at hl2; omega)), q _ (.inr ⟨_, upd_same, storedH_ne _ _ _ _, (r.keep kp).put k1 (hi.keep kp) rv (hv.keep kp)⟩)⟩
      rcases hob with ⟨ls, hd, r⟩ | ⟨xs, hd, n, r⟩
      · cases kvs with
        | nil =>
          cases r
          obtain ⟨q1, q2⟩ := empty_raw I (.inl hd)
          exact go _ [] hd True.intro q1 q2 .nil
        | cons p t =>
          have e1 := kh p t rfl
          rw [r.kind, k1] at e1
          cases e1
      · obtain ⟨q1, q2, _⟩ := tO_raw I (.inl hd) r
        exact go _ xs hd True.intro q1 q2 r
def putF (np : Nat) (i : Nat) (fa fk : Rho → Res (PyData × Rho)) (ρ : Rho) : Res (Fl × Rho) := (fa ρ).bind fun x => Res.guard (isOwn (gt x.2 i)) ((fk x.2).bind fun y => match gt y.2 i with
  | .own o => (putR o y.1 x.1).bind fun o2 => .ok (.nxt, y.2.set i (.own o2))
  | _ => .bad)
theorem ps_put {np i : Nat} {x : Str} {e k : Expr} {pn pt pos : Pos} {fa fk : Rho → Res (PyData × Rho)} (hu : X.A.units + 70 < cLine) (hN : X.N[i]? = some x) (hv : Vis X.env.scope x) (hd : (x == ("__debug__" : Str)) = false) (hcd : (x == ("__classdict__" : Str)) = false)
    (he : PE X e (tSX X fa)) (hk : PE X k (tSX X fk)) (ha : ∀ v, assign (.Subscript (.Name x pn) k pt) X.env v = (do
      let ov ← holding [v] (eval (.Name x pn) X.env)
      let iv ← holding [v, ov] (eval k X.env)
      standAt pt
      holding [v, ov, iv] (setItem ov iv v)
      release [v, ov, iv] [])) (hs : swapsWithSole [.Subscript (.Name x pn) k pt] e pos.line X.env = pure false) (hw : swappedStores [.Subscript (.Name x pn) k pt] e X.env = pure none) :
    PS X (.Assign [.Subscript (.Name x pn) k pt] e pos) (tStX X np (putF np i fa fk)) := by
  refine ps_weak (ps_asg he (pg_sub (pe_var hN hv hd hcd) hk (set_put hu) ha) hs hw rfl) fun D σ H ⟨ρ, fl, ρ', ok, e, o⟩ => ?_
  obtain ⟨y, e1, e⟩ := Res.bind_eq_ok e
  obtain ⟨gw, e⟩ := Res.guard_eq_ok e
  obtain ⟨z, e2, e⟩ := Res.bind_eq_ok e
  refine ⟨ρ, y.1, y.2, ok, e1, fun v1 H1 a1 r1 => ?_⟩
  cases h1 : gt z.2 i with
  | own ob =>
    simp only [h1] at e
    obtain ⟨o2, e3, e⟩ := Res.bind_eq_ok e
    cases e
    have hσ : ∃ w, σ[i]? = some (some w) := by
      obtain ⟨w, hw, _⟩ := a1.ok.rep i (fun z => by rw [z] at gw; cases gw)
      exact ⟨w, hw⟩
    obtain ⟨w, hw⟩ := hσ
    refine ⟨w, hw, y.2, z.1, z.2, a1.ok, e2, fun v2 H2 a2 r2 => ?_⟩
    obtain ⟨a, ha2, q2⟩ := a2.ok.at h1
    rw [hw] at ha2
    cases ha2
    exact ⟨a, ob, z.1, y.1, o2, rfl, q2, r2, r1.keep (a2.keep a1.ok), e3, fun u hu => o _ _ (Pst.st ((a1.trans a2).trans (a2.ok.wr h1 hw hu)))⟩
  | _ => simp [h1] at e
end
end Rt
set_option maxRecDepth 100000
set_option maxHeartbeats 4000000
namespace Rt
open PySem PySem.Spec PyProof.Rows L2
section
variable {X : Cx} {np : Nat} {e c tg iter : Expr} {es : List Expr} {st : Stmt} {sts body : List Stmt} {pos : Pos} {fa fc : Rho → Res (Rv × Rho)} {fs gs : Rho → Res (Fl × Rho)} {fr : Rho → Res (List Rv × Rho)}
/-! ### name = e -/
def fTk (fa : Rho → Res (Rv × Rho)) (ρ : Rho) : Res (Sl × Rho) := (fa ρ).bind fun p => tak p.2 p.1
def asgF (np i : Nat) (fa : Rho → Res (Rv × Rho)) (ρ : Rho) : Res (Fl × Rho) := (fa ρ).bind fun p => (tak p.2 p.1).bind fun q => (stS np i q.1 q.2).bind fun ρ => .ok (.nxt, ρ)
theorem stS_ok {i : Nat} {s : Sl} {ρ ρ' : Rho} (h : stS np i s ρ = .ok ρ') : np ≤ i ∧ i < ρ.length ∧ ρ' = ρ.set i s := by
  obtain ⟨g, e⟩ := Res.guard_eq_ok h
  cases e
  simp only [Bool.and_eq_true, decide_eq_true_eq] at g
  exact ⟨g.1, g.2, rfl⟩
theorem asg_name {i : Nat} {te : TE} (ht : ∀ σ H Q, tTk X.prog X.w X.K (fTk fa) σ H Q → te σ H Q) {D : Ends} {σ : L2.St} {H : Hp} (h : tStX X np (asgF np i fa) D σ H) : tAsg te (gName i) D σ H := by
  obtain ⟨ρ, fl, ρ', k, e, o⟩ := h
  obtain ⟨p, e1, e⟩ := Res.bind_eq_ok e
  obtain ⟨q, e2, e⟩ := Res.bind_eq_ok e
  obtain ⟨ρ2, e3, e⟩ := Res.bind_eq_ok e
  cases e
  obtain ⟨g1, g2, rfl⟩ := stS_ok e3
  exact ht _ _ _ ⟨ρ, q.1, q.2, k, by show (fa ρ).bind _ = _; rw [e1]; exact e2, fun v H1 a b c => o _ _ (st_name a b c g1 g2)⟩
theorem ps_nm {i : Nat} {x : Str} {p1 : Pos} (hN : X.N.Nodup) (hi : X.N[i]? = some x) (hx : Loc X.env.scope x) (h : PE X e (tRX X fa)) (hs : swapsWith e (some (.Name x p1)) pos.line X.env = pure false) (hf : X.fn x = true ∨ X.env.scope.names.lookup x = some .local) :
    PS X (.Assign [.Name x p1] e pos) (tStX X np (asgF np i fa)) := ps_weak (ps_set hN hi hx (pe_tk h) hs hf) fun D σ H q => asg_name (fun _ _ _ z => z) q
/-! ### (a, b) = e -/
theorem ps_tg {t : Tg} {fd : Rho → Res (PyData × Rho)} (h : PE X e (tSX X fd)) (hg : PG X tg (gT X.prog X.w X.K np t)) (hnp : ∀ i ∈ tgs t, np ≤ i) (hs : swapsWithSole [tg] e pos.line X.env = pure false) (hw : swappedStores [tg] e X.env = pure none) (h1 : (assignEach [tg] X.env).map (·.2) = [assign tg X.env]) :
    PS X (.Assign [tg] e pos) (tStX X np fun ρ => (fd ρ).bind fun q => (bt np t q.1 q.2).bind fun ρ => .ok (.nxt, ρ)) := by
  refine ps_weak (ps_asg h hg hs hw h1) fun D σ H ⟨ρ, fl, ρ', k, e, o⟩ => ?_
  obtain ⟨y, e1, e⟩ := Res.bind_eq_ok e
  obtain ⟨ρ2, e2, e⟩ := Res.bind_eq_ok e
  cases e
  exact ⟨ρ, y.1, y.2, k, e1, fun v H1 a r => ⟨y.2, y.1, _, a.ok, r, e2, fun σ' t' => o _ _ (a.st.trans (t'.st hnp))⟩⟩
/-! ### a, b = x, y -/
def tAT (P : Program) (w : World) (K : PySem.W.Frag) (f : Rho → Res (List Sl × Rho)) : TA := fun σ H Q => ∃ ρ ss ρ', Ok P w K H σ ρ ∧ f ρ = .ok (ss, ρ') ∧ ∀ vs H', Pst P w K σ ρ H ρ' H' → RVs P w K H' σ ρ' vs (ss.map .val) → Nws H vs (ss.map .val) → Apart vs (ss.map .val) → Q vs H'
theorem tak_lock {pins : List (Addr × Obj)} {s : Shared} {σ : L2.St} {v : V} {r : Rv} {H : Hp} {ρ ρ' : Rho} {sl : Sl} (I : Inv X pins σ H s) (k : Ok X.prog X.w X.K H σ ρ) (b : RV X.prog X.w X.K H σ ρ v r) (e : tak ρ r = .ok (sl, ρ')) :
    ∃ H', Inv X pins σ H' s ∧ Pst X.prog X.w X.K σ ρ H ρ' H' ∧ RV X.prog X.w X.K H' σ ρ' v (.val sl) := by
  cases r with
  | val x =>
    cases x with
    | un => cases e
    | shr d => cases e; exact ⟨H, I, Pst.refl k, b⟩
    | own o => cases e; exact ⟨H, I, Pst.refl k, b⟩
  | nam i =>
    obtain ⟨d, e3, e4⟩ := Res.bind_eq_ok (show (rdS (gt ρ i)).bind (fun d => Res.ok (Sl.shr d, ρ.set i (.shr d))) = .ok (sl, ρ') from e)
    cases e4
    have es : stl ρ (.nam i) = .ok (d, ρ.set i (.shr d)) := by
      show (rdS (gt ρ i)).bind _ = _
      rw [e3]
      rfl
    obtain ⟨H2, I2, k2, sb, r2, tr, f2⟩ := frz_stl I k b es
    exact ⟨H2, I2, ⟨fun a u h n => f2 a u h fun _ => ⟨fun o z => (nomatch z), n⟩, k2, sb, tr⟩, r2⟩
theorem taks_lock {pins : List (Addr × Obj)} {s : Shared} {σ : L2.St} : ∀ {rs : List Rv} {vs : List V} {H : Hp} {ρ ρ' : Rho} {ss : List Sl}, Inv X pins σ H s → Ok X.prog X.w X.K H σ ρ → RVs X.prog X.w X.K H σ ρ vs rs → taks ρ rs = .ok (ss, ρ') →
    ∃ H', Inv X pins σ H' s ∧ Pst X.prog X.w X.K σ ρ H ρ' H' ∧ RVs X.prog X.w X.K H' σ ρ' vs (ss.map .val)
  | [], vs, H, ρ, ρ', ss, I, k, r, e => by
    cases e
    cases r
    exact ⟨H, I, Pst.refl k, .nil⟩
  | r1 :: rs, vs, H, ρ, ρ', ss, I, k, r, e => by
    obtain ⟨p, e1, e⟩ := Res.bind_eq_ok e
    obtain ⟨q, e2, e⟩ := Res.bind_eq_ok e
    cases e
    cases r with
    | @cons v vs _ _ rv rr =>
      obtain ⟨H1, I1, a1, b1⟩ := tak_lock I k rv e1
      obtain ⟨H2, I2, a2, b2⟩ := taks_lock I1 a1.ok (rr.keep k a1.fr a1.sub) e2
      exact ⟨H2, I2, a1.trans a2, .cons (b1.keep a1.ok a2.fr a2.sub) b2⟩
theorem tak_own {ρ ρ' : Rho} {r : Rv} {o : Ob} (e : tak ρ r = .ok (.own o, ρ')) : r = .val (.own o) := by
  cases r with
  | val x =>
    cases x with
    | un => cases e
    | shr d => cases e
    | own o => cases e; rfl
  | nam i =>
    obtain ⟨d, e3, e4⟩ := Res.bind_eq_ok (show (rdS (gt ρ i)).bind (fun d => Res.ok (Sl.shr d, ρ.set i (.shr d))) = .ok (.own o, ρ') from e)
    cases e4
theorem taks_own : ∀ {rs : List Rv} {ρ ρ' : Rho} {ss : List Sl} {j : Nat} {o : Ob}, taks ρ rs = .ok (ss, ρ') → ss[j]? = some (.own o) → rs[j]? = some (.val (.own o))
  | [], ρ, ρ', ss, j, o, e, h => by cases e; simp at h
  | r :: rs, ρ, ρ', ss, j, o, e, h => by
    obtain ⟨p, e1, e⟩ := Res.bind_eq_ok e
    obtain ⟨q, e2, e⟩ := Res.bind_eq_ok e
    cases e
    cases j with
    | zero =>
      simp at h
      have : tak ρ r = .ok (.own o, p.2) := by rw [e1, ← h]
      rw [tak_own this]
      rfl
    | succ j => simpa using taks_own e2 (by simpa using h)
theorem pa_tk {es : List Expr} (h : PA X es (tAX X fr)) : PA X es (fun σ H Q => ∃ ρ ss ρ', Ok X.prog X.w X.K H σ ρ ∧ ((fr ρ).bind fun p => taks p.2 p.1) = .ok (ss, ρ') ∧ ∀ vs H', Pst X.prog X.w X.K σ ρ H ρ' H' → RVs X.prog X.w X.K H' σ ρ' vs (ss.map .val) →
    (∀ (j : Nat) (o : Ob) (a : Addr), ss[j]? = some (.own o) → vs[j]? = some (.ref a) → H a = none) → (∀ (i j : Nat) (o o' : Ob) (a : Addr), ss[i]? = some (.own o) → ss[j]? = some (.own o') → vs[i]? = some (.ref a) → vs[j]? = some (.ref a) → i = j) → Q vs H') := by
  refine ⟨fun pos pins s σ H Q I ⟨ρ, ss, ρ', k, ef, q⟩ => ?_⟩
  obtain ⟨⟨rs, ρ1⟩, e1, e2⟩ := Res.bind_eq_ok ef
  refine thn (h.run pos pins s σ H (fun vs H1 => Pst X.prog X.w X.K σ ρ H ρ1 H1 ∧ RVs X.prog X.w X.K H1 σ ρ1 vs rs ∧ Nws H vs rs ∧ Apart vs rs) I ⟨ρ, rs, ρ1, k, e1, fun vs H' a b c d => ⟨a, b, c, d⟩⟩) fun us s1 hz => ?_
  obtain ⟨vs, H1, I1, rv, a, b, c, d⟩ := hz
  obtain ⟨H2, I2, a2, b2⟩ := taks_lock I1 a.ok b e2
  exact ⟨vs, H2, I2, rv, q vs H2 (a.trans a2) b2 (fun j o x h1 h2 => nws_get c (taks_own e2 h1) h2) fun i j o o' x h1 h2 h3 h4 => apart_get d (taks_own e2 h1) (taks_own e2 h2) h3 h4⟩
/-- the names of a display's items are stored -/
def setAll (σ : L2.St) : List Nat → List V → L2.St
  | i :: is, v :: vs => setAll (σ.set i (some v)) is vs
  | _, _ => σ
theorem st_all : ∀ {is : List Nat} {vs : List V} {ss : List Sl} {σ0 σ : L2.St} {ρ0 ρ ρ' : Rho} {H0 H : Hp}, SPst X.prog X.w X.K np σ0 ρ0 H0 σ ρ H → vs.length = ss.length → (∀ (j : Nat) (v : V) (s : Sl), vs[j]? = some v → ss[j]? = some s → s ≠ .un ∧ RpS X.prog X.w X.K H v s) →
    (∀ (j : Nat) (o : Ob) (a : Addr), ss[j]? = some (.own o) → vs[j]? = some (.ref a) → ¬ Ow σ ρ a ∧ H0 a = none) → (∀ (i j : Nat) (o o' : Ob) (a : Addr), ss[i]? = some (.own o) → ss[j]? = some (.own o') → vs[i]? = some (.ref a) → vs[j]? = some (.ref a) → i = j) →
    stAll np is ss ρ = .ok ρ' → SPst X.prog X.w X.K np σ0 ρ0 H0 (setAll σ is vs) ρ' H
  | [], vs, ss, σ0, σ, ρ0, ρ, ρ', H0, H, a, hl, hr, ho, hs, e => by
    cases ss with
    | nil => cases e; cases vs <;> exact a
    | cons _ _ => cases e
  | i :: is, vs, ss, σ0, σ, ρ0, ρ, ρ', H0, H, a, hl, hr, ho, hs, e => by
    cases ss with
    | nil => cases e
    | cons s ss =>
      cases vs with
      | nil => simp at hl
      | cons v vs =>
        obtain ⟨ρ1, e1, e⟩ := Res.bind_eq_ok e
        obtain ⟨g1, g2, rfl⟩ := stS_ok e1
        obtain ⟨hs1, hr1⟩ := hr 0 v s rfl rfl
        have ow : ∀ o x, s = .own o → v = .ref x → ¬ Ow σ ρ x ∧ H0 x = none := fun o x h1 h2 => ho 0 o x (by rw [h1]; rfl) (by rw [h2]; rfl)
        have k2 := st_set (np := np) a.ok g1 g2 hs1 hr1 fun o x h1 h2 => (ow o x h1 h2).1
        have g3 : i < σ.length := by rw [← a.ok.len]; exact g2
        have own1 : ∀ j x, OwI (σ.set i (some v)) (ρ.set i s) j x → (j = i ∧ ∃ o, s = .own o ∧ v = .ref x) ∨ (j ≠ i ∧ OwI σ ρ j x) := fun j x z => by
          obtain ⟨⟨o, e⟩, z⟩ := z
          rw [gt_set] at e
          by_cases c : i = j
          · subst c
            rw [if_pos ⟨rfl, g2⟩] at e
            rw [List.getElem?_set_self g3] at z
            exact .inl ⟨rfl, o, e, by cases z; rfl⟩
          · rw [if_neg fun q => c q.1] at e
            rw [List.getElem?_set_ne c] at z
            exact .inr ⟨fun q => c q.symm, ⟨o, e⟩, z⟩
        have a1 : SPst X.prog X.w X.K np σ0 ρ0 H0 (σ.set i (some v)) (ρ.set i s) H := by
          refine ⟨a.fr, k2, fun j x z => ?_, a.trk, by rw [List.length_set]; exact a.len, fun j hj => (List.getElem?_set_ne (by omega)).trans (a.par j hj)⟩
          rcases own1 j x z with ⟨rfl, o, h1, h2⟩ | ⟨_, z⟩
          · exact .inr ⟨g1, .inr (ow o x h1 h2).2⟩
          · exact a.own j x z
        show SPst X.prog X.w X.K np σ0 ρ0 H0 (setAll (σ.set i (some v)) is vs) ρ' H
        refine st_all a1 (by simpa using hl) (fun j v2 s2 h1 h2 => hr (j + 1) v2 s2 (by simpa using h1) (by simpa using h2)) (fun j o x h1 h2 => ⟨fun ⟨m, z⟩ => ?_, (ho (j + 1) o x (by simpa using h1) (by simpa using h2)).2⟩) (fun i' j' o o' x h1 h2 h3 h4 => ?_) e
        · rcases own1 m x z with ⟨rfl, o2, h3, h4⟩ | ⟨_, z⟩
          · have := hs 0 (j + 1) o2 o x (by rw [h3]; rfl) (by simpa using h1) (by rw [h4]; rfl) (by simpa using h2)
            cases this
          · exact (ho (j + 1) o x (by simpa using h1) (by simpa using h2)).1 ⟨m, z⟩
        · have := hs (i' + 1) (j' + 1) o o' x (by simpa using h1) (by simpa using h2) (by simpa using h3) (by simpa using h4)
          omega
def parF (np : Nat) (is : List Nat) (fr : Rho → Res (List Rv × Rho)) (ρ : Rho) : Res (Fl × Rho) := (fr ρ).bind fun p => (taks p.2 p.1).bind fun q => Res.guard (decide is.Nodup) ((stAll np is q.1 q.2).bind fun ρ => .ok (.nxt, ρ))
theorem stAll_len : ∀ {is : List Nat} {ss : List Sl} {ρ ρ' : Rho}, stAll np is ss ρ = .ok ρ' → is.length = ss.length
  | [], [], _, _, _ => rfl
  | [], _ :: _, _, _, e => by cases e
  | _ :: _, [], _, _, e => by cases e
  | i :: is, s :: ss, ρ, ρ', e => by
    obtain ⟨ρ1, e1, e⟩ := Res.bind_eq_ok e
    simp [stAll_len e]
/-- what all three forms come to -/
theorem par_core {is : List Nat} {D : Ends} {σ : L2.St} {H : Hp} (h : tStX X np (parF np is fr) D σ H) : ∃ ρ ss ρ', Ok X.prog X.w X.K H σ ρ ∧ ((fr ρ).bind fun p => taks p.2 p.1) = .ok (ss, ρ') ∧ is.Nodup ∧ is.length = ss.length ∧
    ∀ vs H', Pst X.prog X.w X.K σ ρ H ρ' H' → RVs X.prog X.w X.K H' σ ρ' vs (ss.map .val) → (∀ (j : Nat) (o : Ob) (a : Addr), ss[j]? = some (.own o) → vs[j]? = some (.ref a) → H a = none) →
      (∀ (i j : Nat) (o o' : Ob) (a : Addr), ss[i]? = some (.own o) → ss[j]? = some (.own o') → vs[i]? = some (.ref a) → vs[j]? = some (.ref a) → i = j) → D.nx (setAll σ is vs) H' ∧ vs.length = is.length := by
  obtain ⟨ρ, fl, ρ', k, e, o⟩ := h
  obtain ⟨p, e1, e⟩ := Res.bind_eq_ok e
  obtain ⟨q, e2, e⟩ := Res.bind_eq_ok e
  obtain ⟨g, e⟩ := Res.guard_eq_ok e
  obtain ⟨ρ2, e3, e⟩ := Res.bind_eq_ok e
  cases e
  have hl := stAll_len e3
  refine ⟨ρ, q.1, q.2, k, by rw [e1]; exact e2, of_decide_eq_true g, hl, fun vs H' a r n ap => ?_⟩
  have hv : vs.length = q.1.length := by have := r.len; rwa [List.length_map] at this
  refine ⟨o _ _ (st_all a.st hv (fun j v s h1 h2 => ?_) (fun j o x h1 h2 => ⟨?_, n j o x h1 h2⟩) ap e3), by omega⟩
  · have rv := r.get h1 (show (q.1.map Rv.val)[j]? = some (.val s) by rw [List.getElem?_map, h2]; rfl)
    cases s with
    | un => exact rv.elim
    | shr d => exact ⟨fun z => (nomatch z), rv⟩
    | own o => obtain ⟨x, e, z, _⟩ := rv; exact ⟨fun z => (nomatch z), x, e, z⟩
  · have rv := r.get h2 (show (q.1.map Rv.val)[j]? = some (.val (.own o)) by rw [List.getElem?_map, h1]; rfl)
    obtain ⟨y, e, _, z⟩ := rv
    cases e
    exact z
theorem ps_par2 {i j : Nat} {x y : Str} {a b : Expr} {px py pt : Pos} {kt k2 : Nat} {pt2 : Pos} (hc : X.calm = true) (hN : X.N.Nodup) (hi : X.N[i]? = some x) (hj : X.N[j]? = some y)
    (hx : X.env.scope.names.lookup x = some .local) (hy : X.env.scope.names.lookup y = some .local) (ha : PA X [a, b] (tAX X fr))
    (hw : swappedStores [.Tuple [.Name x px, .Name y py] kt pt] (.Tuple [a, b] k2 pt2) X.env = pure (some [x, y])) (hij : i ≠ j) :
    PS X (.Assign [.Tuple [.Name x px, .Name y py] kt pt] (.Tuple [a, b] k2 pt2) pos) (tStX X np (parF np [i, j] fr)) := by
  refine ps_weak (ps_par hc hN hi hj hij hx hy (pa_tk ha) hw) fun D σ H h => ?_
  obtain ⟨ρ, ss, ρ', k, e, nd, hl, f⟩ := par_core h
  refine ⟨ρ, ss, ρ', k, e, fun vs H' q1 q2 q3 q4 => ?_⟩
  obtain ⟨g, gl⟩ := f vs H' q1 q2 q3 q4
  match vs, gl, g with
  | [v, w], _, g => exact ⟨v, w, rfl, g⟩
/-- no swapped stores: the tuple stands for a moment -/
theorem ps_parT {is : List Nat} {ts : List Expr} {kt k2 : Nat} {pt pt2 : Pos} (hc : X.calm = true) (ha : PA X es (tAX X fr)) (ht : PGs X ts (fun vs σ H Q => vs.length = is.length ∧ Q (setAll σ is vs) H)) (hn : (assignEach ts X.env).length = is.length) (hl8 : is.length ≤ 100) (hst : (assignEach ts X.env).findIdx? (·.1) = none)
    (hs : swapsWithSole [.Tuple ts kt pt] (.Tuple es k2 pt2) pos.line X.env = pure false) (hw : swappedStores [.Tuple ts kt pt] (.Tuple es k2 pt2) X.env = pure none) (h1 : (assignEach [.Tuple ts kt pt] X.env).map (·.2) = [assign (.Tuple ts kt pt) X.env]) :
    PS X (.Assign [.Tuple ts kt pt] (.Tuple es k2 pt2) pos) (tStX X np (parF np is fr)) := by
  refine ps_weak (ps_asg (pe_tup (pa_tk ha)) (pg_tup hc ht hn hst) hs hw h1) fun D σ H h => ?_
  obtain ⟨ρ, ss, ρ', k, e, nd, hl, f⟩ := par_core h
  refine ⟨ρ, ss, ρ', k, e, fun vs H' q1 q2 q3 q4 => ?_⟩
  have hv : vs.length = is.length := (f vs H' q1 q2 q3 q4).2
  refine ⟨by rw [hv]; exact Nat.le_trans hl8 (by decide), fun b hb => ?_⟩
  have q1' : Pst X.prog X.w X.K σ ρ H ρ' (upd H' b (.tup vs)) := q1.new hb
  have g : Grow H' (upd H' b (.tup vs)) := .one hb
  have q2' : RVs X.prog X.w X.K (upd H' b (.tup vs)) σ ρ' vs (ss.map .val) := q2.keep q1.ok (fr_new hb) (Sub.refl _)
  obtain ⟨g1, gl⟩ := f vs _ q1' q2' q3 q4
  exact ⟨b, vs, rfl, .inl (.inl upd_same), hv, hv, g1⟩
end
end Rt
set_option maxRecDepth 100000
set_option maxHeartbeats 4000000
namespace Rt
open PySem PySem.Spec PyProof.Rows L2
section
variable {X : Cx} {np : Nat} {e c tg iter : Expr} {es : List Expr} {st : Stmt} {sts body : List Stmt} {pos : Pos} {fa fc : Rho → Res (Rv × Rho)} {fs gs : Rho → Res (Fl × Rho)} {fr : Rho → Res (List Rv × Rho)} {fi : Rho → Res (List PyData × Rho)}
/-! ### three names at once -/
theorem ps_par3 {i j l : Nat} {x y z : Str} {a b d : Expr} {px py pz pt : Pos} {kt k2 : Nat} {pt2 : Pos} (hc : X.calm = true) (hN : X.N.Nodup) (hi : X.N[i]? = some x) (hj : X.N[j]? = some y) (hl : X.N[l]? = some z)
    (hx : X.env.scope.names.lookup x = some .local) (hy : X.env.scope.names.lookup y = some .local) (hz : X.env.scope.names.lookup z = some .local) (ha : PA X [a, b, d] (tAX X fr))
    (hw : swappedStores [.Tuple [.Name x px, .Name y py, .Name z pz] kt pt] (.Tuple [a, b, d] k2 pt2) X.env = pure (some [x, y, z])) (hij : i ≠ j) (hil : i ≠ l) (hjl : j ≠ l) :
    PS X (.Assign [.Tuple [.Name x px, .Name y py, .Name z pz] kt pt] (.Tuple [a, b, d] k2 pt2) pos) (tStX X np (parF np [i, j, l] fr)) := by
  refine ⟨fun pins s σ H D I h => ?_⟩
  obtain ⟨ρ, ss, ρ', k, e, nd, hlen, f⟩ := par_core h
  rw [exec_Assign_arm]
  refine wpAny_bind (wpAny_standAt ?_)
  rw [show swapsWithSole [.Tuple [.Name x px, .Name y py, .Name z pz] kt pt] (.Tuple [a, b, d] k2 pt2) pos.line X.env = pure false from rfl]
  refine wpAny_bind (wpAny_pure ?_)
  rw [if_neg (by decide)]
  refine wpAny_bind (Tuple_ (thn ((pa_tk ha).run _ pins s σ H (fun vs H1 => vs.length = [i, j, l].length ∧ D.nx (setAll σ [i, j, l] vs) H1) I ⟨ρ, ss, ρ', k, e, fun vs H' q1 q2 q3 q4 => let ⟨g, gl⟩ := f vs H' q1 q2 q3 q4; ⟨gl, g⟩⟩) fun us s1 ⟨vs, H1, I1, r1, ql, q1⟩ => ?_))
  obtain ⟨v1, v2, v3, rfl⟩ : ∃ v1 v2 v3, vs = [v1, v2, v3] := by
    match vs, ql with
    | [v1, v2, v3], _ => exact ⟨v1, v2, v3, rfl⟩
  obtain ⟨u1, u2, u3, rfl, ru1, ru2, ru3⟩ : ∃ u1 u2 u3, us = [u1, u2, u3] ∧ RelV v1 u1 ∧ RelV v2 u2 ∧ RelV v3 u3 := by
    cases r1 with
    | cons w1 r1 => cases r1 with
      | cons w2 r1 => cases r1 with
        | cons w3 r1 => cases r1; exact ⟨_, _, _, rfl, w1, w2, w3⟩
  refine wpAny_newObj_type ?_ (by show 3 ≤ sizeLine; decide)
  have I2 : Inv X pins σ H1 { s1 with heap := s1.heap.push { cls := .type "tuple", data := .seq [u1, u2, u3].toArray } } := I1.kept (t' := s1.toks) fun _ _ e => Heap.get?_push_of_some _ e
  rw [hw]
  refine wpAny_bind (wpAny_pure ?_)
  show wpAny (model X.prog X.w) X.A (do rule "assign.swapped-stores"; let items ← unpackItems (.ref s1.heap.objs.size) 3 none; assignInOrder [fun v => bindName X.env z v, fun v => bindName X.env y v, fun v => bindName X.env x v] items.reverse; pure Flow.next) _ _ _
  refine wpAny_bind (wpAny_rule (wpAny_bind (unpackItems_tuple (items := #[u1, u2, u3]) (I.ok.hd hc) (IsTup.new s1.heap _) fun h' hx' => ?_)))
  have I3 := I2.kept (h' := h') (t' := s1.toks) fun b o e => hx' b o (Nat.ne_of_lt (Heap.lt_size e)) e
  show wpAny _ _ (assignInOrder [fun v => bindName X.env z v, fun v => bindName X.env y v, fun v => bindName X.env x v] [u3, u2, u1] >>= fun _ => pure Flow.next) _ _ _
  refine wpAny_bind (assignInOrder_cons (wpAny_bindName (store_ok I3 hN hl (.inl hz) ru3 (fun s2 I4 => ?_) (.inr hz))))
  refine assignInOrder_cons (wpAny_bindName (store_ok I4 hN hj (.inl hy) ru2 (fun s3 I5 => ?_) (.inr hy)))
  refine assignInOrder_cons (wpAny_bindName (store_ok I5 hN hi (.inl hx) ru1 (fun s4 I6 => assignInOrder_nil (wpAny_pure ?_)) (.inr hx)))
  refine ⟨_, H1, I6, ?_⟩
  have q2 : D.nx (((σ.set i (some v1)).set j (some v2)).set l (some v3)) H1 := q1
  rw [List.set_comm _ _ hjl, List.set_comm _ _ hil, List.set_comm _ _ hij] at q2
  have eq : ((σ.set l (some v3)).set j (some v2)).set i (some v1) = ((σ.set l (some v3)).set j (some v2)).set i (some v1) := rfl
  first
    | exact q2
    | (rw [List.set_comm _ _ hjl] at q2; exact q2)
    | (rw [List.set_comm _ _ hij.symm] at q2; exact q2)
/-! ### loops -/
theorem ps_wh {m : Nat} (hp : PassesOwn (model X.prog X.w) X.A X.env X.xe) (hc : PT X c (tTX X fun ρ => tst (fc ρ))) (hb : PSs X body (tStX X np gs)) : PS X (.While c body [] pos) (tStX X np fun ρ => whlGo (fun ρ => tst (fc ρ)) gs m ρ) := by
  refine ps_weak (ps_while hp hc hb) fun D σ H ⟨ρ, fl, ρ', k, e, o⟩ => ?_
  refine ⟨fun m σ H => ∃ ρ, Ok X.prog X.w X.K H σ ρ ∧ whlGo (fun ρ => tst (fc ρ)) gs m ρ = .ok (fl, ρ') ∧ Obl X.prog X.w X.K np D σ ρ H fl ρ', ⟨m, ρ, k, e, o⟩, ?_⟩
  rintro m σ H ⟨ρ, k, e, o⟩
  cases m with
  | zero => cases e
  | succ m =>
    unfold whlGo at e
    obtain ⟨⟨b, ρ1⟩, e1, e⟩ := Res.bind_eq_ok e
    refine ⟨ρ, b, ρ1, k, e1, fun H1 a1 => ?_⟩
    cases b with
    | false => cases e; exact o σ H1 a1.st
    | true =>
      dsimp only at e ⊢
      rw [if_pos rfl] at e ⊢
      obtain ⟨⟨f2, ρ2⟩, e2, e⟩ := Res.bind_eq_ok e
      have o1 := o.step a1.st
      refine ⟨fun σ' H' => ∃ ρ, Ok X.prog X.w X.K H' σ' ρ ∧ whlGo (fun ρ => tst (fc ρ)) gs m ρ = .ok (fl, ρ') ∧ Obl X.prog X.w X.K np D σ' ρ H' fl ρ', fun σ' H' q => ⟨m, Nat.lt_succ_self m, q⟩, ρ1, f2, ρ2, a1.ok, e2, ?_⟩
      cases f2 with
      | nxt => exact fun σ' H' a => ⟨ρ2, a.ok, e, o1.step a⟩
      | cnt => exact fun σ' H' a => ⟨ρ2, a.ok, e, o1.step a⟩
      | brk => cases e; exact o1
      | ret s => cases e; exact o1
theorem ps_fr {t : Tg} (hp : PassesOwn (model X.prog X.w) X.A X.env X.xe) (hcl : X.calm = true) (hi : PI X tg iter (tIX X fi)) (hg : PG X tg (gT X.prog X.w X.K np t)) (hnp : ∀ i ∈ tgs t, np ≤ i) (hb : PSs X body (tStX X np gs)) (hs : ∀ x, foldedSetIterable iter X.env x = pure x) :
    PS X (.For tg iter body [] pos) (tStX X np fun ρ => (fi ρ).bind fun p => forGo (fun d ρ => (bt np t d ρ).bind fun ρ => gs ρ) p.1 p.2) := by
  refine ps_weak (ps_for hp hcl hi hg hb hs) fun D σ H ⟨ρ, fl, ρ', k, e, o⟩ => ?_
  obtain ⟨⟨ds, ρ1⟩, e1, e⟩ := Res.bind_eq_ok e
  refine ⟨ρ, ds, ρ1, k, e1, fun J H1 a1 wk => ?_⟩
  refine ⟨fun i m σ H => m = ds.length - i ∧ i ≤ ds.length ∧ Keep H1 H ∧ ∃ ρ, Ok X.prog X.w X.K H σ ρ ∧ forGo (fun d ρ => (bt np t d ρ).bind fun ρ => gs ρ) (ds.drop i) ρ = .ok (fl, ρ') ∧ Obl X.prog X.w X.K np D σ ρ H fl ρ',
    ⟨ds.length, by simp, Nat.zero_le _, Keep.refl _, ρ1, a1.ok, e, o.step a1.st⟩, ?_⟩
  rintro i m σ H ⟨rfl, hi, kp, ρ, k, e, o⟩
  by_cases hlt : i < ds.length
  · have hd : ds[i]? = some ds[i] := List.getElem?_eq_getElem hlt
    rw [List.drop_eq_getElem_cons hlt] at e
    unfold forGo at e
    obtain ⟨⟨f2, ρ2⟩, e2, e⟩ := Res.bind_eq_ok e
    obtain ⟨ρ3, e3, e2⟩ := Res.bind_eq_ok e2
    obtain ⟨go, yl⟩ := (wk H kp i).2 _ hd
    refine .inr ⟨go, fun σ' H' => i + 1 ≤ ds.length ∧ Keep H1 H' ∧ ∃ ρ, Ok X.prog X.w X.K H' σ' ρ ∧ forGo (fun d ρ => (bt np t d ρ).bind fun ρ => gs ρ) (ds.drop (i + 1)) ρ = .ok (fl, ρ') ∧ Obl X.prog X.w X.K np D σ' ρ H' fl ρ',
      fun σ' H' q => ⟨ds.length - (i + 1), by omega, rfl, q⟩, fun x H3 yy => ?_⟩
    obtain ⟨gr, rx⟩ := yl x H3 yy
    have a3 : Pst X.prog X.w X.K σ ρ H ρ H3 := (Pst.refl k).grow gr
    refine ⟨ρ, _, ρ3, a3.ok, rx, e3, fun σ4 t4 => ?_⟩
    have s4 : SPst X.prog X.w X.K np σ ρ H σ4 ρ3 H3 := a3.st.trans (t4.st hnp)
    have o4 := o.step s4
    have kp4 : Keep H1 H3 := kp.trans gr.keep
    refine ⟨ρ3, f2, ρ2, t4.ok, e2, ?_⟩
    cases f2 with
    | nxt => exact fun σ' H' a => ⟨hlt, kp4.trans (a.keep t4.ok), ρ2, a.ok, e, o4.step a⟩
    | cnt => exact fun σ' H' a => ⟨hlt, kp4.trans (a.keep t4.ok), ρ2, a.ok, e, o4.step a⟩
    | brk => cases e; exact o4
    | ret s => cases e; exact o4
  · have e0 : i = ds.length := by omega
    subst e0
    rw [List.drop_length] at e
    cases e
    exact .inl ⟨(wk H kp _).1 (Nat.le_refl _), o σ H (SPst.refl k)⟩
/-! ### name op= e, of ints -/
theorem ip_of {o : Bop} (h : ipOk o = true) : PIp X (opr o) (ipI (ipF o)) := by
  cases o <;> first
    | exact ip_add
    | exact ip_sub
    | cases h
theorem ps_ag {i : Nat} {x : Str} {p1 : Pos} {o : Bop} (hN : X.N.Nodup) (hi : X.N[i]? = some x) (hx : Loc X.env.scope x) (h : PE X e (tRX X fa)) (hop : ipOk o = true) (hf : X.fn x = true ∨ X.env.scope.names.lookup x = some .local) :
    PS X (.AugAssign (.Name x p1) (opr o) e pos) (tStX X np (augF np i o fa)) := by
  refine ps_weak (ps_aug hN hi hx h (ip_of hop) hf) fun D σ H ⟨ρ, fl, ρ', k, e, ob⟩ => ?_
  obtain ⟨g, e⟩ := Res.guard_eq_ok e
  obtain ⟨x, e1, e⟩ := Res.bind_eq_ok e
  cases x with
  | int a =>
    obtain ⟨p, e2, e⟩ := Res.bind_eq_ok e
    obtain ⟨y, e3, e⟩ := Res.bind_eq_ok e
    cases y with
    | int b =>
      obtain ⟨ρ2, e4, e⟩ := Res.bind_eq_ok e
      cases e
      obtain ⟨g1, g2, rfl⟩ := stS_ok e4
      have hv : σ[i]? = some (some (.int a)) := by
        have hu : gt ρ i ≠ .un := fun z => by rw [z] at e1; cases e1
        obtain ⟨v, ev, r⟩ := k.rep i hu
        cases hg : gt ρ i with
        | un => exact absurd hg hu
        | shr d => rw [hg] at e1 r; cases e1; cases r; exact ev
        | own o => rw [hg] at e1; cases o <;> cases e1
      refine ⟨_, hv, ρ, p.1, p.2, k, e2, fun v H1 a1 r1 n1 => ⟨a, b, rfl, (r1.rd a1.ok e3).int, ?_⟩⟩
      exact ob _ _ (st_name (s := .shr (.int (ipF o a b))) a1 (Rp.int _) True.intro g1 g2)
    | _ => cases e
  | _ => cases e
theorem ps_rs {fe : Rho → Res (Fl × Rho)} (h : ∀ ρ r, fe ρ ≠ .ok r) : PS X st (tStX X np fe) := ps_weak ps_never fun D σ H ⟨ρ, fl, ρ', k, e, o⟩ => absurd e (h ρ _)
theorem ps_pss : PS X (.Pass pos) (tStX X np fun ρ => .ok (.nxt, ρ)) := ps_weak ps_pass fun D σ H ⟨ρ, fl, ρ', k, e, o⟩ => by
  cases e
  exact o σ H (SPst.refl k)
end
end Rt
set_option maxRecDepth 100000
set_option maxHeartbeats 4000000
namespace Rt
open PySem PySem.Spec PyProof.Rows L2
/-! ### set(a list of ints) -/
abbrev eSet (w : World) : Obj := { cls := .type "set", dict := none, data := .set #[] 0 (.fresh 0 0 (!w.params.followText "set-order")) }
abbrev sH (s : Shared) (w : World) : Heap := s.heap.push (eSet w)
section
variable {P : Program} {w : World} {A : Around} {E : Value → Shared → Prop} {s : Shared}
set_option maxHeartbeats 3200000 in
theorem set_of_list {l : Addr} {us : Array Value} (ks : List Int) {Q : Value → Shared → Prop} (hd0 : A.handled = none) (hl : s.heap.IsList l us) (ii : IntsAre us.toList ks) (hb : ks.length + 1 < scanBound)
    (h : ∀ (h' : Heap) (tk c : Nat), SetR w h' s.heap.objs.size (fun j => decide (j ∈ ks)) c → c ≤ ks.length → (∀ b o, s.heap.get? b = some o → h'.get? b = some o) → Q (.ref s.heap.objs.size) { s with heap := h', toks := tk }) :
    wpAny (model P w) A (call (.type "set") [.ref l]) Q E s := by
  have zUs : us.size = ks.length := by
    have q := IntsAre.length ii
    rw [Array.length_toList] at q
    exact q
  obtain ⟨c, tl2, em⟩ := F.called_set.mro
  have em2 := F.called_set.made
  have em3 := F.called_set.sub
  refine wpAny_call (codeAny_of_tree ?_)
  show wpAny _ _ (callAny (.type "set") _) _ _ _
  refine wpAny_pure ⟨Code.quiet_builtin _ (by decide +kernel), codeAny_builtin F.entry_type_call ?_⟩
  rw [Around.under_plain (weight_type_call_type "set" [.ref l] []) rfl]
  have k1 := F.called_set.notType
  have k2 := F.called_set.canCreate
  have em4 := F.typeCall_set_1 (.ref l)
  repeat (any_goals (first | assumption | wp_step))

  refine codeAny_mono (code_set_led1 (.ref l) (E := E) (Q₁ := fun ob s₁ => ob = .ref s.heap.objs.size ∧ s₁ = { s with heap := sH s w }) ⟨rfl, rfl⟩) fun r s₁ er => ?_
  cases r with
  | error e => exact er
  | ok fl =>
    cases fl with
    | ret ob =>
      obtain ⟨rfl, rfl⟩ := er
      have gS : (sH s w).get? s.heap.objs.size = some (eSet w) := Heap.get?_push_size _ rfl
      have gT2 : Shared.TypeIs { s with heap := sH s w } (.ref s.heap.objs.size) "set" := ⟨_, gS, rfl⟩
      have em5 := F.called_set.init.lookup
      have em6 := F.called_set.init.bind (.ref s.heap.objs.size)
      repeat (any_goals (first | assumption | wp_step))

      refine codeAny_mono (codeAny_call_builtin (R := wants (fun r s₂ => r = .none ∧ ∃ h' tk c, s₂ = { s with heap := h', toks := tk } ∧ SetR w h' s.heap.objs.size (fun j => decide (j ∈ ks)) c ∧ c ≤ ks.length ∧
          (∀ b o, s.heap.get? b = some o → h'.get? b = some o)) E) F.called_set.init.plain F.entry_set_init (check_set_init_1 gT2 ?_)) fun r₂ s₂ hr₂ => ?_
      · obtain ⟨ol, ol1, oc1, on, od1⟩ := hl
        obtain ⟨c0, d0, e0, l0⟩ := ol
        simp only at oc1 od1
        subst oc1; subst od1
        have ol2 : (sH s w).get? l = some { cls := .type "list", dict := d0, data := .seq us on, slots := l0 } := Heap.get?_push_of_some _ ol1
        have f1 := F.sub_list_set
        have f2 := F.sub_list_frozenset
        have f3 : (Value.type "list" == Value.type "dict") = false := by decide
        have gl : (sH s w).IsList l us := ⟨_, ol2, rfl, on, rfl⟩
        unfold Builtin.«set.__init__» noKeywords Builtin.Frozenset.updateFrom
        generalize gp : pyIter = pI
        wp_walk
        subst gp

        refine wpAny_pyIter_list gl ?_
        refine wpAny_bind (wpAny_runValue ?_)
        have gs : l < s.heap.objs.size := Heap.lt_size ol1
        have gh : A.in1.in1.in1.handled = none := by simp [hd0]
        have gz : (sH s w).objs.size = s.heap.objs.size + 1 := Heap.size_push ..
        have gn : l ≠ (sH s w).objs.size := by
          rw [Heap.size_push]; exact Nat.ne_of_lt (Nat.lt_succ_of_lt gs)
        have gf : s.heap.objs.size ∉ [(sH s w).objs.size, l] := by
          rw [Heap.size_push]; simp only [List.mem_cons, List.mem_singleton, List.not_mem_nil, or_false, not_or]
          exact ⟨Nat.ne_of_lt (Nat.lt_succ_self _), Nat.ne_of_gt gs⟩
        have gv : ∀ (i : Nat) (v : Value), us[i]? = some v → ∃ k t, ks[i]? = some k ∧ v = .int k t := fun i v hv => by
          have hi : i < ks.length := by rw [← zUs]; exact (Array.getElem?_eq_some_iff.mp hv).1
          obtain ⟨t, e⟩ := PyProof.Rows.IntsAre.int_at ii i v (by rw [Array.getElem?_toList]; exact hv)
          refine ⟨ks[i], t, List.getElem?_eq_getElem hi, ?_⟩
          rw [e, List.getD_eq_getElem?_getD, List.getElem?_eq_getElem hi] <;> rfl
        refine set_update_ints ((Walks.list gh _ l gn us).toS) s.heap.objs.size
          gf ks zUs hb gv (us.size - 0) 0 _ (by omega) (Nat.zero_le _)
          ⟨⟨_, Heap.get?_push_size _ rfl, rfl, rfl⟩, (gl.push _)⟩ ?hS0 ?hR
        case hS0 =>
          have gg : ((sH s w).push { cls := .type "list_iterator", data := .fields #[.ref l, .int 0 0] }).get? s.heap.objs.size
              = some (eSet w) := Heap.get?_push_of_some _ gS
          exact ⟨0, Nat.le_refl 0, setR_new_at gg⟩
        case hR =>
          intro s' c' hm hc' hS'
          obtain ⟨h', g2, d', tk', os'⟩ := s'
          have eg : g2 = s.gens := hm.gens
          have ed : d' = s.drawn := hm.drawn
          have eo : os' = s.os := hm.os
          subst eg; subst ed; subst eo
          show wpAny _ _ _ _ _ _
          refine wpAny_pure ?_
          show wpAny _ _ (ret Value.none) _ _ _
          rw [zUs] at hc'
          refine wpAny_pure ⟨rfl, h', tk', c', rfl, hS', hc', fun b o e => ?_⟩
          have u0 : b < s.heap.objs.size := Heap.lt_size e
          have u1 : b ≠ s.heap.objs.size := Nat.ne_of_lt u0
          have u2 : b ≠ (sH s w).objs.size := by
            rw [Heap.size_push]; exact Nat.ne_of_lt (Nat.lt_succ_of_lt u0)
          exact hm.heap b o (by simp only [List.mem_cons, List.mem_singleton, List.not_mem_nil, or_false, not_or]; exact ⟨u1, u2⟩) (Heap.get?_push_of_some _ (Heap.get?_push_of_some _ e))

      · cases r₂ with
        | error e => exact hr₂
        | ok fl₂ =>
          cases fl₂ with
          | ret r =>
            obtain ⟨rfl, h', tk, c', rfl, hS', hc', hk'⟩ := hr₂
            repeat (any_goals (first | assumption | wp_step))
            exact h _ _ _ hS' hc' hk'
          | _ => exact hr₂.elim
    | _ => exact er.elim

end
/-! ### lists that rise by a key -/
section
variable {α : Type} {key : α → Int}
theorem insK_mem {x z : α} : ∀ {ys : List α}, z ∈ insK key x ys → z = x ∨ z ∈ ys
  | [], h => by simp [insK] at h; exact .inl h
  | y :: ys, h => by
    unfold insK at h
    split at h
    · simpa using h
    · split at h
      · rcases List.mem_cons.mp h with e | h
        · exact .inr (by rw [e]; exact List.mem_cons_self ..)
        · rcases insK_mem h with e | h
          · exact .inl e
          · exact .inr (List.mem_cons_of_mem _ h)
      · exact .inr h
theorem insK_has {x : α} : ∀ {ys : List α}, ∃ z ∈ insK key x ys, key z = key x
  | [] => ⟨x, by simp [insK], rfl⟩
  | y :: ys => by
    unfold insK
    split
    · exact ⟨x, List.mem_cons_self .., rfl⟩
    · split
      · obtain ⟨z, h, e⟩ := insK_has (x := x) (ys := ys)
        exact ⟨z, List.mem_cons_of_mem _ h, e⟩
      · exact ⟨y, List.mem_cons_self .., by omega⟩
theorem insK_old {x z : α} : ∀ {ys : List α}, z ∈ ys → z ∈ insK key x ys
  | y :: ys, h => by
    unfold insK
    split
    · exact List.mem_cons_of_mem _ h
    · split
      · rcases List.mem_cons.mp h with e | h
        · rw [e]; exact List.mem_cons_self ..
        · exact List.mem_cons_of_mem _ (insK_old h)
      · exact h
theorem insK_rise {x : α} : ∀ {ys : List α}, ys.Pairwise (fun a b => key a < key b) → (insK key x ys).Pairwise (fun a b => key a < key b)
  | [], _ => by simp [insK]
  | y :: ys, h => by
    unfold insK
    obtain ⟨h1, h2⟩ := List.pairwise_cons.mp h
    split
    · rename_i c
      refine List.pairwise_cons.mpr ⟨fun z hz => ?_, h⟩
      rcases List.mem_cons.mp hz with e | hz
      · rw [e]; exact c
      · exact Int.lt_trans c (h1 z hz)
    · split
      · rename_i c
        refine List.pairwise_cons.mpr ⟨fun z hz => ?_, insK_rise h2⟩
        rcases insK_mem hz with e | hz
        · rw [e]; exact c
        · exact h1 z hz
      · exact h
theorem sdK_mem {z : α} : ∀ {xs : List α}, z ∈ sdK key xs → z ∈ xs
  | x :: xs, h => by
    rcases insK_mem h with e | h
    · rw [e]; exact List.mem_cons_self ..
    · exact List.mem_cons_of_mem _ (sdK_mem h)
theorem sdK_has {x : α} : ∀ {xs : List α}, x ∈ xs → ∃ z ∈ sdK key xs, key z = key x
  | y :: xs, h => by
    rcases List.mem_cons.mp h with e | h
    · rw [e]; exact insK_has
    · obtain ⟨z, h1, h2⟩ := sdK_has h
      exact ⟨z, insK_old h1, h2⟩
theorem sdK_rise : ∀ xs : List α, (sdK key xs).Pairwise (fun a b => key a < key b)
  | [] => .nil
  | x :: xs => insK_rise (sdK_rise xs)
/-- two such lists with the same keys -/
theorem rise_eq (inj : ∀ a b : α, key a = key b → a = b → True) : ∀ {xs ys : List α}, xs.Pairwise (fun a b => key a < key b) → ys.Pairwise (fun a b => key a < key b) → (∀ x ∈ xs, ∃ y ∈ ys, y = x) → (∀ y ∈ ys, ∃ x ∈ xs, x = y) → xs = ys
  | [], [], _, _, _, _ => rfl
  | [], y :: ys, _, _, _, h => by obtain ⟨x, hx, _⟩ := h y (List.mem_cons_self ..); cases hx
  | x :: xs, [], _, _, h, _ => by obtain ⟨y, hy, _⟩ := h x (List.mem_cons_self ..); cases hy
  | x :: xs, y :: ys, h1, h2, h3, h4 => by
    obtain ⟨a1, a2⟩ := List.pairwise_cons.mp h1
    obtain ⟨b1, b2⟩ := List.pairwise_cons.mp h2
    have e : x = y := by
      obtain ⟨y', m1, e1⟩ := h3 x (List.mem_cons_self ..)
      obtain ⟨x', m2, e2⟩ := h4 y (List.mem_cons_self ..)
      rcases List.mem_cons.mp m1 with q | m1
      · rw [← e1, q]
      · rcases List.mem_cons.mp m2 with q | m2
        · rw [← e2, q]
        · have l1 := b1 y' m1
          have l2 := a1 x' m2
          rw [e1] at l1
          rw [e2] at l2
          omega
    subst e
    refine congrArg (x :: ·) (rise_eq inj a2 b2 (fun z hz => ?_) fun z hz => ?_)
    · obtain ⟨y', m1, e1⟩ := h3 z (List.mem_cons_of_mem _ hz)
      rcases List.mem_cons.mp m1 with q | m1
      · have := a1 z hz
        rw [← e1, q] at this
        omega
      · exact ⟨y', m1, e1⟩
    · obtain ⟨x', m1, e1⟩ := h4 z (List.mem_cons_of_mem _ hz)
      rcases List.mem_cons.mp m1 with q | m1
      · have := b1 z hz
        rw [← e1, q] at this
        omega
      · exact ⟨x', m1, e1⟩
end
theorem code_inj {B : Int} : ∀ {xs ys : List Int}, xs.length = ys.length → TS.Bd B xs → TS.Bd B ys → TS.code B xs = TS.code B ys → xs = ys
  | [], [], _, _, _, _ => rfl
  | x :: xs, y :: ys, hl, h1, h2, e => by
    have hl2 : xs.length = ys.length := by simpa using hl
    rcases Int.lt_trichotomy x y with c | c | c
    · have := TS.code_lt hl2 h1.tail h2.tail c
      omega
    · subst c
      have e2 : TS.code B xs = TS.code B ys := by
        have e' : x * B ^ xs.length + TS.code B xs = x * B ^ ys.length + TS.code B ys := e
        rw [hl2] at e'
        omega
      rw [code_inj hl2 h1.tail h2.tail e2]
    · have := TS.code_lt hl2.symm h2.tail h1.tail c
      omega
section
variable {X : Cx}
def rSetI (K : PySem.W.Frag) (w : World) : List V → Hp → VK → Prop := fun xs H Q => ∃ (l : Addr) (ks : List Int), xs = [V.ref l] ∧ SqL K H l (ks.map V.int) ∧ ks.length < 64 ∧ ∀ a c, H a = none → c ≤ ks.length → Q (.ref a) (upd H a (SetO w a (fun j => decide (j ∈ ks)) c))
theorem cr_setI (hc : X.calm = true) : CallR X (.type "set") (rSetI X.K X.w) := by
  intro pins s σ H xs us Q I r h
  obtain ⟨l, ks, rfl, hl, hf, q⟩ := h
  obtain ⟨u, rfl, ru⟩ := vals1 r
  cases ru
  obtain ⟨its, rv, pl, hz⟩ := I.list hl
  refine set_of_list (P := X.prog) (w := X.w) ks (I.ok.hd hc) pl.isList (by simpa using ints_of_vals rv) (by unfold scanBound; omega) fun h' tk c R hcn k => ?_
  exact ⟨.ref s.heap.objs.size, _, I.laid (t' := tk) k (Nat.le_refl _) (setO_new R), rfl, q _ c I.fresh hcn⟩
theorem rints {P : Program} {w : World} {K : PySem.W.Frag} {H : Hp} : ∀ {is : List Int} {vs : List V}, RpAll P w K H vs (is.map PyData.int) → vs = is.map V.int
  | [], _, h => by cases h; rfl
  | i :: is, _, h => by
    cases h with
    | cons h1 h2 => cases h1; rw [rints h2]; rfl
/-- a list of ints by its data -/
theorem RpAll.tups {P : Program} {w : World} {K : PySem.W.Frag} {H : Hp} : ∀ {ds : List PyData} {ts : List (List Int)} {vs : List V}, tupsOf ds = some ts → RpAll P w K H vs ds → ∃ ks : List (Addr × List Int), vs = ks.map (fun p => V.ref p.1) ∧ ks.map (·.2) = ts ∧ ∀ p ∈ ks, SqT K H p.1 (p.2.map V.int)
  | [], ts, vs, h, r => by
    cases h
    cases r
    exact ⟨[], rfl, rfl, fun p hp => (nomatch hp)⟩
  | d :: ds, ts, vs, h, r => by
    cases d with
    | tuple es =>
      unfold tupsOf at h
      cases q : intsOf es with
      | none => rw [q] at h; cases h
      | some is =>
        rw [q] at h
        cases q2 : tupsOf ds with
        | none => rw [q2] at h; cases h
        | some ts2 =>
          rw [q2] at h
          cases h
          cases r with
          | cons r1 r2 =>
            cases r1 with
            | @tup a us _ hs hr =>
              obtain ⟨ks, e1, e2, e3⟩ := RpAll.tups q2 r2
              have e4 := intsOf_eq q
              subst e4
              have e5 := rints hr
              subst e5
              refine ⟨(a, is) :: ks, by rw [e1]; rfl, by rw [← e2]; rfl, fun p hp => ?_⟩
              rcases List.mem_cons.mp hp with e | hp
              · rw [e]; exact hs
              · exact e3 p hp
    | _ => cases h
theorem rp_tup {P : Program} {w : World} {K : PySem.W.Frag} {H : Hp} {a : Addr} {is : List Int} (h : SqT K H a (is.map V.int)) : Rp P w K H (.ref a) (.tuple (is.map .int)) := by
  have go : ∀ js : List Int, RpAll P w K H (js.map V.int) (js.map PyData.int) := fun js => by
    induction js with
    | nil => exact .nil
    | cons j js ih => exact .cons (.int j) ih
  exact .tup h (go is)
theorem rp_ints {P : Program} {w : World} {K : PySem.W.Frag} {H : Hp} (js : List Int) : RpAll P w K H (js.map V.int) (js.map PyData.int) := by
  induction js with
  | nil => exact .nil
  | cons j js ih => exact .cons (.int j) ih
theorem CallR.or2 {f : Value} {r r' : List V → Hp → VK → Prop} (h : CallR X f r) (h' : CallR X f r') : CallR X f (fun xs H Q => r xs H Q ∨ r' xs H Q) := fun pins s σ H xs us Q I rv q => q.elim (h pins s σ H xs us Q I rv) (h' pins s σ H xs us Q I rv)
theorem grow2 {H : Hp} {a p : Addr} {u v : HO} (ha : H a = none) (hp : upd H a u p = none) : Grow H (upd (upd H a u) p v) := .put (.put .refl ha) hp
theorem sset_core {P : Program} {w : World} {K : PySem.W.Frag} {H : Hp} {x : V} {ds es : List PyData} {Q : VK} (hx : RdV P w K H x (.list ds)) (e : ssetR ds = .ok es) (q : ∀ v H', Mk P w K H H' v (.own (.lst es)) → Q v H') :
    (rSetI K w [x] H fun y H1 => (rSortedSet w [y] H1 Q ∨ rSortedT K P w [y] H1 Q)) ∨ (rSetOfT K P w [x] H fun y H1 => (rSortedSet w [y] H1 Q ∨ rSortedT K P w [y] H1 Q)) := by
  obtain ⟨l, vs, rfl, hl, r⟩ := hx.list
  have mk : ∀ {a p : Addr} {u : HO} {ws : List V}, H a = none → upd H a u p = none → RpAll P w K (upd (upd H a u) p (.lst ws)) ws es → Mk P w K H (upd (upd H a u) p (.lst ws)) (.ref p) (.own (.lst es)) := fun {a p u ws} ha hp hr =>
    ⟨grow2 ha hp, ⟨p, rfl, ws, upd_same, hr⟩, fun _ _ b eb => by cases eb; exact upd_none hp, fun z => nomatch z⟩
  unfold ssetR at e
  cases qi : intsOf ds with
  | some is =>
    rw [qi] at e
    obtain ⟨g, e⟩ := Res.guard_eq_ok e
    cases e
    have g := of_decide_eq_true g
    have e4 := intsOf_eq qi
    subst e4
    have e5 := rints r
    subst e5
    refine .inl ⟨l, is, rfl, hl, g, fun a c ha hcn => .inl ⟨a, _, c, rfl, upd_same, by omega, fun ns p h1 h2 h3 hp => q _ _ ?_⟩⟩
    have en : ns = sdK id is := rise_eq (key := id) (fun _ _ _ _ => True.intro) h1 (sdK_rise is) (fun x hx => by
      have := (h2 x).mp hx
      obtain ⟨z, z1, z2⟩ := sdK_has (key := id) (of_decide_eq_true this)
      exact ⟨z, z1, z2⟩) fun y hy => ⟨y, (h2 y).mpr (decide_eq_true (sdK_mem hy)), rfl⟩
    subst en
    exact mk ha hp (rp_ints _)
  | none =>
    rw [qi] at e
    cases qt : tupsOf ds with
    | none => rw [qt] at e; cases e
    | some ts =>
      rw [qt] at e
      obtain ⟨g, e⟩ := Res.guard_eq_ok e
      cases e
      simp only [Bool.and_eq_true, decide_eq_true_eq, List.all_eq_true] at g
      obtain ⟨⟨g1, g2⟩, g3⟩ := g
      obtain ⟨ks, e1, e2, e3⟩ := r.tups qt
      subst e1
      have hk : ks.length = ts.length := by rw [← e2, List.length_map]
      have bd : ∀ t ∈ ts, TS.Bd setB t := fun t ht m hm => (g3 t ht).2 m hm
      refine .inr ⟨l, ks, rfl, hl, e3, by omega, fun a L ha h1 h2 => .inr ⟨a, L, (ts.headD []).length, setB, rfl, upd_same, fun p hp => ?_, g2, fun p hp => ?_, fun L' p h3 h4 h5 h6 hp => q _ _ ?_⟩⟩
      · exact (Grow.one ha).keep.sqT (e3 p (h1 p hp))
      · have hm : p.2 ∈ ts := by rw [← e2]; exact List.mem_map.mpr ⟨p, h1 p hp, rfl⟩
        exact ⟨(g3 _ hm).1, bd _ hm⟩
      · have hsub : ∀ z ∈ L', z ∈ ks := fun z hz => h1 z (h3.mem_iff.mp hz)
        have hts : ∀ z ∈ L', z.2 ∈ ts := fun z hz => by rw [← e2]; exact List.mem_map.mpr ⟨z, hsub z hz, rfl⟩
        have hinj : ∀ t ∈ ts, ∀ u ∈ ts, TS.code setB t = TS.code setB u → t = u := fun t ht u hu => code_inj ((g3 t ht).1.trans (g3 u hu).1.symm) (bd t ht) (bd u hu)
        have hp2 : (L'.map (·.2)).Pairwise (fun x y => TS.code setB x < TS.code setB y) := by
          rw [List.pairwise_map]
          have h4' : L'.Pairwise (fun x y => x.2 ≠ y.2) := by
            have := h4
            unfold List.Nodup at this
            rwa [List.pairwise_map] at this
          refine List.Pairwise.imp_of_mem ?_ (h6.and h4')
          rintro x y hx hy ⟨c1, c2⟩
          rcases Int.lt_or_eq_of_le c1 with c | c
          · exact c
          · exact absurd (hinj _ (hts x hx) _ (hts y hy) c) c2
        have en : L'.map (·.2) = sdK (TS.code setB) ts := by
          refine rise_eq (key := TS.code setB) (fun _ _ _ _ => True.intro) hp2 (sdK_rise ts) (fun x hx => ?_) fun y hy => ?_
          · obtain ⟨z, hz, rfl⟩ := List.mem_map.mp hx
            obtain ⟨y, y1, y2⟩ := sdK_has (key := TS.code setB) (hts z hz)
            exact ⟨y, y1, hinj _ (sdK_mem y1) _ (hts z hz) y2⟩
          · have : y ∈ ks.map (·.2) := by rw [e2]; exact sdK_mem hy
            obtain ⟨z, hz, rfl⟩ := List.mem_map.mp this
            obtain ⟨z', hz', e'⟩ := List.mem_map.mp (h2 z hz)
            exact ⟨z.2, List.mem_map.mpr ⟨z', h3.mem_iff.mpr hz', e'⟩, rfl⟩
        refine mk ha hp ?_
        rw [← en]
        have kk : Keep H (upd (upd H a (SetTO P w a L)) p (.lst (L'.map fun q => V.ref q.1))) := (grow2 ha hp).keep
        have go : ∀ M : List (Addr × List Int), (∀ z ∈ M, z ∈ ks) → RpAll P w K (upd (upd H a (SetTO P w a L)) p (.lst (L'.map fun q => V.ref q.1))) (M.map fun q => V.ref q.1) ((M.map (·.2)).map fun t => PyData.tuple (t.map .int)) := fun M => by
          induction M with
          | nil => exact fun _ => .nil
          | cons z M ih => exact fun hM => .cons (rp_tup (kk.sqT (e3 z (hM z (List.mem_cons_self ..))))) (ih fun y hy => hM y (List.mem_cons_of_mem _ hy))
        exact go L' hsub
theorem pe_sset {a : Expr} {fr : Rho → Res (List Rv × Rho)} {p p2 q pos : Pos} (hu : X.A.units + 70 < cLine) (hc : X.calm = true) (hg : Gl X "sorted") (hm : X.mg "sorted" = none) (hg2 : Gl X "set") (hm2 : X.mg "set" = none) (ha : PA X [a] (tAX X fr)) (hs : isStar a = false) :
    PE X (.Call (.Name "sorted" p) [.Call (.Name "set" p2) [a] [] q] [] pos) (tRX X (fBi .sset fr)) := by
  refine pe_weak (pe_callB (CallR.or2 (cr_sortedSet hc) (cr_sortedT hc)) hg hm boot_sorted (pa_cons (pe_callTy (CallR.or2 (cr_setI hc) (cr_setOfT hc (by omega))) hg2 hm2 PyProof.Rows.boot_set ha (by decide) (by decide) (star_one hs) rfl) pa_nil rfl) (by decide) (by decide) rfl rfl) fun σ H Q ⟨ρ, r, ρ', k, e, q⟩ => ?_
  obtain ⟨y, e1, e⟩ := Res.bind_eq_ok e
  obtain ⟨ds, e2, e⟩ := Res.bind_eq_ok e
  obtain ⟨sl, e3, e⟩ := Res.bind_eq_ok e
  cases e
  refine ⟨ρ, y.1, y.2, k, e1, fun vs H1 a1 r1 n1 ap1 => ?_⟩
  have hr := r1.rds a1.ok e2
  cases hr with
  | nil => cases e3
  | @cons x d xs' ds' h1 h2 =>
    cases h2 with
    | cons _ _ => cases d <;> cases e3
    | nil =>
      cases d with
      | list es =>
        obtain ⟨es2, f1, f2⟩ := Res.bind_eq_ok e3
        cases f2
        exact sset_core h1 f1 fun v H' m => by
          obtain ⟨m1, m2, m3⟩ := m.rv a1
          exact q v H' m1 m2 m3
      | _ => cases e3
/-! ### {k: v} -/
theorem pe_dc1 {kx vx : Expr} {fk fv : Rho → Res (Rv × Rho)} {pos : Pos} (hk : PE X kx (tRX X fk)) (hv : PE X vx (tRX X fv)) :
    PE X (.Dict [some kx] [vx] pos) (tRX X fun ρ => (fk ρ).bind fun p => (stl p.2 p.1).bind fun x => (fv x.2).bind fun q => (stl q.2 q.1).bind fun y => Res.guard (decide (kindK x.1 = some 0)) (.ok (.val (.own (.dct [(x.1, y.1)])), y.2))) := by
  refine pe_weak (pe_disp (pps_cons (pe_stl hk) (pe_stl hv) pps_nil) rfl rfl (by simp) (by simp)) fun σ H Q ⟨ρ, r, ρ', k, e, q⟩ p hp => ?_
  obtain ⟨y1, e1, e⟩ := Res.bind_eq_ok e
  obtain ⟨x, e2, e⟩ := Res.bind_eq_ok e
  obtain ⟨y2, e3, e⟩ := Res.bind_eq_ok e
  obtain ⟨y, e4, e⟩ := Res.bind_eq_ok e
  obtain ⟨g, e⟩ := Res.guard_eq_ok e
  cases e
  obtain ⟨kk, ek⟩ := kind0 (of_decide_eq_true g)
  have a0 : Pst X.prog X.w X.K σ ρ H ρ (upd H p (.dK [])) := (Pst.refl k).new hp
  refine ⟨ρ, x.1, x.2, a0.ok, by show (fk ρ).bind _ = _; rw [e1]; exact e2, fun v1 H1 a1 r1 => ⟨x.2, y.1, y.2, a1.ok, by show (fv x.2).bind _ = _; rw [e3]; exact e4, fun v2 H2 a2 r2 => ?_⟩⟩
  have a12 := a1.trans a2
  have hH2 : H2 p = some (.dK []) := a12.fr p _ upd_same (k.free hp)
  have ev : v1 = kV kk := by
    rw [ek] at r1
    cases kk with
    | inl _ => cases r1; rfl
    | inr _ => cases r1; rfl
  refine ⟨hH2, [(kk, v2)], by rw [ev]; rfl, by simp, ?_⟩
  have a3 := (a0.trans a12).updN (u2 := .dK [(kk, v2)]) hp hH2 True.intro (k.free hp)
  refine q _ _ a3 ⟨p, rfl, .inl ⟨[(kk, v2)], upd_same, ?_⟩, fun z => (k.free hp) (a3.sub.ow z)⟩ fun b eb => by cases eb; exact hp
  rw [ek]
  exact .cons (r2.keep (keep_upd hH2 True.intro)) .nil
end
end Rt
set_option maxRecDepth 100000
set_option maxHeartbeats 4000000
namespace Rt
open PySem PySem.Spec PyProof.Rows L2
section
variable {X : Cx} {a b c e : Expr} {es rest : List Expr} {p pos : Pos} {fa fb fc fk : Rho → Res (Rv × Rho)} {fl : Rho → Res (List PyData × Rho)} {fr : Rho → Res (List Rv × Rho)} {np : Nat}
/-! ### xs.extend(ys) -/
def fExt (i : Nat) (fr : Rho → Res (List Rv × Rho)) (ρ : Rho) : Res (Rv × Rho) := Res.guard (kindU .append (gt ρ i)) ((fr ρ).bind fun p => match p.1 with
  | [r] => (match gt p.2 i, ownO p.2 r with
    | .own (.lst ds), some (.lst es) => Res.guard (decide (ds.length + es.length ≤ lim)) (.ok (.val (.shr .none), p.2.set i (.own (.lst (ds ++ es)))))
    | _, _ => .bad)
  | _ => .bad)
theorem own_at {σ : L2.St} {H : Hp} {ρ : Rho} {r : Rv} {v : V} {o : Ob} (k : Ok X.prog X.w X.K H σ ρ) (h : RV X.prog X.w X.K H σ ρ v r) (e : ownO ρ r = some o) : ∃ b, v = .ref b ∧ OwnAt X.prog X.w X.K H b o := by
  cases r with
  | val s =>
    cases s with
    | own o' =>
      cases e
      obtain ⟨b, h1, h2, _⟩ := h
      exact ⟨b, h1, h2⟩
    | _ => cases e
  | nam j =>
    have e : (match gt ρ j with
      | .own o => some o
      | _ => none) = some o := e
    cases hj : gt ρ j with
    | own o' =>
      rw [hj] at e
      cases e
      obtain ⟨b, h1, h2⟩ := k.at hj
      have h : σ[j]? = some (some v) := h
      rw [h] at h1
      cases h1
      exact ⟨b, rfl, h2⟩
    | _ => rw [hj] at e; cases e
theorem pe_ext {i : Nat} {x : Str} {pn apos cpos : Pos} (hN : X.N[i]? = some x) (hv : Vis X.env.scope x) (hd : (x == ("__debug__" : Str)) = false) (hcd : (x == ("__classdict__" : Str)) = false)
    (ha : PA X [e] (tAX X fr)) (hs : isStar e = false) (hbase : attributeBase (.Name x pn) "extend" X.env (eval (.Name x pn) X.env) = eval (.Name x pn) X.env) (hline : (apos.endLine == cpos.line) = true) :
    PE X (.Call (.Attribute (.Name x pn) "extend" apos) [e] [] cpos) (tRX X (fExt i fr)) := by
  refine pe_weak (pe_mG (id := "list.extend") (r := rExtend) tyRd_ok F.plainAttrs_list F.slot_list_extend F.type_list_extend mt_extend (pe_var hN hv hd hcd) ha hbase (by rw [star_one hs]; rfl) hline (star_one hs) rfl) fun σ H Q ⟨ρ, r, ρ', k, e, q⟩ => ?_
  obtain ⟨g, e⟩ := Res.guard_eq_ok e
  obtain ⟨p, e1, e⟩ := Res.bind_eq_ok e
  cases h0 : gt ρ i with
  | own o0 =>
    rw [h0] at g
    cases o0 with
    | lst es0 =>
      obtain ⟨a, hσ, q0⟩ := k.at h0
      refine ⟨_, hσ, ⟨es0, .inr ⟨a, _, rfl, q0, rfl⟩⟩, ρ, p.1, p.2, k, e1, fun vs H1 a1 r1 _ _ => ?_⟩
      obtain ⟨rs, ρ2⟩ := p
      cases rs with
      | nil => cases e
      | cons r0 rr =>
        cases rr with
        | cons _ _ => cases e
        | nil =>
          cases r1 with
          | @cons vv vs' _ _ rv rr =>
            cases rr
            have e : (match gt ρ2 i, ownO ρ2 r0 with
              | .own (.lst ds), some (.lst es) => Res.guard (decide (ds.length + es.length ≤ lim)) (Res.ok (Rv.val (.shr .none), ρ2.set i (.own (.lst (ds ++ es)))))
              | _, _ => .bad) = .ok (r, ρ') := e
            cases h1 : gt ρ2 i with
            | own o =>
              cases h2 : ownO ρ2 r0 with
              | none => rw [h1, h2] at e; cases o <;> cases e
              | some o2 =>
                rw [h1, h2] at e
                cases o with
                | dct _ => cases e
                | lst ds =>
                  cases o2 with
                  | dct _ => cases e
                  | lst es =>
                    obtain ⟨g2, e2⟩ := Res.guard_eq_ok e
                    cases e2
                    have g3 := of_decide_eq_true g2
                    rw [lim_line] at g3
                    obtain ⟨a2, hσ2, xs, hx, rx⟩ := a1.ok.at h1
                    rw [hσ] at hσ2
                    cases hσ2
                    obtain ⟨b, rfl, zs, hb, rz⟩ := own_at a1.ok rv h2
                    refine ⟨a, b, xs, zs, rfl, rfl, hx, hb, by rw [rx.length, rz.length]; exact g3, ?_⟩
                    have kp := keep_upd (u2 := .lst (xs ++ zs)) hx True.intro
                    have w1 := a1.ok.wr h1 hσ (o' := .lst (ds ++ es)) ⟨_, upd_same, (rx.keep kp).append (rz.keep kp)⟩
                    exact q _ _ (a1.trans w1) .non True.intro
            | _ => rw [h1] at e; cases e
    | dct _ => cases g
  | _ => rw [h0] at g; cases g
/-! ### xs[k] += e -/
def rGetL : V → V → Hp → VK → Prop := fun o i H Q => ∃ a vs k v, o = .ref a ∧ i = .int k ∧ 0 ≤ k ∧ H a = some (.lst vs) ∧ vs[k.toNat]? = some v ∧ Q v H
theorem get_l : PGet X rGetL := by
  intro pins s σ H o i ov iv Q I ro ri h
  obtain ⟨a, vs, k, v, rfl, rfl, h0, hH, hv, q⟩ := h
  cases ro
  obtain ⟨t, rfl⟩ := ri
  obtain ⟨its, r, pl, hz⟩ := I.list (.inl (.inl hH))
  obtain ⟨u, hu, ru⟩ := r.get hv
  have h63 := line63
  have hlt : k.toNat < vs.length := (List.getElem?_eq_some_iff.mp hv).1
  exact getItem_listL pl.isList h0 (by omega) hu ⟨v, H, I, ru, q⟩
theorem ps_augp {i : Nat} {x : Str} {k : Expr} {pn pt : Pos} {o : Bop} (hu : X.A.units + 70 < cLine) (hN : X.N[i]? = some x) (hv : Vis X.env.scope x) (hd : (x == ("__debug__" : Str)) = false) (hcd : (x == ("__classdict__" : Str)) = false)
    (hk : PE X k (tRX X fk)) (he : PE X e (tRX X fa)) (hop : ipOk o = true)
    (ha : ∀ ov iv new, augStore k ov iv new = (do holding [new, ov, iv] (setItem ov iv new); release [new, ov, iv] []; pure .next)) : PS X (.AugAssign (.Subscript (.Name x pn) k pt) (opr o) e pos) (tStX X np (augpF i o fk fa)) := by
  refine ps_weak (ps_augS (pe_var hN hv hd hcd) (pe_stl hk) get_l he (ip_of hop) (set_put hu) ha) fun D σ H ⟨ρ, fl, ρ', ok, e, ob⟩ => ?_
  obtain ⟨gw, e⟩ := Res.guard_eq_ok e
  obtain ⟨q0, f1, e⟩ := Res.bind_eq_ok e
  obtain ⟨y, f2, e⟩ := Res.bind_eq_ok e
  have fky : ((fk ρ).bind fun p => stl p.2 p.1) = .ok (y.1, y.2) := by rw [f1]; exact f2
  have hσ : ∃ w, σ[i]? = some (some w) := by
    obtain ⟨w, hw, _⟩ := ok.rep i (fun z => by rw [z] at gw; cases gw)
    exact ⟨w, hw⟩
  obtain ⟨w0, hw0⟩ := hσ
  cases h1 : gt y.2 i with
  | un => rw [h1] at e; cases e
  | shr d => rw [h1] at e; cases e
  | own ob1 =>
    rw [h1] at e
    cases ob1 with
    | dct _ => cases e
    | lst ds =>
      cases h2 : y.1 with
      | int kk =>
        rw [h2] at e
        obtain ⟨g, e⟩ := Res.guard_eq_ok e
        simp only [Bool.and_eq_true, decide_eq_true_eq] at g
        obtain ⟨v, f3, e⟩ := Res.bind_eq_ok e
        obtain ⟨p, f4, e⟩ := Res.bind_eq_ok e
        obtain ⟨w, f5, e⟩ := Res.bind_eq_ok e
        have f3 := Res.get_eq_ok f3
        refine ⟨w0, hw0, ρ, y.1, y.2, ok, fky, fun v1 H1 a1 r1 => ?_⟩
        obtain ⟨a, ha1, vs, hH, rvs⟩ := a1.ok.at h1
        rw [hw0] at ha1
        cases ha1
        obtain ⟨z, hz, rz⟩ := rvs.get f3
        rw [h2] at r1
        cases r1
        refine ⟨a, vs, kk, z, rfl, rfl, g.2, hH, hz, y.2, p.1, p.2, a1.ok, f4, fun v2 H2 a2 r2 n2 => ?_⟩
        cases v with
        | int aa =>
          cases w with
          | int bb =>
            cases h3 : gt p.2 i with
            | own ob3 =>
              rw [h3] at e
              cases ob3 with
              | lst es =>
                obtain ⟨g3, e⟩ := Res.guard_eq_ok e
                cases e
                have g3 := of_decide_eq_true g3
                cases rz
                obtain ⟨a', ha2, vs2, hH2, rvs2⟩ := a2.ok.at h3
                rw [hw0] at ha2
                cases ha2
                have hlen := rvs2.length
                have hix : L2.ixN es.length kk = some kk.toNat := by
                  unfold L2.ixN
                  rw [if_pos g.2, if_pos (by omega)]
                refine ⟨aa, bb, rfl, (r2.rd a2.ok f5).int, a, .lst es, .int kk, .int (ipF o aa bb), .lst (es.set kk.toNat (.int (ipF o aa bb))), rfl, ⟨vs2, hH2, rvs2⟩, .int _, .int _, ?_, fun u hu => ob _ _ (Pst.st ((a1.trans a2).trans (a2.ok.wr h3 hw0 hu)))⟩
                show (Res.get (L2.ixN es.length kk)).bind _ = _
                rw [hix]
                rfl
              | dct _ => cases e
            | un => rw [h3] at e; cases e
            | shr _ => rw [h3] at e; cases e
          | _ => cases e
        | _ => cases e
      | _ => rw [h2] at e; cases e
end
end Rt
set_option maxRecDepth 100000
set_option maxHeartbeats 1000000
namespace Rt
open PySem PySem.Spec PyProof.Rows L2
/-! ### d.get(k), d.get(k, x) -/
def rGet (P : Program) (w : World) (K : PySem.W.Frag) : V → List V → Hp → VK → Prop := fun x xs H Q => ∃ kvs ds d, RdV P w K H x (.dict kvs) ∧ RpAll P w K H xs ds ∧ meR .get (.dict kvs) ds = .ok (.shr d) ∧ ∀ v, Rp P w K H v d → Q v H
section
variable {X : Cx} {pins : List (Addr × Obj)} {s : Shared} {σ : L2.St} {H : Hp}
theorem opGet (hu : X.A.units + 70 < cLine) : MtR X "dict.get" (rGet X.prog X.w X.K) := by
  intro pins s σ H x xs v us Q I rx rxs h
  obtain ⟨kvs, ds, d, hx, hxs, e, q⟩ := h
  cases hxs with
  | nil => cases e
  | @cons y ys dy dys hy hr =>
    cases rxs with
    | @cons _ u _ us2 ru rus =>
      cases hr with
      | nil =>
        cases rus
        obtain ⟨g, e⟩ := Res.guard_eq_ok e
        cases e
        obtain ⟨a, rfl, f⟩ := fnd I hx (.inl hy) g
        cases (show v = Value.ref a from rx)
        cases f with
        | num o gg f1 f2 =>
          refine d_get1 (by omega) I gg ru fun w' s' I' rw' => ⟨_, H, I', rw', q _ ?_⟩
          cases hl : look kvs dy with
          | none => rw [f2 hl]; exact .non
          | some d => obtain ⟨z, e4, rz⟩ := f1 d hl; rw [e4]; exact rz
        | tup b xs eb hk hd hs2 f1 f2 =>
          subst eb
          cases (show u = Value.ref b from ru)
          refine get_keyed (knd := nestedKind X.prog X.w) (show X.A.in1.units + 8 < cLine by show X.A.units + 1 + 8 < cLine; omega) hk hs2 ⟨xs, hd, rfl⟩ ?_
          rw [vat]
          cases hl : look kvs dy with
          | none => rw [f2 hl]; exact ⟨.non, H, I.tok _, rfl, q _ (by rw [hl]; exact .non)⟩
          | some d =>
            obtain ⟨b', u', z, e4, rz, rp⟩ := f1 d hl
            rw [e4]
            exact ⟨z, H, I.tok _, rz, q z (by rw [hl]; exact rp)⟩
      | @cons y2 ys2 dz dzs hz hr =>
        cases rus with
        | @cons _ u2 _ us3 ru2 rus =>
        cases hr with
        | cons _ _ => cases e
        | nil =>
          cases rus
          obtain ⟨g, e⟩ := Res.guard_eq_ok e
          cases e
          obtain ⟨a, rfl, f⟩ := fnd I hx (.inl hy) g
          cases (show v = Value.ref a from rx)
          cases f with
          | num o gg f1 f2 =>
            refine d_get2 (by omega) I gg ru ru2 fun w' s' I' rw' => ⟨_, H, I', rw', q _ ?_⟩
            cases hl : look kvs dy with
            | none => rw [f2 hl]; exact hz
            | some d => obtain ⟨z, e4, rz⟩ := f1 d hl; rw [e4]; exact rz
          | tup b xs eb hk hd hs2 f1 f2 =>
            subst eb
            cases (show u = Value.ref b from ru)
            refine getOr_keyed (knd := nestedKind X.prog X.w) (show X.A.in1.units + 8 < cLine by show X.A.units + 1 + 8 < cLine; omega) hk hs2 ⟨xs, hd, rfl⟩ ?_
            rw [vat]
            cases hl : look kvs dy with
            | none => rw [f2 hl]; exact ⟨_, H, I.tok _, ru2, q _ (by rw [hl]; exact hz)⟩
            | some d =>
              obtain ⟨b', u', z, e4, rz, rp⟩ := f1 d hl
              rw [e4]
              exact ⟨z, H, I.tok _, rz, q z (by rw [hl]; exact rp)⟩
def tyRdD (P : Program) (w : World) (K : PySem.W.Frag) (x : V) (H : Hp) : Prop := ∃ kvs, RdV P w K H x (.dict kvs)
theorem tyRdD_ok : TyOk X "dict" (tyRdD X.prog X.w X.K) := by
  intro pins σ H s x v I rx ⟨kvs, h⟩
  obtain ⟨a, o, es, ep, rfl, h1, h2, h3, h4, h5, h6⟩ := dict_raw I h
  cases (show v = Value.ref a from rx)
  exact ⟨⟨o, h1, h2.1⟩, fun b q => by cases q; exact ⟨o, h1, h2.2.1⟩⟩
def fGet (fo : Rho → Res (Rv × Rho)) (fl : Rho → Res (List PyData × Rho)) (ρ : Rho) : Res (Rv × Rho) := (fo ρ).bind fun p => (rd p.2 p.1).bind fun x0 => Res.guard (kindM .get x0) ((fl p.2).bind fun q => (rd q.2 p.1).bind fun x => (meR .get x q.1).bind fun s => .ok (.val s, q.2))
theorem meR_get {x : PyData} {ds : List PyData} {sl : Sl} (e : meR .get x ds = .ok sl) : ∃ kvs d, x = .dict kvs ∧ sl = .shr d := by
  cases x with
  | dict kvs =>
    cases ds with
    | nil => cases e
    | cons k r =>
      cases r with
      | nil =>
        obtain ⟨g, e⟩ := Res.guard_eq_ok e
        cases e
        exact ⟨_, _, rfl, rfl⟩
      | cons z r =>
        cases r with
        | nil =>
          obtain ⟨g, e⟩ := Res.guard_eq_ok e
          cases e
          exact ⟨_, _, rfl, rfl⟩
        | cons _ _ => cases e
  | _ => cases ds <;> cases e
theorem pe_get {o e : Expr} {es : List Expr} {fo : Rho → Res (Rv × Rho)} {fl : Rho → Res (List PyData × Rho)} {apos cpos : Pos} (hu : X.A.units + 70 < cLine) (ho : PE X o (tRX X fo)) (ha : PA X (e :: es) (tLX X fl)) (hs : noStar (e :: es) = true) (hn : es.length ≤ 3)
    (hbase : attributeBase o "get" X.env (eval o X.env) = eval o X.env) (hline : (apos.endLine == cpos.line) = true) :
    PE X (.Call (.Attribute o "get" apos) (e :: es) [] cpos) (tRX X (fGet fo fl)) := by
  have h2 : isStar e = false ∧ noStar es = true := by simpa [noStar] using hs
  have hall : (backTo cpos (starEach (e :: es) X.env)).all (fun x => !x.1) = true := by
    have := noStar_any (env := X.env) (pos := cpos) hs
    rw [List.all_eq_not_any_not]
    simpa using this
  refine pe_weak (pe_mG (id := "dict.get") (r := rGet X.prog X.w X.K) tyRdD_ok F.plainAttrs_dict F.slot_dict_get F.type_dict_get (opGet hu) ho ha hbase (by rw [hall]; simp [keywordEach, backToKw]; omega) hline (star_one h2.1) (noStar_any h2.2)) fun σ H Q ⟨ρ, r, ρ', k, e, q⟩ => ?_
  obtain ⟨p, e1, e⟩ := Res.bind_eq_ok e
  obtain ⟨x0, e2, e⟩ := Res.bind_eq_ok e
  obtain ⟨g, e⟩ := Res.guard_eq_ok e
  obtain ⟨y, e3, e⟩ := Res.bind_eq_ok e
  obtain ⟨x, e4, e⟩ := Res.bind_eq_ok e
  obtain ⟨sl, e6, e⟩ := Res.bind_eq_ok e
  cases e
  obtain ⟨kvs, d, rfl, rfl⟩ := meR_get e6
  refine ⟨ρ, p.1, p.2, k, e1, fun v H1 a1 r1 n1 => ⟨?_, p.2, y.1, y.2, a1.ok, e3, fun vs H2 a2 r2 => ⟨kvs, y.1, d, (r1.keep a1.ok a2.fr a2.sub).rd a2.ok e4, r2, e6, fun z hz => q z H2 (a1.trans a2) hz True.intro⟩⟩⟩
  have hx := r1.rd a1.ok e2
  cases x0 with
  | dict ks => exact ⟨ks, hx⟩
  | _ => cases g
end
end Rt
set_option maxRecDepth 100000
set_option maxHeartbeats 1000000
namespace Rt
open PySem PySem.Spec PyProof.Rows L2
/-! ### d.update(d2), the keys tuples -/
def updOk (kvs es : List (PyData × PyData)) : Bool := tupKeys kvs && tupKeys es && (!kvs.isEmpty || apart es) && decide (kvs.length + es.length ≤ lim)
def rUpd (P : Program) (w : World) (K : PySem.W.Frag) : V → List V → Hp → VK → Prop := fun x xs H Q => ∃ (a : Addr) (y : V) (kvs es : List (PyData × PyData)), x = .ref a ∧ xs = [y] ∧ OwnAt P w K H a (.dct kvs) ∧ Rp P w K H y (.dict es) ∧ updOk kvs es = true ∧
  ∀ u, OwnAt P w K (upd H a u) a (.dct (putAll kvs es)) → Q .non (upd H a u)
theorem storedAll_len : ∀ (ys xs : List (NestedKey × Addr × Value)), (storedAllH xs ys).length ≤ xs.length + ys.length
  | [], xs => Nat.le_refl _
  | y :: ys, xs => by
    have h1 := storedAll_len ys (storedH xs y.1 y.2.1 y.2.2)
    have h2 := storedH_len xs y.1 y.2.1 y.2.2
    show (storedAllH (storedH xs y.1 y.2.1 y.2.2) ys).length ≤ _
    rw [List.length_cons]
    omega
theorem storedAll_ne : ∀ (ys xs : List (NestedKey × Addr × Value)), (xs ≠ [] ∨ ys ≠ []) → storedAllH xs ys ≠ []
  | [], xs, h => h.elim id fun z => absurd rfl z
  | y :: ys, xs, _ => storedAll_ne ys (storedH xs y.1 y.2.1 y.2.2) (.inl (storedH_ne _ _ _ _))
section
variable {X : Cx} {pins : List (Addr × Obj)} {s : Shared} {σ : L2.St} {H : Hp}
theorem own_tup (I : Inv X pins σ H s) {a : Addr} {kvs : List (PyData × PyData)} (h : OwnAt X.prog X.w X.K H a (.dct kvs)) (ht : tupKeys kvs = true) :
    ∃ u xs, H a = some u ∧ Wr u ∧ s.heap.DictOfH (nestedKind X.prog X.w) a xs ∧ (a == sysModules) = false ∧ RpT X.prog X.w X.K H xs kvs := by
  rcases h with ⟨ls, e, r⟩ | ⟨xs, e, n, r⟩
  · cases kvs with
    | nil =>
      cases r
      obtain ⟨q1, q2⟩ := empty_raw I (.inl e)
      exact ⟨_, [], e, True.intro, q1, q2, .nil⟩
    | cons p t =>
      have e1 := tupKeys_cons ht
      rw [r.kind] at e1
      cases e1
  · obtain ⟨q1, q2, _⟩ := tO_raw I (.inl e) r
    exact ⟨_, xs, e, True.intro, q1, q2, r⟩
theorem mt_upd (hu : X.A.units + 70 < cLine) : MtR X "dict.update" (rUpd X.prog X.w X.K) := by
  intro pins s σ H x xs v us Q I rx rxs h
  obtain ⟨a, y, kvs, es, rfl, rfl, ho, hy, g, q⟩ := h
  simp only [updOk, Bool.and_eq_true, Bool.or_eq_true, decide_eq_true_eq] at g
  obtain ⟨⟨⟨g1, g2⟩, g3⟩, g4⟩ := g
  rw [lim_line] at g4
  obtain ⟨u0, xs, e0, wr, d1, sy1, r1⟩ := own_tup I ho g1
  obtain ⟨b, ys, rfl, d2, sy2, r2⟩ := tup_raw I (.inl hy) g2
  cases (show v = Value.ref a from rx)
  obtain ⟨u2, rfl, ru⟩ := vals1 rxs
  cases ru
  have ne : a ≠ b := fun z => by
    subst z
    cases hy with
    | dK e _ => rw [e0] at e; cases e; exact wr
    | dT e _ _ => rw [e0] at e; cases e; exact wr
  have l1 : xs.length + ys.length ≤ sizeLine := by rw [r1.length, r2.length]; exact g4
  have hap : xs ≠ [] ∨ ((∀ x ∈ ys, s.TypeIs (.ref x.2.1) "tuple") ∧ (ys.map fun x => (nestedKind X.prog X.w).hash x.1).Nodup) := by
    rcases g3 with g3 | g3
    · refine .inl fun z => ?_
      subst z
      cases r1
      simp at g3
    · exact .inr ⟨r2.types I, r2.apart g3⟩
  refine call_update_dictH (knd := nestedKind X.prog X.w) (show X.A.in1.units + 8 < cLine by show X.A.units + 1 + 8 < cLine; omega) ne sy2 d1 d2 hap l1 fun h' d3 d4 sb => ?_
  have l2 := storedAll_len ys xs
  have he : ∃ o, h'.get? a = some o := let ⟨o, _, _, hq, _⟩ := d3; ⟨o, hq⟩
  by_cases c : xs = [] ∧ ys = []
  · obtain ⟨rfl, rfl⟩ := c
    cases r1
    cases r2
    have new : ObjOk X.prog X.w (upd H a (.dK [])) h' a (.dK []) := dk_new (Nat.zero_le _) sy1 .nil (by
      obtain ⟨o, es, ep, k1, k2, k3, k4, _, _⟩ := d3
      have k4 : es.toList = [] := k4
      have k5 : es = #[] := by cases es; simpa using k4
      subst k5
      exact ⟨o, #[], ep, k1, k2, k3, (fun e he => by simp at he), .nil, List.nodup_nil⟩)
    exact ⟨.non, _, d_write (t' := s.toks) I (by rw [e0]; exact wr.mut) sb he new, rfl, q _ (.inl ⟨[], upd_same, .nil⟩)⟩
  · have nn : storedAllH xs ys ≠ [] := storedAll_ne ys xs (by
      by_cases z : xs = []
      · exact .inr fun w => c ⟨z, w⟩
      · exact .inl z)
    have kp := keep_upd (u2 := tO X.prog X.w a (storedAllH xs ys)) e0 wr
    exact ⟨.non, _, d_write (t' := s.toks) I (by rw [e0]; exact wr.mut) sb he (tO_new d3 sy1 (by omega)), rfl, q _ (.inr ⟨_, upd_same, nn, RpT.merge (r2.keep kp) (r1.keep kp)⟩)⟩
theorem pe_upd {i : Nat} {x : Str} {e : Expr} {fl : Rho → Res (List PyData × Rho)} {pn apos cpos : Pos} (hu : X.A.units + 70 < cLine) (hN : X.N[i]? = some x) (hv : Vis X.env.scope x) (hd : (x == ("__debug__" : Str)) = false) (hcd : (x == ("__classdict__" : Str)) = false)
    (ha : PA X [e] (tLX X fl)) (hs : isStar e = false) (hbase : attributeBase (.Name x pn) "update" X.env (eval (.Name x pn) X.env) = eval (.Name x pn) X.env) (hline : (apos.endLine == cpos.line) = true) :
    PE X (.Call (.Attribute (.Name x pn) "update" apos) [e] [] cpos) (tRX X (fMut .update i fl)) := by
  refine pe_weak (pe_mG (id := "dict.update") (r := rUpd X.prog X.w X.K) tyRdD_ok F.plainAttrs_dict F.slot_dict_update F.type_dict_update (mt_upd hu) (pe_var hN hv hd hcd) ha hbase (by rw [star_one hs]; rfl) hline (star_one hs) rfl) fun σ H Q ⟨ρ, r, ρ', k, e, q⟩ => ?_
  obtain ⟨g, e⟩ := Res.guard_eq_ok e
  obtain ⟨p, e1, e⟩ := Res.bind_eq_ok e
  cases h0 : gt ρ i with
  | own o0 =>
    rw [h0] at g
    cases o0 with
    | dct es0 =>
      obtain ⟨a, hσ, q0⟩ := k.at h0
      refine ⟨_, hσ, ⟨es0, .inr ⟨a, _, rfl, q0, rfl⟩⟩, ρ, p.1, p.2, k, e1, fun vs H1 a1 r1 => ?_⟩
      cases h1 : gt p.2 i with
      | own o =>
        simp only [h1] at e
        obtain ⟨y, e2, e⟩ := Res.bind_eq_ok e
        cases e
        cases o with
        | lst _ => cases hp : p.1 <;> simp [mutR, hp] at e2
        | dct kvs =>
          cases hp : p.1 with
          | nil => simp [mutR, hp] at e2
          | cons d dr =>
            rw [hp] at e2 r1
            cases dr with
            | cons _ _ => cases d <;> simp [mutR] at e2
            | nil =>
              cases d with
              | dict es =>
                obtain ⟨g2, e2⟩ := Res.guard_eq_ok e2
                cases e2
                cases r1 with
                | @cons vv _ _ _ rv rr =>
                  cases rr
                  obtain ⟨a2, hσ2, hx⟩ := a1.ok.at h1
                  rw [hσ] at hσ2
                  cases hσ2
                  refine ⟨a, vv, kvs, es, rfl, rfl, hx, rv, g2, fun u hu2 => ?_⟩
                  have w1 := a1.ok.wr h1 hσ (o' := .dct (putAll kvs es)) hu2
                  exact q _ _ (a1.trans w1) .non True.intro
              | _ => simp [mutR] at e2
      | _ => simp [h1] at e
    | lst _ => cases g
  | _ => rw [h0] at g; cases g
end
end Rt
set_option maxRecDepth 100000
set_option maxHeartbeats 1000000
namespace Rt
open PySem PySem.Spec PyProof.Rows L2
/-! ### for k, v in d.items(), d frozen -/
def Itp (d : Addr) (o : Obj) (ks vs : List V) : It where
  go := fun i H => (∃ u, H d = some (.frz o u)) ∧ i < ks.length
  yld := fun i H x H' => ∃ T k v, ks[i]? = some k ∧ vs[i]? = some v ∧ x = .ref T ∧ H T = none ∧ H' = upd H T (.tup [k, v])
  stop := fun i H => (∃ u, H d = some (.frz o u)) ∧ ks.length ≤ i
theorem turn_p {P : Program} {w : World} {K : PySem.W.Frag} {elts : List Expr} {kk : Nat} {tpos : Pos} {d : Addr} {o : Obj} {es : Array DictEntry} {ep : Nat} {ks vs : List V} (it : Addr) (hex : o.ExactDict) (hod : o.data = .dict es ep) (hk : Vals ks (es.toList.map (·.key))) (hv : Vals vs (es.toList.map (·.val))) :
    Turn P w K (.Tuple elts kk tpos) (Itp d o ks vs) [it] it (fun i h => ∃ ok ov, IsItemIter h it d i es.size ep ok ov) where
  mem := by simp
  obj := fun i h st b hb => by
    obtain rfl : b = it := by simpa using hb
    obtain ⟨ok, ov, e⟩ := st
    exact ⟨_, e, fun v z => nomatch z⟩
  keep := fun i h h' st k => let ⟨ok, ov, e⟩ := st; ⟨ok, ov, k it (by simp) _ e⟩
  item := by
    intro X hP hw hK hc i pins s σ H E I hf st hg
    subst hP hw hK
    obtain ⟨⟨u, hu⟩, hi⟩ := hg
    have hgd := frz_get I hu
    have hraw : s.heap.DictRaw d es ep := ⟨o, hgd, hex, hod⟩
    have hl1 := hk.length
    have hl2 := hv.length
    have hl3 : es.toList.length = es.size := Array.length_toList ..
    rw [List.length_map] at hl1 hl2
    have hi2 : i < es.size := by omega
    have hi3 : i < vs.length := by omega
    obtain ⟨key, hkey, rk⟩ := hk.get (List.getElem?_eq_getElem hi)
    obtain ⟨val, hval, rv⟩ := hv.get (List.getElem?_eq_getElem hi3)
    rw [List.getElem?_map] at hkey hval
    have hen : es.toList[i]? = some es[i] := by rw [Array.getElem?_toList, Array.getElem?_eq_getElem hi2]
    rw [hen] at hkey hval
    cases hkey
    cases hval
    obtain ⟨ok, ov, he⟩ := st
    have hlt : it < s.heap.objs.size := Heap.lt_size he
    refine wpAny_pyNext_items_item_raw he hraw hi2 fun h' ho hT hz hkp => ?_
    refine ⟨_, rfl, wpAny_letOwnedTupleGo_items (s := { s with heap := h' }) ho fun h'' he' sb => ?_⟩
    have hT2 : h''.get? s.heap.objs.size = some { cls := .type "tuple", data := .seq #[es[i].key, es[i].val] } := (sb.2 _ (Nat.ne_of_gt hlt)).trans hT
    have new : ObjOk X.prog X.w (upd H s.heap.objs.size (.tup [ks[i], vs[i]])) h'' s.heap.objs.size (.tup [ks[i], vs[i]]) :=
      ⟨by show 2 ≤ sizeLine; decide, [es[i].key, es[i].val], .cons rk (.cons rv .nil), ⟨_, hT2, rfl, _, rfl⟩⟩
    have I1 : Inv X pins σ (upd H s.heap.objs.size (.tup [ks[i], vs[i]])) { s with heap := h'' } :=
      I.turnedNew (t' := s.toks) (ch := [it]) (fun b ob hb e => (sb.2 b (by simpa using hb)).trans (hkp b ob (by simpa using hb) e)) hf (Nat.le_refl _) new
    refine ⟨.ref s.heap.objs.size, _, I1, rfl, ⟨_, _, _, List.getElem?_eq_getElem hi, List.getElem?_eq_getElem hi3, rfl, I.hok.fresh (Nat.le_refl _), rfl⟩, ⟨_, _, he'⟩, fun b hb => ?_⟩
    obtain rfl : b = it := by simpa using hb
    rw [upd_ne (Nat.ne_of_lt hlt)]
    exact (hf b (by simp)).1
  done := by
    intro X hP hw hK hc i pins s σ H E I hf st hg
    subst hP hw hK
    obtain ⟨⟨u, hu⟩, hi⟩ := hg
    obtain ⟨f0, f1, f2, f3, f4, f5⟩ := hf it (by simp)
    have hgd := frz_get I hu
    have hl1 := hk.length
    have hl3 : es.toList.length = es.size := Array.length_toList ..
    rw [List.length_map] at hl1
    obtain ⟨ok, ov, he⟩ := st
    exact wpAny_pyNext_items_end_raw (I.ok.hd hc) he ⟨o, hgd, hex, hod⟩ (by omega) fun h' eb => ⟨rfl, I.turned (t' := s.toks) (fun b ob hb e => eb b ob hb e) f0 f1 f3 f4 f5⟩
  self := fun A i s Q E st h => let ⟨_, _, e⟩ := st; PySem.W.kcp_self e h
theorem Ents.both {P : Program} {w : World} {K : PySem.W.Frag} {H : Hp} : ∀ {es : List DictEntry} {kvs : List (PyData × PyData)}, Ents P w K H es kvs → ∃ ks vs, Vals ks (es.map (·.key)) ∧ Vals vs (es.map (·.val)) ∧ RpAll P w K H ks (kvs.map (·.1)) ∧ RpAll P w K H vs (kvs.map (·.2))
  | _, _, .nil => ⟨[], [], .nil, .nil, .nil, .nil⟩
  | _, _, .cons kv vv a b c d r => by
    obtain ⟨ks, vs, h1, h2, h3, h4⟩ := Ents.both r
    exact ⟨kv :: ks, vv :: vs, .cons a h1, .cons c h2, .cons b h3, .cons d h4⟩
theorem walk_p {P : Program} {w : World} {K : PySem.W.Frag} {H : Hp} {d : Addr} {o : Obj} {u : HO} {ks vs : List V} {kvs : List (PyData × PyData)} (h : H d = some (.frz o u)) (r1 : RpAll P w K H ks (kvs.map (·.1))) (r2 : RpAll P w K H vs (kvs.map (·.2))) :
    Walk P w K (Itp d o ks vs) H (kvs.map fun q => .tuple [q.1, q.2]) := by
  intro H2 kp i
  have hf := kp.frz _ _ _ h
  have l1 := r1.length
  rw [List.length_map] at l1
  refine ⟨fun hi => ⟨⟨u, hf⟩, by rw [List.length_map] at hi; omega⟩, fun d hd => ?_⟩
  rw [List.getElem?_map] at hd
  obtain ⟨q, hq, rfl⟩ := Option.map_eq_some_iff.mp hd
  obtain ⟨k, hk, rk⟩ := r1.get (i := i) (d := q.1) (by rw [List.getElem?_map, hq]; rfl)
  obtain ⟨v, hv, rv⟩ := r2.get (i := i) (d := q.2) (by rw [List.getElem?_map, hq]; rfl)
  refine ⟨⟨⟨u, hf⟩, get_lt hk⟩, fun x H3 yy => ?_⟩
  obtain ⟨T, k', v', hk', hv', rfl, hT, rfl⟩ := yy
  rw [hk] at hk'
  rw [hv] at hv'
  cases hk'
  cases hv'
  have g : Grow H2 (upd H2 T (.tup [k, v])) := .one hT
  exact ⟨g, .tup (.inl (.inl upd_same)) (.cons ((rk.keep kp).keep g.keep) (.cons ((rv.keep kp).keep g.keep) .nil))⟩
section
variable {X : Cx} {e : Expr} {fa : Rho → Res (Rv × Rho)} {elts : List Expr} {kk : Nat} {tpos apos cpos : Pos}
theorem pi_it (ha : PE X e (tRX X fa)) (hbase : attributeBase e "items" X.env (eval e X.env) = eval e X.env) (hline : (apos.endLine == cpos.line) = true) :
    PI X (.Tuple elts kk tpos) (.Call (.Attribute e "items" apos) [] [] cpos) (tIX X fun ρ => (fa ρ).bind fun p => (stl p.2 p.1).bind fun x => match x.1 with
      | .dict kvs => .ok (kvs.map fun q => .tuple [q.1, q.2], x.2)
      | _ => .bad) := by
  have hS := pe_stl ha
  refine ⟨fun pins s σ H R I ⟨ρ, ds, ρ', k, e, q⟩ => ?_⟩
  obtain ⟨y, e1, e⟩ := Res.bind_eq_ok e
  obtain ⟨x, e2, e⟩ := Res.bind_eq_ok e
  have ef : ((fa ρ).bind fun p => stl p.2 p.1) = .ok (x.1, x.2) := by rw [e1]; exact e2
  cases hx : x.1 with
  | dict kvs =>
    rw [hx] at e ef
    cases e
    refine wpAny_Call_method (T := "dict") (id := "dict.items") hbase rfl hline F.plainAttrs_dict F.slot_dict_items F.type_dict_items (thn (hS.run pins s σ H (fun v H1 => Pst X.prog X.w X.K σ ρ H x.2 H1 ∧ Rp X.prog X.w X.K H1 v (.dict kvs)) I ⟨ρ, _, _, k, ef, fun v H1 a1 r1 => ⟨a1, r1⟩⟩) fun u s1 ⟨v, H1, I1, rv, a1, r1⟩ => ?_)
    obtain ⟨a, o, es, ep, rfl, h1, h2, h3, h4, h5, h6⟩ := dict_raw I1 (.inl r1)
    cases (show u = Value.ref a from rv)
    obtain ⟨ks, vs, hk, hv, rk, rv⟩ := h6.both
    have hfz : ∃ u, H1 a = some (.frz o u) := by
      cases r1 with
      | dK hf _ =>
        have := frz_get I1 hf
        rw [h1] at this
        cases this
        exact ⟨_, hf⟩
      | dT hf _ _ =>
        have := frz_get I1 hf
        rw [h1] at this
        cases this
        exact ⟨_, hf⟩
    obtain ⟨uu, hfz⟩ := hfz
    have hraw : s1.heap.DictRaw a es ep := ⟨o, h1, h2, h3⟩
    refine ⟨hraw.typeIs, fun b q => by cases q; exact ⟨o, h1, h2.2.1⟩, ?_⟩
    have I2 : Inv X pins σ H1 { s1 with heap := s1.heap.push { cls := .type "dict_items", data := .fields #[.ref a] } } := I1.kept (t' := s1.toks) fun b ob q => Heap.get?_push_of_some _ q
    have fin : wpAny (model X.prog X.w) X.A (pyIter (.ref s1.heap.objs.size)) (PIE X pins σ (.Tuple elts kk tpos) R) X.xe { s1 with heap := s1.heap.push { cls := .type "dict_items", data := .fields #[.ref a] } } :=
      wpAny_pyIter_items_raw (d := a) ⟨_, Heap.get?_push_size _ rfl, rfl, rfl⟩ (hraw.at fun o e => Heap.get?_push_of_some _ e) (pi_one (tk := s1.toks) I2 _ (turn_p _ h2 h3 hk hv) ⟨.none, .none, Heap.get?_push_size _ rfl⟩ (q _ _ a1 (walk_p hfz rk rv)))
    show wpAny _ _ (callWith cpos (.builtin "dict.items") [.ref a] [] []) _ X.xe s1
    exact method_meetsIn F.slot_dict_items F.entry_dict_items rfl (PySem.evalArgs_none ⟨rfl, hraw.typeIs, F.args_dict_items_1 _, _, meets_dict_items_raw a h4, ⟨⟨es, ep, hraw⟩, fin⟩⟩)
  | _ => rw [hx] at e; cases e
end
end Rt
set_option maxRecDepth 100000
set_option maxHeartbeats 1000000
namespace Rt
open PySem PySem.Spec PyProof.Rows L2
/-! ### len(set(a list of numbers or texts)) -/
def memK {K : Type} [DecidableEq K] (ks : List K) : K → Bool := fun j => decide (j ∈ ks)
section
variable {P : Program} {w : World} {A : Around} {E : Value → Shared → Prop} {s : Shared} {K : Type} [DecidableEq K] {knd : KeyKind P w K}
theorem setOf_none {h : Heap} {a : Addr} {ks : List K} (e : h.get? a = some (eSet w)) : h.SetOf knd a (fun j => decide (j ∈ ks.take 0)) (nb (ks.take 0).reverse) :=
  ⟨_, #[], 0, _, e, ⟨rfl, rfl, rfl⟩, rfl, fun e he => (by simp at he), fun k => (by simp), by decide, by rfl, rfl⟩
theorem setOf_as {h : Heap} {a : Addr} {S S' : K → Bool} {n n' : Nat} (e : h.SetOf knd a S n) (h1 : ∀ k, S k = S' k) (h2 : n = n') : h.SetOf knd a S' n' := by
  have : S = S' := funext h1
  subst this h2
  exact e
theorem setOf_there {h h' : Heap} {a : Addr} {S : K → Bool} {n : Nat} (e : h.SetOf knd a S n) (k : ∀ o, h.get? a = some o → h'.get? a = some o) : h'.SetOf knd a S n := by
  obtain ⟨o, es, ep, tb, e1, e2⟩ := e
  exact ⟨o, es, ep, tb, k o e1, e2⟩
theorem fill_keys {R : Result → Shared → Prop} {I : Addr} {fp wr : List Addr} {G : Array GenState → Array GenState → Prop} {n : Nat} {Pv : Nat → Value → Prop} {St : Nat → Shared → Prop}
    (W : WalksS P w A.in1 I fp wr G n Pv St) (a : Addr) (nfp : a ∉ fp) (ks : List K) (hn : n = ks.length) (hb : ks.length + 1 < scanBound) (hv : ∀ i v, Pv i v → ∃ k, ks[i]? = some k ∧ knd.is k v = true ∧ v.scannable = true) :
    ∀ (m i : Nat) (s : Shared), n - i = m → i ≤ n → St i s → s.heap.SetOf knd a (fun j => decide (j ∈ ks.take i)) (nb (ks.take i).reverse) →
      (∀ s', Moved (a :: wr) G s s' → s'.heap.SetOf knd a (fun j => decide (j ∈ ks)) (nb ks.reverse) → R (.ok (.ret .none)) s') →
      codeAny (model P w) A (.builtin "set.update.loop" ⟨[.ref a, .ref I], []⟩) R s := by
  have nwr : a ∉ wr := fun z => nfp (W.sub _ z)
  have sub : ∀ b ∈ wr, b ∈ a :: wr := fun b z => List.mem_cons_of_mem _ z
  intro m
  induction m with
  | zero =>
    intro i s e1 e2 st e3 fin
    obtain rfl : i = n := by omega
    refine codeAny_builtin F.entry_set_update_loop ?_
    rw [Around.under_plainId F.plain_set_update_loop _]
    refine wpAny_bind (m := pyNext (.ref I)) (W.done s _ _ st fun s' mv => ?_)
    have e4 : ks.take i = ks := List.take_of_length_le (by omega)
    rw [e4] at e3
    exact wpAny_pure (fin s' (mv.mono sub) (setOf_there e3 fun o e => mv.heap a o nwr e))
  | succ m ih =>
    intro i s e1 e2 st e3 fin
    have lt : i < n := by omega
    refine codeAny_builtin F.entry_set_update_loop ?_
    rw [Around.under_plainId F.plain_set_update_loop _]
    refine wpAny_bind (m := pyNext (.ref I)) (W.item i s _ _ lt st fun v s' hP st' mv => ?_)
    obtain ⟨k, ek, hk, sc⟩ := hv i v hP
    have e4 := setOf_there (h' := s'.heap) e3 fun o e => mv.heap a o nwr e
    have tk1 : ks.take (i + 1) = ks.take i ++ [k] := by rw [List.take_add_one, ek]; rfl
    have hle : nb (ks.take i).reverse ≤ (ks.take i).length := by
      have go : ∀ l : List K, nb l ≤ l.length := fun l => by
        induction l with
        | nil => exact Nat.le_refl _
        | cons x l ih => unfold nb; split <;> simp <;> omega
      simpa using go (ks.take i).reverse
    have hle2 : (ks.take i).length ≤ i := List.length_take_le _ _
    refine wpAny_bind (m := holding [v] (setAdd a v)) (wpAny_holding ?_)
    unfold setAdd
    refine wpAny_holding (wpAny_bind (knd.pyHash hk ?_))
    refine wpAny_setAddHashed_of (s := { s' with toks := s'.toks + 1 }) hk sc e4 (by omega) fun h' sb e5 => ?_
    have e6 : h'.SetOf knd a (fun j => decide (j ∈ ks.take (i + 1))) (nb (ks.take (i + 1)).reverse) := setOf_as e5 (fun j => by rw [tk1]; simp [List.mem_append]) (by
      rw [tk1, List.reverse_append]
      show _ = nb (k :: (ks.take i).reverse)
      rw [nb]
      simp only [decide_eq_true_eq, List.mem_reverse])
    refine wpAny_pure ⟨plainId_quiet F.plain_set_update_loop _, ih (i + 1) _ (by omega) lt (W.frame _ s' _ _ st' (Nat.le_succ _) fun b z o e => ?_) e6 fun s2 mv2 e7 => fin s2 (Moved.trans W.gtrans ((mv.mono sub).then_heap (Nat.le_succ _) fun b o z e => ?_) mv2) e7⟩
    · have nb : b ≠ a := fun q => nfp (by rw [← q]; exact z)
      exact (sb.2 b nb).trans e
    · have nb : b ≠ a := fun q => z (by rw [q]; exact List.mem_cons_self)
      exact (sb.2 b nb).trans e
set_option maxHeartbeats 3200000 in
theorem set_of_keys {l : Addr} {us : Array Value} (ks : List K) {Q : Value → Shared → Prop} (hd0 : A.handled = none) (hl : s.heap.IsList l us) (zUs : us.size = ks.length) (ii : ∀ (i : Nat) (v : Value), us[i]? = some v → ∃ k, ks[i]? = some k ∧ knd.is k v = true ∧ v.scannable = true) (hb : ks.length + 1 < scanBound)
    (h : ∀ (h' : Heap) (tk : Nat), h'.SetOf knd s.heap.objs.size (fun j => decide (j ∈ ks)) (nb ks.reverse) → (∀ b o, s.heap.get? b = some o → h'.get? b = some o) → Q (.ref s.heap.objs.size) { s with heap := h', toks := tk }) :
    wpAny (model P w) A (call (.type "set") [.ref l]) Q E s := by
  obtain ⟨c, tl2, em⟩ := F.called_set.mro
  have em2 := F.called_set.made
  have em3 := F.called_set.sub
  refine wpAny_call (codeAny_of_tree ?_)
  show wpAny _ _ (callAny (.type "set") _) _ _ _
  refine wpAny_pure ⟨Code.quiet_builtin _ (by decide +kernel), codeAny_builtin F.entry_type_call ?_⟩
  rw [Around.under_plain (weight_type_call_type "set" [.ref l] []) rfl]
  have k1 := F.called_set.notType
  have k2 := F.called_set.canCreate
  have em4 := F.typeCall_set_1 (.ref l)
  repeat (any_goals (first | assumption | wp_step))

  refine codeAny_mono (code_set_led1 (.ref l) (E := E) (Q₁ := fun ob s₁ => ob = .ref s.heap.objs.size ∧ s₁ = { s with heap := sH s w }) ⟨rfl, rfl⟩) fun r s₁ er => ?_
  cases r with
  | error e => exact er
  | ok fl =>
    cases fl with
    | ret ob =>
      obtain ⟨rfl, rfl⟩ := er
      have gS : (sH s w).get? s.heap.objs.size = some (eSet w) := Heap.get?_push_size _ rfl
      have gT2 : Shared.TypeIs { s with heap := sH s w } (.ref s.heap.objs.size) "set" := ⟨_, gS, rfl⟩
      have em5 := F.called_set.init.lookup
      have em6 := F.called_set.init.bind (.ref s.heap.objs.size)
      repeat (any_goals (first | assumption | wp_step))

      refine codeAny_mono (codeAny_call_builtin (R := wants (fun r s₂ => r = .none ∧ ∃ h' tk, s₂ = { s with heap := h', toks := tk } ∧ h'.SetOf knd s.heap.objs.size (fun j => decide (j ∈ ks)) (nb ks.reverse) ∧
          (∀ b o, s.heap.get? b = some o → h'.get? b = some o)) E) F.called_set.init.plain F.entry_set_init (check_set_init_1 gT2 ?_)) fun r₂ s₂ hr₂ => ?_
      · obtain ⟨ol, ol1, oc1, on, od1⟩ := hl
        obtain ⟨c0, d0, e0, l0⟩ := ol
        simp only at oc1 od1
        subst oc1; subst od1
        have ol2 : (sH s w).get? l = some { cls := .type "list", dict := d0, data := .seq us on, slots := l0 } := Heap.get?_push_of_some _ ol1
        have f1 := F.sub_list_set
        have f2 := F.sub_list_frozenset
        have f3 : (Value.type "list" == Value.type "dict") = false := by decide
        have gl : (sH s w).IsList l us := ⟨_, ol2, rfl, on, rfl⟩
        unfold Builtin.«set.__init__» noKeywords Builtin.Frozenset.updateFrom
        generalize gp : pyIter = pI
        wp_walk
        subst gp

        refine wpAny_pyIter_list gl ?_
        refine wpAny_bind (wpAny_runValue ?_)
        have gs : l < s.heap.objs.size := Heap.lt_size ol1
        have gh : A.in1.in1.in1.handled = none := by simp [hd0]
        have gz : (sH s w).objs.size = s.heap.objs.size + 1 := Heap.size_push ..
        have gn : l ≠ (sH s w).objs.size := by
          rw [Heap.size_push]; exact Nat.ne_of_lt (Nat.lt_succ_of_lt gs)
        have gf : s.heap.objs.size ∉ [(sH s w).objs.size, l] := by
          rw [Heap.size_push]; simp only [List.mem_cons, List.mem_singleton, List.not_mem_nil, or_false, not_or]
          exact ⟨Nat.ne_of_lt (Nat.lt_succ_self _), Nat.ne_of_gt gs⟩
        refine fill_keys ((Walks.list gh _ l gn us).toS) s.heap.objs.size
          gf ks zUs hb ii (us.size - 0) 0 _ (by omega) (Nat.zero_le _)
          ⟨⟨_, Heap.get?_push_size _ rfl, rfl, rfl⟩, (gl.push _)⟩ ?hS0 ?hR
        case hS0 =>
          have gg : ((sH s w).push { cls := .type "list_iterator", data := .fields #[.ref l, .int 0 0] }).get? s.heap.objs.size
              = some (eSet w) := Heap.get?_push_of_some _ gS
          exact setOf_none gg
        case hR =>
          intro s' hm hS'
          obtain ⟨h', g2, d', tk', os'⟩ := s'
          have eg : g2 = s.gens := hm.gens
          have ed : d' = s.drawn := hm.drawn
          have eo : os' = s.os := hm.os
          subst eg; subst ed; subst eo
          show wpAny _ _ _ _ _ _
          refine wpAny_pure ?_
          show wpAny _ _ (ret Value.none) _ _ _
          refine wpAny_pure ⟨rfl, h', tk', rfl, hS', fun b o e => ?_⟩
          have u0 : b < s.heap.objs.size := Heap.lt_size e
          have u1 : b ≠ s.heap.objs.size := Nat.ne_of_lt u0
          have u2 : b ≠ (sH s w).objs.size := by
            rw [Heap.size_push]; exact Nat.ne_of_lt (Nat.lt_succ_of_lt u0)
          exact hm.heap b o (by simp only [List.mem_cons, List.mem_singleton, List.not_mem_nil, or_false, not_or]; exact ⟨u1, u2⟩) (Heap.get?_push_of_some _ (Heap.get?_push_of_some _ e))

      · cases r₂ with
        | error e => exact hr₂
        | ok fl₂ =>
          cases fl₂ with
          | ret r =>
            obtain ⟨rfl, h', tk, rfl, hS', hk'⟩ := hr₂
            repeat (any_goals (first | assumption | wp_step))
            exact h _ _ hS' hk'
          | _ => exact hr₂.elim
    | _ => exact er.elim

end
section
variable {X : Cx} {pins : List (Addr × Obj)} {s : Shared} {σ : L2.St} {H : Hp}
theorem keys_rp {P : Program} {w : World} {K : PySem.W.Frag} : ∀ {ds : List PyData} {ks : List Key} {vs : List V}, keysOf ds = some ks → RpAll P w K H vs ds → vs = ks.map kV
  | [], ks, vs, h, r => by
    cases h
    cases r
    rfl
  | d :: ds, ks, vs, h, r => by
    cases r with
    | cons r1 r2 =>
      cases d with
      | int i =>
        obtain ⟨ks', e1, rfl⟩ := Option.map_eq_some_iff.mp (show (keysOf ds).map (.inl i :: ·) = some ks from h)
        cases r1
        rw [keys_rp e1 r2]
        rfl
      | str i =>
        obtain ⟨ks', e1, rfl⟩ := Option.map_eq_some_iff.mp (show (keysOf ds).map (.inr i :: ·) = some ks from h)
        cases r1
        rw [keys_rp e1 r2]
        rfl
      | _ => cases h
/-- set(a list of keys) -/
def rSetKs (K : PySem.W.Frag) (P : Program) (w : World) : List V → Hp → VK → Prop := fun xs H Q => ∃ (l : Addr) (ks : List Key), xs = [V.ref l] ∧ SqL K H l (ks.map kV) ∧ ks.length < 64 ∧ ∀ a, H a = none → Q (.ref a) (upd H a (SetK P w a (memK ks) (nb ks.reverse)))
theorem cr_setKs (hc : X.calm = true) : CallR X (.type "set") (rSetKs X.K X.prog X.w) := by
  intro pins s σ H xs us Q I r h
  obtain ⟨l, ks, rfl, hl, hf, q⟩ := h
  obtain ⟨u, rfl, ru⟩ := vals1 r
  cases ru
  obtain ⟨its, rv, pl, hz⟩ := I.list hl
  have hlen : its.toArray.size = ks.length := by rw [List.size_toArray, ← rv.length, List.length_map]
  refine set_of_keys (knd := mixKind X.prog X.w) ks (I.ok.hd hc) pl.isList hlen (fun i v hv => ?_) (by unfold scanBound; omega) fun h' tk R kp => ?_
  · have hv' : its[i]? = some v := by simpa using hv
    have hi : i < ks.length := by rw [← hlen, List.size_toArray]; exact (List.getElem?_eq_some_iff.mp hv').1
    obtain ⟨u, e1, e2⟩ := rv.get (i := i) (x := kV ks[i]) (by simp [hi])
    rw [hv'] at e1
    cases e1
    exact ⟨_, List.getElem?_eq_getElem hi, kV_is e2, key_scan e2⟩
  · exact ⟨.ref s.heap.objs.size, _, I.laid (t' := tk) kp (Nat.le_refl _) (setK_new R), rfl, q _ I.fresh⟩
def rLenK (P : Program) (w : World) : List V → Hp → VK → Prop := fun xs H Q => ∃ a S n, xs = [V.ref a] ∧ H a = some (SetK P w a S n) ∧ n < 64 ∧ Q (.int n) H
theorem cr_lenK : CallR X (.builtin "len") (rLenK X.prog X.w) := by
  intro pins s σ H xs us Q I r h
  obtain ⟨a, S, n, rfl, ha, hn, q⟩ := h
  obtain ⟨u, rfl, ru⟩ := vals1 r
  cases ru
  obtain ⟨o, es, ep, t, h1, h2, h3, _, _, _, h7, h8⟩ := setK_get I ha
  exact call_len_set h1 h2 h3 h7 (by omega) ⟨.int n, H, I.tok _, ⟨_, by rw [h8]⟩, q⟩
theorem nb_le {α : Type} [DecidableEq α] : ∀ l : List α, nb l ≤ l.length
  | [] => Nat.le_refl _
  | x :: l => by
    have := nb_le l
    unfold nb
    split <;> simp <;> omega
theorem pe_lset {a : Expr} {fr : Rho → Res (List Rv × Rho)} {p p2 q pos : Pos} (hc : X.calm = true) (hg : Gl X "len") (hm : X.mg "len" = none) (hg2 : Gl X "set") (hm2 : X.mg "set" = none) (ha : PA X [a] (tAX X fr)) (hs : isStar a = false) :
    PE X (.Call (.Name "len" p) [.Call (.Name "set" p2) [a] [] q] [] pos) (tRX X (fBi .lset fr)) := by
  refine pe_weak (pe_callB cr_lenK hg hm boot_len (pa_cons (pe_callTy (cr_setKs hc) hg2 hm2 PyProof.Rows.boot_set ha (by decide) (by decide) (star_one hs) rfl) pa_nil rfl) (by decide) (by decide) rfl rfl) fun σ H Q ⟨ρ, r, ρ', k, e, q⟩ => ?_
  obtain ⟨y, e1, e⟩ := Res.bind_eq_ok e
  obtain ⟨ds, e2, e⟩ := Res.bind_eq_ok e
  obtain ⟨sl, e3, e⟩ := Res.bind_eq_ok e
  cases e
  refine ⟨ρ, y.1, y.2, k, e1, fun vs H1 a1 r1 n1 ap1 => ?_⟩
  have hr := r1.rds a1.ok e2
  cases hr with
  | nil => cases e3
  | @cons x d xs' ds' h1 h2 =>
    cases h2 with
    | cons _ _ => cases d <;> cases e3
    | nil =>
      cases d with
      | list es =>
        obtain ⟨ks, f1, f2⟩ := Res.bind_eq_ok e3
        obtain ⟨g, f2⟩ := Res.guard_eq_ok f2
        cases f2
        obtain ⟨l, ws, rfl, hl, r⟩ := h1.list
        have ew := keys_rp (Res.get_eq_ok f1) r
        subst ew
        have g := of_decide_eq_true g
        refine ⟨l, ks, rfl, hl, g, fun b hb => ⟨b, _, _, rfl, upd_same, ?_, ?_⟩⟩
        · have := nb_le ks.reverse
          rw [List.length_reverse] at this
          omega
        · obtain ⟨m1, m2, m3⟩ := (show Mk X.prog X.w X.K H1 (upd H1 b (SetK X.prog X.w b (memK ks) (nb ks.reverse))) (.int (nb ks.reverse)) (.shr (.int (nb ks.reverse))) from ⟨.one hb, .int _, fun _ e => (nomatch e), fun e => (nomatch e)⟩).rv a1
          exact q _ _ m1 m2 m3
      | _ => cases e3
end
end Rt
set_option maxRecDepth 100000
set_option maxHeartbeats 1000000
namespace Rt
open PySem PySem.Spec PyProof.Rows L2
/-! ### sorted(d.items()) -/
section
variable {P : Program} {w : World} {K : PySem.W.Frag} {H : Hp}
theorem rp_by : ∀ {vs : List V} {ds : List PyData}, vs.length = ds.length → (∀ (j : Nat) (v : V) (d : PyData), vs[j]? = some v → ds[j]? = some d → Rp P w K H v d) → RpAll P w K H vs ds
  | [], [], _, _ => .nil
  | [], _ :: _, e, _ => by cases e
  | _ :: _, [], e, _ => by cases e
  | v :: vs, d :: ds, e, h => .cons (h 0 v d rfl rfl) (rp_by (by simpa using e) fun j x y h1 h2 => h (j + 1) x y (by simpa using h1) (by simpa using h2))
end
theorem Grow.trans {H H1 H2 : Hp} (a : Grow H H1) (b : Grow H1 H2) : Grow H H2 := by
  induction b with
  | refl => exact a
  | put _ hp ih => exact .put ih hp
theorem grow_put {H H2 : Hp} {a : Addr} {u : HO} (ha : H a = none) (b : Grow (upd H a u) H2) : Grow H H2 := Grow.trans (.one ha) b
section
variable {X : Cx} {pins : List (Addr × Obj)} {s : Shared} {σ : L2.St} {H : Hp}
/-- tuples that were laid are taken into the word -/
theorem track {h' : Heap} {tk : Nat} {W : Addr → List V → Prop} (I0 : Inv X pins σ H s) : ∀ (as : List Addr) (H1 : Hp), Inv X pins σ H1 { s with heap := h', toks := tk } → as.Nodup → (∀ a ∈ as, s.heap.objs.size ≤ a ∧ H1 a = none ∧ ∃ vs, W a vs ∧ ∀ H2, ObjOk X.prog X.w H2 h' a (.tup vs)) →
    ∃ H2, Inv X pins σ H2 { s with heap := h', toks := tk } ∧ Grow H1 H2 ∧ ∀ a ∈ as, ∃ vs, W a vs ∧ H2 a = some (.tup vs)
  | [], H1, I1, _, _ => ⟨H1, I1, .refl, fun _ z => nomatch z⟩
  | a :: as, H1, I1, nd, h => by
    obtain ⟨e1, e2, vs, e3, e4⟩ := h a List.mem_cons_self
    obtain ⟨n1, n2⟩ := List.nodup_cons.mp nd
    have I2 : Inv X pins σ (upd H1 a (.tup vs)) { s with heap := h', toks := tk } := I1.take (h' := h') (t' := tk) (fun _ _ _ z => z) (I0.fpOk e1 e2) (e4 _)
    obtain ⟨H2, I3, g, f⟩ := track I0 as _ I2 n2 fun c hc => by
      obtain ⟨f1, f2, f3⟩ := h c (List.mem_cons_of_mem _ hc)
      have ne : c ≠ a := fun z => n1 (by rw [← z]; exact hc)
      exact ⟨f1, by rw [upd_ne ne]; exact f2, f3⟩
    refine ⟨H2, I3, grow_put e2 g, fun c hc => ?_⟩
    rcases List.mem_cons.mp hc with rfl | hc
    · exact ⟨vs, e3, g.at upd_same⟩
    · exact f c hc
def pairD (q : PyData × PyData) : PyData := .tuple [q.1, q.2]
/-- sorted(v), v the items of a dict -/
def rSits (P : Program) (w : World) (K : PySem.W.Frag) : List V → Hp → VK → Prop := fun xs H Q => ∃ (p a : Addr) (kvs : List (PyData × PyData)), xs = [V.ref p] ∧ H p = some (DX.itemsO p a) ∧ RdV P w K H (.ref a) (.dict kvs) ∧ okSort (kvs.map pairD) = true ∧
  ∀ v H', Mk P w K H H' v (.own (.lst (sortD (kvs.map pairD)))) → Q v H'
open PySem.W in
theorem cr_sits (hc : X.calm = true) (hu : X.A.units + 100 < cLine) : CallR X (.builtin "sorted") (rSits X.prog X.w X.K) := by
  intro pins s σ H xs us Q I r h
  obtain ⟨p, a, kvs, rfl, hp, hd, ho, q⟩ := h
  obtain ⟨u, rfl, ru⟩ := vals1 r
  cases ru
  have view : s.heap.IsItemsView p a := (show ObjOk X.prog X.w H s.heap p (DX.itemsO p a) from I.hok p _ hp).1
  obtain ⟨a', o, es, ep, ea, h1, h2, h3, h4, h5, h6⟩ := dict_raw I hd
  cases ea
  obtain ⟨ks, vs, hk, hv, rk, rv⟩ := h6.both
  have zl := h6.length
  rw [Array.length_toList] at zl
  obtain ⟨o1, o2, o3, o4, o5⟩ := okSort_and ho
  have srt : Sortable (kvs.map pairD) := .inl fun d hd => by
    obtain ⟨z, _, rfl⟩ := List.mem_map.mp hd
    exact ⟨_, _, rfl⟩
  refine DT.sortedI (es := es) (ep := ep) (I.ok.hd hc) view ⟨o, h1, h2, h3⟩ (by rw [zl]; exact h5) fun h' tk as kp lt la mk => ?_
  have nd : as.Nodup := List.Pairwise.imp (fun z => Nat.ne_of_lt z) mk.rise
  have I1 : Inv X pins σ H { s with heap := h', toks := tk } := I.kept (t' := tk) kp
  have at_ : ∀ (j : Nat) (b : Addr), as[j]? = some b → ∃ k v, ks[j]? = some k ∧ vs[j]? = some v ∧ ∃ uk uv, RelV k uk ∧ RelV v uv ∧ h'.get? b = some { cls := .type "tuple", data := .seq #[uk, uv] } := fun j b e => by
    obtain ⟨en, e1, e2⟩ := mk.pairs j b e
    have e3 : es.toList[j]? = some en := by rw [Array.getElem?_toList]; exact e1
    have l1 := hk.length
    have l2 := hv.length
    have l3 : es.toList.length = es.size := Array.length_toList ..
    rw [List.length_map] at l1 l2
    have hj : j < es.size := (Array.getElem?_eq_some_iff.mp e1).1
    obtain ⟨uk, f1, f2⟩ := hk.get (i := j) (x := ks[j]'(by omega)) (List.getElem?_eq_getElem _)
    obtain ⟨uv, g1, g2⟩ := hv.get (i := j) (x := vs[j]'(by omega)) (List.getElem?_eq_getElem _)
    rw [List.getElem?_map, e3] at f1 g1
    cases f1
    cases g1
    exact ⟨_, _, List.getElem?_eq_getElem _, List.getElem?_eq_getElem _, _, _, f2, g2, e2⟩
  obtain ⟨H2, I2, g2, f2⟩ := track (W := fun b ws => ∃ (j : Nat) (k v : V), as[j]? = some b ∧ ks[j]? = some k ∧ vs[j]? = some v ∧ ws = [k, v]) I as H I1 nd fun b hb => by
    obtain ⟨j, hj⟩ := List.mem_iff_getElem?.mp hb
    obtain ⟨k, v, e1, e2, uk, uv, e3, e4, e5⟩ := at_ j b hj
    have bl : s.heap.objs.size ≤ b := Nat.le_of_lt (mk.above b hb)
    exact ⟨bl, I.hok.fresh bl, [k, v], ⟨j, k, v, hj, e1, e2, rfl⟩, fun H3 => ⟨by show 2 ≤ sizeLine; decide, [uk, uv], .cons e3 (.cons e4 .nil), ⟨_, e5, rfl, _, rfl⟩⟩⟩
  have rp2 : RpAll X.prog X.w X.K H2 (as.map V.ref) (kvs.map pairD) := rp_by (by simp; omega) fun j v d e1 e2 => by
    rw [List.getElem?_map] at e1 e2
    obtain ⟨b, hb, rfl⟩ := Option.map_eq_some_iff.mp e1
    obtain ⟨z, hz, rfl⟩ := Option.map_eq_some_iff.mp e2
    obtain ⟨ws, ⟨i, k, v, i1, i2, i3, rfl⟩, e3⟩ := f2 b (List.mem_of_getElem? hb)
    have eij : i = j := (List.getElem?_inj (List.getElem?_eq_some_iff.mp i1).1 nd).mp (i1.trans hb.symm)
    subst eij
    obtain ⟨k', k1, k2⟩ := rk.get (i := i) (d := z.1) (by rw [List.getElem?_map, hz]; rfl)
    obtain ⟨v', v1, v2⟩ := rv.get (i := i) (d := z.2) (by rw [List.getElem?_map, hz]; rfl)
    rw [i2] at k1
    rw [i3] at v1
    cases k1
    cases v1
    exact .tup (.inl (.inl e3)) (.cons (k2.keep g2.keep) (.cons (v2.keep g2.keep) .nil))
  have rv2 : Vals (as.map V.ref) (as.map Value.ref) := vals_maps (fun b : Addr => V.ref b) (fun b => Value.ref b) as fun _ _ => rfl
  have e1 := each_of rv2 rp2
  have e2 := each_reads I2 e1 o5
  have hob : (h'.push { cls := .type "list", data := .seq (as.map Value.ref).toArray }).get? h'.objs.size = some (seqObj "list" (as.map Value.ref).toArray 0) := Heap.get?_push_size _ rfl
  have ne0 : ∀ b ob, h'.get? b = some ob → b ≠ h'.objs.size := fun b ob e => Nat.ne_of_lt (Heap.lt_size e)
  have ka : ∀ b ob, h'.get? b = some ob → (h'.push { cls := .type "list", data := .seq (as.map Value.ref).toArray }).get? b = some ob := fun b ob e => Heap.get?_push_of_some _ e
  generalize hh2 : h'.push { cls := .type "list", data := .seq (as.map Value.ref).toArray } = h2 at hob ka ⊢
  have e3 : EachIs (fun v b => ∃ cs, Reads (sortingHeap h2 h'.objs.size (as.map Value.ref)) v b cs) (as.map Value.ref) (kvs.map pairD) := e2.mono fun _ _ ⟨as', r⟩ => ⟨as', PyProof.Rows.Reads.keeps (fun b ob e => sortingHeap_old (ne0 b ob e) (ka b ob e)) r⟩
  have hb : ∀ d, d ∈ kvs.map pairD → X.A.in1.in1.units + d.depth < cLine := fun d hd => by
    have := o4 d hd
    show X.A.units + 1 + 1 + d.depth < cLine
    omega
  have S : SortsAt X.prog X.w X.A.in1.in1 { s with heap := sortingHeap h2 h'.objs.size (as.map Value.ref), toks := tk } (dataKind (sortingHeap h2 h'.objs.size (as.map Value.ref)) (kvs.map pairD)) (as.map Value.ref) :=
    SortsAt.data (s := { s with heap := sortingHeap h2 h'.objs.size (as.map Value.ref), toks := tk }) e3 o1 srt hb
  have e4 := sortVals_data (enc := id) (bs := kvs.map pairD) (h' := sortingHeap h2 h'.objs.size (as.map Value.ref)) false e1 (by simpa using e3) (by rw [List.map_id]; exact o1)
  rw [List.map_id] at e4
  obtain ⟨ws, w1, w2⟩ := of_each e4
  have e5 : (kvs.map pairD).mergeSort (dataLe false id) = sortD (kvs.map pairD) := rfl
  rw [e5] at w2
  have lz : (as.map Value.ref).length ≤ sizeLine := by rw [e1.length]; exact o3
  obtain ⟨ep2, hat⟩ := sortedHeap_at (out := (sortVals (dataKind (sortingHeap h2 h'.objs.size (as.map Value.ref)) (kvs.map pairD)) false (as.map Value.ref) (as.map Value.ref)).toArray) hob
  refine wpAny_call_entry PyProof.Rows.slot_list_sort ⟨_, hob, rfl⟩ PyProof.Rows.entry_list_sort (list_sort_vals (s := { s with heap := h2, toks := tk }) hob S lz ⟨.none, rfl, ?_⟩) (PyProof.Rows.args_list_sort _)
  exact laid_lst (tk := tk) I2 (fun b ob e => (sortedHeap_old (ne0 b ob e) (Heap.lt_size (ka b ob e))).trans (ka b ob e)) (Nat.le_refl _) hat w1 w2 (by unfold sortD; rw [List.length_mergeSort]; exact o3) fun v H' m => q v H' ⟨g2.trans m.grow, m.rep, fun ob e b eb => g2.was (m.nw ob e b eb), m.ne⟩
/-- the items of a dict, as a view -/
def tItv (P : Program) (w : World) (K : PySem.W.Frag) (t : TE) : TE := fun σ H Q => t σ H fun v H1 => ∃ a kvs, v = .ref a ∧ RdV P w K H1 v (.dict kvs) ∧ ∀ p, H1 p = none → Q (.ref p) (upd H1 p (DX.itemsO p a))
theorem pe_itv {e : Expr} {te : TE} {apos cpos : Pos} (he : PE X e te) (hbase : attributeBase e "items" X.env (eval e X.env) = eval e X.env) (hline : (apos.endLine == cpos.line) = true) : PE X (.Call (.Attribute e "items" apos) [] [] cpos) (tItv X.prog X.w X.K te) := by
  refine ⟨fun pins s σ H Q I h => ?_⟩
  refine wpAny_Call_method (T := "dict") (id := "dict.items") hbase rfl hline F.plainAttrs_dict F.slot_dict_items F.type_dict_items (thn (he.run pins s σ H _ I h) fun u s1 ⟨v, H1, I1, rv, a, kvs, ev, r1, q⟩ => ?_)
  subst ev
  obtain ⟨a', o, es, ep, ea, h1, h2, h3, h4, h5, h6⟩ := dict_raw I1 r1
  cases ea
  cases (show u = Value.ref a from rv)
  have hraw : s1.heap.DictRaw a es ep := ⟨o, h1, h2, h3⟩
  refine ⟨hraw.typeIs, fun b q => by cases q; exact ⟨o, h1, h2.2.1⟩, ?_⟩
  have fin : EP X pins σ Q (.ref s1.heap.objs.size) { s1 with heap := s1.heap.push { cls := .type "dict_items", data := .fields #[.ref a] } } :=
    ⟨.ref s1.heap.objs.size, _, I1.laid (t' := s1.toks) (fun b ob e => Heap.get?_push_of_some _ e) (Nat.le_refl _) (DX.itemsO_ok (Heap.get?_push_size _ rfl)), rfl, q _ I1.fresh⟩
  show wpAny _ _ (callWith cpos (.builtin "dict.items") [.ref a] [] []) _ X.xe s1
  exact method_meetsIn F.slot_dict_items F.entry_dict_items rfl (PySem.evalArgs_none ⟨rfl, hraw.typeIs, F.args_dict_items_1 _, _, meets_dict_items_raw a h4, ⟨⟨es, ep, hraw⟩, fin⟩⟩)
def fSits (fa : Rho → Res (Rv × Rho)) (ρ : Rho) : Res (Rv × Rho) := (fa ρ).bind fun p => (rd p.2 p.1).bind fun x => (biR .sitems [x]).bind fun sl => .ok (.val sl, p.2)
theorem pe_sits {e : Expr} {fa : Rho → Res (Rv × Rho)} {p pos apos cpos : Pos} (hu : X.A.units + 100 < cLine) (hc : X.calm = true) (hg : Gl X "sorted") (hm : X.mg "sorted" = none) (he : PE X e (tRX X fa)) (hbase : attributeBase e "items" X.env (eval e X.env) = eval e X.env) (hline : (apos.endLine == cpos.line) = true) :
    PE X (.Call (.Name "sorted" p) [.Call (.Attribute e "items" apos) [] [] cpos] [] pos) (tRX X (fSits fa)) := by
  refine pe_weak (pe_callB (cr_sits hc hu) hg hm boot_sorted (pa_cons (pe_itv he hbase hline) pa_nil rfl) (by decide) (by decide) rfl rfl) fun σ H Q ⟨ρ, r, ρ', k, e, q⟩ => ?_
  obtain ⟨y, e1, e⟩ := Res.bind_eq_ok e
  obtain ⟨x, e2, e⟩ := Res.bind_eq_ok e
  obtain ⟨sl, e3, e⟩ := Res.bind_eq_ok e
  cases e
  refine ⟨ρ, y.1, y.2, k, e1, fun v H1 a1 r1 n1 => ?_⟩
  have hx := r1.rd a1.ok e2
  cases x with
  | dict kvs =>
    obtain ⟨g, e3⟩ := Res.guard_eq_ok e3
    cases e3
    obtain ⟨a, rfl, _⟩ := hx.dict
    refine ⟨a, kvs, rfl, hx, fun b hb => ⟨b, a, kvs, rfl, upd_same, hx.grow (.one hb), g, fun v H' m => ?_⟩⟩
    have m' : Mk X.prog X.w X.K H1 H' v (.own (.lst (sortD (kvs.map pairD)))) := ⟨Grow.trans (.one hb) m.grow, m.rep, fun ob e c ec => (Grow.one hb).was (m.nw ob e c ec), m.ne⟩
    obtain ⟨m1, m2, m3⟩ := m'.rv a1
    exact q v H' m1 m2 m3
  | _ => cases e3
end
end Rt
set_option maxRecDepth 100000
set_option maxHeartbeats 4000000
namespace Rt
open PySem PySem.Spec PyProof.Rows L2
/-! ### the context of a def's body or of a block, by what the program says -/
structure Ct where
  N : List Str
  sc : Scope
  fnS : Option Scope
  top : Bool
  gis : List (Str × Int)
  gfs : List (Str × Nat × Nat)
def Ct.blk (C : Ct) (scope : Scope) : Ct := { C with sc := relS scope C.sc, fnS := some scope, top := false }
def Ct.isF (C : Ct) (x : Str) : Bool := match C.fnS with
  | none => true
  | some s => s.names.lookup x == some .cell
/-- the built-in names that the rules use -/
def blts : List Str := ["len", "sorted", "tuple", "list", "dict", "any", "all", "sum", "min", "max", "int", "str", "bool", "isinstance", "range", "enumerate", "zip", "set"]
structure Gd (X : Cx) (C : Ct) (Φ : Fenv) : Prop where
  calm : X.calm = true
  eN : X.N = C.N
  nd : C.N.Nodup
  sc : X.env.scope = C.sc
  fn : ∀ x, X.fn x = C.isF x
  un : X.A.units + 110 < cLine
  po : C.top = true → PassesOwn (model X.prog X.w) X.A X.env X.xe
  kd : X.env.scope.kind = .function
  blt : ∀ x ∈ blts, X.mg x = none
  gis : ∀ x i, C.gis.lookup x = some i → ∃ t, X.mg x = some (.int i t)
  gfs : ∀ x j np, C.gfs.lookup x = some (j, np) → (x == ("__debug__" : Str)) = false → ∃ n, Room n X.A ∧ FnGd X n x np (Φ j) ∧ ∀ ss r, Φ j ss = .ok r → ss.length = np
def tOk (e : Expr) : Bool := match e with
  | .IfExp _ _ _ _ => false
  | _ => true
def SE (C : Ct) (e : Expr) (c : CE) : Prop := ∀ X Φ, Gd X C Φ → PE X e (tRX X (evE Φ c)) ∧ (tOk e = true → PT X e (tTX X fun ρ => tst (evE Φ c ρ)))
def SA (C : Ct) (es : List Expr) (c : CE) : Prop := ∀ X Φ, Gd X C Φ → PA X es (tAX X (evA Φ c)) ∧ noStar es = true
def SL (C : Ct) (es : List Expr) (c : CE) : Prop := ∀ X Φ, Gd X C Φ → PA X es (tLX X (evL Φ c))
def SB (C : Ct) (op : BoolOp) (es : List Expr) (c : CE) : Prop := es ≠ [] ∧ ∀ X Φ, Gd X C Φ → ∀ pos, PE X (.BoolOp op es pos) (tRX X (evE Φ c)) ∧ PW X (.BoolOp op es pos) (tTX X fun ρ => tst (evE Φ c ρ))
def SI (C : Ct) (tg it : Expr) (c : CE) : Prop := ∀ X Φ, Gd X C Φ → PI X tg it (tIX X (evI Φ c))
def ST (C : Ct) (np : Nat) (e : Expr) (t : Tg) : Prop := isStar e = false ∧ ∀ X Φ, Gd X C Φ → PG X e (gT X.prog X.w X.K np t)
def STs (C : Ct) (np : Nat) (es : List Expr) (t : Tg) : Prop := isV t = false ∧ (∀ env, (assignEach es env).length = tgLen t ∧ (assignEach es env).findIdx? (·.1) = none) ∧ ∀ X Φ, Gd X C Φ → PGs X es (gTs X.prog X.w X.K np t)
section
variable {C : Ct} {a b e : Expr} {es : List Expr} {ca cb cc : CE} {p pos : Pos} {x : Str} {np : Nat}
theorem se_of {c : CE} (hp : plainT e = true) (h : ∀ X Φ, Gd X C Φ → PE X e (tRX X (evE Φ c))) : SE C e c := fun X Φ g => ⟨h X Φ g, fun _ => pt_of (h X Φ g) hp⟩
def visB (sc : Scope) (x : Str) : Bool := match sc.names.lookup x with
  | some .local => true
  | some .cell => true
  | some .free => true
  | _ => false
theorem vis_of {sc : Scope} (h : visB sc x = true) : Vis sc x := by
  unfold visB at h
  split at h <;> first
    | exact .inl (by assumption)
    | exact .inr (.inl (by assumption))
    | exact .inr (.inr (by assumption))
    | cases h
def locB (C : Ct) (x : Str) : Bool := match C.sc.names.lookup x with
  | some .local => true
  | some .cell => C.isF x
  | _ => false
theorem loc_of {X : Cx} {Φ : Fenv} (g : Gd X C Φ) (h : locB C x = true) : Loc X.env.scope x ∧ (X.fn x = true ∨ X.env.scope.names.lookup x = some .local) := by
  rw [g.sc]
  unfold locB at h
  split at h
  · rename_i z; exact ⟨.inl z, .inr z⟩
  · rename_i z; exact ⟨.inr z, .inl (by rw [g.fn]; exact h)⟩
  · cases h
def glB (C : Ct) (x : Str) : Bool := C.sc.names.lookup x == some .globalImplicit
theorem gl_of {X : Cx} {Φ : Fenv} (g : Gd X C Φ) (h : glB C x = true) : Gl X x := by
  show X.env.scope.names.lookup x = some .globalImplicit
  rw [g.sc]
  exact eq_of_beq h
def nmB (x : Str) : Bool := !(x == ("__debug__" : Str)) && !(x == ("__classdict__" : Str))
theorem nm_of (h : nmB x = true) : (x == ("__debug__" : Str)) = false ∧ (x == ("__classdict__" : Str)) = false := by
  simpa [nmB] using h
theorem se_var {i : Nat} (h1 : C.N[i]? = some x) (h2 : visB C.sc x = true) (h3 : nmB x = true) : SE C (.Name x p) (.var i) := se_of rfl fun X Φ g => by
  have := pe_vr (X := X) (i := i) (x := x) (pos := p) (by rw [g.eN]; exact h1) (by rw [g.sc]; exact vis_of h2) (nm_of h3).1 (nm_of h3).2
  exact this
theorem se_gint {i : Int} (h1 : C.gis.lookup x = some i) (h2 : glB C x = true) (h3 : nmB x = true) : SE C (.Name x p) (.cst (.int i)) := se_of rfl fun X Φ g => by
  obtain ⟨t, hm⟩ := g.gis x i h1
  exact pe_cst (pe_glob (v := .int i) (gl_of g h2) hm ⟨t, rfl⟩ (nm_of h3).1) fun _ => .int i
theorem se_int {i : Int} {k : Nat} : SE C (.Constant (.int i) k p) (.cst (.int i)) := se_of rfl fun X Φ g => pe_cst pe_int fun _ => .int i
theorem se_bool {i : Bool} {k : Nat} : SE C (.Constant (.bool i) k p) (.cst (.bool i)) := se_of rfl fun X Φ g => pe_cst pe_bl fun _ => .bl i
theorem se_str {i : Str} {k : Nat} : SE C (.Constant (.str i) k p) (.cst (.str i)) := se_of rfl fun X Φ g => pe_cst pe_str fun _ => .str i
theorem se_none {k : Nat} : SE C (.Constant .none k p) (.cst .none) := se_of rfl fun X Φ g => pe_cst pe_non fun _ => .non
theorem se_tup {k : Nat} (h : SL C es ca) : SE C (.Tuple es k p) (.tup ca) := se_of rfl fun X Φ g => pe_tpl (h X Φ g)
theorem se_lst (h : SL C es ca) : SE C (.List es p) (.lst ca) := se_of rfl fun X Φ g => pe_lsp (h X Φ g)
theorem se_dc0 : SE C (.Dict [] [] p) (.dct .nil) := se_of rfl fun X Φ g => pe_dc0
theorem se_bin (o : Bop) (ha : SE C a ca) (hb : SE C b cb) : SE C (.BinOp a (opr o) b p) (.bin o ca cb) := se_of rfl fun X Φ g => pe_bin o (ha X Φ g).1 (hb X Φ g).1
theorem se_rep {p2 : Pos} (ha : SL C es ca) (hb : SE C b cb) : SE C (.BinOp (.List es p2) .Mult b p) (.rep ca cb) := se_of rfl fun X Φ g => pe_rp (ha X Φ g) (hb X Φ g).1
theorem se_neg (ha : SE C a ca) : SE C (.UnaryOp .USub a p) (.neg ca) := se_of rfl fun X Φ g => pe_ng (ha X Φ g).1
theorem se_not (ha : SE C a ca) (ht : tOk a = true) : SE C (.UnaryOp .Not a p) (.not ca) := fun X Φ g => ⟨pe_nt (ha X Φ g).1, fun _ => pt_nt ((ha X Φ g).2 ht)⟩
theorem sb_one {op : BoolOp} (ha : SE C a ca) (ht : tOk a = true) : SB C op [a] ca := ⟨by simp, fun X Φ g pos => ⟨pe_one (ha X Φ g).1, by
  cases op with
  | And => exact pw_and1 ((ha X Φ g).2 ht)
  | Or => exact pw_or1 ((ha X Φ g).2 ht)⟩⟩
theorem sb_and (ha : SE C a ca) (ht : tOk a = true) (hb : SB C .And es cb) : SB C .And (a :: es) (.and ca cb) := by
  obtain ⟨n, hb⟩ := hb
  cases es with
  | nil => exact absurd rfl n
  | cons b r => exact ⟨by simp, fun X Φ g pos => ⟨pe_an (ha X Φ g).1 (hb X Φ g pos).1, pw_an ((ha X Φ g).2 ht) (hb X Φ g pos).2⟩⟩
theorem sb_or (ha : SE C a ca) (ht : tOk a = true) (hb : SB C .Or es cb) : SB C .Or (a :: es) (.or ca cb) := by
  obtain ⟨n, hb⟩ := hb
  cases es with
  | nil => exact absurd rfl n
  | cons b r => exact ⟨by simp, fun X Φ g pos => ⟨pe_o (ha X Φ g).1 (hb X Φ g pos).1, pw_o ((ha X Φ g).2 ht) (hb X Φ g pos).2⟩⟩
theorem se_bool_op {op : BoolOp} (h : SB C op es ca) : SE C (.BoolOp op es p) ca := fun X Φ g => ⟨(h.2 X Φ g p).1, fun _ => (h.2 X Φ g p).2.pt⟩
theorem un70 {X : Cx} {Φ : Fenv} (g : Gd X C Φ) : X.A.units + 70 < cLine := by have := g.un; omega
theorem un100 {X : Cx} {Φ : Fenv} (g : Gd X C Φ) : X.A.units + 100 < cLine := by have := g.un; omega
theorem se_cmp (o : Cop) (ha : SE C a ca) (hb : SE C b cb) (hm : behindInMarks (copr o) b = false) : SE C (.Compare a [copr o] [b] p) (.cmp o ca cb) := fun X Φ g =>
  ⟨pe_cmpr (un70 g) o (ha X Φ g).1 (hb X Φ g).1 hm, fun _ => pt_cm (un70 g) o (ha X Φ g).1 (hb X Φ g).1 hm⟩
theorem se_chn {c : Expr} (o o' : Cop) (ha : SE C a ca) (hb : SE C b cb) (hc : SE C c cc) (hm : lastMarks [copr o, copr o'] [b, c] = false) : SE C (.Compare a [copr o, copr o'] [b, c] p) (.chn o o' ca cb cc) := fun X Φ g =>
  ⟨pe_chn (un70 g) o o' (ha X Φ g).1 (hb X Φ g).1 (hc X Φ g).1 hm, fun _ => pt_chn (un70 g) o o' (ha X Φ g).1 (hb X Φ g).1 (hc X Φ g).1 hm⟩
theorem se_isn {j : Nat} {p2 : Pos} (ha : SE C a ca) : SE C (.Compare a [.Is] [.Constant .none j p2] p) (.isN ca) := fun X Φ g => ⟨pe_isn (ha X Φ g).1, fun _ => pt_isn (ha X Φ g).1⟩
theorem se_ntn {j : Nat} {p2 : Pos} (ha : SE C a ca) : SE C (.Compare a [.IsNot] [.Constant .none j p2] p) (.notN ca) := fun X Φ g => ⟨pe_ntn (ha X Φ g).1, fun _ => pt_ntn (ha X Φ g).1⟩
theorem se_ife {c : Expr} (hc : SE C c cc) (ht : tOk c = true) (ha : SE C a ca) (hb : SE C b cb) : SE C (.IfExp c a b p) (.ife cc ca cb) := fun X Φ g => ⟨pe_if ((hc X Φ g).2 ht) (ha X Φ g).1 (hb X Φ g).1, fun z => by cases z⟩
def notSl : Expr → Bool
  | .Slice _ _ _ _ => false
  | _ => true
theorem plain_ix (h : notSl b = true) : PlainIx b := fun o i => by
  cases b <;> first
    | rfl
    | cases h
theorem se_idx (ha : SE C a ca) (hb : SE C b cb) (h : notSl b = true) : SE C (.Subscript a b p) (.idx ca cb) := se_of rfl fun X Φ g => pe_idx (un70 g) (ha X Φ g).1 (hb X Φ g).1 (plain_ix h)
/-- a slice's part -/
def SO (C : Ct) (o : Option Expr) (c : CE) : Prop := ∀ X Φ, Gd X C Φ → PO X o (tO' X.prog X.w X.K fun ρ => opt c ρ (evE Φ c ρ))
theorem po_wk {X : Cx} {o : Option Expr} {f f' : Rho → Res (Option Int × Rho)} (h : PO X o (tO' X.prog X.w X.K f)) (hf : ∀ ρ, f' ρ = f ρ) : PO X o (tO' X.prog X.w X.K f') := by
  have : f' = f := funext hf
  rw [this]; exact h
theorem so_none : SO C none .nil := fun X Φ g => po_wk po_no fun ρ => rfl
theorem so_some (ha : SE C a ca) (hn : ca.isNil = false) : SO C (some a) ca := fun X Φ g => po_wk (po_so (ha X Φ g).1) fun ρ => by
  unfold opt
  rw [hn]
  rfl
theorem se_slc {lo hi : Option Expr} {p2 : Pos} (ha : SE C a ca) (hl : SO C lo cb) (hh : SO C hi cc) : SE C (.Subscript a (.Slice lo hi none p2) p) (.slc ca cb cc) := se_of rfl fun X Φ g => pe_sl (ha X Φ g).1 (hl X Φ g) (hh X Φ g)
/-! arguments, items -/
theorem sa_nil : SA C [] .nil := fun X Φ g => ⟨pa_a0, rfl⟩
theorem sa_cons (ha : SE C a ca) (hs : isStar a = false) (hr : SA C es cb) : SA C (a :: es) (.cons false ca cb) := fun X Φ g => ⟨pa_a1 (ha X Φ g).1 (hr X Φ g).1 (star_one hs), by
  have := (hr X Φ g).2
  simp [noStar] at this ⊢
  exact ⟨hs, this⟩⟩
theorem sl_nil' : SL C [] .nil := fun X Φ g => pa_l0
theorem sl_cons (ha : SE C a ca) (hs : isStar a = false) (hr : SL C es cb) : SL C (a :: es) (.cons false ca cb) := fun X Φ g => pa_l1 (ha X Φ g).1 (hr X Φ g) (star_one hs)
theorem sl_star (ha : SE C a ca) (hr : SL C es cb) : SL C (.Starred a p :: es) (.cons true ca cb) := fun X Φ g => pa_ls (ha X Φ g).1 (hr X Φ g)
/-! calls -/
theorem biN_mem {o : Bi} (h : biOk o = true) : biN o ∈ blts := by cases o <;> first
  | (cases h; done)
  | decide +kernel
theorem se_bi (o : Bi) (ho : biOk o = true) (hg : glB C (biN o) = true) (ha : SA C (a :: es) ca) : SE C (.Call (.Name (biN o) p) (a :: es) [] pos) (.bi o ca) := se_of rfl fun X Φ g =>
  pe_bi (un100 g) g.calm o ho (gl_of g hg) (g.blt _ (biN_mem ho)) (ha X Φ g).1 (ha X Φ g).2
theorem se_sset {p2 q : Pos} (h1 : glB C "sorted" = true) (h2 : glB C "set" = true) (ha : SA C [a] ca) (hs : isStar a = false) : SE C (.Call (.Name "sorted" p) [.Call (.Name "set" p2) [a] [] q] [] pos) (.bi .sset ca) := se_of rfl fun X Φ g =>
  pe_sset (un70 g) g.calm (gl_of g h1) (g.blt _ (by decide +kernel)) (gl_of g h2) (g.blt _ (by decide +kernel)) (ha X Φ g).1 hs
theorem se_dc1 {k : Expr} (hk : SE C k ca) (hv : SE C a cb) : SE C (.Dict [some k] [a] p) (.dct (.cons false ca (.cons false cb .nil))) := se_of rfl fun X Φ g => pe_dc1 (hk X Φ g).1 (hv X Φ g).1
theorem ty_mem (t : Ty) : (tyN t : Str) ∈ blts := by cases t <;> decide +kernel
theorem se_isi1 {p1 : Pos} (t : Ty) (h1 : glB C "isinstance" = true) (h2 : glB C (tyN t) = true) (ha : SE C a ca) (hs : isStar a = false) : SE C (.Call (.Name "isinstance" p) [a, .Name (tyN t) p1] [] pos) (.isi [t] ca) := se_of rfl fun X Φ g =>
  pe_is1 t (gl_of g h1) (g.blt _ (by decide +kernel)) (gl_of g h2) (g.blt _ (ty_mem t)) (ha X Φ g).1 hs
theorem se_isiT {ts : List Ty} {kk : Nat} {pt : Pos} (ht : TyNs ts es) (hl : ts.length ≤ 8) (h1 : glB C "isinstance" = true) (h2 : (ts.all fun t => glB C (tyN t)) = true) (ha : SE C a ca) (hs : isStar a = false) :
    SE C (.Call (.Name "isinstance" p) [a, .Tuple es kk pt] [] pos) (.isi ts ca) := se_of rfl fun X Φ g =>
  pe_isT ht hl (gl_of g h1) (g.blt _ (by decide +kernel)) (fun t hm => gl_of g (List.all_eq_true.mp h2 t hm)) (fun t _ => g.blt _ (ty_mem t)) (ha X Φ g).1 hs
theorem se_fn {j m : Nat} (h1 : C.gfs.lookup x = some (j, m)) (h2 : nmB x = true) (h3 : glB C x = true) (ha : SA C (a :: es) ca) : SE C (.Call (.Name x p) (a :: es) [] pos) (.call j ca) := se_of rfl fun X Φ g => by
  obtain ⟨n, hr, F, hl⟩ := g.gfs x j m h1 (nm_of h2).1
  exact pe_fn F hl hr (gl_of g h3) (ha X Φ g).1 (ha X Φ g).2
/-- an expression that is no call of super -/
def noSup : Expr → Bool
  | .Call _ _ _ _ => false
  | _ => true
theorem base_of {o : Expr} {at_ : Str} {env : Env} (h : noSup o = true) : attributeBase o at_ env (eval o env) = eval o env := by
  cases o <;> first
    | rfl
    | cases h
theorem se_ind {o : Expr} {apos cpos : Pos} (ho : SE C o ca) (hn : noSup o = true) (ha : SA C [a] cb) (hl : (apos.endLine == cpos.line) = true) : SE C (.Call (.Attribute o "index" apos) [a] [] cpos) (.met .index ca cb) := se_of rfl fun X Φ g =>
  pe_ind (un70 g) (ho X Φ g).1 (ha X Φ g).1 (by have := (ha X Φ g).2; simpa [noStar] using this) (base_of hn) hl
theorem se_app {i : Nat} {pn apos cpos : Pos} (h1 : C.N[i]? = some x) (h2 : visB C.sc x = true) (h3 : nmB x = true) (ha : SL C [a] cb) (hs : isStar a = false) (hl : (apos.endLine == cpos.line) = true) : SE C (.Call (.Attribute (.Name x pn) "append" apos) [a] [] cpos) (.mut .append i cb) := se_of rfl fun X Φ g =>
  pe_app (by rw [g.eN]; exact h1) (by rw [g.sc]; exact vis_of h2) (nm_of h3).1 (nm_of h3).2 (ha X Φ g) hs (base_of rfl) hl
theorem se_ext {i : Nat} {pn apos cpos : Pos} (h1 : C.N[i]? = some x) (h2 : visB C.sc x = true) (h3 : nmB x = true) (ha : SE C a ca) (hs : isStar a = false) (hl : (apos.endLine == cpos.line) = true) : SE C (.Call (.Attribute (.Name x pn) "extend" apos) [a] [] cpos) (.ext i ca) := se_of rfl fun X Φ g => by
  have := pe_ext (by rw [g.eN]; exact h1) (by rw [g.sc]; exact vis_of h2) (nm_of h3).1 (nm_of h3).2 ((sa_cons ha hs sa_nil) X Φ g).1 hs (base_of rfl) hl (pn := pn)
  refine pe_weak this fun σ H Q ⟨ρ, r, ρ', k, e, q⟩ => ⟨ρ, r, ρ', k, ?_, q⟩
  obtain ⟨g1, e⟩ := Res.guard_eq_ok (show Res.guard (kindU .append (gt ρ i)) ((evE Φ ca ρ).bind fun p => match gt p.2 i, ownO p.2 p.1 with
    | .own (.lst ds), some (.lst es) => Res.guard (decide (ds.length + es.length ≤ lim)) (.ok (.val (.shr .none), p.2.set i (.own (.lst (ds ++ es)))))
    | _, _ => .bad) = Res.ok (r, ρ') from e)
  obtain ⟨p, e1, e⟩ := Res.bind_eq_ok e
  show Res.guard (kindU .append (gt ρ i)) (((evE Φ ca ρ).bind fun p => (Res.ok ([], p.2)).bind fun q => .ok (p.1 :: q.1, q.2)).bind _) = _
  rw [g1, e1]
  exact e
theorem se_get {o : Expr} {apos cpos : Pos} (ho : SE C o ca) (hn : noSup o = true) (ha : SL C (a :: es) cb) (hs : noStar (a :: es) = true) (hl : es.length ≤ 3) (hp : (apos.endLine == cpos.line) = true) : SE C (.Call (.Attribute o "get" apos) (a :: es) [] cpos) (.dget ca cb) := se_of rfl fun X Φ g =>
  pe_get (un70 g) (ho X Φ g).1 (ha X Φ g) hs hl (base_of hn) hp
/-- an expression that is no call of super() -/
def noSu2 : Expr → Bool
  | .Call _ [] _ _ => false
  | _ => true
theorem base_of2 {o : Expr} {at_ : Str} {env : Env} (h : noSu2 o = true) : attributeBase o at_ env (eval o env) = eval o env := by
  cases o with
  | Call f as kw p =>
    cases as with
    | nil => cases h
    | cons x r => cases f <;> rfl
  | _ => rfl
theorem se_lset {p2 q : Pos} (h1 : glB C "len" = true) (h2 : glB C "set" = true) (ha : SA C [a] ca) (hs : isStar a = false) : SE C (.Call (.Name "len" p) [.Call (.Name "set" p2) [a] [] q] [] pos) (.bi .lset ca) := se_of rfl fun X Φ g =>
  pe_lset g.calm (gl_of g h1) (g.blt _ (by decide +kernel)) (gl_of g h2) (g.blt _ (by decide +kernel)) (ha X Φ g).1 hs
theorem se_sits {o : Expr} {apos cpos : Pos} (h1 : glB C "sorted" = true) (ho : SE C o ca) (hn : noSu2 o = true) (hp : (apos.endLine == cpos.line) = true) : SE C (.Call (.Name "sorted" p) [.Call (.Attribute o "items" apos) [] [] cpos] [] pos) (.bi .sitems (.cons false ca .nil)) := se_of rfl fun X Φ g => by
  refine pe_weak (pe_sits (un100 g) g.calm (gl_of g h1) (g.blt _ (by decide +kernel)) (ho X Φ g).1 (base_of2 hn) hp) fun σ H Q ⟨ρ, r, ρ', k, e, q⟩ => ⟨ρ, r, ρ', k, ?_, q⟩
  obtain ⟨y, e1, e⟩ := Res.bind_eq_ok (show ((evA Φ (.cons false ca .nil) ρ).bind fun p => (rds p.2 p.1).bind fun ds => (biR .sitems ds).bind fun s => .ok ((Rv.val s, p.2) : Rv × Rho)) = Res.ok (r, ρ') from e)
  obtain ⟨ds, e2, e⟩ := Res.bind_eq_ok e
  obtain ⟨p, f1, f2⟩ := Res.bind_eq_ok (show ((evE Φ ca ρ).bind fun p => (Res.ok (([] : List Rv), p.2)).bind fun q => .ok (p.1 :: q.1, q.2)) = Res.ok y from e1)
  cases f2
  obtain ⟨d, g1, g2⟩ := Res.bind_eq_ok (show ((rd p.2 p.1).bind fun d => (Res.ok ([] : List PyData)).bind fun ds => .ok (d :: ds)) = Res.ok ds from e2)
  cases g2
  show fSits (evE Φ ca) ρ = _
  unfold fSits
  show ((evE Φ ca ρ).bind fun p => (rd p.2 p.1).bind fun x => (biR .sitems [x]).bind fun sl => .ok ((Rv.val sl, p.2) : Rv × Rho)) = _
  rw [f1, Res.bind_ok, g1]
  exact e
/-! what is walked -/
theorem si_it {ts : List Expr} {o : Expr} {kk : Nat} {pt apos cpos : Pos} (ho : SE C o ca) (hn : noSu2 o = true) (hp : (apos.endLine == cpos.line) = true) : SI C (.Tuple ts kk pt) (.Call (.Attribute o "items" apos) [] [] cpos) (.itm ca) := fun X Φ g => pi_it (ho X Φ g).1 (base_of2 hn) hp
theorem si_r1 {tg : Expr} (h1 : glB C "range" = true) (ha : SE C a ca) (hs : isStar a = false) : SI C tg (.Call (.Name "range" p) [a] [] pos) (.rng1 ca) := fun X Φ g => pi_r1 (gl_of g h1) (g.blt _ (by decide +kernel)) (ha X Φ g).1 hs
theorem si_r2 {tg : Expr} (h1 : glB C "range" = true) (ha : SE C a ca) (hs : isStar a = false) (hb : SE C b cb) (hs2 : isStar b = false) : SI C tg (.Call (.Name "range" p) [a, b] [] pos) (.rng2 ca cb) := fun X Φ g => pi_r2 (gl_of g h1) (g.blt _ (by decide +kernel)) (ha X Φ g).1 (hb X Φ g).1 hs hs2
theorem si_en {ts : List Expr} {kk : Nat} {pt : Pos} (h1 : glB C "enumerate" = true) (ha : SE C a ca) (hs : isStar a = false) : SI C (.Tuple ts kk pt) (.Call (.Name "enumerate" p) [a] [] pos) (.enu ca) := fun X Φ g => pi_en (gl_of g h1) (g.blt _ (by decide +kernel)) (ha X Φ g).1 hs
theorem si_e {tg : Expr} (ha : SE C a ca) : SI C tg a (.ex ca) := fun X Φ g => pi_e (ha X Φ g).1
/-! targets -/
theorem st_v {i : Nat} (h1 : C.N[i]? = some x) (h2 : locB C x = true) : ST C np (.Name x p) (.v i) := ⟨rfl, fun X Φ g => pg_v (by rw [g.eN]; exact g.nd) (by rw [g.eN]; exact h1) (loc_of g h2).1 (loc_of g h2).2⟩
theorem sts_n : STs C np [] .nil := ⟨rfl, fun env => ⟨rfl, rfl⟩, fun X Φ g => pgs_n⟩
theorem sts_c {t ts : Tg} (h1 : ST C np a t) (h2 : STs C np es ts) : STs C np (a :: es) (.cons t ts) := by
  refine ⟨rfl, fun env => ?_, fun X Φ g => pgs_c (h1.2 X Φ g) (h2.2.2 X Φ g) h1.1⟩
  have e : assignEach (a :: es) env = (false, assign a env) :: assignEach es env := by
    have := h1.1
    cases a <;> first
      | rfl
      | cases this
  rw [e]
  obtain ⟨e1, e2⟩ := h2.2.1 env
  refine ⟨by simp [tgLen, e1], ?_⟩
  rw [List.findIdx?_cons]
  simp [e2]
theorem st_t {t : Tg} {kk : Nat} (h : STs C np es t) : ST C np (.Tuple es kk p) t := ⟨rfl, fun X Φ g => pg_t g.calm (h.2.2 X Φ g) h.1 (h.2.1 _).1 (h.2.1 _).2⟩
/-! a comprehension -/
theorem gd_blk {X : Cx} {Φ : Fenv} (g : Gd X C Φ) {scope : Scope} (hk : scope.kind = .function) (s : Shared) (H : Hp) (A : Addr) (cl : List (Str × Addr)) (fp : List Addr) : Gd (X.blk s H scope (compEnvC scope cl A X.env) fp) (C.blk scope) Φ where
  calm := g.calm
  eN := g.eN
  nd := g.nd
  sc := by show relS scope X.env.scope = relS scope C.sc; rw [g.sc]
  fn := fun x => rfl
  un := g.un
  po := fun h => by cases h
  kd := hk
  blt := g.blt
  gis := g.gis
  gfs := fun x j np h1 h2 => let ⟨n, hr, F, hl⟩ := g.gfs x j np h1 h2; ⟨n, hr, ⟨F.ex, F.db⟩, hl⟩
def ownOf (N : List Str) (t : Tg) : List (Str × Nat) := (tgs t).map fun i => (N.getD i "", i)
theorem ownOf_ix {N : List Str} {t : Tg} : (ownOf N t).map (·.2) = tgs t := by
  unfold ownOf
  rw [List.map_map]
  exact List.map_id _
def SC (C : Ct) (ifs : List Expr) (c : CE) : Prop := ∀ X Φ, Gd X C Φ → PTs X ifs (tTX X fun ρ => cnd c ρ (evE Φ c ρ))
theorem pts_weak {X : Cx} {ifs : List Expr} {t t' : TT} (h : PTs X ifs t) (f : ∀ σ H Q, t' σ H Q → t σ H Q) : PTs X ifs t' := ⟨fun pins s σ H Q I q => h.run pins s σ H Q I (f σ H Q q)⟩
theorem sc_nil : SC C [] .nil := fun X Φ g => pts_weak pts_nil fun σ H Q ⟨ρ, r, ρ', k, e, q⟩ => by cases e; exact q H (Pst.refl k)
theorem sc_one (ha : SE C a ca) (ht : tOk a = true) (hn : ca.isNil = false) : SC C [a] ca := fun X Φ g => pts_weak (pts_one ((ha X Φ g).2 ht)) fun σ H Q ⟨ρ, r, ρ', k, e, q⟩ => ⟨ρ, r, ρ', k, by
  unfold cnd at e
  rw [hn] at e
  exact e, q⟩
theorem folded_of {it : Expr} (h : ∀ es k p, it ≠ .Set es k p) (env : Env) (x : Value) : foldedSetIterable it env x = pure x := by
  unfold foldedSetIterable
  cases it <;> first
    | rfl
    | exact absurd rfl (h _ _ _)
def notSet : Expr → Bool
  | .Set _ _ _ => false
  | _ => true
theorem notSet_of {it : Expr} (h : notSet it = true) : ∀ es k p, it ≠ .Set es k p := fun es k p e => by subst e; cases h
theorem se_lc {elt tg it : Expr} {ifs : List Expr} {scope : Scope} {t : Tg} {ci cif ce : CE} (hi : SI C tg it ci) (hb : blkC C.N C.sc scope (ownOf C.N t) = true) (ht : ST (C.blk scope) 0 tg t) (hc : SC (C.blk scope) ifs cif) (he : SE (C.blk scope) elt ce) (hs : notSet it = true) :
    SE C (.ListComp elt [⟨tg, it, ifs, 0⟩] scope p) (.lc (tgs t) t ci cif ce) := se_of rfl fun X Φ g => by
  have hk : scope.kind = .function := (blkOk_by hb).kind
  have ok : BlkOk X.N X.env.scope scope (ownOf C.N t) := by rw [g.eN, g.sc]; exact blkOk_by hb
  refine pe_weak (pe_lc (g := gT X.prog X.w X.K 0 t) (tt := tTX X fun ρ => cnd cif ρ (evE Φ cif ρ)) (te := tSX X fun ρ => (evE Φ ce ρ).bind fun p => stl p.2 p.1) g.calm (by rw [g.eN]; exact g.nd) (hi X Φ g) ok (fun s H A cl fp => ht.2 _ Φ (gd_blk g hk s H A cl fp)) (fun s H A cl fp => hc _ Φ (gd_blk g hk s H A cl fp)) (fun s H A cl fp => pe_stl (he _ Φ (gd_blk g hk s H A cl fp)).1) fun x => folded_of (notSet_of hs) _ x) fun σ H Q h => ?_
  rw [ownOf_ix]
  exact tlc (tgs t) rfl h
end
end Rt
set_option maxRecDepth 100000
set_option maxHeartbeats 4000000
namespace Rt
open PySem PySem.Spec PyProof.Rows L2
def SS (C : Ct) (np : Nat) (st : Stmt) (c : CS) : Prop := ∀ X Φ m, Gd X C Φ → C.top = true → PS X st (tStX X np (evS Φ m np c))
def SSs (C : Ct) (np : Nat) (sts : List Stmt) (c : CS) : Prop := ∀ X Φ m, Gd X C Φ → C.top = true → PSs X sts (tStX X np (evS Φ m np c))
/-- no comprehension -/
def noComp : Expr → Bool
  | .ListComp _ _ _ _ => false
  | .SetComp _ _ _ _ => false
  | .DictComp _ _ _ _ _ => false
  | _ => true
theorem sw_no {e : Expr} (h : noComp e = true) (t : Option Expr) (l : Nat) (env : Env) : swapsWith e t l env = pure false := by
  unfold swapsWith
  cases e <;> first
    | rfl
    | cases h
section
variable {C : Ct} {a b e tg : Expr} {es ts : List Expr} {ca cb cc : CE} {p pos : Pos} {x : Str} {np : Nat} {st : Stmt} {sts body els : List Stmt} {sa sb : CS}
theorem sss_nil : SSs C np [] .skip := fun X Φ m g ht => pss_0
theorem sss_cons (h1 : SS C np st sa) (h2 : SSs C np sts sb) : SSs C np (st :: sts) (.seq sa sb) := fun X Φ m g ht => pss_c (h1 X Φ m g ht) (h2 X Φ m g ht)
theorem ss_pass : SS C np (.Pass p) .skip := fun X Φ m g ht => ps_pss
theorem ss_ret (h : SE C e ca) : SS C np (.Return (some e) p) (.ret ca) := fun X Φ m g ht => ps_rt (h X Φ g).1
theorem ss_retN : SS C np (.Return none p) (.ret (.cst .none)) := fun X Φ m g ht => ps_weak ps_retN fun D σ H ⟨ρ, fl, ρ', k, e, o⟩ => by
  cases e
  exact o .non σ H (SPst.refl k) ⟨⟨fun z => (nomatch z), .non⟩, fun _ _ z => (nomatch z)⟩
theorem ss_exp (h : SE C e ca) (hn : noComp e = true) : SS C np (.Expr e p) (.exp ca) := fun X Φ m g ht => ps_e (h X Φ g).1 (sw_no hn _ _ _)
theorem ss_if (hc : SE C e cc) (ht0 : tOk e = true) (ha : SSs C np body sa) (hb : SSs C np els sb) : SS C np (.If e body els p) (.ife cc sa sb) := fun X Φ m g ht => ps_i ((hc X Φ g).2 ht0) (ha X Φ m g ht) (hb X Φ m g ht)
theorem ss_wh (hc : SE C e cc) (ht0 : tOk e = true) (ha : SSs C np body sa) : SS C np (.While e body [] p) (.whl cc sa) := fun X Φ m g ht => ps_wh (g.po ht) ((hc X Φ g).2 ht0) (ha X Φ m g ht)
theorem ss_for {t : Tg} {ci : CE} {it : Expr} (hi : SI C tg it ci) (hs : notSet it = true) (hg : ST C np tg t) (hnp : (tgs t).all (fun i => decide (np ≤ i)) = true) (ha : SSs C np body sa) : SS C np (.For tg it body [] p) (.for_ t ci sa) := fun X Φ m g ht =>
  ps_fr (g.po ht) g.calm (hi X Φ g) (hg.2 X Φ g) (fun i hi => of_decide_eq_true (List.all_eq_true.mp hnp i hi)) (ha X Φ m g ht) fun x => folded_of (notSet_of hs) _ x
theorem ss_raise {c : CE} {j : Nat} {eo co : Option Expr} : SS C np (.Raise eo co p) (.raise j c) := fun X Φ m g ht => ps_rs fun ρ r h => by
  have h : (evL Φ c ρ).bind (fun p => Res.exn j p.1) = .ok r := h
  cases q : evL Φ c ρ <;> rw [q] at h <;> cases h
theorem ss_name {i : Nat} {p1 : Pos} (h1 : C.N[i]? = some x) (h2 : locB C x = true) (h : SE C e ca) (hn : noComp e = true) : SS C np (.Assign [.Name x p1] e p) (.asg (.v i) ca) := fun X Φ m g ht =>
  ps_nm (by rw [g.eN]; exact g.nd) (by rw [g.eN]; exact h1) (loc_of g h2).1 (h X Φ g).1 (sw_no hn _ _ _) (loc_of g h2).2
/-- is the comprehension's last item let go by the store -/
def swB (C : Ct) (scope : Scope) (x : Str) (p1 p2 : Pos) : Bool := C.sc.names.lookup x == some .local && p1.line == p2.line && !(scope.names.any fun (n, k) => n == x && (k == .local || k == .cell))
theorem sw_eq {X : Cx} {Φ : Fenv} (g : Gd X C Φ) {elt : Expr} {gs : List Comprehension} {scope : Scope} {p1 p2 : Pos} {l : Nat} : swapsWith (.ListComp elt gs scope p2) (some (.Name x p1)) l X.env = pure (swB C scope x p1 p2) := by
  have hb : X.env.blockKind = .function := by unfold Env.blockKind; rw [g.kd]; rfl
  unfold swapsWith swB
  have hk : X.env.kindOf x = C.sc.names.lookup x := by show X.env.scope.names.lookup x = _; rw [g.sc]
  simp only [hb, hk, Expr.pos]
  rfl
theorem ss_nameC {elt : Expr} {gs : List Comprehension} {scope : Scope} {i : Nat} {p1 p2 : Pos} (h1 : C.N[i]? = some x) (h2 : locB C x = true) (h : SE C (.ListComp elt gs scope p2) ca) (hn : swB C scope x p1 p2 = false) : SS C np (.Assign [.Name x p1] (.ListComp elt gs scope p2) p) (.asg (.v i) ca) := fun X Φ m g ht =>
  ps_nm (by rw [g.eN]; exact g.nd) (by rw [g.eN]; exact h1) (loc_of g h2).1 (h X Φ g).1 (by rw [sw_eq g, hn]) (loc_of g h2).2
theorem ss_nameS {elt tg it : Expr} {ifs : List Expr} {scope : Scope} {t : Tg} {ci cif ce : CE} {i : Nat} {p1 p2 : Pos} (h1 : C.N[i]? = some x) (hn : swB C scope x p1 p2 = true)
    (hi : SI C tg it ci) (hb : blkC C.N C.sc scope (ownOf C.N t) = true) (ht : ST (C.blk scope) 0 tg t) (hc : SC (C.blk scope) ifs cif) (he : SE (C.blk scope) elt ce) (hs : notSet it = true) :
    SS C np (.Assign [.Name x p1] (.ListComp elt [⟨tg, it, ifs, 0⟩] scope p2) p) (.asg (.v i) (.lc (tgs t) t ci cif ce)) := fun X Φ m g htop => by
  have hk : scope.kind = .function := (blkOk_by hb).kind
  have ok : BlkOk X.N X.env.scope scope (ownOf C.N t) := by rw [g.eN, g.sc]; exact blkOk_by hb
  have hl : X.env.scope.names.lookup x = some .local := by
    rw [g.sc]
    unfold swB at hn
    simp only [Bool.and_eq_true] at hn
    exact eq_of_beq hn.1.1
  refine ps_weak (ps_setLc (g := gT X.prog X.w X.K 0 t) (tt := tTX X fun ρ => cnd cif ρ (evE Φ cif ρ)) (te := tSX X fun ρ => (evE Φ ce ρ).bind fun p => stl p.2 p.1) g.calm (by rw [g.eN]; exact g.nd) (by rw [g.eN]; exact h1) hl (by rw [sw_eq g, hn]) (hi X Φ g) ok (fun s H A cl fp => ht.2 _ Φ (gd_blk g hk s H A cl fp)) (fun s H A cl fp => hc _ Φ (gd_blk g hk s H A cl fp))
    (fun s H A cl fp => pe_stl (he _ Φ (gd_blk g hk s H A cl fp)).1) fun x => folded_of (notSet_of hs) _ x) fun D σ H h => asg_name (fa := evE Φ (.lc (tgs t) t ci cif ce)) (fun σ H Q z => ?_) h
  rw [ownOf_ix]
  refine tlc (tgs t) rfl ?_
  obtain ⟨ρ, s, ρ', k, e, q⟩ := z
  obtain ⟨⟨r, ρ1⟩, e1, e2⟩ := Res.bind_eq_ok e
  refine ⟨ρ, r, ρ1, k, e1, fun v H' a1 a2 a3 => ?_⟩
  have hr : ∃ ds, r = .val (.own (.lst ds)) := by
    have e1 : fLc (tgs t) t (evI Φ ci) (fun ρ => cnd cif ρ (evE Φ cif ρ)) (evE Φ ce) ρ = .ok (r, ρ1) := e1
    obtain ⟨y, f1, f2⟩ := Res.bind_eq_ok e1
    obtain ⟨z, f3, f4⟩ := Res.bind_eq_ok f2
    cases f4
    exact ⟨_, rfl⟩
  obtain ⟨ds, rfl⟩ := hr
  cases e2
  exact q v H' a1 a2 a3
/-! (a, b) = e -/
def notTup : Expr → Bool
  | .Tuple _ _ _ => false
  | _ => true
theorem sst_no {tg : List Expr} (h : notTup e = true) (env : Env) : swappedStores tg e env = pure none := by
  unfold swappedStores
  cases e <;> first
    | (cases h; done)
    | (cases tg with
       | nil => rfl
       | cons t r =>
         cases r with
         | nil => cases t <;> rfl
         | cons _ _ => cases t <;> rfl)
theorem sws_no (h : noComp e = true) (t : Expr) (l : Nat) (env : Env) : swapsWithSole [t] e l env = pure false := sw_no h _ _ _
theorem as_one (h : isStar e = false) (env : Env) : (assignEach [e] env).map (·.2) = [assign e env] := by
  cases e <;> first
    | rfl
    | cases h
theorem ss_tg {t : Tg} (h : SE C e ca) (hv : isV t = false) (hn : noComp e = true) (hn2 : notTup e = true) (hg : ST C np tg t) (hnp : (tgs t).all (fun i => decide (np ≤ i)) = true) : SS C np (.Assign [tg] e p) (.asg t ca) := fun X Φ m g ht => by
  have := ps_tg (pe_stl (h X Φ g).1) (hg.2 X Φ g) (fun i hi => of_decide_eq_true (List.all_eq_true.mp hnp i hi)) (pos := p) (sws_no hn tg _ _) (sst_no hn2 _) (as_one hg.1 _)
  refine ps_weak this fun D σ H ⟨ρ, fl, ρ', k, e, o⟩ => ⟨ρ, fl, ρ', k, ?_, o⟩
  cases t with
  | v i => cases hv
  | _ =>
    have e : ((evE Φ ca ρ).bind fun p => (stl p.2 p.1).bind fun q => (bt np _ q.1 q.2).bind fun ρ => .ok (.nxt, ρ)) = .ok (fl, ρ') := e
    obtain ⟨y, e1, e⟩ := Res.bind_eq_ok e
    obtain ⟨z, e2, e⟩ := Res.bind_eq_ok e
    show (((evE Φ ca ρ).bind fun p => stl p.2 p.1).bind _) = _
    rw [e1]
    show (stl y.2 y.1).bind _ = _
    rw [e2]
    exact e
/-! d[k] = e -/
theorem ss_put {i : Nat} {k : Expr} {pn pt : Pos} (h1 : C.N[i]? = some x) (h2 : visB C.sc x = true) (h3 : nmB x = true) (hk : SE C k ca) (hns : notSl k = true) (he : SE C e cb) (hn : noComp e = true) : SS C np (.Assign [.Subscript (.Name x pn) k pt] e p) (.put i ca cb) := fun X Φ m g ht => by
  have := ps_put (np := np) (pos := p) (pt := pt) (pn := pn) (un70 g) (by rw [g.eN]; exact h1) (by rw [g.sc]; exact vis_of h2) (nm_of h3).1 (nm_of h3).2 (pe_stl (he X Φ g).1) (pe_stl (hk X Φ g).1) (fun v => by
    cases k <;> first
      | rfl
      | cases hns) (sws_no hn _ _ _) (by
    unfold swappedStores
    cases e <;> rfl)
  refine ps_weak this fun D σ H ⟨ρ, fl, ρ', kk, e, o⟩ => ⟨ρ, fl, ρ', kk, ?_, o⟩
  have e : ((evE Φ cb ρ).bind fun p => (stl p.2 p.1).bind fun x => Res.guard (isOwn (gt x.2 i)) ((evE Φ ca x.2).bind fun q => (stl q.2 q.1).bind fun y => match gt y.2 i with
    | .own o => (putR o y.1 x.1).bind fun o2 => .ok (.nxt, y.2.set i (.own o2))
    | _ => .bad)) = .ok (fl, ρ') := e
  obtain ⟨y, e1, e⟩ := Res.bind_eq_ok e
  obtain ⟨z, e2, e⟩ := Res.bind_eq_ok e
  obtain ⟨gg, e⟩ := Res.guard_eq_ok e
  obtain ⟨y2, e3, e⟩ := Res.bind_eq_ok e
  obtain ⟨z2, e4, e⟩ := Res.bind_eq_ok e
  show (((evE Φ cb ρ).bind fun p => stl p.2 p.1).bind _) = _
  rw [e1]
  show (stl y.2 y.1).bind _ = _
  rw [e2]
  show Res.guard (isOwn (gt z.2 i)) _ = _
  rw [gg]
  show (((evE Φ ca z.2).bind fun p => stl p.2 p.1).bind _) = _
  rw [e3]
  show (stl y2.2 y2.1).bind _ = _
  rw [e4]
  exact e
theorem ss_aug {i : Nat} {p1 : Pos} {o : Bop} (h1 : C.N[i]? = some x) (h2 : locB C x = true) (h : SE C e ca) (ho : ipOk o = true) : SS C np (.AugAssign (.Name x p1) (opr o) e p) (.aug i o ca) := fun X Φ m g ht =>
  ps_ag (by rw [g.eN]; exact g.nd) (by rw [g.eN]; exact h1) (loc_of g h2).1 (h X Φ g).1 ho (loc_of g h2).2
theorem ss_augp {i : Nat} {k : Expr} {pn pt : Pos} {o : Bop} (h1 : C.N[i]? = some x) (h2 : visB C.sc x = true) (h3 : nmB x = true) (hk : SE C k cb) (hns : notSl k = true) (h : SE C e ca) (ho : ipOk o = true) : SS C np (.AugAssign (.Subscript (.Name x pn) k pt) (opr o) e p) (.augp i cb o ca) := fun X Φ m g ht =>
  ps_augp (un70 g) (by rw [g.eN]; exact h1) (by rw [g.sc]; exact vis_of h2) (nm_of h3).1 (nm_of h3).2 (hk X Φ g).1 (h X Φ g).1 ho (fun ov iv new => by
    cases k <;> first
      | rfl
      | cases hns)
/-! a, b = x, y -/
/-- names, each a local of the same line -/
def sstB (C : Ct) (ts : List Expr) (vs : List Expr) : Option (List Str) :=
  if !(ts.length == 2 || ts.length == 3) || vs.length != ts.length then none
  else if vs.any (fun | .Starred .. => true | _ => false) then none
  else
    let line := (ts.head?.map (·.pos.line)).getD 0
    let names := ts.filterMap fun
      | .Name id pos => if C.sc.names.lookup id == some .local && pos.line == line then some id else none
      | _ => none
    if names.length != ts.length || names.eraseDups.length != names.length then none
    else if vs.all (foldedForSure 8) then none
    else some names
theorem sst_eq {X : Cx} {Φ : Fenv} (g : Gd X C Φ) {vs : List Expr} {k1 k2 : Nat} {p1 p2 : Pos} (h : vs.all (constantsAlone 8) = false ∨ vs.all (foldedForSure 8) = true ∨ ¬ (ts.length = 2 ∨ ts.length = 3)) : swappedStores [.Tuple ts k1 p1] (.Tuple vs k2 p2) X.env = pure (sstB C ts vs) := by
  have hb : X.env.blockKind = .function := by unfold Env.blockKind; rw [g.kd]; rfl
  have hk : ∀ y, X.env.kindOf y = C.sc.names.lookup y := fun y => by show X.env.scope.names.lookup y = _; rw [g.sc]
  have e1 : (!(ts.length == 2 || ts.length == 3) || vs.length != ts.length || X.env.blockKind != .function) = (!(ts.length == 2 || ts.length == 3) || vs.length != ts.length) := by rw [hb]; simp
  unfold swappedStores
  simp only [e1, hk]
  unfold sstB
  split
  · rfl
  · rename_i h1
    split
    · rename_i h2; exact congrArg pure (if_pos h2).symm
    · rename_i h2
      refine Eq.trans ?_ (congrArg pure (if_neg h2).symm)
      split
      · rename_i h3; exact congrArg pure (if_pos h3).symm
      · rename_i h3
        refine Eq.trans ?_ (congrArg pure (if_neg h3).symm)
        split
        · rfl
        · rename_i h4
          split
          · rename_i h5
            rcases h with h | h | h
            · rw [h] at h5; cases h5
            · exact absurd h h4
            · refine absurd ?_ h
              simp only [Bool.or_eq_true, Bool.not_eq_true', not_or, Bool.not_eq_false, beq_iff_eq] at h1
              exact h1.1
          · rfl
/-- the names' places -/
def ixs (C : Ct) : List Expr → Option (List Nat)
  | [] => some []
  | .Name x _ :: r => if locB C x = true ∧ C.N[C.N.idxOf x]? = some x then (ixs C r).map (C.N.idxOf x :: ·) else none
  | _ => none
theorem pgs_ixs {X : Cx} {Φ : Fenv} (g : Gd X C Φ) : ∀ {ts : List Expr} {is : List Nat}, ixs C ts = some is → PGs X ts (fun vs σ H Q => vs.length = is.length ∧ Q (setAll σ is vs) H) ∧ (assignEach ts X.env).length = is.length ∧ (assignEach ts X.env).findIdx? (·.1) = none
  | [], is, h => by
    cases h
    refine ⟨⟨fun pins s σ H vs us Q I r ⟨q1, q2⟩ => pgs_nil.run pins s σ H vs us Q I r ?_⟩, rfl, rfl⟩
    cases vs with
    | nil => exact ⟨rfl, q2⟩
    | cons _ _ => cases q1
  | t :: ts, is, h => by
    cases t with
    | Name x px =>
      unfold ixs at h
      split at h
      · rename_i c
        cases q : ixs C ts with
        | none => rw [q] at h; cases h
        | some js =>
          rw [q] at h
          cases h
          obtain ⟨r1, r2, r3⟩ := pgs_ixs g q
          have l := loc_of g c.1
          have e : assignEach (.Name x px :: ts) X.env = (false, assign (.Name x px) X.env) :: assignEach ts X.env := rfl
          refine ⟨⟨fun pins s σ H vs us Q I r ⟨q1, q2⟩ => (pgs_cons (pg_name (by rw [g.eN]; exact g.nd) (by rw [g.eN]; exact c.2) l.1 l.2) r1 rfl).run pins s σ H vs us Q I r ?_⟩, ?_, ?_⟩
          · cases vs with
            | nil => cases q1
            | cons v vs => exact ⟨v, vs, rfl, by simpa using q1, q2⟩
          · rw [e]; simp [r2]
          · rw [e, List.findIdx?_cons]; simp [r3]
      · cases h
    | _ => cases h
theorem ss_parT {is : List Nat} {vs : List Expr} {k1 k2 : Nat} {p1 p2 : Pos} (hx : ixs C ts = some is) (ha : SA C vs ca) (hl : is.length ≤ 100) (hc : vs.all (constantsAlone 8) = false ∨ vs.all (foldedForSure 8) = true ∨ ¬ (ts.length = 2 ∨ ts.length = 3)) (hn : sstB C ts vs = none) :
    SS C np (.Assign [.Tuple ts k1 p1] (.Tuple vs k2 p2) p) (.par is ca) := fun X Φ m g ht => by
  obtain ⟨r1, r2, r3⟩ := pgs_ixs g hx
  exact ps_parT g.calm (ha X Φ g).1 r1 r2 hl r3 (sws_no rfl _ _ _) (by rw [sst_eq g hc, hn]) rfl
theorem ss_par2 {i j : Nat} {y : Str} {px py : Pos} {a b : Expr} {k1 k2 : Nat} {p1 p2 : Pos} (h1 : C.N[i]? = some x) (h2 : C.N[j]? = some y) (hij : i ≠ j) (l1 : C.sc.names.lookup x = some .local) (l2 : C.sc.names.lookup y = some .local) (ha : SA C [a, b] ca)
    (hc : [a, b].all (constantsAlone 8) = false ∨ [a, b].all (foldedForSure 8) = true ∨ ¬ ([Expr.Name x px, .Name y py].length = 2 ∨ [Expr.Name x px, .Name y py].length = 3)) (hn : sstB C [.Name x px, .Name y py] [a, b] = some [x, y]) :
    SS C np (.Assign [.Tuple [.Name x px, .Name y py] k1 p1] (.Tuple [a, b] k2 p2) p) (.par [i, j] ca) := fun X Φ m g ht =>
  ps_par2 g.calm (by rw [g.eN]; exact g.nd) (by rw [g.eN]; exact h1) (by rw [g.eN]; exact h2) (by rw [g.sc]; exact l1) (by rw [g.sc]; exact l2) (ha X Φ g).1 (by rw [sst_eq g hc, hn]) hij
theorem ss_par3 {i j l : Nat} {y z : Str} {px py pz : Pos} {a b d : Expr} {k1 k2 : Nat} {p1 p2 : Pos} (h1 : C.N[i]? = some x) (h2 : C.N[j]? = some y) (h3 : C.N[l]? = some z) (hij : i ≠ j) (hil : i ≠ l) (hjl : j ≠ l) (l1 : C.sc.names.lookup x = some .local) (l2 : C.sc.names.lookup y = some .local) (l3 : C.sc.names.lookup z = some .local) (ha : SA C [a, b, d] ca)
    (hc : [a, b, d].all (constantsAlone 8) = false ∨ [a, b, d].all (foldedForSure 8) = true ∨ ¬ ([Expr.Name x px, .Name y py, .Name z pz].length = 2 ∨ [Expr.Name x px, .Name y py, .Name z pz].length = 3)) (hn : sstB C [.Name x px, .Name y py, .Name z pz] [a, b, d] = some [x, y, z]) :
    SS C np (.Assign [.Tuple [.Name x px, .Name y py, .Name z pz] k1 p1] (.Tuple [a, b, d] k2 p2) p) (.par [i, j, l] ca) := fun X Φ m g ht =>
  ps_par3 g.calm (by rw [g.eN]; exact g.nd) (by rw [g.eN]; exact h1) (by rw [g.eN]; exact h2) (by rw [g.eN]; exact h3) (by rw [g.sc]; exact l1) (by rw [g.sc]; exact l2) (by rw [g.sc]; exact l3) (ha X Φ g).1 (by rw [sst_eq g hc, hn]) hij hil hjl
end
end Rt
set_option maxRecDepth 100000
set_option maxHeartbeats 4000000
namespace Rt
open PySem PySem.Spec PyProof.Rows L2
/-! ### from the program's tree to the core terms, each with its proof -/
abbrev OE (C : Ct) (e : Expr) := Option {c : CE // SE C e c}
abbrev FE := ∀ (C : Ct) (e : Expr), OE C e
def cA (f : FE) (C : Ct) : (es : List Expr) → Option {c : CE // SA C es c}
  | [] => some ⟨.nil, sa_nil⟩
  | e :: es => match f C e, cA f C es with
    | some a, some r => if h : isStar e = false then some ⟨.cons false a.1 r.1, sa_cons a.2 h r.2⟩ else none
    | _, _ => none
def starOf : (e : Expr) → Option ((x : Expr) × {p : Pos // e = .Starred x p})
  | .Starred x p => some ⟨x, p, rfl⟩
  | _ => none
def cL (f : FE) (C : Ct) : (es : List Expr) → Option {c : CE // SL C es c}
  | [] => some ⟨.nil, sl_nil'⟩
  | .Starred x p :: es => match f C x, cL f C es with
    | some a, some r => some ⟨.cons true a.1 r.1, sl_star a.2 r.2⟩
    | _, _ => none
  | e :: es => match f C e, cL f C es with
    | some a, some r => if h : isStar e = false then some ⟨.cons false a.1 r.1, sl_cons a.2 h r.2⟩ else none
    | _, _ => none
def cB (f : FE) (C : Ct) (op : BoolOp) : (es : List Expr) → Option {c : CE // SB C op es c}
  | [] => none
  | [e] => match f C e with
    | some a => if h : tOk e = true then some ⟨a.1, sb_one a.2 h⟩ else none
    | none => none
  | e :: b :: r => match f C e, cB f C op (b :: r) with
    | some a, some q => if h : tOk e = true then (match op, q with
      | .And, q => some ⟨.and a.1 q.1, sb_and a.2 h q.2⟩
      | .Or, q => some ⟨.or a.1 q.1, sb_or a.2 h q.2⟩) else none
    | _, _ => none
def cO (f : FE) (C : Ct) : (o : Option Expr) → Option {c : CE // SO C o c}
  | none => some ⟨.nil, so_none⟩
  | some e => match f C e with
    | some a => if h : a.1.isNil = false then some ⟨a.1, so_some a.2 h⟩ else none
    | none => none
def cC (f : FE) (C : Ct) : (ifs : List Expr) → Option {c : CE // SC C ifs c}
  | [] => some ⟨.nil, sc_nil⟩
  | [e] => match f C e with
    | some a => if h : tOk e = true ∧ a.1.isNil = false then some ⟨a.1, sc_one a.2 h.1 h.2⟩ else none
    | none => none
  | _ => none
/-- a name's place -/
def place? (C : Ct) (x : Str) : Option {i : Nat // C.N[i]? = some x} := if h : C.N[C.N.idxOf x]? = some x then some ⟨_, h⟩ else none
abbrev OT (C : Ct) (np : Nat) (e : Expr) := Option {t : Tg // ST C np e t}
def cTs (f : ∀ e, OT C np e) : (es : List Expr) → Option {t : Tg // STs C np es t}
  | [] => some ⟨.nil, sts_n⟩
  | e :: es => match f e, cTs f es with
    | some a, some r => some ⟨.cons a.1 r.1, sts_c a.2 r.2⟩
    | _, _ => none
def cT (C : Ct) (np : Nat) : Nat → (e : Expr) → OT C np e
  | 0, _ => none
  | n + 1, .Name x _ => match place? C x with
    | some i => if h : locB C x = true then some ⟨.v i.1, st_v i.2 h⟩ else none
    | none => none
  | n + 1, .Tuple es _ _ => match cTs (cT C np n) es with
    | some t => some ⟨t.1, st_t t.2⟩
    | none => none
  | _, _ => none
def copOf : (o : CmpOp) → Option {c : Cop // copr c = o}
  | .Eq => some ⟨.eq, rfl⟩
  | .NotEq => some ⟨.ne, rfl⟩
  | .Lt => some ⟨.lt, rfl⟩
  | .LtE => some ⟨.le, rfl⟩
  | .Gt => some ⟨.gt, rfl⟩
  | .GtE => some ⟨.ge, rfl⟩
  | .In => some ⟨.inn, rfl⟩
  | .NotIn => some ⟨.nin, rfl⟩
  | _ => none
def bopOf : (o : Operator) → Option {c : Bop // opr c = o}
  | .Add => some ⟨.add, rfl⟩
  | .Sub => some ⟨.sub, rfl⟩
  | .Mult => some ⟨.mul, rfl⟩
  | .FloorDiv => some ⟨.fdiv, rfl⟩
  | .Mod => some ⟨.mod, rfl⟩
  | .Pow => some ⟨.pow, rfl⟩
  | _ => none
def biAll : List Bi := [.len, .sorted, .tuple, .list, .dict, .any, .all, .sum, .min, .max, .int, .str]
def biOf (x : Str) : List Bi → Option {b : Bi // biOk b = true ∧ biN b = x}
  | [] => none
  | b :: r => if h : biOk b = true ∧ biN b = x then some ⟨b, h⟩ else biOf x r
def tyAll : List Ty := [.int, .bool, .str, .tuple, .list]
def tyOf (x : Str) : List Ty → Option {t : Ty // (tyN t : Str) = x}
  | [] => none
  | t :: r => if h : (tyN t : Str) = x then some ⟨t, h⟩ else tyOf x r
def tysOf : (es : List Expr) → Option {ts : List Ty // TyNs ts es}
  | [] => some ⟨[], .nil⟩
  | .Name x p :: es => match tyOf x tyAll, tysOf es with
    | some t, some ts => some ⟨t.1 :: ts.1, by obtain ⟨t, rfl⟩ := t; exact .cons ts.2⟩
    | _, _ => none
  | _ => none
/-- what is walked -/
def cI (f : FE) (C : Ct) (tg : Expr) : (it : Expr) → Option {c : CE // SI C tg it c}
  | .Call (.Name x p) as [] pos =>
    if hr : x = "range" then (match as with
      | [a] => match f C a with
        | some ca => if h : glB C "range" = true ∧ isStar a = false then some ⟨.rng1 ca.1, by rw [hr]; exact si_r1 h.1 ca.2 h.2⟩ else none
        | none => none
      | [a, b] => match f C a, f C b with
        | some ca, some cb => if h : glB C "range" = true ∧ isStar a = false ∧ isStar b = false then some ⟨.rng2 ca.1 cb.1, by rw [hr]; exact si_r2 h.1 ca.2 h.2.1 cb.2 h.2.2⟩ else none
        | _, _ => none
      | _ => none)
    else if he : x = "enumerate" then (match tg, as with
      | .Tuple ts kk pt, [a] => match f C a with
        | some ca => if h : glB C "enumerate" = true ∧ isStar a = false then some ⟨.enu ca.1, by rw [he]; exact si_en h.1 ca.2 h.2⟩ else none
        | none => none
      | _, _ => none)
    else match f C (.Call (.Name x p) as [] pos) with
      | some a => some ⟨.ex a.1, si_e a.2⟩
      | none => none
  | .Call (.Attribute o m apos) [] [] cpos =>
    if hm : m = "items" then (match tg with
      | .Tuple ts kk pt => match f C o with
        | some a => if h : noSu2 o = true ∧ (apos.endLine == cpos.line) = true then some ⟨.itm a.1, by rw [hm]; exact si_it a.2 h.1 h.2⟩ else none
        | none => none
      | _ => none)
    else none
  | it => match f C it with
    | some a => some ⟨.ex a.1, si_e a.2⟩
    | none => none
def cCall (f : FE) (C : Ct) (x : Str) (p : Pos) (as : List Expr) (pos : Pos) : OE C (.Call (.Name x p) as [] pos) :=
  match as with
  | [] => none
  | a :: es =>
    match hf : C.gfs.lookup x with
    | some (j, m) => match cA f C (a :: es) with
      | some c => if h : nmB x = true ∧ glB C x = true then some ⟨.call j c.1, se_fn hf h.1 h.2 c.2⟩ else none
      | none => none
    | none =>
      if hi : x = "isinstance" then (match es with
        | [.Name y p1] => match tyOf y tyAll, f C a with
          | some t, some ca => if h : glB C "isinstance" = true ∧ glB C (tyN t.1) = true ∧ isStar a = false then some ⟨.isi [t.1] ca.1, by obtain ⟨t, rfl⟩ := t; rw [hi]; exact se_isi1 t h.1 h.2.1 ca.2 h.2.2⟩ else none
          | _, _ => none
        | [.Tuple ys kk pt] => match tysOf ys, f C a with
          | some ts, some ca => if h : glB C "isinstance" = true ∧ (ts.1.all fun t => glB C (tyN t)) = true ∧ isStar a = false ∧ ts.1.length ≤ 8 then some ⟨.isi ts.1 ca.1, by rw [hi]; exact se_isiT ts.2 h.2.2.2 h.1 h.2.1 ca.2 h.2.2.1⟩ else none
          | _, _ => none
        | _ => none)
      else match biOf x biAll, cA f C (a :: es) with
        | some b, some c => if h : glB C (biN b.1) = true then some ⟨.bi b.1 c.1, by obtain ⟨b, hb, rfl⟩ := b; exact se_bi b hb h c.2⟩ else none
        | _, _ => none
def cGet (f : FE) (C : Ct) (o : Expr) (m : Str) (apos : Pos) (as : List Expr) (cpos : Pos) : OE C (.Call (.Attribute o m apos) as [] cpos) :=
  match as with
  | [] => none
  | a :: es => if hm : m = "get" then (match f C o, cL f C (a :: es) with
      | some co, some ca => if h : noSup o = true ∧ noStar (a :: es) = true ∧ es.length ≤ 3 ∧ (apos.endLine == cpos.line) = true then some ⟨.dget co.1 ca.1, by rw [hm]; exact se_get co.2 h.1 ca.2 h.2.1 h.2.2.1 h.2.2.2⟩ else none
      | _, _ => none)
    else none
def cMeth (f : FE) (C : Ct) (o : Expr) (m : Str) (apos : Pos) (as : List Expr) (cpos : Pos) : OE C (.Call (.Attribute o m apos) as [] cpos) :=
  match as with
  | [a] =>
    if hm : m = "index" then (match f C o, cA f C [a] with
      | some co, some ca => if h : noSup o = true ∧ (apos.endLine == cpos.line) = true then some ⟨.met .index co.1 ca.1, by rw [hm]; exact se_ind co.2 h.1 ca.2 h.2⟩ else none
      | _, _ => none)
    else if hm : m = "append" then (match o with
      | .Name x pn => match place? C x, cL f C [a] with
        | some i, some ca => if h : visB C.sc x = true ∧ nmB x = true ∧ isStar a = false ∧ (apos.endLine == cpos.line) = true then some ⟨.mut .append i.1 ca.1, by rw [hm]; exact se_app i.2 h.1 h.2.1 ca.2 h.2.2.1 h.2.2.2⟩ else none
        | _, _ => none
      | _ => none)
    else if hm : m = "extend" then (match o with
      | .Name x pn => match place? C x, f C a with
        | some i, some ca => if h : visB C.sc x = true ∧ nmB x = true ∧ isStar a = false ∧ (apos.endLine == cpos.line) = true then some ⟨.ext i.1 ca.1, by rw [hm]; exact se_ext i.2 h.1 h.2.1 ca.2 h.2.2.1 h.2.2.2⟩ else none
        | _, _ => none
      | _ => none)
    else cGet f C o m apos [a] cpos
  | as => cGet f C o m apos as cpos
def setArg : (es : List Expr) → Option ((p2 : Pos) × (a : Expr) × {q : Pos // es = [.Call (.Name "set" p2) [a] [] q]})
  | [.Call (.Name x p2) [a] [] q] => if h : x = "set" then some ⟨p2, a, q, by rw [h]⟩ else none
  | _ => none
def itemsArg : (es : List Expr) → Option ((o : Expr) × (ap : Pos) × {cp : Pos // es = [.Call (.Attribute o "items" ap) [] [] cp]})
  | [.Call (.Attribute o m ap) [] [] cp] => if h : m = "items" then some ⟨o, ap, cp, by rw [h]⟩ else none
  | _ => none
def cSet (f : FE) (C : Ct) (x : Str) (p : Pos) (as : List Expr) (pos : Pos) : OE C (.Call (.Name x p) as [] pos) :=
  if hx : x = "sorted" then (match setArg as with
    | some ⟨p2, a, q, h⟩ => match cA f C [a] with
      | some ca => if h2 : glB C "sorted" = true ∧ glB C "set" = true ∧ isStar a = false then some ⟨.bi .sset ca.1, by rw [hx, h]; exact se_sset h2.1 h2.2.1 ca.2 h2.2.2⟩ else none
      | none => none
    | none => match itemsArg as with
      | some ⟨o, ap, cp, h⟩ => match f C o with
        | some ca => if h2 : glB C "sorted" = true ∧ noSu2 o = true ∧ (ap.endLine == cp.line) = true then some ⟨.bi .sitems (.cons false ca.1 .nil), by rw [hx, h]; exact se_sits h2.1 ca.2 h2.2.1 h2.2.2⟩ else none
        | none => none
      | none => cCall f C x p as pos)
  else if hx : x = "len" then (match setArg as with
    | some ⟨p2, a, q, h⟩ => match cA f C [a] with
      | some ca => if h2 : glB C "len" = true ∧ glB C "set" = true ∧ isStar a = false then some ⟨.bi .lset ca.1, by rw [hx, h]; exact se_lset h2.1 h2.2.1 ca.2 h2.2.2⟩ else none
      | none => none
    | none => cCall f C x p as pos)
  else cCall f C x p as pos
def stepE (f : FE) (C : Ct) : (e : Expr) → OE C e
  | .Name x p => match place? C x with
    | some i => if h : visB C.sc x = true ∧ nmB x = true then some ⟨.var i.1, se_var i.2 h.1 h.2⟩ else none
    | none => match hh : C.gis.lookup x with
      | some i => if h : glB C x = true ∧ nmB x = true then some ⟨.cst (.int i), se_gint hh h.1 h.2⟩ else none
      | none => none
  | .Constant (.int i) k p => some ⟨_, se_int⟩
  | .Constant (.bool i) k p => some ⟨_, se_bool⟩
  | .Constant (.str i) k p => some ⟨_, se_str⟩
  | .Constant .none k p => some ⟨_, se_none⟩
  | .Tuple es k p => match cL f C es with
    | some c => some ⟨.tup c.1, se_tup c.2⟩
    | none => none
  | .List es p => match cL f C es with
    | some c => some ⟨.lst c.1, se_lst c.2⟩
    | none => none
  | .Dict [] [] p => some ⟨_, se_dc0⟩
  | .Dict [some k] [v] p => match f C k, f C v with
    | some ck, some cv => some ⟨.dct (.cons false ck.1 (.cons false cv.1 .nil)), se_dc1 ck.2 cv.2⟩
    | _, _ => none
  | .BinOp (.List es p2) .Mult b p => match cL f C es, f C b with
    | some c, some d => some ⟨.rep c.1 d.1, se_rep c.2 d.2⟩
    | _, _ => none
  | .BinOp a op b p => match bopOf op, f C a, f C b with
    | some o, some c, some d => some ⟨.bin o.1 c.1 d.1, by obtain ⟨o, rfl⟩ := o; exact se_bin o c.2 d.2⟩
    | _, _, _ => none
  | .UnaryOp .USub a p => match f C a with
    | some c => some ⟨.neg c.1, se_neg c.2⟩
    | none => none
  | .UnaryOp .Not a p => match f C a with
    | some c => if h : tOk a = true then some ⟨.not c.1, se_not c.2 h⟩ else none
    | none => none
  | .BoolOp op es p => match cB f C op es with
    | some c => some ⟨c.1, se_bool_op c.2⟩
    | none => none
  | .Compare a [.Is] [.Constant .none j p2] p => match f C a with
    | some c => some ⟨.isN c.1, se_isn c.2⟩
    | none => none
  | .Compare a [.IsNot] [.Constant .none j p2] p => match f C a with
    | some c => some ⟨.notN c.1, se_ntn c.2⟩
    | none => none
  | .Compare a [op] [b] p => match copOf op, f C a, f C b with
    | some o, some c, some d => if h : behindInMarks (copr o.1) b = false then some ⟨.cmp o.1 c.1 d.1, by obtain ⟨o, rfl⟩ := o; exact se_cmp o c.2 d.2 h⟩ else none
    | _, _, _ => none
  | .Compare a [op, op2] [b, c] p => match copOf op, copOf op2, f C a, f C b, f C c with
    | some o, some o2, some ca, some cb, some cc => if h : lastMarks [copr o.1, copr o2.1] [b, c] = false then some ⟨.chn o.1 o2.1 ca.1 cb.1 cc.1, by obtain ⟨o, rfl⟩ := o; obtain ⟨o2, rfl⟩ := o2; exact se_chn o o2 ca.2 cb.2 cc.2 h⟩ else none
    | _, _, _, _, _ => none
  | .IfExp c a b p => match f C c, f C a, f C b with
    | some cc, some ca, some cb => if h : tOk c = true then some ⟨.ife cc.1 ca.1 cb.1, se_ife cc.2 h ca.2 cb.2⟩ else none
    | _, _, _ => none
  | .Subscript a (.Slice lo hi none p2) p => match f C a, cO f C lo, cO f C hi with
    | some ca, some cl, some ch => some ⟨.slc ca.1 cl.1 ch.1, se_slc ca.2 cl.2 ch.2⟩
    | _, _, _ => none
  | .Subscript a b p => match f C a, f C b with
    | some ca, some cb => if h : notSl b = true then some ⟨.idx ca.1 cb.1, se_idx ca.2 cb.2 h⟩ else none
    | _, _ => none
  | .Call (.Name x p) as [] pos => cSet f C x p as pos
  | .Call (.Attribute o m apos) as [] cpos => cMeth f C o m apos as cpos
  | .ListComp elt [⟨tg, it, ifs, 0⟩] scope p => match cI f C tg it, cT (C.blk scope) 0 8 tg, cC f (C.blk scope) ifs, f (C.blk scope) elt with
    | some ci, some t, some cf, some ce => if h : blkC C.N C.sc scope (ownOf C.N t.1) = true ∧ notSet it = true then some ⟨.lc (tgs t.1) t.1 ci.1 cf.1 ce.1, se_lc ci.2 h.1 t.2 cf.2 ce.2 h.2⟩ else none
    | _, _, _, _ => none
  | _ => none
def cE : Nat → FE
  | 0 => fun _ _ => none
  | n + 1 => stepE (cE n)
/-! ### statements -/
abbrev OS (C : Ct) (np : Nat) (st : Stmt) := Option {c : CS // SS C np st c}
def cSs (f : ∀ st, OS C np st) : (sts : List Stmt) → Option {c : CS // SSs C np sts c}
  | [] => some ⟨.skip, sss_nil⟩
  | st :: sts => match f st, cSs f sts with
    | some a, some r => some ⟨.seq a.1 r.1, sss_cons a.2 r.2⟩
    | _, _ => none
def cAsg (e : FE) (C : Ct) (np : Nat) (tg v : Expr) (p : Pos) : OS C np (.Assign [tg] v p) :=
  match tg with
  | .Name x p1 => match place? C x with
    | some i => if h : locB C x = true then
        (match v with
        | .ListComp elt [⟨tg, it, ifs, 0⟩] scope p2 =>
          if hs : swB C scope x p1 p2 = true then
            (match cI e C tg it, cT (C.blk scope) 0 8 tg, cC e (C.blk scope) ifs, e (C.blk scope) elt with
            | some ci, some t, some cf, some ce => if h2 : blkC C.N C.sc scope (ownOf C.N t.1) = true ∧ notSet it = true then some ⟨.asg (.v i.1) (.lc (tgs t.1) t.1 ci.1 cf.1 ce.1), ss_nameS i.2 hs ci.2 h2.1 t.2 cf.2 ce.2 h2.2⟩ else none
            | _, _, _, _ => none)
          else (match e C (.ListComp elt [⟨tg, it, ifs, 0⟩] scope p2) with
            | some c => some ⟨.asg (.v i.1) c.1, ss_nameC i.2 h c.2 (by simpa using hs)⟩
            | none => none)
        | v => match e C v with
          | some c => if h2 : noComp v = true then some ⟨.asg (.v i.1) c.1, ss_name i.2 h c.2 h2⟩ else none
          | none => none)
      else none
    | none => none
  | .Subscript (.Name x pn) k pt => match place? C x, e C k, e C v with
    | some i, some ck, some cv => if h : visB C.sc x = true ∧ nmB x = true ∧ notSl k = true ∧ noComp v = true then some ⟨.put i.1 ck.1 cv.1, ss_put i.2 h.1 h.2.1 ck.2 h.2.2.1 cv.2 h.2.2.2⟩ else none
    | _, _, _ => none
  | .Tuple ts k1 p1 => match v with
    | .Tuple vs k2 p2 => match cA e C vs with
      | some ca =>
        if hc : vs.all (constantsAlone 8) = false ∨ vs.all (foldedForSure 8) = true ∨ ¬ (ts.length = 2 ∨ ts.length = 3) then
          (match hn : sstB C ts vs with
          | none => match hx : ixs C ts with
            | some is => if h : is.length ≤ 100 then some ⟨.par is ca.1, ss_parT hx ca.2 h hc hn⟩ else none
            | none => none
          | some ns => match ts, vs, hc, hn, ca with
            | [.Name x px, .Name y py], [a, b], hc, hn, ca => match place? C x, place? C y with
              | some i, some j => if h : ns = [x, y] ∧ i.1 ≠ j.1 ∧ C.sc.names.lookup x = some .local ∧ C.sc.names.lookup y = some .local then some ⟨.par [i.1, j.1] ca.1, ss_par2 i.2 j.2 h.2.1 h.2.2.1 h.2.2.2 ca.2 hc (by rw [hn, h.1])⟩ else none
              | _, _ => none
            | [.Name x px, .Name y py, .Name z pz], [a, b, d], hc, hn, ca => match place? C x, place? C y, place? C z with
              | some i, some j, some l => if h : ns = [x, y, z] ∧ i.1 ≠ j.1 ∧ i.1 ≠ l.1 ∧ j.1 ≠ l.1 ∧ C.sc.names.lookup x = some .local ∧ C.sc.names.lookup y = some .local ∧ C.sc.names.lookup z = some .local then
                  some ⟨.par [i.1, j.1, l.1] ca.1, ss_par3 i.2 j.2 l.2 h.2.1 h.2.2.1 h.2.2.2.1 h.2.2.2.2.1 h.2.2.2.2.2.1 h.2.2.2.2.2.2 ca.2 hc (by rw [hn, h.1])⟩ else none
              | _, _, _ => none
            | _, _, _, _, _ => none)
        else none
      | none => none
    | v => match cT C np 8 (.Tuple ts k1 p1), e C v with
      | some t, some c => if h : isV t.1 = false ∧ noComp v = true ∧ notTup v = true ∧ ((tgs t.1).all fun i => decide (np ≤ i)) = true then some ⟨.asg t.1 c.1, ss_tg c.2 h.1 h.2.1 h.2.2.1 t.2 h.2.2.2⟩ else none
      | _, _ => none
  | _ => none
def stepS (e : FE) (C : Ct) (np : Nat) (f : ∀ st, OS C np st) : (st : Stmt) → OS C np st
  | .Pass p => some ⟨_, ss_pass⟩
  | .Return (some v) p => match e C v with
    | some c => some ⟨.ret c.1, ss_ret c.2⟩
    | none => none
  | .Return none p => some ⟨_, ss_retN⟩
  | .Expr v p => match e C v with
    | some c => if h : noComp v = true then some ⟨.exp c.1, ss_exp c.2 h⟩ else none
    | none => none
  | .If c a b p => match e C c, cSs f a, cSs f b with
    | some cc, some ca, some cb => if h : tOk c = true then some ⟨.ife cc.1 ca.1 cb.1, ss_if cc.2 h ca.2 cb.2⟩ else none
    | _, _, _ => none
  | .While c a [] p => match e C c, cSs f a with
    | some cc, some ca => if h : tOk c = true then some ⟨.whl cc.1 ca.1, ss_wh cc.2 h ca.2⟩ else none
    | _, _ => none
  | .For tg it a [] p => match cI e C tg it, cT C np 8 tg, cSs f a with
    | some ci, some t, some ca => if h : notSet it = true ∧ ((tgs t.1).all fun i => decide (np ≤ i)) = true then some ⟨.for_ t.1 ci.1 ca.1, ss_for ci.2 h.1 t.2 h.2 ca.2⟩ else none
    | _, _, _ => none
  | .Raise eo co p => some ⟨.raise 0 .nil, ss_raise⟩
  | .AugAssign (.Name x p1) op v p => match place? C x, bopOf op, e C v with
    | some i, some o, some c => if h : locB C x = true ∧ ipOk o.1 = true then some ⟨.aug i.1 o.1 c.1, by obtain ⟨o, rfl⟩ := o; exact ss_aug i.2 h.1 c.2 h.2⟩ else none
    | _, _, _ => none
  | .AugAssign (.Subscript (.Name x pn) k pt) op v p => match place? C x, bopOf op, e C k, e C v with
    | some i, some o, some ck, some c => if h : visB C.sc x = true ∧ nmB x = true ∧ notSl k = true ∧ ipOk o.1 = true then some ⟨.augp i.1 ck.1 o.1 c.1, by obtain ⟨o, rfl⟩ := o; exact ss_augp i.2 h.1 h.2.1 ck.2 h.2.2.1 c.2 h.2.2.2⟩ else none
    | _, _, _, _ => none
  | .Assign [tg] v p => cAsg e C np tg v p
  | _ => none
def cS (C : Ct) (np : Nat) (e : FE) : Nat → ∀ st, OS C np st
  | 0 => fun _ => none
  | n + 1 => stepS e C np (cS C np e n)
def cBody (C : Ct) (np : Nat) (n : Nat) (sts : List Stmt) : Option {c : CS // SSs C np sts c} := cSs (cS C np (cE n) n) sts
end Rt
set_option maxRecDepth 100000
set_option maxHeartbeats 4000000
namespace Rt
open PySem PySem.Spec PyProof.Rows L2
/-! ### defs -/
def CX0 : CXT := fun _ _ _ _ _ _ => False
structure FG (P : Program) (w : World) (K : PySem.W.Frag) (mg : Str → Option Value) (base : Heap) (n : Nat) (x : Str) (np : Nat) (f : List Sl → Res (Sl × List Sl)) : Prop where
  ex : ∃ (a : Addr) (fd : FuncData) (ps : List Str), mg x = some (.ref a) ∧ PySem.W.keepIn K (.ref a) = true ∧ FnOk P w K mg base CX0 n a fd ps (spF P w K np f) ∧ Binds K fd ps []
structure DefGd (K : PySem.W.Frag) (mg : Str → Option Value) (gis : List (Str × Int)) (gfs : List (Str × Nat × Nat)) (tbl : List CF) (x : Str) (j np : Nat) : Prop where
  ex : ∃ (qual : Str) (params : Arguments) (body : List Stmt) (scope : Scope) (kws : List (Str × V)) (f : Addr) (fd : FuncData) (ps N : List Str) (c : CS), FunD K x qual params body scope [] kws f fd ∧ FnScope N ps scope ∧ ps.length = np ∧
    mg x = some (.ref f) ∧ tbl[j]? = some ⟨np, N.length, c⟩ ∧ SSs ⟨N, scope, none, true, gis, gfs⟩ np body c ∧ Binds K fd ps []
theorem evF_len {tbl : List CF} {m n j np : Nat} (h : ∃ ns c, tbl[j]? = some ⟨np, ns, c⟩) {ss : List Sl} {r : Sl × List Sl} (e : evF tbl m n j ss = .ok r) : ss.length = np := by
  cases n with
  | zero => cases e
  | succ n =>
    obtain ⟨ns, c, h⟩ := h
    unfold evF at e
    rw [h] at e
    obtain ⟨g, e⟩ := Res.guard_eq_ok e
    exact of_decide_eq_true g
theorem gt_app {ss ts : List Sl} {i : Nat} : gt (ss ++ ts) i = if i < ss.length then gt ss i else gt ts (i - ss.length) := by
  unfold gt
  rw [List.getD_eq_getElem?_getD, List.getElem?_append]
  split <;> rw [List.getD_eq_getElem?_getD]
theorem gt_rep {n i : Nat} : gt (List.replicate n .un) i = .un := by
  unfold gt
  rw [List.getD_eq_getElem?_getD, List.getElem?_replicate]
  split <;> rfl
theorem gt_some {ss : List Sl} {i : Nat} {s : Sl} (h : ss[i]? = some s) : gt ss i = s := by
  unfold gt
  rw [List.getD_eq_getElem?_getD, h]
  rfl
theorem gt_get {ss : List Sl} {i : Nat} (h : i < ss.length) : ss[i]? = some (gt ss i) := by
  unfold gt
  rw [List.getD_eq_getElem?_getD, List.getElem?_eq_getElem h]
  rfl
section
variable {P : Program} {w : World} {K : PySem.W.Frag} {H : Hp}
theorem start_ok {N : List Str} {vs : List V} {ss : List Sl} (hn : ss.length ≤ N.length) (a : ArgOk P w K H vs ss) :
    Ok P w K H (L2.start N vs) (ss ++ List.replicate (N.length - ss.length) .un) ∧ (∀ i b, OwI (L2.start N vs) (ss ++ List.replicate (N.length - ss.length) .un) i b → i < ss.length ∧ ∃ o, ss[i]? = some (.own o) ∧ vs[i]? = some (.ref b)) := by
  have hσ : ∀ i v, i < ss.length → ((L2.start N vs)[i]? = some (some v) ↔ vs[i]? = some v) := fun i v hi => by
    unfold L2.start
    rw [List.getElem?_append_left (by rw [List.length_map, a.len]; exact hi), List.getElem?_map]
    cases vs[i]? <;> simp
  have hg : ∀ i, gt (ss ++ List.replicate (N.length - ss.length) Sl.un) i ≠ .un → i < ss.length ∧ gt (ss ++ List.replicate (N.length - ss.length) Sl.un) i = gt ss i := fun i z => by
    rw [gt_app] at z ⊢
    split at z
    · rename_i c; exact ⟨c, if_pos c⟩
    · rw [gt_rep] at z; exact absurd rfl z
  have ow : ∀ i b, OwI (L2.start N vs) (ss ++ List.replicate (N.length - ss.length) .un) i b → i < ss.length ∧ ∃ o, ss[i]? = some (.own o) ∧ vs[i]? = some (.ref b) := fun i b ⟨⟨o, e⟩, z⟩ => by
    obtain ⟨c, e2⟩ := hg i (fun q => by rw [e] at q; cases q)
    exact ⟨c, o, by rw [gt_get c, ← e2, e], (hσ i _ c).mp z⟩
  refine ⟨⟨fun i z => ?_, fun i j b h1 h2 => ?_, ?_⟩, ow⟩
  · obtain ⟨c, e⟩ := hg i z
    rw [e]
    have hv : i < vs.length := by rw [a.len]; exact c
    exact ⟨vs[i], (hσ i _ c).mpr (List.getElem?_eq_getElem hv), (a.rep i _ _ (List.getElem?_eq_getElem hv) (gt_get c)).2⟩
  · obtain ⟨_, o1, e1, z1⟩ := ow i b h1
    obtain ⟨_, o2, e2, z2⟩ := ow j b h2
    exact a.sep i j b o1 o2 e1 e2 z1 z2
  · unfold L2.start
    simp only [List.length_append, List.length_replicate, List.length_map, a.len]
theorem aft_of {N : List Str} {vs : List V} {ss : List Sl} {np : Nat} (hnp : ss.length = np) (hn : ss.length ≤ N.length) (a : ArgOk P w K H vs ss) {σ' : L2.St} {ρ' : Rho} {H' : Hp} {v : V} {s : Sl}
    (b : SPst P w K np (L2.start N vs) (ss ++ List.replicate (N.length - ss.length) .un) H σ' ρ' H') (hu : (ρ'.take np).all (fun s => !isUn s) = true) (r : RetOk P w K np (L2.start N vs) (ss ++ List.replicate (N.length - ss.length) .un) H σ' ρ' H' v s) : Aft P w K H vs ss H' v s (ρ'.take np) := by
  obtain ⟨k0, ow⟩ := start_ok hn a
  have hl : ρ'.length = N.length := by rw [b.len]; simp; omega
  have ht : ∀ i, i < np → (ρ'.take np)[i]? = some (gt ρ' i) := fun i hi => by
    rw [List.getElem?_take_of_lt hi, gt_get (by omega)]
  refine ⟨fun x u e n => b.fr x u e fun ⟨i, z⟩ => ?_, b.trk, by rw [List.length_take]; omega, fun i v2 s2 h1 h2 => ?_, fun i o h => ?_, r.rep, fun o x e1 e2 => ?_⟩
  · obtain ⟨_, o, e1, e2⟩ := ow i x z
    exact n ⟨i, o, e1, e2⟩
  · have hi : i < np := by rw [← hnp, ← a.len]; exact get_lt h1
    rw [ht i hi] at h2
    cases h2
    have hne : gt ρ' i ≠ .un := fun z => by
      have := List.all_eq_true.mp hu _ (List.mem_of_getElem? (ht i hi))
      rw [z] at this
      cases this
    obtain ⟨v3, e3, r3⟩ := b.ok.rep i hne
    rw [b.par i hi] at e3
    have e4 : (L2.start N vs)[i]? = some (some v2) := by
      unfold L2.start
      rw [List.getElem?_append_left (by rw [List.length_map, a.len]; omega), List.getElem?_map, h1]
      rfl
    rw [e4] at e3
    cases e3
    exact ⟨hne, r3⟩
  · have hi : i < np := by have := get_lt h; rw [List.length_take] at this; omega
    rw [ht i hi] at h
    have h := Option.some.inj h
    obtain ⟨x, e1, _⟩ := b.ok.at h
    rcases b.own i x ⟨⟨o, h⟩, e1⟩ with ⟨_, z⟩ | ⟨z, _⟩
    · obtain ⟨_, o2, e2, _⟩ := ow i x z
      exact ⟨o2, e2⟩
    · omega
  · rcases (r.own o x e1 e2).2 with ⟨j, hj, z⟩ | z
    · obtain ⟨h, _⟩ := ow j x z
      omega
    · exact z
end
section
variable {P : Program} {w : World} {K : PySem.W.Frag} {mg : Str → Option Value} {base : Heap} {gis : List (Str × Int)} {gfs : List (Str × Nat × Nat)} {tbl : List CF} {m : Nat}
theorem def_ok {n : Nat} (hd : ∀ x j np, gfs.lookup x = some (j, np) → DefGd K mg gis gfs tbl x j np) (hb : ∀ x ∈ blts, mg x = none) (hi : ∀ x i, gis.lookup x = some i → ∃ t, mg x = some (.int i t)) (ih : ∀ x j np, gfs.lookup x = some (j, np) → FG P w K mg base n x np (evF tbl m n j))
    {x qual : Str} {params : Arguments} {body : List Stmt} {scope : Scope} {kws : List (Str × V)} {f : Addr} {fd : FuncData} {ps N : List Str} {c : CS} {np j : Nat} (F : FunD K x qual params body scope [] kws f fd) (S : FnScope N ps scope) (hl : ps.length = np)
    (ht : tbl[j]? = some ⟨np, N.length, c⟩) (hs : SSs ⟨N, scope, none, true, gis, gfs⟩ np body c) : FnOk P w K mg base CX0 (n + 1) f fd ps (spF P w K np (evF tbl m (n + 1) j)) := by
    refine F.ok S (fun vs H Q E ⟨ss, r, e1, _, a, _⟩ => by rw [a.len, e1, hl]) (fun cdv A outer s H vs Q E hr hsp => ?_)
    have g : Gd (cxOf CX0 P w K mg base N qual scope f cdv A outer s H E) ⟨N, scope, none, true, gis, gfs⟩ (evF tbl m n) :=
      { calm := rfl, eN := rfl, nd := S.nd, sc := rfl, fn := fun _ => rfl, un := by have := hr.un; show (A.deeper _).units + 110 < cLine; omega, po := fun _ => passes_of rfl, kd := S.kind, blt := hb, gis := hi,
        gfs := fun x' j' np' h' hdb => ⟨n, hr, ⟨let ⟨a, fd', ps', q1, q2, q3, q4⟩ := (ih x' j' np' h').ex; ⟨CX0, a, fd', ps', q1, q2, q3, q4, fun _ _ _ _ _ _ z => z⟩, hdb⟩,
          fun ss r e => evF_len (let ⟨_, _, _, _, _, _, _, _, N', c', _, _, _, _, t', _⟩ := (hd x' j' np' h').ex; ⟨N'.length, c', t'⟩) e⟩ }
    refine ⟨_, hs _ _ m g rfl, ?_⟩
    obtain ⟨ss, r, e1, e2, a, q⟩ := hsp
    have hn : ss.length ≤ N.length := by
      have := congrArg List.length S.pre
      rw [List.length_take] at this
      omega
    unfold evF at e2
    rw [ht] at e2
    obtain ⟨g1, e2⟩ := Res.guard_eq_ok e2
    obtain ⟨⟨fl, ρ'⟩, e3, e2⟩ := Res.bind_eq_ok e2
    obtain ⟨g2, e2⟩ := Res.guard_eq_ok e2
    have e3 : evS (evF tbl m n) m np c (ss ++ List.replicate (N.length - np) .un) = .ok (fl, ρ') := e3
    rw [← e1] at e3
    refine ⟨_, fl, ρ', (start_ok hn a).1, by rw [e1] at e3 ⊢; exact e3, ?_⟩
    cases fl with
    | nxt =>
      cases e2
      exact fun σ' H' b => q .non H' (aft_of e1 hn a b g2 ⟨⟨fun z => (nomatch z), .non⟩, fun _ _ z => (nomatch z)⟩)
    | ret s =>
      cases e2
      exact fun v σ' H' b r => q v H' (aft_of e1 hn a b g2 r)
    | brk => cases e2
    | cnt => cases e2
theorem all_gd (hd : ∀ x j np, gfs.lookup x = some (j, np) → DefGd K mg gis gfs tbl x j np) (hb : ∀ x ∈ blts, mg x = none) (hi : ∀ x i, gis.lookup x = some i → ∃ t, mg x = some (.int i t)) :
    ∀ n x j np, gfs.lookup x = some (j, np) → FG P w K mg base n x np (evF tbl m n j)
  | 0, x, j, np, h => by
    obtain ⟨qual, params, body, scope, kws, f, fd, ps, N, c, F, S, hl, hm, ht, hs, hB⟩ := (hd x j np h).ex
    refine ⟨f, fd, ps, hm, F.kp, ⟨fun vs H Q E ⟨ss, r, _, e, _⟩ => ?_, fun A outer s H args us vs Q E _ _ _ _ ⟨ss, r, _, e, _⟩ => ?_⟩, hB⟩
    · cases e
    · cases e
  | n + 1, x, j, np, h => by
    obtain ⟨qual, params, body, scope, kws, f, fd, ps, N, c, F, S, hl, hm, ht, hs, hB⟩ := (hd x j np h).ex
    exact ⟨f, fd, ps, hm, F.kp, def_ok hd hb hi (all_gd hd hb hi n) F S hl ht hs, hB⟩
/-- the defs, one after another -/
def AllD (K : PySem.W.Frag) (mg : Str → Option Value) (gis : List (Str × Int)) (gfs : List (Str × Nat × Nat)) (tbl : List CF) : List (Str × Nat × Nat) → Prop
  | [] => True
  | q :: r => DefGd K mg gis gfs tbl q.1 q.2.1 q.2.2 ∧ AllD K mg gis gfs tbl r
theorem allD_lookup : ∀ {l : List (Str × Nat × Nat)}, AllD K mg gis gfs tbl l → ∀ x j np, l.lookup x = some (j, np) → DefGd K mg gis gfs tbl x j np
  | [], _, x, j, np, h => by cases h
  | (y, q) :: r, a, x, j, np, h => by
    rw [List.lookup_cons] at h
    by_cases e : x == y
    · rw [e] at h
      cases h
      rw [eq_of_beq e]
      exact a.1
    · rw [show (x == y) = false by simpa using e] at h
      exact allD_lookup a.2 x j np h
theorem body_ok {C : Ct} {np n : Nat} {body : List Stmt} {c : CS} (h : (cBody C np n body).map (·.1) = some c) : SSs C np body c := by
  cases q : cBody C np n body with
  | none => rw [q] at h; cases h
  | some z => rw [q] at h; cases h; exact z.2
def AllI (mg : Str → Option Value) : List (Str × Int) → Prop
  | [] => True
  | q :: r => (∃ t, mg q.1 = some (.int q.2 t)) ∧ AllI mg r
theorem allI_lookup {mg : Str → Option Value} : ∀ {l : List (Str × Int)}, AllI mg l → ∀ x i, l.lookup x = some i → ∃ t, mg x = some (.int i t)
  | [], _, x, i, h => by cases h
  | (y, q) :: r, a, x, i, h => by
    rw [List.lookup_cons] at h
    by_cases e : x == y
    · rw [e] at h
      cases h
      rw [eq_of_beq e]
      exact a.1
    · rw [show (x == y) = false by simpa using e] at h
      exact allI_lookup a.2 x i h
/-- the law's answer -/
theorem law_sp {f : List Sl → Res (Sl × List Sl)} (h : ∀ ns : List Int, ns.length ≤ 63 → ∃ r, f [.shr (.list (ns.map .int))] = .ok (.shr (.bool true), r)) {H : Hp} {a : Addr} {ns : List Int} (hl : ns.length ≤ 63) (ho : Only H) (hS : SqL K H a (ns.map V.int)) :
    spF P w K 1 f [.ref a] H (fun v _ => v = .bl true) (fun _ _ _ => False) := by
  obtain ⟨r, e⟩ := h ns hl
  have hF : SqF K H a (ns.map V.int) := by
    rcases hS with (q | ⟨o, q⟩) | q
    · rcases ho a with z | ⟨o, xs, z⟩
      · rw [z] at q; cases q
      · rw [z] at q; cases q
    · exact .inl ⟨o, q⟩
    · exact .inr q
  have hr : ∀ ns : List Int, RpAll P w K H (ns.map V.int) (ns.map PyData.int) := fun ns => by
    induction ns with
    | nil => exact .nil
    | cons n ns ih => exact .cons (.int n) ih
  refine ⟨[.shr (.list (ns.map .int))], _, rfl, e, ⟨rfl, fun i v s h1 h2 => ?_, fun i j b o o' h1 _ _ _ => ?_⟩, fun v H' q => ?_⟩
  · cases i with
    | zero => cases h1; cases h2; exact ⟨fun z => (nomatch z), .lst hF (hr ns)⟩
    | succ i => simp at h1
  · cases i with
    | zero => cases h1
    | succ i => simp at h1
  · have := q.res.2
    cases this
    rfl
end
end Rt
set_option maxRecDepth 100000
set_option maxHeartbeats 0
namespace Lw
open PySem PySem.Spec PyProof.Rows L2 Rt
/-! ### the defs of the row -/
def topS (i : Nat) : Stmt := PySem.Challenge.pw_roletalks_k07_whole_bad_says.main.body.getD i (.Pass ⟨0, 0, 0, 0⟩)
def dOf (x : Str) (i : Nat) : He.DefD := ⟨(x, none), x, x, defArgs (topS i), defBody (topS i), defScope (topS i), [], []⟩
def fnL : List He.DefD := [dOf "is_integer" 1, dOf "is_in" 2, dOf "is_list" 3, dOf "is_branch" 12, dOf "is_scene" 13, dOf "need_script" 14, dOf "need_actor" 15, dOf "event_of" 17, dOf "joined_in" 18, dOf "steps_in" 19, dOf "sets_in" 20, dOf "origins" 22, dOf "has_event" 23, dOf "bad_says" 24, dOf "_law_taken" 26, dOf "_law_alike" 27, dOf "_law_scene" 28, dOf "_law_script" 29, dOf "_law_event" 30, dOf "_law_branches" 31, dOf "_law_joined" 32, dOf "_law_steps" 33, dOf "_law_cut" 34, dOf "law" 35]
def faL : List He.Fa := [.glo "is_integer", .glo "is_in", .glo "is_list", .glo "is_branch", .glo "is_scene", .glo "need_script", .glo "need_actor", .glo "event_of", .glo "joined_in", .glo "steps_in", .glo "sets_in", .glo "origins", .glo "has_event", .glo "bad_says", .glo "_law_taken", .glo "_law_alike", .glo "_law_scene", .glo "_law_script", .glo "_law_event", .glo "_law_branches", .glo "_law_joined", .glo "_law_steps", .glo "_law_cut", .glo "law", .free "len", .free "sorted", .free "tuple", .free "list", .free "dict", .free "any", .free "all", .free "sum", .free "min", .free "max", .free "int", .free "str", .free "bool", .free "isinstance", .free "range", .free "enumerate", .free "zip", .free "set", .int "MOST_ACTORS" 4, .int "MOST_SCENES" 8, .int "MOST_WORDS" 6]
def looseL : List PySem.Str := (["is_integer", "is_in", "is_list", "is_branch", "is_scene", "need_script", "need_actor", "event_of", "joined_in", "steps_in", "sets_in", "origins", "has_event", "bad_says", "_law_taken", "_law_alike", "_law_scene", "_law_script", "_law_event", "_law_branches", "_law_joined", "_law_steps", "_law_cut", "TalkError", "BadScript", "BadActor", "MOST_ACTORS", "MOST_SCENES", "MOST_WORDS"] : List PySem.Str)
abbrev R : PySem.W.OpenRow := PySem.W.OpenLaw.row PySem.Challenge.rw_roletalks_k07_whole_bad_says
abbrev hkL : PySem.W.Hook := He.hookD 4 faL fnL
def obL (s : PySem.W.SharedT) : He.AlD := He.obsDG 4 faL fnL (HandSHeadRun.getT s)
theorem ob_eqL (s : PySem.W.SharedT) : obL s = hkL.obs s.abs := He.obsDG_eq (HandSHeadRun.getT_eq s)
theorem runL (w : World) : HandSHeadRun.RunEq R (PySem.W.view R.prog [35]) hkL obL 4000 looseL w := by
  intro os
  kernel_rfl
def gis : List (Str × Int) := [("MOST_ACTORS", 4), ("MOST_SCENES", 8), ("MOST_WORDS", 6)]
def gfs : List (Str × Nat × Nat) := [("is_integer", 0, 1), ("is_in", 1, 3), ("is_list", 2, 3), ("is_branch", 3, 4), ("is_scene", 4, 3), ("need_script", 5, 1), ("need_actor", 6, 2), ("event_of", 7, 4), ("joined_in", 8, 3), ("steps_in", 9, 3), ("sets_in", 10, 2), ("origins", 11, 4), ("has_event", 12, 4), ("bad_says", 13, 2), ("_law_taken", 14, 2), ("_law_alike", 15, 2), ("_law_scene", 16, 5), ("_law_script", 17, 4), ("_law_event", 18, 4), ("_law_branches", 19, 2), ("_law_joined", 20, 3), ("_law_steps", 21, 3), ("_law_cut", 22, 2), ("law", 23, 1)]
/-- is_integer -/
def c0 : CS := .seq (.ret (.and (.isi [.int] (.var 0)) (.not (.isi [.bool] (.var 0))))) (.skip)
def n0 : List Str := ["value"]
/-- is_in -/
def c1 : CS := .seq (.ret (.and (.call 0 (.cons false (.var 0) (.nil))) (.chn .le .le (.var 1) (.var 0) (.var 2)))) (.skip)
def n1 : List Str := ["value", "least", "most"]
/-- is_list -/
def c2 : CS := .seq (.ret (.and (.isi [.tuple] (.var 0)) (.chn .le .le (.var 1) (.bi .len (.cons false (.var 0) (.nil))) (.var 2)))) (.skip)
def n2 : List Str := ["value", "least", "most"]
/-- is_branch -/
def c3 : CS := .seq (.ife (.or (.not (.call 2 (.cons false (.var 0) (.cons false (.cst (.int 3)) (.cons false (.cst (.int 3)) (.nil)))))) (.or (.not (.call 1 (.cons false (.idx (.var 0) (.cst (.int 0))) (.cons false (.cst (.int 0)) (.cons false (.bin .sub (.var 1) (.cst (.int 1))) (.nil)))))) (.cmp .eq (.idx (.var 0) (.cst (.int 0))) (.var 2)))) (.seq (.ret (.cst (.bool false))) (.skip)) (.skip)) (.seq (.ret (.and (.call 1 (.cons false (.idx (.var 0) (.cst (.int 1))) (.cons false (.cst (.int 0)) (.cons false (.bin .sub (.cst (.int 6)) (.cst (.int 1))) (.nil))))) (.call 1 (.cons false (.idx (.var 0) (.cst (.int 2))) (.cons false (.cst (.int 0)) (.cons false (.bin .sub (.var 3) (.cst (.int 1))) (.nil))))))) (.skip))
def n3 : List Str := ["branch", "actors", "speaker", "scenes"]
/-- is_scene -/
def c4 : CS := .seq (.ife (.isN (.var 0)) (.seq (.ret (.cst (.bool true))) (.skip)) (.skip)) (.seq (.ife (.or (.not (.call 2 (.cons false (.var 0) (.cons false (.cst (.int 2)) (.cons false (.cst (.int 2)) (.nil)))))) (.or (.not (.call 1 (.cons false (.idx (.var 0) (.cst (.int 0))) (.cons false (.cst (.int 0)) (.cons false (.bin .sub (.var 1) (.cst (.int 1))) (.nil)))))) (.not (.isi [.tuple] (.idx (.var 0) (.cst (.int 1))))))) (.seq (.ret (.cst (.bool false))) (.skip)) (.skip)) (.seq (.ife (.or (.cmp .eq (.idx (.var 0) (.cst (.int 1))) (.tup (.nil))) (.not (.bi .all (.cons false (.lc [3] (.v 3) (.ex (.idx (.var 0) (.cst (.int 1)))) (.nil) (.call 3 (.cons false (.var 3) (.cons false (.var 1) (.cons false (.idx (.var 0) (.cst (.int 0))) (.cons false (.var 2) (.nil))))))) (.nil))))) (.seq (.ret (.cst (.bool false))) (.skip)) (.skip)) (.seq (.asg (.v 4) (.lc [3] (.v 3) (.ex (.idx (.var 0) (.cst (.int 1)))) (.nil) (.slc (.var 3) (.nil) (.cst (.int 2))))) (.seq (.ret (.cmp .eq (.var 4) (.bi .sset (.cons false (.var 4) (.nil))))) (.skip)))))
def n4 : List Str := ["scene", "actors", "scenes", "branch", "heads"]
/-- need_script -/
def c5 : CS := .seq (.ife (.or (.not (.call 2 (.cons false (.var 0) (.cons false (.cst (.int 2)) (.cons false (.cst (.int 2)) (.nil)))))) (.not (.call 1 (.cons false (.idx (.var 0) (.cst (.int 0))) (.cons false (.cst (.int 2)) (.cons false (.cst (.int 4)) (.nil))))))) (.seq (.raise 0 .nil) (.skip)) (.skip)) (.seq (.ife (.not (.call 2 (.cons false (.idx (.var 0) (.cst (.int 1))) (.cons false (.cst (.int 1)) (.cons false (.cst (.int 8)) (.nil)))))) (.seq (.raise 0 .nil) (.skip)) (.skip)) (.seq (.for_ (.cons (.v 1) (.cons (.v 2) (.nil))) (.enu (.idx (.var 0) (.cst (.int 1)))) (.seq (.ife (.not (.call 4 (.cons false (.var 2) (.cons false (.idx (.var 0) (.cst (.int 0))) (.cons false (.bi .len (.cons false (.idx (.var 0) (.cst (.int 1))) (.nil))) (.nil)))))) (.seq (.raise 0 .nil) (.skip)) (.skip)) (.skip))) (.skip)))
def n5 : List Str := ["script", "index", "scene"]
/-- need_actor -/
def c6 : CS := .seq (.ife (.not (.call 1 (.cons false (.var 1) (.cons false (.cst (.int 0)) (.cons false (.bin .sub (.idx (.var 0) (.cst (.int 0))) (.cst (.int 1))) (.nil)))))) (.seq (.raise 0 .nil) (.skip)) (.skip)) (.skip)
def n6 : List Str := ["script", "actor"]
/-- event_of -/
def c7 : CS := .seq (.asg (.v 4) (.idx (.idx (.idx (.var 0) (.cst (.int 1))) (.var 1)) (.cst (.int 0)))) (.seq (.ife (.cmp .eq (.var 3) (.var 4)) (.seq (.ret (.tup (.cons false (.cst (.str "say")) (.cons false (.idx (.var 2) (.cst (.int 0))) (.cons false (.idx (.var 2) (.cst (.int 1))) (.nil)))))) (.skip)) (.skip)) (.seq (.ife (.cmp .eq (.var 3) (.idx (.var 2) (.cst (.int 0)))) (.seq (.ret (.tup (.cons false (.cst (.str "hear")) (.cons false (.var 4) (.cons false (.idx (.var 2) (.cst (.int 1))) (.nil)))))) (.skip)) (.skip)) (.seq (.ret (.cst .none)) (.skip))))
def n7 : List Str := ["script", "scene", "branch", "actor", "speaker"]
/-- joined_in -/
def c8 : CS := .seq (.par [3, 4] (.cons false (.bi .list (.cons false (.var 1) (.nil))) (.cons false (.cst (.int 0)) (.nil)))) (.seq (.whl (.cmp .lt (.var 4) (.bi .len (.cons false (.var 3) (.nil)))) (.seq (.asg (.v 5) (.idx (.idx (.var 0) (.cst (.int 1))) (.idx (.var 3) (.var 4)))) (.seq (.for_ (.v 6) (.ex (.ife (.notN (.var 5)) (.idx (.var 5) (.cst (.int 1))) (.tup (.nil)))) (.seq (.ife (.and (.isN (.call 7 (.cons false (.var 0) (.cons false (.idx (.var 3) (.var 4)) (.cons false (.var 6) (.cons false (.var 2) (.nil))))))) (.cmp .nin (.idx (.var 6) (.cst (.int 2))) (.var 3))) (.seq (.exp (.mut .append 3 (.cons false (.idx (.var 6) (.cst (.int 2))) (.nil)))) (.skip)) (.skip)) (.skip))) (.seq (.aug 4 .add (.cst (.int 1))) (.skip))))) (.seq (.ret (.bi .tuple (.cons false (.bi .sset (.cons false (.var 3) (.nil))) (.nil)))) (.skip)))
def n8 : List Str := ["script", "scenes", "actor", "found", "at", "told", "branch"]
/-- steps_in -/
def c9 : CS := .seq (.asg (.v 3) (.dct (.nil))) (.seq (.for_ (.v 4) (.ex (.var 1)) (.seq (.ife (.notN (.idx (.idx (.var 0) (.cst (.int 1))) (.var 4))) (.seq (.for_ (.v 5) (.ex (.idx (.idx (.idx (.var 0) (.cst (.int 1))) (.var 4)) (.cst (.int 1)))) (.seq (.asg (.v 6) (.call 7 (.cons false (.var 0) (.cons false (.var 4) (.cons false (.var 5) (.cons false (.var 2) (.nil))))))) (.seq (.ife (.notN (.var 6)) (.seq (.put 3 (.var 6) (.bin .add (.dget (.var 3) (.cons false (.var 6) (.cons false (.lst (.nil)) (.nil)))) (.lst (.cons false (.idx (.var 5) (.cst (.int 2))) (.nil))))) (.skip)) (.skip)) (.skip)))) (.skip)) (.skip)) (.skip))) (.seq (.ret (.var 3)) (.skip)))
def n9 : List Str := ["script", "scenes", "actor", "found", "scene", "branch", "event"]
/-- sets_in -/
def c10 : CS := .seq (.par [2, 3] (.cons false (.lst (.cons false (.call 8 (.cons false (.var 0) (.cons false (.lst (.cons false (.cst (.int 0)) (.nil))) (.cons false (.var 1) (.nil))))) (.nil))) (.cons false (.lst (.nil)) (.nil)))) (.seq (.whl (.cmp .lt (.bi .len (.cons false (.var 3) (.nil))) (.bi .len (.cons false (.var 2) (.nil)))) (.seq (.asg (.v 4) (.dct (.nil))) (.seq (.for_ (.cons (.v 5) (.cons (.v 6) (.nil))) (.ex (.bi .sitems (.cons false (.call 9 (.cons false (.var 0) (.cons false (.idx (.var 2) (.bi .len (.cons false (.var 3) (.nil)))) (.cons false (.var 1) (.nil))))) (.nil)))) (.seq (.asg (.v 7) (.call 8 (.cons false (.var 0) (.cons false (.var 6) (.cons false (.var 1) (.nil)))))) (.seq (.ife (.cmp .nin (.var 7) (.var 2)) (.seq (.exp (.mut .append 2 (.cons false (.var 7) (.nil)))) (.skip)) (.skip)) (.seq (.put 4 (.var 5) (.met .index (.var 2) (.cons false (.var 7) (.nil)))) (.skip))))) (.seq (.exp (.mut .append 3 (.cons false (.var 4) (.nil)))) (.skip))))) (.seq (.ret (.tup (.cons false (.var 2) (.cons false (.var 3) (.nil))))) (.skip)))
def n10 : List Str := ["script", "actor", "sets", "steps", "told", "event", "behind", "there"]
/-- origins -/
def c11 : CS := .seq (.asg (.v 4) (.lst (.nil))) (.seq (.for_ (.v 5) (.ex (.var 1)) (.seq (.ife (.bi .any (.cons false (.lc [6] (.v 6) (.ex (.call 8 (.cons false (.var 0) (.cons false (.lst (.cons false (.var 5) (.nil))) (.cons false (.var 2) (.nil)))))) (.nil) (.call 12 (.cons false (.var 0) (.cons false (.var 6) (.cons false (.var 2) (.cons false (.var 3) (.nil))))))) (.nil))) (.seq (.exp (.mut .append 4 (.cons false (.var 5) (.nil)))) (.skip)) (.skip)) (.skip))) (.seq (.ret (.var 4)) (.skip)))
def n11 : List Str := ["script", "scenes", "actor", "event", "found", "scene", "here"]
/-- has_event -/
def c12 : CS := .seq (.ife (.isN (.idx (.idx (.var 0) (.cst (.int 1))) (.var 1))) (.seq (.ret (.cst (.bool false))) (.skip)) (.skip)) (.seq (.ret (.bi .any (.cons false (.lc [4] (.v 4) (.ex (.idx (.idx (.idx (.var 0) (.cst (.int 1))) (.var 1)) (.cst (.int 1)))) (.nil) (.cmp .eq (.call 7 (.cons false (.var 0) (.cons false (.var 1) (.cons false (.var 4) (.cons false (.var 2) (.nil)))))) (.var 3))) (.nil)))) (.skip))
def n12 : List Str := ["script", "scene", "actor", "event", "branch"]
/-- bad_says -/
def c13 : CS := .seq (.exp (.call 5 (.cons false (.var 0) (.nil)))) (.seq (.exp (.call 6 (.cons false (.var 0) (.cons false (.var 1) (.nil))))) (.seq (.asg (.cons (.v 2) (.cons (.v 3) (.nil))) (.call 10 (.cons false (.var 0) (.cons false (.var 1) (.nil))))) (.seq (.asg (.v 4) (.lst (.nil))) (.seq (.for_ (.cons (.v 5) (.cons (.v 6) (.nil))) (.enu (.var 2)) (.seq (.for_ (.v 7) (.ex (.idx (.var 3) (.var 5))) (.seq (.ife (.and (.cmp .eq (.idx (.var 7) (.cst (.int 0))) (.cst (.str "say"))) (.cmp .lt (.bi .len (.cons false (.call 11 (.cons false (.var 0) (.cons false (.var 6) (.cons false (.var 1) (.cons false (.var 7) (.nil)))))) (.nil))) (.bi .len (.cons false (.var 6) (.nil))))) (.seq (.exp (.mut .append 4 (.cons false (.tup (.cons false (.var 5) (.cons false (.idx (.var 7) (.cst (.int 1))) (.cons false (.idx (.var 7) (.cst (.int 2))) (.nil))))) (.nil)))) (.skip)) (.skip)) (.skip))) (.skip))) (.seq (.ret (.bi .tuple (.cons false (.bi .sorted (.cons false (.var 4) (.nil))) (.nil)))) (.skip))))))
def n13 : List Str := ["script", "actor", "sets", "steps", "found", "at", "scenes", "event"]
/-- _law_taken -/
def c14 : CS := .seq (.ife (.cmp .gt (.idx (.var 0) (.cst (.int 3))) (.cst (.int 0))) (.seq (.asg (.v 2) (.bin .mod (.bi .int (.cons false (.idx (.var 0) (.cst (.int 3))) (.nil))) (.var 1))) (.seq (.put 0 (.cst (.int 3)) (.bin .fdiv (.idx (.var 0) (.cst (.int 3))) (.var 1))) (.seq (.ret (.var 2)) (.skip)))) (.skip)) (.seq (.put 0 (.cst (.int 1)) (.bin .add (.idx (.var 0) (.cst (.int 1))) (.cst (.int 1)))) (.seq (.ife (.cmp .gt (.idx (.var 0) (.cst (.int 1))) (.bi .len (.cons false (.idx (.var 0) (.cst (.int 0))) (.nil)))) (.seq (.put 0 (.cst (.int 2)) (.bin .mod (.bi .int (.cons false (.bin .add (.bin .mul (.idx (.var 0) (.cst (.int 2))) (.cst (.int 48271))) (.cst (.int 11))) (.nil))) (.cst (.int 2147483647)))) (.seq (.ret (.bin .mod (.bi .int (.cons false (.bin .fdiv (.idx (.var 0) (.cst (.int 2))) (.cst (.int 7))) (.nil))) (.var 1))) (.skip))) (.skip)) (.seq (.asg (.v 3) (.idx (.idx (.var 0) (.cst (.int 0))) (.bin .sub (.idx (.var 0) (.cst (.int 1))) (.cst (.int 1))))) (.seq (.put 0 (.cst (.int 2)) (.bin .mod (.bi .int (.cons false (.bin .add (.bin .add (.bin .mul (.idx (.var 0) (.cst (.int 2))) (.cst (.int 48271))) (.var 3)) (.cst (.int 11))) (.nil))) (.cst (.int 2147483647)))) (.seq (.ife (.cmp .ge (.var 3) (.bin .pow (.cst (.int 10)) (.cst (.int 18)))) (.seq (.put 0 (.cst (.int 3)) (.bin .fdiv (.var 3) (.var 1))) (.skip)) (.skip)) (.seq (.ret (.bin .mod (.bi .int (.cons false (.var 3) (.nil))) (.var 1))) (.skip)))))))
def n14 : List Str := ["row", "many", "found", "cell"]
/-- _law_alike -/
def c15 : CS := .seq (.ife (.isi [.tuple, .list] (.var 1)) (.seq (.ife (.or (.not (.isi [.tuple, .list] (.var 0))) (.cmp .ne (.isi [.list] (.var 0)) (.isi [.list] (.var 1)))) (.seq (.ret (.cst (.bool false))) (.skip)) (.skip)) (.seq (.ife (.cmp .ne (.bi .len (.cons false (.var 0) (.nil))) (.bi .len (.cons false (.var 1) (.nil)))) (.seq (.ret (.cst (.bool false))) (.skip)) (.skip)) (.seq (.ret (.cmp .eq (.lc [2] (.v 2) (.rng1 (.bi .len (.cons false (.var 1) (.nil)))) (.not (.call 15 (.cons false (.idx (.var 0) (.var 2)) (.cons false (.idx (.var 1) (.var 2)) (.nil))))) (.var 2)) (.lst (.nil)))) (.skip)))) (.skip)) (.seq (.ife (.or (.isN (.var 1)) (.isi [.str] (.var 1))) (.seq (.ret (.and (.cmp .eq (.var 0) (.var 1)) (.cmp .eq (.isi [.str] (.var 0)) (.isi [.str] (.var 1))))) (.skip)) (.skip)) (.seq (.ret (.and (.isi [.int] (.var 0)) (.and (.cmp .eq (.isi [.bool] (.var 0)) (.isi [.bool] (.var 1))) (.cmp .eq (.var 0) (.var 1))))) (.skip)))
def n15 : List Str := ["found", "due", "k"]
/-- _law_scene -/
def c16 : CS := .seq (.par [5, 6] (.cons false (.call 14 (.cons false (.var 0) (.cons false (.var 1) (.nil)))) (.cons false (.dct (.nil)) (.nil)))) (.seq (.for_ (.v 7) (.rng1 (.bin .add (.cst (.int 1)) (.call 14 (.cons false (.var 0) (.cons false (.cst (.int 2)) (.nil)))))) (.seq (.asg (.v 8) (.bin .mod (.bi .int (.cons false (.bin .add (.bin .add (.var 5) (.cst (.int 1))) (.call 14 (.cons false (.var 0) (.cons false (.bin .sub (.var 1) (.cst (.int 1))) (.nil))))) (.nil))) (.var 1))) (.seq (.asg (.v 9) (.ife (.var 4) (.call 14 (.cons false (.var 0) (.cons false (.bin .add (.var 3) (.cst (.int 1))) (.nil)))) (.bin .add (.bin .add (.var 2) (.cst (.int 1))) (.call 14 (.cons false (.var 0) (.cons false (.bin .sub (.var 3) (.var 2)) (.nil))))))) (.seq (.put 6 (.tup (.cons false (.var 8) (.cons false (.call 14 (.cons false (.var 0) (.cons false (.cst (.int 2)) (.nil)))) (.nil)))) (.var 9)) (.skip))))) (.seq (.ret (.tup (.cons false (.var 5) (.cons false (.bi .tuple (.cons false (.bi .sorted (.cons false (.lc [10] (.v 10) (.ex (.bi .list (.cons false (.var 6) (.nil)))) (.nil) (.bin .add (.var 10) (.tup (.cons false (.idx (.var 6) (.var 10)) (.nil))))) (.nil))) (.nil))) (.nil))))) (.skip)))
def n16 : List Str := ["row", "actors", "at", "size", "loops", "speaker", "heads", "turn", "hearer", "spot", "head"]
/-- _law_script -/
def c17 : CS := .seq (.asg (.v 4) (.bin .add (.cst (.int 1)) (.call 14 (.cons false (.var 0) (.cons false (.var 2) (.nil)))))) (.seq (.ret (.tup (.cons false (.var 1) (.cons false (.bin .add (.bi .tuple (.cons false (.lc [5] (.v 5) (.rng1 (.var 4)) (.nil) (.call 16 (.cons false (.var 0) (.cons false (.var 1) (.cons false (.var 5) (.cons false (.var 4) (.cons false (.var 3) (.nil)))))))) (.nil))) (.tup (.cons false (.cst .none) (.nil)))) (.nil))))) (.skip))
def n17 : List Str := ["row", "actors", "most", "loops", "size", "at"]
/-- _law_event -/
def c18 : CS := .seq (.asg (.v 4) (.idx (.idx (.idx (.var 0) (.cst (.int 1))) (.var 1)) (.cst (.int 0)))) (.seq (.ife (.cmp .eq (.var 3) (.var 4)) (.seq (.ret (.tup (.cons false (.cst (.str "say")) (.cons false (.idx (.var 2) (.cst (.int 0))) (.cons false (.idx (.var 2) (.cst (.int 1))) (.nil)))))) (.skip)) (.skip)) (.seq (.ret (.ife (.cmp .eq (.var 3) (.idx (.var 2) (.cst (.int 0)))) (.tup (.cons false (.cst (.str "hear")) (.cons false (.var 4) (.cons false (.idx (.var 2) (.cst (.int 1))) (.nil))))) (.cst .none))) (.skip)))
def n18 : List Str := ["script", "scene", "branch", "actor", "speaker"]
/-- _law_branches -/
def c19 : CS := .seq (.ret (.ife (.notN (.idx (.idx (.var 0) (.cst (.int 1))) (.var 1))) (.idx (.idx (.idx (.var 0) (.cst (.int 1))) (.var 1)) (.cst (.int 1))) (.tup (.nil)))) (.skip)
def n19 : List Str := ["script", "scene"]
/-- _law_joined -/
def c20 : CS := .seq (.par [3, 4, 5] (.cons false (.bi .dict (.cons false (.lc [6] (.v 6) (.ex (.var 1)) (.nil) (.tup (.cons false (.var 6) (.cons false (.cst (.bool true)) (.nil))))) (.nil))) (.cons false (.bi .list (.cons false (.var 1) (.nil))) (.cons false (.cst (.int 0)) (.nil))))) (.seq (.whl (.and (.cmp .ne (.var 4) (.lst (.nil))) (.cmp .lt (.var 5) (.cst (.int 10)))) (.seq (.par [5, 7] (.cons false (.bin .add (.var 5) (.cst (.int 1))) (.cons false (.lst (.nil)) (.nil)))) (.seq (.for_ (.v 8) (.ex (.var 4)) (.seq (.for_ (.v 9) (.ex (.call 19 (.cons false (.var 0) (.cons false (.var 8) (.nil))))) (.seq (.ife (.and (.isN (.call 18 (.cons false (.var 0) (.cons false (.var 8) (.cons false (.var 9) (.cons false (.var 2) (.nil))))))) (.cmp .nin (.idx (.var 9) (.cst (.int 2))) (.var 3))) (.seq (.put 3 (.idx (.var 9) (.cst (.int 2))) (.cst (.bool true))) (.seq (.exp (.mut .append 7 (.cons false (.idx (.var 9) (.cst (.int 2))) (.nil)))) (.skip))) (.skip)) (.skip))) (.skip))) (.seq (.asg (.v 4) (.var 7)) (.skip))))) (.seq (.ret (.bi .tuple (.cons false (.bi .sorted (.cons false (.bi .list (.cons false (.var 3) (.nil))) (.nil))) (.nil)))) (.skip)))
def n20 : List Str := ["script", "scenes", "actor", "known", "last", "count", "scene", "fresh", "here", "branch"]
/-- _law_steps -/
def c21 : CS := .seq (.asg (.v 3) (.dct (.nil))) (.seq (.for_ (.v 4) (.ex (.var 1)) (.seq (.for_ (.v 5) (.ex (.call 19 (.cons false (.var 0) (.cons false (.var 4) (.nil))))) (.seq (.asg (.v 6) (.call 18 (.cons false (.var 0) (.cons false (.var 4) (.cons false (.var 5) (.cons false (.var 2) (.nil))))))) (.seq (.ife (.notN (.var 6)) (.seq (.put 3 (.var 6) (.bin .add (.dget (.var 3) (.cons false (.var 6) (.cons false (.lst (.nil)) (.nil)))) (.lst (.cons false (.idx (.var 5) (.cst (.int 2))) (.nil))))) (.skip)) (.skip)) (.skip)))) (.skip))) (.seq (.ret (.lc [6] (.v 6) (.ex (.bi .sorted (.cons false (.bi .list (.cons false (.var 3) (.nil))) (.nil)))) (.nil) (.tup (.cons false (.var 6) (.cons false (.call 20 (.cons false (.var 0) (.cons false (.idx (.var 3) (.var 6)) (.cons false (.var 2) (.nil))))) (.nil)))))) (.skip)))
def n21 : List Str := ["script", "scenes", "actor", "after", "scene", "branch", "event"]
/-- _law_cut -/
def c22 : CS := .seq (.par [2, 3, 4] (.cons false (.lst (.cons false (.call 20 (.cons false (.var 0) (.cons false (.lst (.cons false (.cst (.int 0)) (.nil))) (.cons false (.var 1) (.nil))))) (.nil))) (.cons false (.lst (.nil)) (.cons false (.cst (.int 0)) (.nil))))) (.seq (.whl (.and (.cmp .lt (.bi .len (.cons false (.var 3) (.nil))) (.bi .len (.cons false (.var 2) (.nil)))) (.cmp .lt (.var 4) (.cst (.int 70)))) (.seq (.par [4, 5] (.cons false (.bin .add (.var 4) (.cst (.int 1))) (.cons false (.lst (.nil)) (.nil)))) (.seq (.asg (.v 6) (.call 21 (.cons false (.var 0) (.cons false (.idx (.var 2) (.bi .len (.cons false (.var 3) (.nil)))) (.cons false (.var 1) (.nil)))))) (.seq (.for_ (.cons (.v 7) (.cons (.v 8) (.nil))) (.ex (.var 6)) (.seq (.ife (.cmp .nin (.var 8) (.var 2)) (.seq (.exp (.mut .append 2 (.cons false (.var 8) (.nil)))) (.skip)) (.skip)) (.seq (.exp (.mut .append 5 (.cons false (.bin .add (.var 7) (.tup (.cons false (.met .index (.var 2) (.cons false (.var 8) (.nil))) (.nil)))) (.nil)))) (.skip)))) (.seq (.asg (.v 9) (.lc [10] (.v 10) (.ex (.idx (.var 2) (.bi .len (.cons false (.var 3) (.nil))))) (.isN (.idx (.idx (.var 0) (.cst (.int 1))) (.var 10))) (.var 10))) (.seq (.exp (.mut .append 3 (.cons false (.tup (.cons false (.or (.cmp .ne (.var 9) (.lst (.nil))) (.cmp .eq (.var 5) (.lst (.nil)))) (.cons false (.bi .tuple (.cons false (.var 5) (.nil))) (.nil)))) (.nil)))) (.skip))))))) (.seq (.ret (.tup (.cons false (.var 2) (.cons false (.bi .tuple (.cons false (.var 3) (.nil))) (.nil))))) (.skip)))
def n22 : List Str := ["script", "actor", "some", "told", "count", "line", "steps", "event", "spot", "shut", "scene"]
/-- law -/
def c23 : CS := .seq (.asg (.v 1) (.lst (.cons false (.var 0) (.cons false (.cst (.int 0)) (.cons false (.cst (.int 10107)) (.cons false (.cst (.int 0)) (.nil))))))) (.seq (.asg (.v 2) (.call 17 (.cons false (.var 1) (.cons false (.bin .add (.cst (.int 2)) (.call 14 (.cons false (.var 1) (.cons false (.cst (.int 3)) (.nil))))) (.cons false (.cst (.int 5)) (.cons false (.cmp .eq (.call 14 (.cons false (.var 1) (.cons false (.cst (.int 2)) (.nil)))) (.cst (.int 0))) (.nil))))))) (.seq (.for_ (.v 3) (.rng1 (.idx (.var 2) (.cst (.int 0)))) (.seq (.asg (.cons (.v 4) (.cons (.v 5) (.nil))) (.call 22 (.cons false (.var 2) (.cons false (.var 3) (.nil))))) (.seq (.asg (.v 6) (.lst (.nil))) (.seq (.for_ (.v 7) (.rng1 (.bi .len (.cons false (.var 4) (.nil)))) (.seq (.for_ (.v 8) (.ex (.idx (.idx (.var 5) (.var 7)) (.cst (.int 1)))) (.seq (.asg (.v 9) (.cst (.bool true))) (.seq (.for_ (.v 10) (.ex (.idx (.var 4) (.var 7))) (.seq (.asg (.v 11) (.cst (.bool false))) (.seq (.for_ (.v 12) (.ex (.call 20 (.cons false (.var 2) (.cons false (.lst (.cons false (.var 10) (.nil))) (.cons false (.var 3) (.nil)))))) (.seq (.asg (.v 11) (.or (.var 11) (.cmp .inn (.slc (.var 8) (.nil) (.cst (.int 3))) (.lc [13] (.v 13) (.ex (.call 19 (.cons false (.var 2) (.cons false (.var 12) (.nil))))) (.nil) (.call 18 (.cons false (.var 2) (.cons false (.var 12) (.cons false (.var 13) (.cons false (.var 3) (.nil)))))))))) (.skip))) (.seq (.asg (.v 9) (.and (.var 9) (.var 11))) (.skip))))) (.seq (.ife (.and (.cmp .eq (.idx (.var 8) (.cst (.int 0))) (.cst (.str "say"))) (.not (.var 9))) (.seq (.exp (.mut .append 6 (.cons false (.bin .add (.tup (.cons false (.var 7) (.nil))) (.slc (.var 8) (.cst (.int 1)) (.cst (.int 3)))) (.nil)))) (.skip)) (.skip)) (.skip))))) (.skip))) (.seq (.ife (.not (.call 15 (.cons false (.call 13 (.cons false (.var 2) (.cons false (.var 3) (.nil)))) (.cons false (.bi .tuple (.cons false (.bi .sorted (.cons false (.var 6) (.nil))) (.nil))) (.nil))))) (.seq (.ret (.cst (.bool false))) (.skip)) (.skip)) (.skip)))))) (.seq (.ret (.cst (.bool true))) (.skip))))
def n23 : List Str := ["script", "row", "play", "actor", "some", "part", "due", "at", "step", "good", "scene", "near", "here", "branch"]
def tbl : List CF := [⟨1, 1, c0⟩, ⟨3, 3, c1⟩, ⟨3, 3, c2⟩, ⟨4, 4, c3⟩, ⟨3, 5, c4⟩, ⟨1, 3, c5⟩, ⟨2, 2, c6⟩, ⟨4, 5, c7⟩, ⟨3, 7, c8⟩, ⟨3, 7, c9⟩, ⟨2, 8, c10⟩, ⟨4, 7, c11⟩, ⟨4, 5, c12⟩, ⟨2, 8, c13⟩, ⟨2, 4, c14⟩, ⟨2, 3, c15⟩, ⟨5, 11, c16⟩, ⟨4, 6, c17⟩, ⟨4, 5, c18⟩, ⟨2, 2, c19⟩, ⟨3, 10, c20⟩, ⟨3, 7, c21⟩, ⟨2, 11, c22⟩, ⟨1, 14, c23⟩]
theorem sc0 : FnScope n0 ["value"] (defScope (topS 1)) := ⟨rfl, rfl, rfl, by decide +kernel, rfl, by decide +kernel, by decide +kernel⟩
theorem bo0 : (cBody ⟨n0, defScope (topS 1), none, true, gis, gfs⟩ 1 60 (defBody (topS 1))).map (·.1) = some c0 := by kernel_rfl
theorem sc1 : FnScope n1 ["value", "least", "most"] (defScope (topS 2)) := ⟨rfl, rfl, rfl, by decide +kernel, rfl, by decide +kernel, by decide +kernel⟩
theorem bo1 : (cBody ⟨n1, defScope (topS 2), none, true, gis, gfs⟩ 3 60 (defBody (topS 2))).map (·.1) = some c1 := by kernel_rfl
theorem sc2 : FnScope n2 ["value", "least", "most"] (defScope (topS 3)) := ⟨rfl, rfl, rfl, by decide +kernel, rfl, by decide +kernel, by decide +kernel⟩
theorem bo2 : (cBody ⟨n2, defScope (topS 3), none, true, gis, gfs⟩ 3 60 (defBody (topS 3))).map (·.1) = some c2 := by kernel_rfl
theorem sc3 : FnScope n3 ["branch", "actors", "speaker", "scenes"] (defScope (topS 12)) := ⟨rfl, rfl, rfl, by decide +kernel, rfl, by decide +kernel, by decide +kernel⟩
theorem bo3 : (cBody ⟨n3, defScope (topS 12), none, true, gis, gfs⟩ 4 60 (defBody (topS 12))).map (·.1) = some c3 := by kernel_rfl
theorem sc4 : FnScope n4 ["scene", "actors", "scenes"] (defScope (topS 13)) := ⟨rfl, rfl, rfl, by decide +kernel, rfl, by decide +kernel, by decide +kernel⟩
theorem bo4 : (cBody ⟨n4, defScope (topS 13), none, true, gis, gfs⟩ 3 60 (defBody (topS 13))).map (·.1) = some c4 := by kernel_rfl
theorem sc5 : FnScope n5 ["script"] (defScope (topS 14)) := ⟨rfl, rfl, rfl, by decide +kernel, rfl, by decide +kernel, by decide +kernel⟩
theorem bo5 : (cBody ⟨n5, defScope (topS 14), none, true, gis, gfs⟩ 1 60 (defBody (topS 14))).map (·.1) = some c5 := by kernel_rfl
theorem sc6 : FnScope n6 ["script", "actor"] (defScope (topS 15)) := ⟨rfl, rfl, rfl, by decide +kernel, rfl, by decide +kernel, by decide +kernel⟩
theorem bo6 : (cBody ⟨n6, defScope (topS 15), none, true, gis, gfs⟩ 2 60 (defBody (topS 15))).map (·.1) = some c6 := by kernel_rfl
theorem sc7 : FnScope n7 ["script", "scene", "branch", "actor"] (defScope (topS 17)) := ⟨rfl, rfl, rfl, by decide +kernel, rfl, by decide +kernel, by decide +kernel⟩
theorem bo7 : (cBody ⟨n7, defScope (topS 17), none, true, gis, gfs⟩ 4 60 (defBody (topS 17))).map (·.1) = some c7 := by kernel_rfl
theorem sc8 : FnScope n8 ["script", "scenes", "actor"] (defScope (topS 18)) := ⟨rfl, rfl, rfl, by decide +kernel, rfl, by decide +kernel, by decide +kernel⟩
theorem bo8 : (cBody ⟨n8, defScope (topS 18), none, true, gis, gfs⟩ 3 60 (defBody (topS 18))).map (·.1) = some c8 := by kernel_rfl
theorem sc9 : FnScope n9 ["script", "scenes", "actor"] (defScope (topS 19)) := ⟨rfl, rfl, rfl, by decide +kernel, rfl, by decide +kernel, by decide +kernel⟩
theorem bo9 : (cBody ⟨n9, defScope (topS 19), none, true, gis, gfs⟩ 3 60 (defBody (topS 19))).map (·.1) = some c9 := by kernel_rfl
theorem sc10 : FnScope n10 ["script", "actor"] (defScope (topS 20)) := ⟨rfl, rfl, rfl, by decide +kernel, rfl, by decide +kernel, by decide +kernel⟩
theorem bo10 : (cBody ⟨n10, defScope (topS 20), none, true, gis, gfs⟩ 2 60 (defBody (topS 20))).map (·.1) = some c10 := by kernel_rfl
theorem sc11 : FnScope n11 ["script", "scenes", "actor", "event"] (defScope (topS 22)) := ⟨rfl, rfl, rfl, by decide +kernel, rfl, by decide +kernel, by decide +kernel⟩
theorem bo11 : (cBody ⟨n11, defScope (topS 22), none, true, gis, gfs⟩ 4 60 (defBody (topS 22))).map (·.1) = some c11 := by kernel_rfl
theorem sc12 : FnScope n12 ["script", "scene", "actor", "event"] (defScope (topS 23)) := ⟨rfl, rfl, rfl, by decide +kernel, rfl, by decide +kernel, by decide +kernel⟩
theorem bo12 : (cBody ⟨n12, defScope (topS 23), none, true, gis, gfs⟩ 4 60 (defBody (topS 23))).map (·.1) = some c12 := by kernel_rfl
theorem sc13 : FnScope n13 ["script", "actor"] (defScope (topS 24)) := ⟨rfl, rfl, rfl, by decide +kernel, rfl, by decide +kernel, by decide +kernel⟩
theorem bo13 : (cBody ⟨n13, defScope (topS 24), none, true, gis, gfs⟩ 2 60 (defBody (topS 24))).map (·.1) = some c13 := by kernel_rfl
theorem sc14 : FnScope n14 ["row", "many"] (defScope (topS 26)) := ⟨rfl, rfl, rfl, by decide +kernel, rfl, by decide +kernel, by decide +kernel⟩
theorem bo14 : (cBody ⟨n14, defScope (topS 26), none, true, gis, gfs⟩ 2 60 (defBody (topS 26))).map (·.1) = some c14 := by kernel_rfl
theorem sc15 : FnScope n15 ["found", "due"] (defScope (topS 27)) := ⟨rfl, rfl, rfl, by decide +kernel, rfl, by decide +kernel, by decide +kernel⟩
theorem bo15 : (cBody ⟨n15, defScope (topS 27), none, true, gis, gfs⟩ 2 60 (defBody (topS 27))).map (·.1) = some c15 := by kernel_rfl
theorem sc16 : FnScope n16 ["row", "actors", "at", "size", "loops"] (defScope (topS 28)) := ⟨rfl, rfl, rfl, by decide +kernel, rfl, by decide +kernel, by decide +kernel⟩
theorem bo16 : (cBody ⟨n16, defScope (topS 28), none, true, gis, gfs⟩ 5 60 (defBody (topS 28))).map (·.1) = some c16 := by kernel_rfl
theorem sc17 : FnScope n17 ["row", "actors", "most", "loops"] (defScope (topS 29)) := ⟨rfl, rfl, rfl, by decide +kernel, rfl, by decide +kernel, by decide +kernel⟩
theorem bo17 : (cBody ⟨n17, defScope (topS 29), none, true, gis, gfs⟩ 4 60 (defBody (topS 29))).map (·.1) = some c17 := by kernel_rfl
theorem sc18 : FnScope n18 ["script", "scene", "branch", "actor"] (defScope (topS 30)) := ⟨rfl, rfl, rfl, by decide +kernel, rfl, by decide +kernel, by decide +kernel⟩
theorem bo18 : (cBody ⟨n18, defScope (topS 30), none, true, gis, gfs⟩ 4 60 (defBody (topS 30))).map (·.1) = some c18 := by kernel_rfl
theorem sc19 : FnScope n19 ["script", "scene"] (defScope (topS 31)) := ⟨rfl, rfl, rfl, by decide +kernel, rfl, by decide +kernel, by decide +kernel⟩
theorem bo19 : (cBody ⟨n19, defScope (topS 31), none, true, gis, gfs⟩ 2 60 (defBody (topS 31))).map (·.1) = some c19 := by kernel_rfl
theorem sc20 : FnScope n20 ["script", "scenes", "actor"] (defScope (topS 32)) := ⟨rfl, rfl, rfl, by decide +kernel, rfl, by decide +kernel, by decide +kernel⟩
theorem bo20 : (cBody ⟨n20, defScope (topS 32), none, true, gis, gfs⟩ 3 60 (defBody (topS 32))).map (·.1) = some c20 := by kernel_rfl
theorem sc21 : FnScope n21 ["script", "scenes", "actor"] (defScope (topS 33)) := ⟨rfl, rfl, rfl, by decide +kernel, rfl, by decide +kernel, by decide +kernel⟩
theorem bo21 : (cBody ⟨n21, defScope (topS 33), none, true, gis, gfs⟩ 3 60 (defBody (topS 33))).map (·.1) = some c21 := by kernel_rfl
theorem sc22 : FnScope n22 ["script", "actor"] (defScope (topS 34)) := ⟨rfl, rfl, rfl, by decide +kernel, rfl, by decide +kernel, by decide +kernel⟩
theorem bo22 : (cBody ⟨n22, defScope (topS 34), none, true, gis, gfs⟩ 2 60 (defBody (topS 34))).map (·.1) = some c22 := by kernel_rfl
theorem sc23 : FnScope n23 ["script"] (defScope (topS 35)) := ⟨rfl, rfl, rfl, by decide +kernel, rfl, by decide +kernel, by decide +kernel⟩
theorem bo23 : (cBody ⟨n23, defScope (topS 35), none, true, gis, gfs⟩ 1 60 (defBody (topS 35))).map (·.1) = some c23 := by kernel_rfl
section
variable {K : PySem.W.Frag} {h : Heap} {mg : Str → Option Value} (KX : K.In h) (G : h.Ns mainGlobals mg) (c : He.SaysD faL fnL K)
include KX G c
theorem d0 : DefGd K mg gis gfs tbl "is_integer" 0 1 := by
  obtain ⟨fd, F⟩ := c.def_ 0 (d := dOf "is_integer" 1) rfl
  exact ⟨_, _, _, _, _, _, fd, ["value"], n0, c0, F, sc0, rfl, He.glo_ok KX G (c.fact 0 (f := .glo "is_integer") rfl), rfl, body_ok bo0, FunD.bindsN F fun _ _ _ _ _ _ us hl => match us, hl with | [_], _ => rfl⟩
theorem d1 : DefGd K mg gis gfs tbl "is_in" 1 3 := by
  obtain ⟨fd, F⟩ := c.def_ 1 (d := dOf "is_in" 2) rfl
  exact ⟨_, _, _, _, _, _, fd, ["value", "least", "most"], n1, c1, F, sc1, rfl, He.glo_ok KX G (c.fact 1 (f := .glo "is_in") rfl), rfl, body_ok bo1, FunD.bindsN F fun _ _ _ _ _ _ us hl => match us, hl with | [_, _, _], _ => rfl⟩
theorem d2 : DefGd K mg gis gfs tbl "is_list" 2 3 := by
  obtain ⟨fd, F⟩ := c.def_ 2 (d := dOf "is_list" 3) rfl
  exact ⟨_, _, _, _, _, _, fd, ["value", "least", "most"], n2, c2, F, sc2, rfl, He.glo_ok KX G (c.fact 2 (f := .glo "is_list") rfl), rfl, body_ok bo2, FunD.bindsN F fun _ _ _ _ _ _ us hl => match us, hl with | [_, _, _], _ => rfl⟩
theorem d3 : DefGd K mg gis gfs tbl "is_branch" 3 4 := by
  obtain ⟨fd, F⟩ := c.def_ 3 (d := dOf "is_branch" 12) rfl
  exact ⟨_, _, _, _, _, _, fd, ["branch", "actors", "speaker", "scenes"], n3, c3, F, sc3, rfl, He.glo_ok KX G (c.fact 3 (f := .glo "is_branch") rfl), rfl, body_ok bo3, FunD.bindsN F fun _ _ _ _ _ _ us hl => match us, hl with | [_, _, _, _], _ => rfl⟩
theorem d4 : DefGd K mg gis gfs tbl "is_scene" 4 3 := by
  obtain ⟨fd, F⟩ := c.def_ 4 (d := dOf "is_scene" 13) rfl
  exact ⟨_, _, _, _, _, _, fd, ["scene", "actors", "scenes"], n4, c4, F, sc4, rfl, He.glo_ok KX G (c.fact 4 (f := .glo "is_scene") rfl), rfl, body_ok bo4, FunD.bindsN F fun _ _ _ _ _ _ us hl => match us, hl with | [_, _, _], _ => rfl⟩
theorem d5 : DefGd K mg gis gfs tbl "need_script" 5 1 := by
  obtain ⟨fd, F⟩ := c.def_ 5 (d := dOf "need_script" 14) rfl
  exact ⟨_, _, _, _, _, _, fd, ["script"], n5, c5, F, sc5, rfl, He.glo_ok KX G (c.fact 5 (f := .glo "need_script") rfl), rfl, body_ok bo5, FunD.bindsN F fun _ _ _ _ _ _ us hl => match us, hl with | [_], _ => rfl⟩
theorem d6 : DefGd K mg gis gfs tbl "need_actor" 6 2 := by
  obtain ⟨fd, F⟩ := c.def_ 6 (d := dOf "need_actor" 15) rfl
  exact ⟨_, _, _, _, _, _, fd, ["script", "actor"], n6, c6, F, sc6, rfl, He.glo_ok KX G (c.fact 6 (f := .glo "need_actor") rfl), rfl, body_ok bo6, FunD.bindsN F fun _ _ _ _ _ _ us hl => match us, hl with | [_, _], _ => rfl⟩
theorem d7 : DefGd K mg gis gfs tbl "event_of" 7 4 := by
  obtain ⟨fd, F⟩ := c.def_ 7 (d := dOf "event_of" 17) rfl
  exact ⟨_, _, _, _, _, _, fd, ["script", "scene", "branch", "actor"], n7, c7, F, sc7, rfl, He.glo_ok KX G (c.fact 7 (f := .glo "event_of") rfl), rfl, body_ok bo7, FunD.bindsN F fun _ _ _ _ _ _ us hl => match us, hl with | [_, _, _, _], _ => rfl⟩
theorem d8 : DefGd K mg gis gfs tbl "joined_in" 8 3 := by
  obtain ⟨fd, F⟩ := c.def_ 8 (d := dOf "joined_in" 18) rfl
  exact ⟨_, _, _, _, _, _, fd, ["script", "scenes", "actor"], n8, c8, F, sc8, rfl, He.glo_ok KX G (c.fact 8 (f := .glo "joined_in") rfl), rfl, body_ok bo8, FunD.bindsN F fun _ _ _ _ _ _ us hl => match us, hl with | [_, _, _], _ => rfl⟩
theorem d9 : DefGd K mg gis gfs tbl "steps_in" 9 3 := by
  obtain ⟨fd, F⟩ := c.def_ 9 (d := dOf "steps_in" 19) rfl
  exact ⟨_, _, _, _, _, _, fd, ["script", "scenes", "actor"], n9, c9, F, sc9, rfl, He.glo_ok KX G (c.fact 9 (f := .glo "steps_in") rfl), rfl, body_ok bo9, FunD.bindsN F fun _ _ _ _ _ _ us hl => match us, hl with | [_, _, _], _ => rfl⟩
theorem d10 : DefGd K mg gis gfs tbl "sets_in" 10 2 := by
  obtain ⟨fd, F⟩ := c.def_ 10 (d := dOf "sets_in" 20) rfl
  exact ⟨_, _, _, _, _, _, fd, ["script", "actor"], n10, c10, F, sc10, rfl, He.glo_ok KX G (c.fact 10 (f := .glo "sets_in") rfl), rfl, body_ok bo10, FunD.bindsN F fun _ _ _ _ _ _ us hl => match us, hl with | [_, _], _ => rfl⟩
theorem d11 : DefGd K mg gis gfs tbl "origins" 11 4 := by
  obtain ⟨fd, F⟩ := c.def_ 11 (d := dOf "origins" 22) rfl
  exact ⟨_, _, _, _, _, _, fd, ["script", "scenes", "actor", "event"], n11, c11, F, sc11, rfl, He.glo_ok KX G (c.fact 11 (f := .glo "origins") rfl), rfl, body_ok bo11, FunD.bindsN F fun _ _ _ _ _ _ us hl => match us, hl with | [_, _, _, _], _ => rfl⟩
theorem d12 : DefGd K mg gis gfs tbl "has_event" 12 4 := by
  obtain ⟨fd, F⟩ := c.def_ 12 (d := dOf "has_event" 23) rfl
  exact ⟨_, _, _, _, _, _, fd, ["script", "scene", "actor", "event"], n12, c12, F, sc12, rfl, He.glo_ok KX G (c.fact 12 (f := .glo "has_event") rfl), rfl, body_ok bo12, FunD.bindsN F fun _ _ _ _ _ _ us hl => match us, hl with | [_, _, _, _], _ => rfl⟩
theorem d13 : DefGd K mg gis gfs tbl "bad_says" 13 2 := by
  obtain ⟨fd, F⟩ := c.def_ 13 (d := dOf "bad_says" 24) rfl
  exact ⟨_, _, _, _, _, _, fd, ["script", "actor"], n13, c13, F, sc13, rfl, He.glo_ok KX G (c.fact 13 (f := .glo "bad_says") rfl), rfl, body_ok bo13, FunD.bindsN F fun _ _ _ _ _ _ us hl => match us, hl with | [_, _], _ => rfl⟩
theorem d14 : DefGd K mg gis gfs tbl "_law_taken" 14 2 := by
  obtain ⟨fd, F⟩ := c.def_ 14 (d := dOf "_law_taken" 26) rfl
  exact ⟨_, _, _, _, _, _, fd, ["row", "many"], n14, c14, F, sc14, rfl, He.glo_ok KX G (c.fact 14 (f := .glo "_law_taken") rfl), rfl, body_ok bo14, FunD.bindsN F fun _ _ _ _ _ _ us hl => match us, hl with | [_, _], _ => rfl⟩
theorem d15 : DefGd K mg gis gfs tbl "_law_alike" 15 2 := by
  obtain ⟨fd, F⟩ := c.def_ 15 (d := dOf "_law_alike" 27) rfl
  exact ⟨_, _, _, _, _, _, fd, ["found", "due"], n15, c15, F, sc15, rfl, He.glo_ok KX G (c.fact 15 (f := .glo "_law_alike") rfl), rfl, body_ok bo15, FunD.bindsN F fun _ _ _ _ _ _ us hl => match us, hl with | [_, _], _ => rfl⟩
theorem d16 : DefGd K mg gis gfs tbl "_law_scene" 16 5 := by
  obtain ⟨fd, F⟩ := c.def_ 16 (d := dOf "_law_scene" 28) rfl
  exact ⟨_, _, _, _, _, _, fd, ["row", "actors", "at", "size", "loops"], n16, c16, F, sc16, rfl, He.glo_ok KX G (c.fact 16 (f := .glo "_law_scene") rfl), rfl, body_ok bo16, FunD.bindsN F fun _ _ _ _ _ _ us hl => match us, hl with | [_, _, _, _, _], _ => rfl⟩
theorem d17 : DefGd K mg gis gfs tbl "_law_script" 17 4 := by
  obtain ⟨fd, F⟩ := c.def_ 17 (d := dOf "_law_script" 29) rfl
  exact ⟨_, _, _, _, _, _, fd, ["row", "actors", "most", "loops"], n17, c17, F, sc17, rfl, He.glo_ok KX G (c.fact 17 (f := .glo "_law_script") rfl), rfl, body_ok bo17, FunD.bindsN F fun _ _ _ _ _ _ us hl => match us, hl with | [_, _, _, _], _ => rfl⟩
theorem d18 : DefGd K mg gis gfs tbl "_law_event" 18 4 := by
  obtain ⟨fd, F⟩ := c.def_ 18 (d := dOf "_law_event" 30) rfl
  exact ⟨_, _, _, _, _, _, fd, ["script", "scene", "branch", "actor"], n18, c18, F, sc18, rfl, He.glo_ok KX G (c.fact 18 (f := .glo "_law_event") rfl), rfl, body_ok bo18, FunD.bindsN F fun _ _ _ _ _ _ us hl => match us, hl with | [_, _, _, _], _ => rfl⟩
theorem d19 : DefGd K mg gis gfs tbl "_law_branches" 19 2 := by
  obtain ⟨fd, F⟩ := c.def_ 19 (d := dOf "_law_branches" 31) rfl
  exact ⟨_, _, _, _, _, _, fd, ["script", "scene"], n19, c19, F, sc19, rfl, He.glo_ok KX G (c.fact 19 (f := .glo "_law_branches") rfl), rfl, body_ok bo19, FunD.bindsN F fun _ _ _ _ _ _ us hl => match us, hl with | [_, _], _ => rfl⟩
theorem d20 : DefGd K mg gis gfs tbl "_law_joined" 20 3 := by
  obtain ⟨fd, F⟩ := c.def_ 20 (d := dOf "_law_joined" 32) rfl
  exact ⟨_, _, _, _, _, _, fd, ["script", "scenes", "actor"], n20, c20, F, sc20, rfl, He.glo_ok KX G (c.fact 20 (f := .glo "_law_joined") rfl), rfl, body_ok bo20, FunD.bindsN F fun _ _ _ _ _ _ us hl => match us, hl with | [_, _, _], _ => rfl⟩
theorem d21 : DefGd K mg gis gfs tbl "_law_steps" 21 3 := by
  obtain ⟨fd, F⟩ := c.def_ 21 (d := dOf "_law_steps" 33) rfl
  exact ⟨_, _, _, _, _, _, fd, ["script", "scenes", "actor"], n21, c21, F, sc21, rfl, He.glo_ok KX G (c.fact 21 (f := .glo "_law_steps") rfl), rfl, body_ok bo21, FunD.bindsN F fun _ _ _ _ _ _ us hl => match us, hl with | [_, _, _], _ => rfl⟩
theorem d22 : DefGd K mg gis gfs tbl "_law_cut" 22 2 := by
  obtain ⟨fd, F⟩ := c.def_ 22 (d := dOf "_law_cut" 34) rfl
  exact ⟨_, _, _, _, _, _, fd, ["script", "actor"], n22, c22, F, sc22, rfl, He.glo_ok KX G (c.fact 22 (f := .glo "_law_cut") rfl), rfl, body_ok bo22, FunD.bindsN F fun _ _ _ _ _ _ us hl => match us, hl with | [_, _], _ => rfl⟩
theorem d23 : DefGd K mg gis gfs tbl "law" 23 1 := by
  obtain ⟨fd, F⟩ := c.def_ 23 (d := dOf "law" 35) rfl
  exact ⟨_, _, _, _, _, _, fd, ["script"], n23, c23, F, sc23, rfl, He.glo_ok KX G (c.fact 23 (f := .glo "law") rfl), rfl, body_ok bo23, FunD.bindsN F fun _ _ _ _ _ _ us hl => match us, hl with | [_], _ => rfl⟩
theorem allD : AllD K mg gis gfs tbl gfs := ⟨d0 KX G c, d1 KX G c, d2 KX G c, d3 KX G c, d4 KX G c, d5 KX G c, d6 KX G c, d7 KX G c, d8 KX G c, d9 KX G c, d10 KX G c, d11 KX G c, d12 KX G c, d13 KX G c, d14 KX G c, d15 KX G c, d16 KX G c, d17 KX G c, d18 KX G c, d19 KX G c, d20 KX G c, d21 KX G c, d22 KX G c, d23 KX G c, True.intro⟩
theorem allI : AllI mg gis := ⟨He.int_ok KX G (c.fact 42 (f := .int "MOST_ACTORS" 4) rfl), He.int_ok KX G (c.fact 43 (f := .int "MOST_SCENES" 8) rfl), He.int_ok KX G (c.fact 44 (f := .int "MOST_WORDS" 6) rfl), True.intro⟩
theorem bltL : ∀ x ∈ blts, mg x = none := by
  intro x hx
  simp only [blts, List.mem_cons, List.not_mem_nil, or_false] at hx
  rcases hx with rfl | rfl | rfl | rfl | rfl | rfl | rfl | rfl | rfl | rfl | rfl | rfl | rfl | rfl | rfl | rfl | rfl | rfl
  · exact He.free_ok KX G (c.fact 24 (f := .free "len") rfl)
  · exact He.free_ok KX G (c.fact 25 (f := .free "sorted") rfl)
  · exact He.free_ok KX G (c.fact 26 (f := .free "tuple") rfl)
  · exact He.free_ok KX G (c.fact 27 (f := .free "list") rfl)
  · exact He.free_ok KX G (c.fact 28 (f := .free "dict") rfl)
  · exact He.free_ok KX G (c.fact 29 (f := .free "any") rfl)
  · exact He.free_ok KX G (c.fact 30 (f := .free "all") rfl)
  · exact He.free_ok KX G (c.fact 31 (f := .free "sum") rfl)
  · exact He.free_ok KX G (c.fact 32 (f := .free "min") rfl)
  · exact He.free_ok KX G (c.fact 33 (f := .free "max") rfl)
  · exact He.free_ok KX G (c.fact 34 (f := .free "int") rfl)
  · exact He.free_ok KX G (c.fact 35 (f := .free "str") rfl)
  · exact He.free_ok KX G (c.fact 36 (f := .free "bool") rfl)
  · exact He.free_ok KX G (c.fact 37 (f := .free "isinstance") rfl)
  · exact He.free_ok KX G (c.fact 38 (f := .free "range") rfl)
  · exact He.free_ok KX G (c.fact 39 (f := .free "enumerate") rfl)
  · exact He.free_ok KX G (c.fact 40 (f := .free "zip") rfl)
  · exact He.free_ok KX G (c.fact 41 (f := .free "set") rfl)
end
theorem law_end (core : ∀ ns : List Int, ns.length ≤ 63 → ∃ r, evF tbl 4000 150 23 [.shr (.list (ns.map .int))] = .ok (.shr (.bool true), r)) : PySem.Challenge.rw_roletalks_k07_whole_bad_says.Holds := by
  open PySem.W in
  w_on; o_law
  refine HandSHeadRun.head_any (r := PySem.W.OpenLaw.row PySem.Challenge.rw_roletalks_k07_whole_bad_says) (q := PySem.W.view (PySem.W.OpenLaw.row PySem.Challenge.rw_roletalks_k07_whole_bad_says).prog [35]) (H := hkL) (ob := obL) (M := 4000) (loose := looseL) (d := HandSHeadRun.topDef (PySem.W.OpenLaw.row PySem.Challenge.rw_roletalks_k07_whole_bad_says).prog 35) (kwd := []) ob_eqL
    (by kernel_rfl) (fun s => by kernel_rfl) runL (by kernel_rfl) (by kernel_rfl) (by kernel_rfl) (by rfl) (by first | assumption | decide +kernel) (by decide +kernel) ⟨rfl, rfl, rfl, rfl, rfl, by decide +kernel⟩ ?hw ?hc
  case hw => w_witness2
  case hc =>
    refine L2.walk_ofE (l := PySem.Challenge.rw_roletalks_k07_whole_bad_says) (n := 63) (k := 150) (x := "script") (CX := Rt.CX0) rfl (by decide) (by kernel_rfl) ⟨rfl, by decide, by decide⟩ ?F (fun _ _ _ _ z => z)
    intro w mg fa h Y G hmg0
    obtain ⟨K, KX, c⟩ := Y
    have hmg : mg ("law" : PySem.Str) = some (.ref fa) := by
      have e : (HandSHeadRun.topDef (PySem.W.OpenLaw.row PySem.Challenge.rw_roletalks_k07_whole_bad_says).prog 35).name = ("law" : PySem.Str) := by kernel_rfl
      rw [← e]
      exact hmg0
    obtain ⟨fd, F⟩ := c.def_ 23 (d := dOf "law" 35) rfl
    have e := hmg.symm.trans (He.glo_ok KX G (c.fact 23 (f := .glo "law") rfl))
    cases e
    have b := FunD.bindsA (ps := ["script"]) F fun _ _ _ _ _ _ us hl => match us, hl with | [_], _ => rfl
    have hd := allD_lookup (allD KX G c)
    have hb := bltL KX G c
    have hi := allI_lookup (allI KX G c)
    exact ⟨K, fd, spF (PySem.Challenge.rw_roletalks_k07_whole_bad_says).prog w K 1 (evF tbl 4000 150 23), KX, fun s v => b s [v] rfl, fun H a ns hl ho hS => law_sp core hl ho hS,
      fun base _ _ => def_ok hd hb hi (all_gd hd hb hi 149) F sc23 rfl rfl (body_ok bo23)⟩
end Lw
set_option maxRecDepth 100000
namespace Rt
open PySem
/-! ### the evaluator's equations, for simp -/
section
variable (Φ : Fenv) (m np : Nat) (ρ : Rho) (s : Sl) (d : PyData) (o : Ob) (i j : Nat) (a b c e es : CE)
@[simp] theorem gt_z : gt (s :: ρ) 0 = s := rfl
@[simp] theorem gt_s : gt (s :: ρ) (i + 1) = gt ρ i := rfl
@[simp] theorem gt_1 (s1 : Sl) : gt (s :: s1 :: ρ) 1 = s1 := rfl
@[simp] theorem gt_2 (s1 s2 : Sl) : gt (s :: s1 :: s2 :: ρ) 2 = s2 := rfl
@[simp] theorem gt_3 (s1 s2 s3 : Sl) : gt (s :: s1 :: s2 :: s3 :: ρ) 3 = s3 := rfl
@[simp] theorem gt_4 (s1 s2 s3 s4 : Sl) : gt (s :: s1 :: s2 :: s3 :: s4 :: ρ) 4 = s4 := rfl
@[simp] theorem gt_5 (s1 s2 s3 s4 s5 : Sl) : gt (s :: s1 :: s2 :: s3 :: s4 :: s5 :: ρ) 5 = s5 := rfl
@[simp] theorem gt_6 (s1 s2 s3 s4 s5 s6 : Sl) : gt (s :: s1 :: s2 :: s3 :: s4 :: s5 :: s6 :: ρ) 6 = s6 := rfl
@[simp] theorem gt_7 (s1 s2 s3 s4 s5 s6 s7 : Sl) : gt (s :: s1 :: s2 :: s3 :: s4 :: s5 :: s6 :: s7 :: ρ) 7 = s7 := rfl
@[simp] theorem rdS_shr : rdS (.shr d) = .ok d := rfl
@[simp] theorem rdS_lst (ds : List PyData) : rdS (.own (.lst ds)) = .ok (.list ds) := rfl
@[simp] theorem rdS_dct (ds : List (PyData × PyData)) : rdS (.own (.dct ds)) = .ok (.dict ds) := rfl
@[simp] theorem rd_val : rd ρ (.val s) = rdS s := rfl
@[simp] theorem rd_nam : rd ρ (.nam i) = rdS (gt ρ i) := rfl
@[simp] theorem stl_val : stl ρ (.val s) = (rdS s).bind fun d => .ok (d, ρ) := rfl
@[simp] theorem stl_nam : stl ρ (.nam i) = (rdS (gt ρ i)).bind fun d => .ok (d, ρ.set i (.shr d)) := rfl
@[simp] theorem tak_shr : tak ρ (.val (.shr d)) = .ok (.shr d, ρ) := rfl
@[simp] theorem tak_ow2 : tak ρ (.val (.own o)) = .ok (.own o, ρ) := rfl
@[simp] theorem tak_nam : tak ρ (.nam i) = (rdS (gt ρ i)).bind fun d => .ok (.shr d, ρ.set i (.shr d)) := rfl
@[simp] theorem rds_0 : rds ρ [] = .ok [] := rfl
@[simp] theorem rds_1 (r : Rv) (rs : List Rv) : rds ρ (r :: rs) = (rd ρ r).bind fun d => (rds ρ rs).bind fun ds => .ok (d :: ds) := rfl
@[simp] theorem isUn_shr : isUn (.shr d) = false := rfl
@[simp] theorem isUn_own : isUn (.own o) = false := rfl
@[simp] theorem nams_0 : nams [] = [] := rfl
@[simp] theorem nams_v (rs : List Rv) : nams (.val s :: rs) = nams rs := rfl
@[simp] theorem nams_n (rs : List Rv) : nams (.nam i :: rs) = i :: nams rs := rfl
@[simp] theorem argS_v : argS ρ (.val s) = s := rfl
@[simp] theorem argS_n : argS ρ (.nam i) = gt ρ i := rfl
@[simp] theorem backS_0 (ss : List Sl) : backS [] ss ρ = ρ := rfl
@[simp] theorem backS_v (rs : List Rv) (ss : List Sl) (t : Sl) : backS (.val s :: rs) (t :: ss) ρ = backS rs ss ρ := rfl
@[simp] theorem backS_n (rs : List Rv) (ss : List Sl) (t : Sl) : backS (.nam i :: rs) (t :: ss) ρ = backS rs ss (ρ.set i t) := rfl
@[simp] theorem tst_b (x : Bool) : tst (.ok (.val (.shr (.bool x)), ρ)) = .ok (x, ρ) := rfl
@[simp] theorem var_e : evE Φ (.var i) ρ = (match gt ρ i with
    | .un => .bad
    | .shr d => .ok (.val (.shr d), ρ)
    | .own _ => .ok (.nam i, ρ)) := rfl
@[simp] theorem cst_e : evE Φ (.cst d) ρ = .ok (.val (.shr d), ρ) := rfl
@[simp] theorem tup_e : evE Φ (.tup es) ρ = (evL Φ es ρ).bind fun p => Res.guard (decide (p.1.length ≤ lim)) (.ok (.val (.shr (.tuple p.1)), p.2)) := rfl
@[simp] theorem lst_e : evE Φ (.lst es) ρ = (evL Φ es ρ).bind fun p => Res.guard (decide (p.1.length ≤ lim)) (.ok (.val (.own (.lst p.1)), p.2)) := rfl
@[simp] theorem dc0_e : evE Φ (.dct .nil) ρ = .ok (.val (.own (.dct [])), ρ) := rfl
@[simp] theorem bin_e (q : Bop) : evE Φ (.bin q a b) ρ = (evE Φ a ρ).bind fun p => (evE Φ b p.2).bind fun q' => (rd q'.2 p.1).bind fun x => (rd q'.2 q'.1).bind fun y => (binR q x y).bind fun s => .ok (.val s, q'.2) := rfl
@[simp] theorem not_e : evE Φ (.not a) ρ = (tst (evE Φ a ρ)).bind fun p => .ok (.val (.shr (.bool (!p.1))), p.2) := rfl
@[simp] theorem and_e : evE Φ (.and a b) ρ = (tst (evE Φ a ρ)).bind fun p => if p.1 = true then (tst (evE Φ b p.2)).bind fun q => .ok (.val (.shr (.bool q.1)), q.2) else .ok (.val (.shr (.bool false)), p.2) := rfl
@[simp] theorem or_e : evE Φ (.or a b) ρ = (tst (evE Φ a ρ)).bind fun p => if p.1 = true then .ok (.val (.shr (.bool true)), p.2) else (tst (evE Φ b p.2)).bind fun q => .ok (.val (.shr (.bool q.1)), q.2) := rfl
@[simp] theorem cmp_e (q : Cop) : evE Φ (.cmp q a b) ρ = (evE Φ a ρ).bind fun p => (evE Φ b p.2).bind fun q' => (rd q'.2 p.1).bind fun x => (rd q'.2 q'.1).bind fun y => (cmpR q x y).bind fun s => .ok (.val (.shr (.bool s)), q'.2) := rfl
@[simp] theorem chn_e (q q2 : Cop) : evE Φ (.chn q q2 a b c) ρ = (evE Φ a ρ).bind fun p => (evE Φ b p.2).bind fun r => (rd r.2 p.1).bind fun x => (rd r.2 r.1).bind fun y =>
      (cmpR q x y).bind fun s => if s = true then (evE Φ c r.2).bind fun t => (rd t.2 r.1).bind fun y => (rd t.2 t.1).bind fun z =>
        (cmpR q2 y z).bind fun s => .ok (.val (.shr (.bool s)), t.2)
      else .ok (.val (.shr (.bool false)), r.2) := rfl
@[simp] theorem isN_e : evE Φ (.isN a) ρ = (evE Φ a ρ).bind fun p => (rd p.2 p.1).bind fun x => .ok (.val (.shr (.bool (isNo x))), p.2) := rfl
@[simp] theorem notN_e : evE Φ (.notN a) ρ = (evE Φ a ρ).bind fun p => (rd p.2 p.1).bind fun x => .ok (.val (.shr (.bool (!isNo x))), p.2) := rfl
@[simp] theorem isi_e (ts : List Ty) : evE Φ (.isi ts a) ρ = (evE Φ a ρ).bind fun p => (rd p.2 p.1).bind fun x => Res.guard (notDc x) (.ok (.val (.shr (.bool (ts.any fun t => tyIs t x))), p.2)) := rfl
@[simp] theorem ife_e : evE Φ (.ife c a b) ρ = (tst (evE Φ c ρ)).bind fun p => if p.1 = true then evE Φ a p.2 else evE Φ b p.2 := rfl
@[simp] theorem idx_e : evE Φ (.idx a b) ρ = (evE Φ a ρ).bind fun p => (evE Φ b p.2).bind fun q => (rd q.2 p.1).bind fun x => (rd q.2 q.1).bind fun y => (idxR x y).bind fun d => .ok (.val (.shr d), q.2) := rfl
@[simp] theorem call_e (f : Nat) : evE Φ (.call f a) ρ = (evA Φ a ρ).bind fun p => Res.guard (decide (nams p.1).Nodup && (p.1.map (argS p.2)).all (fun s => !isUn s)) ((Φ f (p.1.map (argS p.2))).bind fun r => .ok (.val r.1, backS p.1 r.2 p.2)) := rfl
@[simp] theorem bi_e (f : Bi) : evE Φ (.bi f a) ρ = (evA Φ a ρ).bind fun p => (rds p.2 p.1).bind fun ds => (biR f ds).bind fun s => .ok (.val s, p.2) := rfl
@[simp] theorem l_nil : evL Φ .nil ρ = .ok ([], ρ) := rfl
@[simp] theorem l_cons : evL Φ (.cons false a es) ρ = (evE Φ a ρ).bind fun p => (stl p.2 p.1).bind fun x => (evL Φ es x.2).bind fun q => .ok (x.1 :: q.1, q.2) := rfl
@[simp] theorem a_nil : evA Φ .nil ρ = .ok ([], ρ) := rfl
@[simp] theorem a_cons : evA Φ (.cons false a es) ρ = (evE Φ a ρ).bind fun p => (evA Φ es p.2).bind fun q => .ok (p.1 :: q.1, q.2) := rfl
@[simp] theorem s_skip : evS Φ m np .skip ρ = .ok (.nxt, ρ) := rfl
@[simp] theorem s_seq (x y : CS) : evS Φ m np (.seq x y) ρ = (evS Φ m np x ρ).bind fun p => match p.1 with
    | .nxt => evS Φ m np y p.2
    | f => .ok (f, p.2) := rfl
@[simp] theorem s_ret : evS Φ m np (.ret a) ρ = (evE Φ a ρ).bind fun p => (retR np p.2 p.1).bind fun q => .ok (.ret q.1, q.2) := rfl
@[simp] theorem s_exp : evS Φ m np (.exp a) ρ = (evE Φ a ρ).bind fun p => .ok (.nxt, p.2) := rfl
@[simp] theorem s_asg : evS Φ m np (.asg (.v i) a) ρ = (evE Φ a ρ).bind fun p => (tak p.2 p.1).bind fun q => (stS np i q.1 q.2).bind fun ρ => .ok (.nxt, ρ) := rfl
@[simp] theorem s_ife (x y : CS) : evS Φ m np (.ife c x y) ρ = (tst (evE Φ c ρ)).bind fun p => if p.1 = true then evS Φ m np x p.2 else evS Φ m np y p.2 := rfl
@[simp] theorem retR_shr : retR np ρ (.val (.shr d)) = .ok (.shr d, ρ) := rfl
@[simp] theorem retR_own : retR np ρ (.val (.own o)) = .ok (.own o, ρ) := rfl
@[simp] theorem lt_i (x y : Int) : cmpR .lt (.int x) (.int y) = .ok (decide (x < y)) := rfl
@[simp] theorem gt_i (x y : Int) : cmpR .gt (.int x) (.int y) = .ok (decide (y < x)) := rfl
@[simp] theorem le_i (x y : Int) : cmpR .le (.int x) (.int y) = .ok (decide (x ≤ y)) := rfl
@[simp] theorem ge_i (x y : Int) : cmpR .ge (.int x) (.int y) = .ok (decide (y ≤ x)) := rfl
@[simp] theorem eq_i (x y : Int) : cmpR .eq (.int x) (.int y) = .ok (decide (x = y)) := rfl
@[simp] theorem ne_i (x y : Int) : cmpR .ne (.int x) (.int y) = .ok (!decide (x = y)) := rfl
@[simp] theorem add_i (x y : Int) : binR .add (.int x) (.int y) = .ok (.shr (.int (x + y))) := rfl
@[simp] theorem sub_i (x y : Int) : binR .sub (.int x) (.int y) = .ok (.shr (.int (x - y))) := rfl
@[simp] theorem len_t (ds : List PyData) : biR .len [.tuple ds] = .ok (.shr (.int ds.length)) := rfl
@[simp] theorem len_l (ds : List PyData) : biR .len [.list ds] = .ok (.shr (.int ds.length)) := rfl
@[simp] theorem idx_t (ds : List PyData) (x : Int) : idxR (.tuple ds) (.int x) = Res.get (L2.atI ds x) := rfl
@[simp] theorem idx_l (ds : List PyData) (x : Int) : idxR (.list ds) (.int x) = Res.get (L2.atI ds x) := rfl
end
section
variable (Φ : Fenv) (m np : Nat) (ρ : Rho) (i : Nat) (a b c e es : CE) (t : Tg) (own : List Nat)
/-- one turn of a comprehension -/
def lcT (Φ : Fenv) (t : Tg) (c e : CE) (own : List Nat) (d : PyData) (ρ : Rho) : Res (List PyData × Rho) := (bt 0 t d ρ).bind fun ρ => (cnd c ρ (evE Φ c ρ)).bind fun x => if x.1 = true then (evE Φ e x.2).bind fun r => (stl r.2 r.1).bind fun y => .ok ([y.1], wipeR y.2 own) else .ok ([], wipeR x.2 own)
@[simp] theorem lc_e : evE Φ (.lc own t a c e) ρ = (evI Φ a ρ).bind fun p => (lcGo (lcT Φ t c e own) p.1 [] (wipeR p.2 own)).bind fun r => .ok (.val (.own (.lst r.1)), backR p.2 r.2 own) := rfl
@[simp] theorem i_ex : evI Φ (.ex a) ρ = (evE Φ a ρ).bind fun p => (stl p.2 p.1).bind fun x => (seqD x.1).bind fun ds => .ok (ds, x.2) := rfl
@[simp] theorem i_enu : evI Φ (.enu a) ρ = (evE Φ a ρ).bind fun p => (stl p.2 p.1).bind fun x => match x.1 with
    | .list ds => .ok (enuD 0 ds, x.2)
    | .tuple ds => .ok (enuD 0 ds, x.2)
    | _ => .bad := rfl
@[simp] theorem i_r1 : evI Φ (.rng1 a) ρ = (evE Φ a ρ).bind fun p => (rd p.2 p.1).bind fun x => match x with
    | .int i => Res.guard (okRng i) (.ok (rngD 0 i, p.2))
    | _ => .bad := rfl
@[simp] theorem s_for (x : CS) : evS Φ m np (.for_ t a x) ρ = (evI Φ a ρ).bind fun p => forGo (fun d ρ => (bt np t d ρ).bind fun ρ => evS Φ m np x ρ) p.1 p.2 := rfl
@[simp] theorem s_whl (x : CS) : evS Φ m np (.whl c x) ρ = whlGo (fun ρ => tst (evE Φ c ρ)) (fun ρ => evS Φ m np x ρ) m ρ := rfl
@[simp] theorem cnd_nil (r : Res (Rv × Rho)) : cnd .nil ρ r = .ok (true, ρ) := rfl
@[simp] theorem seqD_l (ds : List PyData) : seqD (.list ds) = .ok ds := rfl
@[simp] theorem seqD_t (ds : List PyData) : seqD (.tuple ds) = .ok ds := rfl
theorem lcGo_map {f : PyData → Rho → Res (List PyData × Rho)} {ρ : Rho} {g : PyData → List PyData} : ∀ {ds acc : List PyData}, (∀ d ∈ ds, f d ρ = .ok (g d, ρ)) → (acc ++ (ds.map g).flatten).length ≤ lim → lcGo f ds acc ρ = .ok (acc ++ (ds.map g).flatten, ρ)
  | [], acc, _, _ => by simp [lcGo]
  | d :: ds, acc, h, hl => by
    have hl2 : ((acc ++ g d) ++ (ds.map g).flatten).length ≤ lim := by simpa using hl
    have h1 : (acc ++ g d).length ≤ lim := by
      simp only [List.length_append] at hl2 ⊢
      omega
    unfold lcGo
    rw [h d (List.mem_cons_self ..)]
    show Res.guard (decide ((acc ++ g d).length ≤ lim)) _ = _
    rw [decide_eq_true h1]
    show lcGo f ds (acc ++ g d) ρ = _
    rw [lcGo_map (fun x hx => h x (List.mem_cons_of_mem _ hx)) hl2]
    simp
theorem forGo_ind {f : PyData → Rho → Res (Fl × Rho)} (Pv : Nat → Rho → Prop) : ∀ {ds : List PyData} {k : Nat} {ρ : Rho}, Pv k ρ → (∀ i d ρ, ds[i]? = some d → Pv (k + i) ρ → ∃ ρ', f d ρ = .ok (.nxt, ρ') ∧ Pv (k + i + 1) ρ') → ∃ ρ', forGo f ds ρ = .ok (.nxt, ρ') ∧ Pv (k + ds.length) ρ'
  | [], k, ρ, h, _ => ⟨ρ, rfl, h⟩
  | d :: ds, k, ρ, h, hs => by
    obtain ⟨ρ1, e1, p1⟩ := hs 0 d ρ rfl h
    obtain ⟨ρ2, e2, p2⟩ := forGo_ind Pv (ds := ds) (k := k + 1) p1 fun i x ρ hx hp => by
      obtain ⟨ρ', e', p'⟩ := hs (i + 1) x ρ (by simpa using hx) (by rw [show k + (i + 1) = k + 1 + i by omega]; exact hp)
      exact ⟨ρ', e', by rw [show k + 1 + i + 1 = k + (i + 1) + 1 by omega]; exact p'⟩
    refine ⟨ρ2, ?_, by rw [List.length_cons, show k + (ds.length + 1) = k + 1 + ds.length by omega]; exact p2⟩
    unfold forGo
    rw [e1]
    exact e2
theorem whlGo_ind {c : Rho → Res (Bool × Rho)} {b : Rho → Res (Fl × Rho)} (Pv : Nat → Rho → Prop) (Fin : Rho → Prop) (hs : ∀ k ρ, Pv k ρ → (∃ ρ', c ρ = .ok (true, ρ') ∧ ∃ ρ2, b ρ' = .ok (.nxt, ρ2) ∧ ∃ j, j < k ∧ Pv j ρ2) ∨ ∃ ρ', c ρ = .ok (false, ρ') ∧ Fin ρ') :
    ∀ {k m : Nat} {ρ : Rho}, k < m → Pv k ρ → ∃ ρ', whlGo c b m ρ = .ok (.nxt, ρ') ∧ Fin ρ' := by
  intro k
  induction k using Nat.strongRecOn with
  | _ k ih =>
    intro m ρ hm hp
    cases m with
    | zero => omega
    | succ m =>
      rcases hs k ρ hp with ⟨ρ1, e1, ρ2, e2, j, hj, p2⟩ | ⟨ρ1, e1, p1⟩
      · obtain ⟨ρ3, e3, p3⟩ := @ih j hj m ρ2 (by omega) p2
        refine ⟨ρ3, ?_, p3⟩
        unfold whlGo
        rw [e1]
        show (b ρ1).bind _ = _
        rw [e2]
        exact e3
      · refine ⟨ρ1, ?_, p1⟩
        unfold whlGo
        rw [e1]
        rfl
theorem sdK_id {α : Type} {key : α → Int} : ∀ {xs : List α}, xs.Pairwise (fun a b => key a < key b) → sdK key xs = xs
  | [], _ => rfl
  | [x], _ => rfl
  | x :: y :: xs, h => by
    obtain ⟨h1, h2⟩ := List.pairwise_cons.mp h
    show insK key x (sdK key (y :: xs)) = _
    rw [sdK_id h2]
    unfold insK
    rw [if_pos (h1 y (List.mem_cons_self ..))]
end
/-! ### data that may be compared -/
def Lay (n : Nat) (d : PyData) : Prop := d.canLay0 = true ∧ d.depth ≤ n
theorem Lay.int {n : Nat} (i : Int) : Lay n (.int i) := ⟨rfl, Nat.zero_le _⟩
theorem Lay.bool {n : Nat} (i : Bool) : Lay n (.bool i) := ⟨rfl, Nat.zero_le _⟩
theorem Lay.none {n : Nat} : Lay n .none := ⟨rfl, Nat.zero_le _⟩
theorem lay_all {n : Nat} : ∀ {ds : List PyData}, (∀ d ∈ ds, Lay n d) → PyData.canLayAll0 ds = true ∧ PyData.depthAll ds ≤ n
  | [], _ => ⟨rfl, Nat.zero_le _⟩
  | d :: ds, h => by
    obtain ⟨h1, h2⟩ := h d (List.mem_cons_self ..)
    obtain ⟨h3, h4⟩ := lay_all fun x hx => h x (List.mem_cons_of_mem _ hx)
    refine ⟨?_, ?_⟩
    · unfold PyData.canLayAll0
      rw [h1, h3]
      rfl
    · unfold PyData.depthAll
      omega
theorem Lay.tup {n : Nat} {ds : List PyData} (h : ∀ d ∈ ds, Lay n d) : Lay (n + 1) (.tuple ds) := by
  obtain ⟨h1, h2⟩ := lay_all h
  refine ⟨by unfold PyData.canLay0; exact h1, by unfold PyData.depth; omega⟩
theorem Lay.lst {n : Nat} {ds : List PyData} (h : ∀ d ∈ ds, Lay n d) : Lay (n + 1) (.list ds) := by
  obtain ⟨h1, h2⟩ := lay_all h
  refine ⟨by unfold PyData.canLay0; exact h1, by unfold PyData.depth; omega⟩
theorem Lay.up {n k : Nat} {d : PyData} (h : Lay n d) (hk : n ≤ k) : Lay k d := ⟨h.1, Nat.le_trans h.2 hk⟩
theorem Lay.shp {n : Nat} {d : PyData} (h : Lay n d) (hn : n ≤ 64) : Rt.shp d = true := by
  show (d.canLay0 && decide (d.depth ≤ 64)) = true
  rw [h.1, decide_eq_true (Nat.le_trans h.2 hn)]
  rfl
theorem eq_t {xs ys : List PyData} (h1 : Lay 64 (.tuple xs)) (h2 : Lay 64 (.tuple ys)) : cmpR .eq (.tuple xs) (.tuple ys) = .ok (PyData.eqv (.tuple xs) (.tuple ys)) := by
  show Res.guard (Rt.shp (.tuple xs) && Rt.shp (.tuple ys)) _ = _
  rw [h1.shp (Nat.le_refl _), h2.shp (Nat.le_refl _)]
  rfl
theorem eq_l {xs ys : List PyData} (h1 : Lay 64 (.list xs)) (h2 : Lay 64 (.list ys)) : cmpR .eq (.list xs) (.list ys) = .ok (PyData.eqv (.list xs) (.list ys)) := by
  show Res.guard (Rt.shp (.list xs) && Rt.shp (.list ys)) _ = _
  rw [h1.shp (Nat.le_refl _), h2.shp (Nat.le_refl _)]
  rfl
theorem eq_l_self {xs : List PyData} (h1 : Lay 64 (.list xs)) : cmpR .eq (.list xs) (.list xs) = .ok true := by
  rw [eq_l h1 h1, SeqAt.eqv_refl _ h1.1]
theorem eq_t_self {xs : List PyData} (h1 : Lay 64 (.tuple xs)) : cmpR .eq (.tuple xs) (.tuple xs) = .ok true := by
  rw [eq_t h1 h1, SeqAt.eqv_refl _ h1.1]
theorem boolsOf_map (bs : List Bool) : boolsOf (bs.map PyData.bool) = some bs := by
  induction bs with
  | nil => rfl
  | cons b bs ih => simp [boolsOf, ih]
theorem intsOf_map (is : List Int) : intsOf (is.map PyData.int) = some is := by
  induction is with
  | nil => rfl
  | cons b bs ih => simp [intsOf, ih]
@[simp] theorem slc_e (Φ : Fenv) (a lo hi : CE) (ρ : Rho) : evE Φ (.slc a lo hi) ρ = (evE Φ a ρ).bind fun p => (opt lo p.2 (evE Φ lo p.2)).bind fun l => (opt hi l.2 (evE Φ hi l.2)).bind fun h =>
      (rd h.2 p.1).bind fun x => (slcR x l.1 h.1).bind fun s => .ok (.val s, h.2) := rfl
@[simp] theorem app_e (Φ : Fenv) (i : Nat) (as : CE) (ρ : Rho) : evE Φ (.mut .append i as) ρ = Res.guard (kindU .append (gt ρ i)) ((evL Φ as ρ).bind fun p => match gt p.2 i with
    | .own o => (mutR .append o p.1).bind fun r => .ok (.val r.1, p.2.set i (.own r.2))
    | _ => .bad) := rfl
@[simp] theorem kindU_l (ds : List PyData) : kindU .append (.own (.lst ds)) = true := rfl
@[simp] theorem mutR_l (ds : List PyData) (d : PyData) : mutR .append (.lst ds) [d] = Res.guard (decide (ds.length < lim)) (.ok (.shr .none, .lst (ds ++ [d]))) := rfl
@[simp] theorem s_par (Φ : Fenv) (m np : Nat) (is : List Nat) (es : CE) (ρ : Rho) : evS Φ m np (.par is es) ρ = (evA Φ es ρ).bind fun p => (taks p.2 p.1).bind fun q => Res.guard (decide is.Nodup) ((stAll np is q.1 q.2).bind fun ρ => .ok (.nxt, ρ)) := rfl
@[simp] theorem s_aug (Φ : Fenv) (m np i : Nat) (o : Bop) (e : CE) (ρ : Rho) : evS Φ m np (.aug i o e) ρ = augF np i o (fun ρ => evE Φ e ρ) ρ := rfl
@[simp] theorem retR_nam (np i : Nat) (ρ : Rho) : retR np ρ (.nam i) = match gt ρ i with
    | .own o => if i < np then .ok (.shr o.dat, ρ.set i (.shr o.dat)) else .ok (.own o, ρ.set i .un)
    | .shr d => .ok (.shr d, ρ)
    | .un => .bad := rfl
@[simp] theorem opt_nil (ρ : Rho) (r : Res (Rv × Rho)) : opt .nil ρ r = .ok (none, ρ) := rfl
@[simp] theorem opt_int (i : Int) (ρ ρ2 : Rho) : opt (.cst (.int i)) ρ2 (.ok (.val (.shr (.int i)), ρ)) = .ok (some i, ρ) := rfl
/-- a def by its number -/
def cF (tbl : List CF) (m n np ns : Nat) (c : CS) (as : List Sl) : Res (Sl × List Sl) := (evS (evF tbl m n) m np c (as ++ List.replicate (ns - np) .un)).bind fun p => Res.guard ((p.2.take np).all fun s => !isUn s) (match p.1 with
      | .nxt => .ok (.shr .none, p.2.take np)
      | .ret s => .ok (s, p.2.take np)
      | _ => .bad)
theorem call_F {tbl : List CF} {m n j np ns : Nat} {c : CS} (h : tbl[j]? = some ⟨np, ns, c⟩) {as : List Sl} (hl : as.length = np) : evF tbl m (n + 1) j as = cF tbl m n np ns c as := by
  unfold evF
  rw [h]
  show Res.guard (decide (as.length = np)) _ = _
  rw [decide_eq_true hl]
  rfl
end Rt
set_option maxRecDepth 100000
set_option maxHeartbeats 4000000
namespace Lw
open PySem Rt
variable {m n : Nat}
def isIntD : PyData → Bool
  | .int _ => true
  | _ => false
theorem f0 (d : PyData) (h : notDc d = true) : evF tbl m (n + 1) 0 [.shr d] = .ok (.shr (.bool (isIntD d)), [.shr d]) := by
  cases d <;> first
    | (cases h; done)
    | rfl
def inD (d : PyData) (lo hi : Int) : Bool := match d with
  | .int i => decide (lo ≤ i) && decide (i ≤ hi)
  | _ => false
theorem f1 (d : PyData) (lo hi : Int) (h : notDc d = true) : evF tbl m (n + 2) 1 [.shr d, .shr (.int lo), .shr (.int hi)] = .ok (.shr (.bool (inD d lo hi)), [.shr d, .shr (.int lo), .shr (.int hi)]) := by
  rw [call_F (np := 3) (ns := 3) (c := c1) rfl rfl]
  cases d with
  | int i =>
    simp [cF, c1, f0 _ h, isIntD, inD]
    by_cases h1 : lo ≤ i <;> simp [h1]
  | dict _ => cases h
  | _ => simp [cF, c1, f0 _ h, isIntD, inD]
/-- a tuple of a length -/
def isTupD (d : PyData) (lo hi : Int) : Bool := match d with
  | .tuple ds => decide (lo ≤ ds.length) && decide ((ds.length : Int) ≤ hi)
  | _ => false
theorem f2 (d : PyData) (lo hi : Int) (h : notDc d = true) : evF tbl m (n + 1) 2 [.shr d, .shr (.int lo), .shr (.int hi)] = .ok (.shr (.bool (isTupD d lo hi)), [.shr d, .shr (.int lo), .shr (.int hi)]) := by
  rw [call_F (np := 3) (ns := 3) (c := c2) rfl rfl]
  cases d with
  | tuple ds =>
    simp [cF, c2, isTupD, notDc, tyIs]
    by_cases h1 : lo ≤ ds.length <;> simp [h1]
  | dict _ => cases h
  | _ => simp [cF, c2, isTupD, notDc, tyIs]
/-! ### the plays -/
abbrev Br := Int × Int × Int
abbrev Sc := Option (Int × List Br)
def brD (b : Br) : PyData := .tuple [.int b.1, .int b.2.1, .int b.2.2]
def scD : Sc → PyData
  | none => .none
  | some p => .tuple [.int p.1, .tuple (p.2.map brD)]
structure Play where
  k : Int
  sc : List Sc
def Play.d (p : Play) : PyData := .tuple [.int p.k, .tuple (p.sc.map scD)]
theorem at0 {α : Type} (x : α) (xs : List α) : L2.atI (x :: xs) 0 = some x := by simp [L2.atI, L2.ixN]
theorem at1 {α : Type} (x y : α) (xs : List α) : L2.atI (x :: y :: xs) 1 = some y := L2.atI_nat (j := 1) rfl
theorem at2 {α : Type} (x y z : α) (xs : List α) : L2.atI (x :: y :: z :: xs) 2 = some z := L2.atI_nat (j := 2) rfl
theorem atN {α : Type} {xs : List α} {j : Nat} {x : α} (h : xs[j]? = some x) : L2.atI xs (j : Int) = some x := L2.atI_nat h
def brOk (k sp len : Int) (b : Br) : Prop := 0 ≤ b.1 ∧ b.1 < k ∧ b.1 ≠ sp ∧ 0 ≤ b.2.1 ∧ b.2.1 < 6 ∧ 0 ≤ b.2.2 ∧ b.2.2 < len
theorem f3 {b : Br} {k sp len : Int} (h : brOk k sp len b) : evF tbl m (n + 3) 3 [.shr (brD b), .shr (.int k), .shr (.int sp), .shr (.int len)] = .ok (.shr (.bool true), [.shr (brD b), .shr (.int k), .shr (.int sp), .shr (.int len)]) := by
  rw [call_F (np := 4) (ns := 4) (c := c3) rfl rfl]
  obtain ⟨h1, h2, h3, h4, h5, h6, h7⟩ := h
  have e1 : b.1 ≤ k - 1 := by omega
  have e2 : b.2.1 ≤ 5 := by omega
  have e3 : b.2.2 ≤ len - 1 := by omega
  have g2 := fun ds lo hi => f2 (m := m) (n := n + 1) (.tuple ds) lo hi rfl
  have g1 := fun i lo hi => f1 (m := m) (n := n) (.int i) lo hi rfl
  simp only [Nat.add_assoc, Nat.reduceAdd] at g2
  simp [cF, c3, brD, g2, isTupD, at0, at1, at2, g1, inD, h1, h3, h4, h6, e1, e2, e3]
/-! ### a scene that is told -/
abbrev headK (b : Br) : Int := TS.code setB [b.1, b.2.1]
structure ScOk (k len : Int) (sp : Int) (brs : List Br) : Prop where
  sp0 : 0 ≤ sp
  sp1 : sp < k
  ne : brs ≠ []
  br : ∀ b ∈ brs, brOk k sp len b
  up : brs.Pairwise fun a b => headK a < headK b
  few : brs.length < 64
theorem lay_br (b : Br) : Lay 1 (brD b) := .tup fun d hd => by
  simp at hd
  rcases hd with rfl | rfl | rfl <;> exact .int _
theorem lay_brs (brs : List Br) : Lay 2 (.tuple (brs.map brD)) := .tup fun d hd => by
  obtain ⟨b, _, rfl⟩ := List.mem_map.mp hd
  exact lay_br b
def hdD (b : Br) : PyData := .tuple [.int b.1, .int b.2.1]
theorem lay_hd (b : Br) : Lay 1 (hdD b) := .tup fun d hd => by
  simp at hd
  rcases hd with rfl | rfl <;> exact .int _
theorem lay_hds (brs : List Br) : Lay 2 (.list (brs.map hdD)) := .lst fun d hd => by
  obtain ⟨b, _, rfl⟩ := List.mem_map.mp hd
  exact lay_hd b
theorem eq_nil {brs : List Br} (h : brs ≠ []) : cmpR .eq (.tuple (brs.map brD)) (.tuple []) = .ok false := by
  rw [eq_t ((lay_brs brs).up (by decide)) (.tup fun d hd => by cases hd)]
  cases brs with
  | nil => exact absurd rfl h
  | cons b bs => rfl
theorem all_true {α : Type} (l : List α) : biR .all [.list (l.map fun _ => .bool true)] = .ok (.shr (.bool true)) := by
  have e : l.map (fun _ => PyData.bool true) = (l.map fun _ => true).map PyData.bool := by simp
  show (Res.get (boolsOf _)).bind _ = _
  rw [e, boolsOf_map]
  simp
theorem slc_br (b : Br) : slcR (brD b) none (some 2) = .ok (.shr (hdD b)) := rfl
theorem sset_hd {k sp len : Int} {brs : List Br} (hb : ∀ b ∈ brs, brOk k sp len b) (hk : k ≤ 64) (hu : brs.Pairwise fun a b => headK a < headK b) (hn : brs ≠ []) (hf : brs.length < 64) : biR .sset [.list (brs.map hdD)] = .ok (.own (.lst (brs.map hdD))) := by
  have e1 : intsOf (brs.map hdD) = none := by
    cases brs with
    | nil => exact absurd rfl hn
    | cons b bs => rfl
  have e2 : ∀ bs : List Br, tupsOf (bs.map hdD) = some (bs.map fun b => [b.1, b.2.1]) := fun bs => by
    induction bs with
    | nil => rfl
    | cons b bs ih =>
      show (intsOf [.int b.1, .int b.2.1]).bind (fun is => (tupsOf (bs.map hdD)).map (is :: ·)) = _
      rw [ih]
      rfl
  show (ssetR (brs.map hdD)).bind _ = _
  unfold ssetR
  rw [e1, e2]
  have e3 : sdK (TS.code setB) (brs.map fun b => [b.1, b.2.1]) = brs.map fun b => [b.1, b.2.1] := sdK_id (by rw [List.pairwise_map]; exact hu)
  have e4 : ((brs.map fun b => [b.1, b.2.1]).headD []).length = 2 := by
    cases brs with
    | nil => exact absurd rfl hn
    | cons b bs => rfl
  have g : (decide ((brs.map fun b => [b.1, b.2.1]).length < 64) && decide (1 ≤ ((brs.map fun b => [b.1, b.2.1]).headD []).length) && (brs.map fun b => [b.1, b.2.1]).all fun t => decide (t.length = ((brs.map fun b => [b.1, b.2.1]).headD []).length) && t.all fun m => decide (0 ≤ m) && decide (m < setB)) = true := by
    rw [e4]
    simp only [List.length_map, Bool.and_eq_true, decide_eq_true_eq, List.all_eq_true]
    refine ⟨⟨hf, by decide⟩, fun t ht => ?_⟩
    obtain ⟨b, hb', rfl⟩ := List.mem_map.mp ht
    obtain ⟨h1, h2, h3, h4, h5, h6, h7⟩ := hb b hb'
    refine ⟨rfl, fun m hm => ?_⟩
    simp at hm
    unfold setB
    rcases hm with rfl | rfl <;> omega
  dsimp only
  rw [g, e3]
  simp [hdD, Function.comp_def]
theorem lc_calls {f : PyData → Rho → Res (List PyData × Rho)} {ρ : Rho} {brs : List Br} {g : Br → PyData} (h : ∀ b ∈ brs, f (brD b) ρ = .ok ([g b], ρ)) (hl : brs.length ≤ lim) : lcGo f (brs.map brD) [] ρ = .ok (brs.map g, ρ) := by
  have e : ∀ (bs : List Br) (acc : List PyData), (∀ b ∈ bs, f (brD b) ρ = .ok ([g b], ρ)) → (acc ++ bs.map g).length ≤ lim → lcGo f (bs.map brD) acc ρ = .ok (acc ++ bs.map g, ρ) := fun bs => by
    induction bs with
    | nil => intro acc _ _; simp [lcGo]
    | cons b bs ih =>
      intro acc h hl
      have hl2 : ((acc ++ [g b]) ++ bs.map g).length ≤ lim := by simpa using hl
      have h1 : (acc ++ [g b]).length ≤ lim := by
        simp only [List.length_append] at hl2 ⊢
        omega
      show lcGo f (brD b :: bs.map brD) acc ρ = _
      unfold lcGo
      rw [h b (List.mem_cons_self ..)]
      show Res.guard (decide ((acc ++ [g b]).length ≤ lim)) _ = _
      rw [decide_eq_true h1]
      show lcGo f (bs.map brD) (acc ++ [g b]) ρ = _
      rw [ih _ (fun x hx => h x (List.mem_cons_of_mem _ hx)) hl2]
      simp
  simpa using e brs [] h (by simpa using hl)
theorem f4 {k len sp : Int} {brs : List Br} (h : ScOk k len sp brs) (hk : k ≤ 64) : evF tbl m (n + 4) 4 [.shr (scD (some (sp, brs))), .shr (.int k), .shr (.int len)] = .ok (.shr (.bool true), [.shr (scD (some (sp, brs))), .shr (.int k), .shr (.int len)]) := by
  rw [call_F (np := 3) (ns := 5) (c := c4) rfl rfl]
  have g2 := fun ds lo hi => f2 (m := m) (n := n + 2) (.tuple ds) lo hi rfl
  have g1 := fun i lo hi => f1 (m := m) (n := n + 1) (.int i) lo hi rfl
  simp only [Nat.add_assoc, Nat.reduceAdd] at g2 g1
  have e1 : sp ≤ k - 1 := by have := h.sp1; omega
  have l1 : brs.length ≤ lim := Nat.le_trans (Nat.le_of_lt h.few) (by decide)
  have c1' : lcGo (lcT (evF tbl m (n + 3)) (.v 3) .nil (.call 3 (.cons false (.var 3) (.cons false (.var 1) (.cons false (.idx (.var 0) (.cst (.int 0))) (.cons false (.var 2) .nil))))) [3]) (brs.map brD) []
      [.shr (scD (some (sp, brs))), .shr (.int k), .shr (.int len), .un, .un] = .ok (brs.map fun _ => .bool true, [.shr (scD (some (sp, brs))), .shr (.int k), .shr (.int len), .un, .un]) := by
    refine lc_calls (fun b hb => ?_) l1
    have := f3 (m := m) (n := n) (h.br b hb)
    simp [lcT, bt, brD, scD, at0, wipeR] at this ⊢
    rw [this]
    simp
  have c2' : lcGo (lcT (evF tbl m (n + 3)) (.v 3) .nil (.slc (.var 3) .nil (.cst (.int 2))) [3]) (brs.map brD) []
      [.shr (scD (some (sp, brs))), .shr (.int k), .shr (.int len), .un, .un] = .ok (brs.map hdD, [.shr (scD (some (sp, brs))), .shr (.int k), .shr (.int len), .un, .un]) := by
    refine lc_calls (fun b hb => ?_) l1
    have := slc_br b
    simp [lcT, bt, brD, scD, wipeR] at this ⊢
    rw [this]
    simp
  have a1 := all_true brs
  have s1 := sset_hd h.br hk h.up h.ne h.few
  have q1 := eq_l_self ((lay_hds brs).up (show 2 ≤ 64 by decide))
  simp [scD] at c1' c2'
  simp [cF, c4, scD, isNo, g2, isTupD, at0, at1, g1, inD, h.sp0, e1, notDc, tyIs, eq_nil h.ne, wipeR, c1', c2', backR, a1, stS, s1, q1]
theorem f4n {k len : Int} : evF tbl m (n + 1) 4 [.shr .none, .shr (.int k), .shr (.int len)] = .ok (.shr (.bool true), [.shr .none, .shr (.int k), .shr (.int len)]) := by
  rw [call_F (np := 3) (ns := 5) (c := c4) rfl rfl]
  simp [cF, c4, isNo]
structure PlOk (p : Play) : Prop where
  k2 : 2 ≤ p.k
  k4 : p.k ≤ 4
  l1 : 1 ≤ p.sc.length
  l8 : p.sc.length ≤ 8
  sc : ∀ sp brs, some (sp, brs) ∈ p.sc → ScOk p.k p.sc.length sp brs
theorem f4s {p : Play} (h : PlOk p) {s : Sc} (hs : s ∈ p.sc) : evF tbl m (n + 4) 4 [.shr (scD s), .shr (.int p.k), .shr (.int p.sc.length)] = .ok (.shr (.bool true), [.shr (scD s), .shr (.int p.k), .shr (.int p.sc.length)]) := by
  cases s with
  | none => exact f4n
  | some q => exact f4 (h.sc q.1 q.2 hs) (by have := h.k4; omega)
theorem f5 {p : Play} (h : PlOk p) : evF tbl m (n + 5) 5 [.shr p.d] = .ok (.shr .none, [.shr p.d]) := by
  rw [call_F (np := 1) (ns := 3) (c := c5) rfl rfl]
  have g2 := fun ds lo hi => f2 (m := m) (n := n + 3) (.tuple ds) lo hi rfl
  have g1 := fun i lo hi => f1 (m := m) (n := n + 2) (.int i) lo hi rfl
  simp only [Nat.add_assoc, Nat.reduceAdd] at g2 g1
  have hk2 := h.k2
  have hk4 := h.k4
  have hl1 : (1 : Int) ≤ p.sc.length := by have := h.l1; omega
  have hl8 : (p.sc.length : Int) ≤ 8 := by have := h.l8; omega
  obtain ⟨ρ', e, a, b, hρ⟩ := forGo_ind (f := fun d ρ => (bt 1 (.cons (.v 1) (.cons (.v 2) .nil)) d ρ).bind fun ρ => evS (evF tbl m (n + 4)) m 1 (.seq (.ife (.not (.call 4 (.cons false (.var 2) (.cons false (.idx (.var 0) (.cst (.int 0))) (.cons false (.bi .len (.cons false (.idx (.var 0) (.cst (.int 1))) (.nil))) (.nil)))))) (.seq (.raise 0 .nil) (.skip)) (.skip)) (.skip)) ρ)
      (fun _ ρ => ∃ a b, ρ = [.shr p.d, a, b]) (ds := enuD 0 (p.sc.map scD)) (k := 0) (ρ := [.shr p.d, .un, .un]) ⟨_, _, rfl⟩ fun i d ρ hd ⟨a, b, hρ⟩ => by
    have hz : ∃ z, (p.sc.map scD)[i]? = some z ∧ d = .tuple [.int (i : Nat), z] := by
      have key : ∀ (n : Nat) (ds : List PyData) (i : Nat) (d : PyData), (enuD n ds)[i]? = some d → ∃ z, ds[i]? = some z ∧ d = .tuple [.int (n + i : Nat), z] := fun n ds => by
        induction ds generalizing n with
        | nil => intro i d h; simp [enuD] at h
        | cons x ds ih =>
          intro i d h
          cases i with
          | zero => simp [enuD] at h; exact ⟨x, rfl, h.symm⟩
          | succ i =>
            obtain ⟨z, h1, h2⟩ := ih (n + 1) i d (by simpa [enuD] using h)
            exact ⟨z, by simpa using h1, by rw [h2, show n + 1 + i = n + (i + 1) by omega]⟩
      obtain ⟨z, h1, h2⟩ := key 0 _ i d hd
      exact ⟨z, h1, by simpa using h2⟩
    obtain ⟨z, hz, rfl⟩ := hz
    rw [List.getElem?_map] at hz
    obtain ⟨s, hs, rfl⟩ := Option.map_eq_some_iff.mp hz
    have f := f4s (m := m) (n := n) h (List.mem_of_getElem? hs)
    subst hρ
    refine ⟨[.shr p.d, .shr (.int (i : Nat)), .shr (scD s)], by simp [Play.d, bt, bts, at0, at1, f], _, _, rfl⟩
  subst hρ
  simp [cF, c5, Play.d, g2, g1, isTupD, inD, at0, at1, hk2, hk4, hl1, hl8] at e ⊢
  rw [e]
  simp
/-! ### next_of, reach_in -/
def tgD (b : Br) : PyData := .int b.2.2
def nextL (p : Play) (i : Nat) : List Int := match p.sc[i]? with
  | some (some q) => q.2.map (·.2.2)
  | _ => []
/-- the targets that are not there yet, one after another -/
def addAll (f : List Int) (ts : List Int) : List Int := ts.foldl (fun acc t => if t ∈ acc then acc else acc ++ [t]) f
def bfs (p : Play) : Nat → List Int → Nat → List Int
  | 0, f, _ => f
  | k + 1, f, a => match f[a]? with
    | some x => bfs p k (addAll f (nextL p x.toNat)) (a + 1)
    | none => f
def InR (p : Play) (f : List Int) : Prop := f.Nodup ∧ ∀ x ∈ f, 0 ≤ x ∧ x < p.sc.length
theorem lay_ints (f : List Int) : Lay 1 (.list (f.map PyData.int)) := .lst fun d hd => by
  obtain ⟨b, _, rfl⟩ := List.mem_map.mp hd
  exact .int b
theorem in_l (t : Int) (f : List Int) : inR (.int t) (.list (f.map .int)) = .ok (decide (t ∈ f)) := by
  show Res.guard (shp (.int t) && shp (.list (f.map .int))) _ = _
  rw [(Lay.int (n := 1) t).shp (by decide), (lay_ints f).shp (by decide)]
  show Res.ok _ = _
  congr 1
  induction f with
  | nil => rfl
  | cons x f ih =>
    have e : PyData.eqv (.int x) (.int t) = decide (t = x) := by
      show (x == t) = _
      by_cases c : t = x
      · subst c; simp
      · have : ¬ x = t := fun z => c z.symm
        simp [c, this]
    simp only [List.map_cons, List.any_cons, e, ih, List.mem_cons]
    by_cases c : t = x <;> simp [c]
theorem nin_l (t : Int) (f : List Int) : cmpR .nin (.int t) (.list (f.map .int)) = .ok (!decide (t ∈ f)) := by
  show (inR _ _).bind _ = _
  rw [in_l]
  rfl
theorem inn_l (t : Int) (f : List Int) : cmpR .inn (.int t) (.list (f.map .int)) = .ok (decide (t ∈ f)) := in_l t f
theorem nodup_short {p : Play} {f : List Int} (h : InR p f) : f.length ≤ p.sc.length := by
  have h1 : (f.map Int.toNat).Nodup := by
    rw [List.nodup_iff_pairwise_ne, List.pairwise_map]
    refine List.Pairwise.imp_of_mem (R := fun a b => a ≠ b) ?_ h.1
    intro a b ha hb hab hc
    have h1 := h.2 a ha
    have h2 := h.2 b hb
    omega
  have h2 : ∀ x ∈ f.map Int.toNat, x ∈ List.range p.sc.length := fun x hx => by
    obtain ⟨y, hy, rfl⟩ := List.mem_map.mp hx
    have := h.2 y hy
    rw [List.mem_range]
    omega
  have := List.Nodup.length_le_of_subset h1 h2
  simpa using this
theorem addAll_snoc (f ts : List Int) (t : Int) : addAll f (ts ++ [t]) = if t ∈ addAll f ts then addAll f ts else addAll f ts ++ [t] := by
  unfold addAll
  rw [List.foldl_append]
  rfl
theorem addAll_inR {p : Play} {f : List Int} (h : InR p f) : ∀ {ts : List Int}, (∀ t ∈ ts, 0 ≤ t ∧ t < p.sc.length) → InR p (addAll f ts) := by
  intro ts
  induction ts generalizing f with
  | nil => exact fun _ => h
  | cons t ts ih =>
    intro ht
    show InR p (addAll (if t ∈ f then f else f ++ [t]) ts)
    refine ih ?_ fun x hx => ht x (List.mem_cons_of_mem _ hx)
    split
    · exact h
    · rename_i c
      refine ⟨?_, fun x hx => ?_⟩
      · rw [List.nodup_append]
        refine ⟨h.1, by simp, ?_⟩
        intro a ha b hb
        simp at hb
        subst hb
        rintro rfl
        exact c ha
      · rcases List.mem_append.mp hx with hx | hx
        · exact h.2 x hx
        · simp at hx
          rw [hx]
          exact ht t (List.mem_cons_self ..)
theorem nextL_in {p : Play} (h : PlOk p) (i : Nat) : ∀ t ∈ nextL p i, 0 ≤ t ∧ t < p.sc.length := by
  intro t ht
  unfold nextL at ht
  split at ht
  · rename_i q hq
    obtain ⟨b, hb, rfl⟩ := List.mem_map.mp ht
    obtain ⟨_, _, _, _, _, h6, h7⟩ := (h.sc q.1 q.2 (List.mem_of_getElem? hq)).br b hb
    exact ⟨h6, h7⟩
  · cases ht
theorem addAll_len (f : List Int) : ∀ ts : List Int, f.length ≤ (addAll f ts).length := by
  intro ts
  induction ts generalizing f with
  | nil => exact Nat.le_refl _
  | cons t ts ih =>
    refine Nat.le_trans ?_ (ih _)
    show f.length ≤ (if t ∈ f then f else f ++ [t]).length
    split <;> simp
/-- the inner loop -/
theorem f7i {p : Play} (h : PlOk p) {Φ : Fenv} {f ts : List Int} {s : Sl} {a : Int} {x : Sl} (hf : InR p f) (ht : ∀ t ∈ ts, 0 ≤ t ∧ t < p.sc.length) :
    ∃ y, forGo (fun d ρ => (bt 2 (.v 4) d ρ).bind fun ρ => evS Φ m 2 (.seq (.ife (.cmp .nin (.var 4) (.var 2)) (.seq (.exp (.mut .append 2 (.cons false (.var 4) (.nil)))) (.skip)) (.skip)) (.skip)) ρ) (ts.map .int) [.shr p.d, s, .own (.lst (f.map .int)), .shr (.int a), x]
      = .ok (.nxt, [.shr p.d, s, .own (.lst ((addAll f ts).map .int)), .shr (.int a), y]) := by
  obtain ⟨ρ', e, y, hy⟩ := forGo_ind (f := fun d ρ => (bt 2 (.v 4) d ρ).bind fun ρ => evS Φ m 2 (.seq (.ife (.cmp .nin (.var 4) (.var 2)) (.seq (.exp (.mut .append 2 (.cons false (.var 4) (.nil)))) (.skip)) (.skip)) (.skip)) ρ)
    (fun j ρ => ∃ y, ρ = [.shr p.d, s, .own (.lst ((addAll f (ts.take j)).map .int)), .shr (.int a), y]) (ds := ts.map .int) (k := 0) (ρ := [.shr p.d, s, .own (.lst (f.map .int)), .shr (.int a), x]) ⟨x, rfl⟩ fun i d ρ hd ⟨y, hρ⟩ => by
      rw [List.getElem?_map] at hd
      obtain ⟨t, ht1, rfl⟩ := Option.map_eq_some_iff.mp hd
      subst hρ
      simp only [Nat.zero_add]
      have hg : InR p (addAll f (ts.take i)) := addAll_inR hf fun z hz => ht z (List.mem_of_mem_take hz)
      have hl : (addAll f (ts.take i)).length < lim := by
        have := nodup_short hg
        have := h.l8
        have : (16 : Nat) < lim := by decide
        omega
      have e2 : ts.take (i + 1) = ts.take i ++ [t] := by rw [List.take_succ, ht1]; rfl
      rw [e2, addAll_snoc]
      generalize addAll f (ts.take i) = g at hg hl
      by_cases c : t ∈ g
      · refine ⟨[.shr p.d, s, .own (.lst (g.map .int)), .shr (.int a), .shr (.int t)], ?_, _, by rw [if_pos c]⟩
        simp [bt, nin_l, c]
      · refine ⟨[.shr p.d, s, .own (.lst ((g ++ [t]).map .int)), .shr (.int a), .shr (.int t)], ?_, _, by rw [if_neg c]⟩
        simp [bt, nin_l, c, hl]
  subst hy
  refine ⟨y, ?_⟩
  rw [e]
  simp
def reachL (p : Play) (s : Int) : List Int := bfs p 9 [s] 0
theorem bfs_done {p : Play} {k a : Nat} {f : List Int} (h : f.length ≤ a) : bfs p k f a = f := by
  cases k with
  | zero => rfl
  | succ k =>
    unfold bfs
    rw [List.getElem?_eq_none h]
/-! ### what is reached -/
inductive Reach (p : Play) (s : Int) : Int → Prop
  | refl : Reach p s s
  | step {x y : Int} : Reach p s x → y ∈ nextL p x.toNat → Reach p s y
theorem addAll_mem (f : List Int) : ∀ (ts : List Int) (x : Int), x ∈ addAll f ts ↔ x ∈ f ∨ x ∈ ts := by
  intro ts
  induction ts generalizing f with
  | nil => intro x; show x ∈ f ↔ _; simp
  | cons t ts ih =>
    intro x
    have e := ih (if t ∈ f then f else f ++ [t]) x
    show x ∈ addAll (if t ∈ f then f else f ++ [t]) ts ↔ _
    rw [e]
    split
    · rename_i c
      simp only [List.mem_cons]
      constructor
      · rintro (h | h)
        · exact .inl h
        · exact .inr (.inr h)
      · rintro (h | h | h)
        · exact .inl h
        · exact .inl (h ▸ c)
        · exact .inr h
    · simp [or_assoc]
theorem addAll_pre (f : List Int) : ∀ ts : List Int, ∃ g, addAll f ts = f ++ g := by
  intro ts
  induction ts generalizing f with
  | nil => exact ⟨[], by simp [addAll]⟩
  | cons t ts ih =>
    obtain ⟨g, e⟩ := ih (if t ∈ f then f else f ++ [t])
    by_cases c : t ∈ f
    · rw [if_pos c] at e
      exact ⟨g, by rw [← e]; show addAll (if t ∈ f then f else f ++ [t]) ts = _; rw [if_pos c]⟩
    · rw [if_neg c] at e
      refine ⟨t :: g, ?_⟩
      show addAll (if t ∈ f then f else f ++ [t]) ts = _
      rw [if_neg c, e]
      simp
theorem bfs_sound {p : Play} {s : Int} : ∀ (k : Nat) (f : List Int) (a : Nat), (∀ x ∈ f, Reach p s x) → ∀ x ∈ bfs p k f a, Reach p s x
  | 0, f, a, h => h
  | k + 1, f, a, h => by
    unfold bfs
    split
    · rename_i y hy
      refine bfs_sound k _ _ fun x hx => ?_
      rcases (addAll_mem f _ x).mp hx with hx | hx
      · exact h x hx
      · exact .step (h y (List.mem_of_getElem? hy)) hx
    · exact h
theorem bfs_closed {p : Play} (hp : PlOk p) : ∀ (k : Nat) (f : List Int) (a : Nat), a + k = 9 → a ≤ f.length → InR p f → (∀ j x, j < a → f[j]? = some x → ∀ y ∈ nextL p x.toNat, y ∈ f) →
    InR p (bfs p k f a) ∧ (∀ x ∈ f, x ∈ bfs p k f a) ∧ ∀ x ∈ bfs p k f a, ∀ y ∈ nextL p x.toNat, y ∈ bfs p k f a
  | 0, f, a, h1, h2, h3, _ => by
    have := nodup_short h3
    have := hp.l8
    omega
  | k + 1, f, a, h1, h2, h3, h4 => by
    unfold bfs
    split
    · rename_i y hy
      have hy2 := h3.2 y (List.mem_of_getElem? hy)
      obtain ⟨g, hg⟩ := addAll_pre f (nextL p y.toNat)
      have hlt : a < f.length := (List.getElem?_eq_some_iff.mp hy).1
      obtain ⟨r1, r2, r3⟩ := bfs_closed hp k (addAll f (nextL p y.toNat)) (a + 1) (by omega) (Nat.le_trans hlt (addAll_len _ _)) (addAll_inR h3 (nextL_in hp _)) fun j x hj hx z hz => by
        have hjf : j < f.length := by omega
        rw [hg, List.getElem?_append_left hjf] at hx
        rcases Nat.lt_succ_iff_lt_or_eq.mp hj with c | c
        · exact (addAll_mem _ _ _).mpr (.inl (h4 j x c hx z hz))
        · subst c
          rw [hy] at hx
          cases hx
          exact (addAll_mem _ _ _).mpr (.inr hz)
      exact ⟨r1, fun x hx => r2 x ((addAll_mem _ _ _).mpr (.inl hx)), r3⟩
    · rename_i hn
      have hlen : f.length ≤ a := by
        rcases Nat.lt_or_ge a f.length with c | c
        · rw [List.getElem?_eq_getElem c] at hn; cases hn
        · exact c
      refine ⟨h3, fun x hx => hx, fun x hx y hy => ?_⟩
      obtain ⟨j, hj, e⟩ := List.getElem_of_mem hx
      exact h4 j x (by omega) (by rw [List.getElem?_eq_getElem hj, e]) y hy
theorem reachL_ok {p : Play} (h : PlOk p) {s : Nat} (hs : s < p.sc.length) : InR p (reachL p s) ∧ ∀ x, x ∈ reachL p s ↔ Reach p s x := by
  obtain ⟨r1, r2, r3⟩ := bfs_closed h 9 [(s : Int)] 0 rfl (by simp) ⟨by simp, fun x hx => by simp at hx; subst hx; omega⟩ fun j x hj => by omega
  refine ⟨r1, fun x => ⟨fun hx => bfs_sound 9 _ _ (fun y hy => by simp at hy; subst hy; exact .refl) x hx, fun hx => ?_⟩⟩
  induction hx with
  | refl => exact r2 _ (by simp)
  | step _ hy ih => exact r3 _ ih _ hy
/-! ### sorted ints -/
def sortI (f : List Int) : List Int := f.mergeSort fun a b => decide (a ≤ b)
theorem leD_int (a b : Int) : leD (.int a) (.int b) = decide (a ≤ b) := by
  unfold leD
  rw [PySem.W.dataLt_int]
  by_cases h : a ≤ b
  · have : ¬ b < a := by omega
    simp [h, this]
  · have : b < a := by omega
    simp [h, this]
theorem sortD_ints (f : List Int) : sortD (f.map .int) = (sortI f).map .int := by
  unfold sortD sortI
  exact (List.map_mergeSort fun a _ b _ => (leD_int a b).symm).symm
theorem sortI_perm (f : List Int) : (sortI f).Perm f := List.mergeSort_perm _ _
theorem sortI_mem (f : List Int) (x : Int) : x ∈ sortI f ↔ x ∈ f := (sortI_perm f).mem_iff
theorem sortI_up (f : List Int) : (sortI f).Pairwise (fun a b => a ≤ b) := by
  have := List.pairwise_mergeSort (le := fun a b : Int => decide (a ≤ b)) (fun a b c h1 h2 => by simp at *; omega) (fun a b => by simp; omega) f
  exact this.imp fun h => by simpa using h
theorem sortI_eq {f g : List Int} (h : f.Perm g) : sortI f = sortI g := by
  have hp : (sortI f).Perm (sortI g) := (sortI_perm f).trans (h.trans (sortI_perm g).symm)
  exact hp.eq_of_pairwise (fun a b _ _ h1 h2 => by omega) (sortI_up f) (sortI_up g)
theorem sortI_same {f g : List Int} (hf : f.Nodup) (hg : g.Nodup) (h : ∀ x, x ∈ f ↔ x ∈ g) : sortI f = sortI g := sortI_eq ((List.perm_ext_iff_of_nodup hf hg).mpr h)
theorem okSort_ints (f : List Int) (h : f.length ≤ lim) : okSort (f.map .int) = true := by
  have a1 : ∀ f : List Int, alikes (f.map .int) = true := fun f => by
    induction f with
    | nil => rfl
    | cons x f ih =>
      show (PySem.W.alike (.int x) (.int x) && (f.map PyData.int).all (fun y => PySem.W.alike (.int x) y && PySem.W.alike y (.int x)) && alikes (f.map .int)) = true
      have e : ((f.map PyData.int).all fun y => PySem.W.alike (.int x) y && PySem.W.alike y (.int x)) = true := by
        refine List.all_eq_true.mpr fun y hy => ?_
        obtain ⟨z, _, rfl⟩ := List.mem_map.mp hy
        rfl
      rw [ih, e]
      rfl
  have a2 : ((f.map PyData.int).all fun d => decide (d.depth ≤ 64)) = true := by
    simp only [List.all_map, List.all_eq_true]
    intro x _
    exact decide_eq_true (show (PyData.int x).depth ≤ 64 from Nat.zero_le _)
  have a3 : ((f.map PyData.int).all notTN) = true := by
    simp only [List.all_map, List.all_eq_true]
    intro x _
    rfl
  unfold okSort
  rw [a1, a2, a3]
  simp [h]
theorem sorted_i {f : List Int} (h : f.length ≤ lim) : biR .sorted [.list (f.map .int)] = .ok (.own (.lst ((sortI f).map .int))) := by
  show Res.guard (okSort (f.map .int)) _ = _
  rw [okSort_ints f h, sortD_ints]
  rfl
theorem lim_big : 64 < lim := by decide
theorem reach_short {p : Play} (h : PlOk p) {s : Nat} (hs : s < p.sc.length) : (reachL p s).length ≤ 8 := Nat.le_trans (nodup_short (reachL_ok h hs).1) h.l8
theorem tup_l (ds : List PyData) : biR .tuple [.list ds] = .ok (.shr (.tuple ds)) := rfl
theorem lc_flt {α : Type} {f : PyData → Rho → Res (List PyData × Rho)} {ρ : Rho} {e : α → PyData} {q : α → Bool} {g : α → PyData} {xs : List α} (h : ∀ x ∈ xs, f (e x) ρ = .ok (if q x = true then [g x] else [], ρ)) (hl : xs.length ≤ lim) :
    lcGo f (xs.map e) [] ρ = .ok ((xs.filter q).map g, ρ) := by
  have key : ∀ (ys : List α) (acc : List PyData), (∀ x ∈ ys, f (e x) ρ = .ok (if q x = true then [g x] else [], ρ)) → acc.length + ys.length ≤ lim → lcGo f (ys.map e) acc ρ = .ok (acc ++ (ys.filter q).map g, ρ) := fun ys => by
    induction ys with
    | nil => intro acc _ _; simp [lcGo]
    | cons y ys ih =>
      intro acc h hl
      simp only [List.length_cons] at hl
      have h1 : (acc ++ (if q y = true then [g y] else [])).length ≤ lim := by
        split
        · simp only [List.length_append, List.length_singleton]; omega
        · simp only [List.append_nil]; omega
      have h2 : (acc ++ (if q y = true then [g y] else [])).length + ys.length ≤ lim := by
        split
        · simp only [List.length_append, List.length_singleton]; omega
        · simp only [List.append_nil]; omega
      show lcGo f (e y :: ys.map e) acc ρ = _
      unfold lcGo
      rw [h y (List.mem_cons_self ..)]
      show Res.guard (decide ((acc ++ (if q y = true then [g y] else [])).length ≤ lim)) _ = _
      rw [decide_eq_true h1]
      show lcGo f (ys.map e) (acc ++ (if q y = true then [g y] else [])) ρ = _
      rw [ih _ (fun x hx => h x (List.mem_cons_of_mem _ hx)) h2, List.filter_cons]
      split <;> simp
  have := key xs [] h (by simpa using hl)
  simpa using this
def scAt (p : Play) (x : Int) : Sc := (p.sc[x.toNat]?).getD none
theorem at_sc {p : Play} {x : Int} (h : 0 ≤ x ∧ x < p.sc.length) : L2.atI (p.sc.map scD) x = some (scD (scAt p x)) := by
  obtain ⟨z, rfl⟩ := Int.eq_ofNat_of_zero_le h.1
  have hz : z < p.sc.length := Int.ofNat_lt.mp h.2
  refine atN ?_
  rw [List.getElem?_map]
  unfold scAt
  rw [show ((z : Nat) : Int).toNat = z from rfl, List.getElem?_eq_getElem hz]
  rfl
def isEnd (p : Play) (x : Int) : Bool := (scAt p x).isNone
theorem isNo_sc (s : Sc) : isNo (scD s) = s.isNone := by cases s <;> rfl
theorem forGo_find {f : PyData → Rho → Res (Fl × Rho)} {Pv : Rho → Prop} {q : PyData → Bool} {s : Sl} : ∀ {ds : List PyData} {ρ : Rho}, (∀ d ∈ ds, ∀ ρ, Pv ρ → ∃ ρ', Pv ρ' ∧ f d ρ = .ok (if q d = true then .ret s else .nxt, ρ')) → Pv ρ → ∃ ρ', Pv ρ' ∧ forGo f ds ρ = .ok (if ds.any q = true then .ret s else .nxt, ρ')
  | [], ρ, _, h => ⟨ρ, h, rfl⟩
  | d :: ds, ρ, hs, h => by
    obtain ⟨ρ1, p1, e1⟩ := hs d (List.mem_cons_self ..) ρ h
    unfold forGo
    rw [e1]
    by_cases c : q d = true
    · exact ⟨ρ1, p1, by simp [c]⟩
    · obtain ⟨ρ2, p2, e2⟩ := forGo_find (ds := ds) (fun x hx => hs x (List.mem_cons_of_mem _ hx)) p1
      refine ⟨ρ2, p2, ?_⟩
      rw [if_neg c]
      show forGo f ds ρ1 = _
      rw [e2]
      simp [c]
theorem toN {p : Play} {x : Int} (h : 0 ≤ x ∧ x < p.sc.length) : ∃ z : Nat, x = (z : Int) ∧ z < p.sc.length := by
  obtain ⟨z, rfl⟩ := Int.eq_ofNat_of_zero_le h.1
  exact ⟨z, rfl, Int.ofNat_lt.mp h.2⟩
def intOf : PyData → Int
  | .int i => i
  | _ => 0
theorem any_ints (f : List Int) (q : Int → Bool) : (f.map PyData.int).any (fun d => q (intOf d)) = f.any q := by
  rw [List.any_map]
  rfl
def hasR (p : Play) : Bool := (reachL p (0 : Nat)).any fun x => (nextL p x.toNat).any fun y => decide (x ∈ reachL p y)
theorem lc_mapg {α : Type} {f : PyData → Rho → Res (List PyData × Rho)} {ρ : Rho} {e : α → PyData} {g : α → PyData} {xs : List α} (h : ∀ x ∈ xs, f (e x) ρ = .ok ([g x], ρ)) (hl : xs.length ≤ lim) : lcGo f (xs.map e) [] ρ = .ok (xs.map g, ρ) := by
  have := lc_flt (f := f) (ρ := ρ) (e := e) (q := fun _ => true) (g := g) (xs := xs) (fun x hx => by rw [h x hx]; rfl) hl
  rw [this, List.filter_eq_self.mpr fun _ _ => rfl]
theorem any_b {α : Type} (l : List α) (q : α → Bool) : biR .any [.list (l.map fun x => .bool (q x))] = .ok (.shr (.bool (l.any q))) := by
  have e : l.map (fun x => PyData.bool (q x)) = (l.map q).map PyData.bool := by simp
  show (Res.get (boolsOf _)).bind _ = _
  rw [e, boolsOf_map]
  simp [List.any_map, Function.comp_def]
theorem all_b {α : Type} (l : List α) (q : α → Bool) : biR .all [.list (l.map fun x => .bool (q x))] = .ok (.shr (.bool (l.all q))) := by
  have e : l.map (fun x => PyData.bool (q x)) = (l.map q).map PyData.bool := by simp
  show (Res.get (boolsOf _)).bind _ = _
  rw [e, boolsOf_map]
  simp [List.all_map, Function.comp_def]
def badE (p : Play) : Bool := (reachL p (0 : Nat)).any fun x => !((reachL p x).any (isEnd p))
theorem sset_i {is : List Int} (h : is.length < 64) : biR .sset [.list (is.map .int)] = .ok (.own (.lst ((sdK id is).map .int))) := by
  show (ssetR (is.map .int)).bind _ = _
  unfold ssetR
  rw [intsOf_map]
  show (Res.guard (decide (is.length < 64)) _).bind _ = _
  rw [decide_eq_true h]
  rfl
def spk (s : Sc) : Int := match s with
  | some q => q.1
  | none => 0
def spL (p : Play) : List Int := ((reachL p (0 : Nat)).filter fun x => (scAt p x).isSome).map fun x => spk (scAt p x)
/-! ### dicts with int keys -/
def KeysI (kvs : List (PyData × PyData)) (ks : List Int) : Prop := kvs.map (·.1) = ks.map PyData.int
theorem eqv_ii (x y : Int) : PyData.eqv (.int x) (.int y) = decide (x = y) := by
  show (x == y) = _
  by_cases c : x = y <;> simp [c]
theorem KeysI.any {kvs : List (PyData × PyData)} {ks : List Int} (h : KeysI kvs ks) (i : Int) : (kvs.any fun p => PyData.eqv p.1 (.int i)) = decide (i ∈ ks) := by
  induction kvs generalizing ks with
  | nil =>
    cases ks with
    | nil => rfl
    | cons k ks => simp [KeysI] at h
  | cons p kvs ih =>
    cases ks with
    | nil => simp [KeysI] at h
    | cons k ks =>
      simp only [KeysI, List.map_cons, List.cons.injEq] at h
      rw [List.any_cons, h.1, eqv_ii, ih h.2]
      by_cases c : k = i
      · subst c; simp
      · have : ¬ i = k := fun z => c z.symm
        simp [c, this]
theorem KeysI.look {kvs : List (PyData × PyData)} {ks : List Int} (h : KeysI kvs ks) (i : Int) : (Rt.look kvs (.int i)).isSome = decide (i ∈ ks) := by
  rw [← h.any i]
  unfold Rt.look
  rw [Option.isSome_map]
  refine Bool.eq_iff_iff.mpr ?_
  rw [List.find?_isSome, List.any_eq_true]
theorem KeysI.put {kvs : List (PyData × PyData)} {ks : List Int} (h : KeysI kvs ks) (i : Int) (v : PyData) : KeysI (Rt.put kvs (.int i) v) (addAll ks [i]) := by
  unfold Rt.put
  rw [h.any i]
  have e : addAll ks [i] = if i ∈ ks then ks else ks ++ [i] := rfl
  rw [e]
  by_cases c : i ∈ ks
  · simp only [c, decide_true, if_true]
    unfold KeysI
    rw [List.map_map, ← h]
    refine List.map_congr_left fun p _ => ?_
    show (if PyData.eqv p.1 (.int i) = true then (p.1, v) else p).1 = p.1
    split <;> rfl
  · simp only [c, decide_false, if_false, Bool.false_eq_true]
    unfold KeysI at h ⊢
    simp [h]
theorem KeysI.okFor {kvs : List (PyData × PyData)} {ks : List Int} (h : KeysI kvs ks) (i : Int) : Rt.okFor kvs (.int i) = true := by
  cases kvs with
  | nil => rfl
  | cons p kvs =>
    cases ks with
    | nil => simp [KeysI] at h
    | cons k ks =>
      simp only [KeysI, List.map_cons, List.cons.injEq] at h
      show (true && decide (kindK p.1 = kindK (.int i))) = true
      rw [h.1]
      rfl
theorem KeysI.len {kvs : List (PyData × PyData)} {ks : List Int} (h : KeysI kvs ks) : kvs.length = ks.length := by
  have := congrArg List.length h
  simpa using this
theorem KeysI.nin {kvs : List (PyData × PyData)} {ks : List Int} (h : KeysI kvs ks) (i : Int) : cmpR .nin (.int i) (.dict kvs) = .ok (!decide (i ∈ ks)) := by
  show (Res.guard (Rt.okFor kvs (.int i)) (.ok (Rt.look kvs (.int i)).isSome)).bind _ = _
  rw [h.okFor i, h.look i]
  rfl
theorem KeysI.putR {kvs : List (PyData × PyData)} {ks : List Int} (h : KeysI kvs ks) (hl : ks.length < 100) (i : Int) (v : PyData) : Rt.putR (.dct kvs) (.int i) v = .ok (.dct (Rt.put kvs (.int i) v)) := by
  show Res.guard (Rt.okFor kvs (.int i) && decide (kvs.length < lim)) _ = _
  have : kvs.length < lim := by rw [h.len]; exact Nat.lt_trans hl (by decide)
  rw [h.okFor i, decide_eq_true this]
  rfl
@[simp] theorem s_put (Φ : Fenv) (m np i : Nat) (k e : CE) (ρ : Rho) : evS Φ m np (.put i k e) ρ = (evE Φ e ρ).bind fun p => (stl p.2 p.1).bind fun x => Res.guard (isOwn (gt x.2 i)) ((evE Φ k x.2).bind fun q => (stl q.2 q.1).bind fun y => match gt y.2 i with
    | .own o => (Rt.putR o y.1 x.1).bind fun o2 => .ok (.nxt, y.2.set i (.own o2))
    | _ => .bad) := rfl
@[simp] theorem isOwn_o (o : Ob) : isOwn (.own o) = true := rfl
theorem addAll_app (f a b : List Int) : addAll f (a ++ b) = addAll (addAll f a) b := by
  unfold addAll
  rw [List.foldl_append]
theorem nodup_k {k : Int} {f : List Int} (h : f.Nodup ∧ ∀ x ∈ f, 0 ≤ x ∧ x < k) : f.length ≤ k.toNat := by
  have h1 : (f.map Int.toNat).Nodup := by
    rw [List.nodup_iff_pairwise_ne, List.pairwise_map]
    refine List.Pairwise.imp_of_mem (R := fun a b => a ≠ b) ?_ h.1
    intro a b ha hb hab hc
    have h1 := h.2 a ha
    have h2 := h.2 b hb
    omega
  have h2 : ∀ x ∈ f.map Int.toNat, x ∈ List.range k.toNat := fun x hx => by
    obtain ⟨y, hy, rfl⟩ := List.mem_map.mp hx
    have := h.2 y hy
    rw [List.mem_range]
    omega
  have := List.Nodup.length_le_of_subset h1 h2
  simpa using this
theorem addAll_nd {k : Int} {f : List Int} (h : f.Nodup ∧ ∀ x ∈ f, 0 ≤ x ∧ x < k) : ∀ {ts : List Int}, (∀ t ∈ ts, 0 ≤ t ∧ t < k) → (addAll f ts).Nodup ∧ ∀ x ∈ addAll f ts, 0 ≤ x ∧ x < k := by
  intro ts
  induction ts generalizing f with
  | nil => exact fun _ => h
  | cons t ts ih =>
    intro ht
    show (addAll (if t ∈ f then f else f ++ [t]) ts).Nodup ∧ _
    refine ih ?_ fun x hx => ht x (List.mem_cons_of_mem _ hx)
    split
    · exact h
    · rename_i c
      refine ⟨?_, fun x hx => ?_⟩
      · rw [List.nodup_append]
        refine ⟨h.1, by simp, ?_⟩
        intro a ha b hb
        simp at hb
        subst hb
        rintro rfl
        exact c ha
      · rcases List.mem_append.mp hx with hx | hx
        · exact h.2 x hx
        · simp at hx
          rw [hx]
          exact ht t (List.mem_cons_self ..)
/-- who acts in a scene -/
def actS (s : Sc) : List Int := match s with
  | none => []
  | some q => q.1 :: q.2.map (·.1)
def actK (p : Play) : List Int := addAll [] ((reachL p (0 : Nat)).flatMap fun x => actS (scAt p x))
theorem sc_mem {p : Play} {x : Int} {q : Int × List Br} (h : scAt p x = some q) : some q ∈ p.sc := by
  unfold scAt at h
  cases e : p.sc[x.toNat]? with
  | none => rw [e] at h; cases h
  | some s =>
    rw [e] at h
    have h : s = some q := h
    subst h
    exact List.mem_of_getElem? e
theorem actS_in {p : Play} (h : PlOk p) (x : Int) : ∀ t ∈ actS (scAt p x), 0 ≤ t ∧ t < p.k := by
  intro t ht
  cases hq : scAt p x with
  | none => rw [hq] at ht; cases ht
  | some q =>
    rw [hq] at ht
    have ok := h.sc q.1 q.2 (sc_mem hq)
    rcases List.mem_cons.mp ht with rfl | ht
    · exact ⟨ok.sp0, ok.sp1⟩
    · obtain ⟨b, hb, rfl⟩ := List.mem_map.mp ht
      exact ⟨(ok.br b hb).1, (ok.br b hb).2.1⟩
/-- the inner loop of silent -/
theorem f14i {p : Play} (h : PlOk p) {Φ : Fenv} {brs : List Br} {kvs : List (PyData × PyData)} {ks : List Int} {a b c : Sl} (hk : KeysI kvs ks) (hd : ks.Nodup ∧ ∀ x ∈ ks, 0 ≤ x ∧ x < p.k) (hb : ∀ t ∈ brs, 0 ≤ t.1 ∧ t.1 < p.k) :
    ∃ kvs' b', KeysI kvs' (addAll ks (brs.map (·.1))) ∧ forGo (fun d ρ => (bt 1 (.v 3) d ρ).bind fun ρ => evS Φ m 1 (.seq (.put 1 (.idx (.var 3) (.cst (.int 0))) (.cst (.bool true))) (.skip)) ρ) (brs.map brD) [.shr p.d, .own (.dct kvs), a, b, c] = .ok (.nxt, [.shr p.d, .own (.dct kvs'), a, b', c]) := by
  induction brs generalizing kvs ks b with
  | nil => exact ⟨kvs, b, hk, rfl⟩
  | cons br brs ih =>
    have h1 := hk.put br.1 (.bool true)
    have hd1 := addAll_nd hd (ts := [br.1]) fun t ht => by simp at ht; subst ht; exact hb br (List.mem_cons_self ..)
    obtain ⟨kvs', b', h2, e⟩ := ih (kvs := Rt.put kvs (.int br.1) (.bool true)) (ks := addAll ks [br.1]) (b := .shr (brD br)) h1 hd1 fun t ht => hb t (List.mem_cons_of_mem _ ht)
    refine ⟨kvs', b', ?_, ?_⟩
    · rw [List.map_cons, show br.1 :: brs.map (·.1) = [br.1] ++ brs.map (·.1) from rfl, addAll_app]
      exact h2
    · have hl : ks.length < 100 := by have := nodup_k hd; have := h.k4; omega
      have e1 := hk.putR hl br.1 (.bool true)
      show forGo _ (brD br :: brs.map brD) _ = _
      unfold forGo
      have e0 : evS Φ m 1 (.seq (.put 1 (.idx (.var 3) (.cst (.int 0))) (.cst (.bool true))) (.skip)) [.shr p.d, .own (.dct kvs), a, .shr (brD br), c] = .ok (.nxt, [.shr p.d, .own (.dct (Rt.put kvs (.int br.1) (.bool true))), a, .shr (brD br), c]) := by
        have : idxR (brD br) (.int 0) = .ok (.int br.1) := by unfold brD; rw [idx_t, at0]; rfl
        simp [this, e1]
      show ((bt 1 (.v 3) (brD br) [.shr p.d, .own (.dct kvs), a, b, c]).bind _).bind _ = _
      rw [show bt 1 (.v 3) (brD br) [.shr p.d, .own (.dct kvs), a, b, c] = .ok [.shr p.d, .own (.dct kvs), a, .shr (brD br), c] from rfl]
      show (evS Φ m 1 _ _).bind _ = _
      rw [e0]
      exact e
theorem f14o {p : Play} (h : PlOk p) {Φ : Fenv} {xs : List Int} {kvs : List (PyData × PyData)} {ks : List Int} {a b c : Sl} (hk : KeysI kvs ks) (hd : ks.Nodup ∧ ∀ x ∈ ks, 0 ≤ x ∧ x < p.k) (hx : ∀ x ∈ xs, 0 ≤ x ∧ x < p.sc.length) :
    ∃ kvs' a' b', KeysI kvs' (addAll ks (xs.flatMap fun x => actS (scAt p x))) ∧ forGo (fun d ρ => (bt 1 (.v 2) d ρ).bind fun ρ => evS Φ m 1 (.seq (.ife (.notN (.idx (.idx (.var 0) (.cst (.int 1))) (.var 2))) (.seq (.put 1 (.idx (.idx (.idx (.var 0) (.cst (.int 1))) (.var 2)) (.cst (.int 0))) (.cst (.bool true))) (.seq (.for_ (.v 3) (.ex (.idx (.idx (.idx (.var 0) (.cst (.int 1))) (.var 2)) (.cst (.int 1)))) (.seq (.put 1 (.idx (.var 3) (.cst (.int 0))) (.cst (.bool true))) (.skip))) (.skip))) (.skip)) (.skip)) ρ)
      (xs.map .int) [.shr p.d, .own (.dct kvs), a, b, c] = .ok (.nxt, [.shr p.d, .own (.dct kvs'), a', b', c]) := by
  induction xs generalizing kvs ks a b with
  | nil => exact ⟨kvs, a, b, hk, rfl⟩
  | cons x xs ih =>
    have e := at_sc (hx x (List.mem_cons_self ..))
    have hx2 := fun y hy => hx y (List.mem_cons_of_mem _ hy)
    show ∃ kvs' a' b', _ ∧ forGo _ (PyData.int x :: xs.map .int) _ = _
    unfold forGo
    cases hq : scAt p x with
    | none =>
      rw [hq] at e
      obtain ⟨kvs', a', b', h2, e2⟩ := ih (a := .shr (.int x)) (b := b) hk hd hx2
      refine ⟨kvs', a', b', by rw [List.flatMap_cons, hq]; exact h2, ?_⟩
      have e0 : evS Φ m 1 (.seq (.ife (.notN (.idx (.idx (.var 0) (.cst (.int 1))) (.var 2))) (.seq (.put 1 (.idx (.idx (.idx (.var 0) (.cst (.int 1))) (.var 2)) (.cst (.int 0))) (.cst (.bool true))) (.seq (.for_ (.v 3) (.ex (.idx (.idx (.idx (.var 0) (.cst (.int 1))) (.var 2)) (.cst (.int 1)))) (.seq (.put 1 (.idx (.var 3) (.cst (.int 0))) (.cst (.bool true))) (.skip))) (.skip))) (.skip)) (.skip)) [.shr p.d, .own (.dct kvs), .shr (.int x), b, c] = .ok (.nxt, [.shr p.d, .own (.dct kvs), .shr (.int x), b, c]) := by
        simp [Play.d, at1, e, scD, isNo]
      show (evS Φ m 1 _ [.shr p.d, .own (.dct kvs), .shr (.int x), b, c]).bind _ = _
      rw [e0]
      exact e2
    | some q =>
      rw [hq] at e
      have ok := h.sc q.1 q.2 (sc_mem hq)
      have h1 := hk.put q.1 (.bool true)
      have hd1 := addAll_nd hd (ts := [q.1]) fun t ht => by simp at ht; subst ht; exact ⟨ok.sp0, ok.sp1⟩
      have hl : ks.length < 100 := by have := nodup_k hd; have := h.k4; omega
      have e1 := hk.putR hl q.1 (.bool true)
      obtain ⟨kv2, b2, h2, e2⟩ := f14i (m := m) h (Φ := Φ) (a := .shr (.int x)) (b := b) (c := c) h1 hd1 (brs := q.2) fun t ht => ⟨(ok.br t ht).1, (ok.br t ht).2.1⟩
      have hd2 := addAll_nd hd1 (ts := q.2.map (·.1)) fun t ht => by
        obtain ⟨br, hb, rfl⟩ := List.mem_map.mp ht
        exact ⟨(ok.br br hb).1, (ok.br br hb).2.1⟩
      obtain ⟨kvs', a', b', h3, e3⟩ := ih (a := .shr (.int x)) (b := b2) h2 hd2 hx2
      refine ⟨kvs', a', b', ?_, ?_⟩
      · rw [List.flatMap_cons, hq, addAll_app]
        show KeysI kvs' (addAll (addAll ks ([q.1] ++ q.2.map (·.1))) _)
        rw [addAll_app]
        exact h3
      · have e0 : evS Φ m 1 (.seq (.ife (.notN (.idx (.idx (.var 0) (.cst (.int 1))) (.var 2))) (.seq (.put 1 (.idx (.idx (.idx (.var 0) (.cst (.int 1))) (.var 2)) (.cst (.int 0))) (.cst (.bool true))) (.seq (.for_ (.v 3) (.ex (.idx (.idx (.idx (.var 0) (.cst (.int 1))) (.var 2)) (.cst (.int 1)))) (.seq (.put 1 (.idx (.var 3) (.cst (.int 0))) (.cst (.bool true))) (.skip))) (.skip))) (.skip)) (.skip)) [.shr p.d, .own (.dct kvs), .shr (.int x), b, c] = .ok (.nxt, [.shr p.d, .own (.dct kv2), .shr (.int x), b2, c]) := by
          simp [Play.d] at e2
          simp [Play.d, at0, at1, e, scD, isNo, e1, e2]
        show (evS Φ m 1 _ [.shr p.d, .own (.dct kvs), .shr (.int x), b, c]).bind _ = _
        rw [e0]
        exact e3
def silL (p : Play) : List Int := ((List.range p.k.toNat).map fun i : Nat => (i : Int)).filter fun x => !decide (x ∈ actK p)
/-! ### trimmed -/
theorem place_i {R : List Int} {t : Int} (h : t ∈ R) : place (.int t) (R.map .int) = some (R.idxOf t) := by
  induction R with
  | nil => cases h
  | cons x R ih =>
    show (if PyData.eqv (.int x) (.int t) = true then some 0 else (place (.int t) (R.map .int)).map (· + 1)) = _
    rw [eqv_ii]
    by_cases c : x = t
    · subst c; simp
    · have ht : t ∈ R := by
        rcases List.mem_cons.mp h with e | e
        · exact absurd e.symm c
        · exact e
      rw [ih ht]
      rw [List.idxOf_cons]
      have : (x == t) = false := by simpa using c
      simp [c, this]
theorem ind_i {R : List Int} {t : Int} (h : t ∈ R) : meR .index (.list (R.map .int)) [.int t] = .ok (.shr (.int (R.idxOf t : Nat))) := by
  show Res.guard (shp (.int t) && shp (.list (R.map .int))) ((Res.get (place (.int t) (R.map .int))).bind _) = _
  rw [(Lay.int (n := 1) t).shp (by decide), (lay_ints R).shp (by decide), place_i h]
  rfl
@[simp] theorem ind_e (Φ : Fenv) (o as : CE) (ρ : Rho) : evE Φ (.met .index o as) ρ = (evE Φ o ρ).bind fun p => (rd p.2 p.1).bind fun x0 => Res.guard (kindM .index x0) ((evA Φ as p.2).bind fun q => (rd q.2 p.1).bind fun x => (rds q.2 q.1).bind fun ds =>
      (meR .index x ds).bind fun s => .ok (.val s, q.2)) := rfl
@[simp] theorem kindM_l (ds : List PyData) : kindM .index (.list ds) = true := rfl
def trB (R : List Int) (b : Br) : Br := (b.1, b.2.1, (R.idxOf b.2.2 : Nat))
def trS (R : List Int) (s : Sc) : Sc := s.map fun q => (q.1, q.2.map (trB R))
def trimP (p : Play) : Play := ⟨p.k, (reachL p (0 : Nat)).map fun x => trS (reachL p (0 : Nat)) (scAt p x)⟩
theorem lc_tr {p : Play} {Φ : Fenv} {R : List Int} {q : Int × List Br} {fs : List PyData} {x : Sl} (hb : ∀ b ∈ q.2, b.2.2 ∈ R) (hl : q.2.length ≤ lim) {t : PyData} :
    lcGo (lcT Φ (.cons (.v 5) (.cons (.v 6) (.cons (.v 7) (.nil)))) .nil (.tup (.cons false (.var 5) (.cons false (.var 6) (.cons false (.met .index (.var 1) (.cons false (.var 7) (.nil))) (.nil))))) [5, 6, 7]) (q.2.map brD) [] [.shr p.d, .shr (.list (R.map .int)), .own (.lst fs), x, .shr t, .un, .un, .un]
      = .ok (q.2.map fun b => brD (trB R b), [.shr p.d, .shr (.list (R.map .int)), .own (.lst fs), x, .shr t, .un, .un, .un]) := by
  refine lc_mapg (fun b hb2 => ?_) hl
  have := ind_i (hb b hb2)
  simp [lcT, bt, bts, brD, this, wipeR, lim, trB]
def b12 : CS := .seq (.asg (.v 4) (.idx (.idx (.var 0) (.cst (.int 1))) (.var 3))) (.seq (.ife (.isN (.var 4)) (.seq (.exp (.mut .append 2 (.cons false (.cst .none) (.nil)))) (.skip)) (.seq (.exp (.mut .append 2 (.cons false (.tup (.cons false (.idx (.var 4) (.cst (.int 0))) (.cons false (.bi .tuple (.cons false (.lc [5, 6, 7] (.cons (.v 5) (.cons (.v 6) (.cons (.v 7) (.nil)))) (.ex (.idx (.var 4) (.cst (.int 1)))) (.nil) (.tup (.cons false (.var 5) (.cons false (.var 6) (.cons false (.met .index (.var 1) (.cons false (.var 7) (.nil))) (.nil)))))) (.nil))) (.nil)))) (.nil)))) (.skip))) (.skip))
theorem f12o {p : Play} (h : PlOk p) {Φ : Fenv} {R : List Int} (hc : ∀ x ∈ R, ∀ y ∈ nextL p x.toNat, y ∈ R) (hR : R.length ≤ 8) {xs : List Int} {fs : List PyData} {a b : Sl} (hx : ∀ x ∈ xs, x ∈ R ∧ 0 ≤ x ∧ x < p.sc.length) (hl : fs.length + xs.length ≤ 100) :
    ∃ a' b', forGo (fun d ρ => (bt 1 (.v 3) d ρ).bind fun ρ => evS Φ m 1 b12 ρ) (xs.map .int) [.shr p.d, .shr (.list (R.map .int)), .own (.lst fs), a, b, .un, .un, .un]
      = .ok (.nxt, [.shr p.d, .shr (.list (R.map .int)), .own (.lst (fs ++ xs.map fun x => scD (trS R (scAt p x)))), a', b', .un, .un, .un]) := by
  induction xs generalizing fs a b with
  | nil => exact ⟨a, b, by simp [forGo]⟩
  | cons x xs ih =>
    obtain ⟨hxR, hx0⟩ := hx x (List.mem_cons_self ..)
    have e := at_sc hx0
    have hx2 := fun y hy => hx y (List.mem_cons_of_mem _ hy)
    simp only [List.length_cons] at hl
    have hf : fs.length < lim := by have := lim_big; have : (200 : Nat) < lim := by decide
                                    omega
    have e0 : evS Φ m 1 b12 [.shr p.d, .shr (.list (R.map .int)), .own (.lst fs), .shr (.int x), b, .un, .un, .un] = .ok (.nxt, [.shr p.d, .shr (.list (R.map .int)), .own (.lst (fs ++ [scD (trS R (scAt p x))])), .shr (.int x), .shr (scD (scAt p x)), .un, .un, .un]) := by
      cases hq : scAt p x with
      | none =>
        rw [hq] at e
        simp [b12, Play.d, at0, at1, e, scD, isNo, stS, hf, trS]
      | some q =>
        rw [hq] at e
        have ok := h.sc q.1 q.2 (sc_mem hq)
        have hb : ∀ b ∈ q.2, b.2.2 ∈ R := fun b hb => hc x hxR _ (by
          unfold scAt at hq
          unfold nextL
          cases hz : p.sc[x.toNat]? with
          | none => rw [hz] at hq; cases hq
          | some s =>
            rw [hz] at hq
            have hq : s = some q := hq
            subst hq
            exact List.mem_map.mpr ⟨b, hb, rfl⟩)
        have c1' := lc_tr (p := p) (Φ := Φ) (fs := fs) (x := .shr (.int x)) (t := scD (some q)) hb (Nat.le_trans (Nat.le_of_lt ok.few) (by decide))
        simp [Play.d, scD] at c1'
        have hf2 : fs.length < 16777216 := hf
        simp [b12, Play.d, at0, at1, e, scD, isNo, stS, hf2, trS, wipeR, c1', backR, tup_l, lim, Function.comp_def]
    obtain ⟨a', b', e3⟩ := ih (fs := fs ++ [scD (trS R (scAt p x))]) (a := .shr (.int x)) (b := .shr (scD (scAt p x))) hx2 (by simp only [List.length_append, List.length_singleton]; omega)
    refine ⟨a', b', ?_⟩
    show forGo _ (PyData.int x :: xs.map .int) _ = _
    unfold forGo
    show (evS Φ m 1 b12 [.shr p.d, .shr (.list (R.map .int)), .own (.lst fs), .shr (.int x), b, .un, .un, .un]).bind _ = _
    rw [e0]
    show forGo _ (xs.map .int) _ = _
    rw [e3]
    simp
/-! ### the drawing of a play -/
structure Row where
  ns : List Int
  i : Int
  s : Int
  l : Int
def Row.ds (r : Row) : List PyData := [.list (r.ns.map .int), .int r.i, .int r.s, .int r.l]
structure RowOk (r : Row) : Prop where
  i0 : 0 ≤ r.i
  s0 : 0 ≤ r.s
  s1 : r.s < 2147483647
theorem fmod_in {a b : Int} (h : 0 < b) : 0 ≤ a.fmod b ∧ a.fmod b < b := ⟨Int.fmod_nonneg_of_pos _ h, Int.fmod_lt_of_pos _ h⟩
@[simp] theorem mod_i {x y : Int} (h : y ≠ 0) : binR .mod (.int x) (.int y) = .ok (.shr (.int (x.fmod y))) := by
  show Res.guard (decide (y ≠ 0)) _ = _
  rw [decide_eq_true h]
  rfl
theorem fdiv_i {x y : Int} (h : y ≠ 0) (h2 : y.natAbs < 1073741824) : binR .fdiv (.int x) (.int y) = .ok (.shr (.int (x.fdiv y))) := by
  show Res.guard (decide (y ≠ 0) && decide (y.natAbs < 1073741824)) _ = _
  rw [decide_eq_true h, decide_eq_true h2]
  rfl
theorem mul_i {x y : Int} (h : 0 ≤ x ∧ x < 2147483647) : binR .mul (.int x) (.int y) = .ok (.shr (.int (x * y))) := by
  show Res.guard (okMul x) _ = _
  have : okMul x = true := by unfold okMul bigI; simp; omega
  rw [this]
  rfl
@[simp] theorem int_i (x : Int) : biR .int [.int x] = .ok (.shr (.int x)) := rfl
theorem pow_18 : binR .pow (.int 10) (.int 18) = .ok (.shr (.int (10 ^ 18))) := rfl
theorem put_l {ds : List PyData} {j : Nat} {d : PyData} (h : j < ds.length) : putR (.lst ds) (.int (j : Nat)) d = .ok (.lst (ds.set j d)) := by
  show (Res.get (L2.ixN ds.length (j : Nat))).bind _ = _
  have : L2.ixN ds.length ((j : Nat) : Int) = some j := by
    unfold L2.ixN
    have h1 : (0 : Int) ≤ (j : Int) := by omega
    have h2 : ((j : Nat) : Int) < (ds.length : Int) := by omega
    rw [if_pos h1, if_pos h2]
    rfl
  rw [this]
  rfl
theorem at3 {α : Type} (x y z w : α) (xs : List α) : L2.atI (x :: y :: z :: w :: xs) 3 = some w := L2.atI_nat (j := 3) rfl
/-- one number is drawn -/
theorem f15 {r : Row} (h : RowOk r) {k : Int} (hk : 0 < k) (hk2 : k < 1000) : ∃ (x : Int) (r' : Row), 0 ≤ x ∧ x < k ∧ RowOk r' ∧ r'.ns = r.ns ∧ evF tbl m (n + 1) 14 [.own (.lst r.ds), .shr (.int k)] = .ok (.shr (.int x), [.own (.lst r'.ds), .shr (.int k)]) := by
  rw [call_F (np := 2) (ns := 4) (c := c14) rfl rfl]
  have hk0 : k ≠ 0 := by omega
  have hk3 : k.natAbs < 1073741824 := by omega
  have hM : (2147483647 : Int) ≠ 0 := by decide
  have h7 : (7 : Int) ≠ 0 := by decide
  obtain ⟨i0, s0, s1⟩ := h
  by_cases c1 : 0 < r.l
  · obtain ⟨x0, x1⟩ := fmod_in (a := r.l) hk
    refine ⟨r.l.fmod k, ⟨r.ns, r.i, r.s, r.l.fdiv k⟩, x0, x1, ⟨i0, s0, s1⟩, rfl, ?_⟩
    have p3 := put_l (ds := r.ds) (j := 3) (d := .int (r.l.fdiv k)) (by simp [Row.ds])
    simp [Row.ds] at p3
    simp [cF, c14, Row.ds, at3, c1, hk0, stS, fdiv_i hk0 hk3, p3]
  · have c1b : ¬ 0 < r.l := c1
    have p1 := put_l (ds := r.ds) (j := 1) (d := .int (r.i + 1)) (by simp [Row.ds])
    simp [Row.ds] at p1
    have m1 := mul_i (x := r.s) (y := 48271) ⟨s0, s1⟩
    by_cases c2 : (r.ns.length : Int) < r.i + 1
    · obtain ⟨y0, y1⟩ := fmod_in (a := r.s * 48271 + 11) (b := 2147483647) (by decide)
      obtain ⟨x0, x1⟩ := fmod_in (a := ((r.s * 48271 + 11).fmod 2147483647).fdiv 7) hk
      refine ⟨_, ⟨r.ns, r.i + 1, (r.s * 48271 + 11).fmod 2147483647, r.l⟩, x0, x1, ⟨by show 0 ≤ r.i + 1; omega, y0, y1⟩, rfl, ?_⟩
      have p2 := put_l (ds := (Row.ds ⟨r.ns, r.i + 1, r.s, r.l⟩)) (j := 2) (d := .int ((r.s * 48271 + 11).fmod 2147483647)) (by simp [Row.ds])
      simp [Row.ds] at p2
      have f7' := fdiv_i (x := (r.s * 48271 + 11).fmod 2147483647) h7 (by decide)
      simp [cF, c14, Row.ds, at0, at1, at2, at3, c1b, hk0, stS, p1, c2, m1, p2, f7']
    · have hlt : r.i.toNat < r.ns.length := by omega
      have hc : L2.atI (r.ns.map PyData.int) (r.i + 1 - 1) = some (.int r.ns[r.i.toNat]) := by
        have e : r.i + 1 - 1 = (r.i.toNat : Int) := by omega
        rw [e]
        exact atN (by rw [List.getElem?_map, List.getElem?_eq_getElem hlt]; rfl)
      generalize r.ns[r.i.toNat] = cell at hc
      obtain ⟨y0, y1⟩ := fmod_in (a := r.s * 48271 + cell + 11) (b := 2147483647) (by decide)
      obtain ⟨x0, x1⟩ := fmod_in (a := cell) hk
      have p2 := put_l (ds := (Row.ds ⟨r.ns, r.i + 1, r.s, r.l⟩)) (j := 2) (d := .int ((r.s * 48271 + cell + 11).fmod 2147483647)) (by simp [Row.ds])
      have p3 := put_l (ds := (Row.ds ⟨r.ns, r.i + 1, (r.s * 48271 + cell + 11).fmod 2147483647, r.l⟩)) (j := 3) (d := .int (cell.fdiv k)) (by simp [Row.ds])
      simp [Row.ds] at p2 p3
      have e1 : r.i + 1 - 1 = r.i := by omega
      rw [e1] at hc
      by_cases c3 : (10 : Int) ^ 18 ≤ cell
      · refine ⟨cell.fmod k, ⟨r.ns, r.i + 1, (r.s * 48271 + cell + 11).fmod 2147483647, cell.fdiv k⟩, x0, x1, ⟨by show 0 ≤ r.i + 1; omega, y0, y1⟩, rfl, ?_⟩
        simp at c3
        simp [cF, c14, Row.ds, at0, at1, at2, at3, c1b, hk0, stS, p1, c2, m1, p2, p3, hc, pow_18, c3, e1, fdiv_i hk0 hk3]
      · refine ⟨cell.fmod k, ⟨r.ns, r.i + 1, (r.s * 48271 + cell + 11).fmod 2147483647, r.l⟩, x0, x1, ⟨by show 0 ≤ r.i + 1; omega, y0, y1⟩, rfl, ?_⟩
        simp at c3
        have c4 : ¬ (1000000000000000000 : Int) ≤ cell := by omega
        simp [cF, c14, Row.ds, at0, at1, at2, at3, c1b, hk0, stS, p1, c2, m1, p2, hc, pow_18, c4, e1]
def leafD : PyData → Bool
  | .int _ => true
  | .bool _ => true
  | .none => true
  | _ => false
def Alk : Nat → PyData → Prop
  | 0, d => leafD d = true
  | k + 1, d => leafD d = true ∨ ∃ ds, d = .tuple ds ∧ ds.length ≤ 1000 ∧ ∀ x ∈ ds, Alk k x
@[simp] theorem eq_b (x y : Bool) : cmpR .eq (.bool x) (.bool y) = .ok (decide (x = y)) := rfl
@[simp] theorem ne_b (x y : Bool) : cmpR .ne (.bool x) (.bool y) = .ok (!decide (x = y)) := rfl
@[simp] theorem eq_n : cmpR .eq .none .none = .ok true := rfl
theorem eq_l0 : cmpR .eq (.list []) (.list []) = .ok true := eq_l_self (Lay.lst fun d hd => by cases hd)
theorem f16l {d : PyData} (h : leafD d = true) : evF tbl m (n + 1) 15 [.shr d, .shr d] = .ok (.shr (.bool true), [.shr d, .shr d]) := by
  rw [call_F (np := 2) (ns := 3) (c := c15) rfl rfl]
  cases d <;> first
    | (cases h; done)
    | simp [cF, c15, notDc, tyIs, isNo]
theorem f16 : ∀ {k : Nat} {d : PyData}, Alk k d → evF tbl m (n + k + 1) 15 [.shr d, .shr d] = .ok (.shr (.bool true), [.shr d, .shr d])
  | 0, d, h => f16l h
  | k + 1, d, h => by
    rcases h with h | ⟨ds, rfl, hl, hx⟩
    · exact f16l h
    · rw [call_F (np := 2) (ns := 3) (c := c15) rfl rfl]
      have c1' : lcGo (lcT (evF tbl m (n + (k + 1))) (.v 2) (.not (.call 15 (.cons false (.idx (.var 0) (.var 2)) (.cons false (.idx (.var 1) (.var 2)) (.nil))))) (.var 2) [2]) (rngD 0 ds.length) [] [.shr (.tuple ds), .shr (.tuple ds), .un] = .ok ([], [.shr (.tuple ds), .shr (.tuple ds), .un]) := by
        have e2 : rngD 0 ds.length = (List.range ds.length).map fun i : Nat => PyData.int (i : Int) := by
          unfold rngD
          simp
        rw [e2]
        have := lc_flt (f := lcT (evF tbl m (n + (k + 1))) (.v 2) (.not (.call 15 (.cons false (.idx (.var 0) (.var 2)) (.cons false (.idx (.var 1) (.var 2)) (.nil))))) (.var 2) [2]) (ρ := [.shr (.tuple ds), .shr (.tuple ds), .un]) (e := fun i : Nat => PyData.int (i : Int)) (q := fun _ => false) (g := fun _ => PyData.none) (xs := List.range ds.length) (fun i hi => by
          have hi2 : i < ds.length := List.mem_range.mp hi
          have ha : L2.atI ds (i : Nat) = some ds[i] := atN (List.getElem?_eq_getElem hi2)
          have ih := f16 (hx ds[i] (List.getElem_mem hi2))
          rw [Nat.add_assoc] at ih
          simp [lcT, bt, cnd, CE.isNil, ha, ih, wipeR]) (by simp; exact Nat.le_trans hl (by decide))
        rw [this]
        simp
      have hg : okRng (ds.length : Int) = true := by unfold okRng; simp; omega
      simp [cF, c15, notDc, tyIs, hg, wipeR, c1', backR, eq_l0, lim]
def brsAt (p : Play) (x : Int) : List Br := match scAt p x with
  | none => []
  | some q => q.2
/-- _law_branches -/
theorem f19 {p : Play} {x : Int} (hx : 0 ≤ x ∧ x < p.sc.length) : evF tbl m (n + 1) 19 [.shr p.d, .shr (.int x)] = .ok (.shr (.tuple ((brsAt p x).map brD)), [.shr p.d, .shr (.int x)]) := by
  rw [call_F (np := 2) (ns := 2) (c := c19) rfl rfl]
  have e := at_sc hx
  unfold brsAt
  cases hq : scAt p x with
  | none => rw [hq] at e; simp [cF, c19, Play.d, at1, e, scD, isNo, lim]
  | some q => rw [hq] at e; simp [cF, c19, Play.d, at1, e, scD, isNo]
/-! ### _law_coming -/
/-- what addAll adds -/
def newAll (f : List Int) : List Int → List Int
  | [] => []
  | t :: ts => if t ∈ f then newAll f ts else t :: newAll (f ++ [t]) ts
theorem addAll_new (f : List Int) : ∀ ts : List Int, addAll f ts = f ++ newAll f ts := by
  intro ts
  induction ts generalizing f with
  | nil => simp [addAll, newAll]
  | cons t ts ih =>
    show addAll (if t ∈ f then f else f ++ [t]) ts = f ++ (if t ∈ f then newAll f ts else t :: newAll (f ++ [t]) ts)
    by_cases c : t ∈ f
    · rw [if_pos c, if_pos c]
      exact ih f
    · rw [if_neg c, if_neg c, ih]
      simp
theorem newAll_app (f a b : List Int) : newAll f (a ++ b) = newAll f a ++ newAll (addAll f a) b := by
  induction a generalizing f with
  | nil => simp [newAll, addAll]
  | cons t a ih =>
    show (if t ∈ f then newAll f (a ++ b) else t :: newAll (f ++ [t]) (a ++ b)) = (if t ∈ f then newAll f a else t :: newAll (f ++ [t]) a) ++ newAll (addAll (if t ∈ f then f else f ++ [t]) a) b
    by_cases c : t ∈ f
    · simp only [c, if_true]
      exact ih f
    · simp only [c, if_false, List.cons_append]
      rw [ih]
def b20i : CS := .seq (.ife (.cmp .nin (.idx (.var 7) (.cst (.int 2))) (.var 2)) (.seq (.put 2 (.idx (.var 7) (.cst (.int 2))) (.cst (.bool true))) (.seq (.exp (.mut .append 5 (.cons false (.idx (.var 7) (.cst (.int 2))) (.nil)))) (.skip))) (.skip)) (.skip)
theorem f20i {p : Play} {Φ : Fenv} {brs : List Br} {kvs : List (PyData × PyData)} {ks fr : List Int} {a1 a3 a4 a6 b : Sl} (hk : KeysI kvs ks) (hd : InR p ks) (hp : p.sc.length ≤ 8) (hf : fr.length ≤ ks.length) (hb : ∀ t ∈ brs, 0 ≤ t.2.2 ∧ t.2.2 < p.sc.length) :
    ∃ kvs' b', KeysI kvs' (addAll ks (brs.map (·.2.2))) ∧ forGo (fun d ρ => (bt 2 (.v 7) d ρ).bind fun ρ => evS Φ m 2 b20i ρ) (brs.map brD) [.shr p.d, a1, .own (.dct kvs), a3, a4, .own (.lst (fr.map .int)), a6, b]
      = .ok (.nxt, [.shr p.d, a1, .own (.dct kvs'), a3, a4, .own (.lst ((fr ++ newAll ks (brs.map (·.2.2))).map .int)), a6, b']) := by
  induction brs generalizing kvs ks fr b with
  | nil => exact ⟨kvs, b, hk, by simp [forGo, newAll]⟩
  | cons br brs ih =>
    have hbr := hb br (List.mem_cons_self ..)
    have hb2 := fun t ht => hb t (List.mem_cons_of_mem _ ht)
    have hi : idxR (brD br) (.int 2) = .ok (.int br.2.2) := by unfold brD; rw [idx_t, at2]; rfl
    have hn := hk.nin br.2.2
    have hl8 := nodup_short hd
    show ∃ kvs' b', _ ∧ forGo _ (brD br :: brs.map brD) _ = _
    unfold forGo
    by_cases c : br.2.2 ∈ ks
    · obtain ⟨kvs', b', h2, e2⟩ := ih (b := .shr (brD br)) hk hd hf hb2
      refine ⟨kvs', b', ?_, ?_⟩
      · show KeysI kvs' (addAll (if br.2.2 ∈ ks then ks else ks ++ [br.2.2]) (brs.map (·.2.2)))
        rw [if_pos c]
        exact h2
      · have e0 : evS Φ m 2 b20i [.shr p.d, a1, .own (.dct kvs), a3, a4, .own (.lst (fr.map .int)), a6, .shr (brD br)] = .ok (.nxt, [.shr p.d, a1, .own (.dct kvs), a3, a4, .own (.lst (fr.map .int)), a6, .shr (brD br)]) := by
          simp [b20i, hi, hn, c]
        show (evS Φ m 2 b20i [.shr p.d, a1, .own (.dct kvs), a3, a4, .own (.lst (fr.map .int)), a6, .shr (brD br)]).bind _ = _
        rw [e0]
        have en : newAll ks ((br :: brs).map (·.2.2)) = newAll ks (brs.map (·.2.2)) := by
          show (if br.2.2 ∈ ks then _ else _) = _
          rw [if_pos c]
        rw [en]
        exact e2
    · have h1 := hk.put br.2.2 (.bool true)
      have ea : addAll ks [br.2.2] = ks ++ [br.2.2] := by
        show (if br.2.2 ∈ ks then ks else ks ++ [br.2.2]) = _
        rw [if_neg c]
      rw [ea] at h1
      have hd1 : InR p (ks ++ [br.2.2]) := by
        have := addAll_inR hd (ts := [br.2.2]) fun t ht => by simp at ht; subst ht; exact hbr
        rwa [ea] at this
      obtain ⟨kvs', b', h2, e2⟩ := ih (fr := fr ++ [br.2.2]) (b := .shr (brD br)) h1 hd1 (by simp only [List.length_append, List.length_singleton]; omega) hb2
      have e1 := hk.putR (by omega) br.2.2 (.bool true)
      have hfl : fr.length < lim := by have := lim_big; omega
      refine ⟨kvs', b', ?_, ?_⟩
      · show KeysI kvs' (addAll (if br.2.2 ∈ ks then ks else ks ++ [br.2.2]) (brs.map (·.2.2)))
        rw [if_neg c]
        exact h2
      · have e0 : evS Φ m 2 b20i [.shr p.d, a1, .own (.dct kvs), a3, a4, .own (.lst (fr.map .int)), a6, .shr (brD br)] = .ok (.nxt, [.shr p.d, a1, .own (.dct (Rt.put kvs (.int br.2.2) (.bool true))), a3, a4, .own (.lst ((fr ++ [br.2.2]).map .int)), a6, .shr (brD br)]) := by
          simp [b20i, hi, hn, c, e1, hfl]
        show (evS Φ m 2 b20i [.shr p.d, a1, .own (.dct kvs), a3, a4, .own (.lst (fr.map .int)), a6, .shr (brD br)]).bind _ = _
        rw [e0]
        have en : newAll ks ((br :: brs).map (·.2.2)) = br.2.2 :: newAll (ks ++ [br.2.2]) (brs.map (·.2.2)) := by
          show (if br.2.2 ∈ ks then _ else _) = _
          rw [if_neg c]
        rw [en, show fr ++ br.2.2 :: newAll (ks ++ [br.2.2]) (brs.map (·.2.2)) = (fr ++ [br.2.2]) ++ newAll (ks ++ [br.2.2]) (brs.map (·.2.2)) by simp]
        exact e2
def tgt (p : Play) (x : Int) : List Int := (brsAt p x).map (·.2.2)
theorem tgt_next {p : Play} (x : Int) : tgt p x = nextL p x.toNat := by
  unfold tgt brsAt scAt nextL
  cases p.sc[x.toNat]? with
  | none => rfl
  | some s => cases s <;> rfl
theorem tgt_in {p : Play} (h : PlOk p) (x : Int) : ∀ t ∈ brsAt p x, 0 ≤ t.2.2 ∧ t.2.2 < p.sc.length := by
  intro t ht
  refine nextL_in h x.toNat _ ?_
  rw [← tgt_next]
  exact List.mem_map.mpr ⟨t, ht, rfl⟩
def b20m : CS := .seq (.for_ (.v 7) (.ex (.call 19 (.cons false (.var 0) (.cons false (.var 6) (.nil))))) b20i) (.skip)
theorem f20m {p : Play} (h : PlOk p) {xs : List Int} {kvs : List (PyData × PyData)} {ks fr : List Int} {a1 a3 a4 a6 b : Sl} (hk : KeysI kvs ks) (hd : InR p ks) (hf : fr.length ≤ ks.length) (hx : ∀ x ∈ xs, 0 ≤ x ∧ x < p.sc.length) :
    ∃ kvs' a6' b', KeysI kvs' (addAll ks (xs.flatMap (tgt p))) ∧ forGo (fun d ρ => (bt 2 (.v 6) d ρ).bind fun ρ => evS (evF tbl m (n + 1)) m 2 b20m ρ) (xs.map .int) [.shr p.d, a1, .own (.dct kvs), a3, a4, .own (.lst (fr.map .int)), a6, b]
      = .ok (.nxt, [.shr p.d, a1, .own (.dct kvs'), a3, a4, .own (.lst ((fr ++ newAll ks (xs.flatMap (tgt p))).map .int)), a6', b']) := by
  induction xs generalizing kvs ks fr a6 b with
  | nil => exact ⟨kvs, a6, b, hk, by simp [forGo, newAll]⟩
  | cons x xs ih =>
    have hx0 := hx x (List.mem_cons_self ..)
    have hb := tgt_in h x
    obtain ⟨kv2, b2, h2, e2⟩ := f20i (m := m) (Φ := evF tbl m (n + 1)) (brs := brsAt p x) (a1 := a1) (a3 := a3) (a4 := a4) (a6 := .shr (.int x)) (b := b) hk hd h.l8 hf hb
    have hd2 : InR p (addAll ks (tgt p x)) := addAll_inR hd fun t ht => by
      obtain ⟨br, hbr, rfl⟩ := List.mem_map.mp ht
      exact hb br hbr
    have hf2 : (fr ++ newAll ks (tgt p x)).length ≤ (addAll ks (tgt p x)).length := by
      rw [addAll_new]
      simp only [List.length_append]
      omega
    obtain ⟨kvs', a6', b', h3, e3⟩ := ih (a6 := .shr (.int x)) (b := b2) h2 hd2 hf2 fun y hy => hx y (List.mem_cons_of_mem _ hy)
    refine ⟨kvs', a6', b', by rw [List.flatMap_cons, addAll_app]; exact h3, ?_⟩
    have g19 := f19 (m := m) (n := n) (p := p) hx0
    have e0 : evS (evF tbl m (n + 1)) m 2 b20m [.shr p.d, a1, .own (.dct kvs), a3, a4, .own (.lst (fr.map .int)), .shr (.int x), b] = .ok (.nxt, [.shr p.d, a1, .own (.dct kv2), a3, a4, .own (.lst ((fr ++ newAll ks (tgt p x)).map .int)), .shr (.int x), b2]) := by
      unfold b20m
      rw [s_seq, s_for, i_ex]
      simp only [call_e, a_cons, a_nil, var_e, gt_z, gt_6, Res.bind_ok, nams_v, nams_0, List.nodup_nil, decide_true, List.map_cons, List.map_nil, argS_v, List.all_cons, List.all_nil, isUn_shr, Bool.not_false, Bool.and_self, Res.guard_true, g19, backS_v, backS_0, stl_val, rdS_shr, seqD_t, e2]
      rfl
    show forGo _ (PyData.int x :: xs.map .int) _ = _
    unfold forGo
    show (evS (evF tbl m (n + 1)) m 2 b20m [.shr p.d, a1, .own (.dct kvs), a3, a4, .own (.lst (fr.map .int)), .shr (.int x), b]).bind _ = _
    rw [e0]
    show forGo _ (xs.map .int) _ = _
    rw [List.flatMap_cons, newAll_app, ← List.append_assoc]
    exact e3
def IsL (s : Sl) (f : List Int) : Prop := s = .own (.lst (f.map .int)) ∨ s = .shr (.list (f.map .int))
theorem ne_l0 (f : List Int) : cmpR .ne (.list (f.map .int)) (.list []) = .ok (!decide (f = [])) := by
  show (cmpR .eq (.list (f.map .int)) (.list [])).bind _ = _
  rw [eq_l ((lay_ints f).up (by decide)) (Lay.lst (n := 63) fun d hd => by cases hd)]
  cases f with
  | nil => rfl
  | cons x f => rfl
theorem new_in {f ts : List Int} {x : Int} (h : x ∈ addAll f ts) : x ∈ f ∨ x ∈ newAll f ts := by
  rw [addAll_new] at h
  exact List.mem_append.mp h
structure Lay20 (p : Play) (s : Int) (ks last : List Int) (c : Nat) : Prop where
  r : InR p ks
  re : ∀ x ∈ ks, Reach p s x
  la : ∀ x ∈ last, x ∈ ks
  cl : ∀ x ∈ ks, x ∈ last ∨ ∀ y ∈ nextL p x.toNat, y ∈ ks
  ct : last ≠ [] → c + 1 ≤ ks.length
  st : s ∈ ks
theorem Lay20.step {p : Play} (h : PlOk p) {s : Int} {ks last : List Int} {c : Nat} (l : Lay20 p s ks last c) (hn : last ≠ []) : Lay20 p s (addAll ks (last.flatMap (tgt p))) (newAll ks (last.flatMap (tgt p))) (c + 1) := by
  have hm : ∀ x ∈ last.flatMap (tgt p), ∃ y ∈ last, x ∈ nextL p y.toNat := fun x hx => by
    obtain ⟨y, hy, hx⟩ := List.mem_flatMap.mp hx
    exact ⟨y, hy, by rw [← tgt_next]; exact hx⟩
  refine ⟨addAll_inR l.r fun t ht => ?_, fun x hx => ?_, fun x hx => ?_, fun x hx => ?_, fun hne => ?_, (addAll_mem _ _ _).mpr (.inl l.st)⟩
  · obtain ⟨y, _, hy⟩ := hm t ht
    exact nextL_in h _ t hy
  · rcases (addAll_mem _ _ _).mp hx with hx | hx
    · exact l.re x hx
    · obtain ⟨y, hy, hx⟩ := hm x hx
      exact .step (l.re y (l.la y hy)) hx
  · rw [addAll_new]
    exact List.mem_append_right _ hx
  · rcases new_in hx with hx | hx
    · rcases l.cl x hx with hl | hc
      · exact .inr fun y hy => (addAll_mem _ _ _).mpr (.inr (List.mem_flatMap.mpr ⟨x, hl, by rw [tgt_next]; exact hy⟩))
      · exact .inr fun y hy => (addAll_mem _ _ _).mpr (.inl (hc y hy))
    · exact .inl hx
  · have h1 := l.ct hn
    rw [addAll_new, List.length_append]
    have : 0 < (newAll ks (last.flatMap (tgt p))).length := by
      cases hq : newAll ks (last.flatMap (tgt p)) with
      | nil => exact absurd hq hne
      | cons _ _ => simp
    omega
theorem Lay20.fin {p : Play} {s : Int} {ks : List Int} {c : Nat} (l : Lay20 p s ks [] c) : ∀ x, x ∈ ks ↔ Reach p s x := by
  refine fun x => ⟨l.re x, fun hx => ?_⟩
  induction hx with
  | refl => exact l.st
  | step _ hy ih =>
    rcases l.cl _ ih with z | z
    · cases z
    · exact z _ hy
def b20c : CE := .and (.cmp .ne (.var 3) (.lst (.nil))) (.cmp .lt (.var 4) (.cst (.int 10)))
def b20w : CS := .seq (.par [4, 5] (.cons false (.bin .add (.var 4) (.cst (.int 1))) (.cons false (.lst (.nil)) (.nil)))) (.seq (.for_ (.v 6) (.ex (.var 3)) b20m) (.seq (.asg (.v 3) (.var 5)) (.skip)))
theorem f20w {p : Play} (h : PlOk p) {s : Int} {a1 : Sl} {kvs : List (PyData × PyData)} {ks last : List Int} {c : Nat} {sl s5 x6 x7 : Sl} (hk : KeysI kvs ks) (l : Lay20 p s ks last c) (hs : IsL sl last) :
    ∃ kvs' x6' x7', KeysI kvs' (addAll ks (last.flatMap (tgt p))) ∧ evS (evF tbl m (n + 1)) m 2 b20w [.shr p.d, a1, .own (.dct kvs), sl, .shr (.int (c : Nat)), s5, x6, x7]
      = .ok (.nxt, [.shr p.d, a1, .own (.dct kvs'), .shr (.list ((newAll ks (last.flatMap (tgt p))).map .int)), .shr (.int ((c + 1 : Nat) : Int)), .shr (.list ((newAll ks (last.flatMap (tgt p))).map .int)), x6', x7']) := by
  obtain ⟨kvs', x6', x7', h2, e⟩ := f20m (m := m) (n := n) h (xs := last) (fr := []) (a1 := a1) (a3 := .shr (.list (last.map .int))) (a4 := .shr (.int ((c + 1 : Nat) : Int))) (a6 := x6) (b := x7) hk l.r (Nat.zero_le _) fun x hx => l.r.2 x (l.la x hx)
  refine ⟨kvs', x6', x7', h2, ?_⟩
  rw [List.nil_append] at e
  have e1 : (c : Int) + 1 = ((c + 1 : Nat) : Int) := by omega
  have ep : ∀ sl, evS (evF tbl m (n + 1)) m 2 (.par [4, 5] (.cons false (.bin .add (.var 4) (.cst (.int 1))) (.cons false (.lst (.nil)) (.nil)))) [.shr p.d, a1, .own (.dct kvs), sl, .shr (.int (c : Nat)), s5, x6, x7] = .ok (.nxt, [.shr p.d, a1, .own (.dct kvs), sl, .shr (.int ((c + 1 : Nat) : Int)), .own (.lst []), x6, x7]) := fun sl => by
    rw [← e1]
    rfl
  have ei : evI (evF tbl m (n + 1)) (.ex (.var 3)) [.shr p.d, a1, .own (.dct kvs), sl, .shr (.int ((c + 1 : Nat) : Int)), .own (.lst []), x6, x7] = .ok (last.map .int, [.shr p.d, a1, .own (.dct kvs), .shr (.list (last.map .int)), .shr (.int ((c + 1 : Nat) : Int)), .own (.lst []), x6, x7]) := by
    rcases hs with rfl | rfl <;> rfl
  unfold b20w
  rw [s_seq, ep]
  show evS (evF tbl m (n + 1)) m 2 (.seq (.for_ (.v 6) (.ex (.var 3)) b20m) (.seq (.asg (.v 3) (.var 5)) (.skip))) _ = _
  rw [s_seq, s_for, ei]
  show ((forGo _ (last.map .int) [.shr p.d, a1, .own (.dct kvs), .shr (.list (last.map .int)), .shr (.int ((c + 1 : Nat) : Int)), .own (.lst (([] : List Int).map .int)), x6, x7]).bind _) = _
  rw [e]
  rfl
theorem f20c {Φ : Fenv} {p : Play} {a1 a2 sl s5 x6 x7 : Sl} {last : List Int} {c : Nat} (hs : IsL sl last) : tst (evE Φ b20c [.shr p.d, a1, a2, sl, .shr (.int (c : Nat)), s5, x6, x7]) = .ok (if last = [] then false else decide ((c : Int) < 10), [.shr p.d, a1, a2, sl, .shr (.int (c : Nat)), s5, x6, x7]) := by
  have hn := ne_l0 last
  have e1 : evE Φ (.cmp .ne (.var 3) (.lst (.nil))) [.shr p.d, a1, a2, sl, .shr (.int (c : Nat)), s5, x6, x7] = .ok (.val (.shr (.bool (!decide (last = [])))), [.shr p.d, a1, a2, sl, .shr (.int (c : Nat)), s5, x6, x7]) := by
    rcases hs with rfl | rfl
    · show (cmpR .ne (.list (last.map .int)) (.list [])).bind _ = _
      rw [hn]
      rfl
    · show (cmpR .ne (.list (last.map .int)) (.list [])).bind _ = _
      rw [hn]
      rfl
  unfold b20c
  rw [and_e, e1]
  by_cases c0 : last = []
  · rw [if_pos c0]
    simp only [c0, decide_true, Bool.not_true]
    rfl
  · rw [if_neg c0]
    simp only [c0, decide_false, Bool.not_false]
    rfl
theorem lt_br (a b : Br) : PySem.W.dataLt (brD a) (brD b) = decide (a.1 < b.1 ∨ a.1 = b.1 ∧ (a.2.1 < b.2.1 ∨ a.2.1 = b.2.1 ∧ a.2.2 < b.2.2)) := by
  unfold brD
  rw [PySem.W.dataLt_tuple, PySem.W.dataLt_cons rfl, PySem.W.dataLt_cons rfl, PySem.W.dataLt_cons rfl]
  simp only [eqv_ii, PySem.W.dataLt_int]
  have e : PyProof.Rows.lexLt PyProof.Rows.itemOrd (PySem.W.keyToksAll []) (PySem.W.keyToksAll []) = false := by decide
  rw [e]
  by_cases h1 : a.1 = b.1
  · by_cases h2 : a.2.1 = b.2.1
    · by_cases h3 : a.2.2 = b.2.2
      · simp [h1, h2, h3]
      · simp [h1, h2, h3]
    · simp [h1, h2]
  · simp [h1]
def leBr (a b : Br) : Bool := !decide (b.1 < a.1 ∨ b.1 = a.1 ∧ (b.2.1 < a.2.1 ∨ b.2.1 = a.2.1 ∧ b.2.2 < a.2.2))
theorem leD_br (a b : Br) : leD (brD a) (brD b) = leBr a b := by
  unfold leD leBr
  rw [lt_br]
def sortBr (bs : List Br) : List Br := bs.mergeSort leBr
theorem sortD_brs (bs : List Br) : sortD (bs.map brD) = (sortBr bs).map brD := by
  unfold sortD sortBr
  exact (List.map_mergeSort fun a _ b _ => (leD_br a b).symm).symm
theorem sortBr_perm (bs : List Br) : (sortBr bs).Perm bs := List.mergeSort_perm _ _
theorem sortBr_up (bs : List Br) : (sortBr bs).Pairwise (fun a b => leBr a b = true) :=
  List.pairwise_mergeSort (fun a b c h1 h2 => by simp only [leBr, Bool.not_eq_true', decide_eq_false_iff_not] at *; omega) (fun a b => by
    simp only [leBr, Bool.or_eq_true, Bool.not_eq_true', decide_eq_false_iff_not]; omega) bs
theorem okSort_brs (bs : List Br) (h : bs.length ≤ lim) : okSort (bs.map brD) = true := by
  have a1 : ∀ f : List Br, alikes (f.map brD) = true := fun f => by
    induction f with
    | nil => rfl
    | cons x f ih =>
      show (PySem.W.alike (brD x) (brD x) && (f.map brD).all (fun y => PySem.W.alike (brD x) y && PySem.W.alike y (brD x)) && alikes (f.map brD)) = true
      have e : ((f.map brD).all fun y => PySem.W.alike (brD x) y && PySem.W.alike y (brD x)) = true := by
        refine List.all_eq_true.mpr fun y hy => ?_
        obtain ⟨z, _, rfl⟩ := List.mem_map.mp hy
        rfl
      rw [ih, e]
      rfl
  have a2 : ((bs.map brD).all fun d => decide (d.depth ≤ 64)) = true := by
    refine List.all_eq_true.mpr fun y hy => ?_
    obtain ⟨z, _, rfl⟩ := List.mem_map.mp hy
    exact decide_eq_true (Nat.le_trans (lay_br z).2 (by decide))
  have a3 : ((bs.map brD).all isTupC) = true := by
    refine List.all_eq_true.mpr fun y hy => ?_
    obtain ⟨z, _, rfl⟩ := List.mem_map.mp hy
    rfl
  unfold okSort
  rw [a1, a2, a3]
  simp [h]
theorem sorted_br {bs : List Br} (h : bs.length ≤ lim) : biR .sorted [.list (bs.map brD)] = .ok (.own (.lst ((sortBr bs).map brD))) := by
  show Res.guard (okSort (bs.map brD)) _ = _
  rw [okSort_brs bs h, sortD_brs]
  rfl
/-- distinct heads, sorted: the heads rise -/
theorem sortBr_heads {k sp len : Int} {bs : List Br} (hb : ∀ b ∈ bs, brOk k sp len b) (hk : k ≤ 64) (hd : bs.Pairwise fun a b => (a.1, a.2.1) ≠ (b.1, b.2.1)) : (sortBr bs).Pairwise fun a b => headK a < headK b := by
  have hp := sortBr_perm bs
  have hd2 : (sortBr bs).Pairwise fun a b => (a.1, a.2.1) ≠ (b.1, b.2.1) := (hp.pairwise_iff (fun {x y} h => Ne.symm h)).mpr hd
  refine List.Pairwise.imp_of_mem ?_ ((sortBr_up bs).and hd2)
  rintro a b ha hb' ⟨h1, h2⟩
  obtain ⟨a1, a2, _, a4, a5, _, _⟩ := hb a (hp.mem_iff.mp ha)
  obtain ⟨b1, b2, _, b4, b5, _, _⟩ := hb b (hp.mem_iff.mp hb')
  simp only [leBr, Bool.not_eq_true', decide_eq_false_iff_not] at h1
  have h3 : a.1 < b.1 ∨ (a.1 = b.1 ∧ a.2.1 < b.2.1) := by
    rcases Int.lt_trichotomy a.1 b.1 with c | c | c
    · exact .inl c
    · refine .inr ⟨c, ?_⟩
      rcases Int.lt_trichotomy a.2.1 b.2.1 with d | d | d
      · exact d
      · exact absurd (by rw [c, d]) h2
      · exact absurd (.inr ⟨c.symm, .inl d⟩) h1
    · exact absurd (.inl c) h1
  have e : ∀ x y : Int, TS.code setB [x, y] = x * 1048576 + y := fun x y => by
    have e1 : (setB : Int) ^ 1 = 1048576 := by decide
    have e0 : (setB : Int) ^ 0 = 1 := by decide
    show x * setB ^ 1 + (y * setB ^ 0 + 0) = _
    rw [e1, e0, Int.mul_one, Int.add_zero]
  show TS.code setB [a.1, a.2.1] < TS.code setB [b.1, b.2.1]
  rw [e, e]
  omega
/-! ### dicts with heads as keys -/
def hdOf (b : Br) : Int × Int := (b.1, b.2.1)
def kvB (bs : List Br) : List (PyData × PyData) := bs.map fun b => (hdD b, .int b.2.2)
def putB (bs : List Br) (b : Br) : List Br := if bs.any (fun a => decide (hdOf a = hdOf b)) = true then bs.map (fun a => if hdOf a = hdOf b then b else a) else bs ++ [b]
theorem eqv_hd (a b : Br) : PyData.eqv (hdD a) (hdD b) = decide (hdOf a = hdOf b) := by
  show ((a.1 == b.1) && ((a.2.1 == b.2.1) && true)) = _
  unfold hdOf
  by_cases h1 : a.1 = b.1 <;> by_cases h2 : a.2.1 = b.2.1 <;> simp [h1, h2]
theorem put_b (bs : List Br) (b : Br) : Rt.put (kvB bs) (hdD b) (.int b.2.2) = kvB (putB bs b) := by
  have ha : ((kvB bs).any fun p => PyData.eqv p.1 (hdD b)) = bs.any fun a => decide (hdOf a = hdOf b) := by
    unfold kvB
    rw [List.any_map]
    congr 1
    funext a
    exact eqv_hd a b
  unfold Rt.put putB
  rw [ha]
  split
  · unfold kvB
    rw [List.map_map, List.map_map]
    refine List.map_congr_left fun a _ => ?_
    show (if PyData.eqv (hdD a) (hdD b) = true then (hdD a, PyData.int b.2.2) else (hdD a, .int a.2.2)) = _
    rw [eqv_hd]
    show _ = (hdD (if hdOf a = hdOf b then b else a), PyData.int (if hdOf a = hdOf b then b else a).2.2)
    by_cases c : hdOf a = hdOf b
    · have : hdD a = hdD b := by
        unfold hdOf at c
        unfold hdD
        rw [(Prod.mk.inj c).1, (Prod.mk.inj c).2]
      simp [c, this]
    · simp [c]
  · unfold kvB
    simp
theorem putB_mem {bs : List Br} {b x : Br} (h : x ∈ putB bs b) : x ∈ bs ∨ x = b := by
  unfold putB at h
  split at h
  · obtain ⟨a, ha, e⟩ := List.mem_map.mp h
    split at e
    · exact .inr e.symm
    · exact .inl (e ▸ ha)
  · rcases List.mem_append.mp h with h | h
    · exact .inl h
    · exact .inr (by simpa using h)
theorem putB_len (bs : List Br) (b : Br) : (putB bs b).length ≤ bs.length + 1 := by
  unfold putB
  split <;> simp
theorem putB_ne (bs : List Br) (b : Br) : putB bs b ≠ [] := by
  unfold putB
  split
  · rename_i h
    intro z
    have : bs = [] := by simpa using z
    subst this
    cases h
  · simp
theorem putB_map (bs : List Br) (b : Br) : (putB bs b).map hdOf = if bs.any (fun a => decide (hdOf a = hdOf b)) = true then bs.map hdOf else bs.map hdOf ++ [hdOf b] := by
  unfold putB
  split
  · rw [List.map_map]
    refine List.map_congr_left fun a _ => ?_
    show hdOf (if hdOf a = hdOf b then b else a) = hdOf a
    split
    · rename_i c; exact c.symm
    · rfl
  · simp
theorem putB_nd {bs : List Br} {b : Br} (h : (bs.map hdOf).Nodup) : ((putB bs b).map hdOf).Nodup := by
  rw [putB_map]
  split
  · exact h
  · rename_i c
    rw [List.nodup_append]
    refine ⟨h, by simp, fun x hx y hy => ?_⟩
    simp at hy
    subst hy
    rintro rfl
    obtain ⟨a, ha, e⟩ := List.mem_map.mp hx
    exact c (List.any_eq_true.mpr ⟨a, ha, decide_eq_true e⟩)
theorem kind_hd (b : Br) : kindK (hdD b) = some 1 := rfl
theorem okFor_b (bs : List Br) (b : Br) : okFor (kvB bs) (hdD b) = true := by
  cases bs with
  | nil => rfl
  | cons a bs => rfl
theorem look_b {bs : List Br} (h : (bs.map hdOf).Nodup) {b : Br} (hb : b ∈ bs) : Rt.look (kvB bs) (hdD b) = some (.int b.2.2) := by
  induction bs with
  | nil => cases hb
  | cons a bs ih =>
    have e : Rt.look (kvB (a :: bs)) (hdD b) = if PyData.eqv (hdD a) (hdD b) = true then some (.int a.2.2) else Rt.look (kvB bs) (hdD b) := look_cons (hdD a, PyData.int a.2.2) (kvB bs) (hdD b)
    rw [e, eqv_hd]
    simp only [List.map_cons, List.nodup_cons] at h
    rcases List.mem_cons.mp hb with rfl | hb
    · simp
    · have : hdOf a ≠ hdOf b := fun c => h.1 (c ▸ List.mem_map.mpr ⟨b, hb, rfl⟩)
      simp only [this, decide_false, if_false, Bool.false_eq_true]
      exact ih h.2 hb
theorem idx_b {bs : List Br} (h : (bs.map hdOf).Nodup) {b : Br} (hb : b ∈ bs) : idxR (.dict (kvB bs)) (hdD b) = .ok (.int b.2.2) := by
  show Res.guard (okFor (kvB bs) (hdD b)) (Res.get (Rt.look (kvB bs) (hdD b))) = _
  rw [okFor_b, look_b h hb]
  rfl
def b17t1 : CS := .asg (.v 8) (.bin .mod (.bi .int (.cons false (.bin .add (.bin .add (.var 5) (.cst (.int 1))) (.call 14 (.cons false (.var 0) (.cons false (.bin .sub (.var 1) (.cst (.int 1))) (.nil))))) (.nil))) (.var 1))
def b17t2 : CS := .asg (.v 9) (.ife (.var 4) (.call 14 (.cons false (.var 0) (.cons false (.bin .add (.var 3) (.cst (.int 1))) (.nil)))) (.bin .add (.bin .add (.var 2) (.cst (.int 1))) (.call 14 (.cons false (.var 0) (.cons false (.bin .sub (.var 3) (.var 2)) (.nil))))))
def b17t3 : CS := .put 6 (.tup (.cons false (.var 8) (.cons false (.call 14 (.cons false (.var 0) (.cons false (.cst (.int 2)) (.nil)))) (.nil)))) (.var 9)
def b17t : CS := .seq b17t1 (.seq b17t2 (.seq b17t3 (.skip)))
theorem putR_hd {bs : List Br} (b : Br) (h : bs.length < 50) : putR (.dct (kvB bs)) (hdD b) (.int b.2.2) = .ok (.dct (kvB (putB bs b))) := by
  show Res.guard (okFor (kvB bs) (hdD b) && decide ((kvB bs).length < lim)) (Res.ok (Ob.dct (Rt.put (kvB bs) (hdD b) (.int b.2.2)))) = _
  have hl : (kvB bs).length < lim := by
    unfold kvB
    rw [List.length_map]
    have := lim_big
    omega
  rw [okFor_b, put_b, decide_eq_true hl]
  rfl
theorem hearer_ne {k sp z : Int} (hk : 2 ≤ k) (hsp : 0 ≤ sp ∧ sp < k) (h0 : 0 ≤ z) (h1 : z < k - 1) : (sp + 1 + z).fmod k ≠ sp := by
  intro e
  have hd := Int.fmod_add_mul_fdiv (sp + 1 + z) k
  rw [e] at hd
  have h2 : k * (sp + 1 + z).fdiv k = 1 + z := by omega
  have hq : 0 < (sp + 1 + z).fdiv k ∨ (sp + 1 + z).fdiv k ≤ 0 := by omega
  rcases hq with hq | hq
  · have : k * 1 ≤ k * (sp + 1 + z).fdiv k := Int.mul_le_mul_of_nonneg_left hq (by omega)
    omega
  · have : k * (sp + 1 + z).fdiv k ≤ k * 0 := Int.mul_le_mul_of_nonneg_left hq (by omega)
    omega
theorem f17t {r : Row} (h : RowOk r) {k at_ size sp : Int} {loops : Bool} {bs : List Br} {x7 x8 x9 x10 : Sl} (hk : 2 ≤ k) (hk4 : k ≤ 4) (ha : 0 ≤ at_) (has : at_ < size) (hs8 : size ≤ 8) (hsp : 0 ≤ sp ∧ sp < k) (hlen : bs.length < 50) :
    ∃ (b : Br) (r' : Row), brOk k sp (size + 1) b ∧ (loops = false → at_ < b.2.2) ∧ RowOk r' ∧ r'.ns = r.ns ∧ ∃ y8 y9, evS (evF tbl m (n + 1)) m 5 b17t [.own (.lst r.ds), .shr (.int k), .shr (.int at_), .shr (.int size), .shr (.bool loops), .shr (.int sp), .own (.dct (kvB bs)), x7, x8, x9, x10]
      = .ok (.nxt, [.own (.lst r'.ds), .shr (.int k), .shr (.int at_), .shr (.int size), .shr (.bool loops), .shr (.int sp), .own (.dct (kvB (putB bs b))), x7, y8, y9, x10]) := by
  obtain ⟨z1, r1, z1a, z1b, o1, n1, e1⟩ := f15 (m := m) (n := n) h (k := k - 1) (by omega) (by omega)
  have hk0 : k ≠ 0 := by omega
  have hm := fmod_in (a := sp + 1 + z1) (b := k) (by omega)
  have hne := hearer_ne hk hsp z1a z1b
  have s1 : evS (evF tbl m (n + 1)) m 5 b17t1 [.own (.lst r.ds), .shr (.int k), .shr (.int at_), .shr (.int size), .shr (.bool loops), .shr (.int sp), .own (.dct (kvB bs)), x7, x8, x9, x10]
      = .ok (.nxt, [.own (.lst r1.ds), .shr (.int k), .shr (.int at_), .shr (.int size), .shr (.bool loops), .shr (.int sp), .own (.dct (kvB bs)), x7, .shr (.int ((sp + 1 + z1).fmod k)), x9, x10]) := by
    simp [b17t1, e1, hk0, stS]
  generalize (sp + 1 + z1).fmod k = hr at hm hne s1
  have key : ∃ (z2 : Int) (r2 : Row), 0 ≤ z2 ∧ z2 < size + 1 ∧ (loops = false → at_ < z2) ∧ RowOk r2 ∧ r2.ns = r1.ns ∧ evS (evF tbl m (n + 1)) m 5 b17t2 [.own (.lst r1.ds), .shr (.int k), .shr (.int at_), .shr (.int size), .shr (.bool loops), .shr (.int sp), .own (.dct (kvB bs)), x7, .shr (.int hr), x9, x10]
      = .ok (.nxt, [.own (.lst r2.ds), .shr (.int k), .shr (.int at_), .shr (.int size), .shr (.bool loops), .shr (.int sp), .own (.dct (kvB bs)), x7, .shr (.int hr), .shr (.int z2), x10]) := by
    cases loops with
    | true =>
      obtain ⟨z2, r2, z2a, z2b, o2, n2, e2⟩ := f15 (m := m) (n := n) o1 (k := size + 1) (by omega) (by omega)
      have nf : true = false → at_ < z2 := fun c => (nomatch c)
      refine ⟨z2, r2, z2a, z2b, nf, o2, n2, ?_⟩
      simp [b17t2, e2, stS]
    | false =>
      obtain ⟨z2, r2, z2a, z2b, o2, n2, e2⟩ := f15 (m := m) (n := n) o1 (k := size - at_) (by omega) (by omega)
      refine ⟨at_ + 1 + z2, r2, by omega, by omega, fun _ => by omega, o2, n2, ?_⟩
      simp [b17t2, e2, stS]
  obtain ⟨z2, r2, z2a, z2b, z2c, o2, n2, s2⟩ := key
  obtain ⟨z3, r3, z3a, z3b, o3, n3, e3⟩ := f15 (m := m) (n := n) o2 (k := 2) (by omega) (by omega)
  have p3 := putR_hd (hr, z3, z2) hlen
  have s3 : evS (evF tbl m (n + 1)) m 5 b17t3 [.own (.lst r2.ds), .shr (.int k), .shr (.int at_), .shr (.int size), .shr (.bool loops), .shr (.int sp), .own (.dct (kvB bs)), x7, .shr (.int hr), .shr (.int z2), x10]
      = .ok (.nxt, [.own (.lst r3.ds), .shr (.int k), .shr (.int at_), .shr (.int size), .shr (.bool loops), .shr (.int sp), .own (.dct (kvB (putB bs (hr, z3, z2)))), x7, .shr (.int hr), .shr (.int z2), x10]) := by
    simp [hdD] at p3
    simp [b17t3, e3, stS, p3, lim]
  refine ⟨(hr, z3, z2), r3, ⟨hm.1, hm.2, hne, z3a, by show z3 < 6; omega, z2a, z2b⟩, z2c, o3, by rw [n3, n2, n1], .shr (.int hr), .shr (.int z2), ?_⟩
  unfold b17t
  rw [s_seq, s1]
  show evS _ m 5 (.seq b17t2 (.seq b17t3 .skip)) _ = _
  rw [s_seq, s2]
  show evS _ m 5 (.seq b17t3 .skip) _ = _
  rw [s_seq, s3]
  rfl
def b17e : CE := .tup (.cons false (.var 5) (.cons false (.bi .tuple (.cons false (.bi .sorted (.cons false (.lc [10] (.v 10) (.ex (.bi .list (.cons false (.var 6) (.nil)))) (.nil) (.bin .add (.var 10) (.tup (.cons false (.idx (.var 6) (.var 10)) (.nil))))) (.nil))) (.nil))) (.nil)))
theorem add_hd (b : Br) : binR .add (hdD b) (.tuple [.int b.2.2]) = .ok (.shr (brD b)) := rfl
theorem f17e {Φ : Fenv} {bs : List Br} {x0 x1 x2 x3 x4 x7 x8 x9 : Sl} {sp : Int} (hn : (bs.map hdOf).Nodup) (hl : bs.length < 50) :
    evE Φ b17e [x0, x1, x2, x3, x4, .shr (.int sp), .own (.dct (kvB bs)), x7, x8, x9, .un] = .ok (.val (.shr (scD (some (sp, sortBr bs)))), [x0, x1, x2, x3, x4, .shr (.int sp), .own (.dct (kvB bs)), x7, x8, x9, .un]) := by
  have hl2 : bs.length ≤ lim := by have := lim_big; omega
  have e1 : biR .list [.dict (kvB bs)] = .ok (.own (.lst (bs.map hdD))) := by
    show Res.ok (Sl.own (.lst ((kvB bs).map (·.1)))) = _
    unfold kvB
    rw [List.map_map]
    rfl
  have c1' : lcGo (lcT Φ (.v 10) .nil (.bin .add (.var 10) (.tup (.cons false (.idx (.var 6) (.var 10)) (.nil)))) [10]) (bs.map hdD) [] [x0, x1, x2, x3, x4, .shr (.int sp), .own (.dct (kvB bs)), x7, x8, x9, .un]
      = .ok (bs.map brD, [x0, x1, x2, x3, x4, .shr (.int sp), .own (.dct (kvB bs)), x7, x8, x9, .un]) := by
    refine lc_mapg (fun b hb => ?_) hl2
    have e2 := idx_b hn hb
    have e3 := add_hd b
    generalize hdD b = hd at e2 e3
    simp [lcT, bt, e2, e3, wipeR, lim, Ob.dat]
  have s1 := sorted_br hl2
  generalize hK : kvB bs = K at e1 c1'
  generalize bs.map hdD = HH at e1 c1'
  simp [b17e, e1, wipeR, c1', backR, s1, lim, scD, Ob.dat, tup_l]
/-- _law_scene -/
theorem f17 {r : Row} (h : RowOk r) {k at_ size : Int} {loops : Bool} (hk : 2 ≤ k) (hk4 : k ≤ 4) (ha : 0 ≤ at_) (has : at_ < size) (hs8 : size ≤ 8) :
    ∃ (sp : Int) (bs : List Br) (r' : Row), ScOk k (size + 1) sp bs ∧ bs.length ≤ 2 ∧ (loops = false → ∀ b ∈ bs, at_ < b.2.2) ∧ RowOk r' ∧ r'.ns = r.ns ∧ evF tbl m (n + 2) 16 [.own (.lst r.ds), .shr (.int k), .shr (.int at_), .shr (.int size), .shr (.bool loops)]
      = .ok (.shr (scD (some (sp, bs))), [.own (.lst r'.ds), .shr (.int k), .shr (.int at_), .shr (.int size), .shr (.bool loops)]) := by
  rw [call_F (np := 5) (ns := 11) (c := c16) rfl rfl]
  obtain ⟨sp, r1, spa, spb, o1, n1, e1⟩ := f15 (m := m) (n := n) h (k := k) (by omega) (by omega)
  obtain ⟨z, r2, za, zb, o2, n2, e2⟩ := f15 (m := m) (n := n) o1 (k := 2) (by omega) (by omega)
  obtain ⟨ρ', e, bs, r3, y7, y8, y9, hl, hne, hnd, hbr, hlo, o3, n3, hρ⟩ := forGo_ind (f := fun d ρ => (bt 5 (.v 7) d ρ).bind fun ρ => evS (evF tbl m (n + 1)) m 5 b17t ρ)
    (fun j ρ => ∃ (bs : List Br) (r' : Row) (y7 y8 y9 : Sl), bs.length ≤ j ∧ (0 < j → bs ≠ []) ∧ (bs.map hdOf).Nodup ∧ (∀ b ∈ bs, brOk k sp (size + 1) b) ∧ (loops = false → ∀ b ∈ bs, at_ < b.2.2) ∧ RowOk r' ∧ r'.ns = r.ns ∧ ρ = [.own (.lst r'.ds), .shr (.int k), .shr (.int at_), .shr (.int size), .shr (.bool loops), .shr (.int sp), .own (.dct (kvB bs)), y7, y8, y9, .un])
    (ds := rngD 0 (1 + z)) (k := 0) (ρ := [.own (.lst r2.ds), .shr (.int k), .shr (.int at_), .shr (.int size), .shr (.bool loops), .shr (.int sp), .own (.dct (kvB [])), .un, .un, .un, .un])
    ⟨[], r2, .un, .un, .un, Nat.le_refl _, fun c => absurd c (by omega), by simp, (fun b hb => by cases hb), (fun _ b hb => by cases hb), o2, by rw [n2, n1], rfl⟩
    fun i d ρ hd ⟨bs, r', y7, y8, y9, hl, hne, hnd, hbr, hlo, o3, n3, hρ⟩ => by
      subst hρ
      have hi : i < 2 := by
        have := (List.getElem?_eq_some_iff.mp hd).1
        unfold rngD at this
        simp at this
        omega
      obtain ⟨b, r4, b1, b2, o4, n4, z8, z9, e4⟩ := f17t (m := m) (n := n) o3 (size := size) (loops := loops) (bs := bs) (x7 := .shr d) (x8 := y8) (x9 := y9) (x10 := .un) hk hk4 ha has hs8 ⟨spa, spb⟩ (by omega)
      refine ⟨_, e4, putB bs b, r4, _, _, _, Nat.le_trans (putB_len bs b) (by omega), fun _ => putB_ne bs b, putB_nd hnd, fun x hx => ?_, fun c x hx => ?_, o4, by rw [n4, n3], rfl⟩
      · rcases putB_mem hx with hx | rfl
        · exact hbr x hx
        · exact b1
      · rcases putB_mem hx with hx | rfl
        · exact hlo c x hx
        · exact b2 c
  subst hρ
  have hlen : (rngD 0 (1 + z)).length = (1 + z).toNat := by unfold rngD; simp
  rw [hlen] at hl hne
  have hl2 : bs.length < 50 := by omega
  have hp := sortBr_perm bs
  refine ⟨sp, sortBr bs, r3, ⟨spa, spb, ?_, ?_, ?_, ?_⟩, (by rw [hp.length_eq]; omega), ?_, o3, n3, ?_⟩
  · intro c
    rw [c] at hp
    exact hne (by omega) hp.nil_eq.symm
  · exact fun b hb => hbr b (hp.mem_iff.mp hb)
  · refine sortBr_heads hbr (by omega) ?_
    have := List.nodup_iff_pairwise_ne.mp hnd
    rw [List.pairwise_map] at this
    exact this
  · rw [hp.length_eq]; omega
  · exact fun c b hb => hlo c b (hp.mem_iff.mp hb)
  · have ee := f17e (Φ := evF tbl m (n + 1)) (bs := bs) (x0 := .own (.lst r3.ds)) (x1 := .shr (.int k)) (x2 := .shr (.int at_)) (x3 := .shr (.int size)) (x4 := .shr (.bool loops)) (x7 := y7) (x8 := y8) (x9 := y9) (sp := sp) hnd hl2
    have g1 : okRng (1 + z) = true := by unfold okRng; simp; omega
    have ep : evS (evF tbl m (n + 1)) m 5 (.par [5, 6] (.cons false (.call 14 (.cons false (.var 0) (.cons false (.var 1) (.nil)))) (.cons false (.dct (.nil)) (.nil)))) [.own (.lst r.ds), .shr (.int k), .shr (.int at_), .shr (.int size), .shr (.bool loops), .un, .un, .un, .un, .un, .un]
        = .ok (.nxt, [.own (.lst r1.ds), .shr (.int k), .shr (.int at_), .shr (.int size), .shr (.bool loops), .shr (.int sp), .own (.dct (kvB [])), .un, .un, .un, .un]) := by
      simp [e1, stS, taks, stAll, kvB]
    have ei : evI (evF tbl m (n + 1)) (.rng1 (.bin .add (.cst (.int 1)) (.call 14 (.cons false (.var 0) (.cons false (.cst (.int 2)) (.nil)))))) [.own (.lst r1.ds), .shr (.int k), .shr (.int at_), .shr (.int size), .shr (.bool loops), .shr (.int sp), .own (.dct (kvB [])), .un, .un, .un, .un]
        = .ok (rngD 0 (1 + z), [.own (.lst r2.ds), .shr (.int k), .shr (.int at_), .shr (.int size), .shr (.bool loops), .shr (.int sp), .own (.dct (kvB [])), .un, .un, .un, .un]) := by
      simp [e2, g1]
    show (evS (evF tbl m (n + 1)) m 5 (.seq (.par [5, 6] _) (.seq (.for_ (.v 7) _ b17t) (.seq (.ret b17e) .skip))) [.own (.lst r.ds), .shr (.int k), .shr (.int at_), .shr (.int size), .shr (.bool loops), .un, .un, .un, .un, .un, .un]).bind _ = _
    rw [s_seq, ep]
    show (evS (evF tbl m (n + 1)) m 5 (.seq (.for_ (.v 7) _ b17t) (.seq (.ret b17e) .skip)) _).bind _ = _
    rw [s_seq, s_for, ei]
    show (((forGo _ _ _).bind _)).bind _ = _
    rw [e]
    show (evS (evF tbl m (n + 1)) m 5 (.seq (.ret b17e) .skip) _).bind _ = _
    rw [s_seq, s_ret, ee]
    rfl
theorem lcGo_ind {f : PyData → Rho → Res (List PyData × Rho)} (Pv : Nat → List PyData → Rho → Prop) : ∀ {ds acc : List PyData} {k : Nat} {ρ : Rho}, Pv k acc ρ → (∀ i d acc ρ, ds[i]? = some d → Pv (k + i) acc ρ → ∃ ys ρ', f d ρ = .ok (ys, ρ') ∧ (acc ++ ys).length ≤ lim ∧ Pv (k + i + 1) (acc ++ ys) ρ') → ∃ acc' ρ', lcGo f ds acc ρ = .ok (acc', ρ') ∧ Pv (k + ds.length) acc' ρ'
  | [], acc, k, ρ, h, _ => ⟨acc, ρ, rfl, h⟩
  | d :: ds, acc, k, ρ, h, hs => by
    obtain ⟨ys, ρ1, e1, l1, p1⟩ := hs 0 d acc ρ rfl h
    obtain ⟨acc2, ρ2, e2, p2⟩ := lcGo_ind Pv (ds := ds) (k := k + 1) p1 fun i x acc ρ hx hp => by
      obtain ⟨ys, ρ', e', l', p'⟩ := hs (i + 1) x acc ρ (by simpa using hx) (by rw [show k + (i + 1) = k + 1 + i by omega]; exact hp)
      exact ⟨ys, ρ', e', l', by rw [show k + 1 + i + 1 = k + (i + 1) + 1 by omega]; exact p'⟩
    refine ⟨acc2, ρ2, ?_, by rw [List.length_cons, show k + (ds.length + 1) = k + 1 + ds.length by omega]; exact p2⟩
    unfold lcGo
    rw [e1]
    show Res.guard (decide ((acc ++ ys).length ≤ lim)) _ = _
    rw [decide_eq_true l1]
    exact e2
def scsD (scs : List (Int × List Br)) : List PyData := scs.map fun q => scD (some q)
/-- _law_script -/
theorem f18 {r : Row} (h : RowOk r) {k most : Int} {loops : Bool} (hk : 2 ≤ k) (hk4 : k ≤ 4) (hm0 : 1 ≤ most) (hm7 : most ≤ 7) :
    ∃ (scs : List (Int × List Br)) (r' : Row), PlOk ⟨k, scs.map some ++ [none]⟩ ∧ 1 ≤ scs.length ∧ (scs.length : Int) ≤ most ∧ (∀ q ∈ scs, q.2.length ≤ 2) ∧ (loops = false → ∀ (i : Nat) (q : Int × List Br), scs[i]? = some q → ∀ b ∈ q.2, (i : Int) < b.2.2) ∧ RowOk r' ∧ r'.ns = r.ns ∧
      evF tbl m (n + 3) 17 [.own (.lst r.ds), .shr (.int k), .shr (.int most), .shr (.bool loops)]
      = .ok (.shr (Play.d ⟨k, scs.map some ++ [none]⟩), [.own (.lst r'.ds), .shr (.int k), .shr (.int most), .shr (.bool loops)]) := by
  rw [call_F (np := 4) (ns := 6) (c := c17) rfl rfl]
  obtain ⟨z, r1, za, zb, o1, n1, e1⟩ := f15 (m := m) (n := n + 1) h (k := most) (by omega) (by omega)
  simp only [Nat.add_assoc, Nat.reduceAdd] at e1
  obtain ⟨acc, ρ', e, scs, r2, hacc, hl, hsc, hlo, o2, n2, hρ⟩ := lcGo_ind (f := lcT (evF tbl m (n + 2)) (.v 5) .nil (.call 16 (.cons false (.var 0) (.cons false (.var 1) (.cons false (.var 5) (.cons false (.var 4) (.cons false (.var 3) (.nil))))))) [5])
    (fun j acc ρ => ∃ (scs : List (Int × List Br)) (r' : Row), acc = scsD scs ∧ scs.length = j ∧ (∀ q ∈ scs, ScOk k (1 + z + 1) q.1 q.2 ∧ q.2.length ≤ 2) ∧ (loops = false → ∀ (i : Nat) (q : Int × List Br), scs[i]? = some q → ∀ b ∈ q.2, (i : Int) < b.2.2) ∧ RowOk r' ∧ r'.ns = r.ns ∧ ρ = [.own (.lst r'.ds), .shr (.int k), .shr (.int most), .shr (.bool loops), .shr (.int (1 + z)), .un])
    (ds := rngD 0 (1 + z)) (acc := []) (k := 0) (ρ := [.own (.lst r1.ds), .shr (.int k), .shr (.int most), .shr (.bool loops), .shr (.int (1 + z)), .un])
    ⟨[], r1, rfl, rfl, (fun q hq => by cases hq), (fun _ i q hq => by simp at hq), o1, n1, rfl⟩
    fun i d acc ρ hd ⟨scs, r', hacc, hl, hsc, hlo, o2, n2, hρ⟩ => by
      subst hρ
      have hi : (i : Int) < 1 + z ∧ d = .int (i : Nat) := by
        unfold rngD at hd
        rw [List.getElem?_map] at hd
        obtain ⟨w, hw, rfl⟩ := Option.map_eq_some_iff.mp hd
        obtain ⟨h1, h2⟩ := List.getElem?_eq_some_iff.mp hw
        simp at h1 h2
        subst h2
        exact ⟨by omega, by simp⟩
      obtain ⟨hi1, rfl⟩ := hi
      obtain ⟨sp, bs, r3, sok, s2, slo, o3, n3, e3⟩ := f17 (m := m) (n := n) o2 (k := k) (at_ := (i : Nat)) (size := 1 + z) (loops := loops) hk hk4 (by omega) hi1 (by omega)
      refine ⟨[scD (some (sp, bs))], [.own (.lst r3.ds), .shr (.int k), .shr (.int most), .shr (.bool loops), .shr (.int (1 + z)), .un], ?_, ?_, scs ++ [(sp, bs)], r3, ?_, ?_, ?_, ?_, o3, by rw [n3, n2], rfl⟩
      · simp [lcT, bt, e3, wipeR, scD]
      · rw [hacc]
        unfold scsD
        simp only [List.length_append, List.length_map, List.length_singleton]
        have := lim_big
        omega
      · rw [hacc]
        unfold scsD
        rw [List.map_append]
        rfl
      · simp [hl]
      · intro q hq
        rcases List.mem_append.mp hq with hq | hq
        · exact hsc q hq
        · simp at hq
          subst hq
          exact ⟨sok, s2⟩
      · intro c j q hq b hb
        by_cases hj : j < scs.length
        · rw [List.getElem?_append_left hj] at hq
          exact hlo c j q hq b hb
        · rw [List.getElem?_append_right (by omega)] at hq
          have hj2 : j - scs.length = 0 := by
            have := (List.getElem?_eq_some_iff.mp hq).1
            simp at this
            omega
          rw [hj2] at hq
          simp at hq
          subst hq
          have hji : j = i := by omega
          subst hji
          exact slo c b hb
  subst hρ
  have hlen : (rngD 0 (1 + z)).length = (1 + z).toNat := by unfold rngD; simp
  rw [hlen] at hl
  refine ⟨scs, r2, ⟨hk, hk4, by simp, by show (scs.map some ++ [none]).length ≤ 8; simp; omega, ?_⟩, by omega, by omega, fun q hq => (hsc q hq).2, hlo, o2, n2, ?_⟩
  · intro sp brs hm
    have hm : some (sp, brs) ∈ scs.map some ++ [none] := hm
    have h2 : (sp, brs) ∈ scs := by simpa using hm
    have := (hsc _ h2).1
    have e : (((scs.map some ++ [none]).length : Nat) : Int) = 1 + z + 1 := by simp; omega
    show ScOk k ((scs.map some ++ [none]).length : Nat) sp brs
    rw [e]
    exact this
  · have g1 : okRng (1 + z) = true := by unfold okRng; simp; omega
    have hl2 : (scsD scs).length + 1 ≤ 16777216 := by unfold scsD; rw [List.length_map]; omega
    have ed : Play.d ⟨k, scs.map some ++ [none]⟩ = .tuple [.int k, .tuple (scsD scs ++ [.none])] := by
      unfold Play.d scsD
      simp [scD]
    rw [ed]
    rw [hacc] at e
    have eb : binR .add (.tuple (scsD scs)) (.tuple [.none]) = .ok (.shr (.tuple (scsD scs ++ [.none]))) := by
      show Res.guard (decide ((scsD scs).length + 1 ≤ lim)) _ = _
      rw [decide_eq_true (by exact hl2)]
      rfl
    generalize scsD scs = A at e eb ⊢
    generalize hB : rngD 0 (1 + z) = B at e
    simp [cF, c17, e1, stS, g1, hB, wipeR, e, backR, tup_l, lim, eb]
/-! ### trimming twice -/
def pos (R : List Int) (x : Int) : Int := (R.idxOf x : Nat)
theorem pos_lt {R : List Int} {x : Int} (h : x ∈ R) : 0 ≤ pos R x ∧ pos R x < R.length := by
  have := List.idxOf_lt_length_of_mem h
  unfold pos
  omega
theorem pos_inj {R : List Int} {x y : Int} (hx : x ∈ R) (h : pos R x = pos R y) : x = y := by
  unfold pos at h
  have h : R.idxOf x = R.idxOf y := by omega
  have h1 : R[R.idxOf x]? = some x := by
    rw [List.getElem?_eq_getElem (List.idxOf_lt_length_of_mem hx), List.getElem_idxOf]
  have hy : R.idxOf y < R.length := by rw [← h]; exact List.idxOf_lt_length_of_mem hx
  rw [h, List.getElem?_eq_getElem hy, List.getElem_idxOf] at h1
  exact (Option.some.inj h1).symm
theorem scAt_trim {p : Play} {x : Int} (hx : x ∈ reachL p (0 : Nat)) : scAt (trimP p) (pos (reachL p (0 : Nat)) x) = trS (reachL p (0 : Nat)) (scAt p x) := by
  unfold scAt trimP pos
  simp only [Int.toNat_natCast]
  rw [List.getElem?_map, List.getElem?_eq_getElem (List.idxOf_lt_length_of_mem hx), List.getElem_idxOf]
  rfl
theorem next_sc (p : Play) (i : Nat) : nextL p i = match scAt p (i : Nat) with
    | some q => q.2.map (·.2.2)
    | none => [] := by
  unfold nextL scAt
  rw [Int.toNat_natCast]
  cases p.sc[i]? with
  | none => rfl
  | some s => cases s <;> rfl
theorem next_sc2 {p : Play} {x : Int} : nextL p x.toNat = match scAt p x with
    | some q => q.2.map (·.2.2)
    | none => [] := by
  rw [next_sc]
  unfold scAt
  rw [Int.toNat_natCast]
theorem next_trim {p : Play} {x : Int} (hx : x ∈ reachL p (0 : Nat)) : nextL (trimP p) (pos (reachL p (0 : Nat)) x).toNat = (nextL p x.toNat).map (pos (reachL p (0 : Nat))) := by
  rw [next_sc2, next_sc2, scAt_trim hx]
  cases scAt p x with
  | none => rfl
  | some q =>
    show (q.2.map (trB _)).map (·.2.2) = (q.2.map (·.2.2)).map _
    rw [List.map_map, List.map_map]
    rfl
theorem mem_pos {R f : List Int} {t : Int} (hf : ∀ x ∈ f, x ∈ R) : pos R t ∈ f.map (pos R) ↔ t ∈ f := by
  constructor
  · intro h
    obtain ⟨x, hx, e⟩ := List.mem_map.mp h
    rw [← pos_inj (hf x hx) e]
    exact hx
  · exact fun h => List.mem_map.mpr ⟨t, h, rfl⟩
theorem addAll_pos {R : List Int} : ∀ {ts f : List Int}, (∀ x ∈ f, x ∈ R) → (∀ x ∈ ts, x ∈ R) → addAll (f.map (pos R)) (ts.map (pos R)) = (addAll f ts).map (pos R)
  | [], f, _, _ => rfl
  | t :: ts, f, hf, ht => by
    show addAll (if pos R t ∈ f.map (pos R) then f.map (pos R) else f.map (pos R) ++ [pos R t]) (ts.map (pos R)) = (addAll (if t ∈ f then f else f ++ [t]) ts).map (pos R)
    have ht2 := fun x hx => ht x (List.mem_cons_of_mem _ hx)
    by_cases c : t ∈ f
    · rw [if_pos c, if_pos ((mem_pos hf).mpr c)]
      exact addAll_pos hf ht2
    · rw [if_neg c, if_neg fun z => c ((mem_pos hf).mp z)]
      have := addAll_pos (f := f ++ [t]) (fun x hx => by
        rcases List.mem_append.mp hx with h | h
        · exact hf x h
        · simp at h
          subst h
          exact ht x (List.mem_cons_self ..)) ht2
      rw [← this]
      simp
theorem bfs_trim {p : Play} (hc : ∀ x ∈ reachL p (0 : Nat), ∀ y ∈ nextL p x.toNat, y ∈ reachL p (0 : Nat)) : ∀ (k : Nat) (f : List Int) (a : Nat), (∀ x ∈ f, x ∈ reachL p (0 : Nat)) → bfs (trimP p) k (f.map (pos (reachL p (0 : Nat)))) a = (bfs p k f a).map (pos (reachL p (0 : Nat)))
  | 0, f, a, _ => rfl
  | k + 1, f, a, h => by
    unfold bfs
    rw [List.getElem?_map]
    cases hfa : f[a]? with
    | none => rfl
    | some x =>
      have hx := h x (List.mem_of_getElem? hfa)
      show bfs (trimP p) k (addAll (f.map _) (nextL (trimP p) (pos _ x).toNat)) (a + 1) = _
      rw [next_trim hx, addAll_pos h (hc x hx)]
      exact bfs_trim hc k _ _ fun y hy => by
        rcases (addAll_mem _ _ _).mp hy with hy | hy
        · exact h y hy
        · exact hc x hx y hy
theorem bfs_pre {p : Play} : ∀ (k : Nat) (f : List Int) (a : Nat), ∃ g, bfs p k f a = f ++ g
  | 0, f, a => ⟨[], by simp [bfs]⟩
  | k + 1, f, a => by
    unfold bfs
    split
    · rename_i x hx
      obtain ⟨g, hg⟩ := addAll_pre f (nextL p x.toNat)
      obtain ⟨g2, hg2⟩ := bfs_pre k (addAll f (nextL p x.toNat)) (a + 1)
      exact ⟨g ++ g2, by rw [hg2, hg]; simp⟩
    · exact ⟨[], by simp⟩
theorem reach_closed {p : Play} (h : PlOk p) : ∀ x ∈ reachL p (0 : Nat), ∀ y ∈ nextL p x.toNat, y ∈ reachL p (0 : Nat) := by
  obtain ⟨r1, r2⟩ := reachL_ok h (s := 0) (by have := h.l1; omega)
  exact fun x hx y hy => (r2 y).mpr (.step ((r2 x).mp hx) hy)
theorem reach_trim {p : Play} (h : PlOk p) : reachL (trimP p) (0 : Nat) = (reachL p (0 : Nat)).map (pos (reachL p (0 : Nat))) := by
  have e := bfs_trim (reach_closed h) 9 [((0 : Nat) : Int)] 0 (fun x hx => by
    simp at hx
    subst hx
    exact ((reachL_ok h (s := 0) (by have := h.l1; omega)).2 _).mpr .refl)
  have e0 : pos (reachL p (0 : Nat)) ((0 : Nat) : Int) = ((0 : Nat) : Int) := by
    obtain ⟨g, hg⟩ := bfs_pre (p := p) 9 [((0 : Nat) : Int)] 0
    have hg : reachL p (0 : Nat) = [((0 : Nat) : Int)] ++ g := hg
    rw [hg]
    simp [pos]
  rw [List.map_cons, List.map_nil, e0] at e
  exact e
theorem idx_pos {R : List Int} : ∀ {f : List Int} {t : Int}, (∀ x ∈ f, x ∈ R) → (f.map (pos R)).idxOf (pos R t) = f.idxOf t
  | [], t, _ => rfl
  | x :: f, t, h => by
    rw [List.map_cons, List.idxOf_cons, List.idxOf_cons, idx_pos fun y hy => h y (List.mem_cons_of_mem _ hy)]
    by_cases c : x = t
    · subst c; simp
    · have c2 : pos R x ≠ pos R t := fun z => c (pos_inj (h x (List.mem_cons_self ..)) z)
      have e1 : (x == t) = false := by simpa using c
      have e2 : (pos R x == pos R t) = false := by simpa using c2
      rw [e1, e2]
theorem trS_twice {R : List Int} (s : Sc) : trS (R.map (pos R)) (trS R s) = trS R s := by
  cases s with
  | none => rfl
  | some q =>
    show some (q.1, (q.2.map (trB R)).map (trB (R.map (pos R)))) = some (q.1, q.2.map (trB R))
    rw [List.map_map]
    congr 2
    refine List.map_congr_left fun b _ => ?_
    show (b.1, b.2.1, (((R.map (pos R)).idxOf (pos R b.2.2) : Nat) : Int)) = (b.1, b.2.1, ((R.idxOf b.2.2 : Nat) : Int))
    rw [idx_pos fun x hx => hx]
theorem trim_twice {p : Play} (h : PlOk p) : trimP (trimP p) = trimP p := by
  have e : trimP (trimP p) = ⟨p.k, (reachL (trimP p) (0 : Nat)).map fun x => trS (reachL (trimP p) (0 : Nat)) (scAt (trimP p) x)⟩ := rfl
  rw [e, reach_trim h, List.map_map]
  show Play.mk p.k _ = ⟨p.k, (reachL p (0 : Nat)).map fun x => trS (reachL p (0 : Nat)) (scAt p x)⟩
  congr 1
  refine List.map_congr_left fun x hx => ?_
  show trS _ (scAt (trimP p) (pos _ x)) = _
  rw [scAt_trim hx, trS_twice]
theorem trim_ok {p : Play} (h : PlOk p) : PlOk (trimP p) := by
  have h0 : 0 < p.sc.length := by have := h.l1; omega
  obtain ⟨r1, r2⟩ := reachL_ok h h0
  have hl : (trimP p).sc.length = (reachL p (0 : Nat)).length := by unfold trimP; simp
  have hr0 : ((0 : Nat) : Int) ∈ reachL p (0 : Nat) := (r2 _).mpr .refl
  refine ⟨h.k2, h.k4, ?_, ?_, ?_⟩
  · rw [hl]
    exact List.length_pos_of_mem hr0
  · rw [hl]
    exact reach_short h h0
  · intro sp brs hm
    obtain ⟨x, hx, e⟩ := List.mem_map.mp (show some (sp, brs) ∈ (reachL p (0 : Nat)).map fun x => trS (reachL p (0 : Nat)) (scAt p x) from hm)
    cases hq : scAt p x with
    | none => rw [hq] at e; cases e
    | some q =>
      rw [hq] at e
      have e : some (q.1, q.2.map (trB (reachL p (0 : Nat)))) = some (sp, brs) := e
      obtain ⟨rfl, rfl⟩ := Prod.mk.inj (Option.some.inj e)
      have ok := h.sc q.1 q.2 (sc_mem hq)
      refine ⟨ok.sp0, ok.sp1, ?_, ?_, ?_, ?_⟩
      · intro z
        exact ok.ne (List.map_eq_nil_iff.mp z)
      · intro b hb
        obtain ⟨b0, hb0, rfl⟩ := List.mem_map.mp hb
        obtain ⟨h1, h2, h3, h4, h5, _, _⟩ := ok.br b0 hb0
        have ht : b0.2.2 ∈ reachL p (0 : Nat) := reach_closed h x hx _ (by
          rw [next_sc2, hq]
          exact List.mem_map.mpr ⟨b0, hb0, rfl⟩)
        have hp := pos_lt ht
        rw [hl]
        exact ⟨h1, h2, h3, h4, h5, hp.1, hp.2⟩
      · rw [List.pairwise_map]
        exact ok.up
      · rw [List.length_map]
        exact ok.few
theorem lay_br' (b : Br) : Lay 1 (brD b) := lay_br b
theorem lay_sc (s : Sc) : Lay 3 (scD s) := by
  cases s with
  | none => exact .none
  | some q =>
    refine .tup fun d hd => ?_
    simp at hd
    rcases hd with rfl | rfl
    · exact .int _
    · exact (lay_brs q.2)
theorem lay_pl (p : Play) : Lay 5 p.d := .tup fun d hd => by
  simp at hd
  rcases hd with rfl | rfl
  · exact .int _
  · exact .tup fun d hd => by
      obtain ⟨s, _, rfl⟩ := List.mem_map.mp hd
      exact lay_sc s
theorem eq_pl (p : Play) : cmpR .eq p.d p.d = .ok true := eq_t_self ((lay_pl p).up (by decide))
/-! ### events -/
abbrev Ev := Bool × Int × Int
def evD (e : Ev) : PyData := .tuple [.str (if e.1 = true then "say" else "hear"), .int e.2.1, .int e.2.2]
def evO : Option Ev → PyData
  | none => .none
  | some e => evD e
def evt (sp a : Int) (b : Br) : Option Ev := if a = sp then some (true, b.1, b.2.1) else if a = b.1 then some (false, sp, b.2.1) else none
theorem f8 {p : Play} {x : Int} (hx : 0 ≤ x ∧ x < p.sc.length) {q : Int × List Br} (hq : scAt p x = some q) (b : Br) (a : Int) :
    evF tbl m (n + 1) 7 [.shr p.d, .shr (.int x), .shr (brD b), .shr (.int a)] = .ok (.shr (evO (evt q.1 a b)), [.shr p.d, .shr (.int x), .shr (brD b), .shr (.int a)]) := by
  rw [call_F (np := 4) (ns := 5) (c := c7) rfl rfl]
  have e := at_sc hx
  rw [hq] at e
  unfold evt
  by_cases h1 : a = q.1
  · simp [cF, c7, Play.d, at1, at0, e, scD, brD, stS, h1, evO, evD, lim]
  · by_cases h2 : a = b.1
    · subst h2
      simp [cF, c7, Play.d, at1, at0, e, scD, brD, stS, h1, evO, evD, lim]
    · simp [cF, c7, Play.d, at1, at0, e, scD, brD, stS, h1, h2, evO]
theorem f24 {p : Play} {x : Int} (hx : 0 ≤ x ∧ x < p.sc.length) {q : Int × List Br} (hq : scAt p x = some q) (b : Br) (a : Int) :
    evF tbl m (n + 1) 18 [.shr p.d, .shr (.int x), .shr (brD b), .shr (.int a)] = .ok (.shr (evO (evt q.1 a b)), [.shr p.d, .shr (.int x), .shr (brD b), .shr (.int a)]) := by
  rw [call_F (np := 4) (ns := 5) (c := c18) rfl rfl]
  have e := at_sc hx
  rw [hq] at e
  unfold evt
  by_cases h1 : a = q.1
  · simp [cF, c18, Play.d, at1, at0, e, scD, brD, stS, h1, evO, evD, lim]
  · by_cases h2 : a = b.1
    · subst h2
      simp [cF, c18, Play.d, at1, at0, e, scD, brD, stS, h1, evO, evD, lim]
    · simp [cF, c18, Play.d, at1, at0, e, scD, brD, stS, h1, h2, evO]
@[simp] theorem isNo_ev (o : Option Ev) : isNo (evO o) = o.isNone := by cases o <;> rfl
theorem f6 {p : Play} {a : Int} (ha : 0 ≤ a ∧ a < p.k) : evF tbl m (n + 3) 6 [.shr p.d, .shr (.int a)] = .ok (.shr .none, [.shr p.d, .shr (.int a)]) := by
  rw [call_F (np := 2) (ns := 2) (c := c6) rfl rfl]
  have g1 := fun i lo hi => f1 (m := m) (n := n) (.int i) lo hi rfl
  have h1 := ha.1
  have h2 : a ≤ p.k - 1 := by have := ha.2; omega
  simp [cF, c6, Play.d, at0, g1, inD, h1, h2]
/-! ### what is joined by others' talk -/
def ott (p : Play) (a x : Int) : List Int := match scAt p x with
  | none => []
  | some q => (q.2.filter fun b => (evt q.1 a b).isNone).map (·.2.2)
inductive RS (p : Play) (a : Int) (S : List Int) : Int → Prop
  | base {x : Int} : x ∈ S → RS p a S x
  | step {x y : Int} : RS p a S x → y ∈ ott p a x → RS p a S y
def Rg (p : Play) (f : List Int) : Prop := ∀ x ∈ f, 0 ≤ x ∧ x < p.sc.length
theorem ott_in {p : Play} (h : PlOk p) (a x : Int) : Rg p (ott p a x) := by
  intro t ht
  have e := tgt_in h x
  unfold ott at ht
  unfold brsAt at e
  cases hq : scAt p x with
  | none => rw [hq] at ht; cases ht
  | some q =>
    rw [hq] at ht e
    obtain ⟨b, hb, rfl⟩ := List.mem_map.mp ht
    exact e b (List.mem_filter.mp hb).1
theorem RS.inR {p : Play} (h : PlOk p) {a : Int} {S : List Int} (hS : Rg p S) {x : Int} (r : RS p a S x) : 0 ≤ x ∧ x < p.sc.length := by
  cases r with
  | base hx => exact hS x hx
  | step _ hy => exact ott_in h a _ _ hy
theorem RS.same {p : Play} {a : Int} {S S' : List Int} (hs : ∀ x, x ∈ S ↔ x ∈ S') {x : Int} (r : RS p a S x) : RS p a S' x := by
  induction r with
  | base hx => exact .base ((hs _).mp hx)
  | step _ hy ih => exact .step ih hy
open Classical in
noncomputable def clo (p : Play) (a : Int) (S : List Int) : List Int := ((List.range p.sc.length).map fun i : Nat => (i : Int)).filter fun x => decide (RS p a S x)
theorem clo_rise (p : Play) (a : Int) (S : List Int) : (clo p a S).Pairwise (fun x y => x < y) := by
  unfold clo
  refine List.Pairwise.filter _ ?_
  rw [List.pairwise_map]
  exact List.Pairwise.imp (fun h => by omega) List.pairwise_lt_range
open Classical in
theorem clo_mem {p : Play} (h : PlOk p) {a : Int} {S : List Int} (hS : Rg p S) {x : Int} : x ∈ clo p a S ↔ RS p a S x := by
  unfold clo
  rw [List.mem_filter]
  constructor
  · rintro ⟨_, h2⟩
    exact of_decide_eq_true h2
  · intro r
    refine ⟨?_, decide_eq_true r⟩
    have := r.inR h hS
    exact List.mem_map.mpr ⟨x.toNat, List.mem_range.mpr (by omega), by omega⟩
theorem clo_in (p : Play) (a : Int) (S : List Int) : Rg p (clo p a S) := fun x hx => by
  obtain ⟨i, hi, rfl⟩ := List.mem_map.mp (List.mem_filter.mp hx).1
  have := List.mem_range.mp hi
  omega
theorem clo_eq {p : Play} (h : PlOk p) {a : Int} {S L : List Int} (hS : Rg p S) (h1 : L.Pairwise fun x y => id x < id y) (h2 : ∀ x, x ∈ L ↔ RS p a S x) : L = clo p a S :=
  rise_eq (key := id) (fun _ _ _ _ => True.intro) h1 (clo_rise p a S) (fun x hx => ⟨x, (clo_mem h hS).mpr ((h2 x).mp hx), rfl⟩) fun y hy => ⟨y, (h2 y).mpr ((clo_mem h hS).mp hy), rfl⟩
theorem clo_short (p : Play) (a : Int) (S : List Int) : (clo p a S).length ≤ p.sc.length := by
  unfold clo
  exact Nat.le_trans (List.length_filter_le _ _) (by simp)
theorem rise_sort {ks : List Int} (h : ks.Nodup) : (sortI ks).Pairwise (fun a b => id a < id b) := by
  have h1 := sortI_up ks
  have h2 : (sortI ks).Nodup := (sortI_perm ks).nodup_iff.mpr h
  refine List.Pairwise.imp ?_ (h1.and (List.nodup_iff_pairwise_ne.mp h2))
  rintro a b ⟨h3, h4⟩
  show a < b
  omega
theorem clo_sd {p : Play} (h : PlOk p) {a : Int} {S f : List Int} (hS : Rg p S) (h2 : ∀ x, x ∈ f ↔ RS p a S x) : sdK id f = clo p a S := clo_eq h hS (sdK_rise f) fun x => by
  rw [← h2 x]
  exact ⟨fun hx => sdK_mem hx, fun hx => by obtain ⟨z, z1, z2⟩ := sdK_has (key := id) hx; rw [← show z = x from z2]; exact z1⟩
theorem clo_sort {p : Play} (h : PlOk p) {a : Int} {S f : List Int} (hS : Rg p S) (hn : f.Nodup) (h2 : ∀ x, x ∈ f ↔ RS p a S x) : sortI f = clo p a S := clo_eq h hS (rise_sort hn) fun x => by
  rw [sortI_mem]
  exact h2 x
/-! ### joined_in -/
def othB (sp a : Int) (brs : List Br) : List Int := (brs.filter fun b => (evt sp a b).isNone).map (·.2.2)
theorem othB_cons (sp a : Int) (b : Br) (brs : List Br) : othB sp a (b :: brs) = if (evt sp a b).isNone = true then b.2.2 :: othB sp a brs else othB sp a brs := by
  unfold othB
  rw [List.filter_cons]
  split <;> rfl
theorem addAll_in {p : Play} {S g : List Int} (hg : InR p g) : ∀ {ts : List Int}, Rg p ts → ∃ g', addAll (S ++ g) ts = S ++ g' ∧ InR p g' := by
  intro ts
  induction ts generalizing g with
  | nil => exact fun _ => ⟨g, rfl, hg⟩
  | cons t ts ih =>
    intro ht
    have ht2 : Rg p ts := fun x hx => ht x (List.mem_cons_of_mem _ hx)
    show ∃ g', addAll (if t ∈ S ++ g then S ++ g else S ++ g ++ [t]) ts = S ++ g' ∧ InR p g'
    by_cases c : t ∈ S ++ g
    · rw [if_pos c]
      exact ih hg ht2
    · rw [if_neg c, List.append_assoc]
      have cg : t ∉ g := fun z => c (List.mem_append_right _ z)
      refine ih ⟨?_, fun x hx => ?_⟩ ht2
      · rw [List.nodup_append]
        refine ⟨hg.1, by simp, ?_⟩
        intro x hx b hb
        simp at hb
        subst hb
        rintro rfl
        exact cg hx
      · rcases List.mem_append.mp hx with hx | hx
        · exact hg.2 x hx
        · simp at hx
          rw [hx]
          exact ht t List.mem_cons_self
def b9i : CS := .seq (.ife (.and (.isN (.call 7 (.cons false (.var 0) (.cons false (.idx (.var 3) (.var 4)) (.cons false (.var 6) (.cons false (.var 2) (.nil))))))) (.cmp .nin (.idx (.var 6) (.cst (.int 2))) (.var 3))) (.seq (.exp (.mut .append 3 (.cons false (.idx (.var 6) (.cst (.int 2))) (.nil)))) (.skip)) (.skip)) (.skip)
theorem f9i {p : Play} {x a : Int} (hx : 0 ≤ x ∧ x < p.sc.length) {q : Int × List Br} (hq : scAt p x = some q) {at_ : Nat} {s1 s5 b : Sl} : ∀ {brs : List Br} {f : List Int}, f.length + brs.length < 500 → f[at_]? = some x →
    ∃ b', forGo (fun d ρ => (bt 3 (.v 6) d ρ).bind fun ρ => evS (evF tbl m (n + 1)) m 3 b9i ρ) (brs.map brD) [.shr p.d, s1, .shr (.int a), .own (.lst (f.map .int)), .shr (.int (at_ : Nat)), s5, b]
      = .ok (.nxt, [.shr p.d, s1, .shr (.int a), .own (.lst ((addAll f (othB q.1 a brs)).map .int)), .shr (.int (at_ : Nat)), s5, b']) := by
  intro brs
  induction brs generalizing b with
  | nil => exact fun _ _ => ⟨b, rfl⟩
  | cons br brs ih =>
    intro f hl hf
    have hl1 : f.length + (brs.length + 1) < 500 := by simpa using hl
    have hi : idxR (brD br) (.int 2) = .ok (.int br.2.2) := by unfold brD; rw [idx_t, at2]; rfl
    have ha : L2.atI (f.map PyData.int) (at_ : Nat) = some (.int x) := atN (by rw [List.getElem?_map, hf]; rfl)
    have g8 := f8 (m := m) (n := n) hx hq br a
    have hn := nin_l br.2.2 f
    have hfl : f.length < lim := by have := lim_big; have : (500 : Nat) < lim := by decide
                                    omega
    show ∃ b', forGo _ (brD br :: brs.map brD) _ = _
    unfold forGo
    rw [othB_cons]
    by_cases c1 : (evt q.1 a br).isNone = true
    · rw [if_pos c1]
      by_cases c : br.2.2 ∈ f
      · obtain ⟨b', e2⟩ := ih (b := .shr (brD br)) (f := f) (by omega) hf
        refine ⟨b', ?_⟩
        have e0 : evS (evF tbl m (n + 1)) m 3 b9i [.shr p.d, s1, .shr (.int a), .own (.lst (f.map .int)), .shr (.int (at_ : Nat)), s5, .shr (brD br)] = .ok (.nxt, [.shr p.d, s1, .shr (.int a), .own (.lst (f.map .int)), .shr (.int (at_ : Nat)), s5, .shr (brD br)]) := by
          simp [b9i, hi, hn, c, ha, g8, c1]
        show (evS (evF tbl m (n + 1)) m 3 b9i [.shr p.d, s1, .shr (.int a), .own (.lst (f.map .int)), .shr (.int (at_ : Nat)), s5, .shr (brD br)]).bind _ = _
        rw [e0]
        show forGo _ (brs.map brD) _ = .ok (.nxt, [_, _, _, .own (.lst ((addAll (if br.2.2 ∈ f then f else f ++ [br.2.2]) (othB q.1 a brs)).map .int)), _, _, _])
        rw [if_pos c]
        exact e2
      · obtain ⟨b', e2⟩ := ih (b := .shr (brD br)) (f := f ++ [br.2.2]) (by simp only [List.length_append, List.length_singleton]; omega) (by rw [List.getElem?_append_left (List.getElem?_eq_some_iff.mp hf).1]; exact hf)
        refine ⟨b', ?_⟩
        have e0 : evS (evF tbl m (n + 1)) m 3 b9i [.shr p.d, s1, .shr (.int a), .own (.lst (f.map .int)), .shr (.int (at_ : Nat)), s5, .shr (brD br)] = .ok (.nxt, [.shr p.d, s1, .shr (.int a), .own (.lst ((f ++ [br.2.2]).map .int)), .shr (.int (at_ : Nat)), s5, .shr (brD br)]) := by
          simp [b9i, hi, hn, c, ha, g8, c1, hfl]
        show (evS (evF tbl m (n + 1)) m 3 b9i [.shr p.d, s1, .shr (.int a), .own (.lst (f.map .int)), .shr (.int (at_ : Nat)), s5, .shr (brD br)]).bind _ = _
        rw [e0]
        show forGo _ (brs.map brD) _ = .ok (.nxt, [_, _, _, .own (.lst ((addAll (if br.2.2 ∈ f then f else f ++ [br.2.2]) (othB q.1 a brs)).map .int)), _, _, _])
        rw [if_neg c]
        exact e2
    · rw [if_neg c1]
      obtain ⟨b', e2⟩ := ih (b := .shr (brD br)) (f := f) (by omega) hf
      refine ⟨b', ?_⟩
      have e0 : evS (evF tbl m (n + 1)) m 3 b9i [.shr p.d, s1, .shr (.int a), .own (.lst (f.map .int)), .shr (.int (at_ : Nat)), s5, .shr (brD br)] = .ok (.nxt, [.shr p.d, s1, .shr (.int a), .own (.lst (f.map .int)), .shr (.int (at_ : Nat)), s5, .shr (brD br)]) := by
        simp [b9i, hi, ha, g8, c1]
      show (evS (evF tbl m (n + 1)) m 3 b9i [.shr p.d, s1, .shr (.int a), .own (.lst (f.map .int)), .shr (.int (at_ : Nat)), s5, .shr (brD br)]).bind _ = _
      rw [e0]
      exact e2
theorem seq_nxt {Φ : Fenv} {np : Nat} {x y : CS} {ρ ρ' : Rho} (h : evS Φ m np x ρ = .ok (.nxt, ρ')) : evS Φ m np (.seq x y) ρ = evS Φ m np y ρ' := by
  rw [s_seq, h]
  rfl
def b9f : CS := .for_ (.v 6) (.ex (.ife (.notN (.var 5)) (.idx (.var 5) (.cst (.int 1))) (.tup (.nil)))) b9i
def b9w : CS := .seq (.asg (.v 5) (.idx (.idx (.var 0) (.cst (.int 1))) (.idx (.var 3) (.var 4)))) (.seq b9f (.seq (.aug 4 .add (.cst (.int 1))) (.skip)))
theorem brs_len {p : Play} (h : PlOk p) {x : Int} {q : Int × List Br} (hq : scAt p x = some q) : q.2.length < 64 := (h.sc q.1 q.2 (sc_mem hq)).few
theorem f9w {p : Play} (h : PlOk p) {a x : Int} (hx : 0 ≤ x ∧ x < p.sc.length) {at_ : Nat} {s1 s5 b : Sl} {f : List Int} (hl : f.length < 400) (hf : f[at_]? = some x) :
    ∃ s5' b', evS (evF tbl m (n + 1)) m 3 b9w [.shr p.d, s1, .shr (.int a), .own (.lst (f.map .int)), .shr (.int (at_ : Nat)), s5, b]
      = .ok (.nxt, [.shr p.d, s1, .shr (.int a), .own (.lst ((addAll f (ott p a x)).map .int)), .shr (.int ((at_ + 1 : Nat) : Int)), s5', b']) := by
  have e := at_sc hx
  have ha : L2.atI (f.map PyData.int) (at_ : Nat) = some (.int x) := atN (by rw [List.getElem?_map, hf]; rfl)
  have e1 : evS (evF tbl m (n + 1)) m 3 (.asg (.v 5) (.idx (.idx (.var 0) (.cst (.int 1))) (.idx (.var 3) (.var 4)))) [.shr p.d, s1, .shr (.int a), .own (.lst (f.map .int)), .shr (.int (at_ : Nat)), s5, b]
      = .ok (.nxt, [.shr p.d, s1, .shr (.int a), .own (.lst (f.map .int)), .shr (.int (at_ : Nat)), .shr (scD (scAt p x)), b]) := by
    simp [Play.d, at1, ha, e, stS]
  have fin : ∀ (s6 b' : Sl) (f' : List Int), evS (evF tbl m (n + 1)) m 3 (.seq (.aug 4 .add (.cst (.int 1))) (.skip)) [.shr p.d, s1, .shr (.int a), .own (.lst (f'.map .int)), .shr (.int (at_ : Nat)), s6, b'] = .ok (.nxt, [.shr p.d, s1, .shr (.int a), .own (.lst (f'.map .int)), .shr (.int ((at_ + 1 : Nat) : Int)), s6, b']) := fun s6 b' f' => by
    have e2 : ((at_ + 1 : Nat) : Int) = (at_ : Int) + 1 := by omega
    rw [e2]
    rfl
  cases hq : scAt p x with
  | none =>
    rw [hq] at e1
    have eo : ott p a x = [] := by unfold ott; rw [hq]
    refine ⟨.shr .none, b, ?_⟩
    rw [eo]
    unfold b9w
    rw [seq_nxt e1]
    have e3 : evS (evF tbl m (n + 1)) m 3 b9f [.shr p.d, s1, .shr (.int a), .own (.lst (f.map .int)), .shr (.int (at_ : Nat)), .shr (scD none), b] = .ok (.nxt, [.shr p.d, s1, .shr (.int a), .own (.lst (f.map .int)), .shr (.int (at_ : Nat)), .shr .none, b]) := by
      simp [b9f, scD, isNo, lim, forGo]
    rw [seq_nxt e3]
    exact fin _ _ _
  | some q =>
    rw [hq] at e1
    have eo : ott p a x = othB q.1 a q.2 := by unfold ott; rw [hq]; rfl
    have hb := brs_len h hq
    obtain ⟨b', e2⟩ := f9i (m := m) (n := n) hx hq (a := a) (at_ := at_) (s1 := s1) (s5 := .shr (scD (some q))) (b := b) (brs := q.2) (f := f) (by omega) hf
    refine ⟨.shr (scD (some q)), b', ?_⟩
    rw [eo]
    unfold b9w
    rw [seq_nxt e1, s_seq]
    have e3 : evI (evF tbl m (n + 1)) (.ex (.ife (.notN (.var 5)) (.idx (.var 5) (.cst (.int 1))) (.tup (.nil)))) [.shr p.d, s1, .shr (.int a), .own (.lst (f.map .int)), .shr (.int (at_ : Nat)), .shr (scD (some q)), b] = .ok (q.2.map brD, [.shr p.d, s1, .shr (.int a), .own (.lst (f.map .int)), .shr (.int (at_ : Nat)), .shr (scD (some q)), b]) := by
      simp [scD, isNo, at1]
    unfold b9f
    rw [s_for, e3]
    show (((forGo _ _ _)).bind _) = _
    rw [e2]
    exact fin _ _ _
theorem RS.seed {p : Play} {a : Int} {S : List Int} {x : Int} (hx : x ∈ S) : RS p a S x := .base hx
/-- joined_in -/
theorem f9 {p : Play} (h : PlOk p) {a : Int} {S : List Int} (hS : Rg p S) (hl : S.length ≤ 40) (hm : 80 < m) {s : Sl} (hs : IsL s S) :
    evF tbl m (n + 2) 8 [.shr p.d, s, .shr (.int a)] = .ok (.shr (.tuple ((clo p a S).map .int)), [.shr p.d, s, .shr (.int a)]) := by
  have h8 := h.l8
  obtain ⟨ρ', e, f, at_, s5, b, hf, hk, hc, hρ⟩ := whlGo_ind (c := fun ρ => tst (evE (evF tbl m (n + 1)) (.cmp .lt (.var 4) (.bi .len (.cons false (.var 3) (.nil)))) ρ)) (b := fun ρ => evS (evF tbl m (n + 1)) m 3 b9w ρ)
    (fun k ρ => ∃ (f : List Int) (at_ : Nat) (s5 b : Sl), at_ ≤ f.length ∧ (∃ g, f = S ++ g ∧ InR p g) ∧ (∀ x ∈ f, RS p a S x) ∧ (∀ (j : Nat) (x : Int), j < at_ → f[j]? = some x → ∀ y ∈ ott p a x, y ∈ f) ∧ at_ + k = 60 ∧ ρ = [.shr p.d, s, .shr (.int a), .own (.lst (f.map .int)), .shr (.int (at_ : Nat)), s5, b])
    (fun ρ => ∃ (f : List Int) (at_ : Nat) (s5 b : Sl), f.length ≤ 48 ∧ (∀ x ∈ S, x ∈ f) ∧ (∀ x, x ∈ f ↔ RS p a S x) ∧ ρ = [.shr p.d, s, .shr (.int a), .own (.lst (f.map .int)), .shr (.int (at_ : Nat)), s5, b])
    (fun k ρ ⟨f, at_, s5, b, h1, ⟨g, hg, hgi⟩, h2, h3, h4, hρ⟩ => by
      subst hρ
      have hfl : f.length ≤ 48 := by
        have := nodup_short hgi
        rw [hg, List.length_append]
        omega
      have hSf : ∀ x ∈ S, x ∈ f := fun x hx => by rw [hg]; exact List.mem_append_left _ hx
      by_cases c : at_ < f.length
      · have hfa : f[at_]? = some f[at_] := List.getElem?_eq_getElem c
        have hr := h2 f[at_] (List.getElem_mem c)
        have hx := hr.inR h hS
        obtain ⟨s5', b', e9⟩ := f9w (m := m) (n := n) h (a := a) hx (s1 := s) (s5 := s5) (b := b) (by omega) hfa
        obtain ⟨g', hg', hgi'⟩ := addAll_in (S := S) hgi (ott_in h a f[at_])
        rw [← hg] at hg'
        refine .inl ⟨_, by simp [c], _, e9, k - 1, by omega, addAll f (ott p a f[at_]), at_ + 1, s5', b', Nat.le_trans c (addAll_len _ _), ⟨g', hg', hgi'⟩, fun x hx => ?_, fun j z hj hz y hy => ?_, by omega, rfl⟩
        · rcases (addAll_mem _ _ _).mp hx with hx | hx
          · exact h2 x hx
          · exact .step hr hx
        · obtain ⟨w, hw⟩ := addAll_pre f (ott p a f[at_])
          have hjf : j < f.length := by omega
          rw [hw, List.getElem?_append_left hjf] at hz
          rcases Nat.lt_succ_iff_lt_or_eq.mp hj with c2 | c2
          · exact (addAll_mem _ _ _).mpr (.inl (h3 j z c2 hz y hy))
          · subst c2
            rw [hfa] at hz
            cases hz
            exact (addAll_mem _ _ _).mpr (.inr hy)
      · refine .inr ⟨_, by simp [c], f, at_, s5, b, hfl, hSf, fun x => ⟨h2 x, fun r => ?_⟩, rfl⟩
        induction r with
        | base hx => exact hSf _ hx
        | step _ hy ih =>
          obtain ⟨j, hj, ej⟩ := List.getElem_of_mem ih
          exact h3 j _ (by omega) (by rw [List.getElem?_eq_getElem hj, ej]) _ hy)
    (k := 60) (m := m) (ρ := [.shr p.d, s, .shr (.int a), .own (.lst (S.map .int)), .shr (.int (0 : Nat)), .un, .un]) (by omega)
    ⟨S, 0, .un, .un, Nat.zero_le _, ⟨[], by simp, ⟨by simp, fun x hx => by cases hx⟩⟩, fun x hx => .base hx, fun j x hj => by omega, rfl, rfl⟩
  subst hρ
  have hlen : f.length < 64 := by omega
  have g1 := sset_i hlen
  rw [clo_sd h hS hc] at g1
  rw [call_F (np := 3) (ns := 7) (c := c8) rfl rfl]
  have ep : evS (evF tbl m (n + 1)) m 3 (.par [3, 4] (.cons false (.bi .list (.cons false (.var 1) (.nil))) (.cons false (.cst (.int 0)) (.nil)))) [.shr p.d, s, .shr (.int a), .un, .un, .un, .un]
      = .ok (.nxt, [.shr p.d, s, .shr (.int a), .own (.lst (S.map .int)), .shr (.int (0 : Nat)), .un, .un]) := by
    rcases hs with rfl | rfl <;> rfl
  show (evS (evF tbl m (n + 1)) m 3 (.seq (.par [3, 4] _) (.seq (.whl _ b9w) (.seq (.ret (.bi .tuple (.cons false (.bi .sset (.cons false (.var 3) (.nil))) (.nil)))) (.skip)))) [.shr p.d, s, .shr (.int a), .un, .un, .un, .un]).bind _ = _
  rw [s_seq, ep]
  show (evS (evF tbl m (n + 1)) m 3 (.seq (.whl _ b9w) _) _).bind _ = _
  rw [s_seq, s_whl, e]
  rcases hs with rfl | rfl <;> simp [g1, tup_l]
/-! ### _law_joined -/
def b26i : CS := .seq (.ife (.and (.isN (.call 18 (.cons false (.var 0) (.cons false (.var 8) (.cons false (.var 9) (.cons false (.var 2) (.nil))))))) (.cmp .nin (.idx (.var 9) (.cst (.int 2))) (.var 3))) (.seq (.put 3 (.idx (.var 9) (.cst (.int 2))) (.cst (.bool true))) (.seq (.exp (.mut .append 7 (.cons false (.idx (.var 9) (.cst (.int 2))) (.nil)))) (.skip))) (.skip)) (.skip)
theorem f26i {p : Play} (h : PlOk p) {x a : Int} (hx : 0 ≤ x ∧ x < p.sc.length) {q : Int × List Br} (hq : scAt p x = some q) {s1 s4 s5 s6 b : Sl} : ∀ {brs : List Br} {kvs : List (PyData × PyData)} {ks fr : List Int}, KeysI kvs ks → InR p ks → fr.length ≤ ks.length → (∀ t ∈ brs, 0 ≤ t.2.2 ∧ t.2.2 < p.sc.length) →
    ∃ kvs' b', KeysI kvs' (addAll ks (othB q.1 a brs)) ∧ forGo (fun d ρ => (bt 3 (.v 9) d ρ).bind fun ρ => evS (evF tbl m (n + 1)) m 3 b26i ρ) (brs.map brD) [.shr p.d, s1, .shr (.int a), .own (.dct kvs), s4, s5, s6, .own (.lst (fr.map .int)), .shr (.int x), b]
      = .ok (.nxt, [.shr p.d, s1, .shr (.int a), .own (.dct kvs'), s4, s5, s6, .own (.lst ((fr ++ newAll ks (othB q.1 a brs)).map .int)), .shr (.int x), b']) := by
  intro brs
  induction brs generalizing b with
  | nil => exact fun {kvs ks fr} hk _ _ _ => ⟨kvs, b, hk, by simp [forGo, newAll, othB]⟩
  | cons br brs ih =>
    intro kvs ks fr hk hd hf hb
    have hbr := hb br List.mem_cons_self
    have hb2 := fun t ht => hb t (List.mem_cons_of_mem _ ht)
    have hi : idxR (brD br) (.int 2) = .ok (.int br.2.2) := by unfold brD; rw [idx_t, at2]; rfl
    have g8 := f24 (m := m) (n := n) hx hq br a
    have hn := hk.nin br.2.2
    have hl8 := nodup_short hd
    have h8 := h.l8
    show ∃ kvs' b', _ ∧ forGo _ (brD br :: brs.map brD) _ = _
    unfold forGo
    rw [othB_cons]
    by_cases c1 : (evt q.1 a br).isNone = true
    · rw [if_pos c1]
      by_cases c : br.2.2 ∈ ks
      · obtain ⟨kvs', b', h2, e2⟩ := ih (b := .shr (brD br)) hk hd hf hb2
        refine ⟨kvs', b', ?_, ?_⟩
        · show KeysI kvs' (addAll (if br.2.2 ∈ ks then ks else ks ++ [br.2.2]) (othB q.1 a brs))
          rw [if_pos c]
          exact h2
        · have e0 : evS (evF tbl m (n + 1)) m 3 b26i [.shr p.d, s1, .shr (.int a), .own (.dct kvs), s4, s5, s6, .own (.lst (fr.map .int)), .shr (.int x), .shr (brD br)] = .ok (.nxt, [.shr p.d, s1, .shr (.int a), .own (.dct kvs), s4, s5, s6, .own (.lst (fr.map .int)), .shr (.int x), .shr (brD br)]) := by
            simp [b26i, hi, hn, c, g8, c1]
          show (evS (evF tbl m (n + 1)) m 3 b26i [.shr p.d, s1, .shr (.int a), .own (.dct kvs), s4, s5, s6, .own (.lst (fr.map .int)), .shr (.int x), .shr (brD br)]).bind _ = _
          rw [e0]
          have en : newAll ks (br.2.2 :: othB q.1 a brs) = newAll ks (othB q.1 a brs) := by
            show (if br.2.2 ∈ ks then _ else _) = _
            rw [if_pos c]
          rw [en]
          exact e2
      · have h1 := hk.put br.2.2 (.bool true)
        have ea : addAll ks [br.2.2] = ks ++ [br.2.2] := by
          show (if br.2.2 ∈ ks then ks else ks ++ [br.2.2]) = _
          rw [if_neg c]
        rw [ea] at h1
        have hd1 : InR p (ks ++ [br.2.2]) := by
          have := addAll_inR hd (ts := [br.2.2]) fun t ht => by simp at ht; subst ht; exact hbr
          rwa [ea] at this
        obtain ⟨kvs', b', h2, e2⟩ := ih (fr := fr ++ [br.2.2]) (b := .shr (brD br)) h1 hd1 (by simp only [List.length_append, List.length_singleton]; omega) hb2
        have e1 := hk.putR (by omega) br.2.2 (.bool true)
        have hfl : fr.length < lim := by have := lim_big; omega
        refine ⟨kvs', b', ?_, ?_⟩
        · show KeysI kvs' (addAll (if br.2.2 ∈ ks then ks else ks ++ [br.2.2]) (othB q.1 a brs))
          rw [if_neg c]
          exact h2
        · have e0 : evS (evF tbl m (n + 1)) m 3 b26i [.shr p.d, s1, .shr (.int a), .own (.dct kvs), s4, s5, s6, .own (.lst (fr.map .int)), .shr (.int x), .shr (brD br)] = .ok (.nxt, [.shr p.d, s1, .shr (.int a), .own (.dct (Rt.put kvs (.int br.2.2) (.bool true))), s4, s5, s6, .own (.lst ((fr ++ [br.2.2]).map .int)), .shr (.int x), .shr (brD br)]) := by
            simp [b26i, hi, hn, c, g8, c1, e1, hfl]
          show (evS (evF tbl m (n + 1)) m 3 b26i [.shr p.d, s1, .shr (.int a), .own (.dct kvs), s4, s5, s6, .own (.lst (fr.map .int)), .shr (.int x), .shr (brD br)]).bind _ = _
          rw [e0]
          have en : newAll ks (br.2.2 :: othB q.1 a brs) = br.2.2 :: newAll (ks ++ [br.2.2]) (othB q.1 a brs) := by
            show (if br.2.2 ∈ ks then _ else _) = _
            rw [if_neg c]
          rw [en, show fr ++ br.2.2 :: newAll (ks ++ [br.2.2]) (othB q.1 a brs) = (fr ++ [br.2.2]) ++ newAll (ks ++ [br.2.2]) (othB q.1 a brs) by simp]
          exact e2
    · rw [if_neg c1]
      obtain ⟨kvs', b', h2, e2⟩ := ih (b := .shr (brD br)) hk hd hf hb2
      refine ⟨kvs', b', h2, ?_⟩
      have e0 : evS (evF tbl m (n + 1)) m 3 b26i [.shr p.d, s1, .shr (.int a), .own (.dct kvs), s4, s5, s6, .own (.lst (fr.map .int)), .shr (.int x), .shr (brD br)] = .ok (.nxt, [.shr p.d, s1, .shr (.int a), .own (.dct kvs), s4, s5, s6, .own (.lst (fr.map .int)), .shr (.int x), .shr (brD br)]) := by
        simp [b26i, hi, g8, c1]
      show (evS (evF tbl m (n + 1)) m 3 b26i [.shr p.d, s1, .shr (.int a), .own (.dct kvs), s4, s5, s6, .own (.lst (fr.map .int)), .shr (.int x), .shr (brD br)]).bind _ = _
      rw [e0]
      exact e2
def b26m : CS := .seq (.for_ (.v 9) (.ex (.call 19 (.cons false (.var 0) (.cons false (.var 8) (.nil))))) b26i) (.skip)
theorem f26x {p : Play} (h : PlOk p) {x a : Int} (hx : 0 ≤ x ∧ x < p.sc.length) {kvs : List (PyData × PyData)} {ks fr : List Int} {s1 s4 s5 s6 b : Sl} (hk : KeysI kvs ks) (hd : InR p ks) (hf : fr.length ≤ ks.length) :
    ∃ kvs' b', KeysI kvs' (addAll ks (ott p a x)) ∧ evS (evF tbl m (n + 1)) m 3 b26m [.shr p.d, s1, .shr (.int a), .own (.dct kvs), s4, s5, s6, .own (.lst (fr.map .int)), .shr (.int x), b]
      = .ok (.nxt, [.shr p.d, s1, .shr (.int a), .own (.dct kvs'), s4, s5, s6, .own (.lst ((fr ++ newAll ks (ott p a x)).map .int)), .shr (.int x), b']) := by
  have g25 := f19 (m := m) (n := n) (p := p) hx
  have ei : evI (evF tbl m (n + 1)) (.ex (.call 19 (.cons false (.var 0) (.cons false (.var 8) (.nil))))) [.shr p.d, s1, .shr (.int a), .own (.dct kvs), s4, s5, s6, .own (.lst (fr.map .int)), .shr (.int x), b] = .ok ((brsAt p x).map brD, [.shr p.d, s1, .shr (.int a), .own (.dct kvs), s4, s5, s6, .own (.lst (fr.map .int)), .shr (.int x), b]) := by
    simp [gt, g25]
  have hb := tgt_in h x
  unfold b26m
  rw [s_seq, s_for, ei]
  unfold ott
  unfold brsAt at hb ⊢
  cases hq : scAt p x with
  | none => exact ⟨kvs, b, hk, by simp [forGo, newAll]⟩
  | some q =>
    rw [hq] at hb
    obtain ⟨kvs', b', h2, e2⟩ := f26i (m := m) (n := n) h (a := a) hx hq (s1 := s1) (s4 := s4) (s5 := s5) (s6 := s6) (b := b) hk hd hf hb
    refine ⟨kvs', b', h2, ?_⟩
    show (((forGo _ (q.2.map brD) _)).bind _) = _
    rw [e2]
    rfl
theorem f26m {p : Play} (h : PlOk p) {a : Int} {s1 s4 s5 s6 x8 b : Sl} : ∀ {xs : List Int} {kvs : List (PyData × PyData)} {ks fr : List Int}, KeysI kvs ks → InR p ks → fr.length ≤ ks.length → Rg p xs →
    ∃ kvs' x8' b', KeysI kvs' (addAll ks (xs.flatMap (ott p a))) ∧ forGo (fun d ρ => (bt 3 (.v 8) d ρ).bind fun ρ => evS (evF tbl m (n + 1)) m 3 b26m ρ) (xs.map .int) [.shr p.d, s1, .shr (.int a), .own (.dct kvs), s4, s5, s6, .own (.lst (fr.map .int)), x8, b]
      = .ok (.nxt, [.shr p.d, s1, .shr (.int a), .own (.dct kvs'), s4, s5, s6, .own (.lst ((fr ++ newAll ks (xs.flatMap (ott p a))).map .int)), x8', b']) := by
  intro xs
  induction xs generalizing x8 b with
  | nil => exact fun {kvs ks fr} hk _ _ _ => ⟨kvs, x8, b, hk, by simp [forGo, newAll]⟩
  | cons x xs ih =>
    intro kvs ks fr hk hd hf hx
    have hx0 := hx x List.mem_cons_self
    obtain ⟨kv2, b2, h2, e2⟩ := f26x (m := m) (n := n) h (a := a) hx0 (s1 := s1) (s4 := s4) (s5 := s5) (s6 := s6) (b := b) hk hd hf
    have hd2 : InR p (addAll ks (ott p a x)) := addAll_inR hd (ott_in h a x)
    have hf2 : (fr ++ newAll ks (ott p a x)).length ≤ (addAll ks (ott p a x)).length := by
      rw [addAll_new]
      simp only [List.length_append]
      omega
    obtain ⟨kvs', x8', b', h3, e3⟩ := ih (x8 := .shr (.int x)) (b := b2) h2 hd2 hf2 fun y hy => hx y (List.mem_cons_of_mem _ hy)
    refine ⟨kvs', x8', b', by rw [List.flatMap_cons, addAll_app]; exact h3, ?_⟩
    show forGo _ (PyData.int x :: xs.map .int) _ = _
    unfold forGo
    show (evS (evF tbl m (n + 1)) m 3 b26m [.shr p.d, s1, .shr (.int a), .own (.dct kvs), s4, s5, s6, .own (.lst (fr.map .int)), .shr (.int x), b]).bind _ = _
    rw [e2]
    show forGo _ (xs.map .int) _ = _
    rw [List.flatMap_cons, newAll_app, ← List.append_assoc]
    exact e3
structure Lay26 (p : Play) (a : Int) (S ks last : List Int) (c : Nat) : Prop where
  r : InR p ks
  re : ∀ x ∈ ks, RS p a S x
  la : ∀ x ∈ last, x ∈ ks
  cl : ∀ x ∈ ks, x ∈ last ∨ ∀ y ∈ ott p a x, y ∈ ks
  ct : last ≠ [] → c + 1 ≤ ks.length
  st : ∀ x ∈ S, x ∈ ks
theorem Lay26.step {p : Play} (h : PlOk p) {a : Int} {S ks last : List Int} {c : Nat} (l : Lay26 p a S ks last c) (hn : last ≠ []) : Lay26 p a S (addAll ks (last.flatMap (ott p a))) (newAll ks (last.flatMap (ott p a))) (c + 1) := by
  have hm : ∀ x ∈ last.flatMap (ott p a), ∃ y ∈ last, x ∈ ott p a y := fun x hx => List.mem_flatMap.mp hx
  refine ⟨addAll_inR l.r fun t ht => ?_, fun x hx => ?_, fun x hx => ?_, fun x hx => ?_, fun hne => ?_, fun x hx => (addAll_mem _ _ _).mpr (.inl (l.st x hx))⟩
  · obtain ⟨y, _, hy⟩ := hm t ht
    exact ott_in h _ _ t hy
  · rcases (addAll_mem _ _ _).mp hx with hx | hx
    · exact l.re x hx
    · obtain ⟨y, hy, hx⟩ := hm x hx
      exact .step (l.re y (l.la y hy)) hx
  · rw [addAll_new]
    exact List.mem_append_right _ hx
  · rcases new_in hx with hx | hx
    · rcases l.cl x hx with hl | hc
      · exact .inr fun y hy => (addAll_mem _ _ _).mpr (.inr (List.mem_flatMap.mpr ⟨x, hl, hy⟩))
      · exact .inr fun y hy => (addAll_mem _ _ _).mpr (.inl (hc y hy))
    · exact .inl hx
  · have h1 := l.ct hn
    rw [addAll_new, List.length_append]
    have : 0 < (newAll ks (last.flatMap (ott p a))).length := List.length_pos_iff.mpr hne
    omega
theorem Lay26.fin {p : Play} {a : Int} {S ks : List Int} {c : Nat} (l : Lay26 p a S ks [] c) : ∀ x, x ∈ ks ↔ RS p a S x := by
  refine fun x => ⟨l.re x, fun hx => ?_⟩
  induction hx with
  | base hx => exact l.st _ hx
  | step _ hy ih =>
    rcases l.cl _ ih with z | z
    · cases z
    · exact z _ hy
def b26c : CE := .and (.cmp .ne (.var 4) (.lst (.nil))) (.cmp .lt (.var 5) (.cst (.int 10)))
def b26p : CS := .par [5, 7] (.cons false (.bin .add (.var 5) (.cst (.int 1))) (.cons false (.lst (.nil)) (.nil)))
def b26w : CS := .seq b26p (.seq (.for_ (.v 8) (.ex (.var 4)) b26m) (.seq (.asg (.v 4) (.var 7)) (.skip)))
theorem f26w {p : Play} (h : PlOk p) {a : Int} {S : List Int} {s1 : Sl} {kvs : List (PyData × PyData)} {ks last : List Int} {c : Nat} {sl s6 s7 x8 x9 : Sl} (hk : KeysI kvs ks) (l : Lay26 p a S ks last c) (hs : IsL sl last) :
    ∃ kvs' x8' x9', KeysI kvs' (addAll ks (last.flatMap (ott p a))) ∧ evS (evF tbl m (n + 1)) m 3 b26w [.shr p.d, s1, .shr (.int a), .own (.dct kvs), sl, .shr (.int (c : Nat)), s6, s7, x8, x9]
      = .ok (.nxt, [.shr p.d, s1, .shr (.int a), .own (.dct kvs'), .shr (.list ((newAll ks (last.flatMap (ott p a))).map .int)), .shr (.int ((c + 1 : Nat) : Int)), s6, .shr (.list ((newAll ks (last.flatMap (ott p a))).map .int)), x8', x9']) := by
  obtain ⟨kvs', x8', x9', h2, e⟩ := f26m (m := m) (n := n) h (a := a) (xs := last) (fr := []) (s1 := s1) (s4 := .shr (.list (last.map .int))) (s5 := .shr (.int ((c + 1 : Nat) : Int))) (s6 := s6) (x8 := x8) (b := x9) hk l.r (Nat.zero_le _) fun x hx => l.r.2 x (l.la x hx)
  refine ⟨kvs', x8', x9', h2, ?_⟩
  rw [List.nil_append] at e
  have e1 : (c : Int) + 1 = ((c + 1 : Nat) : Int) := by omega
  have ep : evS (evF tbl m (n + 1)) m 3 b26p [.shr p.d, s1, .shr (.int a), .own (.dct kvs), sl, .shr (.int (c : Nat)), s6, s7, x8, x9] = .ok (.nxt, [.shr p.d, s1, .shr (.int a), .own (.dct kvs), sl, .shr (.int ((c + 1 : Nat) : Int)), s6, .own (.lst []), x8, x9]) := by
    rw [← e1]
    rfl
  have ei : evI (evF tbl m (n + 1)) (.ex (.var 4)) [.shr p.d, s1, .shr (.int a), .own (.dct kvs), sl, .shr (.int ((c + 1 : Nat) : Int)), s6, .own (.lst []), x8, x9] = .ok (last.map .int, [.shr p.d, s1, .shr (.int a), .own (.dct kvs), .shr (.list (last.map .int)), .shr (.int ((c + 1 : Nat) : Int)), s6, .own (.lst []), x8, x9]) := by
    rcases hs with rfl | rfl <;> rfl
  have ef : evS (evF tbl m (n + 1)) m 3 (.for_ (.v 8) (.ex (.var 4)) b26m) [.shr p.d, s1, .shr (.int a), .own (.dct kvs), sl, .shr (.int ((c + 1 : Nat) : Int)), s6, .own (.lst []), x8, x9] = .ok (.nxt, [.shr p.d, s1, .shr (.int a), .own (.dct kvs'), .shr (.list (last.map .int)), .shr (.int ((c + 1 : Nat) : Int)), s6, .own (.lst ((newAll ks (last.flatMap (ott p a))).map .int)), x8', x9']) := by
    rw [s_for, ei]
    exact e
  unfold b26w
  rw [seq_nxt ep, seq_nxt ef]
  rfl
theorem f26c {Φ : Fenv} {s0 s1 s2 s3 sl s6 s7 x8 x9 : Sl} {last : List Int} {c : Nat} (hs : IsL sl last) : tst (evE Φ b26c [s0, s1, s2, s3, sl, .shr (.int (c : Nat)), s6, s7, x8, x9]) = .ok (if last = [] then false else decide ((c : Int) < 10), [s0, s1, s2, s3, sl, .shr (.int (c : Nat)), s6, s7, x8, x9]) := by
  have hn := ne_l0 last
  have e1 : evE Φ (.cmp .ne (.var 4) (.lst (.nil))) [s0, s1, s2, s3, sl, .shr (.int (c : Nat)), s6, s7, x8, x9] = .ok (.val (.shr (.bool (!decide (last = [])))), [s0, s1, s2, s3, sl, .shr (.int (c : Nat)), s6, s7, x8, x9]) := by
    rcases hs with rfl | rfl
    · show (cmpR .ne (.list (last.map .int)) (.list [])).bind _ = _
      rw [hn]
      rfl
    · show (cmpR .ne (.list (last.map .int)) (.list [])).bind _ = _
      rw [hn]
      rfl
  unfold b26c
  rw [and_e, e1]
  by_cases c0 : last = []
  · rw [if_pos c0]
    simp only [c0, decide_true, Bool.not_true]
    rfl
  · rw [if_neg c0]
    simp only [c0, decide_false, Bool.not_false]
    rfl
def trueP (x : Int) : PyData × PyData := (.int x, .bool true)
theorem KeysI.putAll : ∀ {S : List Int} {kvs : List (PyData × PyData)} {ks : List Int}, KeysI kvs ks → KeysI (Rt.putAll kvs (S.map trueP)) (addAll ks S)
  | [], _, _, h => h
  | x :: S, kvs, ks, h => KeysI.putAll (S := S) (h.put x (.bool true))
theorem dict_true (S : List Int) : biR .dict [.list (S.map fun x => .tuple [.int x, .bool true])] = .ok (.own (.dct (Rt.putAll [] (S.map trueP)))) := by
  have e1 : pairsOf (S.map fun x => .tuple [.int x, .bool true]) = some (S.map trueP) := by
    induction S with
    | nil => rfl
    | cons x S ih => simp [pairsOf, ih, trueP]
  have e2 : ((S.map trueP).all fun p => decide (kindK p.1 = some 0)) = true := by
    rw [List.all_map]
    exact List.all_eq_true.mpr fun x _ => rfl
  show (Res.get (pairsOf _)).bind _ = _
  rw [e1]
  show Res.guard ((S.map trueP).all fun p => decide (kindK p.1 = some 0)) _ = _
  rw [e2]
  rfl
/-- _law_joined -/
theorem f26 {p : Play} (h : PlOk p) {a : Int} {S : List Int} (hS : Rg p S) (hl : S.length ≤ 40) (hne : S ≠ []) (hm : 20 < m) {s : Sl} (hs : IsL s S) :
    evF tbl m (n + 2) 20 [.shr p.d, s, .shr (.int a)] = .ok (.shr (.tuple ((clo p a S).map .int)), [.shr p.d, .shr (.list (S.map .int)), .shr (.int a)]) := by
  have hp8 := h.l8
  have hk0 : KeysI (Rt.putAll [] (S.map trueP)) (addAll [] S) := KeysI.putAll (ks := []) rfl
  have hr0 : InR p (addAll [] S) := addAll_inR ⟨by simp, fun x hx => by cases hx⟩ hS
  have hmem0 : ∀ x, x ∈ addAll [] S ↔ x ∈ S := fun x => by rw [addAll_mem]; simp
  have hct : 0 + 1 ≤ (addAll [] S).length := by
    cases hq : addAll [] S with
    | nil =>
      cases S with
      | nil => exact absurd rfl hne
      | cons x S => have := (hmem0 x).mpr List.mem_cons_self; rw [hq] at this; cases this
    | cons _ _ => simp
  obtain ⟨ρ', e, kvs, ks, c, sl, s7, x8, x9, hk, l, hρ⟩ := whlGo_ind (c := fun ρ => tst (evE (evF tbl m (n + 1)) b26c ρ)) (b := fun ρ => evS (evF tbl m (n + 1)) m 3 b26w ρ)
    (fun k ρ => ∃ (kvs : List (PyData × PyData)) (ks last : List Int) (c : Nat) (sl s7 x8 x9 : Sl), KeysI kvs ks ∧ Lay26 p a S ks last c ∧ IsL sl last ∧ c + k = 10 ∧ ρ = [.shr p.d, .shr (.list (S.map .int)), .shr (.int a), .own (.dct kvs), sl, .shr (.int (c : Nat)), .un, s7, x8, x9])
    (fun ρ => ∃ (kvs : List (PyData × PyData)) (ks : List Int) (c : Nat) (sl s7 x8 x9 : Sl), KeysI kvs ks ∧ Lay26 p a S ks [] c ∧ ρ = [.shr p.d, .shr (.list (S.map .int)), .shr (.int a), .own (.dct kvs), sl, .shr (.int (c : Nat)), .un, s7, x8, x9])
    (fun k ρ ⟨kvs, ks, last, c, sl, s7, x8, x9, hk, l, hsl, hc, hρ⟩ => by
      subst hρ
      have ec := f26c (Φ := evF tbl m (n + 1)) (s0 := .shr p.d) (s1 := .shr (.list (S.map .int))) (s2 := .shr (.int a)) (s3 := .own (.dct kvs)) (s6 := .un) (s7 := s7) (x8 := x8) (x9 := x9) (c := c) hsl
      by_cases c0 : last = []
      · subst c0
        exact .inr ⟨_, ec, kvs, ks, c, sl, s7, x8, x9, hk, l, rfl⟩
      · have hlt := l.ct c0
        have h8 := nodup_short l.r
        have hc10 : (c : Int) < 10 := by omega
        rw [if_neg c0, decide_eq_true hc10] at ec
        obtain ⟨kvs', x8', x9', h2, e2⟩ := f26w (m := m) (n := n) h (s1 := .shr (.list (S.map .int))) (s6 := .un) (s7 := s7) (x8 := x8) (x9 := x9) hk l hsl
        exact .inl ⟨_, ec, _, e2, k - 1, by omega, kvs', _, _, c + 1, _, _, _, _, h2, l.step h c0, .inr rfl, by omega, rfl⟩)
    (k := 10) (m := m) (ρ := [.shr p.d, .shr (.list (S.map .int)), .shr (.int a), .own (.dct (Rt.putAll [] (S.map trueP))), .own (.lst (S.map .int)), .shr (.int (0 : Nat)), .un, .un, .un, .un]) (by omega)
    ⟨_, _, S, 0, _, _, _, _, hk0, ⟨hr0, fun x hx => .base ((hmem0 x).mp hx), fun x hx => (hmem0 x).mpr hx, fun x hx => .inl ((hmem0 x).mp hx), fun _ => hct, fun x hx => (hmem0 x).mpr hx⟩, .inl rfl, rfl, rfl⟩
  have hl2 : ks.length ≤ lim := by have := nodup_short l.r; have := lim_big; omega
  have gs := sorted_i hl2
  rw [clo_sort h hS l.r.1 l.fin] at gs
  have hK : biR .list [.dict kvs] = .ok (.own (.lst (ks.map .int))) := by
    show Res.ok (Sl.own (.lst (kvs.map (·.1)))) = _
    rw [hk]
  subst hρ
  rw [call_F (np := 3) (ns := 10) (c := c20) rfl rfl]
  have hlc : lcGo (lcT (evF tbl m (n + 1)) (.v 6) .nil (.tup (.cons false (.var 6) (.cons false (.cst (.bool true)) (.nil)))) [6]) (S.map .int) [] [.shr p.d, .shr (.list (S.map .int)), .shr (.int a), .un, .un, .un, .un, .un, .un, .un] = .ok (S.map fun x => .tuple [.int x, .bool true], [.shr p.d, .shr (.list (S.map .int)), .shr (.int a), .un, .un, .un, .un, .un, .un, .un]) := by
    refine lc_mapg (fun x hx => ?_) (by have := lim_big; omega)
    simp [lcT, bt, wipeR, lim]
  have gd := dict_true S
  have ep : evS (evF tbl m (n + 1)) m 3 (.par [3, 4, 5] (.cons false (.bi .dict (.cons false (.lc [6] (.v 6) (.ex (.var 1)) (.nil) (.tup (.cons false (.var 6) (.cons false (.cst (.bool true)) (.nil))))) (.nil))) (.cons false (.bi .list (.cons false (.var 1) (.nil))) (.cons false (.cst (.int 0)) (.nil))))) [.shr p.d, s, .shr (.int a), .un, .un, .un, .un, .un, .un, .un]
      = .ok (.nxt, [.shr p.d, .shr (.list (S.map .int)), .shr (.int a), .own (.dct (Rt.putAll [] (S.map trueP))), .own (.lst (S.map .int)), .shr (.int (0 : Nat)), .un, .un, .un, .un]) := by
    have hlist : biR .list [.list (S.map .int)] = .ok (.own (.lst (S.map .int))) := rfl
    rcases hs with rfl | rfl <;> simp [wipeR, hlc, gd, hlist, backR, taks, stAll, stS, Ob.dat]
  have ew : evS (evF tbl m (n + 1)) m 3 (.whl b26c b26w) [.shr p.d, .shr (.list (S.map .int)), .shr (.int a), .own (.dct (Rt.putAll [] (S.map trueP))), .own (.lst (S.map .int)), .shr (.int (0 : Nat)), .un, .un, .un, .un]
      = .ok (.nxt, [.shr p.d, .shr (.list (S.map .int)), .shr (.int a), .own (.dct kvs), sl, .shr (.int (c : Nat)), .un, s7, x8, x9]) := e
  show (evS (evF tbl m (n + 1)) m 3 (.seq (.par [3, 4, 5] _) (.seq (.whl b26c b26w) (.seq (.ret (.bi .tuple (.cons false (.bi .sorted (.cons false (.bi .list (.cons false (.var 3) (.nil))) (.nil))) (.nil)))) (.skip)))) [.shr p.d, s, .shr (.int a), .un, .un, .un, .un, .un, .un, .un]).bind _ = _
  rw [seq_nxt ep, seq_nxt ew]
  simp [hK, gs, tup_l]
/-! ### events by order -/
def eN (e : Ev) : Int := if e.1 = true then 1 else 0
def evS' (b : Bool) : PyData := .str (if b = true then "say" else "hear")
theorem evD_eq (e : Ev) : evD e = .tuple [evS' e.1, .int e.2.1, .int e.2.2] := rfl
theorem eqv_es (a b : Bool) : PyData.eqv (evS' a) (evS' b) = decide (a = b) := by cases a <;> cases b <;> decide +kernel
theorem lt_es (a b : Bool) : PySem.W.dataLt (evS' a) (evS' b) = decide (eN (a, 0, 0) < eN (b, 0, 0)) := by
  unfold evS'
  rw [PySem.W.dataLt_str]
  cases a <;> cases b <;> decide +kernel
theorem ev_num {a b : Bool} : eN (a, 0, 0) = eN (b, 0, 0) ↔ a = b := by cases a <;> cases b <;> decide
theorem eN_fst (e : Ev) : eN e = eN (e.1, 0, 0) := rfl
theorem eqv_ev (a b : Ev) : PyData.eqv (evD a) (evD b) = decide (a = b) := by
  rw [evD_eq, evD_eq]
  show (PyData.eqv (evS' a.1) (evS' b.1) && (PyData.eqv (.int a.2.1) (.int b.2.1) && (PyData.eqv (.int a.2.2) (.int b.2.2) && true))) = _
  rw [eqv_es, eqv_ii, eqv_ii]
  obtain ⟨a1, a2, a3⟩ := a
  obtain ⟨b1, b2, b3⟩ := b
  by_cases h1 : a1 = b1 <;> by_cases h2 : a2 = b2 <;> by_cases h3 : a3 = b3 <;> simp [h1, h2, h3]
def ltE (a b : Ev) : Bool := decide (eN a < eN b ∨ eN a = eN b ∧ (a.2.1 < b.2.1 ∨ a.2.1 = b.2.1 ∧ a.2.2 < b.2.2))
def leE (a b : Ev) : Bool := !ltE b a
theorem alike_es (a b : Bool) : PySem.W.alike (evS' a) (evS' b) = true := rfl
theorem lex_nil : PyProof.Rows.lexLt PyProof.Rows.itemOrd (PySem.W.keyToksAll []) (PySem.W.keyToksAll []) = false := by decide
theorem lt_ev (a b : Ev) : PySem.W.dataLt (evD a) (evD b) = ltE a b := by
  rw [evD_eq, evD_eq, PySem.W.dataLt_tuple, PySem.W.dataLt_cons (alike_es _ _), PySem.W.dataLt_cons rfl, PySem.W.dataLt_cons rfl]
  simp only [eqv_es, eqv_ii, PySem.W.dataLt_int, lt_es]
  rw [lex_nil]
  unfold ltE
  rw [eN_fst a, eN_fst b]
  by_cases h1 : a.1 = b.1
  · have h1' := ev_num.mpr h1
    by_cases h2 : a.2.1 = b.2.1
    · by_cases h3 : a.2.2 = b.2.2 <;> simp [h1, h2, h3]
    · simp [h1, h2]
  · have h1' : ¬ eN (a.1, 0, 0) = eN (b.1, 0, 0) := fun z => h1 (ev_num.mp z)
    simp [h1, h1']
theorem leD_ev (a b : Ev) : leD (evD a) (evD b) = leE a b := by
  unfold leD leE
  rw [lt_ev]
def ev4 (z : Ev × Int) : PyData := .tuple [evS' z.1.1, .int z.1.2.1, .int z.1.2.2, .int z.2]
theorem lt_ev4 (a b : Ev × Int) : PySem.W.dataLt (ev4 a) (ev4 b) = decide (ltE a.1 b.1 = true ∨ a.1 = b.1 ∧ a.2 < b.2) := by
  unfold ev4
  rw [PySem.W.dataLt_tuple, PySem.W.dataLt_cons (alike_es _ _), PySem.W.dataLt_cons rfl, PySem.W.dataLt_cons rfl, PySem.W.dataLt_cons rfl]
  simp only [eqv_es, eqv_ii, PySem.W.dataLt_int, lt_es]
  rw [lex_nil]
  unfold ltE
  rw [eN_fst a.1, eN_fst b.1]
  obtain ⟨⟨a1, a2, a3⟩, a4⟩ := a
  obtain ⟨⟨b1, b2, b3⟩, b4⟩ := b
  by_cases h1 : a1 = b1
  · subst h1
    by_cases h2 : a2 = b2
    · subst h2
      by_cases h3 : a3 = b3
      · subst h3
        by_cases h4 : a4 = b4 <;> simp [h4]
      · simp [h3]
    · simp [h2]
  · have h1' : ¬ eN (a1, 0, 0) = eN (b1, 0, 0) := fun z => h1 (ev_num.mp z)
    simp [h1, h1']
theorem ltE_irr (a : Ev) : ltE a a = false := by
  unfold ltE
  simp
theorem leE_refl (a : Ev) : leE a a = true := by
  unfold leE
  rw [ltE_irr]
  rfl
theorem leE_trans (a b c : Ev) (h1 : leE a b = true) (h2 : leE b c = true) : leE a c = true := by
  simp only [leE, ltE, Bool.not_eq_true', decide_eq_false_iff_not] at *
  omega
theorem leE_total (a b : Ev) : (leE a b || leE b a) = true := by
  simp only [leE, ltE, Bool.or_eq_true, Bool.not_eq_true', decide_eq_false_iff_not]
  omega
theorem leE_anti {a b : Ev} (h1 : leE a b = true) (h2 : leE b a = true) : a = b := by
  simp only [leE, ltE, Bool.not_eq_true', decide_eq_false_iff_not] at *
  have e1 : eN a = eN b := by omega
  have e2 : a.2.1 = b.2.1 := by omega
  have e3 : a.2.2 = b.2.2 := by omega
  have e0 : a.1 = b.1 := ev_num.mp (by rw [← eN_fst, ← eN_fst]; exact e1)
  exact Prod.ext e0 (Prod.ext e2 e3)
/-! ### dicts from events to lists -/
abbrev EL := List (Ev × List Int)
def liD (l : List Int) : PyData := .list (l.map .int)
def kvE (es : EL) : List (PyData × PyData) := es.map fun z => (evD z.1, liD z.2)
def putE (es : EL) (e : Ev) (l : List Int) : EL := if es.any (fun z => decide (z.1 = e)) = true then es.map (fun z => if z.1 = e then (z.1, l) else z) else es ++ [(e, l)]
def getE (es : EL) (e : Ev) : Option (List Int) := (es.find? fun z => decide (z.1 = e)).map (·.2)
theorem put_e (es : EL) (e : Ev) (l : List Int) : Rt.put (kvE es) (evD e) (liD l) = kvE (putE es e l) := by
  unfold Rt.put putE kvE
  have ea : ((es.map fun z => (evD z.1, liD z.2)).any fun p => PyData.eqv p.1 (evD e)) = es.any fun z => decide (z.1 = e) := by
    rw [List.any_map]
    congr 1
    funext z
    exact eqv_ev _ _
  rw [ea]
  by_cases c : (es.any fun z => decide (z.1 = e)) = true
  · rw [if_pos c, if_pos c, List.map_map, List.map_map]
    refine List.map_congr_left fun z _ => ?_
    show (if PyData.eqv (evD z.1) (evD e) = true then (evD z.1, liD l) else (evD z.1, liD z.2)) = _
    rw [eqv_ev]
    by_cases q : z.1 = e <;> simp [q]
  · rw [if_neg c, if_neg c, List.map_append]
    rfl
theorem look_e (es : EL) (e : Ev) : Rt.look (kvE es) (evD e) = (getE es e).map liD := by
  unfold Rt.look getE kvE
  induction es with
  | nil => rfl
  | cons z es ih =>
    simp only [List.map_cons, List.find?_cons, eqv_ev]
    by_cases q : z.1 = e
    · simp [q]
    · simp only [q, decide_false]
      exact ih
theorem kind_ev (e : Ev) : kindK (evD e) = some 1 := rfl
theorem okFor_e (es : EL) (e : Ev) : okFor (kvE es) (evD e) = true := by
  unfold okFor kvE
  cases es with
  | nil => rfl
  | cons z es => rfl
theorem get_e (es : EL) (e : Ev) : meR .get (.dict (kvE es)) [evD e, .list []] = .ok (.shr (liD ((getE es e).getD []))) := by
  show Res.guard (okFor (kvE es) (evD e)) (Res.ok (Sl.shr ((Rt.look (kvE es) (evD e)).getD (.list [])))) = _
  rw [okFor_e, look_e]
  cases getE es e <;> rfl
theorem idx_ev {es : EL} {e : Ev} {l : List Int} (h : getE es e = some l) : idxR (.dict (kvE es)) (evD e) = .ok (liD l) := by
  show Res.guard (okFor (kvE es) (evD e)) (.get (Rt.look (kvE es) (evD e))) = _
  rw [okFor_e, look_e, h]
  rfl
theorem putR_e {es : EL} (e : Ev) (l : List Int) (h : es.length < 500) : putR (.dct (kvE es)) (evD e) (liD l) = .ok (.dct (kvE (putE es e l))) := by
  show Res.guard (okFor (kvE es) (evD e) && decide ((kvE es).length < lim)) _ = _
  have : (kvE es).length < lim := by
    unfold kvE
    rw [List.length_map]
    have : (500 : Nat) < lim := by decide
    omega
  rw [okFor_e, decide_eq_true this]
  show Res.ok (Ob.dct (Rt.put (kvE es) (evD e) (liD l))) = _
  rw [put_e]
def addE (es : EL) (z : Ev × Int) : EL := putE es z.1 ((getE es z.1).getD [] ++ [z.2])
/-- what such a dict keeps -/
structure GoodE (p : Play) (es : EL) (c : Nat) : Prop where
  len : es.length ≤ c
  sh : ∀ z ∈ es, z.2.length ≤ c
  rg : ∀ z ∈ es, Rg p z.2
  ne : ∀ z ∈ es, z.2 ≠ []
  nd : (es.map (·.1)).Nodup
theorem getE_mem {es : EL} {e : Ev} {l : List Int} (h : getE es e = some l) : (e, l) ∈ es := by
  unfold getE at h
  obtain ⟨z, hz, rfl⟩ := Option.map_eq_some_iff.mp h
  have h1 := List.mem_of_find?_eq_some hz
  have h2 := List.find?_some hz
  have h3 : z.1 = e := of_decide_eq_true h2
  rw [← h3]
  exact h1
theorem getE_of {es : EL} (nd : (es.map (·.1)).Nodup) {z : Ev × List Int} (h : z ∈ es) : getE es z.1 = some z.2 := by
  unfold getE
  induction es with
  | nil => cases h
  | cons y es ih =>
    rw [List.map_cons, List.nodup_cons] at nd
    rw [List.find?_cons]
    by_cases q : y.1 = z.1
    · have : y = z := by
        rcases List.mem_cons.mp h with e | e
        · exact e.symm
        · exact absurd (by rw [q]; exact List.mem_map.mpr ⟨z, e, rfl⟩) nd.1
      simp [this]
    · have hz : z ∈ es := by
        rcases List.mem_cons.mp h with e | e
        · exact absurd (by rw [e]) q
        · exact e
      simp only [q, decide_false]
      exact ih nd.2 hz
theorem GoodE.add {p : Play} {es : EL} {c : Nat} (g : GoodE p es c) {z : Ev × Int} (hz : 0 ≤ z.2 ∧ z.2 < p.sc.length) : GoodE p (addE es z) (c + 1) := by
  have hl : ((getE es z.1).getD [] ++ [z.2]).length ≤ c + 1 ∧ Rg p ((getE es z.1).getD [] ++ [z.2]) := by
    cases hq : getE es z.1 with
    | none => exact ⟨by simp, fun x hx => by simp at hx; subst hx; exact hz⟩
    | some l =>
      have hm := getE_mem hq
      refine ⟨by have := g.sh _ hm; simp; exact this, fun x hx => ?_⟩
      rcases List.mem_append.mp hx with hx | hx
      · exact g.rg _ hm x hx
      · simp at hx
        subst hx
        exact hz
  unfold addE putE
  by_cases c1 : (es.any fun y => decide (y.1 = z.1)) = true
  · rw [if_pos c1]
    refine ⟨by rw [List.length_map]; exact Nat.le_succ_of_le g.len, fun y hy => ?_, fun y hy => ?_, fun y hy => ?_, ?_⟩
    · obtain ⟨w, hw, rfl⟩ := List.mem_map.mp hy
      split
      · exact hl.1
      · exact Nat.le_succ_of_le (g.sh w hw)
    · obtain ⟨w, hw, rfl⟩ := List.mem_map.mp hy
      split
      · exact hl.2
      · exact g.rg w hw
    · obtain ⟨w, hw, rfl⟩ := List.mem_map.mp hy
      split
      · simp
      · exact g.ne w hw
    · have : (es.map fun y => if y.1 = z.1 then (y.1, (getE es z.1).getD [] ++ [z.2]) else y).map (·.1) = es.map (·.1) := by
        rw [List.map_map]
        refine List.map_congr_left fun y _ => ?_
        show (if y.1 = z.1 then (y.1, (getE es z.1).getD [] ++ [z.2]) else y).1 = y.1
        split <;> rfl
      rw [this]
      exact g.nd
  · rw [if_neg c1]
    have c2 : ∀ y ∈ es, y.1 ≠ z.1 := fun y hy e => c1 (List.any_eq_true.mpr ⟨y, hy, decide_eq_true e⟩)
    refine ⟨by have := g.len; simp; exact this, fun y hy => ?_, fun y hy => ?_, fun y hy => ?_, ?_⟩
    · rcases List.mem_append.mp hy with hy | hy
      · exact Nat.le_succ_of_le (g.sh y hy)
      · simp only [List.mem_singleton] at hy
        subst hy
        exact hl.1
    · rcases List.mem_append.mp hy with hy | hy
      · exact g.rg y hy
      · simp only [List.mem_singleton] at hy
        subst hy
        exact hl.2
    · rcases List.mem_append.mp hy with hy | hy
      · exact g.ne y hy
      · simp only [List.mem_singleton] at hy
        subst hy
        simp
    · rw [List.map_append, List.nodup_append]
      refine ⟨g.nd, by simp, ?_⟩
      intro x hx y hy
      obtain ⟨w, hw, rfl⟩ := List.mem_map.mp hx
      simp at hy
      subst hy
      exact c2 w hw
/-! ### the events of a set of scenes -/
@[simp] theorem dget_e (Φ : Fenv) (o as : CE) (ρ : Rho) : evE Φ (.dget o as) ρ = (evE Φ o ρ).bind fun p => (rd p.2 p.1).bind fun x0 => Res.guard (kindM .get x0) ((evL Φ as p.2).bind fun q => (rd q.2 p.1).bind fun x => (meR .get x q.1).bind fun s => .ok (.val s, q.2)) := rfl
@[simp] theorem kindM_g (kvs : List (PyData × PyData)) : kindM .get (.dict kvs) = true := rfl
def evsB (sp a : Int) (brs : List Br) : List (Ev × Int) := brs.filterMap fun b => (evt sp a b).map fun e => (e, b.2.2)
def evs (p : Play) (a x : Int) : List (Ev × Int) := match scAt p x with
  | none => []
  | some q => evsB q.1 a q.2
def foldE (es : EL) (zs : List (Ev × Int)) : EL := zs.foldl addE es
def bSi (j : Nat) : CS := .seq (.asg (.v 6) (.call j (.cons false (.var 0) (.cons false (.var 4) (.cons false (.var 5) (.cons false (.var 2) (.nil))))))) (.seq (.ife (.notN (.var 6)) (.seq (.put 3 (.var 6) (.bin .add (.dget (.var 3) (.cons false (.var 6) (.cons false (.lst (.nil)) (.nil)))) (.lst (.cons false (.idx (.var 5) (.cst (.int 2))) (.nil))))) (.skip)) (.skip)) (.skip))
theorem GoodE.up {p : Play} {es : EL} {c d : Nat} (g : GoodE p es c) (h : c ≤ d) : GoodE p es d := ⟨Nat.le_trans g.len h, fun z hz => Nat.le_trans (g.sh z hz) h, g.rg, g.ne, g.nd⟩
theorem fSi {p : Play} {x a : Int} {sp : Int} {j : Nat} (hj : ∀ b : Br, evF tbl m (n + 1) j [.shr p.d, .shr (.int x), .shr (brD b), .shr (.int a)] = .ok (.shr (evO (evt sp a b)), [.shr p.d, .shr (.int x), .shr (brD b), .shr (.int a)])) {s1 : Sl} :
    ∀ {brs : List Br} {es : EL} {c : Nat} {x5 x6 : Sl}, GoodE p es c → c + brs.length ≤ 400 → (∀ t ∈ brs, 0 ≤ t.2.2 ∧ t.2.2 < p.sc.length) →
    ∃ x5' x6', GoodE p (foldE es (evsB sp a brs)) (c + brs.length) ∧ forGo (fun d ρ => (bt 3 (.v 5) d ρ).bind fun ρ => evS (evF tbl m (n + 1)) m 3 (bSi j) ρ) (brs.map brD) [.shr p.d, s1, .shr (.int a), .own (.dct (kvE es)), .shr (.int x), x5, x6]
      = .ok (.nxt, [.shr p.d, s1, .shr (.int a), .own (.dct (kvE (foldE es (evsB sp a brs)))), .shr (.int x), x5', x6']) := by
  intro brs
  induction brs with
  | nil => exact fun {es c x5 x6} hg _ _ => ⟨x5, x6, hg, rfl⟩
  | cons br brs ih =>
    intro es c x5 x6 hg hc hb
    have hc2 : c + (brs.length + 1) ≤ 400 := by simpa using hc
    have hbr := hb br List.mem_cons_self
    have hb2 := fun t ht => hb t (List.mem_cons_of_mem _ ht)
    have hi : idxR (brD br) (.int 2) = .ok (.int br.2.2) := by unfold brD; rw [idx_t, at2]; rfl
    have g8 := hj br
    show ∃ x5' x6', _ ∧ forGo _ (brD br :: brs.map brD) _ = _
    unfold forGo
    have eb : evsB sp a (br :: brs) = match evt sp a br with
      | none => evsB sp a brs
      | some e => (e, br.2.2) :: evsB sp a brs := by
      unfold evsB
      rw [List.filterMap_cons]
      cases evt sp a br <;> rfl
    rw [eb]
    have el : c + (br :: brs).length = c + 1 + brs.length := by simp; omega
    rw [el]
    cases hev : evt sp a br with
    | none =>
      rw [hev] at g8
      obtain ⟨x5', x6', h2, e2⟩ := ih (x5 := .shr (brD br)) (x6 := .shr .none) (hg.up (Nat.le_succ c)) (by omega) hb2
      refine ⟨x5', x6', h2, ?_⟩
      have e0 : evS (evF tbl m (n + 1)) m 3 (bSi j) [.shr p.d, s1, .shr (.int a), .own (.dct (kvE es)), .shr (.int x), .shr (brD br), x6] = .ok (.nxt, [.shr p.d, s1, .shr (.int a), .own (.dct (kvE es)), .shr (.int x), .shr (brD br), .shr .none]) := by
        simp [bSi, g8, evO, stS, isNo]
      show (evS (evF tbl m (n + 1)) m 3 (bSi j) [.shr p.d, s1, .shr (.int a), .own (.dct (kvE es)), .shr (.int x), .shr (brD br), x6]).bind _ = _
      rw [e0]
      exact e2
    | some e =>
      rw [hev, show evO (some e) = evD e from rfl] at g8
      obtain ⟨x5', x6', h2, e2⟩ := ih (x5 := .shr (brD br)) (x6 := .shr (evD e)) (hg.add (z := (e, br.2.2)) hbr) (by omega) hb2
      refine ⟨x5', x6', h2, ?_⟩
      have g3 := get_e es e
      have hll : ((getE es e).getD []).length ≤ c := by
        cases hq : getE es e with
        | none => simp
        | some l => exact hg.sh _ (getE_mem hq)
      have ga : binR .add (liD ((getE es e).getD [])) (.list [.int br.2.2]) = .ok (.own (.lst (((getE es e).getD [] ++ [br.2.2]).map .int))) := by
        show Res.guard (decide ((((getE es e).getD []).map PyData.int).length + 1 ≤ lim)) _ = _
        have : (((getE es e).getD []).map PyData.int).length + 1 ≤ lim := by
          rw [List.length_map]
          have : (500 : Nat) < lim := by decide
          omega
        rw [decide_eq_true this, List.map_append]
        rfl
      have gp := putR_e (es := es) e ((getE es e).getD [] ++ [br.2.2]) (by have := hg.len; omega)
      unfold liD at gp ga
      unfold liD at g3
      have no : isNo (evD e) = false := rfl
      have e0 : evS (evF tbl m (n + 1)) m 3 (bSi j) [.shr p.d, s1, .shr (.int a), .own (.dct (kvE es)), .shr (.int x), .shr (brD br), x6] = .ok (.nxt, [.shr p.d, s1, .shr (.int a), .own (.dct (kvE (addE es (e, br.2.2)))), .shr (.int x), .shr (brD br), .shr (evD e)]) := by
        unfold addE
        generalize (getE es e).getD [] = L at ga gp g3
        generalize evD e = E at g8 g3 gp no
        simp at gp ga
        simp [bSi, g8, evO, stS, no, g3, hi, ga, gp, lim, Ob.dat]
      show (evS (evF tbl m (n + 1)) m 3 (bSi j) [.shr p.d, s1, .shr (.int a), .own (.dct (kvE es)), .shr (.int x), .shr (brD br), x6]).bind _ = _
      rw [e0]
      exact e2
theorem foldE_app (es : EL) (a b : List (Ev × Int)) : foldE es (a ++ b) = foldE (foldE es a) b := by
  unfold foldE
  rw [List.foldl_append]
def Few (p : Play) : Prop := ∀ x, (brsAt p x).length ≤ 2
/-- one scene after another -/
theorem fSo {p : Play} {a : Int} {s1 : Sl} {B : CS} {Φ : Fenv} (hB : ∀ {x : Int} {es : EL} {c : Nat} {x5 x6 : Sl}, 0 ≤ x ∧ x < p.sc.length → GoodE p es c → c + 2 ≤ 400 →
      ∃ x5' x6', GoodE p (foldE es (evs p a x)) (c + 2) ∧ evS Φ m 3 B [.shr p.d, s1, .shr (.int a), .own (.dct (kvE es)), .shr (.int x), x5, x6] = .ok (.nxt, [.shr p.d, s1, .shr (.int a), .own (.dct (kvE (foldE es (evs p a x)))), .shr (.int x), x5', x6'])) :
    ∀ {xs : List Int} {es : EL} {c : Nat} {x4 x5 x6 : Sl}, Rg p xs → GoodE p es c → c + 2 * xs.length ≤ 400 →
      ∃ x4' x5' x6', GoodE p (foldE es (xs.flatMap (evs p a))) (c + 2 * xs.length) ∧ forGo (fun d ρ => (bt 3 (.v 4) d ρ).bind fun ρ => evS Φ m 3 B ρ) (xs.map .int) [.shr p.d, s1, .shr (.int a), .own (.dct (kvE es)), x4, x5, x6]
        = .ok (.nxt, [.shr p.d, s1, .shr (.int a), .own (.dct (kvE (foldE es (xs.flatMap (evs p a))))), x4', x5', x6']) := by
  intro xs
  induction xs with
  | nil => exact fun {es c x4 x5 x6} _ hg _ => ⟨x4, x5, x6, hg, rfl⟩
  | cons x xs ih =>
    intro es c x4 x5 x6 hx hg hc
    have hc2 : c + 2 * (xs.length + 1) ≤ 400 := by simpa using hc
    obtain ⟨y5, y6, h1, e1⟩ := hB (x5 := x5) (x6 := x6) (hx x List.mem_cons_self) hg (by omega)
    obtain ⟨z4, z5, z6, h2, e2⟩ := ih (x4 := .shr (.int x)) (x5 := y5) (x6 := y6) (fun y hy => hx y (List.mem_cons_of_mem _ hy)) h1 (by omega)
    have el : c + 2 * (x :: xs).length = c + 2 + 2 * xs.length := by simp; omega
    rw [List.flatMap_cons, foldE_app, el]
    refine ⟨z4, z5, z6, h2, ?_⟩
    show forGo _ (PyData.int x :: xs.map .int) _ = _
    unfold forGo
    show (evS Φ m 3 B [.shr p.d, s1, .shr (.int a), .own (.dct (kvE es)), .shr (.int x), x5, x6]).bind _ = _
    rw [e1]
    exact e2
def b11o : CS := .seq (.ife (.notN (.idx (.idx (.var 0) (.cst (.int 1))) (.var 4))) (.seq (.for_ (.v 5) (.ex (.idx (.idx (.idx (.var 0) (.cst (.int 1))) (.var 4)) (.cst (.int 1)))) (bSi 7)) (.skip)) (.skip)) (.skip)
def b27o : CS := .seq (.for_ (.v 5) (.ex (.call 19 (.cons false (.var 0) (.cons false (.var 4) (.nil))))) (bSi 18)) (.skip)
theorem f11o {p : Play} (h : PlOk p) (hf : Few p) {a : Int} {s1 : Sl} {x : Int} {es : EL} {c : Nat} {x5 x6 : Sl} (hx : 0 ≤ x ∧ x < p.sc.length) (hg : GoodE p es c) (hc : c + 2 ≤ 400) :
    ∃ x5' x6', GoodE p (foldE es (evs p a x)) (c + 2) ∧ evS (evF tbl m (n + 1)) m 3 b11o [.shr p.d, s1, .shr (.int a), .own (.dct (kvE es)), .shr (.int x), x5, x6] = .ok (.nxt, [.shr p.d, s1, .shr (.int a), .own (.dct (kvE (foldE es (evs p a x)))), .shr (.int x), x5', x6']) := by
  have e := at_sc hx
  have hb := tgt_in h x
  have h2 := hf x
  unfold evs
  unfold brsAt at hb h2
  cases hq : scAt p x with
  | none =>
    rw [hq] at e
    exact ⟨x5, x6, hg.up (by omega), by simp [b11o, Play.d, at1, e, scD, isNo, foldE]⟩
  | some q =>
    rw [hq] at e hb h2
    have h2 : q.2.length ≤ 2 := h2
    obtain ⟨x5', x6', h1, e2⟩ := fSi (m := m) (n := n) (j := 7) (sp := q.1) (fun b => f8 hx hq b a) (s1 := s1) (x5 := x5) (x6 := x6) hg (by omega) hb
    refine ⟨x5', x6', h1.up (by omega), ?_⟩
    have ei : evI (evF tbl m (n + 1)) (.ex (.idx (.idx (.idx (.var 0) (.cst (.int 1))) (.var 4)) (.cst (.int 1)))) [.shr p.d, s1, .shr (.int a), .own (.dct (kvE es)), .shr (.int x), x5, x6] = .ok (q.2.map brD, [.shr p.d, s1, .shr (.int a), .own (.dct (kvE es)), .shr (.int x), x5, x6]) := by
      simp [Play.d, at1, e, scD]
    have ec : tst (evE (evF tbl m (n + 1)) (.notN (.idx (.idx (.var 0) (.cst (.int 1))) (.var 4))) [.shr p.d, s1, .shr (.int a), .own (.dct (kvE es)), .shr (.int x), x5, x6]) = .ok (true, [.shr p.d, s1, .shr (.int a), .own (.dct (kvE es)), .shr (.int x), x5, x6]) := by
      simp [Play.d, at1, e, scD, isNo]
    have ef : evS (evF tbl m (n + 1)) m 3 (.for_ (.v 5) (.ex (.idx (.idx (.idx (.var 0) (.cst (.int 1))) (.var 4)) (.cst (.int 1)))) (bSi 7)) [.shr p.d, s1, .shr (.int a), .own (.dct (kvE es)), .shr (.int x), x5, x6] = .ok (.nxt, [.shr p.d, s1, .shr (.int a), .own (.dct (kvE (foldE es (evsB q.1 a q.2)))), .shr (.int x), x5', x6']) := by
      rw [s_for, ei]
      exact e2
    unfold b11o
    rw [s_seq, s_ife, ec]
    show ((evS (evF tbl m (n + 1)) m 3 (.seq (.for_ (.v 5) _ (bSi 7)) .skip) _).bind _) = _
    rw [seq_nxt ef]
    rfl
theorem f27o {p : Play} (h : PlOk p) (hf : Few p) {a : Int} {s1 : Sl} {x : Int} {es : EL} {c : Nat} {x5 x6 : Sl} (hx : 0 ≤ x ∧ x < p.sc.length) (hg : GoodE p es c) (hc : c + 2 ≤ 400) :
    ∃ x5' x6', GoodE p (foldE es (evs p a x)) (c + 2) ∧ evS (evF tbl m (n + 1)) m 3 b27o [.shr p.d, s1, .shr (.int a), .own (.dct (kvE es)), .shr (.int x), x5, x6] = .ok (.nxt, [.shr p.d, s1, .shr (.int a), .own (.dct (kvE (foldE es (evs p a x)))), .shr (.int x), x5', x6']) := by
  have g25 := f19 (m := m) (n := n) (p := p) hx
  have ei : evI (evF tbl m (n + 1)) (.ex (.call 19 (.cons false (.var 0) (.cons false (.var 4) (.nil))))) [.shr p.d, s1, .shr (.int a), .own (.dct (kvE es)), .shr (.int x), x5, x6] = .ok ((brsAt p x).map brD, [.shr p.d, s1, .shr (.int a), .own (.dct (kvE es)), .shr (.int x), x5, x6]) := by
    simp [g25]
  have hb := tgt_in h x
  have h2 := hf x
  unfold b27o
  rw [s_seq, s_for, ei]
  unfold evs
  unfold brsAt at hb h2 ⊢
  cases hq : scAt p x with
  | none => exact ⟨x5, x6, hg.up (by omega), rfl⟩
  | some q =>
    rw [hq] at hb h2
    have h2 : q.2.length ≤ 2 := h2
    obtain ⟨x5', x6', h1, e2⟩ := fSi (m := m) (n := n) (j := 18) (sp := q.1) (fun b => f24 hx hq b a) (s1 := s1) (x5 := x5) (x6 := x6) hg (by omega) hb
    refine ⟨x5', x6', h1.up (by omega), ?_⟩
    show (((forGo _ (q.2.map brD) _)).bind _) = _
    rw [e2]
    rfl
def sE (p : Play) (a : Int) (xs : List Int) : EL := foldE [] (xs.flatMap (evs p a))
theorem sE_good {p : Play} (h : PlOk p) (hf : Few p) {a : Int} {xs : List Int} (hx : Rg p xs) (hl : xs.length ≤ 8) : GoodE p (sE p a xs) 16 := by
  obtain ⟨_, _, _, g, _⟩ := fSo (m := 0) (Φ := evF tbl 0 1) (p := p) (a := a) (s1 := .un) (B := b27o) (fun hx hg hc => f27o (m := 0) (n := 0) h hf hx hg hc) (xs := xs) (es := []) (c := 0) (x4 := .un) (x5 := .un) (x6 := .un) hx ⟨Nat.le_refl _, fun z hz => (nomatch hz), fun z hz => (nomatch hz), fun z hz => (nomatch hz), by simp⟩ (by omega)
  exact g.up (by omega)
/-- steps_in -/
theorem f11 {p : Play} (h : PlOk p) (hf : Few p) {a : Int} {xs : List Int} (hx : Rg p xs) (hl : xs.length ≤ 8) :
    evF tbl m (n + 2) 9 [.shr p.d, .shr (.tuple (xs.map .int)), .shr (.int a)] = .ok (.own (.dct (kvE (sE p a xs))), [.shr p.d, .shr (.tuple (xs.map .int)), .shr (.int a)]) := by
  obtain ⟨x4', x5', x6', g, e⟩ := fSo (m := m) (Φ := evF tbl m (n + 1)) (p := p) (a := a) (s1 := .shr (.tuple (xs.map .int))) (B := b11o) (fun hx hg hc => f11o (m := m) (n := n) h hf hx hg hc) (xs := xs) (es := []) (c := 0) (x4 := .un) (x5 := .un) (x6 := .un) hx ⟨Nat.le_refl _, fun z hz => (nomatch hz), fun z hz => (nomatch hz), fun z hz => (nomatch hz), by simp⟩ (by omega)
  rw [call_F (np := 3) (ns := 7) (c := c9) rfl rfl]
  have ep : evS (evF tbl m (n + 1)) m 3 (.asg (.v 3) (.dct (.nil))) [.shr p.d, .shr (.tuple (xs.map .int)), .shr (.int a), .un, .un, .un, .un] = .ok (.nxt, [.shr p.d, .shr (.tuple (xs.map .int)), .shr (.int a), .own (.dct (kvE [])), .un, .un, .un]) := rfl
  have ef : evS (evF tbl m (n + 1)) m 3 (.for_ (.v 4) (.ex (.var 1)) b11o) [.shr p.d, .shr (.tuple (xs.map .int)), .shr (.int a), .own (.dct (kvE [])), .un, .un, .un] = .ok (.nxt, [.shr p.d, .shr (.tuple (xs.map .int)), .shr (.int a), .own (.dct (kvE (sE p a xs))), x4', x5', x6']) := by
    rw [s_for]
    exact e
  show (evS (evF tbl m (n + 1)) m 3 (.seq (.asg (.v 3) (.dct (.nil))) (.seq (.for_ (.v 4) (.ex (.var 1)) b11o) (.seq (.ret (.var 3)) (.skip)))) [.shr p.d, .shr (.tuple (xs.map .int)), .shr (.int a), .un, .un, .un, .un]).bind _ = _
  rw [seq_nxt ep, seq_nxt ef]
  simp
/-! ### sorted events -/
def sortP (es : EL) : EL := es.mergeSort fun z w => leE z.1 w.1
theorem sortP_perm (es : EL) : (sortP es).Perm es := List.mergeSort_perm _ _
theorem sortP_up (es : EL) : (sortP es).Pairwise fun z w => leE z.1 w.1 = true := by
  unfold sortP
  exact List.pairwise_mergeSort (le := fun z w : Ev × List Int => leE z.1 w.1) (fun a b c h1 h2 => leE_trans a.1 b.1 c.1 h1 h2) (fun a b => leE_total a.1 b.1) es
def keyP (z : Ev × List Int) : PyData := evD z.1
def pairE (z : Ev × List Int) : PyData := .tuple [evD z.1, liD z.2]
theorem sortD_keys (es : EL) : sortD (es.map keyP) = (sortP es).map keyP := by
  unfold sortD sortP
  exact (List.map_mergeSort fun a _ b _ => (leD_ev a.1 b.1).symm).symm
theorem alike_li (l k : List Int) : PySem.W.alike (liD l) (liD k) = true := by
  unfold liD
  show PySem.W.alikeAll (l.map .int) (k.map .int) = true
  exact PySem.W.alike_ints l k
theorem alike_ev (a b : Ev) : PySem.W.alike (evD a) (evD b) = true := rfl
theorem alike_pair (a b : Ev × List Int) : PySem.W.alike (pairE a) (pairE b) = true := by
  have h := alike_li a.2 b.2
  have h1 := alike_ev a.1 b.1
  unfold pairE
  simp only [PySem.W.alike, PySem.W.alikeAll, h, h1]
  rfl
theorem leD_pair {es : EL} (nd : (es.map (·.1)).Nodup) {a b : Ev × List Int} (ha : a ∈ es) (hb : b ∈ es) : leD (pairE a) (pairE b) = leE a.1 b.1 := by
  unfold leD leE
  by_cases e : b.1 = a.1
  · have : b = a := by
      have h1 := getE_of nd ha
      have h2 := getE_of nd hb
      rw [e, h1] at h2
      exact Prod.ext e (Option.some.inj h2).symm
    subst this
    have : PySem.W.dataLt (pairE b) (pairE b) = false := PyProof.Rows.lex_irrefl _
    rw [this, ltE_irr]
  · have h := alike_li b.2 a.2
    unfold pairE
    rw [PySem.W.dataLt_pair (alike_ev _ _) h, eqv_ev, decide_eq_false e, if_neg Bool.false_ne_true, lt_ev]
theorem sortD_pairs {es : EL} (nd : (es.map (·.1)).Nodup) : sortD (es.map pairE) = (sortP es).map pairE := by
  unfold sortD sortP
  exact (List.map_mergeSort fun a ha b hb => (leD_pair nd ha hb).symm).symm
theorem okSort_by {α : Type} (f : α → PyData) (h1 : ∀ a b, PySem.W.alike (f a) (f b) = true) (h2 : ∀ a, isTupC (f a) = true) (h3 : ∀ a, (f a).depth ≤ 64) (xs : List α) (hl : xs.length ≤ lim) : okSort (xs.map f) = true := by
  have a1 : ∀ ys : List α, alikes (ys.map f) = true := fun ys => by
    induction ys with
    | nil => rfl
    | cons x ys ih =>
      show (PySem.W.alike (f x) (f x) && (ys.map f).all (fun y => PySem.W.alike (f x) y && PySem.W.alike y (f x)) && alikes (ys.map f)) = true
      have e : ((ys.map f).all fun y => PySem.W.alike (f x) y && PySem.W.alike y (f x)) = true := by
        refine List.all_eq_true.mpr fun y hy => ?_
        obtain ⟨z, _, rfl⟩ := List.mem_map.mp hy
        rw [h1, h1]
        rfl
      rw [ih, e, h1]
      rfl
  have a2 : ((xs.map f).all fun d => decide (d.depth ≤ 64)) = true := by
    refine List.all_eq_true.mpr fun y hy => ?_
    obtain ⟨z, _, rfl⟩ := List.mem_map.mp hy
    exact decide_eq_true (h3 z)
  have a3 : ((xs.map f).all isTupC) = true := by
    refine List.all_eq_true.mpr fun y hy => ?_
    obtain ⟨z, _, rfl⟩ := List.mem_map.mp hy
    exact h2 z
  unfold okSort
  rw [a1, a2, a3]
  simp [hl]
theorem lay_es {k : Nat} (b : Bool) : Lay k (evS' b) := ⟨by cases b <;> decide +kernel, by cases b <;> exact Nat.zero_le _⟩
theorem depth_ev (e : Ev) : (evD e).depth ≤ 1 := by
  have : Lay 1 (evD e) := .tup fun d hd => by
    simp at hd
    rcases hd with rfl | rfl | rfl
    · exact lay_es e.1
    · exact .int _
    · exact .int _
  exact this.2
theorem lay_ev (e : Ev) : Lay 1 (evD e) := .tup fun d hd => by
  simp at hd
  rcases hd with rfl | rfl | rfl
  · exact lay_es e.1
  · exact .int _
  · exact .int _
theorem lay_pair (z : Ev × List Int) : Lay 2 (pairE z) := .tup fun d hd => by
  simp at hd
  rcases hd with rfl | rfl
  · exact lay_ev _
  · exact lay_ints _
theorem sorted_keys {es : EL} (h : es.length ≤ lim) : biR .sorted [.list (es.map keyP)] = .ok (.own (.lst ((sortP es).map keyP))) := by
  show Res.guard (okSort (es.map keyP)) _ = _
  rw [okSort_by keyP (fun a b => alike_ev _ _) (fun a => rfl) (fun a => Nat.le_trans (depth_ev a.1) (by decide)) es h, sortD_keys]
  rfl
theorem sits_e {es : EL} (h : es.length ≤ lim) (nd : (es.map (·.1)).Nodup) : biR .sitems [.dict (kvE es)] = .ok (.own (.lst ((sortP es).map pairE))) := by
  have e : (kvE es).map (fun p => PyData.tuple [p.1, p.2]) = es.map pairE := by
    unfold kvE
    rw [List.map_map]
    rfl
  show Res.guard (okSort ((kvE es).map fun p => PyData.tuple [p.1, p.2])) (.ok (Sl.own (.lst (sortD ((kvE es).map fun p => PyData.tuple [p.1, p.2]))))) = _
  rw [e, okSort_by pairE alike_pair (fun a => rfl) (fun a => Nat.le_trans (lay_pair a).2 (by decide)) es h, sortD_pairs nd]
  rfl
/-! ### _law_steps -/
noncomputable def stps (p : Play) (a : Int) (xs : List Int) : List (Ev × List Int) := (sortP (sE p a xs)).map fun z => (z.1, clo p a z.2)
def stD (z : Ev × List Int) : PyData := .tuple [evD z.1, .tuple (z.2.map .int)]
theorem f27 {p : Play} (h : PlOk p) (hf : Few p) {a : Int} {xs : List Int} (hx : Rg p xs) (hl : xs.length ≤ 8) (hm : 20 < m) :
    evF tbl m (n + 3) 21 [.shr p.d, .shr (.tuple (xs.map .int)), .shr (.int a)] = .ok (.own (.lst ((stps p a xs).map stD)), [.shr p.d, .shr (.tuple (xs.map .int)), .shr (.int a)]) := by
  obtain ⟨x4', x5', x6', g, e⟩ := fSo (m := m) (Φ := evF tbl m (n + 2)) (p := p) (a := a) (s1 := .shr (.tuple (xs.map .int))) (B := b27o) (fun hx hg hc => f27o (m := m) (n := n + 1) h hf hx hg hc) (xs := xs) (es := []) (c := 0) (x4 := .un) (x5 := .un) (x6 := .un) hx ⟨Nat.le_refl _, fun z hz => (nomatch hz), fun z hz => (nomatch hz), fun z hz => (nomatch hz), by simp⟩ (by omega)
  rw [call_F (np := 3) (ns := 7) (c := c21) rfl rfl]
  have ep : evS (evF tbl m (n + 2)) m 3 (.asg (.v 3) (.dct (.nil))) [.shr p.d, .shr (.tuple (xs.map .int)), .shr (.int a), .un, .un, .un, .un] = .ok (.nxt, [.shr p.d, .shr (.tuple (xs.map .int)), .shr (.int a), .own (.dct (kvE [])), .un, .un, .un]) := rfl
  have ef : evS (evF tbl m (n + 2)) m 3 (.for_ (.v 4) (.ex (.var 1)) b27o) [.shr p.d, .shr (.tuple (xs.map .int)), .shr (.int a), .own (.dct (kvE [])), .un, .un, .un] = .ok (.nxt, [.shr p.d, .shr (.tuple (xs.map .int)), .shr (.int a), .own (.dct (kvE (sE p a xs))), x4', x5', x6']) := by
    rw [s_for]
    exact e
  show (evS (evF tbl m (n + 2)) m 3 (.seq (.asg (.v 3) (.dct (.nil))) (.seq (.for_ (.v 4) (.ex (.var 1)) b27o) (.seq (.ret (.lc [6] (.v 6) (.ex (.bi .sorted (.cons false (.bi .list (.cons false (.var 3) (.nil))) (.nil)))) (.nil) (.tup (.cons false (.var 6) (.cons false (.call 20 (.cons false (.var 0) (.cons false (.idx (.var 3) (.var 6)) (.cons false (.var 2) (.nil))))) (.nil)))))) (.skip)))) [.shr p.d, .shr (.tuple (xs.map .int)), .shr (.int a), .un, .un, .un, .un]).bind _ = _
  rw [seq_nxt ep, seq_nxt ef]
  have gd := sE_good h hf (a := a) hx hl
  have hlen : (sE p a xs).length ≤ lim := Nat.le_trans gd.len (by decide)
  have gs := sorted_keys hlen
  have gl : biR .list [.dict (kvE (sE p a xs))] = .ok (.own (.lst ((sE p a xs).map keyP))) := by
    show Res.ok (Sl.own (.lst ((kvE (sE p a xs)).map (·.1)))) = _
    unfold kvE
    rw [List.map_map]
    rfl
  have hlc : lcGo (lcT (evF tbl m (n + 2)) (.v 6) .nil (.tup (.cons false (.var 6) (.cons false (.call 20 (.cons false (.var 0) (.cons false (.idx (.var 3) (.var 6)) (.cons false (.var 2) (.nil))))) (.nil)))) [6]) ((sortP (sE p a xs)).map keyP) [] [.shr p.d, .shr (.tuple (xs.map .int)), .shr (.int a), .own (.dct (kvE (sE p a xs))), x4', x5', .un]
      = .ok ((sortP (sE p a xs)).map fun z => stD (z.1, clo p a z.2), [.shr p.d, .shr (.tuple (xs.map .int)), .shr (.int a), .own (.dct (kvE (sE p a xs))), x4', x5', .un]) := by
    refine lc_mapg (fun z hz => ?_) (by rw [(sortP_perm _).length_eq]; exact hlen)
    have hz2 : z ∈ sE p a xs := (sortP_perm _).mem_iff.mp hz
    have gi := idx_ev (getE_of gd.nd hz2)
    have g26 := f26 (m := m) (n := n) h (a := a) (gd.rg z hz2) (Nat.le_trans (gd.sh z hz2) (by decide)) (gd.ne z hz2) hm (s := .shr (liD z.2)) (.inr rfl)
    unfold liD at g26 gi
    unfold keyP stD
    generalize evD z.1 = E at gi ⊢
    generalize kvE (sE p a xs) = KV at gi ⊢
    simp [lcT, bt, gi, g26, wipeR, lim]
  have es : ((sortP (sE p a xs)).map fun z => stD (z.1, clo p a z.2)) = (stps p a xs).map stD := by
    unfold stps
    rw [List.map_map]
    rfl
  rw [es] at hlc
  generalize kvE (sE p a xs) = KV at gl hlc ⊢
  simp [gl, gs, wipeR, hlc, backR, Ob.dat]
/-! ### sets of scenes -/
abbrev SL := List (List Int)
def setD (x : List Int) : PyData := .tuple (x.map .int)
theorem lay_set (x : List Int) : Lay 1 (setD x) := .tup fun d hd => by
  obtain ⟨b, _, rfl⟩ := List.mem_map.mp hd
  exact .int b
theorem lay_sets (L : SL) : Lay 2 (.list (L.map setD)) := .lst fun d hd => by
  obtain ⟨b, _, rfl⟩ := List.mem_map.mp hd
  exact lay_set b
theorem eqv_ints : ∀ x y : List Int, PyData.eqvAll (x.map .int) (y.map .int) = decide (x = y)
  | [], [] => by simp [PyData.eqvAll]
  | [], y :: ys => by simp [PyData.eqvAll]
  | x :: xs, [] => by simp [PyData.eqvAll]
  | x :: xs, y :: ys => by
    show (PyData.eqv (.int x) (.int y) && PyData.eqvAll (xs.map .int) (ys.map .int)) = _
    rw [eqv_ii, eqv_ints xs ys]
    by_cases h1 : x = y <;> by_cases h2 : xs = ys <;> simp [h1, h2]
theorem eqv_set (x y : List Int) : PyData.eqv (setD x) (setD y) = decide (x = y) := eqv_ints x y
theorem in_s (t : List Int) (L : SL) : inR (setD t) (.list (L.map setD)) = .ok (decide (t ∈ L)) := by
  show Res.guard (shp (setD t) && shp (.list (L.map setD))) _ = _
  rw [(lay_set t).shp (by decide), (lay_sets L).shp (by decide)]
  show Res.ok _ = _
  congr 1
  induction L with
  | nil => rfl
  | cons x L ih =>
    simp only [List.map_cons, List.any_cons, eqv_set, ih, List.mem_cons]
    by_cases c : x = t
    · simp [c]
    · have : ¬ t = x := fun z => c z.symm
      simp [c, this]
theorem nin_s (t : List Int) (L : SL) : cmpR .nin (setD t) (.list (L.map setD)) = .ok (!decide (t ∈ L)) := by
  show (inR _ _).bind _ = _
  rw [in_s]
  rfl
theorem place_s {L : SL} {t : List Int} (h : t ∈ L) : place (setD t) (L.map setD) = some (L.idxOf t) := by
  induction L with
  | nil => cases h
  | cons x L ih =>
    show (if PyData.eqv (setD x) (setD t) = true then some 0 else (place (setD t) (L.map setD)).map (· + 1)) = _
    rw [eqv_set, List.idxOf_cons]
    by_cases c : x = t
    · subst c
      simp
    · have h2 : t ∈ L := by
        rcases List.mem_cons.mp h with e | e
        · exact absurd e.symm c
        · exact e
      have c2 : (x == t) = false := by simpa using c
      rw [ih h2]
      simp [c, c2]
def ix (L : SL) (t : List Int) : Int := (L.idxOf t : Nat)
theorem ind_s {L : SL} {t : List Int} (h : t ∈ L) : meR .index (.list (L.map setD)) [setD t] = .ok (.shr (.int (ix L t))) := by
  show Res.guard (shp (setD t) && shp (.list (L.map setD))) ((Res.get (place (setD t) (L.map setD))).bind _) = _
  rw [(lay_set t).shp (by decide), (lay_sets L).shp (by decide), place_s h]
  rfl
/-- sets that are not there yet, one after another -/
def addG (L : SL) (ts : SL) : SL := ts.foldl (fun acc t => if t ∈ acc then acc else acc ++ [t]) L
theorem addG_cons (L : SL) (t : List Int) (ts : SL) : addG L (t :: ts) = addG (if t ∈ L then L else L ++ [t]) ts := rfl
theorem addG_pre (L : SL) : ∀ ts : SL, ∃ M, addG L ts = L ++ M := by
  intro ts
  induction ts generalizing L with
  | nil => exact ⟨[], by simp [addG]⟩
  | cons t ts ih =>
    rw [addG_cons]
    by_cases c : t ∈ L
    · rw [if_pos c]
      exact ih L
    · rw [if_neg c]
      obtain ⟨M, e⟩ := ih (L ++ [t])
      exact ⟨t :: M, by rw [e]; simp⟩
theorem addG_nd {L : SL} (h : L.Nodup) : ∀ ts : SL, (addG L ts).Nodup := by
  intro ts
  induction ts generalizing L with
  | nil => exact h
  | cons t ts ih =>
    rw [addG_cons]
    by_cases c : t ∈ L
    · rw [if_pos c]
      exact ih h
    · rw [if_neg c]
      refine ih ?_
      rw [List.nodup_append]
      refine ⟨h, by simp, ?_⟩
      intro a ha b hb
      simp at hb
      subst hb
      rintro rfl
      exact c ha
theorem addG_mem (L : SL) : ∀ (ts : SL) (x : List Int), x ∈ addG L ts → x ∈ L ∨ x ∈ ts := by
  intro ts
  induction ts generalizing L with
  | nil => exact fun x hx => .inl hx
  | cons t ts ih =>
    intro x hx
    rw [addG_cons] at hx
    rcases ih _ x hx with hx | hx
    · split at hx
      · exact .inl hx
      · rcases List.mem_append.mp hx with hx | hx
        · exact .inl hx
        · simp at hx
          exact .inr (by rw [hx]; exact List.mem_cons_self)
    · exact .inr (List.mem_cons_of_mem _ hx)
theorem idx_pre {L M : SL} {t : List Int} (h : t ∈ L) : ix (L ++ M) t = ix L t := by
  unfold ix
  rw [List.idxOf_append, if_pos h]
/-! ### how many there are -/
def subs : List Int → SL
  | [] => [[]]
  | x :: l => subs l ++ (subs l).map (x :: ·)
theorem subs_len : ∀ l : List Int, (subs l).length = 2 ^ l.length
  | [] => rfl
  | x :: l => by
    show (subs l ++ (subs l).map (x :: ·)).length = _
    rw [List.length_append, List.length_map, subs_len l, List.length_cons, Nat.pow_succ]
    omega
theorem subs_all {x l : List Int} (h : x.Sublist l) : x ∈ subs l := by
  induction h with
  | slnil => simp [subs]
  | cons a _ ih => exact List.mem_append_left _ ih
  | cons_cons a _ ih => exact List.mem_append_right _ (List.mem_map.mpr ⟨_, ih, rfl⟩)
def scs (p : Play) : List Int := (List.range p.sc.length).map fun i : Nat => (i : Int)
theorem clo_sub (p : Play) (a : Int) (S : List Int) : (clo p a S).Sublist (scs p) := List.filter_sublist
theorem few_sets {p : Play} (h6 : p.sc.length ≤ 6) {L : SL} (nd : L.Nodup) (hs : ∀ x ∈ L, x.Sublist (scs p)) : L.length ≤ 64 := by
  have h1 := List.Nodup.length_le_of_subset nd fun x hx => subs_all (hs x hx)
  rw [subs_len] at h1
  have h2 : (scs p).length = p.sc.length := by unfold scs; simp
  rw [h2] at h1
  have h3 : 2 ^ p.sc.length ≤ 2 ^ 6 := Nat.pow_le_pow_right (by decide) h6
  omega
/-! ### one set after another -/
noncomputable def tg (p : Play) (a : Int) (x : List Int) : SL := (stps p a x).map (·.2)
noncomputable def seqS (p : Play) (a : Int) : Nat → SL
  | 0 => [clo p a [0]]
  | i + 1 => match (seqS p a i)[i]? with
    | some x => addG (seqS p a i) (tg p a x)
    | none => seqS p a i
theorem seqS_ok {p : Play} (a : Int) : ∀ i, (seqS p a i).Nodup ∧ ∀ x ∈ seqS p a i, x.Sublist (scs p)
  | 0 => ⟨by simp [seqS], fun x hx => by simp [seqS] at hx; subst hx; exact clo_sub _ _ _⟩
  | i + 1 => by
    obtain ⟨h1, h2⟩ := seqS_ok (p := p) a i
    unfold seqS
    split
    · refine ⟨addG_nd h1 _, fun x hx => ?_⟩
      rcases addG_mem _ _ _ hx with hx | hx
      · exact h2 x hx
      · obtain ⟨z, hz, rfl⟩ := List.mem_map.mp hx
        obtain ⟨w, _, rfl⟩ := List.mem_map.mp hz
        exact clo_sub _ _ _
    · exact ⟨h1, h2⟩
theorem sub_rg {p : Play} {x : List Int} (h : x.Sublist (scs p)) : Rg p x ∧ x.length ≤ p.sc.length := by
  refine ⟨fun y hy => ?_, ?_⟩
  · obtain ⟨i, hi, rfl⟩ := List.mem_map.mp (h.subset hy)
    have := List.mem_range.mp hi
    omega
  · have := h.length_le
    unfold scs at this
    simpa using this
noncomputable def lineT (p : Play) (a : Int) (j : Nat) : List (Ev × Int) := match (seqS p a j)[j]? with
  | some x => (stps p a x).map fun z => (z.1, ix (seqS p a (j + 1)) z.2)
  | none => []
abbrev TL := List (Ev × Int)
def kvT (T : TL) : List (PyData × PyData) := T.map fun z => (evD z.1, .int z.2)
theorem putR_t {T : TL} {e : Ev} (i : Int) (hn : e ∉ T.map (·.1)) (hl : T.length < 500) : putR (.dct (kvT T)) (evD e) (.int i) = .ok (.dct (kvT (T ++ [(e, i)]))) := by
  have h1 : okFor (kvT T) (evD e) = true := by
    unfold okFor kvT
    cases T with
    | nil => rfl
    | cons z T => rfl
  have h2 : (kvT T).length < lim := by
    unfold kvT
    rw [List.length_map]
    have : (500 : Nat) < lim := by decide
    omega
  have h3 : ((kvT T).any fun p => PyData.eqv p.1 (evD e)) = false := by
    unfold kvT
    rw [List.any_map]
    refine List.any_eq_false.mpr fun z hz => ?_
    show ¬ PyData.eqv (evD z.1) (evD e) = true
    rw [eqv_ev, decide_eq_true_eq]
    rintro rfl
    exact hn (List.mem_map.mpr ⟨z, hz, rfl⟩)
  show Res.guard (okFor (kvT T) (evD e) && decide ((kvT T).length < lim)) (.ok (Ob.dct (Rt.put (kvT T) (evD e) (.int i)))) = _
  rw [h1, decide_eq_true h2]
  unfold Rt.put
  rw [h3]
  show Res.ok (Ob.dct (kvT T ++ [(evD e, .int i)])) = _
  unfold kvT
  rw [List.map_append]
  rfl
def b12i : CS := .seq (.asg (.v 7) (.call 8 (.cons false (.var 0) (.cons false (.var 6) (.cons false (.var 1) (.nil)))))) (.seq (.ife (.cmp .nin (.var 7) (.var 2)) (.seq (.exp (.mut .append 2 (.cons false (.var 7) (.nil)))) (.skip)) (.skip)) (.seq (.put 4 (.var 5) (.met .index (.var 2) (.cons false (.var 7) (.nil)))) (.skip)))
theorem f12s {p : Play} (h : PlOk p) (hm : 80 < m) {a : Int} {s3 s7 : Sl} {L : SL} {T : TL} {z : Ev × List Int} (h1 : Rg p z.2) (h2 : z.2.length ≤ 40) (hn : z.1 ∉ T.map (·.1)) (hT : T.length < 400) (hL : L.length < 400) :
    evS (evF tbl m (n + 2)) m 2 b12i [.shr p.d, .shr (.int a), .own (.lst (L.map setD)), s3, .own (.dct (kvT T)), .shr (evD z.1), .shr (liD z.2), s7]
      = .ok (.nxt, [.shr p.d, .shr (.int a), .own (.lst ((if clo p a z.2 ∈ L then L else L ++ [clo p a z.2]).map setD)), s3, .own (.dct (kvT (T ++ [(z.1, ix (if clo p a z.2 ∈ L then L else L ++ [clo p a z.2]) (clo p a z.2))]))), .shr (evD z.1), .shr (liD z.2), .shr (setD (clo p a z.2))]) := by
  have g9 := f9 (m := m) (n := n) h (a := a) h1 h2 hm (s := .shr (liD z.2)) (.inr rfl)
  have gn := nin_s (clo p a z.2) L
  have s1 : evS (evF tbl m (n + 2)) m 2 (.asg (.v 7) (.call 8 (.cons false (.var 0) (.cons false (.var 6) (.cons false (.var 1) (.nil)))))) [.shr p.d, .shr (.int a), .own (.lst (L.map setD)), s3, .own (.dct (kvT T)), .shr (evD z.1), .shr (liD z.2), s7]
      = .ok (.nxt, [.shr p.d, .shr (.int a), .own (.lst (L.map setD)), s3, .own (.dct (kvT T)), .shr (evD z.1), .shr (liD z.2), .shr (setD (clo p a z.2))]) := by
    unfold setD
    simp [g9, stS]
  have hlim : L.length < lim := by have : (500 : Nat) < lim := by decide
                                   omega
  generalize clo p a z.2 = C at *
  have s2 : evS (evF tbl m (n + 2)) m 2 (.ife (.cmp .nin (.var 7) (.var 2)) (.seq (.exp (.mut .append 2 (.cons false (.var 7) (.nil)))) (.skip)) (.skip)) [.shr p.d, .shr (.int a), .own (.lst (L.map setD)), s3, .own (.dct (kvT T)), .shr (evD z.1), .shr (liD z.2), .shr (setD C)]
      = .ok (.nxt, [.shr p.d, .shr (.int a), .own (.lst ((if C ∈ L then L else L ++ [C]).map setD)), s3, .own (.dct (kvT T)), .shr (evD z.1), .shr (liD z.2), .shr (setD C)]) := by
    by_cases c : C ∈ L
    · simp [gn, c, Ob.dat]
    · simp [gn, c, hlim, Ob.dat]
  have hC : C ∈ (if C ∈ L then L else L ++ [C]) := by
    split
    · assumption
    · simp
  generalize hL2 : (if C ∈ L then L else L ++ [C]) = L2 at *
  have gi := ind_s hC
  have gp := putR_t (T := T) (e := z.1) (ix L2 C) hn (by omega)
  have s3' : evS (evF tbl m (n + 2)) m 2 (.seq (.put 4 (.var 5) (.met .index (.var 2) (.cons false (.var 7) (.nil)))) (.skip)) [.shr p.d, .shr (.int a), .own (.lst (L2.map setD)), s3, .own (.dct (kvT T)), .shr (evD z.1), .shr (liD z.2), .shr (setD C)]
      = .ok (.nxt, [.shr p.d, .shr (.int a), .own (.lst (L2.map setD)), s3, .own (.dct (kvT (T ++ [(z.1, ix L2 C)]))), .shr (evD z.1), .shr (liD z.2), .shr (setD C)]) := by
    generalize evD z.1 = E at gp ⊢
    generalize kvT T = KT at gp ⊢
    generalize setD C = SC at gi ⊢
    simp [gi, gp, Ob.dat]
  unfold b12i
  rw [seq_nxt s1, seq_nxt s2]
  exact s3'
theorem f12i {p : Play} (h : PlOk p) (hm : 80 < m) {a : Int} {s3 : Sl} : ∀ {zs : EL} {L : SL} {T : TL} {s5 s6 s7 : Sl}, (∀ z ∈ zs, Rg p z.2 ∧ z.2.length ≤ 40) → (T.map (·.1) ++ zs.map (·.1)).Nodup → T.length + zs.length < 400 → L.length + zs.length < 400 →
    ∃ s5' s6' s7', forGo (fun d ρ => (bt 2 (.cons (.v 5) (.cons (.v 6) .nil)) d ρ).bind fun ρ => evS (evF tbl m (n + 2)) m 2 b12i ρ) (zs.map pairE) [.shr p.d, .shr (.int a), .own (.lst (L.map setD)), s3, .own (.dct (kvT T)), s5, s6, s7]
      = .ok (.nxt, [.shr p.d, .shr (.int a), .own (.lst ((addG L (zs.map fun z => clo p a z.2)).map setD)), s3, .own (.dct (kvT (T ++ zs.map fun z => (z.1, ix (addG L (zs.map fun z => clo p a z.2)) (clo p a z.2))))), s5', s6', s7']) := by
  intro zs
  induction zs with
  | nil => exact fun {L T s5 s6 s7} _ _ _ _ => ⟨s5, s6, s7, by simp [forGo, addG]⟩
  | cons z zs ih =>
    intro L T s5 s6 s7 h1 h2 h3 h4
    have h3' : T.length + (zs.length + 1) < 400 := by simpa using h3
    have h4' : L.length + (zs.length + 1) < 400 := by simpa using h4
    obtain ⟨r1, r2⟩ := h1 z List.mem_cons_self
    have hn : z.1 ∉ T.map (·.1) := fun c => by
      rw [List.nodup_append] at h2
      exact h2.2.2 _ c _ (by simp) rfl
    have e0 := f12s (m := m) (n := n) h hm (a := a) (s3 := s3) (s7 := s7) (L := L) (T := T) (z := z) r1 r2 hn (by omega) (by omega)
    have hC : clo p a z.2 ∈ (if clo p a z.2 ∈ L then L else L ++ [clo p a z.2]) := by
      split
      · assumption
      · simp
    have hlen : (if clo p a z.2 ∈ L then L else L ++ [clo p a z.2]).length ≤ L.length + 1 := by
      split
      · omega
      · simp
    generalize hL2 : (if clo p a z.2 ∈ L then L else L ++ [clo p a z.2]) = L2 at *
    obtain ⟨s5', s6', s7', e2⟩ := ih (L := L2) (T := T ++ [(z.1, ix L2 (clo p a z.2))]) (s5 := .shr (evD z.1)) (s6 := .shr (liD z.2)) (s7 := .shr (setD (clo p a z.2))) (fun y hy => h1 y (List.mem_cons_of_mem _ hy)) (by simpa using h2) (by simp; omega) (by omega)
    refine ⟨s5', s6', s7', ?_⟩
    have ea : addG L ((z :: zs).map fun z => clo p a z.2) = addG L2 (zs.map fun z => clo p a z.2) := by
      rw [List.map_cons, addG_cons, hL2]
    obtain ⟨M, hM⟩ := addG_pre L2 (zs.map fun z => clo p a z.2)
    have ei : ix (addG L2 (zs.map fun z => clo p a z.2)) (clo p a z.2) = ix L2 (clo p a z.2) := by rw [hM]; exact idx_pre hC
    rw [ea]
    have et : T ++ (z :: zs).map (fun z => (z.1, ix (addG L2 (zs.map fun z => clo p a z.2)) (clo p a z.2))) = T ++ [(z.1, ix L2 (clo p a z.2))] ++ zs.map (fun z => (z.1, ix (addG L2 (zs.map fun z => clo p a z.2)) (clo p a z.2))) := by
      rw [List.map_cons, ei]
      simp
    rw [et]
    show forGo _ (pairE z :: zs.map pairE) _ = _
    unfold forGo
    show (evS (evF tbl m (n + 2)) m 2 b12i [.shr p.d, .shr (.int a), .own (.lst (L.map setD)), s3, .own (.dct (kvT T)), .shr (evD z.1), .shr (liD z.2), s7]).bind _ = _
    rw [e0]
    exact e2
def dD (t : TL) : PyData := .dict (kvT t)
noncomputable def linesT (p : Play) (a : Int) (i : Nat) : List TL := (List.range i).map (lineT p a)
theorem linesT_succ (p : Play) (a : Int) (i : Nat) : linesT p a (i + 1) = linesT p a i ++ [lineT p a i] := by
  unfold linesT
  rw [List.range_succ, List.map_append]
  rfl
theorem linesT_len (p : Play) (a : Int) (i : Nat) : (linesT p a i).length = i := by unfold linesT; simp
/-- a play of few scenes and few branches -/
structure Sm (p : Play) : Prop where
  ok : PlOk p
  few : Few p
  six : p.sc.length ≤ 6
theorem Sm.le64 {p : Play} (h : Sm p) (a : Int) (i : Nat) : (seqS p a i).length ≤ 64 := few_sets h.six (seqS_ok a i).1 (seqS_ok a i).2
theorem Sm.at {p : Play} (h : Sm p) {a : Int} {i : Nat} {x : List Int} (hx : (seqS p a i)[i]? = some x) : Rg p x ∧ x.length ≤ 8 := by
  obtain ⟨h1, h2⟩ := sub_rg ((seqS_ok a i).2 x (List.mem_of_getElem? hx))
  have := h.six
  exact ⟨h1, by omega⟩
theorem seqS_succ {p : Play} {a : Int} {i : Nat} {x : List Int} (hx : (seqS p a i)[i]? = some x) : seqS p a (i + 1) = addG (seqS p a i) (tg p a x) := by
  show (match (seqS p a i)[i]? with | some x => addG (seqS p a i) (tg p a x) | none => seqS p a i) = _
  rw [hx]
theorem lineT_at {p : Play} {a : Int} {i : Nat} {x : List Int} (hx : (seqS p a i)[i]? = some x) : lineT p a i = (stps p a x).map fun z => (z.1, ix (seqS p a (i + 1)) z.2) := by
  unfold lineT
  rw [hx]
def i12 : CE := .ex (.bi .sitems (.cons false (.call 9 (.cons false (.var 0) (.cons false (.idx (.var 2) (.bi .len (.cons false (.var 3) (.nil)))) (.cons false (.var 1) (.nil))))) (.nil)))
def b12w : CS := .seq (.asg (.v 4) (.dct (.nil))) (.seq (.for_ (.cons (.v 5) (.cons (.v 6) (.nil))) i12 b12i) (.seq (.exp (.mut .append 3 (.cons false (.var 4) (.nil)))) (.skip)))
theorem f12w {p : Play} (h : Sm p) (hm : 80 < m) {a : Int} {i : Nat} {x : List Int} (hx : (seqS p a i)[i]? = some x) {s4 s5 s6 s7 : Sl} :
    ∃ s4' s5' s6' s7', evS (evF tbl m (n + 2)) m 2 b12w [.shr p.d, .shr (.int a), .own (.lst ((seqS p a i).map setD)), .own (.lst ((linesT p a i).map dD)), s4, s5, s6, s7]
      = .ok (.nxt, [.shr p.d, .shr (.int a), .own (.lst ((seqS p a (i + 1)).map setD)), .own (.lst ((linesT p a (i + 1)).map dD)), s4', s5', s6', s7']) := by
  obtain ⟨hr, hl⟩ := h.at hx
  have gd := sE_good h.ok h.few (a := a) hr hl
  have pm := sortP_perm (sE p a x)
  have hi : i < (seqS p a i).length := (List.getElem?_eq_some_iff.mp hx).1
  have h64 := h.le64 a i
  have nd2 : ((sortP (sE p a x)).map (·.1)).Nodup := (pm.map (·.1)).nodup_iff.mpr gd.nd
  have hlen : (sortP (sE p a x)).length ≤ 16 := by rw [pm.length_eq]; exact gd.len
  have g11 := f11 (m := m) (n := n) h.ok h.few (a := a) hr hl
  have gs := sits_e (es := sE p a x) (Nat.le_trans gd.len (by decide)) gd.nd
  obtain ⟨s5', s6', s7', e2⟩ := f12i (m := m) (n := n) h.ok hm (a := a) (s3 := .own (.lst ((linesT p a i).map dD))) (zs := sortP (sE p a x)) (L := seqS p a i) (T := []) (s5 := s5) (s6 := s6) (s7 := s7)
    (fun z hz => ⟨gd.rg z (pm.mem_iff.mp hz), Nat.le_trans (gd.sh z (pm.mem_iff.mp hz)) (by decide)⟩) (by simpa using nd2) (by simp; omega) (by omega)
  have et : ((sortP (sE p a x)).map fun z => clo p a z.2) = tg p a x := by
    unfold tg stps
    rw [List.map_map]
    rfl
  rw [et, ← seqS_succ hx] at e2
  have el : [] ++ (sortP (sE p a x)).map (fun z => (z.1, ix (seqS p a (i + 1)) (clo p a z.2))) = lineT p a i := by
    rw [lineT_at hx]
    unfold stps
    rw [List.map_map]
    rfl
  rw [el] at e2
  refine ⟨.shr (dD (lineT p a i)), s5', s6', s7', ?_⟩
  have ep : evS (evF tbl m (n + 2)) m 2 (.asg (.v 4) (.dct (.nil))) [.shr p.d, .shr (.int a), .own (.lst ((seqS p a i).map setD)), .own (.lst ((linesT p a i).map dD)), s4, s5, s6, s7] = .ok (.nxt, [.shr p.d, .shr (.int a), .own (.lst ((seqS p a i).map setD)), .own (.lst ((linesT p a i).map dD)), .own (.dct (kvT [])), s5, s6, s7]) := rfl
  have ha : L2.atI ((seqS p a i).map setD) ((((linesT p a i).map dD).length : Nat) : Int) = some (setD x) := atN (by rw [List.length_map, linesT_len, List.getElem?_map, hx]; rfl)
  have ei : evI (evF tbl m (n + 2)) i12 [.shr p.d, .shr (.int a), .own (.lst ((seqS p a i).map setD)), .own (.lst ((linesT p a i).map dD)), .own (.dct (kvT [])), s5, s6, s7] = .ok ((sortP (sE p a x)).map pairE, [.shr p.d, .shr (.int a), .own (.lst ((seqS p a i).map setD)), .own (.lst ((linesT p a i).map dD)), .own (.dct (kvT [])), s5, s6, s7]) := by
    rw [show PyData.tuple (x.map .int) = setD x from rfl] at g11
    generalize (seqS p a i).map setD = A at ha ⊢
    generalize (linesT p a i).map dD = B at ha ⊢
    generalize setD x = X at ha g11
    generalize kvE (sE p a x) = KV at g11 gs
    simp [i12, ha, g11, gs, Ob.dat]
  have ef : evS (evF tbl m (n + 2)) m 2 (.for_ (.cons (.v 5) (.cons (.v 6) (.nil))) i12 b12i) [.shr p.d, .shr (.int a), .own (.lst ((seqS p a i).map setD)), .own (.lst ((linesT p a i).map dD)), .own (.dct (kvT [])), s5, s6, s7] = .ok (.nxt, [.shr p.d, .shr (.int a), .own (.lst ((seqS p a (i + 1)).map setD)), .own (.lst ((linesT p a i).map dD)), .own (.dct (kvT (lineT p a i))), s5', s6', s7']) := by
    rw [s_for, ei]
    exact e2
  have hB : ((linesT p a i).map dD).length < lim := by
    rw [List.length_map, linesT_len]
    have := lim_big
    omega
  have eA : (linesT p a (i + 1)).map dD = (linesT p a i).map dD ++ [dD (lineT p a i)] := by rw [linesT_succ, List.map_append]; rfl
  unfold b12w
  rw [seq_nxt ep, seq_nxt ef, eA]
  generalize (linesT p a i).map dD = B at hB ⊢
  generalize (seqS p a (i + 1)).map setD = A
  unfold dD
  simp [hB, Ob.dat]
def Go (p : Play) (a : Int) (i : Nat) : Prop := (∀ j, j < i → j < (seqS p a j).length) ∧ ¬ i < (seqS p a i).length
theorem Go.one {p : Play} {a : Int} {i j : Nat} (h1 : Go p a i) (h2 : Go p a j) : i = j := by
  rcases Nat.lt_trichotomy i j with c | c | c
  · exact absurd (h2.1 i c) h1.2
  · exact c
  · exact absurd (h1.1 j c) h2.2
/-- sets_in -/
theorem f12 {p : Play} (h : Sm p) (hm : 80 < m) {a : Int} : ∃ i, Go p a i ∧ i ≤ 64 ∧ evF tbl m (n + 3) 10 [.shr p.d, .shr (.int a)] = .ok (.shr (.tuple [.list ((seqS p a i).map setD), .list ((linesT p a i).map dD)]), [.shr p.d, .shr (.int a)]) := by
  obtain ⟨ρ', e, i, s4, s5, s6, s7, hg, hi, hρ⟩ := whlGo_ind (c := fun ρ => tst (evE (evF tbl m (n + 2)) (.cmp .lt (.bi .len (.cons false (.var 3) (.nil))) (.bi .len (.cons false (.var 2) (.nil)))) ρ)) (b := fun ρ => evS (evF tbl m (n + 2)) m 2 b12w ρ)
    (fun k ρ => ∃ (i : Nat) (s4 s5 s6 s7 : Sl), i + k = 66 ∧ i ≤ 64 ∧ (∀ j, j < i → j < (seqS p a j).length) ∧ ρ = [.shr p.d, .shr (.int a), .own (.lst ((seqS p a i).map setD)), .own (.lst ((linesT p a i).map dD)), s4, s5, s6, s7])
    (fun ρ => ∃ (i : Nat) (s4 s5 s6 s7 : Sl), Go p a i ∧ i ≤ 64 ∧ ρ = [.shr p.d, .shr (.int a), .own (.lst ((seqS p a i).map setD)), .own (.lst ((linesT p a i).map dD)), s4, s5, s6, s7])
    (fun k ρ ⟨i, s4, s5, s6, s7, hk, hi, hj, hρ⟩ => by
      subst hρ
      have h64 := h.le64 a i
      have ec : tst (evE (evF tbl m (n + 2)) (.cmp .lt (.bi .len (.cons false (.var 3) (.nil))) (.bi .len (.cons false (.var 2) (.nil)))) [.shr p.d, .shr (.int a), .own (.lst ((seqS p a i).map setD)), .own (.lst ((linesT p a i).map dD)), s4, s5, s6, s7]) = .ok (decide (i < (seqS p a i).length), [.shr p.d, .shr (.int a), .own (.lst ((seqS p a i).map setD)), .own (.lst ((linesT p a i).map dD)), s4, s5, s6, s7]) := by
        simp [linesT_len]
      by_cases c : i < (seqS p a i).length
      · rw [decide_eq_true c] at ec
        obtain ⟨s4', s5', s6', s7', e2⟩ := f12w (m := m) (n := n) h hm (List.getElem?_eq_getElem c) (s4 := s4) (s5 := s5) (s6 := s6) (s7 := s7)
        exact .inl ⟨_, ec, _, e2, k - 1, by omega, i + 1, s4', s5', s6', s7', by omega, by omega, fun j hj2 => by
          rcases Nat.lt_succ_iff_lt_or_eq.mp hj2 with q | q
          · exact hj j q
          · rw [q]; exact c, rfl⟩
      · rw [decide_eq_false c] at ec
        exact .inr ⟨_, ec, i, s4, s5, s6, s7, ⟨hj, c⟩, hi, rfl⟩)
    (k := 66) (m := m) (ρ := [.shr p.d, .shr (.int a), .own (.lst ((seqS p a 0).map setD)), .own (.lst ((linesT p a 0).map dD)), .un, .un, .un, .un]) (by omega)
    ⟨0, .un, .un, .un, .un, rfl, by omega, fun j hj => by omega, rfl⟩
  subst hρ
  refine ⟨i, hg, hi, ?_⟩
  have h0 : Rg p [0] := fun x hx => by
    simp at hx
    subst hx
    have := h.ok.l1
    omega
  have g9 := f9 (m := m) (n := n) h.ok (a := a) (S := [0]) h0 (by simp) hm (s := .own (.lst [.int 0])) (.inl rfl)
  rw [call_F (np := 2) (ns := 8) (c := c10) rfl rfl]
  have ep : evS (evF tbl m (n + 2)) m 2 (.par [2, 3] (.cons false (.lst (.cons false (.call 8 (.cons false (.var 0) (.cons false (.lst (.cons false (.cst (.int 0)) (.nil))) (.cons false (.var 1) (.nil))))) (.nil))) (.cons false (.lst (.nil)) (.nil)))) [.shr p.d, .shr (.int a), .un, .un, .un, .un, .un, .un]
      = .ok (.nxt, [.shr p.d, .shr (.int a), .own (.lst ((seqS p a 0).map setD)), .own (.lst ((linesT p a 0).map dD)), .un, .un, .un, .un]) := by
    have : (seqS p a 0).map setD = [.tuple ((clo p a [0]).map .int)] := rfl
    rw [this]
    simp [lim, g9, taks, stAll, stS, linesT]
  have ew : evS (evF tbl m (n + 2)) m 2 (.whl (.cmp .lt (.bi .len (.cons false (.var 3) (.nil))) (.bi .len (.cons false (.var 2) (.nil)))) b12w) [.shr p.d, .shr (.int a), .own (.lst ((seqS p a 0).map setD)), .own (.lst ((linesT p a 0).map dD)), .un, .un, .un, .un]
      = .ok (.nxt, [.shr p.d, .shr (.int a), .own (.lst ((seqS p a i).map setD)), .own (.lst ((linesT p a i).map dD)), s4, s5, s6, s7]) := e
  show (evS (evF tbl m (n + 2)) m 2 (.seq (.par [2, 3] _) (.seq (.whl _ b12w) (.seq (.ret (.tup (.cons false (.var 2) (.cons false (.var 3) (.nil))))) (.skip)))) [.shr p.d, .shr (.int a), .un, .un, .un, .un, .un, .un]).bind _ = _
  rw [seq_nxt ep, seq_nxt ew]
  generalize (seqS p a i).map setD = A
  generalize (linesT p a i).map dD = B
  simp [lim, Ob.dat]
/-! ### _law_cut -/
theorem add_ev (e : Ev) (i : Int) : binR .add (evD e) (.tuple [.int i]) = .ok (.shr (ev4 (e, i))) := rfl
theorem lay_ev4 (z : Ev × Int) : Lay 1 (ev4 z) := .tup fun d hd => by
  simp at hd
  rcases hd with rfl | rfl | rfl | rfl
  · exact lay_es _
  · exact .int _
  · exact .int _
  · exact .int _
theorem lay_line (T : TL) : Lay 2 (.list (T.map ev4)) := .lst fun d hd => by
  obtain ⟨z, _, rfl⟩ := List.mem_map.mp hd
  exact lay_ev4 z
theorem eq_line (T : TL) : cmpR .eq (.list (T.map ev4)) (.list []) = .ok (T.isEmpty) := by
  rw [eq_l ((lay_line T).up (by decide)) (Lay.lst (n := 63) fun d hd => by cases hd)]
  cases T <;> rfl
def b28i : CS := .seq (.ife (.cmp .nin (.var 8) (.var 2)) (.seq (.exp (.mut .append 2 (.cons false (.var 8) (.nil)))) (.skip)) (.skip)) (.seq (.exp (.mut .append 5 (.cons false (.bin .add (.var 7) (.tup (.cons false (.met .index (.var 2) (.cons false (.var 8) (.nil))) (.nil)))) (.nil)))) (.skip))
@[simp] theorem gt_8 (s s1 s2 s3 s4 s5 s6 s7 s8 : Sl) (ρ : Rho) : gt (s :: s1 :: s2 :: s3 :: s4 :: s5 :: s6 :: s7 :: s8 :: ρ) 8 = s8 := rfl
@[simp] theorem gt_9 (s s1 s2 s3 s4 s5 s6 s7 s8 s9 : Sl) (ρ : Rho) : gt (s :: s1 :: s2 :: s3 :: s4 :: s5 :: s6 :: s7 :: s8 :: s9 :: ρ) 9 = s9 := rfl
@[simp] theorem gt_10 (s s1 s2 s3 s4 s5 s6 s7 s8 s9 s10 : Sl) (ρ : Rho) : gt (s :: s1 :: s2 :: s3 :: s4 :: s5 :: s6 :: s7 :: s8 :: s9 :: s10 :: ρ) 10 = s10 := rfl
theorem f28s {Φ : Fenv} {s0 s1 s3 s4 s6 s9 s10 : Sl} {L : SL} {T : TL} {z : Ev × List Int} (hT : T.length < 400) (hL : L.length < 400) :
    evS Φ m 2 b28i [s0, s1, .own (.lst (L.map setD)), s3, s4, .own (.lst (T.map ev4)), s6, .shr (evD z.1), .shr (setD z.2), s9, s10]
      = .ok (.nxt, [s0, s1, .own (.lst ((if z.2 ∈ L then L else L ++ [z.2]).map setD)), s3, s4, .own (.lst ((T ++ [(z.1, ix (if z.2 ∈ L then L else L ++ [z.2]) z.2)]).map ev4)), s6, .shr (evD z.1), .shr (setD z.2), s9, s10]) := by
  have gn := nin_s z.2 L
  have hlim : L.length < lim := by have : (500 : Nat) < lim := by decide
                                   omega
  have hlim2 : (T.map ev4).length < lim := by rw [List.length_map]
                                              have : (500 : Nat) < lim := by decide
                                              omega
  have s2 : evS Φ m 2 (.ife (.cmp .nin (.var 8) (.var 2)) (.seq (.exp (.mut .append 2 (.cons false (.var 8) (.nil)))) (.skip)) (.skip)) [s0, s1, .own (.lst (L.map setD)), s3, s4, .own (.lst (T.map ev4)), s6, .shr (evD z.1), .shr (setD z.2), s9, s10]
      = .ok (.nxt, [s0, s1, .own (.lst ((if z.2 ∈ L then L else L ++ [z.2]).map setD)), s3, s4, .own (.lst (T.map ev4)), s6, .shr (evD z.1), .shr (setD z.2), s9, s10]) := by
    by_cases c : z.2 ∈ L
    · simp [gn, c, Ob.dat]
    · simp [gn, c, hlim, Ob.dat]
  have hC : z.2 ∈ (if z.2 ∈ L then L else L ++ [z.2]) := by
    split
    · assumption
    · simp
  generalize hL2 : (if z.2 ∈ L then L else L ++ [z.2]) = L2 at *
  have gi := ind_s hC
  have ga := add_ev z.1 (ix L2 z.2)
  have et : (T ++ [(z.1, ix L2 z.2)]).map ev4 = T.map ev4 ++ [ev4 (z.1, ix L2 z.2)] := by rw [List.map_append]; rfl
  unfold b28i
  rw [seq_nxt s2, et]
  generalize L2.map setD = A at *
  generalize T.map ev4 = B at *
  generalize evD z.1 = E at *
  generalize setD z.2 = C at *
  simp [gi, ga, lim, Ob.dat] at hlim2 ⊢
  simp [hlim2]
theorem f28i {Φ : Fenv} {s0 s1 s3 s4 s6 s9 s10 : Sl} : ∀ {zs : List (Ev × List Int)} {L : SL} {T : TL} {s7 s8 : Sl}, T.length + zs.length < 400 → L.length + zs.length < 400 →
    ∃ s7' s8', forGo (fun d ρ => (bt 2 (.cons (.v 7) (.cons (.v 8) .nil)) d ρ).bind fun ρ => evS Φ m 2 b28i ρ) (zs.map stD) [s0, s1, .own (.lst (L.map setD)), s3, s4, .own (.lst (T.map ev4)), s6, s7, s8, s9, s10]
      = .ok (.nxt, [s0, s1, .own (.lst ((addG L (zs.map (·.2))).map setD)), s3, s4, .own (.lst ((T ++ zs.map fun z => (z.1, ix (addG L (zs.map (·.2))) z.2)).map ev4)), s6, s7', s8', s9, s10]) := by
  intro zs
  induction zs with
  | nil => exact fun {L T s7 s8} _ _ => ⟨s7, s8, by simp [forGo, addG]⟩
  | cons z zs ih =>
    intro L T s7 s8 h3 h4
    have h3' : T.length + (zs.length + 1) < 400 := by simpa using h3
    have h4' : L.length + (zs.length + 1) < 400 := by simpa using h4
    have e0 := f28s (m := m) (Φ := Φ) (s0 := s0) (s1 := s1) (s3 := s3) (s4 := s4) (s6 := s6) (s9 := s9) (s10 := s10) (L := L) (T := T) (z := z) (by omega) (by omega)
    have hC : z.2 ∈ (if z.2 ∈ L then L else L ++ [z.2]) := by
      split
      · assumption
      · simp
    have hlen : (if z.2 ∈ L then L else L ++ [z.2]).length ≤ L.length + 1 := by
      split
      · omega
      · simp
    have ea : addG L ((z :: zs).map (·.2)) = addG (if z.2 ∈ L then L else L ++ [z.2]) (zs.map (·.2)) := rfl
    rw [ea]
    generalize hL2 : (if z.2 ∈ L then L else L ++ [z.2]) = L2 at *
    obtain ⟨s7', s8', e2⟩ := ih (L := L2) (T := T ++ [(z.1, ix L2 z.2)]) (s7 := .shr (evD z.1)) (s8 := .shr (setD z.2)) (by simp; omega) (by omega)
    refine ⟨s7', s8', ?_⟩
    obtain ⟨M, hM⟩ := addG_pre L2 (zs.map (·.2))
    have ei : ix (addG L2 (zs.map (·.2))) z.2 = ix L2 z.2 := by rw [hM]; exact idx_pre hC
    have et : T ++ (z :: zs).map (fun z => (z.1, ix (addG L2 (zs.map (·.2))) z.2)) = T ++ [(z.1, ix L2 z.2)] ++ zs.map (fun z => (z.1, ix (addG L2 (zs.map (·.2))) z.2)) := by
      rw [List.map_cons, ei]
      simp
    rw [et]
    show forGo _ (stD z :: zs.map stD) _ = _
    unfold forGo
    show (evS Φ m 2 b28i [s0, s1, .own (.lst (L.map setD)), s3, s4, .own (.lst (T.map ev4)), s6, .shr (evD z.1), .shr (setD z.2), s9, s10]).bind _ = _
    rw [e0]
    exact e2
noncomputable def restT (p : Play) (a : Int) (j : Nat) : Bool := match (seqS p a j)[j]? with
  | some x => x.any (isEnd p) || (lineT p a j).isEmpty
  | none => false
noncomputable def toldD (p : Play) (a : Int) (j : Nat) : PyData := .tuple [.bool (restT p a j), .tuple ((lineT p a j).map ev4)]
noncomputable def toldT (p : Play) (a : Int) (i : Nat) : List PyData := (List.range i).map (toldD p a)
theorem toldT_succ (p : Play) (a : Int) (i : Nat) : toldT p a (i + 1) = toldT p a i ++ [toldD p a i] := by
  unfold toldT
  rw [List.range_succ, List.map_append]
  rfl
theorem toldT_len (p : Play) (a : Int) (i : Nat) : (toldT p a i).length = i := by unfold toldT; simp
def e28x : CE := .idx (.var 2) (.bi .len (.cons false (.var 3) (.nil)))
def b28a : CS := .par [4, 5] (.cons false (.bin .add (.var 4) (.cst (.int 1))) (.cons false (.lst (.nil)) (.nil)))
def b28b : CS := .asg (.v 6) (.call 21 (.cons false (.var 0) (.cons false e28x (.cons false (.var 1) (.nil)))))
def b28f : CS := .for_ (.cons (.v 7) (.cons (.v 8) (.nil))) (.ex (.var 6)) b28i
def b28d : CS := .asg (.v 9) (.lc [10] (.v 10) (.ex e28x) (.isN (.idx (.idx (.var 0) (.cst (.int 1))) (.var 10))) (.var 10))
def e28r : CE := .or (.cmp .ne (.var 9) (.lst (.nil))) (.cmp .eq (.var 5) (.lst (.nil)))
def b28e : CS := .exp (.mut .append 3 (.cons false (.tup (.cons false e28r (.cons false (.bi .tuple (.cons false (.var 5) (.nil))) (.nil)))) (.nil)))
def b28w : CS := .seq b28a (.seq b28b (.seq b28f (.seq b28d (.seq b28e (.skip)))))
theorem f28r {Φ : Fenv} {s0 s1 s2 s3 s4 s6 s7 s8 s10 : Sl} (f : List Int) (T : TL) : evE Φ e28r [s0, s1, s2, s3, s4, .own (.lst (T.map ev4)), s6, s7, s8, .own (.lst (f.map .int)), s10]
    = .ok (.val (.shr (.bool (!decide (f = []) || T.isEmpty))), [s0, s1, s2, s3, s4, .own (.lst (T.map ev4)), s6, s7, s8, .own (.lst (f.map .int)), s10]) := by
  have h1 := ne_l0 f
  have h2 := eq_line T
  unfold e28r
  generalize f.map PyData.int = F at *
  generalize T.map ev4 = E at *
  by_cases c : f = []
  · simp [h1, h2, c, lim, Ob.dat]
  · simp [h1, c, lim, Ob.dat]
theorem f28w {p : Play} (h : Sm p) (hm : 80 < m) {a : Int} {i : Nat} {x : List Int} (hx : (seqS p a i)[i]? = some x) {s5 s6 s7 s8 s9 : Sl} :
    ∃ s5' s6' s7' s8' s9', evS (evF tbl m (n + 3)) m 2 b28w [.shr p.d, .shr (.int a), .own (.lst ((seqS p a i).map setD)), .own (.lst (toldT p a i)), .shr (.int (i : Nat)), s5, s6, s7, s8, s9, .un]
      = .ok (.nxt, [.shr p.d, .shr (.int a), .own (.lst ((seqS p a (i + 1)).map setD)), .own (.lst (toldT p a (i + 1))), .shr (.int ((i + 1 : Nat) : Int)), s5', s6', s7', s8', s9', .un]) := by
  obtain ⟨hr, hl⟩ := h.at hx
  have gd := sE_good h.ok h.few (a := a) hr hl
  have pm := sortP_perm (sE p a x)
  have hi : i < (seqS p a i).length := (List.getElem?_eq_some_iff.mp hx).1
  have h64 := h.le64 a i
  have hlen : (stps p a x).length ≤ 16 := by
    unfold stps
    rw [List.length_map, pm.length_eq]
    exact gd.len
  have g27 := f27 (m := m) (n := n) h.ok h.few (a := a) hr hl (by omega)
  have ha : ∀ L : SL, L[i]? = some x → L2.atI (L.map setD) ((((toldT p a i)).length : Nat) : Int) = some (setD x) := fun L e => atN (by rw [toldT_len, List.getElem?_map, e]; rfl)
  have ex : ∀ (L : SL) (s4 s5 s6 s7 s8 s9 : Sl), L[i]? = some x → evE (evF tbl m (n + 3)) e28x [.shr p.d, .shr (.int a), .own (.lst (L.map setD)), .own (.lst (toldT p a i)), s4, s5, s6, s7, s8, s9, .un] = .ok (.val (.shr (setD x)), [.shr p.d, .shr (.int a), .own (.lst (L.map setD)), .own (.lst (toldT p a i)), s4, s5, s6, s7, s8, s9, .un]) := fun L s4 s5 s6 s7 s8 s9 e => by
    have := ha L e
    unfold e28x
    generalize L.map setD = A at *
    simp [this, Ob.dat]
  obtain ⟨s7', s8', e2⟩ := f28i (m := m) (Φ := evF tbl m (n + 3)) (s0 := .shr p.d) (s1 := .shr (.int a)) (s3 := .own (.lst (toldT p a i))) (s4 := .shr (.int ((i + 1 : Nat) : Int))) (s6 := .shr (.list ((stps p a x).map stD))) (s9 := s9) (s10 := .un) (zs := stps p a x) (L := seqS p a i) (T := []) (s7 := s7) (s8 := s8) (by simp; omega) (by omega)
  have et : (stps p a x).map (·.2) = tg p a x := rfl
  rw [et, ← seqS_succ hx] at e2
  have el : [] ++ (stps p a x).map (fun z => (z.1, ix (seqS p a (i + 1)) z.2)) = lineT p a i := by
    rw [lineT_at hx]
    rfl
  rw [el] at e2
  have hx2 : (seqS p a (i + 1))[i]? = some x := by
    obtain ⟨M, hM⟩ := addG_pre (seqS p a i) (tg p a x)
    rw [seqS_succ hx, hM, List.getElem?_append_left hi]
    exact hx
  have e1 : (i : Int) + 1 = ((i + 1 : Nat) : Int) := by omega
  have sa : evS (evF tbl m (n + 3)) m 2 b28a [.shr p.d, .shr (.int a), .own (.lst ((seqS p a i).map setD)), .own (.lst (toldT p a i)), .shr (.int (i : Nat)), s5, s6, s7, s8, s9, .un]
      = .ok (.nxt, [.shr p.d, .shr (.int a), .own (.lst ((seqS p a i).map setD)), .own (.lst (toldT p a i)), .shr (.int ((i + 1 : Nat) : Int)), .own (.lst (([] : TL).map ev4)), s6, s7, s8, s9, .un]) := by
    rw [← e1]
    rfl
  have sb : evS (evF tbl m (n + 3)) m 2 b28b [.shr p.d, .shr (.int a), .own (.lst ((seqS p a i).map setD)), .own (.lst (toldT p a i)), .shr (.int ((i + 1 : Nat) : Int)), .own (.lst (([] : TL).map ev4)), s6, s7, s8, s9, .un]
      = .ok (.nxt, [.shr p.d, .shr (.int a), .own (.lst ((seqS p a i).map setD)), .own (.lst (toldT p a i)), .shr (.int ((i + 1 : Nat) : Int)), .own (.lst (([] : TL).map ev4)), .own (.lst ((stps p a x).map stD)), s7, s8, s9, .un]) := by
    have := ex (seqS p a i) (.shr (.int ((i + 1 : Nat) : Int))) (.own (.lst (([] : TL).map ev4))) s6 s7 s8 s9 hx
    rw [show PyData.tuple (x.map .int) = setD x from rfl] at g27
    unfold b28b
    generalize (seqS p a i).map setD = A at *
    generalize setD x = X at *
    generalize (stps p a x).map stD = Z at *
    generalize ([] : TL).map ev4 = E0 at *
    generalize PyData.int ((i + 1 : Nat) : Int) = c4 at *
    simp [this, g27, stS]
  have sf : evS (evF tbl m (n + 3)) m 2 b28f [.shr p.d, .shr (.int a), .own (.lst ((seqS p a i).map setD)), .own (.lst (toldT p a i)), .shr (.int ((i + 1 : Nat) : Int)), .own (.lst (([] : TL).map ev4)), .own (.lst ((stps p a x).map stD)), s7, s8, s9, .un]
      = .ok (.nxt, [.shr p.d, .shr (.int a), .own (.lst ((seqS p a (i + 1)).map setD)), .own (.lst (toldT p a i)), .shr (.int ((i + 1 : Nat) : Int)), .own (.lst ((lineT p a i).map ev4)), .shr (.list ((stps p a x).map stD)), s7', s8', s9, .un]) := by
    unfold b28f
    rw [s_for]
    exact e2
  have sd : evS (evF tbl m (n + 3)) m 2 b28d [.shr p.d, .shr (.int a), .own (.lst ((seqS p a (i + 1)).map setD)), .own (.lst (toldT p a i)), .shr (.int ((i + 1 : Nat) : Int)), .own (.lst ((lineT p a i).map ev4)), .shr (.list ((stps p a x).map stD)), s7', s8', s9, .un]
      = .ok (.nxt, [.shr p.d, .shr (.int a), .own (.lst ((seqS p a (i + 1)).map setD)), .own (.lst (toldT p a i)), .shr (.int ((i + 1 : Nat) : Int)), .own (.lst ((lineT p a i).map ev4)), .shr (.list ((stps p a x).map stD)), s7', s8', .own (.lst ((x.filter (isEnd p)).map .int)), .un]) := by
    have := ex (seqS p a (i + 1)) (.shr (.int ((i + 1 : Nat) : Int))) (.own (.lst ((lineT p a i).map ev4))) (.shr (.list ((stps p a x).map stD))) s7' s8' s9 hx2
    unfold b28d
    generalize (seqS p a (i + 1)).map setD = A at *
    generalize (lineT p a i).map ev4 = E at *
    generalize (stps p a x).map stD = Z at *
    generalize PyData.int ((i + 1 : Nat) : Int) = c4 at *
    have hlc : lcGo (lcT (evF tbl m (n + 3)) (.v 10) (.isN (.idx (.idx (.var 0) (.cst (.int 1))) (.var 10))) (.var 10) [10]) (x.map .int) [] [.shr p.d, .shr (.int a), .own (.lst A), .own (.lst (toldT p a i)), .shr c4, .own (.lst E), .shr (.list Z), s7', s8', s9, .un]
        = .ok ((x.filter (isEnd p)).map .int, [.shr p.d, .shr (.int a), .own (.lst A), .own (.lst (toldT p a i)), .shr c4, .own (.lst E), .shr (.list Z), s7', s8', s9, .un]) := by
      refine lc_flt (fun y hy => ?_) (by have := lim_big; omega)
      have e := at_sc (hr y hy)
      unfold isEnd
      cases hq : scAt p y with
      | none => rw [hq] at e; simp [lcT, bt, cnd, CE.isNil, Play.d, at1, e, scD, isNo, wipeR]
      | some q => rw [hq] at e; simp [lcT, bt, cnd, CE.isNil, Play.d, at1, e, scD, isNo, wipeR]
    unfold setD at this
    simp [this, wipeR, hlc, backR, stS]
  have er : toldT p a (i + 1) = toldT p a i ++ [toldD p a i] := toldT_succ p a i
  have e3 : (!decide (x.filter (isEnd p) = []) || (lineT p a i).isEmpty) = restT p a i := by
    unfold restT
    rw [hx]
    show _ = (x.any (isEnd p) || (lineT p a i).isEmpty)
    congr 1
    rw [Bool.eq_iff_iff, Bool.not_eq_true', decide_eq_false_iff_not, List.any_eq_true, List.filter_eq_nil_iff]
    constructor
    · intro hn
      refine Classical.byContradiction fun hc => hn fun y hy hq => hc ⟨y, hy, hq⟩
    · rintro ⟨y, hy, hq⟩ hn
      exact hn y hy hq
  have fr := f28r (Φ := evF tbl m (n + 3)) (s0 := .shr p.d) (s1 := .shr (.int a)) (s2 := .own (.lst ((seqS p a (i + 1)).map setD))) (s3 := .own (.lst (toldT p a i))) (s4 := .shr (.int ((i + 1 : Nat) : Int))) (s6 := .shr (.list ((stps p a x).map stD))) (s7 := s7') (s8 := s8') (s10 := .un) (x.filter (isEnd p)) (lineT p a i)
  rw [e3] at fr
  have hB : (toldT p a i).length < lim := by
    rw [toldT_len]
    have := lim_big
    omega
  have se : evS (evF tbl m (n + 3)) m 2 (.seq b28e (.skip)) [.shr p.d, .shr (.int a), .own (.lst ((seqS p a (i + 1)).map setD)), .own (.lst (toldT p a i)), .shr (.int ((i + 1 : Nat) : Int)), .own (.lst ((lineT p a i).map ev4)), .shr (.list ((stps p a x).map stD)), s7', s8', .own (.lst ((x.filter (isEnd p)).map .int)), .un]
      = .ok (.nxt, [.shr p.d, .shr (.int a), .own (.lst ((seqS p a (i + 1)).map setD)), .own (.lst (toldT p a (i + 1))), .shr (.int ((i + 1 : Nat) : Int)), .own (.lst ((lineT p a i).map ev4)), .shr (.list ((stps p a x).map stD)), s7', s8', .own (.lst ((x.filter (isEnd p)).map .int)), .un]) := by
    rw [er]
    unfold b28e toldD
    generalize (seqS p a (i + 1)).map setD = A at *
    generalize (lineT p a i).map ev4 = E at *
    generalize (stps p a x).map stD = Z at *
    generalize (x.filter (isEnd p)).map PyData.int = F at *
    generalize toldT p a i = B at *
    generalize PyData.int ((i + 1 : Nat) : Int) = c4 at *
    simp [fr, tup_l, lim, Ob.dat] at hB ⊢
    simp [hB]
  refine ⟨.own (.lst ((lineT p a i).map ev4)), .shr (.list ((stps p a x).map stD)), s7', s8', .own (.lst ((x.filter (isEnd p)).map .int)), ?_⟩
  unfold b28w
  rw [seq_nxt sa, seq_nxt sb, seq_nxt sf, seq_nxt sd]
  exact se
def c28c : CE := .and (.cmp .lt (.bi .len (.cons false (.var 3) (.nil))) (.bi .len (.cons false (.var 2) (.nil)))) (.cmp .lt (.var 4) (.cst (.int 70)))
theorem f28 {p : Play} (h : Sm p) (hm : 80 < m) {a : Int} : ∃ i, Go p a i ∧ i ≤ 64 ∧ evF tbl m (n + 4) 22 [.shr p.d, .shr (.int a)] = .ok (.shr (.tuple [.list ((seqS p a i).map setD), .tuple (toldT p a i)]), [.shr p.d, .shr (.int a)]) := by
  obtain ⟨ρ', e, i, s5, s6, s7, s8, s9, hg, hi, hρ⟩ := whlGo_ind (c := fun ρ => tst (evE (evF tbl m (n + 3)) c28c ρ)) (b := fun ρ => evS (evF tbl m (n + 3)) m 2 b28w ρ)
    (fun k ρ => ∃ (i : Nat) (s5 s6 s7 s8 s9 : Sl), i + k = 66 ∧ i ≤ 64 ∧ (∀ j, j < i → j < (seqS p a j).length) ∧ ρ = [.shr p.d, .shr (.int a), .own (.lst ((seqS p a i).map setD)), .own (.lst (toldT p a i)), .shr (.int (i : Nat)), s5, s6, s7, s8, s9, .un])
    (fun ρ => ∃ (i : Nat) (s5 s6 s7 s8 s9 : Sl), Go p a i ∧ i ≤ 64 ∧ ρ = [.shr p.d, .shr (.int a), .own (.lst ((seqS p a i).map setD)), .own (.lst (toldT p a i)), .shr (.int (i : Nat)), s5, s6, s7, s8, s9, .un])
    (fun k ρ ⟨i, s5, s6, s7, s8, s9, hk, hi, hj, hρ⟩ => by
      subst hρ
      have h64 := h.le64 a i
      have hi70 : ((i : Nat) : Int) < 70 := by omega
      have ec : tst (evE (evF tbl m (n + 3)) c28c [.shr p.d, .shr (.int a), .own (.lst ((seqS p a i).map setD)), .own (.lst (toldT p a i)), .shr (.int (i : Nat)), s5, s6, s7, s8, s9, .un]) = .ok (decide (i < (seqS p a i).length), [.shr p.d, .shr (.int a), .own (.lst ((seqS p a i).map setD)), .own (.lst (toldT p a i)), .shr (.int (i : Nat)), s5, s6, s7, s8, s9, .un]) := by
        by_cases c : i < (seqS p a i).length <;> simp [c28c, toldT_len, c, hi70]
      by_cases c : i < (seqS p a i).length
      · rw [decide_eq_true c] at ec
        obtain ⟨s5', s6', s7', s8', s9', e2⟩ := f28w (m := m) (n := n) h hm (List.getElem?_eq_getElem c) (s5 := s5) (s6 := s6) (s7 := s7) (s8 := s8) (s9 := s9)
        exact .inl ⟨_, ec, _, e2, k - 1, by omega, i + 1, s5', s6', s7', s8', s9', by omega, by omega, fun j hj2 => by
          rcases Nat.lt_succ_iff_lt_or_eq.mp hj2 with q | q
          · exact hj j q
          · rw [q]; exact c, rfl⟩
      · rw [decide_eq_false c] at ec
        exact .inr ⟨_, ec, i, s5, s6, s7, s8, s9, ⟨hj, c⟩, hi, rfl⟩)
    (k := 66) (m := m) (ρ := [.shr p.d, .shr (.int a), .own (.lst ((seqS p a 0).map setD)), .own (.lst (toldT p a 0)), .shr (.int (0 : Nat)), .un, .un, .un, .un, .un, .un]) (by omega)
    ⟨0, .un, .un, .un, .un, .un, rfl, by omega, fun j hj => by omega, rfl⟩
  subst hρ
  refine ⟨i, hg, hi, ?_⟩
  have h0 : Rg p [0] := fun x hx => by
    simp at hx
    subst hx
    have := h.ok.l1
    omega
  have g26 := f26 (m := m) (n := n + 1) h.ok (a := a) (S := [0]) h0 (by simp) (by simp) (by omega) (s := .own (.lst [.int 0])) (.inl rfl)
  simp only [Nat.add_assoc, Nat.reduceAdd] at g26
  rw [call_F (np := 2) (ns := 11) (c := c22) rfl rfl]
  have ep : evS (evF tbl m (n + 3)) m 2 (.par [2, 3, 4] (.cons false (.lst (.cons false (.call 20 (.cons false (.var 0) (.cons false (.lst (.cons false (.cst (.int 0)) (.nil))) (.cons false (.var 1) (.nil))))) (.nil))) (.cons false (.lst (.nil)) (.cons false (.cst (.int 0)) (.nil))))) [.shr p.d, .shr (.int a), .un, .un, .un, .un, .un, .un, .un, .un, .un]
      = .ok (.nxt, [.shr p.d, .shr (.int a), .own (.lst ((seqS p a 0).map setD)), .own (.lst (toldT p a 0)), .shr (.int (0 : Nat)), .un, .un, .un, .un, .un, .un]) := by
    have : (seqS p a 0).map setD = [.tuple ((clo p a [0]).map .int)] := rfl
    rw [this]
    simp [lim, g26, taks, stAll, stS, toldT]
  have ew : evS (evF tbl m (n + 3)) m 2 (.whl c28c b28w) [.shr p.d, .shr (.int a), .own (.lst ((seqS p a 0).map setD)), .own (.lst (toldT p a 0)), .shr (.int (0 : Nat)), .un, .un, .un, .un, .un, .un]
      = .ok (.nxt, [.shr p.d, .shr (.int a), .own (.lst ((seqS p a i).map setD)), .own (.lst (toldT p a i)), .shr (.int (i : Nat)), s5, s6, s7, s8, s9, .un]) := e
  show (evS (evF tbl m (n + 3)) m 2 (.seq (.par [2, 3, 4] _) (.seq (.whl c28c b28w) (.seq (.ret (.tup (.cons false (.var 2) (.cons false (.bi .tuple (.cons false (.var 3) (.nil))) (.nil))))) (.skip)))) [.shr p.d, .shr (.int a), .un, .un, .un, .un, .un, .un, .un, .un, .un]).bind _ = _
  rw [seq_nxt ep, seq_nxt ew]
  generalize (seqS p a i).map setD = A
  generalize toldT p a i = B
  simp [lim, Ob.dat, tup_l]
/-! ### cut_in -/
theorem sortD_ev4 {T : TL} (h : T.Pairwise fun z w => leE z.1 w.1 = true ∧ z.1 ≠ w.1) : biR .sorted [.list (T.map ev4)] = .ok (.own (.lst (T.map ev4))) ∨ ¬ T.length ≤ lim := by
  by_cases hl : T.length ≤ lim
  · refine .inl ?_
    have ho := okSort_by ev4 (fun a b => rfl) (fun a => rfl) (fun a => Nat.le_trans (lay_ev4 a).2 (by decide)) T hl
    have es : sortD (T.map ev4) = T.map ev4 := by
      unfold sortD
      refine List.mergeSort_of_pairwise ?_
      rw [List.pairwise_map]
      refine List.Pairwise.imp ?_ h
      rintro z w ⟨h1, h2⟩
      unfold leD
      rw [lt_ev4]
      have h3 : ltE w.1 z.1 = false := by
        unfold leE at h1
        simpa using h1
      have h4 : ¬ w.1 = z.1 := fun q => h2 q.symm
      simp [h3, h4]
    show Res.guard (okSort (T.map ev4)) _ = _
    rw [ho, es]
    rfl
  · exact .inr hl
theorem lineT_up {p : Play} (h : Sm p) {a : Int} {i : Nat} : (lineT p a i).Pairwise (fun z w => leE z.1 w.1 = true ∧ z.1 ≠ w.1) ∧ (lineT p a i).length ≤ 16 := by
  cases hx : (seqS p a i)[i]? with
  | none =>
    have : lineT p a i = [] := by unfold lineT; rw [hx]
    rw [this]
    exact ⟨.nil, by simp⟩
  | some x =>
    obtain ⟨hr, hl⟩ := h.at hx
    have gd := sE_good h.ok h.few (a := a) hr hl
    have pm := sortP_perm (sE p a x)
    rw [lineT_at hx]
    unfold stps
    rw [List.map_map]
    refine ⟨?_, by rw [List.length_map, pm.length_eq]; exact gd.len⟩
    rw [List.pairwise_map]
    have nd2 : ((sortP (sE p a x)).map (·.1)).Nodup := (pm.map (·.1)).nodup_iff.mpr gd.nd
    have nd3 := List.nodup_iff_pairwise_ne.mp nd2
    rw [List.pairwise_map] at nd3
    exact List.Pairwise.imp (fun ⟨h1, h2⟩ => ⟨h1, h2⟩) ((sortP_up _).and nd3)
@[simp] theorem l_star (Φ : Fenv) (a es : CE) (ρ : Rho) : evL Φ (.cons true a es) ρ = (evE Φ a ρ).bind fun p => (stl p.2 p.1).bind fun x => (evL Φ es x.2).bind fun q => match x.1 with
    | .list ds => .ok (ds ++ q.1, q.2)
    | .tuple ds => .ok (ds ++ q.1, q.2)
    | _ => .bad := rfl
@[simp] theorem i_itm (Φ : Fenv) (a : CE) (ρ : Rho) : evI Φ (.itm a) ρ = (evE Φ a ρ).bind fun p => (stl p.2 p.1).bind fun x => match x.1 with
    | .dict kvs => .ok (kvs.map fun q => .tuple [q.1, q.2], x.2)
    | _ => .bad := rfl
theorem seqS_pre (p : Play) (a : Int) (i : Nat) : ∀ d, ∃ M, seqS p a (i + d) = seqS p a i ++ M
  | 0 => ⟨[], by simp⟩
  | d + 1 => by
    obtain ⟨M, e⟩ := seqS_pre p a i d
    cases hq : (seqS p a (i + d))[i + d]? with
    | some x =>
      obtain ⟨M2, e2⟩ := addG_pre (seqS p a (i + d)) (tg p a x)
      exact ⟨M ++ M2, (seqS_succ hq).trans (by rw [e2, e, List.append_assoc])⟩
    | none =>
      refine ⟨M, Eq.trans ?_ e⟩
      show (match (seqS p a (i + d))[i + d]? with | some x => addG (seqS p a (i + d)) (tg p a x) | none => seqS p a (i + d)) = _
      rw [hq]
theorem Go.len {p : Play} {a : Int} {i : Nat} (h : Go p a i) : (seqS p a i).length = i := by
  obtain ⟨h1, h2⟩ := h
  cases i with
  | zero => exact absurd (by simp [seqS]) h2
  | succ i =>
    have h3 := h1 i (Nat.lt_succ_self i)
    obtain ⟨M, e⟩ := seqS_pre p a i 1
    have h4 : (seqS p a i).length ≤ (seqS p a (i + 1)).length := by rw [e, List.length_append]; omega
    omega
theorem Go.at {p : Play} {a : Int} {i j : Nat} (h : Go p a i) (hj : j < i) : ∃ x, (seqS p a j)[j]? = some x ∧ (seqS p a i)[j]? = some x := by
  have h1 := h.1 j hj
  refine ⟨(seqS p a j)[j], List.getElem?_eq_getElem h1, ?_⟩
  obtain ⟨M, e⟩ := seqS_pre p a j (i - j)
  rw [show j + (i - j) = i by omega] at e
  rw [e, List.getElem?_append_left h1, List.getElem?_eq_getElem h1]
theorem linesT_at (p : Play) (a : Int) {i j : Nat} (hj : j < i) : (linesT p a i)[j]? = some (lineT p a j) := by
  unfold linesT
  rw [List.getElem?_map, List.getElem?_range hj]
  rfl
def e16r : CE := .or (.bi .any (.cons false (.lc [8] (.v 8) (.ex (.var 6)) (.nil) (.isN (.idx (.idx (.var 0) (.cst (.int 1))) (.var 8)))) (.nil))) (.cmp .eq (.idx (.var 3) (.var 5)) (.dct (.nil)))
def e16s : CE := .bi .sorted (.cons false (.lc [9, 10] (.cons (.v 9) (.cons (.v 10) (.nil))) (.itm (.idx (.var 3) (.var 5))) (.nil) (.tup (.cons true (.var 9) (.cons false (.var 10) (.nil))))) (.nil))
def b16 : CS := .seq (.asg (.v 7) e16r) (.seq (.exp (.mut .append 4 (.cons false (.tup (.cons false (.var 7) (.cons false (.bi .tuple (.cons false e16s (.nil))) (.nil)))) (.nil)))) (.skip))
theorem g16b {Φ : Fenv} {p : Play} (h : Sm p) {a : Int} {i j : Nat} (hg : Go p a i) (hj : j < i) {x : List Int} (hx : (seqS p a j)[j]? = some x) {s1 s2 s7 : Sl} :
    evS Φ m 2 b16 [.shr p.d, s1, s2, .shr (.list ((linesT p a i).map dD)), .own (.lst (toldT p a j)), .shr (.int (j : Nat)), .shr (setD x), s7, .un, .un, .un]
      = .ok (.nxt, [.shr p.d, s1, s2, .shr (.list ((linesT p a i).map dD)), .own (.lst (toldT p a (j + 1))), .shr (.int (j : Nat)), .shr (setD x), .shr (.bool (restT p a j)), .un, .un, .un]) := by
  obtain ⟨hr, hl⟩ := h.at hx
  obtain ⟨up, few⟩ := lineT_up h (a := a) (i := j)
  have h64 : i ≤ 64 := by have := h.le64 a i; rw [hg.len] at this; exact this
  have ha : L2.atI ((linesT p a i).map dD) (j : Nat) = some (dD (lineT p a j)) := atN (by rw [List.getElem?_map, linesT_at p a hj]; rfl)
  generalize (linesT p a i).map dD = Z at *
  have hlc : lcGo (lcT Φ (.v 8) .nil (.isN (.idx (.idx (.var 0) (.cst (.int 1))) (.var 8))) [8]) (x.map .int) [] [.shr p.d, s1, s2, .shr (.list Z), .own (.lst (toldT p a j)), .shr (.int (j : Nat)), .shr (setD x), s7, .un, .un, .un]
      = .ok (x.map fun y => .bool (isEnd p y), [.shr p.d, s1, s2, .shr (.list Z), .own (.lst (toldT p a j)), .shr (.int (j : Nat)), .shr (setD x), s7, .un, .un, .un]) := by
    refine lc_mapg (fun y hy => ?_) (by have := lim_big; omega)
    have e := at_sc (hr y hy)
    simp [lcT, bt, Play.d, at1, e, isNo_sc, isEnd, wipeR]
  have han := any_b x (isEnd p)
  have eqd : cmpR .eq (dD (lineT p a j)) (.dict []) = .ok (lineT p a j).isEmpty := by
    show Res.ok (kvT (lineT p a j)).isEmpty = _
    unfold kvT
    rw [List.isEmpty_map]
  have er : evE Φ e16r [.shr p.d, s1, s2, .shr (.list Z), .own (.lst (toldT p a j)), .shr (.int (j : Nat)), .shr (setD x), s7, .un, .un, .un] = .ok (.val (.shr (.bool (restT p a j))), [.shr p.d, s1, s2, .shr (.list Z), .own (.lst (toldT p a j)), .shr (.int (j : Nat)), .shr (setD x), s7, .un, .un, .un]) := by
    have e3 : restT p a j = (x.any (isEnd p) || (lineT p a j).isEmpty) := by unfold restT; rw [hx]
    rw [e3]
    unfold e16r
    unfold setD at hlc ⊢
    generalize toldT p a j = B at *
    generalize dD (lineT p a j) = D at *
    by_cases c : x.any (isEnd p) = true
    · rw [c] at han
      simp [wipeR, hlc, backR, han, c]
    · have c' : x.any (isEnd p) = false := by simpa using c
      rw [c'] at han
      simp [wipeR, hlc, backR, han, c', ha, eqd, Ob.dat]
  have s1' : evS Φ m 2 (.asg (.v 7) e16r) [.shr p.d, s1, s2, .shr (.list Z), .own (.lst (toldT p a j)), .shr (.int (j : Nat)), .shr (setD x), s7, .un, .un, .un] = .ok (.nxt, [.shr p.d, s1, s2, .shr (.list Z), .own (.lst (toldT p a j)), .shr (.int (j : Nat)), .shr (setD x), .shr (.bool (restT p a j)), .un, .un, .un]) := by
    rw [s_asg, er]
    rfl
  have hlc2 : lcGo (lcT Φ (.cons (.v 9) (.cons (.v 10) (.nil))) .nil (.tup (.cons true (.var 9) (.cons false (.var 10) (.nil)))) [9, 10]) ((lineT p a j).map fun z => .tuple [evD z.1, .int z.2]) [] [.shr p.d, s1, s2, .shr (.list Z), .own (.lst (toldT p a j)), .shr (.int (j : Nat)), .shr (setD x), .shr (.bool (restT p a j)), .un, .un, .un]
      = .ok ((lineT p a j).map ev4, [.shr p.d, s1, s2, .shr (.list Z), .own (.lst (toldT p a j)), .shr (.int (j : Nat)), .shr (setD x), .shr (.bool (restT p a j)), .un, .un, .un]) := by
    refine lc_mapg (fun z hz => ?_) (by have := lim_big; omega)
    simp [lcT, bt, bts, evD, wipeR, lim, ev4, evS']
  have hso := (sortD_ev4 up).resolve_right fun c => c (Nat.le_trans few (by decide))
  have es : evE Φ e16s [.shr p.d, s1, s2, .shr (.list Z), .own (.lst (toldT p a j)), .shr (.int (j : Nat)), .shr (setD x), .shr (.bool (restT p a j)), .un, .un, .un] = .ok (.val (.own (.lst ((lineT p a j).map ev4))), [.shr p.d, s1, s2, .shr (.list Z), .own (.lst (toldT p a j)), .shr (.int (j : Nat)), .shr (setD x), .shr (.bool (restT p a j)), .un, .un, .un]) := by
    have ek : (kvT (lineT p a j)).map (fun q => PyData.tuple [q.1, q.2]) = (lineT p a j).map fun z => .tuple [evD z.1, .int z.2] := by
      unfold kvT
      rw [List.map_map]
      rfl
    unfold dD at ha
    unfold e16s
    generalize toldT p a j = B at *
    generalize kvT (lineT p a j) = D at *
    generalize (lineT p a j).map ev4 = E at *
    simp [ha, ek, wipeR, hlc2, backR, hso, Ob.dat]
  have hB : (toldT p a j).length < lim := by
    rw [toldT_len]
    have := lim_big
    omega
  unfold b16
  rw [seq_nxt s1', toldT_succ]
  unfold toldD
  generalize toldT p a j = B at *
  generalize (lineT p a j).map ev4 = E at *
  simp [es, tup_l, lim, Ob.dat] at hB ⊢
  simp [hB]
theorem enuD_at : ∀ {ds : List PyData} {k i : Nat} {d : PyData}, (enuD k ds)[i]? = some d → ∃ z, ds[i]? = some z ∧ d = .tuple [.int (k + i : Nat), z]
  | [], _, _, _, h => by simp [enuD] at h
  | x :: ds, k, 0, d, h => by
    simp [enuD] at h
    exact ⟨x, rfl, h.symm⟩
  | x :: ds, k, i + 1, d, h => by
    obtain ⟨z, h1, h2⟩ := enuD_at (ds := ds) (k := k + 1) (i := i) (by simpa [enuD] using h)
    exact ⟨z, by simpa using h1, by rw [h2, show k + 1 + i = k + (i + 1) by omega]⟩
theorem enuD_len : ∀ (ds : List PyData) (k : Nat), (enuD k ds).length = ds.length
  | [], _ => rfl
  | _ :: ds, k => by simp [enuD, enuD_len ds (k + 1)]
open Classical in
noncomputable def gi (p : Play) (a : Int) : Nat := if h : ∃ i, Go p a i then Classical.choose h else 0
open Classical in
theorem gi_ok {p : Play} (h : Sm p) (a : Int) : Go p a (gi p a) := by
  obtain ⟨i, hg, _⟩ := f12 (m := 100) (n := 0) h (by omega) (a := a)
  unfold gi
  rw [dif_pos ⟨i, hg⟩]
  exact Classical.choose_spec (⟨i, hg⟩ : ∃ i, Go p a i)
theorem gi_le {p : Play} (h : Sm p) (a : Int) : gi p a ≤ 64 := by
  have h1 := h.le64 a (gi p a)
  rw [(gi_ok h a).len] at h1
  exact h1
noncomputable def setsD (p : Play) (a : Int) : List PyData := (seqS p a (gi p a)).map setD
noncomputable def lnsD (p : Play) (a : Int) : List PyData := (linesT p a (gi p a)).map dD
noncomputable def cutL (p : Play) (a : Int) : List PyData := toldT p a (gi p a)
theorem setsD_len {p : Play} (h : Sm p) (a : Int) : (setsD p a).length = gi p a := by unfold setsD; rw [List.length_map, (gi_ok h a).len]
theorem cutL_len (p : Play) (a : Int) : (cutL p a).length = gi p a := toldT_len _ _ _
theorem f12' {p : Play} (h : Sm p) (hm : 80 < m) {a : Int} : evF tbl m (n + 3) 10 [.shr p.d, .shr (.int a)] = .ok (.shr (.tuple [.list (setsD p a), .list (lnsD p a)]), [.shr p.d, .shr (.int a)]) := by
  obtain ⟨i, hg, _, e⟩ := f12 (m := m) (n := n) h hm (a := a)
  have := (gi_ok h a).one hg
  unfold setsD lnsD
  rw [this]
  exact e
theorem f28' {p : Play} (h : Sm p) (hm : 80 < m) {a : Int} : evF tbl m (n + 4) 22 [.shr p.d, .shr (.int a)] = .ok (.shr (.tuple [.list (setsD p a), .tuple (cutL p a)]), [.shr p.d, .shr (.int a)]) := by
  obtain ⟨i, hg, _, e⟩ := f28 (m := m) (n := n) h hm (a := a)
  have := (gi_ok h a).one hg
  unfold setsD cutL
  rw [this]
  exact e
/-! ### who says and hears -/
def evK (z : Ev × Int) : L2.Key := .inr (if z.1.1 = true then "say" else "hear")
def nbT (T : TL) : Int := (nb (T.map evK).reverse : Nat)
theorem keys_t (T : TL) : keysOf (T.map fun z => evS' z.1.1) = some (T.map evK) := by
  induction T with
  | nil => rfl
  | cons z T ih =>
    show (keysOf (T.map fun z => evS' z.1.1)).map _ = _
    rw [ih]
    rfl
theorem lset_t (T : TL) (h : T.length < 64) : biR .lset [.list (T.map fun z => evS' z.1.1)] = .ok (.shr (.int (nbT T))) := by
  show (Res.get (keysOf _)).bind _ = _
  rw [keys_t]
  show Res.guard (decide ((T.map evK).length < 64)) _ = _
  rw [List.length_map, decide_eq_true h]
  rfl
theorem ev_0 (e : Ev) : idxR (evD e) (.int 0) = .ok (evS' e.1) := by rw [evD_eq, idx_t, at0]; rfl
theorem ev4_0 (z : Ev × Int) : idxR (ev4 z) (.int 0) = .ok (evS' z.1.1) := by unfold ev4; rw [idx_t, at0]; rfl
theorem seqD_d (kvs : List (PyData × PyData)) : seqD (.dict kvs) = .ok (kvs.map (·.1)) := rfl
noncomputable def mix (p : Play) (a : Int) (i : Nat) : Bool := decide (1 < nbT (lineT p a i))
noncomputable def mixL (p : Play) (a : Int) : List PyData := ((List.range (gi p a)).filter (mix p a)).map fun i : Nat => .int (i : Int)
theorem rng_map (g : Nat) : rngD 0 (g : Int) = (List.range g).map fun i : Nat => PyData.int (i : Int) := by
  unfold rngD
  simp
theorem lnsD_at {p : Play} {a : Int} {i : Nat} (h : i < gi p a) : L2.atI (lnsD p a) (i : Nat) = some (dD (lineT p a i)) := atN (by unfold lnsD; rw [List.getElem?_map, linesT_at p a h]; rfl)
noncomputable def castL (p : Play) : List PyData := (List.range p.k.toNat).map fun i : Nat => .tuple (cutL p (i : Int))
noncomputable def cntL (p : Play) : List PyData := (List.range p.k.toNat).map fun i : Nat => .int (gi p (i : Int) : Nat)
theorem rng_k {p : Play} (h : PlOk p) : okRng p.k = true ∧ rngD 0 p.k = (List.range p.k.toNat).map fun i : Nat => PyData.int (i : Int) := by
  have h2 := h.k2
  have h4 := h.k4
  refine ⟨by unfold okRng; simp; omega, ?_⟩
  unfold rngD
  simp
/-! ### alike, texts among them -/
def leafS : PyData → Bool
  | .int _ => true
  | .bool _ => true
  | .none => true
  | .str _ => true
  | _ => false
def Als : Nat → PyData → Prop
  | 0, d => leafS d = true
  | k + 1, d => leafS d = true ∨ ∃ ds, d = .tuple ds ∧ ds.length ≤ 1000 ∧ ∀ x ∈ ds, Als k x
@[simp] theorem eq_s (x y : Str) : cmpR .eq (.str x) (.str y) = .ok (decide (x = y)) := rfl
theorem g21l {d : PyData} (h : leafS d = true) : evF tbl m (n + 1) 15 [.shr d, .shr d] = .ok (.shr (.bool true), [.shr d, .shr d]) := by
  rw [call_F (np := 2) (ns := 3) (c := c15) rfl rfl]
  cases d <;> first
    | (cases h; done)
    | simp [cF, c15, notDc, tyIs, isNo]
theorem g21 : ∀ {k : Nat} {d : PyData}, Als k d → evF tbl m (n + k + 1) 15 [.shr d, .shr d] = .ok (.shr (.bool true), [.shr d, .shr d])
  | 0, d, h => g21l h
  | k + 1, d, h => by
    rcases h with h | ⟨ds, rfl, hl, hx⟩
    · exact g21l h
    · rw [call_F (np := 2) (ns := 3) (c := c15) rfl rfl]
      have c1' : lcGo (lcT (evF tbl m (n + (k + 1))) (.v 2) (.not (.call 15 (.cons false (.idx (.var 0) (.var 2)) (.cons false (.idx (.var 1) (.var 2)) (.nil))))) (.var 2) [2]) (rngD 0 ds.length) [] [.shr (.tuple ds), .shr (.tuple ds), .un] = .ok ([], [.shr (.tuple ds), .shr (.tuple ds), .un]) := by
        rw [rng_map]
        have := lc_flt (f := lcT (evF tbl m (n + (k + 1))) (.v 2) (.not (.call 15 (.cons false (.idx (.var 0) (.var 2)) (.cons false (.idx (.var 1) (.var 2)) (.nil))))) (.var 2) [2]) (ρ := [.shr (.tuple ds), .shr (.tuple ds), .un]) (e := fun i : Nat => PyData.int (i : Int)) (q := fun _ => false) (g := fun _ => PyData.none) (xs := List.range ds.length) (fun i hi => by
          have hi2 : i < ds.length := List.mem_range.mp hi
          have ha : L2.atI ds (i : Nat) = some ds[i] := atN (List.getElem?_eq_getElem hi2)
          have ih := g21 (hx ds[i] (List.getElem_mem hi2))
          rw [Nat.add_assoc] at ih
          simp [lcT, bt, cnd, CE.isNil, ha, ih, wipeR]) (by simp; exact Nat.le_trans hl (by decide))
        rw [this]
        simp
      have hg : okRng (ds.length : Int) = true := by unfold okRng; simp; omega
      simp [cF, c15, notDc, tyIs, hg, wipeR, c1', backR, eq_l0, lim]
theorem Als.leaf {k : Nat} {d : PyData} (h : leafS d = true) : Als k d := by
  cases k with
  | zero => exact h
  | succ k => exact .inl h
theorem Als.tup {k : Nat} {ds : List PyData} (hl : ds.length ≤ 1000) (h : ∀ x ∈ ds, Als k x) : Als (k + 1) (.tuple ds) := .inr ⟨ds, rfl, hl, h⟩
theorem als_set {p : Play} (h : PlOk p) (a : Int) (S : List Int) : Als 1 (setD (clo p a S)) := by
  have := clo_short p a S
  have := h.l8
  refine .tup (by rw [List.length_map]; omega) fun x hx => ?_
  obtain ⟨i, _, rfl⟩ := List.mem_map.mp hx
  exact .leaf rfl
theorem als_sets {p : Play} (h : Sm p) (a : Int) : Als 2 (.tuple (setsD p a)) := by
  have h1 := gi_le h a
  refine .tup (by rw [setsD_len h]; omega) fun d hd => ?_
  obtain ⟨x, hx, rfl⟩ := List.mem_map.mp hd
  have h3 := (sub_rg ((seqS_ok a (gi p a)).2 x hx)).2
  have h4 := h.ok.l8
  refine .tup (by rw [List.length_map]; omega) fun y hy => ?_
  obtain ⟨i, _, rfl⟩ := List.mem_map.mp hy
  exact .leaf rfl
theorem als_cut {p : Play} (h : Sm p) (a : Int) : Als 4 (.tuple (cutL p a)) := by
  have h1 := gi_le h a
  refine .tup (by rw [cutL_len]; omega) fun d hd => ?_
  unfold cutL toldT at hd
  obtain ⟨j, _, rfl⟩ := List.mem_map.mp hd
  have h2 := (lineT_up h (a := a) (i := j)).2
  refine .tup (by simp) fun d hd => ?_
  simp only [List.mem_cons, List.not_mem_nil, or_false] at hd
  rcases hd with rfl | rfl
  · exact .leaf rfl
  · refine .tup (by rw [List.length_map]; omega) fun d hd => ?_
    obtain ⟨z, _, rfl⟩ := List.mem_map.mp hd
    refine .tup (by simp) fun d hd => ?_
    simp only [List.mem_cons, List.not_mem_nil, or_false] at hd
    rcases hd with rfl | rfl | rfl | rfl <;> exact .leaf rfl
theorem als_mix {p : Play} (h : Sm p) (a : Int) : Als 1 (.tuple (mixL p a)) := by
  have h1 := gi_le h a
  refine .tup ?_ fun d hd => ?_
  · unfold mixL
    rw [List.length_map]
    have := List.length_filter_le (mix p a) (List.range (gi p a))
    rw [List.length_range] at this
    omega
  · obtain ⟨i, _, rfl⟩ := List.mem_map.mp hd
    exact .leaf rfl
theorem als_cast {p : Play} (h : Sm p) : Als 5 (.tuple (castL p)) := by
  have h4 := h.ok.k4
  refine .tup (by unfold castL; rw [List.length_map, List.length_range]; omega) fun d hd => ?_
  obtain ⟨i, _, rfl⟩ := List.mem_map.mp hd
  exact als_cut h _
theorem als_cnt {p : Play} (h : Sm p) : Als 1 (.tuple (cntL p)) := by
  have h4 := h.ok.k4
  refine .tup (by unfold cntL; rw [List.length_map, List.length_range]; omega) fun d hd => ?_
  obtain ⟨i, _, rfl⟩ := List.mem_map.mp hd
  exact .leaf rfl
end Lw
set_option maxRecDepth 100000
set_option maxHeartbeats 400000
namespace Lw
open PySem Rt
variable {m n : Nat}
/-! ### who has an event -/
def hasE (p : Play) (a x : Int) (e : Ev) : Bool := match scAt p x with
  | none => false
  | some q => q.2.any fun b => decide (evt q.1 a b = some e)
theorem eqv_evo (o : Option Ev) (e : Ev) : PyData.eqv (evO o) (evD e) = decide (o = some e) := by
  cases o with
  | none => simp [evO, evD, PyData.eqv]
  | some e' =>
    show PyData.eqv (evD e') (evD e) = _
    rw [eqv_ev]
    by_cases c : e' = e <;> simp [c]
theorem lay_evo (o : Option Ev) : Lay 1 (evO o) := by
  cases o with
  | none => exact .none
  | some e => exact lay_ev e
theorem eq_evo (o : Option Ev) (e : Ev) : cmpR .eq (evO o) (evD e) = .ok (decide (o = some e)) := by
  have h : eqC (evO o) (evD e) = Res.guard (shp (evO o) && shp (evD e)) (.ok (PyData.eqv (evO o) (evD e))) := by cases o <;> rfl
  show eqC (evO o) (evD e) = _
  rw [h, (lay_evo o).shp (by decide), (lay_ev e).shp (by decide), eqv_evo]
  rfl
theorem kHas {p : Play} (h : PlOk p) {x a : Int} (hx : 0 ≤ x ∧ x < p.sc.length) (e : Ev) :
    evF tbl m (n + 2) 12 [.shr p.d, .shr (.int x), .shr (.int a), .shr (evD e)] = .ok (.shr (.bool (hasE p a x e)), [.shr p.d, .shr (.int x), .shr (.int a), .shr (evD e)]) := by
  rw [call_F (np := 4) (ns := 5) (c := c12) rfl rfl]
  have e1 := at_sc hx
  unfold hasE
  cases hq : scAt p x with
  | none =>
    rw [hq] at e1
    simp [cF, c12, Play.d, at1, e1, scD, isNo]
  | some q =>
    rw [hq] at e1
    have hl := brs_len h hq
    have hlc : lcGo (lcT (evF tbl m (n + 1)) (.v 4) .nil (.cmp .eq (.call 7 (.cons false (.var 0) (.cons false (.var 1) (.cons false (.var 4) (.cons false (.var 2) (.nil)))))) (.var 3)) [4]) (q.2.map brD) [] [.shr p.d, .shr (.int x), .shr (.int a), .shr (evD e), .un]
        = .ok (q.2.map fun b => .bool (decide (evt q.1 a b = some e)), [.shr p.d, .shr (.int x), .shr (.int a), .shr (evD e), .un]) := by
      refine lc_mapg (fun b hb => ?_) (by have := lim_big; omega)
      have g := f8 (m := m) (n := n) hx hq b a
      have g2 := eq_evo (evt q.1 a b) e
      generalize evO (evt q.1 a b) = O at *
      generalize evD e = E at *
      simp [lcT, bt, g, g2, wipeR]
    have ha := any_b q.2 (fun b => decide (evt q.1 a b = some e))
    have ec : tst (evE (evF tbl m (n + 1)) (.isN (.idx (.idx (.var 0) (.cst (.int 1))) (.var 1))) [.shr p.d, .shr (.int x), .shr (.int a), .shr (evD e), .un]) = .ok (false, [.shr p.d, .shr (.int x), .shr (.int a), .shr (evD e), .un]) := by
      simp [Play.d, at1, e1, scD, isNo]
    have ei : evI (evF tbl m (n + 1)) (.ex (.idx (.idx (.idx (.var 0) (.cst (.int 1))) (.var 1)) (.cst (.int 1)))) [.shr p.d, .shr (.int x), .shr (.int a), .shr (evD e), .un] = .ok (q.2.map brD, [.shr p.d, .shr (.int x), .shr (.int a), .shr (evD e), .un]) := by
      simp [Play.d, at1, e1, scD]
    have s1 : evS (evF tbl m (n + 1)) m 4 (.ife (.isN (.idx (.idx (.var 0) (.cst (.int 1))) (.var 1))) (.seq (.ret (.cst (.bool false))) (.skip)) (.skip)) [.shr p.d, .shr (.int x), .shr (.int a), .shr (evD e), .un] = .ok (.nxt, [.shr p.d, .shr (.int x), .shr (.int a), .shr (evD e), .un]) := by
      rw [s_ife, ec]
      rfl
    show (evS (evF tbl m (n + 1)) m 4 (.seq (.ife (.isN (.idx (.idx (.var 0) (.cst (.int 1))) (.var 1))) (.seq (.ret (.cst (.bool false))) (.skip)) (.skip)) _) [.shr p.d, .shr (.int x), .shr (.int a), .shr (evD e), .un]).bind _ = _
    rw [seq_nxt s1]
    simp only [s_seq, s_ret, bi_e, a_cons, a_nil, lc_e, ei]
    generalize evD e = E at *
    simp [wipeR, hlc, backR, ha, Ob.dat]
def nearE (p : Play) (a : Int) (e : Ev) (x : Int) : Prop := ∃ y, RS p a [x] y ∧ hasE p a y e = true
noncomputable def nearB (p : Play) (a : Int) (e : Ev) (x : Int) : Bool := (clo p a [x]).any fun y => hasE p a y e
noncomputable def orgL (p : Play) (a : Int) (xs : List Int) (e : Ev) : List Int := xs.filter (nearB p a e)
def b11k : CS := .seq (.ife (.bi .any (.cons false (.lc [6] (.v 6) (.ex (.call 8 (.cons false (.var 0) (.cons false (.lst (.cons false (.var 5) (.nil))) (.cons false (.var 2) (.nil)))))) (.nil) (.call 12 (.cons false (.var 0) (.cons false (.var 6) (.cons false (.var 2) (.cons false (.var 3) (.nil))))))) (.nil))) (.seq (.exp (.mut .append 4 (.cons false (.var 5) (.nil)))) (.skip)) (.skip)) (.skip)
theorem kOrgs {p : Play} (h : PlOk p) (hm : 80 < m) {a x : Int} (hx : 0 ≤ x ∧ x < p.sc.length) (e : Ev) {s1 : Sl} {f : List Int} (hf : f.length < 100) :
    evS (evF tbl m (n + 2)) m 4 b11k [.shr p.d, s1, .shr (.int a), .shr (evD e), .own (.lst (f.map .int)), .shr (.int x), .un]
      = .ok (.nxt, [.shr p.d, s1, .shr (.int a), .shr (evD e), .own (.lst ((if nearB p a e x = true then f ++ [x] else f).map .int)), .shr (.int x), .un]) := by
  have g9 := f9 (m := m) (n := n) h (a := a) (S := [x]) (fun y hy => by simp at hy; subst hy; exact hx) (by simp) hm (s := .own (.lst [.int x])) (.inl rfl)
  have hl : (clo p a [x]).length ≤ lim := by have := clo_short p a [x]; have := h.l8; have := lim_big; omega
  have hlc : lcGo (lcT (evF tbl m (n + 2)) (.v 6) .nil (.call 12 (.cons false (.var 0) (.cons false (.var 6) (.cons false (.var 2) (.cons false (.var 3) (.nil)))))) [6]) ((clo p a [x]).map .int) [] [.shr p.d, s1, .shr (.int a), .shr (evD e), .own (.lst (f.map .int)), .shr (.int x), .un]
      = .ok ((clo p a [x]).map fun y => .bool (hasE p a y e), [.shr p.d, s1, .shr (.int a), .shr (evD e), .own (.lst (f.map .int)), .shr (.int x), .un]) := by
    refine lc_mapg (fun y hy => ?_) hl
    have g := kHas (m := m) (n := n) h (a := a) (clo_in p a [x] y hy) e
    generalize evD e = E at *
    simp [lcT, bt, g, wipeR]
  have ha := any_b (clo p a [x]) (fun y => hasE p a y e)
  have hfl : f.length < 16777216 := by omega
  unfold nearB
  generalize evD e = E at *
  by_cases c : ((clo p a [x]).any fun y => hasE p a y e) = true
  · rw [c] at ha ⊢
    simp [b11k, g9, wipeR, hlc, backR, ha, hfl, lim, Ob.dat]
  · have c' : ((clo p a [x]).any fun y => hasE p a y e) = false := by simpa using c
    rw [c'] at ha ⊢
    simp [b11k, g9, wipeR, hlc, backR, ha, lim, Ob.dat]
theorem kOrgl {p : Play} (h : PlOk p) (hm : 80 < m) {a : Int} (e : Ev) {s1 : Sl} : ∀ {xs f : List Int} {s5 : Sl}, Rg p xs → f.length + xs.length < 100 →
    ∃ s5', forGo (fun d ρ => (bt 4 (.v 5) d ρ).bind fun ρ => evS (evF tbl m (n + 2)) m 4 b11k ρ) (xs.map .int) [.shr p.d, s1, .shr (.int a), .shr (evD e), .own (.lst (f.map .int)), s5, .un]
      = .ok (.nxt, [.shr p.d, s1, .shr (.int a), .shr (evD e), .own (.lst ((f ++ orgL p a xs e).map .int)), s5', .un]) := by
  intro xs
  induction xs with
  | nil => exact fun {f s5} _ _ => ⟨s5, by simp [forGo, orgL]⟩
  | cons x xs ih =>
    intro f s5 hx hl
    have hl' : f.length + (xs.length + 1) < 100 := by simpa using hl
    have e0 := kOrgs (m := m) (n := n) h hm (a := a) (hx x List.mem_cons_self) e (s1 := s1) (f := f) (by omega)
    obtain ⟨s5', e2⟩ := ih (f := if nearB p a e x = true then f ++ [x] else f) (s5 := .shr (.int x)) (fun y hy => hx y (List.mem_cons_of_mem _ hy)) (by split <;> (try simp) <;> omega)
    refine ⟨s5', ?_⟩
    have eb : bt 4 (.v 5) (.int x) [.shr p.d, s1, .shr (.int a), .shr (evD e), .own (.lst (f.map .int)), s5, .un] = .ok [.shr p.d, s1, .shr (.int a), .shr (evD e), .own (.lst (f.map .int)), .shr (.int x), .un] := rfl
    show forGo _ (PyData.int x :: xs.map .int) _ = _
    unfold forGo
    rw [eb, Res.bind_ok, e0, Res.bind_ok]
    have eo : f ++ orgL p a (x :: xs) e = (if nearB p a e x = true then f ++ [x] else f) ++ orgL p a xs e := by
      unfold orgL
      rw [List.filter_cons]
      split <;> simp
    rw [eo]
    exact e2
/-- origins -/
theorem kOrg {p : Play} (h : PlOk p) (hm : 80 < m) {a : Int} {xs : List Int} (hx : Rg p xs) (hl : xs.length ≤ 8) (e : Ev) :
    evF tbl m (n + 3) 11 [.shr p.d, .shr (setD xs), .shr (.int a), .shr (evD e)] = .ok (.own (.lst ((orgL p a xs e).map .int)), [.shr p.d, .shr (setD xs), .shr (.int a), .shr (evD e)]) := by
  obtain ⟨s5', e1⟩ := kOrgl (m := m) (n := n) h hm (a := a) e (s1 := .shr (setD xs)) (xs := xs) (f := []) (s5 := .un) hx (by simp; omega)
  rw [call_F (np := 4) (ns := 7) (c := c11) rfl rfl]
  have ea : evS (evF tbl m (n + 2)) m 4 (.asg (.v 4) (.lst (.nil))) [.shr p.d, .shr (setD xs), .shr (.int a), .shr (evD e), .un, .un, .un] = .ok (.nxt, [.shr p.d, .shr (setD xs), .shr (.int a), .shr (evD e), .own (.lst (([] : List Int).map .int)), .un, .un]) := by
    simp [lim, stS]
  have ef : evS (evF tbl m (n + 2)) m 4 (.for_ (.v 5) (.ex (.var 1)) b11k) [.shr p.d, .shr (setD xs), .shr (.int a), .shr (evD e), .own (.lst (([] : List Int).map .int)), .un, .un] = .ok (.nxt, [.shr p.d, .shr (setD xs), .shr (.int a), .shr (evD e), .own (.lst ((orgL p a xs e).map .int)), s5', .un]) := by
    rw [s_for]
    exact e1
  show (evS (evF tbl m (n + 2)) m 4 (.seq (.asg (.v 4) (.lst (.nil))) (.seq (.for_ (.v 5) (.ex (.var 1)) b11k) (.seq (.ret (.var 4)) (.skip)))) [.shr p.d, .shr (setD xs), .shr (.int a), .shr (evD e), .un, .un, .un]).bind _ = _
  rw [seq_nxt ea, seq_nxt ef]
  generalize evD e = E
  generalize setD xs = X
  simp
end Lw
set_option maxRecDepth 100000
set_option maxHeartbeats 400000
namespace Lw
open PySem Rt
variable {m n : Nat}
/-! ### bad_says -/
noncomputable def badB (p : Play) (a : Int) (x : List Int) (e : Ev) : Bool := e.1 && decide ((orgL p a x e).length < x.length)
def evBr (j : Int) (e : Ev) : Br := (j, e.2.1, e.2.2)
theorem eq_say (b : Bool) : cmpR .eq (evS' b) (.str "say") = .ok b := by
  cases b
  · show Res.ok (decide ((("hear" : Str)) = (("say" : Str)))) = _
    rw [decide_eq_false (by decide +kernel)]
  · show Res.ok (decide ((("say" : Str)) = (("say" : Str)))) = _
    rw [decide_eq_true rfl]
theorem ev_1 (e : Ev) : idxR (evD e) (.int 1) = .ok (.int e.2.1) := by rw [evD_eq, idx_t, at1]; rfl
theorem ev_2 (e : Ev) : idxR (evD e) (.int 2) = .ok (.int e.2.2) := by rw [evD_eq, idx_t, at2]; rfl
def b13i : CS := .seq (.ife (.and (.cmp .eq (.idx (.var 7) (.cst (.int 0))) (.cst (.str "say"))) (.cmp .lt (.bi .len (.cons false (.call 11 (.cons false (.var 0) (.cons false (.var 6) (.cons false (.var 1) (.cons false (.var 7) (.nil)))))) (.nil))) (.bi .len (.cons false (.var 6) (.nil))))) (.seq (.exp (.mut .append 4 (.cons false (.tup (.cons false (.var 5) (.cons false (.idx (.var 7) (.cst (.int 1))) (.cons false (.idx (.var 7) (.cst (.int 2))) (.nil))))) (.nil)))) (.skip)) (.skip)) (.skip)
theorem kBs {p : Play} (h : PlOk p) (hm : 80 < m) {a : Int} {x : List Int} (hx : Rg p x) (hl : x.length ≤ 8) {e : Ev} {j : Int} {s2 s3 : Sl} {F : List Br} (hF : F.length < 2000) :
    evS (evF tbl m (n + 3)) m 2 b13i [.shr p.d, .shr (.int a), s2, s3, .own (.lst (F.map brD)), .shr (.int j), .shr (setD x), .shr (evD e)]
      = .ok (.nxt, [.shr p.d, .shr (.int a), s2, s3, .own (.lst ((if badB p a x e = true then F ++ [evBr j e] else F).map brD)), .shr (.int j), .shr (setD x), .shr (evD e)]) := by
  have g11 := kOrg (m := m) (n := n) h hm (a := a) hx hl e
  have g0 := ev_0 e
  have g1 := ev_1 e
  have g2 := ev_2 e
  have gs := eq_say e.1
  have gl : biR .len [setD x] = .ok (.shr (.int (x.length : Nat))) := by unfold setD; rw [len_t, List.length_map]
  have hfl : F.length < 16777216 := by omega
  have hbr : brD (evBr j e) = .tuple [.int j, .int e.2.1, .int e.2.2] := rfl
  unfold badB
  generalize evD e = E at *
  generalize evS' e.1 = S at *
  generalize setD x = X at *
  by_cases c1 : e.1 = true
  · rw [c1] at gs
    by_cases c2 : (orgL p a x e).length < x.length
    · simp [b13i, g0, gs, g11, gl, c1, c2, g1, g2, lim, hfl, hbr, Ob.dat]
    · simp [b13i, g0, gs, g11, gl, c1, c2, Ob.dat]
  · have c1' : e.1 = false := by simpa using c1
    rw [c1'] at gs
    simp [b13i, g0, gs, c1', Ob.dat]
theorem kBl {p : Play} (h : PlOk p) (hm : 80 < m) {a : Int} {x : List Int} (hx : Rg p x) (hl : x.length ≤ 8) {j : Int} {s2 s3 : Sl} : ∀ {T : TL} {F : List Br} {s7 : Sl}, F.length + T.length < 2000 →
    ∃ s7', forGo (fun d ρ => (bt 2 (.v 7) d ρ).bind fun ρ => evS (evF tbl m (n + 3)) m 2 b13i ρ) (T.map fun z => evD z.1) [.shr p.d, .shr (.int a), s2, s3, .own (.lst (F.map brD)), .shr (.int j), .shr (setD x), s7]
      = .ok (.nxt, [.shr p.d, .shr (.int a), s2, s3, .own (.lst ((F ++ (T.filter fun z => badB p a x z.1).map fun z => evBr j z.1).map brD)), .shr (.int j), .shr (setD x), s7']) := by
  intro T
  induction T with
  | nil => exact fun {F s7} _ => ⟨s7, by simp [forGo]⟩
  | cons z T ih =>
    intro F s7 hF
    have hF' : F.length + (T.length + 1) < 2000 := by simpa using hF
    have e0 := kBs (m := m) (n := n) h hm (a := a) hx hl (e := z.1) (j := j) (s2 := s2) (s3 := s3) (F := F) (by omega)
    obtain ⟨s7', e2⟩ := ih (F := if badB p a x z.1 = true then F ++ [evBr j z.1] else F) (s7 := .shr (evD z.1)) (by split <;> (try simp) <;> omega)
    refine ⟨s7', ?_⟩
    have eb : bt 2 (.v 7) (evD z.1) [.shr p.d, .shr (.int a), s2, s3, .own (.lst (F.map brD)), .shr (.int j), .shr (setD x), s7] = .ok [.shr p.d, .shr (.int a), s2, s3, .own (.lst (F.map brD)), .shr (.int j), .shr (setD x), .shr (evD z.1)] := rfl
    rw [List.map_cons]
    unfold forGo
    rw [eb, Res.bind_ok, e0, Res.bind_ok]
    have eo : F ++ ((z :: T).filter fun z => badB p a x z.1).map (fun z => evBr j z.1) = (if badB p a x z.1 = true then F ++ [evBr j z.1] else F) ++ (T.filter fun z => badB p a x z.1).map (fun z => evBr j z.1) := by
      rw [List.filter_cons]
      split <;> simp
    rw [eo]
    exact e2
noncomputable def badAt (p : Play) (a : Int) (j : Nat) : List Br := match (seqS p a j)[j]? with
  | some x => ((lineT p a j).filter fun z => badB p a x z.1).map fun z => evBr (j : Int) z.1
  | none => []
noncomputable def badF (p : Play) (a : Int) : Nat → List Br
  | 0 => []
  | j + 1 => badF p a j ++ badAt p a j
theorem badAt_len {p : Play} (h : Sm p) (a : Int) (j : Nat) : (badAt p a j).length ≤ 16 := by
  unfold badAt
  split
  · rw [List.length_map]
    exact Nat.le_trans (List.length_filter_le _ _) (lineT_up h).2
  · exact Nat.zero_le _
theorem badF_len {p : Play} (h : Sm p) (a : Int) : ∀ j, (badF p a j).length ≤ 16 * j
  | 0 => Nat.zero_le _
  | j + 1 => by
    have h1 := badF_len h a j
    have h2 := badAt_len h a j
    unfold badF
    rw [List.length_append]
    omega
theorem badAt_at {p : Play} {a : Int} {j : Nat} {x : List Int} (hx : (seqS p a j)[j]? = some x) : badAt p a j = ((lineT p a j).filter fun z => badB p a x z.1).map fun z => evBr (j : Int) z.1 := by
  unfold badAt
  rw [hx]
theorem seqD_dD (T : TL) : seqD (dD T) = .ok (T.map fun z => evD z.1) := by
  show Res.ok ((kvT T).map (·.1)) = _
  unfold kvT
  rw [List.map_map]
  rfl
def b13o : CS := .seq (.for_ (.v 7) (.ex (.idx (.var 3) (.var 5))) b13i) (.skip)
theorem kBo {p : Play} (h : Sm p) (hm : 80 < m) {a : Int} {j : Nat} (hj : j < gi p a) {x : List Int} (hx : (seqS p a j)[j]? = some x) {s2 s7 : Sl} :
    ∃ s7', evS (evF tbl m (n + 3)) m 2 b13o [.shr p.d, .shr (.int a), s2, .shr (.list (lnsD p a)), .own (.lst ((badF p a j).map brD)), .shr (.int (j : Nat)), .shr (setD x), s7]
      = .ok (.nxt, [.shr p.d, .shr (.int a), s2, .shr (.list (lnsD p a)), .own (.lst ((badF p a (j + 1)).map brD)), .shr (.int (j : Nat)), .shr (setD x), s7']) := by
  obtain ⟨hr, hl⟩ := h.at hx
  have h64 := gi_le h a
  have hF := badF_len h a j
  have hT := (lineT_up h (a := a) (i := j)).2
  obtain ⟨s7', e2⟩ := kBl (m := m) (n := n) h.ok hm (a := a) hr hl (j := (j : Nat)) (s2 := s2) (s3 := .shr (.list (lnsD p a))) (T := lineT p a j) (F := badF p a j) (s7 := s7) (by omega)
  rw [← badAt_at hx] at e2
  refine ⟨s7', ?_⟩
  have ha := lnsD_at (p := p) (a := a) hj
  have gs := seqD_dD (lineT p a j)
  have ei : evI (evF tbl m (n + 3)) (.ex (.idx (.var 3) (.var 5))) [.shr p.d, .shr (.int a), s2, .shr (.list (lnsD p a)), .own (.lst ((badF p a j).map brD)), .shr (.int (j : Nat)), .shr (setD x), s7] = .ok ((lineT p a j).map fun z => evD z.1, [.shr p.d, .shr (.int a), s2, .shr (.list (lnsD p a)), .own (.lst ((badF p a j).map brD)), .shr (.int (j : Nat)), .shr (setD x), s7]) := by
    generalize lnsD p a = Z at *
    generalize dD (lineT p a j) = D at *
    generalize (badF p a j).map brD = B
    simp [ha, gs]
  have ef : evS (evF tbl m (n + 3)) m 2 (.for_ (.v 7) (.ex (.idx (.var 3) (.var 5))) b13i) [.shr p.d, .shr (.int a), s2, .shr (.list (lnsD p a)), .own (.lst ((badF p a j).map brD)), .shr (.int (j : Nat)), .shr (setD x), s7] = .ok (.nxt, [.shr p.d, .shr (.int a), s2, .shr (.list (lnsD p a)), .own (.lst ((badF p a j ++ badAt p a j).map brD)), .shr (.int (j : Nat)), .shr (setD x), s7']) := by
    rw [s_for, ei]
    exact e2
  unfold b13o
  rw [seq_nxt ef]
  rfl
noncomputable def badL (p : Play) (a : Int) : List Br := badF p a (gi p a)
theorem kBall {p : Play} (h : Sm p) (hm : 80 < m) {a : Int} : ∃ s5 s6 s7, forGo (fun d ρ => (bt 2 (.cons (.v 5) (.cons (.v 6) (.nil))) d ρ).bind fun ρ => evS (evF tbl m (n + 3)) m 2 b13o ρ) (enuD 0 (setsD p a)) [.shr p.d, .shr (.int a), .shr (.list (setsD p a)), .shr (.list (lnsD p a)), .own (.lst ((badF p a 0).map brD)), .un, .un, .un]
      = .ok (.nxt, [.shr p.d, .shr (.int a), .shr (.list (setsD p a)), .shr (.list (lnsD p a)), .own (.lst ((badL p a).map brD)), s5, s6, s7]) := by
  have hg := gi_ok h a
  obtain ⟨ρ', e, s5, s6, s7, hρ⟩ := forGo_ind (f := fun d ρ => (bt 2 (.cons (.v 5) (.cons (.v 6) (.nil))) d ρ).bind fun ρ => evS (evF tbl m (n + 3)) m 2 b13o ρ)
    (fun j ρ => ∃ (s5 s6 s7 : Sl), ρ = [.shr p.d, .shr (.int a), .shr (.list (setsD p a)), .shr (.list (lnsD p a)), .own (.lst ((badF p a j).map brD)), s5, s6, s7])
    (ds := enuD 0 (setsD p a)) (k := 0) (ρ := [.shr p.d, .shr (.int a), .shr (.list (setsD p a)), .shr (.list (lnsD p a)), .own (.lst ((badF p a 0).map brD)), .un, .un, .un]) ⟨_, _, _, rfl⟩
    fun j d ρ hd ⟨s5, s6, s7, hρ⟩ => by
      subst hρ
      have hj : j < gi p a := by
        have := (List.getElem?_eq_some_iff.mp hd).1
        rw [enuD_len, setsD_len h] at this
        exact this
      obtain ⟨z, h1, rfl⟩ := enuD_at hd
      obtain ⟨x, hx1, hx2⟩ := hg.at hj
      unfold setsD at h1
      rw [List.getElem?_map, hx2] at h1
      cases h1
      obtain ⟨s7', e2⟩ := kBo (m := m) (n := n) h hm hj hx1 (s2 := .shr (.list (setsD p a))) (s7 := s7)
      simp only [Nat.zero_add]
      have eb : bt 2 (.cons (.v 5) (.cons (.v 6) (.nil))) (.tuple [.int (j : Nat), setD x]) [.shr p.d, .shr (.int a), .shr (.list (setsD p a)), .shr (.list (lnsD p a)), .own (.lst ((badF p a j).map brD)), s5, s6, s7] = .ok [.shr p.d, .shr (.int a), .shr (.list (setsD p a)), .shr (.list (lnsD p a)), .own (.lst ((badF p a j).map brD)), .shr (.int (j : Nat)), .shr (setD x), s7] := rfl
      refine ⟨[.shr p.d, .shr (.int a), .shr (.list (setsD p a)), .shr (.list (lnsD p a)), .own (.lst ((badF p a (j + 1)).map brD)), .shr (.int (j : Nat)), .shr (setD x), s7'], ?_, _, _, _, rfl⟩
      rw [eb, Res.bind_ok]
      exact e2
  rw [enuD_len, setsD_len h, Nat.zero_add] at hρ
  subst hρ
  exact ⟨s5, s6, s7, e⟩
/-- bad_says -/
theorem kBad {p : Play} (h : Sm p) (hm : 80 < m) {a : Int} (ha : 0 ≤ a ∧ a < p.k) : evF tbl m (n + 6) 13 [.shr p.d, .shr (.int a)] = .ok (.shr (.tuple ((sortBr (badL p a)).map brD)), [.shr p.d, .shr (.int a)]) := by
  have g5 := f5 (m := m) (n := n) h.ok
  have g6 := f6 (m := m) (n := n + 2) ha
  have g12 := f12' (m := m) (n := n + 2) h hm (a := a)
  obtain ⟨s5, s6, s7, e⟩ := kBall (m := m) (n := n + 2) h hm (a := a)
  simp only [Nat.add_assoc, Nat.reduceAdd] at g6 g12 e
  rw [call_F (np := 2) (ns := 8) (c := c13) rfl rfl]
  have e1 : evS (evF tbl m (n + 5)) m 2 (.exp (.call 5 (.cons false (.var 0) (.nil)))) [.shr p.d, .shr (.int a), .un, .un, .un, .un, .un, .un] = .ok (.nxt, [.shr p.d, .shr (.int a), .un, .un, .un, .un, .un, .un]) := by
    simp [g5]
  have e2 : evS (evF tbl m (n + 5)) m 2 (.exp (.call 6 (.cons false (.var 0) (.cons false (.var 1) (.nil))))) [.shr p.d, .shr (.int a), .un, .un, .un, .un, .un, .un] = .ok (.nxt, [.shr p.d, .shr (.int a), .un, .un, .un, .un, .un, .un]) := by
    simp [g6]
  have e3 : evS (evF tbl m (n + 5)) m 2 (.asg (.cons (.v 2) (.cons (.v 3) (.nil))) (.call 10 (.cons false (.var 0) (.cons false (.var 1) (.nil))))) [.shr p.d, .shr (.int a), .un, .un, .un, .un, .un, .un]
      = .ok (.nxt, [.shr p.d, .shr (.int a), .shr (.list (setsD p a)), .shr (.list (lnsD p a)), .un, .un, .un, .un]) := by
    show ((evE (evF tbl m (n + 5)) (.call 10 (.cons false (.var 0) (.cons false (.var 1) (.nil)))) _).bind _) = _
    simp [g12, bt, bts]
  have e4 : evS (evF tbl m (n + 5)) m 2 (.asg (.v 4) (.lst (.nil))) [.shr p.d, .shr (.int a), .shr (.list (setsD p a)), .shr (.list (lnsD p a)), .un, .un, .un, .un]
      = .ok (.nxt, [.shr p.d, .shr (.int a), .shr (.list (setsD p a)), .shr (.list (lnsD p a)), .own (.lst ((badF p a 0).map brD)), .un, .un, .un]) := by
    simp [lim, stS, badF]
  have ef : evS (evF tbl m (n + 5)) m 2 (.for_ (.cons (.v 5) (.cons (.v 6) (.nil))) (.enu (.var 2)) b13o) [.shr p.d, .shr (.int a), .shr (.list (setsD p a)), .shr (.list (lnsD p a)), .own (.lst ((badF p a 0).map brD)), .un, .un, .un]
      = .ok (.nxt, [.shr p.d, .shr (.int a), .shr (.list (setsD p a)), .shr (.list (lnsD p a)), .own (.lst ((badL p a).map brD)), s5, s6, s7]) := by
    rw [s_for]
    exact e
  have hl : (badL p a).length ≤ lim := by
    have h1 := badF_len h a (gi p a)
    have h2 := gi_le h a
    have : (2000 : Nat) ≤ lim := by decide
    unfold badL
    omega
  have gs := sorted_br hl
  show (evS (evF tbl m (n + 5)) m 2 (.seq (.exp (.call 5 _)) (.seq (.exp (.call 6 _)) (.seq (.asg (.cons (.v 2) (.cons (.v 3) (.nil))) _) (.seq (.asg (.v 4) (.lst (.nil))) (.seq (.for_ (.cons (.v 5) (.cons (.v 6) (.nil))) (.enu (.var 2)) b13o) (.seq (.ret (.bi .tuple (.cons false (.bi .sorted (.cons false (.var 4) (.nil))) (.nil)))) (.skip))))))) [.shr p.d, .shr (.int a), .un, .un, .un, .un, .un, .un]).bind _ = _
  rw [seq_nxt e1, seq_nxt e2, seq_nxt e3, seq_nxt e4, seq_nxt ef]
  generalize (badL p a).map brD = B at *
  generalize (sortBr (badL p a)).map brD = B2 at *
  simp [gs, tup_l, Ob.dat]
end Lw
set_option maxRecDepth 100000
set_option maxHeartbeats 400000
namespace Lw
open PySem Rt
variable {m n : Nat}
@[simp] theorem gt_11 (s s1 s2 s3 s4 s5 s6 s7 s8 s9 s10 s11 : Sl) (ρ : Rho) : gt (s :: s1 :: s2 :: s3 :: s4 :: s5 :: s6 :: s7 :: s8 :: s9 :: s10 :: s11 :: ρ) 11 = s11 := rfl
@[simp] theorem gt_12 (s s1 s2 s3 s4 s5 s6 s7 s8 s9 s10 s11 s12 : Sl) (ρ : Rho) : gt (s :: s1 :: s2 :: s3 :: s4 :: s5 :: s6 :: s7 :: s8 :: s9 :: s10 :: s11 :: s12 :: ρ) 12 = s12 := rfl
@[simp] theorem gt_13 (s s1 s2 s3 s4 s5 s6 s7 s8 s9 s10 s11 s12 s13 : Sl) (ρ : Rho) : gt (s :: s1 :: s2 :: s3 :: s4 :: s5 :: s6 :: s7 :: s8 :: s9 :: s10 :: s11 :: s12 :: s13 :: ρ) 13 = s13 := rfl
theorem inn_evo (e : Ev) (os : List (Option Ev)) : cmpR .inn (evD e) (.list (os.map evO)) = .ok (os.any fun o => decide (o = some e)) := by
  have hl : Lay 2 (.list (os.map evO)) := .lst fun d hd => by
    obtain ⟨o, _, rfl⟩ := List.mem_map.mp hd
    exact lay_evo o
  show Res.guard (shp (evD e) && shp (.list (os.map evO))) (.ok ((os.map evO).any fun z => PyData.eqv z (evD e))) = _
  rw [(lay_ev e).shp (by decide), hl.shp (by decide), List.any_map]
  show Res.ok _ = _
  congr 2
  funext o
  exact eqv_evo o e
theorem slc_e3 (z : Ev × Int) : slcR (ev4 z) none (some 3) = .ok (.shr (evD z.1)) := rfl
theorem slc_13 (z : Ev × Int) : slcR (ev4 z) (some 1) (some 3) = .ok (.shr (.tuple [.int z.1.2.1, .int z.1.2.2])) := rfl
def nq1 : CS := .asg (.v 11) (.or (.var 11) (.cmp .inn (.slc (.var 8) (.nil) (.cst (.int 3))) (.lc [13] (.v 13) (.ex (.call 19 (.cons false (.var 2) (.cons false (.var 12) (.nil))))) (.nil) (.call 18 (.cons false (.var 2) (.cons false (.var 12) (.cons false (.var 13) (.cons false (.var 3) (.nil)))))))))
theorem k1 {p : Play} (h : PlOk p) {a y : Int} (hy : 0 ≤ y ∧ y < p.sc.length) {z : Ev × Int} {b : Bool} {s0 s1 s4 s5 s6 s7 s9 s10 : Sl} :
    evS (evF tbl m (n + 1)) m 1 nq1 [s0, s1, .shr p.d, .shr (.int a), s4, s5, s6, s7, .shr (ev4 z), s9, s10, .shr (.bool b), .shr (.int y), .un]
      = .ok (.nxt, [s0, s1, .shr p.d, .shr (.int a), s4, s5, s6, s7, .shr (ev4 z), s9, s10, .shr (.bool (b || hasE p a y z.1)), .shr (.int y), .un]) := by
  cases b with
  | true => simp [nq1, stS]
  | false =>
    have g25 := f19 (m := m) (n := n) (p := p) hy
    have h3 := slc_e3 z
    unfold hasE
    unfold brsAt at g25
    cases hq : scAt p y with
    | none =>
      rw [hq] at g25
      have gi := inn_evo z.1 []
      generalize evD z.1 = E at *
      generalize ev4 z = Z at *
      simp at g25 gi
      simp [nq1, stS, g25, h3, wipeR, lcGo, backR, gi, Ob.dat]
    | some q =>
      rw [hq] at g25
      have hl := brs_len h hq
      have gi := inn_evo z.1 (q.2.map fun b => evt q.1 a b)
      rw [List.map_map, List.any_map] at gi
      have e19 : evI (evF tbl m (n + 1)) (.ex (.call 19 (.cons false (.var 2) (.cons false (.var 12) (.nil))))) [s0, s1, .shr p.d, .shr (.int a), s4, s5, s6, s7, .shr (ev4 z), s9, s10, .shr (.bool false), .shr (.int y), .un] = .ok (q.2.map brD, [s0, s1, .shr p.d, .shr (.int a), s4, s5, s6, s7, .shr (ev4 z), s9, s10, .shr (.bool false), .shr (.int y), .un]) := by
        simp [g25]
      have hlc : lcGo (lcT (evF tbl m (n + 1)) (.v 13) .nil (.call 18 (.cons false (.var 2) (.cons false (.var 12) (.cons false (.var 13) (.cons false (.var 3) (.nil)))))) [13]) (q.2.map brD) [] [s0, s1, .shr p.d, .shr (.int a), s4, s5, s6, s7, .shr (ev4 z), s9, s10, .shr (.bool false), .shr (.int y), .un]
          = .ok (q.2.map fun b => evO (evt q.1 a b), [s0, s1, .shr p.d, .shr (.int a), s4, s5, s6, s7, .shr (ev4 z), s9, s10, .shr (.bool false), .shr (.int y), .un]) := by
        refine lc_mapg (fun b hb => ?_) (by have := lim_big; omega)
        have g := f24 (m := m) (n := n) hy hq b a
        generalize evO (evt q.1 a b) = O at *
        generalize ev4 z = Z at *
        simp [lcT, bt, g, wipeR]
      have es : evE (evF tbl m (n + 1)) (.slc (.var 8) (.nil) (.cst (.int 3))) [s0, s1, .shr p.d, .shr (.int a), s4, s5, s6, s7, .shr (ev4 z), s9, s10, .shr (.bool false), .shr (.int y), .un] = .ok (.val (.shr (evD z.1)), [s0, s1, .shr p.d, .shr (.int a), s4, s5, s6, s7, .shr (ev4 z), s9, s10, .shr (.bool false), .shr (.int y), .un]) := by
        generalize ev4 z = Z at *
        generalize evD z.1 = E at *
        simp [h3]
      have ein : evE (evF tbl m (n + 1)) (.cmp .inn (.slc (.var 8) (.nil) (.cst (.int 3))) (.lc [13] (.v 13) (.ex (.call 19 (.cons false (.var 2) (.cons false (.var 12) (.nil))))) (.nil) (.call 18 (.cons false (.var 2) (.cons false (.var 12) (.cons false (.var 13) (.cons false (.var 3) (.nil)))))))) [s0, s1, .shr p.d, .shr (.int a), s4, s5, s6, s7, .shr (ev4 z), s9, s10, .shr (.bool false), .shr (.int y), .un]
          = .ok (.val (.shr (.bool (q.2.any fun b => decide (evt q.1 a b = some z.1)))), [s0, s1, .shr p.d, .shr (.int a), s4, s5, s6, s7, .shr (ev4 z), s9, s10, .shr (.bool false), .shr (.int y), .un]) := by
        rw [cmp_e, es, Res.bind_ok, lc_e, e19, Res.bind_ok]
        show (((lcGo _ _ [] [s0, s1, .shr p.d, .shr (.int a), s4, s5, s6, s7, .shr (ev4 z), s9, s10, .shr (.bool false), .shr (.int y), .un]).bind _).bind _) = _
        rw [hlc, Res.bind_ok, Res.bind_ok]
        show (cmpR .inn (evD z.1) (.list (q.2.map fun b => evO (evt q.1 a b)))).bind _ = _
        have gi' : cmpR .inn (evD z.1) (.list (q.2.map fun b => evO (evt q.1 a b))) = .ok (q.2.any fun b => decide (evt q.1 a b = some z.1)) := gi
        rw [gi']
        rfl
      unfold nq1
      rw [s_asg, or_e]
      have e11 : tst (evE (evF tbl m (n + 1)) (.var 11) [s0, s1, .shr p.d, .shr (.int a), s4, s5, s6, s7, .shr (ev4 z), s9, s10, .shr (.bool false), .shr (.int y), .un]) = .ok (false, [s0, s1, .shr p.d, .shr (.int a), s4, s5, s6, s7, .shr (ev4 z), s9, s10, .shr (.bool false), .shr (.int y), .un]) := rfl
      rw [e11, Res.bind_ok]
      show ((tst (evE (evF tbl m (n + 1)) (.cmp .inn _ _) _)).bind _).bind _ = _
      rw [ein]
      rfl
theorem k2 {p : Play} (h : PlOk p) {a : Int} {z : Ev × Int} {s0 s1 s4 s5 s6 s7 s9 s10 : Sl} : ∀ {ys : List Int} {b : Bool} {s12 : Sl}, Rg p ys →
    ∃ s12', forGo (fun d ρ => (bt 1 (.v 12) d ρ).bind fun ρ => evS (evF tbl m (n + 1)) m 1 (.seq nq1 (.skip)) ρ) (ys.map .int) [s0, s1, .shr p.d, .shr (.int a), s4, s5, s6, s7, .shr (ev4 z), s9, s10, .shr (.bool b), s12, .un]
      = .ok (.nxt, [s0, s1, .shr p.d, .shr (.int a), s4, s5, s6, s7, .shr (ev4 z), s9, s10, .shr (.bool (b || ys.any fun y => hasE p a y z.1)), s12', .un]) := by
  intro ys
  induction ys with
  | nil => exact fun {b s12} _ => ⟨s12, by simp [forGo]⟩
  | cons y ys ih =>
    intro b s12 hy
    have e0 := k1 (m := m) (n := n) h (a := a) (hy y List.mem_cons_self) (z := z) (b := b) (s0 := s0) (s1 := s1) (s4 := s4) (s5 := s5) (s6 := s6) (s7 := s7) (s9 := s9) (s10 := s10)
    obtain ⟨s12', e2⟩ := ih (b := b || hasE p a y z.1) (s12 := .shr (.int y)) fun x hx => hy x (List.mem_cons_of_mem _ hx)
    refine ⟨s12', ?_⟩
    have eb : bt 1 (.v 12) (.int y) [s0, s1, .shr p.d, .shr (.int a), s4, s5, s6, s7, .shr (ev4 z), s9, s10, .shr (.bool b), s12, .un] = .ok [s0, s1, .shr p.d, .shr (.int a), s4, s5, s6, s7, .shr (ev4 z), s9, s10, .shr (.bool b), .shr (.int y), .un] := rfl
    rw [List.map_cons]
    unfold forGo
    rw [eb, Res.bind_ok, seq_nxt e0, s_skip, Res.bind_ok, List.any_cons, ← Bool.or_assoc]
    exact e2
def nq3 : CS := .seq (.asg (.v 11) (.cst (.bool false))) (.seq (.for_ (.v 12) (.ex (.call 20 (.cons false (.var 2) (.cons false (.lst (.cons false (.var 10) (.nil))) (.cons false (.var 3) (.nil)))))) (.seq nq1 (.skip))) (.seq (.asg (.v 9) (.and (.var 9) (.var 11))) (.skip)))
theorem k3 {p : Play} (h : PlOk p) (hm : 80 < m) {a x : Int} (hx : 0 ≤ x ∧ x < p.sc.length) {z : Ev × Int} {b : Bool} {s0 s1 s4 s5 s6 s7 s11 s12 : Sl} :
    ∃ s11' s12', evS (evF tbl m (n + 3)) m 1 nq3 [s0, s1, .shr p.d, .shr (.int a), s4, s5, s6, s7, .shr (ev4 z), .shr (.bool b), .shr (.int x), s11, s12, .un]
      = .ok (.nxt, [s0, s1, .shr p.d, .shr (.int a), s4, s5, s6, s7, .shr (ev4 z), .shr (.bool (b && nearB p a z.1 x)), .shr (.int x), s11', s12', .un]) := by
  have g26 := f26 (m := m) (n := n + 1) h (a := a) (S := [x]) (fun y hy => by simp at hy; subst hy; exact hx) (by simp) (by simp) (by omega) (s := .own (.lst [.int x])) (.inl rfl)
  simp only [Nat.add_assoc, Nat.reduceAdd] at g26
  obtain ⟨s12', e2⟩ := k2 (m := m) (n := n + 2) h (a := a) (z := z) (ys := clo p a [x]) (b := false) (s0 := s0) (s1 := s1) (s4 := s4) (s5 := s5) (s6 := s6) (s7 := s7) (s9 := .shr (.bool b)) (s10 := .shr (.int x)) (s12 := s12) (clo_in p a [x])
  simp only [Nat.add_assoc, Nat.reduceAdd] at e2
  refine ⟨.shr (.bool (nearB p a z.1 x)), s12', ?_⟩
  have ea : evS (evF tbl m (n + 3)) m 1 (.asg (.v 11) (.cst (.bool false))) [s0, s1, .shr p.d, .shr (.int a), s4, s5, s6, s7, .shr (ev4 z), .shr (.bool b), .shr (.int x), s11, s12, .un] = .ok (.nxt, [s0, s1, .shr p.d, .shr (.int a), s4, s5, s6, s7, .shr (ev4 z), .shr (.bool b), .shr (.int x), .shr (.bool false), s12, .un]) := rfl
  have ei : evI (evF tbl m (n + 3)) (.ex (.call 20 (.cons false (.var 2) (.cons false (.lst (.cons false (.var 10) (.nil))) (.cons false (.var 3) (.nil)))))) [s0, s1, .shr p.d, .shr (.int a), s4, s5, s6, s7, .shr (ev4 z), .shr (.bool b), .shr (.int x), .shr (.bool false), s12, .un] = .ok ((clo p a [x]).map .int, [s0, s1, .shr p.d, .shr (.int a), s4, s5, s6, s7, .shr (ev4 z), .shr (.bool b), .shr (.int x), .shr (.bool false), s12, .un]) := by
    generalize ev4 z = Z at *
    simp [g26, lim]
  have ef : evS (evF tbl m (n + 3)) m 1 (.for_ (.v 12) (.ex (.call 20 (.cons false (.var 2) (.cons false (.lst (.cons false (.var 10) (.nil))) (.cons false (.var 3) (.nil)))))) (.seq nq1 (.skip))) [s0, s1, .shr p.d, .shr (.int a), s4, s5, s6, s7, .shr (ev4 z), .shr (.bool b), .shr (.int x), .shr (.bool false), s12, .un] = .ok (.nxt, [s0, s1, .shr p.d, .shr (.int a), s4, s5, s6, s7, .shr (ev4 z), .shr (.bool b), .shr (.int x), .shr (.bool (nearB p a z.1 x)), s12', .un]) := by
    rw [s_for, ei]
    rw [Bool.false_or] at e2
    exact e2
  unfold nq3
  rw [seq_nxt ea, seq_nxt ef]
  generalize nearB p a z.1 x = N
  generalize ev4 z = Z
  cases b <;> simp [stS]
theorem k4 {p : Play} (h : PlOk p) (hm : 80 < m) {a : Int} {z : Ev × Int} {s0 s1 s4 s5 s6 s7 : Sl} : ∀ {xs : List Int} {b : Bool} {s10 s11 s12 : Sl}, Rg p xs →
    ∃ s10' s11' s12', forGo (fun d ρ => (bt 1 (.v 10) d ρ).bind fun ρ => evS (evF tbl m (n + 3)) m 1 nq3 ρ) (xs.map .int) [s0, s1, .shr p.d, .shr (.int a), s4, s5, s6, s7, .shr (ev4 z), .shr (.bool b), s10, s11, s12, .un]
      = .ok (.nxt, [s0, s1, .shr p.d, .shr (.int a), s4, s5, s6, s7, .shr (ev4 z), .shr (.bool (b && xs.all (nearB p a z.1))), s10', s11', s12', .un]) := by
  intro xs
  induction xs with
  | nil => exact fun {b s10 s11 s12} _ => ⟨s10, s11, s12, by simp [forGo]⟩
  | cons x xs ih =>
    intro b s10 s11 s12 hx
    obtain ⟨y11, y12, e0⟩ := k3 (m := m) (n := n) h hm (a := a) (hx x List.mem_cons_self) (z := z) (b := b) (s0 := s0) (s1 := s1) (s4 := s4) (s5 := s5) (s6 := s6) (s7 := s7) (s11 := s11) (s12 := s12)
    obtain ⟨s10', s11', s12', e2⟩ := ih (b := b && nearB p a z.1 x) (s10 := .shr (.int x)) (s11 := y11) (s12 := y12) fun y hy => hx y (List.mem_cons_of_mem _ hy)
    refine ⟨s10', s11', s12', ?_⟩
    have eb : bt 1 (.v 10) (.int x) [s0, s1, .shr p.d, .shr (.int a), s4, s5, s6, s7, .shr (ev4 z), .shr (.bool b), s10, s11, s12, .un] = .ok [s0, s1, .shr p.d, .shr (.int a), s4, s5, s6, s7, .shr (ev4 z), .shr (.bool b), .shr (.int x), s11, s12, .un] := rfl
    rw [List.map_cons]
    unfold forGo
    rw [eb, Res.bind_ok, e0, Res.bind_ok, List.all_cons, ← Bool.and_assoc]
    exact e2
theorem bad_all (p : Play) (a : Int) (xs : List Int) (e : Ev) : badB p a xs e = (e.1 && !(xs.all (nearB p a e))) := by
  unfold badB orgL
  congr 1
  rw [Bool.eq_iff_iff, decide_eq_true_eq, List.length_filter_lt_length_iff_exists]
  simp
end Lw
set_option maxRecDepth 100000
set_option maxHeartbeats 400000
namespace Lw
open PySem Rt
variable {m n : Nat}
def nq5a : CS := .for_ (.v 10) (.ex (.idx (.var 4) (.var 7))) nq3
def nq5b : CS := .ife (.and (.cmp .eq (.idx (.var 8) (.cst (.int 0))) (.cst (.str "say"))) (.not (.var 9))) (.seq (.exp (.mut .append 6 (.cons false (.bin .add (.tup (.cons false (.var 7) (.nil))) (.slc (.var 8) (.cst (.int 1)) (.cst (.int 3)))) (.nil)))) (.skip)) (.skip)
def nq5 : CS := .seq (.asg (.v 9) (.cst (.bool true))) (.seq nq5a (.seq nq5b (.skip)))
theorem add_1 (j a b : Int) : binR .add (.tuple [.int j]) (.tuple [.int a, .int b]) = .ok (.shr (.tuple [.int j, .int a, .int b])) := rfl
theorem k5 {p : Play} (h : PlOk p) (hm : 80 < m) {a : Int} {A : List PyData} {j : Nat} {x : List Int} (hA : A[j]? = some (setD x)) (hx : Rg p x) {z : Ev × Int} {F : List Br} (hF : F.length < 2000) {s0 s1 s5 s9 s10 s11 s12 : Sl} :
    ∃ s9' s10' s11' s12', evS (evF tbl m (n + 3)) m 1 nq5 [s0, s1, .shr p.d, .shr (.int a), .shr (.list A), s5, .own (.lst (F.map brD)), .shr (.int (j : Nat)), .shr (ev4 z), s9, s10, s11, s12, .un]
      = .ok (.nxt, [s0, s1, .shr p.d, .shr (.int a), .shr (.list A), s5, .own (.lst ((if badB p a x z.1 = true then F ++ [evBr (j : Int) z.1] else F).map brD)), .shr (.int (j : Nat)), .shr (ev4 z), s9', s10', s11', s12', .un]) := by
  have hat : L2.atI A (j : Nat) = some (setD x) := atN hA
  obtain ⟨s10', s11', s12', e2⟩ := k4 (m := m) (n := n) h hm (a := a) (z := z) (s0 := s0) (s1 := s1) (s4 := .shr (.list A)) (s5 := s5) (s6 := .own (.lst (F.map brD))) (s7 := .shr (.int (j : Nat))) (xs := x) (b := true) (s10 := s10) (s11 := s11) (s12 := s12) hx
  rw [Bool.true_and] at e2
  refine ⟨.shr (.bool (x.all (nearB p a z.1))), s10', s11', s12', ?_⟩
  have ea : evS (evF tbl m (n + 3)) m 1 (.asg (.v 9) (.cst (.bool true))) [s0, s1, .shr p.d, .shr (.int a), .shr (.list A), s5, .own (.lst (F.map brD)), .shr (.int (j : Nat)), .shr (ev4 z), s9, s10, s11, s12, .un] = .ok (.nxt, [s0, s1, .shr p.d, .shr (.int a), .shr (.list A), s5, .own (.lst (F.map brD)), .shr (.int (j : Nat)), .shr (ev4 z), .shr (.bool true), s10, s11, s12, .un]) := rfl
  have ei : evI (evF tbl m (n + 3)) (.ex (.idx (.var 4) (.var 7))) [s0, s1, .shr p.d, .shr (.int a), .shr (.list A), s5, .own (.lst (F.map brD)), .shr (.int (j : Nat)), .shr (ev4 z), .shr (.bool true), s10, s11, s12, .un] = .ok (x.map .int, [s0, s1, .shr p.d, .shr (.int a), .shr (.list A), s5, .own (.lst (F.map brD)), .shr (.int (j : Nat)), .shr (ev4 z), .shr (.bool true), s10, s11, s12, .un]) := by
    unfold setD at hat
    generalize ev4 z = Z at *
    generalize F.map brD = B at *
    simp [hat]
  have ef : evS (evF tbl m (n + 3)) m 1 nq5a [s0, s1, .shr p.d, .shr (.int a), .shr (.list A), s5, .own (.lst (F.map brD)), .shr (.int (j : Nat)), .shr (ev4 z), .shr (.bool true), s10, s11, s12, .un] = .ok (.nxt, [s0, s1, .shr p.d, .shr (.int a), .shr (.list A), s5, .own (.lst (F.map brD)), .shr (.int (j : Nat)), .shr (ev4 z), .shr (.bool (x.all (nearB p a z.1))), s10', s11', s12', .un]) := by
    unfold nq5a
    rw [s_for, ei]
    exact e2
  have g0 := ev4_0 z
  have gs := eq_say z.1.1
  have g13 := slc_13 z
  have ga := add_1 (j : Nat) z.1.2.1 z.1.2.2
  have hbr : brD (evBr (j : Int) z.1) = .tuple [.int (j : Nat), .int z.1.2.1, .int z.1.2.2] := rfl
  have hfl : F.length < 16777216 := by omega
  have eb : evS (evF tbl m (n + 3)) m 1 (.seq nq5b (.skip)) [s0, s1, .shr p.d, .shr (.int a), .shr (.list A), s5, .own (.lst (F.map brD)), .shr (.int (j : Nat)), .shr (ev4 z), .shr (.bool (x.all (nearB p a z.1))), s10', s11', s12', .un]
      = .ok (.nxt, [s0, s1, .shr p.d, .shr (.int a), .shr (.list A), s5, .own (.lst ((if badB p a x z.1 = true then F ++ [evBr (j : Int) z.1] else F).map brD)), .shr (.int (j : Nat)), .shr (ev4 z), .shr (.bool (x.all (nearB p a z.1))), s10', s11', s12', .un]) := by
    rw [bad_all]
    generalize x.all (nearB p a z.1) = G at *
    generalize ev4 z = Z at *
    generalize evS' z.1.1 = S at *
    by_cases c1 : z.1.1 = true
    · rw [c1] at gs
      cases G with
      | true => simp [nq5b, g0, gs, c1, Ob.dat]
      | false => simp [nq5b, g0, gs, c1, g13, ga, hbr, lim, hfl, Ob.dat]
    · have c1' : z.1.1 = false := by simpa using c1
      rw [c1'] at gs
      simp [nq5b, g0, gs, c1', Ob.dat]
  unfold nq5
  rw [seq_nxt ea, seq_nxt ef]
  exact eb
theorem k6 {p : Play} (h : PlOk p) (hm : 80 < m) {a : Int} {A : List PyData} {j : Nat} {x : List Int} (hA : A[j]? = some (setD x)) (hx : Rg p x) {s0 s1 s5 : Sl} : ∀ {T : TL} {F : List Br} {s8 s9 s10 s11 s12 : Sl}, F.length + T.length < 2000 →
    ∃ s8' s9' s10' s11' s12', forGo (fun d ρ => (bt 1 (.v 8) d ρ).bind fun ρ => evS (evF tbl m (n + 3)) m 1 nq5 ρ) (T.map ev4) [s0, s1, .shr p.d, .shr (.int a), .shr (.list A), s5, .own (.lst (F.map brD)), .shr (.int (j : Nat)), s8, s9, s10, s11, s12, .un]
      = .ok (.nxt, [s0, s1, .shr p.d, .shr (.int a), .shr (.list A), s5, .own (.lst ((F ++ (T.filter fun z => badB p a x z.1).map fun z => evBr (j : Int) z.1).map brD)), .shr (.int (j : Nat)), s8', s9', s10', s11', s12', .un]) := by
  intro T
  induction T with
  | nil => exact fun {F s8 s9 s10 s11 s12} _ => ⟨s8, s9, s10, s11, s12, by simp [forGo]⟩
  | cons z T ih =>
    intro F s8 s9 s10 s11 s12 hF
    have hF' : F.length + (T.length + 1) < 2000 := by simpa using hF
    obtain ⟨y9, y10, y11, y12, e0⟩ := k5 (m := m) (n := n) h hm (a := a) hA hx (z := z) (F := F) (by omega) (s0 := s0) (s1 := s1) (s5 := s5) (s9 := s9) (s10 := s10) (s11 := s11) (s12 := s12)
    obtain ⟨s8', s9', s10', s11', s12', e2⟩ := ih (F := if badB p a x z.1 = true then F ++ [evBr (j : Int) z.1] else F) (s8 := .shr (ev4 z)) (s9 := y9) (s10 := y10) (s11 := y11) (s12 := y12) (by split <;> (try simp) <;> omega)
    refine ⟨s8', s9', s10', s11', s12', ?_⟩
    have eb : bt 1 (.v 8) (ev4 z) [s0, s1, .shr p.d, .shr (.int a), .shr (.list A), s5, .own (.lst (F.map brD)), .shr (.int (j : Nat)), s8, s9, s10, s11, s12, .un] = .ok [s0, s1, .shr p.d, .shr (.int a), .shr (.list A), s5, .own (.lst (F.map brD)), .shr (.int (j : Nat)), .shr (ev4 z), s9, s10, s11, s12, .un] := rfl
    rw [List.map_cons]
    unfold forGo
    rw [eb, Res.bind_ok, e0, Res.bind_ok]
    have eo : F ++ ((z :: T).filter fun z => badB p a x z.1).map (fun z => evBr (j : Int) z.1) = (if badB p a x z.1 = true then F ++ [evBr (j : Int) z.1] else F) ++ (T.filter fun z => badB p a x z.1).map (fun z => evBr (j : Int) z.1) := by
      rw [List.filter_cons]
      split <;> simp
    rw [eo]
    exact e2
def nq7 : CS := .seq (.for_ (.v 8) (.ex (.idx (.idx (.var 5) (.var 7)) (.cst (.int 1)))) nq5) (.skip)
theorem k7 {p : Play} (h : Sm p) (hm : 80 < m) {a : Int} {j : Nat} (hj : j < gi p a) {s0 s1 s8 s9 s10 s11 s12 : Sl} :
    ∃ s8' s9' s10' s11' s12', evS (evF tbl m (n + 3)) m 1 nq7 [s0, s1, .shr p.d, .shr (.int a), .shr (.list (setsD p a)), .shr (.tuple (cutL p a)), .own (.lst ((badF p a j).map brD)), .shr (.int (j : Nat)), s8, s9, s10, s11, s12, .un]
      = .ok (.nxt, [s0, s1, .shr p.d, .shr (.int a), .shr (.list (setsD p a)), .shr (.tuple (cutL p a)), .own (.lst ((badF p a (j + 1)).map brD)), .shr (.int (j : Nat)), s8', s9', s10', s11', s12', .un]) := by
  obtain ⟨x, hx1, hx2⟩ := (gi_ok h a).at hj
  obtain ⟨hr, hl⟩ := h.at hx1
  have h64 := gi_le h a
  have hF := badF_len h a j
  have hT := (lineT_up h (a := a) (i := j)).2
  have hA : (setsD p a)[j]? = some (setD x) := by unfold setsD; rw [List.getElem?_map, hx2]; rfl
  obtain ⟨s8', s9', s10', s11', s12', e2⟩ := k6 (m := m) (n := n) h.ok hm (a := a) hA hr (s0 := s0) (s1 := s1) (s5 := .shr (.tuple (cutL p a))) (T := lineT p a j) (F := badF p a j) (s8 := s8) (s9 := s9) (s10 := s10) (s11 := s11) (s12 := s12) (by omega)
  rw [← badAt_at hx1] at e2
  refine ⟨s8', s9', s10', s11', s12', ?_⟩
  have hat : L2.atI (cutL p a) (j : Nat) = some (.tuple [.bool (restT p a j), .tuple ((lineT p a j).map ev4)]) := atN (by
    unfold cutL toldT
    rw [List.getElem?_map, List.getElem?_range hj]
    rfl)
  have ei : evI (evF tbl m (n + 3)) (.ex (.idx (.idx (.var 5) (.var 7)) (.cst (.int 1)))) [s0, s1, .shr p.d, .shr (.int a), .shr (.list (setsD p a)), .shr (.tuple (cutL p a)), .own (.lst ((badF p a j).map brD)), .shr (.int (j : Nat)), s8, s9, s10, s11, s12, .un] = .ok ((lineT p a j).map ev4, [s0, s1, .shr p.d, .shr (.int a), .shr (.list (setsD p a)), .shr (.tuple (cutL p a)), .own (.lst ((badF p a j).map brD)), .shr (.int (j : Nat)), s8, s9, s10, s11, s12, .un]) := by
    generalize cutL p a = C at *
    generalize setsD p a = A at *
    generalize (badF p a j).map brD = B
    generalize (lineT p a j).map ev4 = E at *
    simp [hat, at1]
  have ef : evS (evF tbl m (n + 3)) m 1 (.for_ (.v 8) (.ex (.idx (.idx (.var 5) (.var 7)) (.cst (.int 1)))) nq5) [s0, s1, .shr p.d, .shr (.int a), .shr (.list (setsD p a)), .shr (.tuple (cutL p a)), .own (.lst ((badF p a j).map brD)), .shr (.int (j : Nat)), s8, s9, s10, s11, s12, .un] = .ok (.nxt, [s0, s1, .shr p.d, .shr (.int a), .shr (.list (setsD p a)), .shr (.tuple (cutL p a)), .own (.lst ((badF p a j ++ badAt p a j).map brD)), .shr (.int (j : Nat)), s8', s9', s10', s11', s12', .un]) := by
    rw [s_for, ei]
    exact e2
  unfold nq7
  rw [seq_nxt ef]
  rfl
theorem k8 {p : Play} (h : Sm p) (hm : 80 < m) {a : Int} {s0 s1 : Sl} : ∀ (c j : Nat) {s7 s8 s9 s10 s11 s12 : Sl}, j + c = gi p a →
    ∃ s7' s8' s9' s10' s11' s12', forGo (fun d ρ => (bt 1 (.v 7) d ρ).bind fun ρ => evS (evF tbl m (n + 3)) m 1 nq7 ρ) ((List.range' j c).map fun i : Nat => PyData.int (i : Int)) [s0, s1, .shr p.d, .shr (.int a), .shr (.list (setsD p a)), .shr (.tuple (cutL p a)), .own (.lst ((badF p a j).map brD)), s7, s8, s9, s10, s11, s12, .un]
      = .ok (.nxt, [s0, s1, .shr p.d, .shr (.int a), .shr (.list (setsD p a)), .shr (.tuple (cutL p a)), .own (.lst ((badF p a (j + c)).map brD)), s7', s8', s9', s10', s11', s12', .un]) := by
  intro c
  induction c with
  | zero => exact fun j {s7 s8 s9 s10 s11 s12} _ => ⟨s7, s8, s9, s10, s11, s12, rfl⟩
  | succ c ih =>
    intro j s7 s8 s9 s10 s11 s12 hj
    obtain ⟨y8, y9, y10, y11, y12, e⟩ := k7 (m := m) (n := n) h hm (a := a) (j := j) (by omega) (s0 := s0) (s1 := s1) (s8 := s8) (s9 := s9) (s10 := s10) (s11 := s11) (s12 := s12)
    obtain ⟨z7, z8, z9, z10, z11, z12, e2⟩ := ih (j + 1) (s7 := .shr (.int (j : Nat))) (s8 := y8) (s9 := y9) (s10 := y10) (s11 := y11) (s12 := y12) (by omega)
    refine ⟨z7, z8, z9, z10, z11, z12, ?_⟩
    have eb : bt 1 (.v 7) (.int (j : Nat)) [s0, s1, .shr p.d, .shr (.int a), .shr (.list (setsD p a)), .shr (.tuple (cutL p a)), .own (.lst ((badF p a j).map brD)), s7, s8, s9, s10, s11, s12, .un] = .ok [s0, s1, .shr p.d, .shr (.int a), .shr (.list (setsD p a)), .shr (.tuple (cutL p a)), .own (.lst ((badF p a j).map brD)), .shr (.int (j : Nat)), s8, s9, s10, s11, s12, .un] := rfl
    rw [List.range'_succ, List.map_cons]
    unfold forGo
    rw [eb, Res.bind_ok, e, Res.bind_ok, show j + (c + 1) = j + 1 + c by omega]
    exact e2
end Lw
set_option maxRecDepth 100000
set_option maxHeartbeats 400000
namespace Lw
open PySem Rt
variable {m n : Nat}
def v1 : CS := .asg (.cons (.v 4) (.cons (.v 5) (.nil))) (.call 22 (.cons false (.var 2) (.cons false (.var 3) (.nil))))
def v3 : CS := .for_ (.v 7) (.rng1 (.bi .len (.cons false (.var 4) (.nil)))) nq7
def v4 : CS := .ife (.not (.call 15 (.cons false (.call 13 (.cons false (.var 2) (.cons false (.var 3) (.nil)))) (.cons false (.bi .tuple (.cons false (.bi .sorted (.cons false (.var 6) (.nil))) (.nil))) (.nil))))) (.seq (.ret (.cst (.bool false))) (.skip)) (.skip)
def b23 : CS := .seq v1 (.seq (.asg (.v 6) (.lst (.nil))) (.seq v3 (.seq v4 (.skip))))
theorem line_12 {p : Play} (h : Sm p) (a : Int) (j : Nat) : (lineT p a j).length ≤ 12 := by
  cases hx : (seqS p a j)[j]? with
  | none =>
    have : lineT p a j = [] := by unfold lineT; rw [hx]
    rw [this]
    simp
  | some x =>
    have h6 := h.six
    obtain ⟨hr, hl⟩ := sub_rg ((seqS_ok a j).2 x (List.mem_of_getElem? hx))
    obtain ⟨_, _, _, g, _⟩ := fSo (m := 0) (Φ := evF tbl 0 1) (p := p) (a := a) (s1 := .un) (B := b27o) (fun hx hg hc => f27o (m := 0) (n := 0) h.ok h.few hx hg hc) (xs := x) (es := []) (c := 0) (x4 := .un) (x5 := .un) (x6 := .un) hr ⟨Nat.le_refl _, fun z hz => (nomatch hz), fun z hz => (nomatch hz), fun z hz => (nomatch hz), by simp⟩ (by omega)
    have gl : (sE p a x).length ≤ 0 + 2 * x.length := g.len
    rw [lineT_at hx]
    unfold stps
    rw [List.length_map, List.length_map, (sortP_perm (sE p a x)).length_eq]
    omega
theorem bad_12 {p : Play} (h : Sm p) (a : Int) : ∀ j, (badF p a j).length ≤ 12 * j
  | 0 => Nat.zero_le _
  | j + 1 => by
    have h1 := bad_12 h a j
    have h2 : (badAt p a j).length ≤ 12 := by
      unfold badAt
      split
      · rw [List.length_map]
        exact Nat.le_trans (List.length_filter_le _ _) (line_12 h a j)
      · exact Nat.zero_le _
    unfold badF
    rw [List.length_append]
    omega
theorem als_bad {p : Play} (h : Sm p) (a : Int) : Als 2 (.tuple ((sortBr (badL p a)).map brD)) := by
  have h1 := bad_12 h a (gi p a)
  have h2 := gi_le h a
  have h3 := (sortBr_perm (badL p a)).length_eq
  have h4 : (badL p a).length ≤ 12 * 64 := by unfold badL; omega
  refine .tup (by rw [List.length_map]; omega) fun d hd => ?_
  obtain ⟨z, _, rfl⟩ := List.mem_map.mp hd
  refine .tup (by simp) fun d hd => ?_
  simp only [List.mem_cons, List.not_mem_nil, or_false] at hd
  rcases hd with rfl | rfl | rfl <;> exact .leaf rfl
theorem kA {p : Play} (h : Sm p) (hm : 80 < m) {a : Int} (ha : 0 ≤ a ∧ a < p.k) {s0 s1 s4 s5 s6 s7 s8 s9 s10 s11 s12 : Sl} :
    ∃ s4' s5' s6' s7' s8' s9' s10' s11' s12', evS (evF tbl m (n + 20)) m 1 b23 [s0, s1, .shr p.d, .shr (.int a), s4, s5, s6, s7, s8, s9, s10, s11, s12, .un]
      = .ok (.nxt, [s0, s1, .shr p.d, .shr (.int a), s4', s5', s6', s7', s8', s9', s10', s11', s12', .un]) := by
  have g28 := f28' (m := m) (n := n + 16) h hm (a := a)
  have g13 := kBad (m := m) (n := n + 14) h hm ha
  have q13 := g21 (m := m) (n := n + 17) (als_bad h a)
  obtain ⟨s7', s8', s9', s10', s11', s12', e2⟩ := k8 (m := m) (n := n + 17) h hm (a := a) (s0 := s0) (s1 := s1) (gi p a) 0 (s7 := s7) (s8 := s8) (s9 := s9) (s10 := s10) (s11 := s11) (s12 := s12) (by omega)
  simp only [Nat.add_assoc, Nat.reduceAdd] at g28 g13 q13 e2
  rw [Nat.zero_add] at e2
  refine ⟨.shr (.list (setsD p a)), .shr (.tuple (cutL p a)), .own (.lst ((badL p a).map brD)), s7', s8', s9', s10', s11', s12', ?_⟩
  have e1 : evS (evF tbl m (n + 20)) m 1 v1 [s0, s1, .shr p.d, .shr (.int a), s4, s5, s6, s7, s8, s9, s10, s11, s12, .un] = .ok (.nxt, [s0, s1, .shr p.d, .shr (.int a), .shr (.list (setsD p a)), .shr (.tuple (cutL p a)), s6, s7, s8, s9, s10, s11, s12, .un]) := by
    show ((evE (evF tbl m (n + 20)) (.call 22 (.cons false (.var 2) (.cons false (.var 3) (.nil)))) _).bind _) = _
    generalize setsD p a = A at *
    generalize cutL p a = B at *
    simp [g28, bt, bts]
  have e6 : evS (evF tbl m (n + 20)) m 1 (.asg (.v 6) (.lst (.nil))) [s0, s1, .shr p.d, .shr (.int a), .shr (.list (setsD p a)), .shr (.tuple (cutL p a)), s6, s7, s8, s9, s10, s11, s12, .un] = .ok (.nxt, [s0, s1, .shr p.d, .shr (.int a), .shr (.list (setsD p a)), .shr (.tuple (cutL p a)), .own (.lst ((badF p a 0).map brD)), s7, s8, s9, s10, s11, s12, .un]) := by
    generalize setsD p a = A
    generalize cutL p a = B
    simp [lim, stS, badF]
  have hr : okRng (((setsD p a).length : Nat) : Int) = true := by
    have := gi_le h a
    rw [setsD_len h]
    unfold okRng
    simp
    omega
  have ei : evI (evF tbl m (n + 20)) (.rng1 (.bi .len (.cons false (.var 4) (.nil)))) [s0, s1, .shr p.d, .shr (.int a), .shr (.list (setsD p a)), .shr (.tuple (cutL p a)), .own (.lst ((badF p a 0).map brD)), s7, s8, s9, s10, s11, s12, .un] = .ok ((List.range' 0 (gi p a)).map fun i : Nat => PyData.int (i : Int), [s0, s1, .shr p.d, .shr (.int a), .shr (.list (setsD p a)), .shr (.tuple (cutL p a)), .own (.lst ((badF p a 0).map brD)), s7, s8, s9, s10, s11, s12, .un]) := by
    have e := rng_map (gi p a)
    rw [List.range_eq_range'] at e
    rw [← e]
    have e3 := setsD_len h a
    rw [← e3]
    generalize setsD p a = A at *
    generalize cutL p a = B
    generalize (badF p a 0).map brD = C
    simp [hr]
  have ef : evS (evF tbl m (n + 20)) m 1 v3 [s0, s1, .shr p.d, .shr (.int a), .shr (.list (setsD p a)), .shr (.tuple (cutL p a)), .own (.lst ((badF p a 0).map brD)), s7, s8, s9, s10, s11, s12, .un] = .ok (.nxt, [s0, s1, .shr p.d, .shr (.int a), .shr (.list (setsD p a)), .shr (.tuple (cutL p a)), .own (.lst ((badL p a).map brD)), s7', s8', s9', s10', s11', s12', .un]) := by
    unfold v3
    rw [s_for, ei]
    exact e2
  have hl : (badL p a).length ≤ lim := by
    have h1 := badF_len h a (gi p a)
    have h2 := gi_le h a
    have : (2000 : Nat) ≤ lim := by decide
    unfold badL
    omega
  have gs := sorted_br hl
  unfold b23
  rw [seq_nxt e1, seq_nxt e6, seq_nxt ef]
  generalize setsD p a = A at *
  generalize cutL p a = B at *
  generalize (badL p a).map brD = C at *
  generalize (sortBr (badL p a)).map brD = D at *
  simp [v4, g13, gs, q13, tup_l, Ob.dat]
def d23a : CS := .asg (.v 1) (.lst (.cons false (.var 0) (.cons false (.cst (.int 0)) (.cons false (.cst (.int 10107)) (.cons false (.cst (.int 0)) (.nil))))))
def d23b : CS := .asg (.v 2) (.call 17 (.cons false (.var 1) (.cons false (.bin .add (.cst (.int 2)) (.call 14 (.cons false (.var 1) (.cons false (.cst (.int 3)) (.nil))))) (.cons false (.cst (.int 5)) (.cons false (.cmp .eq (.call 14 (.cons false (.var 1) (.cons false (.cst (.int 2)) (.nil)))) (.cst (.int 0))) (.nil))))))
def d23f : CS := .for_ (.v 3) (.rng1 (.idx (.var 2) (.cst (.int 0)))) b23
theorem c23_eq : c23 = .seq d23a (.seq d23b (.seq d23f (.seq (.ret (.cst (.bool true))) (.skip)))) := rfl
theorem k23b {r : Row} (h : RowOk r) {a0 : Sl} : ∃ (p : Play) (r' : Row), Sm p ∧ RowOk r' ∧ evS (evF tbl m (n + 20)) m 1 d23b [a0, .own (.lst r.ds), .un, .un, .un, .un, .un, .un, .un, .un, .un, .un, .un, .un]
    = .ok (.nxt, [a0, .own (.lst r'.ds), .shr p.d, .un, .un, .un, .un, .un, .un, .un, .un, .un, .un, .un]) := by
  obtain ⟨z1, r1, z1a, z1b, o1, nq1, e1⟩ := f15 (m := m) (n := n + 19) h (k := 3) (by omega) (by omega)
  obtain ⟨z2, r2, z2a, z2b, o2, n2, e2⟩ := f15 (m := m) (n := n + 19) o1 (k := 2) (by omega) (by omega)
  obtain ⟨scs, r3, ok, l1, l5, two, _, o3, nq3, e3⟩ := f18 (m := m) (n := n + 17) o2 (k := 2 + z1) (most := 5) (loops := decide (z2 = 0)) (by omega) (by omega) (by decide) (by decide)
  refine ⟨⟨2 + z1, scs.map some ++ [none]⟩, r3, ⟨ok, fun x => ?_, by show (scs.map some ++ [none]).length ≤ 6; simp; omega⟩, o3, ?_⟩
  · unfold brsAt
    cases hq : scAt ⟨2 + z1, scs.map some ++ [none]⟩ x with
    | none => exact Nat.zero_le _
    | some q =>
      have hm := sc_mem hq
      have hm : some q ∈ scs.map some ++ [none] := hm
      have : q ∈ scs := by simpa using hm
      exact two q this
  · simp only [Nat.add_assoc, Nat.reduceAdd] at e1 e2 e3
    generalize Play.d _ = P at e3 ⊢
    simp [d23b, e1, e2, e3, stS]
theorem k23l {p : Play} (h : Sm p) (hm : 80 < m) {s0 s1 : Sl} : ∀ (c j : Nat) {s3 s4 s5 s6 s7 s8 s9 s10 s11 s12 : Sl}, j + c = p.k.toNat →
    ∃ s3' s4' s5' s6' s7' s8' s9' s10' s11' s12', forGo (fun d ρ => (bt 1 (.v 3) d ρ).bind fun ρ => evS (evF tbl m (n + 20)) m 1 b23 ρ) ((List.range' j c).map fun i : Nat => PyData.int (i : Int)) [s0, s1, .shr p.d, s3, s4, s5, s6, s7, s8, s9, s10, s11, s12, .un]
      = .ok (.nxt, [s0, s1, .shr p.d, s3', s4', s5', s6', s7', s8', s9', s10', s11', s12', .un]) := by
  have hk := h.ok.k2
  intro c
  induction c with
  | zero => exact fun j {s3 s4 s5 s6 s7 s8 s9 s10 s11 s12} _ => ⟨s3, s4, s5, s6, s7, s8, s9, s10, s11, s12, rfl⟩
  | succ c ih =>
    intro j s3 s4 s5 s6 s7 s8 s9 s10 s11 s12 hj
    obtain ⟨y4, y5, y6, y7, y8, y9, y10, y11, y12, e⟩ := kA (m := m) (n := n) h hm (a := (j : Nat)) ⟨by omega, by omega⟩ (s0 := s0) (s1 := s1) (s4 := s4) (s5 := s5) (s6 := s6) (s7 := s7) (s8 := s8) (s9 := s9) (s10 := s10) (s11 := s11) (s12 := s12)
    obtain ⟨z3, z4, z5, z6, z7, z8, z9, z10, z11, z12, e2⟩ := ih (j + 1) (s3 := .shr (.int (j : Nat))) (s4 := y4) (s5 := y5) (s6 := y6) (s7 := y7) (s8 := y8) (s9 := y9) (s10 := y10) (s11 := y11) (s12 := y12) (by omega)
    refine ⟨z3, z4, z5, z6, z7, z8, z9, z10, z11, z12, ?_⟩
    have eb : bt 1 (.v 3) (.int (j : Nat)) [s0, s1, .shr p.d, s3, s4, s5, s6, s7, s8, s9, s10, s11, s12, .un] = .ok [s0, s1, .shr p.d, .shr (.int (j : Nat)), s4, s5, s6, s7, s8, s9, s10, s11, s12, .un] := rfl
    rw [List.range'_succ, List.map_cons]
    unfold forGo
    rw [eb, Res.bind_ok, e, Res.bind_ok]
    exact e2
theorem law_ev (hm : 80 < m) (ns : List Int) : ∃ r, evF tbl m (n + 21) 23 [.shr (.list (ns.map .int))] = .ok (.shr (.bool true), r) := by
  rw [call_F (np := 1) (ns := 14) (c := c23) rfl rfl]
  have ea : evS (evF tbl m (n + 20)) m 1 d23a [.shr (.list (ns.map .int)), .un, .un, .un, .un, .un, .un, .un, .un, .un, .un, .un, .un, .un]
      = .ok (.nxt, [.shr (.list (ns.map .int)), .own (.lst (Row.ds ⟨ns, 0, 10107, 0⟩)), .un, .un, .un, .un, .un, .un, .un, .un, .un, .un, .un, .un]) := rfl
  obtain ⟨p, r1, h, o1, eb⟩ := k23b (m := m) (n := n) (r := ⟨ns, 0, 10107, 0⟩) ⟨Int.le_refl _, (by decide : (0 : Int) ≤ 10107), (by decide : (10107 : Int) < 2147483647)⟩ (a0 := .shr (.list (ns.map .int)))
  obtain ⟨r1', r2'⟩ := rng_k h.ok
  obtain ⟨z3, z4, z5, z6, z7, z8, z9, z10, z11, z12, ef⟩ := k23l (m := m) (n := n) h hm (s0 := .shr (.list (ns.map .int))) (s1 := .own (.lst r1.ds)) p.k.toNat 0 (s3 := .un) (s4 := .un) (s5 := .un) (s6 := .un) (s7 := .un) (s8 := .un) (s9 := .un) (s10 := .un) (s11 := .un) (s12 := .un) (by omega)
  have ei : evI (evF tbl m (n + 20)) (.rng1 (.idx (.var 2) (.cst (.int 0)))) [.shr (.list (ns.map .int)), .own (.lst r1.ds), .shr p.d, .un, .un, .un, .un, .un, .un, .un, .un, .un, .un, .un]
      = .ok ((List.range' 0 p.k.toNat).map fun i : Nat => PyData.int (i : Int), [.shr (.list (ns.map .int)), .own (.lst r1.ds), .shr p.d, .un, .un, .un, .un, .un, .un, .un, .un, .un, .un, .un]) := by
    rw [← List.range_eq_range', ← r2']
    simp [Play.d, at0, r1']
  have eg : evS (evF tbl m (n + 20)) m 1 d23f [.shr (.list (ns.map .int)), .own (.lst r1.ds), .shr p.d, .un, .un, .un, .un, .un, .un, .un, .un, .un, .un, .un]
      = .ok (.nxt, [.shr (.list (ns.map .int)), .own (.lst r1.ds), .shr p.d, z3, z4, z5, z6, z7, z8, z9, z10, z11, z12, .un]) := by
    unfold d23f
    rw [s_for, ei]
    exact ef
  refine ⟨[.shr (.list (ns.map .int))], ?_⟩
  have e : evS (evF tbl m (n + 20)) m 1 c23 [.shr (.list (ns.map .int)), .un, .un, .un, .un, .un, .un, .un, .un, .un, .un, .un, .un, .un] = .ok (.ret (.shr (.bool true)), [.shr (.list (ns.map .int)), .own (.lst r1.ds), .shr p.d, z3, z4, z5, z6, z7, z8, z9, z10, z11, z12, .un]) := by
    rw [c23_eq, seq_nxt ea, seq_nxt eb, seq_nxt eg]
    rfl
  show (evS (evF tbl m (n + 20)) m 1 c23 [.shr (.list (ns.map .int)), .un, .un, .un, .un, .un, .un, .un, .un, .un, .un, .un, .un, .un]).bind _ = _
  rw [e]
  rfl
theorem law_ok : ∀ ns : List Int, ns.length ≤ 63 → ∃ r, evF tbl 4000 150 23 [.shr (.list (ns.map .int))] = .ok (.shr (.bool true), r) := fun ns _ => law_ev (m := 4000) (n := 129) (by decide) ns
end Lw
theorem PySem.Challenge.cw_roletalks_k07_whole_bad_says_holds : PySem.Challenge.rw_roletalks_k07_whole_bad_says.Holds := by
  exact Lw.law_end Lw.law_ok
