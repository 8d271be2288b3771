import PyProof.Rows.All
import KE.LtData
import KE.SortKeyed
import KE.DataEq
import Wide.All
import OpenK.AllK
import Wide.FinOn
import HandS.ForMost
import HandS.ForExc
import HandS.TupAny
import HandS.TupMul
import HandS.Conv
import HandS.Style
import HandS.Zip
import HandS.SortInts
import HandS.IsInst
import HandS.Deep
import HandS.CallSlots
import HandS.Wide
import HandS.Defaults
import KE.KDictKeyed
import KE.KDictWalk
import KE.KeyNested
import KE.SortData
import KE.GoesMore
import KE.GoesEnum
import KE.GoesZip
import HandS.Exc
import HandS.ExcOwn
import HandS.HeadHook1
import PyProof.ExcBaseAll.ValueError
import KE.DataFind
import KE.KStateDown
import HandS.Ends
import HandS.More
import HandS.Words
import HandS.WordsExc
import HandS.Head0
import HandS.Head1
import HandS.Head2
import HandS.HeadEnd
import HandS.HeadHook2
import PySem.Challenge.RW_upgradeclasses_k21_whole_losses_raised_a
set_option linter.all false
/-! Layer D, part A: a small language on plain data, its evaluator. -/
namespace DL
open PySem (Str PyData)

abbrev D := PyData
/-- a slot: nothing; shared data; a list or dict that the def owns; one that the caller has lent (in-out) -/
inductive Sl where | non | sh (d : D) | ow (d : D) | io (d : D)
abbrev Env := List Sl
/-- a value in hand: shared; new and owned; the owned thing of slot i -/
inductive RV where | sh (d : D) | ow (d : D) | br (i : Nat)
inductive Res (α : Type) where | ok (a : α) (δ : Env) | exc (c : Str) (δ : Env) | bad
/-- a def's end: r is shared or new -/
inductive FRes where | ok (r : RV) | exc (c : Str) | bad
/-- .. of a def that changes its first argument -/
inductive FResI where | ok (r : RV) (d0 : D) | exc (c : Str) (d0 : D) | bad
abbrev Fn := List D → FRes
abbrev FnI := D → List D → FResI
inductive Flow where | next | brk | ret (r : RV)
abbrev Ev := Env → Res RV
abbrev SEv := Env → Res Flow

def Res.bind {α β : Type} (r : Res α) (f : α → Env → Res β) : Res β := match r with
  | .ok a δ => f a δ
  | .exc c δ => .exc c δ
  | .bad => .bad
@[simp] theorem Res.bind_ok {α β : Type} (a : α) (δ : Env) (f : α → Env → Res β) : (Res.ok a δ).bind f = f a δ := rfl
@[simp] theorem Res.bind_exc {α β : Type} (c : Str) (δ : Env) (f : α → Env → Res β) : (Res.exc c δ : Res α).bind f = .exc c δ := rfl
@[simp] theorem Res.bind_bad {α β : Type} (f : α → Env → Res β) : (Res.bad : Res α).bind f = .bad := rfl

def getS (δ : Env) (i : Nat) : Sl := δ.getD i .non
def dat (δ : Env) : RV → Option D
  | .sh d => some d
  | .ow d => some d
  | .br i => match getS δ i with
    | .non => none
    | .sh d => some d
    | .ow d => some d
    | .io d => some d
def dats (δ : Env) : List RV → Option (List D)
  | [] => some []
  | r :: rs => match dat δ r with
    | none => none
    | some d => match dats δ rs with
      | none => none
      | some ds => some (d :: ds)
def hold : RV → RV
  | .ow d => .sh d
  | r => r
/-- to be kept by another: shared from now on -/
def frz (δ : Env) : RV → Option (D × Env)
  | .sh d => some (d, δ)
  | .ow d => some (d, δ)
  | .br i => match getS δ i with
    | .sh d => some (d, δ)
    | .ow d => some (d, δ.set i (.sh d))
    | _ => none
def frzs (δ : Env) : List RV → Option (List D × Env)
  | [] => some ([], δ)
  | r :: rs => match frz δ r with
    | none => none
    | some (d, δ1) => match frzs δ1 rs with
      | none => none
      | some (ds, δ2) => some (d :: ds, δ2)
/-- name = .. -/
def setS (δ : Env) (i : Nat) (x : Sl) : Option Env := match getS δ i with
  | .io _ => none
  | _ => if i < δ.length then some (δ.set i x) else none
def setR (δ : Env) (i : Nat) : RV → Option Env
  | .sh d => setS δ i (.sh d)
  | .ow d => setS δ i (.ow d)
  | .br j => match getS δ j with
    | .sh d => setS δ i (.sh d)
    | .ow d => setS (δ.set j .non) i (.ow d)
    | _ => none
/-- the owned thing at slot i is changed -/
def putS (δ : Env) (i : Nat) (d : D) : Option Env := match getS δ i with
  | .ow _ => some (δ.set i (.ow d))
  | .io _ => some (δ.set i (.io d))
  | _ => none
def ownS (δ : Env) (i : Nat) : Option D := match getS δ i with
  | .ow d => some d
  | .io d => some d
  | _ => none

def isOwn : Sl → Bool
  | .ow _ => true
  | .io _ => true
  | _ => false
/-- slot i bears an owned thing -/
def needOwn {α : Type} (δ : Env) (i : Nat) (r : Res α) : Res α := if isOwn (getS δ i) then r else .bad

/-- slot i bears an owned list -/
def needL {α : Type} (δ : Env) (i : Nat) (r : Res α) : Res α := match ownS δ i with
  | some (.list _) => r
  | _ => .bad
/-- dicts are covered -/
def dictsOn : Bool := false

/-! ### operations on data -/
inductive Ty where | int | bool | str | list | tuple deriving DecidableEq
def Ty.is : Ty → D → Bool
  | .int, .int _ => true
  | .int, .bool _ => true
  | .bool, .bool _ => true
  | .str, .str _ => true
  | .list, .list _ => true
  | .tuple, .tuple _ => true
  | _, _ => false
abbrev big : Nat := 16777216
def b2i (b : Bool) : Int := if b then 1 else 0
def sIx (n d : Nat) : Option Int → Nat
  | none => d
  | some v => if v < 0 then (v + (n : Int)).toNat else min v.toNat n
def cut {α : Type} (xs : List α) (lo hi : Option Int) : List α := (xs.drop (sIx xs.length 0 lo)).take (sIx xs.length xs.length hi - sIx xs.length 0 lo)
def ixN (n : Nat) (i : Int) : Option Nat := if 0 ≤ i then (if i < n then some i.toNat else none) else if -(n : Int) ≤ i then some (i + n).toNat else none
def atI {α : Type} (xs : List α) (i : Int) : Option α := (ixN xs.length i).bind fun j => xs[j]?
def okMul (i j : Int) : Bool := decide (-(2 ^ 64) < i) && decide (i < 2 ^ 64) || decide (-(2 ^ 64) < j) && decide (j < 2 ^ 64) || decide (i.natAbs < 2 ^ 8000) && decide (j.natAbs < 2 ^ 8000)
/-- data that == is known of -/
def plainD (d : D) : Bool := d.plain && decide (d.depth ≤ 60)
/-- a dict's look-up, by == of the keys -/
def lookD : List (D × D) → D → Option D
  | [], _ => none
  | (k', v) :: r, k => if PyData.eqv k' k then some v else lookD r k
def putD : List (D × D) → D → D → List (D × D)
  | [], k, v => [(k, v)]
  | (k', w) :: r, k, v => if PyData.eqv k' k then (k', v) :: r else (k', w) :: putD r k v
/-- a key: an int, a text, None, a tuple of these -/
def flatKey : D → Bool
  | .none => true
  | .int _ => true
  | .str _ => true
  | _ => false
def isKey : D → Bool
  | .tuple ds => ds.all flatKey
  | _ => false
def isKeyI : D → Bool
  | .int _ => true
  | _ => false
def keysFit (kvs : List (D × D)) (k : D) : Bool := (kvs.all fun p => isKey p.1) && isKey k || (kvs.all fun p => isKeyI p.1) && isKeyI k
def scalar : D → Bool
  | .none => true
  | .bool _ => true
  | .int _ => true
  | .str _ => true
  | _ => false
def isNone : D → Bool
  | .none => true
  | _ => false
def intsOf : List D → Option (List Int)
  | [] => some []
  | .int i :: r => (intsOf r).map (i :: ·)
  | _ :: _ => none
def boolsOf : List D → Option (List Bool)
  | [] => some []
  | .bool b :: r => (boolsOf r).map (b :: ·)
  | _ :: _ => none
def rangeD (a b : Int) : List D := (List.range (b - a).toNat).map fun i => .int (a + (i : Nat))
def rangeOk (a b : Int) : Bool := decide (-(2 ^ 62) ≤ a) && decide (a < 2 ^ 62) && decide (-(2 ^ 62) ≤ b) && decide (b < 2 ^ 62) && decide ((b - a).toNat ≤ big)
def sortD (ds : List D) : List D := ds.mergeSort (PySem.W.dataLe false id)
def leastD : List D → Option D
  | [] => none
  | d :: ds => some (ds.foldl (fun m x => if PySem.W.dataLt x m then x else m) d)
def mostD : List D → Option D
  | [] => none
  | d :: ds => some (ds.foldl (fun m x => if PySem.W.dataLt m x then x else m) d)
def alikeD (ds : List D) : Bool := ds.all fun x => ds.all fun y => PySem.W.alike x y

inductive Op where
  | add | sub | mul | fdiv | mod | pow | neg
  | eq | ne | lt | le | gt | ge | isin | notin | is_ | isnot
  | idx | slc (lo hi : Bool) | rev
  | len | sum | mn | mx | mn2 | mx2 | sorted | list | tuple | int | str | all | any
  | lrng1 | lrng2 | trng1 | trng2
  | count | index | get1 | get2
  | isi (t : Ty) | isi2 (t u : Ty)

def addD : D → D → Option RV
  | .int i, .int j => some (.sh (.int (i + j)))
  | .list a, .list b => if a.length + b.length ≤ big then some (.ow (.list (a ++ b))) else none
  | .tuple a, .tuple b => if a.length + b.length ≤ big then some (.sh (.tuple (a ++ b))) else none
  | .str a, .str b => if a.length + b.length ≤ big then some (.sh (.str (a ++ b))) else none
  | .bool a, .int j => some (.sh (.int (b2i a + j)))
  | _, _ => none
def subD : D → D → Option RV
  | .int i, .int j => some (.sh (.int (i - j)))
  | .bool a, .int j => some (.sh (.int (b2i a - j)))
  | _, _ => none
def mulD : D → D → Option RV
  | .int i, .int j => if okMul i j then some (.sh (.int (i * j))) else none
  | .tuple a, .int k => if a.length ≤ 1000 ∧ k ≤ 1000 ∧ -1000 ≤ k then some (.sh (.tuple (List.replicate k.toNat a).flatten)) else none
  | .list a, .int k => if a.length ≤ 1000 ∧ k ≤ 1000 ∧ -1000 ≤ k then some (.ow (.list (List.replicate k.toNat a).flatten)) else none
  | _, _ => none
def fdivD : D → D → Option RV
  | .int i, .int j => if 0 < j ∧ (j < 1073741824 ∨ (i.natAbs < 2 ^ 8000 ∧ j.natAbs < 2 ^ 8000)) then some (.sh (.int (i / j))) else none
  | _, _ => none
def modD : D → D → Option RV
  | .int i, .int j => if 0 < j then some (.sh (.int (i % j))) else none
  | _, _ => none
def powD : D → D → Option RV
  | .int i, .int j => if 0 ≤ j ∧ j ≤ 1000000 ∧ i.natAbs < 2 ^ 64 then some (.sh (.int (i ^ j.toNat))) else none
  | _, _ => none
def negD : D → Option RV
  | .int i => some (.sh (.int (-i)))
  | _ => none
def boolR (b : Bool) : Option RV := some (.sh (.bool b))
def eqD (a b : D) : Option RV := if plainD a && plainD b then boolR (PyData.eqv a b) else none
def neD (a b : D) : Option RV := if plainD a && plainD b then boolR (!PyData.eqv a b) else none
def ltD : D → D → Option RV
  | .int i, .int j => boolR (decide (i < j))
  | _, _ => none
def leD : D → D → Option RV
  | .int i, .int j => boolR (decide (i ≤ j))
  | _, _ => none
def inD (neg : Bool) (x : D) : D → Option RV
  | .list ds => if plainD x && plainD (.list ds) then boolR (xor neg (ds.any fun z => PyData.eqv z x)) else none
  | .tuple ds => if plainD x && plainD (.tuple ds) then boolR (xor neg (ds.any fun z => PyData.eqv z x)) else none
  | .dict kvs => if dictsOn && keysFit kvs x then boolR (xor neg (lookD kvs x).isSome) else none
  | _ => none
def isD (neg : Bool) (x : D) : D → Option RV
  | .none => boolR (xor neg (isNone x))
  | .bool b => match x with
    | .bool a => boolR (xor neg (a == b))
    | _ => none
  | _ => none
def idxD : D → D → Option RV
  | .list ds, .int i => (atI ds i).map .sh
  | .tuple ds, .int i => (atI ds i).map .sh
  | .dict kvs, k => if dictsOn && keysFit kvs k then (lookD kvs k).map .sh else none
  | _, _ => none
def cutD (x : D) (lo hi : Option Int) : Option RV := match x with
  | .list ds => some (.ow (.list (cut ds lo hi)))
  | .tuple ds => some (.sh (.tuple (cut ds lo hi)))
  | _ => none
def slcD : Bool → Bool → List D → Option RV
  | false, false, [x] => cutD x none none
  | true, false, [x, .int a] => cutD x (some a) none
  | false, true, [x, .int b] => cutD x none (some b)
  | true, true, [x, .int a, .int b] => cutD x (some a) (some b)
  | _, _, _ => none
def revD : D → Option RV
  | .list ds => some (.ow (.list ds.reverse))
  | .tuple ds => some (.sh (.tuple ds.reverse))
  | _ => none
def lenD : D → Option RV
  | .list ds => some (.sh (.int ds.length))
  | .tuple ds => some (.sh (.int ds.length))
  | .dict kvs => if dictsOn then some (.sh (.int kvs.length)) else none
  | .str x => if x.length ≤ big then some (.sh (.int x.length)) else none
  | _ => none
def sumD : D → Option RV
  | .list ds => (intsOf ds).map fun ns => .sh (.int ns.sum)
  | _ => none
def minI : List Int → Option Int
  | [] => none
  | x :: xs => some (xs.foldl min x)
def maxI : List Int → Option Int
  | [] => none
  | x :: xs => some (xs.foldl max x)
def mnD : D → Option RV
  | .list ds => (intsOf ds).bind fun ns => (minI ns).map fun m => .sh (.int m)
  | _ => none
def mxD : D → Option RV
  | .list ds => (intsOf ds).bind fun ns => (maxI ns).map fun m => .sh (.int m)
  | _ => none
def mn2D : D → D → Option RV
  | .int i, .int j => some (.sh (.int (min i j)))
  | _, _ => none
def mx2D : D → D → Option RV
  | .int i, .int j => some (.sh (.int (max i j)))
  | _, _ => none
def keysOf (kvs : List (D × D)) : List D := kvs.map (·.1)
/-- all are tuples with an item, or none is a tuple or None -/
def tupD : D → Bool
  | .tuple (_ :: _) => true
  | _ => false
def notTupD : D → Bool
  | .tuple _ => false
  | .none => false
  | _ => true
def shallowD (ds : List D) : Bool := ds.all plainD && (ds.all tupD || ds.all notTupD)
def sortedD : D → Option RV
  | .list ds => if alikeD ds && shallowD ds then some (.ow (.list (sortD ds))) else none
  | .tuple ds => if alikeD ds && shallowD ds then some (.ow (.list (sortD ds))) else none
  | .dict kvs => if dictsOn && alikeD (keysOf kvs) && shallowD (keysOf kvs) then some (.ow (.list (sortD (keysOf kvs)))) else none
  | _ => none
def listD : D → Option RV
  | .list ds => some (.ow (.list ds))
  | .tuple ds => some (.ow (.list ds))
  | .dict kvs => if dictsOn then some (.ow (.list (keysOf kvs))) else none
  | _ => none
def tupleD : D → Option RV
  | .list ds => some (.sh (.tuple ds))
  | .tuple ds => some (.sh (.tuple ds))
  | _ => none
def intD : D → Option RV
  | .int i => some (.sh (.int i))
  | .bool b => some (.sh (.int (b2i b)))
  | _ => none
def strD : D → Option RV
  | .int i => if i.natAbs.log2 < 1920 then some (.sh (.str (toString i))) else none
  | .bool b => some (.sh (.str (if b then PySem.Str.ofString "True" else PySem.Str.ofString "False")))
  | _ => none
def allD : D → Option RV
  | .list ds => (boolsOf ds).map fun bs => .sh (.bool (bs.all id))
  | _ => none
def anyD : D → Option RV
  | .list ds => (boolsOf ds).map fun bs => .sh (.bool (bs.any id))
  | _ => none
def countD (x : D) : D → Option RV
  | .tuple ds => if plainD x && plainD (.tuple ds) then some (.sh (.int (ds.countP fun z => PyData.eqv z x))) else none
  | .list ds => if plainD x && plainD (.list ds) then some (.sh (.int (ds.countP fun z => PyData.eqv z x))) else none
  | _ => none
def indexD (x : D) : D → Option RV
  | .tuple ds => if plainD x && plainD (.tuple ds) then (ds.findIdx? fun z => PyData.eqv z x).map fun j => .sh (.int (j : Nat)) else none
  | _ => none
def getD2 (d k dflt : D) : Option RV := match d with
  | .dict kvs => if dictsOn && keysFit kvs k then some (.sh ((lookD kvs k).getD dflt)) else none
  | _ => none
def rngD (tup : Bool) (a b : Int) : Option RV := if rangeOk a b then some (if tup then .sh (.tuple (rangeD a b)) else .ow (.list (rangeD a b))) else none

def isiD (t : Ty) : D → Option RV
  | .dict _ => none
  | a => boolR (t.is a)
def isi2D (t u : Ty) : D → Option RV
  | .dict _ => none
  | a => boolR (t.is a || u.is a)
def opD : Op → List D → Option RV
  | .add, [a, b] => addD a b
  | .sub, [a, b] => subD a b
  | .mul, [a, b] => mulD a b
  | .fdiv, [a, b] => fdivD a b
  | .mod, [a, b] => modD a b
  | .pow, [a, b] => powD a b
  | .neg, [a] => negD a
  | .eq, [a, b] => eqD a b
  | .ne, [a, b] => neD a b
  | .lt, [a, b] => ltD a b
  | .le, [a, b] => leD a b
  | .gt, [a, b] => ltD b a
  | .ge, [a, b] => leD b a
  | .isin, [a, b] => inD false a b
  | .notin, [a, b] => inD true a b
  | .is_, [a, b] => isD false a b
  | .isnot, [a, b] => isD true a b
  | .idx, [a, b] => idxD a b
  | .slc l h, ds => slcD l h ds
  | .rev, [a] => revD a
  | .len, [a] => lenD a
  | .sum, [a] => sumD a
  | .mn, [a] => mnD a
  | .mx, [a] => mxD a
  | .mn2, [a, b] => mn2D a b
  | .mx2, [a, b] => mx2D a b
  | .sorted, [a] => sortedD a
  | .list, [a] => listD a
  | .tuple, [a] => tupleD a
  | .int, [a] => intD a
  | .str, [a] => strD a
  | .all, [a] => allD a
  | .any, [a] => anyD a
  | .lrng1, [.int b] => rngD false 0 b
  | .lrng2, [.int a, .int b] => rngD false a b
  | .trng1, [.int b] => rngD true 0 b
  | .trng2, [.int a, .int b] => rngD true a b
  | .count, [a, x] => countD x a
  | .index, [a, x] => indexD x a
  | .get1, [d, k] => getD2 d k .none
  | .get2, [d, k, x] => getD2 d k x
  | .isi t, [a] => isiD t a
  | .isi2 t u, [a] => isi2D t u a
  | _, _ => none

/-! ### the language -/
mutual
inductive Tg where
  | name (i : Nat)
  | tup (ts : Tgs)
inductive Tgs where
  | nil
  | cons (t : Tg) (ts : Tgs)
end
mutual
inductive Ex where
  | var (i : Nat)
  | cst (d : D)
  | glb (x : Str) (d : D)
  | op (o : Op) (args : Exs)
  | and (cs : Exs)
  | or (cs : Exs)
  | not (c : Ex)
  | ite (c a b : Ex)
  | chain (a : Ex) (o : Op) (b : Ex) (o' : Op) (c : Ex)
  | call (x : Str) (f : Fn) (args : Exs)
  | callI (x : Str) (f : FnI) (i : Nat) (args : Exs)
  | tup (es : Exs)
  | lst (es : Exs)
  | dct0
  | dct1 (k v : Ex)
  | comp (src : Src) (own : List Nat) (tg : Tg) (test : Exs) (elt : Ex)
  | pop (i : Nat) (args : Exs)
inductive Exs where
  | nil
  | cons (e : Ex) (es : Exs)
inductive Src where
  | seq (e : Ex)
  | rng1 (e : Ex)
  | rng2 (a b : Ex)
  | enum (e : Ex)
  | zip (es : Exs)
end
mutual
inductive St where
  | set (i : Nat) (e : Ex)
  | setT (tg : Tg) (e : Ex)
  | par (is : List Nat) (es : Exs)
  | setI (i : Nat) (k e : Ex)
  | aug (i : Nat) (o : Op) (e : Ex)
  | augI (i : Nat) (k : Ex) (o : Op) (e : Ex)
  | app (i : Nat) (e : Ex)
  | upd (i : Nat) (e : Ex)
  | revs (i : Nat)
  | expr (e : Ex)
  | ifs (c : Ex) (a b : Sts)
  | for_ (tg : Tg) (src : Src) (body : Sts)
  | whl (c : Ex) (body : Sts)
  | ret (e : Ex)
  | retN
  | brk
  | raise (c : Str) (m : Ex)
inductive Sts where
  | nil
  | cons (s : St) (ss : Sts)
end

/-! ### the evaluator -/
mutual
def asg : Tg → D → Env → Option Env
  | .name i, d, δ => setS δ i (.sh d)
  | .tup ts, .tuple ds, δ => asgs ts ds δ
  | .tup _, _, _ => none
def asgs : Tgs → List D → Env → Option Env
  | .nil, [], δ => some δ
  | .cons t ts, d :: ds, δ => match asg t d δ with
    | none => none
    | some δ1 => asgs ts ds δ1
  | _, _, _ => none
end
def okR (r : Option RV) (δ : Env) : Res RV := match r with
  | some r => .ok r δ
  | none => .bad
def eOp (o : Op) (rs : List RV) (δ : Env) : Res RV := match dats δ rs with
  | some ds => okR (opD o ds) δ
  | none => .bad
def tst (r : Res RV) : Res Bool := r.bind fun r δ => match r with
  | .sh (.bool b) => .ok b δ
  | _ => .bad
def eCall (f : Fn) (rs : List RV) (δ : Env) : Res RV := match dats δ rs with
  | none => .bad
  | some ds => match f ds with
    | .ok (.sh d) => if scalar d then .ok (.sh d) δ else (match frzs δ rs with
      | some (_, δ1) => .ok (.sh d) δ1
      | none => .bad)
    | .ok (.ow d) => (match frzs δ rs with
      | some (_, δ1) => .ok (.ow d) δ1
      | none => .bad)
    | .ok (.br _) => .bad
    | .exc c => .exc c δ
    | .bad => .bad
def eCallI (f : FnI) (i : Nat) (rs : List RV) (δ : Env) : Res RV := match frzs δ rs with
  | none => .bad
  | some (ds, δ1) => match ownS δ1 i with
    | none => .bad
    | some d0 => match f d0 ds with
      | .ok (.br _) _ => .bad
      | .ok r d1 => (match putS δ1 i d1 with
        | some δ2 => .ok r δ2
        | none => .bad)
      | .exc c d1 => (match putS δ1 i d1 with
        | some δ2 => .exc c δ2
        | none => .bad)
      | .bad => .bad
def shL : Option (List D × Env) → (List D → RV) → Res RV
  | some (ds, δ), f => if ds.length ≤ big then .ok (f ds) δ else .bad
  | none, _ => .bad
def wipeS (δ : Env) : List Nat → Env
  | [] => δ
  | v :: vs => (wipeS δ vs).set v .non
def restS (δ0 δ : Env) : List Nat → Env
  | [] => δ
  | v :: vs => (restS δ0 δ vs).set v (getS δ0 v)
def freeS (δ : Env) (vs : List Nat) : Bool := vs.all fun i => match getS δ i with
  | .ow _ => false
  | .io _ => false
  | _ => true
def noExc {α : Type} : Res α → Res α
  | .ok a δ => .ok a δ
  | _ => .bad
/-- the turns of a comprehension -/
def compL (own : List Nat) (tg : Tg) (test : Env → Res Bool) (elt : Ev) : List D → Env → Res (List D)
  | [], δ => .ok [] (wipeS δ own)
  | d :: ds, δ => match asg tg d (wipeS δ own) with
    | none => .bad
    | some δ1 => (test δ1).bind fun b δ2 => if b then
        (elt δ2).bind fun r δ3 => match frz δ3 r with
          | none => .bad
          | some (x, δ4) => (compL own tg test elt ds δ4).bind fun xs δ5 => .ok (x :: xs) δ5
      else compL own tg test elt ds δ2
def eComp (own : List Nat) (tg : Tg) (test : Env → Res Bool) (elt : Ev) (items : List D) (δ : Env) : Res RV :=
  if freeS δ own && decide (items.length ≤ big) then noExc ((compL own tg test elt items δ).bind fun xs δ' => .ok (.ow (.list xs)) (restS δ δ' own)) else .bad
def itemsD : D → Option (List D)
  | .list ds => some ds
  | .tuple ds => some ds
  | .dict kvs => if dictsOn then some (keysOf kvs) else none
  | _ => none
def enumD (n : Nat) : List D → List D
  | [] => []
  | d :: ds => .tuple [.int n, d] :: enumD (n + 1) ds
def heads : List (List D) → Option (List D × List (List D))
  | [] => some ([], [])
  | [] :: _ => none
  | (x :: xs) :: r => match heads r with
    | none => none
    | some (hs, ts) => some (x :: hs, xs :: ts)
def zipD : Nat → List (List D) → List D
  | 0, _ => []
  | n + 1, ls => match heads ls with
    | none => []
    | some (hs, ts) => .tuple hs :: zipD n ts
def allItems : List D → Option (List (List D))
  | [] => some []
  | .list ds :: r => (allItems r).map (ds :: ·)
  | .tuple ds :: r => (allItems r).map (ds :: ·)
  | _ :: _ => none
def zipLen (ls : List (List D)) : Nat := match ls with
  | [] => 0
  | l :: r => r.foldl (fun m l => min m l.length) l.length
def eRng (a b : D) (δ : Env) : Res (List D) := match a, b with
  | .int i, .int j => if decide (-(2 ^ 62) ≤ i) && decide (i < 2 ^ 62) && decide (-(2 ^ 62) ≤ j) && decide (j < 2 ^ 62) then .ok (rangeD i j) δ else .bad
  | _, _ => .bad
def popD : D → List D → Option (D × D)
  | .list ds, [] => (ds[ds.length - 1]?).map fun x => (x, .list ds.dropLast)
  | .list ds, [.int i] => if decide (-(2 ^ 63) ≤ i) && decide (i < 2 ^ 63) then (ixN ds.length i).bind fun k => (ds[k]?).map fun x => (x, .list (ds.eraseIdx k)) else none
  | _, _ => none
def ePop (i : Nat) (rs : List RV) (δ : Env) : Res RV := match dats δ rs with
  | none => .bad
  | some as => match ownS δ i with
    | none => .bad
    | some d => match popD d as with
      | none => .bad
      | some (x, d') => match putS δ i d' with
        | some δ1 => .ok (.sh x) δ1
        | none => .bad
def eKept (r : RV) (δ : Env) (f : D → Env → Res RV) : Res RV := match frz δ r with
  | some (d, δ1) => f d δ1
  | none => .bad
mutual
def ev : Ex → Ev
  | .var i, δ => match getS δ i with
    | .non => .bad
    | .sh d => .ok (.sh d) δ
    | _ => .ok (.br i) δ
  | .cst d, δ => .ok (.sh d) δ
  | .glb _ d, δ => .ok (.sh d) δ
  | .op o args, δ => (evs args δ).bind fun rs δ1 => eOp o rs δ1
  | .and cs, δ => evAnd cs δ
  | .or cs, δ => evOr cs δ
  | .not c, δ => (tst (ev c δ)).bind fun b δ1 => .ok (.sh (.bool (!b))) δ1
  | .ite c a b, δ => (tst (ev c δ)).bind fun t δ1 => if t then ev a δ1 else ev b δ1
  | .chain a o b o' c, δ => (ev a δ).bind fun x δ1 => (ev b δ1).bind fun y δ2 => (tst (eOp o [hold x, hold y] δ2)).bind fun t δ3 =>
      if t then (ev c δ3).bind fun z δ4 => eOp o' [hold y, hold z] δ4 else .ok (.sh (.bool false)) δ3
  | .call _ f args, δ => (evs args δ).bind fun rs δ1 => eCall f rs δ1
  | .callI _ f i args, δ => needOwn δ i ((evs args δ).bind fun rs δ1 => eCallI f i rs δ1)
  | .tup es, δ => (evs es δ).bind fun rs δ1 => shL (frzs δ1 rs) fun ds => .sh (.tuple ds)
  | .lst es, δ => (evs es δ).bind fun rs δ1 => shL (frzs δ1 rs) fun ds => .ow (.list ds)
  | .dct0, δ => .ok (.ow (.dict [])) δ
  | .dct1 k v, δ => (ev k δ).bind fun x δ1 => eKept x δ1 fun kd δ2 => (ev v δ2).bind fun y δ3 => eKept y δ3 fun vd δ4 => if isKey kd || isKeyI kd then .ok (.ow (.dict [(kd, vd)])) δ4 else .bad
  | .comp src own tg test elt, δ => (evI src δ).bind fun items δ1 => eComp own tg (evTests test) (ev elt) items δ1
  | .pop i args, δ => needL δ i ((evs args δ).bind fun rs δ1 => ePop i rs δ1)
def evs : Exs → Env → Res (List RV)
  | .nil, δ => .ok [] δ
  | .cons e es, δ => (ev e δ).bind fun r δ1 => (evs es δ1).bind fun rs δ2 => .ok (hold r :: rs) δ2
def evAnd : Exs → Env → Res RV
  | .nil, _ => .bad
  | .cons c .nil, δ => ev c δ
  | .cons c cs, δ => (tst (ev c δ)).bind fun b δ1 => if b then evAnd cs δ1 else .ok (.sh (.bool false)) δ1
def evOr : Exs → Env → Res RV
  | .nil, _ => .bad
  | .cons c .nil, δ => ev c δ
  | .cons c cs, δ => (tst (ev c δ)).bind fun b δ1 => if b then .ok (.sh (.bool true)) δ1 else evOr cs δ1
/-- a comprehension's test: none or one -/
def evTests : Exs → Env → Res Bool
  | .nil, δ => .ok true δ
  | .cons c .nil, δ => tst (ev c δ)
  | .cons _ _, _ => .bad
def evI : Src → Env → Res (List D)
  | .seq e, δ => (ev e δ).bind fun r δ1 => match frz δ1 r with
    | none => .bad
    | some (d, δ2) => match itemsD d with
      | some ds => .ok ds δ2
      | none => .bad
  | .rng1 e, δ => (ev e δ).bind fun r δ1 => match dat δ1 r with
    | some d => eRng (.int 0) d δ1
    | none => .bad
  | .rng2 a b, δ => (ev a δ).bind fun x δ1 => (ev b δ1).bind fun y δ2 => match dats δ2 [hold x, hold y] with
    | some [i, j] => eRng i j δ2
    | _ => .bad
  | .enum e, δ => (ev e δ).bind fun r δ1 => match frz δ1 r with
    | some (.list ds, δ2) => .ok (enumD 0 ds) δ2
    | some (.tuple ds, δ2) => .ok (enumD 0 ds) δ2
    | _ => .bad
  | .zip es, δ => (evs es δ).bind fun rs δ1 => match frzs δ1 rs with
    | none => .bad
    | some (ds, δ2) => match allItems ds with
      | some ls => .ok (zipD (zipLen ls) ls) δ2
      | none => .bad
end

def opt (o : Option Env) (f : Env → Res Flow) : Res Flow := match o with
  | some δ => f δ
  | none => .bad
/-- x = ..; the rest is the def's own business -/
def sNext : SEv := fun δ => .ok .next δ
def forL (tg : Tg) (body : SEv) : List D → Env → Res Flow
  | [], δ => .ok .next δ
  | d :: ds, δ => match asg tg d δ with
    | none => .bad
    | some δ1 => (body δ1).bind fun f δ2 => match f with
      | .next => forL tg body ds δ2
      | .brk => .ok .next δ2
      | .ret r => .ok (.ret r) δ2
def whileN (c : Env → Res Bool) (body : SEv) : Nat → Env → Res Flow
  | 0, _ => .bad
  | n + 1, δ => (c δ).bind fun b δ1 => if b then
      (body δ1).bind fun f δ2 => match f with
        | .next => whileN c body n δ2
        | .brk => .ok .next δ2
        | .ret r => .ok (.ret r) δ2
    else .ok .next δ1
/-- the turns of a while that are looked at -/
def turns : Nat := 100000
def setItemD : D → D → D → Option D
  | .list ds, .int i, v => (ixN ds.length i).map fun j => .list (ds.set j v)
  | .dict kvs, k, v => if dictsOn && keysFit kvs k && decide (kvs.length < big) then some (.dict (putD kvs k v)) else none
  | _, _, _ => none
def sSetI (i : Nat) (k v : D) (δ : Env) : Res Flow := match ownS δ i with
  | none => .bad
  | some d => match setItemD d k v with
    | none => .bad
    | some d' => opt (putS δ i d') sNext
def appD : D → D → Option D
  | .list ds, x => if ds.length < big then some (.list (ds ++ [x])) else none
  | _, _ => none
def mergeD : List (D × D) → List (D × D) → List (D × D)
  | kvs, [] => kvs
  | kvs, (k, v) :: r => mergeD (putD kvs k v) r
def updD : D → D → Option D
  | .dict kvs, .dict more => if dictsOn && ((kvs ++ more).all fun p => isKey p.1) && decide (kvs.length + more.length < big) then some (.dict (mergeD kvs more)) else none
  | _, _ => none
def brOf (i : Nat) : RV → Bool
  | .br j => i == j
  | _ => false
def parS : List Nat → List RV → Env → Option Env
  | [], [], δ => some δ
  | i :: is, r :: rs, δ => if rs.any (brOf i) then none else match setR δ i r with
    | none => none
    | some δ1 => parS is rs δ1
  | _, _, _ => none

/-- x op= y, of ints -/
def augD : Op → D → D → Option D
  | .add, .int i, .int j => some (.int (i + j))
  | .sub, .int i, .int j => some (.int (i - j))
  | .mul, .int i, .int j => if okMul i j then some (.int (i * j)) else none
  | _, _, _ => none
mutual
def evS : St → SEv
  | .set i e, δ => (ev e δ).bind fun r δ1 => opt (setR δ1 i r) sNext
  | .setT tg e, δ => (ev e δ).bind fun r δ1 => match frz δ1 r with
    | some (d, δ2) => opt (asg tg d δ2) sNext
    | none => .bad
  | .par is es, δ => (evP es δ).bind fun rs δ1 => opt (parS is rs δ1) sNext
  | .setI i k e, δ => (ev e δ).bind fun r δ1 => match frz δ1 r with
    | some (v, δ2) => needOwn δ2 i ((ev k δ2).bind fun q δ3 => (match frz δ3 q with
      | some (kd, δ4) => sSetI i kd v δ4
      | none => .bad))
    | none => .bad
  | .aug i o e, δ => match getS δ i with
    | .sh x => (ev e δ).bind fun r δ1 => (match dat δ1 r with
      | some y => (match augD o x y with
        | some d => opt (setS δ1 i (.sh d)) sNext
        | none => .bad)
      | none => .bad)
    | _ => .bad
  | .augI i k o e, δ => needOwn δ i ((ev k δ).bind fun q δ1 => match frz δ1 q with
    | some (kd, δ2) => (match ownS δ2 i with
      | some (.list ds) => (match idxD (.list ds) kd with
        | some (.sh x) => (ev e δ2).bind fun r δ3 => (match dat δ3 r with
          | some y => (match augD o x y with
            | some d => sSetI i kd d δ3
            | none => .bad)
          | none => .bad)
        | _ => .bad)
      | _ => .bad)
    | none => .bad)
  | .app i e, δ => needL δ i ((ev e δ).bind fun r δ1 => match frz δ1 r with
    | some (x, δ2) => (match (ownS δ2 i).bind fun d => appD d x with
      | some d' => opt (putS δ2 i d') sNext
      | none => .bad)
    | none => .bad)
  | .upd i e, δ => needOwn δ i ((ev e δ).bind fun r δ1 => match dat δ1 r with
    | some x => (match (ownS δ1 i).bind fun d => updD d x with
      | some d' => opt (putS δ1 i d') sNext
      | none => .bad)
    | none => .bad)
  | .revs i, δ => match ownS δ i with
    | some (.list ds) => opt (putS δ i (.list ds.reverse)) sNext
    | _ => .bad
  | .expr e, δ => (ev e δ).bind fun _ δ1 => .ok .next δ1
  | .ifs c a b, δ => (tst (ev c δ)).bind fun t δ1 => if t then evSs a δ1 else evSs b δ1
  | .for_ tg src body, δ => (evI src δ).bind fun items δ1 => forL tg (evSs body) items δ1
  | .whl c body, δ => whileN (fun δ => tst (ev c δ)) (evSs body) turns δ
  | .ret e, δ => (ev e δ).bind fun r δ1 => match r with
    | .br i => (match getS δ1 i with
      | .sh d => .ok (.ret (.sh d)) δ1
      | .ow d => .ok (.ret (.ow d)) (δ1.set i .non)
      | _ => .bad)
    | r => .ok (.ret r) δ1
  | .retN, δ => .ok (.ret (.sh .none)) δ
  | .brk, δ => .ok .brk δ
  | .raise c m, δ => (ev m δ).bind fun _ δ1 => .exc c δ1
def evSs : Sts → SEv
  | .nil, δ => .ok .next δ
  | .cons s ss, δ => (evS s δ).bind fun f δ1 => match f with
    | .next => evSs ss δ1
    | .brk => .ok .brk δ1
    | .ret r => .ok (.ret r) δ1
def evP : Exs → Env → Res (List RV)
  | .nil, δ => .ok [] δ
  | .cons e es, δ => (ev e δ).bind fun r δ1 => (evP es δ1).bind fun rs δ2 => .ok (r :: rs) δ2
end

/-! ### defs -/
def startS (ns : Nat) (ss : List Sl) : Env := ss ++ List.replicate (ns - ss.length) .non
def endF : Res Flow → FRes
  | .ok .next _ => .ok (.sh .none)
  | .ok (.ret (.br _)) _ => .bad
  | .ok (.ret r) _ => .ok r
  | .ok .brk _ => .bad
  | .exc c _ => .exc c
  | .bad => .bad
def mkFn (np ns : Nat) (body : Sts) : Fn := fun ds => if ds.length = np then endF (evSs body (startS ns (ds.map .sh))) else .bad
def endI : Res Flow → FResI
  | .ok .next δ => (match getS δ 0 with
    | .io d => .ok (.sh .none) d
    | _ => .bad)
  | .ok (.ret (.br _)) _ => .bad
  | .ok (.ret r) δ => (match getS δ 0 with
    | .io d => .ok r d
    | _ => .bad)
  | .ok .brk _ => .bad
  | .exc c δ => (match getS δ 0 with
    | .io d => .exc c d
    | _ => .bad)
  | .bad => .bad
def mkFnI (np ns : Nat) (body : Sts) : FnI := fun d0 ds => if ds.length + 1 = np then endI (evSs body (startS ns (.io d0 :: ds.map .sh))) else .bad
end DL
set_option Elab.async false
set_option linter.all false
set_option maxRecDepth 100000
/-! Layer D, part B: what data stand in the heap, the state of a body, the judgements. -/
namespace DL
open PySem PySem.Spec PyProof.Rows L2

/-- a key as the library tells it -/
def nkLeaf : D → NestedKey
  | .int i => .num i
  | .bool b => .num (b2i b)
  | .str x => .text x
  | _ => .none
def nk : D → NestedKey
  | .tuple ds => .tup (ds.map nkLeaf)
  | d => nkLeaf d
/-- a dict's object by its entries: a key's data, its value, the value under it -/
def dO (w : World) (a : Addr) (ents : List (D × V × V)) : HO := .ext fun h => (a == sysModules) = false ∧ ∃ es ep, h.DictRaw a es ep ∧
  Paired (fun (p : D × V × V) (e : DictEntry) => e.hash = (nk p.1).hash w ∧ RelV p.2.1 e.key ∧ RelV p.2.2 e.val) ents es.toList
/-- the keys are tuples, or ints; none stands twice -/
def keysOk (kvs : List (D × D)) : Prop := ((∀ p ∈ kvs, isKey p.1 = true) ∨ (∀ p ∈ kvs, isKeyI p.1 = true)) ∧ (kvs.map fun p => nk p.1).Nodup ∧ kvs.length ≤ sizeLine

section
variable (K : PySem.W.Frag) (w : World) (G : Hp)
mutual
/-- v stands for the data d; all its parts are tracked in G (or known to the module) -/
def Rp : D → V → Prop
  | .none, v => v = .non
  | .bool b, v => v = .bl b
  | .int i, v => v = .int i
  | .str x, v => v = .str x
  | .list ds, v => ∃ a xs, v = .ref a ∧ SqL K G a xs ∧ ds.length ≤ sizeLine ∧ Rps ds xs
  | .tuple ds, v => ∃ a xs o, v = .ref a ∧ G a = some (.frz o (.tup xs)) ∧ o.dict = none ∧ ds.length ≤ sizeLine ∧ Rps ds xs
  | .dict kvs, v => ∃ a ents, v = .ref a ∧ G a = some (dO w a ents) ∧ keysOk kvs ∧ Rpe kvs ents
def Rps : List D → List V → Prop
  | [], xs => xs = []
  | d :: ds, xs => ∃ x r, xs = x :: r ∧ Rp d x ∧ Rps ds r
def Rpe : List (D × D) → List (D × V × V) → Prop
  | [], es => es = []
  | (k, d) :: r, es => ∃ x y t, es = (k, x, y) :: t ∧ Rp k x ∧ Rp d y ∧ Rpe r t
end
/-- the object at a holds d; its parts stand in G -/
def ObOk (a : Addr) (o : HO) : D → Prop
  | .list ds => ∃ xs, o = .lst xs ∧ ds.length ≤ sizeLine ∧ Rps K w G ds xs
  | .dict kvs => ∃ ents, o = dO w a ents ∧ keysOk kvs ∧ Rpe K w G kvs ents
  | _ => False
end

section
variable {K : PySem.W.Frag} {w : World} {G G' : Hp} (e : Same G G')
include e
mutual
theorem Rp.mono : ∀ {d : D} {v : V}, Rp K w G d v → Rp K w G' d v
  | .none, _, h => h
  | .bool _, _, h => h
  | .int _, _, h => h
  | .str _, _, h => h
  | .list ds, v, h => by
    obtain ⟨a, xs, h1, h2, h3, h4⟩ := h
    exact ⟨a, xs, h1, e.seq h2, h3, Rps.mono h4⟩
  | .tuple ds, v, h => by
    obtain ⟨a, xs, o, h1, h2, h3, h4, h5⟩ := h
    exact ⟨a, xs, o, h1, e _ _ h2, h3, h4, Rps.mono h5⟩
  | .dict kvs, v, h => by
    obtain ⟨a, en, h1, h2, h3, h4⟩ := h
    exact ⟨a, en, h1, e _ _ h2, h3, Rpe.mono h4⟩
theorem Rps.mono : ∀ {ds : List D} {xs : List V}, Rps K w G ds xs → Rps K w G' ds xs
  | [], _, h => h
  | d :: ds, xs, h => by
    obtain ⟨x, r, h1, h2, h3⟩ := h
    exact ⟨x, r, h1, Rp.mono h2, Rps.mono h3⟩
theorem Rpe.mono : ∀ {kvs : List (D × D)} {es : List (D × V × V)}, Rpe K w G kvs es → Rpe K w G' kvs es
  | [], _, h => h
  | (k, d) :: r, es, h => by
    obtain ⟨x, y, t, h1, h2, h3, h4⟩ := h
    exact ⟨x, y, t, h1, Rp.mono h2, Rp.mono h3, Rpe.mono h4⟩
end
theorem ObOk.mono {a : Addr} {o : HO} : ∀ {d : D}, ObOk K w G a o d → ObOk K w G' a o d := by
  intro d h
  cases d with
  | list ds => obtain ⟨xs, h1, h2, h3⟩ := h; exact ⟨xs, h1, h2, Rps.mono e h3⟩
  | dict kvs => obtain ⟨xs, h1, h2, h3⟩ := h; exact ⟨xs, h1, h2, Rpe.mono e h3⟩
  | _ => exact h.elim
end
theorem Rps.length {K : PySem.W.Frag} {w : World} {G : Hp} : ∀ {ds : List D} {xs : List V}, Rps K w G ds xs → ds.length = xs.length
  | [], _, h => by cases h; rfl
  | d :: ds, xs, h => by
    obtain ⟨x, r, rfl, _, h3⟩ := h
    simp [Rps.length h3]
/-- kept: the owned object becomes part of what is shared -/
theorem ObOk.rp {K : PySem.W.Frag} {w : World} {G : Hp} {a : Addr} {o : HO} {d : D} (h : ObOk K w G a o d) (hG : G a = none) : Rp K w (upd G a o) d (.ref a) := by
  have e : Same G (upd G a o) := fun b u q => by rw [upd_ne (ne_of_none q hG)]; exact q
  cases d with
  | list ds => obtain ⟨xs, rfl, h2, h3⟩ := h; exact ⟨a, xs, rfl, .inl (.inl upd_same), h2, Rps.mono e h3⟩
  | dict kvs => obtain ⟨xs, rfl, h2, h3⟩ := h; exact ⟨a, xs, rfl, upd_same, h2, Rpe.mono e h3⟩
  | _ => exact h.elim
/-- v may be read as d now: shared, or an owned object -/
def Rd1 (K : PySem.W.Frag) (w : World) (G H : Hp) (d : D) (v : V) : Prop := Rp K w G d v ∨ ∃ p o, v = .ref p ∧ H p = some o ∧ ObOk K w G p o d
theorem Rd1.mono {K : PySem.W.Frag} {w : World} {G G' H : Hp} {d : D} {v : V} (h : Rd1 K w G H d v) (e : Same G G') : Rd1 K w G' H d v :=
  h.elim (fun h => .inl (h.mono e)) fun ⟨p, o, h1, h2, h3⟩ => .inr ⟨p, o, h1, h2, h3.mono e⟩

/-! ### the state of a body -/
/-- z: what the caller lent, at slot 0 -/
def SlOk (K : PySem.W.Frag) (w : World) (z : Option Addr) (B G H : Hp) (i : Nat) (x : Option V) : Sl → Prop
  | .non => True
  | .sh d => ∃ v, x = some v ∧ Rp K w G d v
  | .ow d => ∃ p o, x = some (.ref p) ∧ B p = none ∧ G p = none ∧ H p = some o ∧ ObOk K w G p o d
  | .io d => i = 0 ∧ ∃ p o, z = some p ∧ x = some (.ref p) ∧ B p = none ∧ G p = none ∧ H p = some o ∧ ObOk K w G p o d
def slotV (σ : L2.St) (i : Nat) : Option V := σ.getD i none
structure RS (K : PySem.W.Frag) (w : World) (z : Option Addr) (G₀ B G H : Hp) (σ : L2.St) (δ : Env) : Prop where
  bh : Same B H
  gg : Same G₀ G
  gh : Same G H
  nb : ∀ a, B a ≠ none → G a = G₀ a
  len : δ.length = σ.length
  slot : ∀ i, SlOk K w z B G H i (slotV σ i) (getS δ i)
  ap : ∀ i j v, i ≠ j → isOwn (getS δ i) = true → isOwn (getS δ j) = true → slotV σ i = some v → slotV σ j ≠ some v

/-- the heaps have grown: what is new in G is new in H -/
structure Ext (G H G' H' : Hp) : Prop where
  hh : Same H H'
  gg : Same G G'
  gh : Same G' H'
  new : ∀ a, G' a ≠ G a → H a = none
section
variable {K : PySem.W.Frag} {w : World} {z : Option Addr} {G₀ B G G' G1 G2 H H' H1 H2 : Hp} {σ : L2.St} {δ : Env}
theorem Ext.refl (e : Same G H) : Ext G H G H := ⟨Same.refl _, Same.refl _, e, fun _ h => absurd rfl h⟩
theorem Ext.trans (a : Ext G H G1 H1) (b : Ext G1 H1 G2 H2) : Ext G H G2 H2 := ⟨a.hh.trans b.hh, a.gg.trans b.gg, b.gh, fun x h => by
  by_cases q : G1 x = G x
  · exact a.hh.free (b.new x (by rw [q]; exact h))
  · exact a.new x q⟩
theorem SlOk.ext {i : Nat} {x : Option V} {s : Sl} (h : SlOk K w z B G H i x s) (e : Ext G H G' H') : SlOk K w z B G' H' i x s := by
  have key : ∀ {p : Addr} {o : HO}, G p = none → H p = some o → G' p = none := fun {p o} h1 h2 => by
    by_cases q : G' p = G p
    · rw [q]; exact h1
    · rw [e.new p q] at h2; cases h2
  cases s with
  | non => trivial
  | sh d => obtain ⟨v, h1, h2⟩ := h; exact ⟨v, h1, h2.mono e.gg⟩
  | ow d =>
    obtain ⟨p, o, h1, h2, h3, h4, h5⟩ := h
    exact ⟨p, o, h1, h2, key h3 h4, e.hh _ _ h4, h5.mono e.gg⟩
  | io d =>
    obtain ⟨h0, p, o, hz, h1, h2, h3, h4, h5⟩ := h
    exact ⟨h0, p, o, hz, h1, h2, key h3 h4, e.hh _ _ h4, h5.mono e.gg⟩
theorem RS.ext (R : RS K w z G₀ B G H σ δ) (e : Ext G H G' H') : RS K w z G₀ B G' H' σ δ where
  bh := R.bh.trans e.hh
  gg := R.gg.trans e.gg
  gh := e.gh
  nb := fun a h => by
    rw [← R.nb a h]
    by_cases q : G' a = G a
    · exact q
    · exfalso
      cases hb : B a with
      | none => exact h hb
      | some o =>
        have := R.bh a o hb
        rw [e.new a q] at this
        cases this
  len := R.len
  slot := fun i => (R.slot i).ext e
  ap := R.ap
theorem Ext.new1 {p : Addr} {o : HO} (e : Same G H) (n : H p = none) : Ext G H G (upd H p o) := ⟨same_upd' n, Same.refl _, fun a q h => by rw [upd_ne (ne_of_none (e a q h) n)]; exact e a q h, fun _ h => absurd rfl h⟩
where same_upd' {H : Hp} {p : Addr} {o : HO} (n : H p = none) : Same H (upd H p o) := fun b x q => by rw [upd_ne (ne_of_none q n)]; exact q
theorem Ext.newSh {p : Addr} {o : HO} (e : Same G H) (n : H p = none) : Ext G H (upd G p o) (upd H p o) where
  hh := fun b x q => by rw [upd_ne (ne_of_none q n)]; exact q
  gg := fun b x q => by rw [upd_ne (ne_of_none (e b x q) n)]; exact q
  gh := fun a q h => by
    by_cases z : a = p
    · subst z; rw [upd_same] at h ⊢; exact h
    · rw [upd_ne z] at h ⊢; exact e a q h
  new := fun a h => by
    by_cases z : a = p
    · subst z; exact n
    · rw [upd_ne z] at h; exact absurd rfl h
end

theorem getS_set {δ : Env} {i j : Nat} {x : Sl} : getS (δ.set i x) j = if i = j ∧ i < δ.length then x else getS δ j := by
  unfold getS
  rw [List.getD_eq_getElem?_getD, List.getD_eq_getElem?_getD, List.getElem?_set]
  by_cases h : i = j
  · subst h
    by_cases h2 : i < δ.length
    · simp [h2]
    · simp [h2]
  · simp [h]
theorem slotV_set {σ : L2.St} {i j : Nat} {x : Option V} : slotV (σ.set i x) j = if i = j ∧ i < σ.length then x else slotV σ j := by
  unfold slotV
  rw [List.getD_eq_getElem?_getD, List.getD_eq_getElem?_getD, List.getElem?_set]
  by_cases h : i = j
  · subst h
    by_cases h2 : i < σ.length
    · simp [h2]
    · simp [h2]
  · simp [h]
theorem getS_lt {δ : Env} {i : Nat} (h : getS δ i ≠ .non) : i < δ.length := by
  unfold getS at h
  by_cases q : i < δ.length
  · exact q
  · rw [List.getD_eq_getElem?_getD, List.getElem?_eq_none (by omega)] at h
    exact absurd rfl h
section
variable {K : PySem.W.Frag} {w : World} {z : Option Addr} {G₀ B G G' G1 G2 H H' H1 H2 : Hp} {σ : L2.St} {δ : Env} {i : Nat} {d : D} {v : V} {p : Addr} {o o' : HO}
/-- name := shared data -/
theorem RS.setSh (R : RS K w z G₀ B G H σ δ) (h : Rp K w G d v) : RS K w z G₀ B G H (σ.set i (some v)) (δ.set i (.sh d)) where
  bh := R.bh
  gg := R.gg
  gh := R.gh
  nb := R.nb
  len := by rw [List.length_set, List.length_set]; exact R.len
  slot := fun j => by
    rw [slotV_set, getS_set, R.len]
    by_cases q : i = j ∧ i < σ.length
    · rw [if_pos q, if_pos q]; exact ⟨v, rfl, h⟩
    · rw [if_neg q, if_neg q]; exact R.slot j
  ap := fun j k u n h1 h2 h3 => by
    rw [getS_set, R.len] at h1 h2
    rw [slotV_set] at h3 ⊢
    by_cases q : i = j ∧ i < σ.length
    · rw [if_pos q] at h1; cases h1
    · rw [if_neg q] at h1 h3
      by_cases q2 : i = k ∧ i < σ.length
      · rw [if_pos q2] at h2; cases h2
      · rw [if_neg q2] at h2 ⊢
        exact R.ap j k u n h1 h2 h3
/-- a slot forgotten -/
theorem RS.drop (R : RS K w z G₀ B G H σ δ) : RS K w z G₀ B G H σ (δ.set i .non) where
  bh := R.bh
  gg := R.gg
  gh := R.gh
  nb := R.nb
  len := by rw [List.length_set]; exact R.len
  slot := fun j => by
    rw [getS_set]
    by_cases q : i = j ∧ i < δ.length
    · rw [if_pos q]; trivial
    · rw [if_neg q]; exact R.slot j
  ap := fun j k u n h1 h2 h3 => by
    rw [getS_set] at h1 h2
    by_cases q : i = j ∧ i < δ.length
    · rw [if_pos q] at h1; cases h1
    · rw [if_neg q] at h1
      by_cases q2 : i = k ∧ i < δ.length
      · rw [if_pos q2] at h2; cases h2
      · rw [if_neg q2] at h2
        exact R.ap j k u n h1 h2 h3
theorem RS.wipe (R : RS K w z G₀ B G H σ δ) : ∀ vs : List Nat, RS K w z G₀ B G H (wipe σ vs) (wipeS δ vs)
  | [] => R
  | i :: vs => by
    have R1 := RS.wipe R vs
    refine ⟨R1.bh, R1.gg, R1.gh, R1.nb, ?_, fun j => ?_, fun j k u n h1 h2 h3 => ?_⟩
    · unfold L2.wipe wipeS
      rw [List.length_set, List.length_set]; exact R1.len
    · unfold L2.wipe wipeS
      rw [slotV_set, getS_set, R1.len]
      by_cases q : i = j ∧ i < (L2.wipe σ vs).length
      · rw [if_pos q, if_pos q]; trivial
      · rw [if_neg q, if_neg q]; exact R1.slot j
    · unfold L2.wipe at h3 ⊢
      unfold wipeS at h1 h2
      rw [getS_set, R1.len] at h1 h2
      rw [slotV_set] at h3 ⊢
      by_cases q : i = j ∧ i < (L2.wipe σ vs).length
      · rw [if_pos q] at h1; cases h1
      · rw [if_neg q] at h1 h3
        by_cases q2 : i = k ∧ i < (L2.wipe σ vs).length
        · rw [if_pos q2] at h2; cases h2
        · rw [if_neg q2] at h2 ⊢
          exact R1.ap j k u n h1 h2 h3
/-- name := a new owned thing -/
theorem RS.setOw (R : RS K w z G₀ B G H σ δ) (hB : B p = none) (hG : G p = none) (hH : H p = some o) (ok : ObOk K w G p o d) (ne : ∀ j, i ≠ j → isOwn (getS δ j) = true → slotV σ j ≠ some (.ref p)) :
    RS K w z G₀ B G H (σ.set i (some (.ref p))) (δ.set i (.ow d)) where
  bh := R.bh
  gg := R.gg
  gh := R.gh
  nb := R.nb
  len := by rw [List.length_set, List.length_set]; exact R.len
  slot := fun j => by
    rw [slotV_set, getS_set, R.len]
    by_cases q : i = j ∧ i < σ.length
    · rw [if_pos q, if_pos q]; exact ⟨p, o, rfl, hB, hG, hH, ok⟩
    · rw [if_neg q, if_neg q]; exact R.slot j
  ap := fun j k u n h1 h2 h3 => by
    rw [getS_set, R.len] at h1 h2
    rw [slotV_set] at h3 ⊢
    by_cases q : i = j ∧ i < σ.length
    · rw [if_pos q] at h3
      cases h3
      have q2 : ¬ (i = k ∧ i < σ.length) := fun q2 => n (q.1.symm.trans q2.1)
      rw [if_neg q2] at h2 ⊢
      exact ne k (fun e => q2 ⟨e, q.2⟩) h2
    · rw [if_neg q] at h1 h3
      by_cases q2 : i = k ∧ i < σ.length
      · rw [if_pos q2]
        intro e
        cases e
        exact ne j (fun e => q ⟨e, q2.2⟩) h1 h3
      · rw [if_neg q2] at h2 ⊢
        exact R.ap j k u n h1 h2 h3
/-- the owner of an owned slot -/
theorem RS.own (R : RS K w z G₀ B G H σ δ) (h : ownS δ i = some d) : ∃ p o, slotV σ i = some (.ref p) ∧ B p = none ∧ G p = none ∧ H p = some o ∧ ObOk K w G p o d := by
  have q := R.slot i
  unfold ownS at h
  cases e : getS δ i with
  | non => rw [e] at h; cases h
  | sh d' => rw [e] at h; cases h
  | ow d' =>
    rw [e] at h q; cases h
    obtain ⟨p, o, h1, h2, h3, h4, h5⟩ := q
    exact ⟨p, o, h1, h2, h3, h4, h5⟩
  | io d' =>
    rw [e] at h q; cases h
    obtain ⟨_, p, o, _, h1, h2, h3, h4, h5⟩ := q
    exact ⟨p, o, h1, h2, h3, h4, h5⟩
/-- the owned thing at slot i is changed in place -/
theorem RS.put {δ' : Env} (R : RS K w z G₀ B G H σ δ) (hp : slotV σ i = some (.ref p)) (ho : isOwn (getS δ i) = true) (ok : ObOk K w G p o' d) (hu : putS δ i d = some δ') : RS K w z G₀ B G (upd H p o') σ δ' := by
  have hs : ∃ p' o, slotV σ i = some (.ref p') ∧ B p' = none ∧ G p' = none ∧ H p' = some o := by
    have q := R.slot i
    cases e : getS δ i with
    | non => rw [e] at ho; cases ho
    | sh d' => rw [e] at ho; cases ho
    | ow d' =>
      rw [e] at q
      obtain ⟨p, o, h1, h2, h3, h4, h5⟩ := q
      exact ⟨p, o, h1, h2, h3, h4⟩
    | io d' =>
      rw [e] at q
      obtain ⟨_, p, o, _, h1, h2, h3, h4, h5⟩ := q
      exact ⟨p, o, h1, h2, h3, h4⟩
  obtain ⟨p', o, hp', hB, hG, hH⟩ := hs
  rw [hp] at hp'
  cases hp'
  have hil : i < δ.length := getS_lt fun e => by rw [e] at ho; cases ho
  have key : ∀ {x : Sl}, (∀ j, SlOk K w z B G (upd H p o') j (slotV σ j) (getS (δ.set i x) j)) → isOwn x = true → RS K w z G₀ B G (upd H p o') σ (δ.set i x) := fun {x} hx ix =>
    ⟨fun a u q => by rw [upd_ne (fun e => by subst e; rw [hB] at q; cases q)]; exact R.bh a u q, R.gg,
      fun a u q => by rw [upd_ne (fun e => by subst e; rw [hG] at q; cases q)]; exact R.gh a u q, R.nb, by rw [List.length_set]; exact R.len, hx,
      fun j k u n h1 h2 h3 => by
        have t : ∀ {m}, isOwn (getS (δ.set i x) m) = true → isOwn (getS δ m) = true := fun {m} h => by
          rw [getS_set] at h
          by_cases q : i = m ∧ i < δ.length
          · rw [← q.1]; exact ho
          · rw [if_neg q] at h; exact h
        exact R.ap j k u n (t h1) (t h2) h3⟩
  have oth : ∀ j, i ≠ j → SlOk K w z B G (upd H p o') j (slotV σ j) (getS δ j) := fun j n => by
    have q := R.slot j
    have ne : ∀ {q : Addr}, isOwn (getS δ j) = true → slotV σ j = some (.ref q) → q ≠ p := fun {q} h1 h2 e => by
      subst e
      exact R.ap i j _ n ho h1 hp h2
    cases e : getS δ j with
    | non => trivial
    | sh d' => rw [e] at q; exact q
    | ow d' =>
      rw [e] at q
      obtain ⟨p1, o1, h1, h2, h3, h4, h5⟩ := q
      exact ⟨p1, o1, h1, h2, h3, by rw [upd_ne (ne (by rw [e]; rfl) h1)]; exact h4, h5⟩
    | io d' =>
      rw [e] at q
      obtain ⟨h0, p1, o1, hz, h1, h2, h3, h4, h5⟩ := q
      exact ⟨h0, p1, o1, hz, h1, h2, h3, by rw [upd_ne (ne (by rw [e]; rfl) h1)]; exact h4, h5⟩
  unfold putS at hu
  cases e : getS δ i with
  | non => rw [e] at hu; cases hu
  | sh d' => rw [e] at hu; cases hu
  | ow d' =>
    rw [e] at hu
    cases hu
    refine key (fun j => ?_) rfl
    rw [getS_set]
    by_cases q : i = j ∧ i < δ.length
    · rw [if_pos q, ← q.1]; exact ⟨p, o', hp, hB, hG, upd_same, ok⟩
    · rw [if_neg q]; exact oth j fun e => q ⟨e, hil⟩
  | io d' =>
    rw [e] at hu
    cases hu
    have q0 := R.slot i
    rw [e] at q0
    obtain ⟨h0, p1, o1, hz, h1, _⟩ := q0
    rw [hp] at h1
    cases h1
    refine key (fun j => ?_) rfl
    rw [getS_set]
    by_cases q : i = j ∧ i < δ.length
    · rw [if_pos q, ← q.1]; exact ⟨h0, p, o', hz, hp, hB, hG, upd_same, ok⟩
    · rw [if_neg q]; exact oth j fun e => q ⟨e, hil⟩
/-- the owned thing at slot i becomes shared -/
theorem RS.freeze (R : RS K w z G₀ B G H σ δ) (e : getS δ i = .ow d) : ∃ G', RS K w z G₀ B G' H σ (δ.set i (.sh d)) ∧ Same G G' ∧ ∃ v, slotV σ i = some v ∧ Rp K w G' d v := by
  have q := R.slot i
  rw [e] at q
  obtain ⟨p, o, hp, hB, hG, hH, ok⟩ := q
  have hil : i < δ.length := getS_lt fun z => by rw [e] at z; cases z
  have sg : Same G (upd G p o) := fun a u q => by rw [upd_ne (ne_of_none q hG)]; exact q
  refine ⟨upd G p o, ⟨R.bh, R.gg.trans sg, fun a u q => ?_, fun a h => ?_, by rw [List.length_set]; exact R.len, fun j => ?_, fun j k u n h1 h2 h3 => ?_⟩, sg, .ref p, hp, ok.rp hG⟩
  · by_cases c : a = p
    · subst c; rw [upd_same] at q; cases q; exact hH
    · rw [upd_ne c] at q; exact R.gh a u q
  · rw [upd_ne (fun c => by subst c; exact h hB)]; exact R.nb a h
  · rw [getS_set]
    by_cases c : i = j ∧ i < δ.length
    · rw [if_pos c, ← c.1]; exact ⟨.ref p, hp, ok.rp hG⟩
    · rw [if_neg c]
      have n : i ≠ j := fun z => c ⟨z, hil⟩
      have q := R.slot j
      have ne : ∀ {q : Addr}, isOwn (getS δ j) = true → slotV σ j = some (.ref q) → q ≠ p := fun {q} h1 h2 z => by
        subst z
        exact R.ap i j _ n (by rw [e]; rfl) h1 hp h2
      cases e' : getS δ j with
      | non => trivial
      | sh d' =>
        rw [e'] at q
        obtain ⟨v, h1, h2⟩ := q
        exact ⟨v, h1, h2.mono sg⟩
      | ow d' =>
        rw [e'] at q
        obtain ⟨p1, o1, h1, h2, h3, h4, h5⟩ := q
        exact ⟨p1, o1, h1, h2, by rw [upd_ne (ne (by rw [e']; rfl) h1)]; exact h3, h4, h5.mono sg⟩
      | io d' =>
        rw [e'] at q
        obtain ⟨h0, p1, o1, hz, h1, h2, h3, h4, h5⟩ := q
        exact ⟨h0, p1, o1, hz, h1, h2, by rw [upd_ne (ne (by rw [e']; rfl) h1)]; exact h3, h4, h5.mono sg⟩
  · have t : ∀ {m}, isOwn (getS (δ.set i (.sh d)) m) = true → isOwn (getS δ m) = true := fun {m} h => by
      rw [getS_set] at h
      by_cases q : i = m ∧ i < δ.length
      · rw [if_pos q] at h; cases h
      · rw [if_neg q] at h; exact h
    exact R.ap j k u n (t h1) (t h2) h3
/-- a new thing that nobody owns becomes shared -/
theorem RS.keepNew (R : RS K w z G₀ B G H σ δ) (hB : B p = none) (hG : G p = none) (hH : H p = some o) (ok : ObOk K w G p o d) (ne : ∀ i, isOwn (getS δ i) = true → slotV σ i ≠ some (.ref p)) :
    RS K w z G₀ B (upd G p o) H σ δ ∧ Same G (upd G p o) ∧ Rp K w (upd G p o) d (.ref p) := by
  have sg : Same G (upd G p o) := fun a u q => by rw [upd_ne (ne_of_none q hG)]; exact q
  refine ⟨⟨R.bh, R.gg.trans sg, fun a u q => ?_, fun a h => ?_, R.len, fun j => ?_, R.ap⟩, sg, ok.rp hG⟩
  · by_cases c : a = p
    · subst c; rw [upd_same] at q; cases q; exact hH
    · rw [upd_ne c] at q; exact R.gh a u q
  · rw [upd_ne (fun c => by subst c; exact h hB)]; exact R.nb a h
  · have q := R.slot j
    have ne' : ∀ {q : Addr}, isOwn (getS δ j) = true → slotV σ j = some (.ref q) → q ≠ p := fun {q} h1 h2 c => by
      subst c
      exact ne j h1 h2
    cases e' : getS δ j with
    | non => trivial
    | sh d' =>
      rw [e'] at q
      obtain ⟨v, h1, h2⟩ := q
      exact ⟨v, h1, h2.mono sg⟩
    | ow d' =>
      rw [e'] at q
      obtain ⟨p1, o1, h1, h2, h3, h4, h5⟩ := q
      exact ⟨p1, o1, h1, h2, by rw [upd_ne (ne' (by rw [e']; rfl) h1)]; exact h3, h4, h5.mono sg⟩
    | io d' =>
      rw [e'] at q
      obtain ⟨h0, p1, o1, hz, h1, h2, h3, h4, h5⟩ := q
      exact ⟨h0, p1, o1, hz, h1, h2, by rw [upd_ne (ne' (by rw [e']; rfl) h1)]; exact h3, h4, h5.mono sg⟩
end

/-! ### values in hand -/
section
variable {K : PySem.W.Frag} {w : World} {z : Option Addr} {G₀ B G G' H H' : Hp} {σ : L2.St} {δ δ' : Env}
def RVOk (K : PySem.W.Frag) (w : World) (B G H : Hp) (σ : L2.St) (δ : Env) (v : V) : RV → Prop
  | .sh d => Rp K w G d v
  | .ow d => ∃ p o, v = .ref p ∧ B p = none ∧ G p = none ∧ H p = some o ∧ ObOk K w G p o d ∧ ∀ i, isOwn (getS δ i) = true → slotV σ i ≠ some (.ref p)
  | .br i => slotV σ i = some v
/-- held over what comes next -/
def HVOk (K : PySem.W.Frag) (w : World) (G : Hp) (σ : L2.St) (v : V) : RV → Prop
  | .sh d => Rp K w G d v
  | .ow _ => False
  | .br i => slotV σ i = some v
def HVsOk (K : PySem.W.Frag) (w : World) (G : Hp) (σ : L2.St) : List V → List RV → Prop
  | [], [] => True
  | v :: vs, r :: rs => HVOk K w G σ v r ∧ HVsOk K w G σ vs rs
  | _, _ => False
theorem HVOk.mono {v : V} {r : RV} (h : HVOk K w G σ v r) (e : Same G G') : HVOk K w G' σ v r := by
  cases r with
  | sh d => exact Rp.mono e h
  | ow d => exact h
  | br i => exact h
theorem HVsOk.mono (e : Same G G') : ∀ {vs : List V} {rs : List RV}, HVsOk K w G σ vs rs → HVsOk K w G' σ vs rs
  | [], [], h => h
  | _ :: _, _ :: _, h => ⟨h.1.mono e, HVsOk.mono e h.2⟩
  | [], _ :: _, h => h
  | _ :: _, [], h => h
theorem HVOk.rv {v : V} {r : RV} (h : HVOk K w G σ v r) : RVOk K w B G H σ δ v r := by
  cases r with
  | sh d => exact h
  | ow d => exact h.elim
  | br i => exact h
/-- a value is held -/
theorem RS.held {v : V} {r : RV} (R : RS K w z G₀ B G H σ δ) (h : RVOk K w B G H σ δ v r) : ∃ G', RS K w z G₀ B G' H σ δ ∧ Same G G' ∧ HVOk K w G' σ v (hold r) := by
  cases r with
  | sh d => exact ⟨G, R, Same.refl _, h⟩
  | ow d =>
    obtain ⟨p, o, rfl, hB, hG, hH, ok, ne⟩ := h
    obtain ⟨R', sg, rp⟩ := R.keepNew hB hG hH ok ne
    exact ⟨_, R', sg, rp⟩
  | br i => exact ⟨G, R, Same.refl _, h⟩
/-- a held value, read -/
theorem RS.read {v : V} {r : RV} {d : D} (R : RS K w z G₀ B G H σ δ) (h : HVOk K w G σ v r) (e : dat δ r = some d) : Rd1 K w G H d v := by
  cases r with
  | sh d' => cases e; exact .inl h
  | ow d' => exact h.elim
  | br i =>
    have q := R.slot i
    have h : slotV σ i = some v := h
    cases c : getS δ i with
    | non => simp only [dat, c] at e; cases e
    | sh d' =>
      simp only [dat, c] at e; rw [c] at q; cases e
      obtain ⟨v', h1, h2⟩ := q
      rw [h] at h1; cases h1
      exact .inl h2
    | ow d' =>
      simp only [dat, c] at e; rw [c] at q; cases e
      obtain ⟨p, o, h1, _, _, h4, h5⟩ := q
      rw [h] at h1; cases h1
      exact .inr ⟨p, o, rfl, h4, h5⟩
    | io d' =>
      simp only [dat, c] at e; rw [c] at q; cases e
      obtain ⟨_, p, o, _, h1, _, _, h4, h5⟩ := q
      rw [h] at h1; cases h1
      exact .inr ⟨p, o, rfl, h4, h5⟩
def Rd1s (K : PySem.W.Frag) (w : World) (G H : Hp) : List D → List V → Prop
  | [], [] => True
  | d :: ds, v :: vs => Rd1 K w G H d v ∧ Rd1s K w G H ds vs
  | _, _ => False
theorem RS.reads (R : RS K w z G₀ B G H σ δ) : ∀ {vs : List V} {rs : List RV} {ds : List D}, HVsOk K w G σ vs rs → dats δ rs = some ds → Rd1s K w G H ds vs
  | [], [], ds, _, e => by cases e; trivial
  | v :: vs, r :: rs, ds, h, e => by
    unfold dats at e
    cases c : dat δ r with
    | none => rw [c] at e; cases e
    | some d =>
      rw [c] at e
      cases c2 : dats δ rs with
      | none => rw [c2] at e; cases e
      | some ds' =>
        rw [c2] at e
        cases e
        exact ⟨R.read h.1 c, RS.reads R h.2 c2⟩
  | [], _ :: _, _, h, _ => h.elim
  | _ :: _, [], _, h, _ => h.elim
/-- a value is kept by another -/
theorem RS.frz {v : V} {r : RV} {d : D} (R : RS K w z G₀ B G H σ δ) (h : RVOk K w B G H σ δ v r) (e : frz δ r = some (d, δ')) : ∃ G', RS K w z G₀ B G' H σ δ' ∧ Same G G' ∧ Rp K w G' d v := by
  cases r with
  | sh d' => cases e; exact ⟨G, R, Same.refl _, h⟩
  | ow d' =>
    cases e
    obtain ⟨p, o, rfl, hB, hG, hH, ok, ne⟩ := h
    obtain ⟨R', sg, rp⟩ := R.keepNew hB hG hH ok ne
    exact ⟨_, R', sg, rp⟩
  | br i =>
    have h : slotV σ i = some v := h
    cases c : getS δ i with
    | non => simp only [DL.frz, c] at e; cases e
    | io d' => simp only [DL.frz, c] at e; cases e
    | sh d' =>
      simp only [DL.frz, c] at e; cases e
      have q := R.slot i
      rw [c] at q
      obtain ⟨v', h1, h2⟩ := q
      rw [h] at h1; cases h1
      exact ⟨G, R, Same.refl _, h2⟩
    | ow d' =>
      simp only [DL.frz, c] at e; cases e
      obtain ⟨G', R', sg, v', h1, h2⟩ := R.freeze c
      rw [h] at h1; cases h1
      exact ⟨G', R', sg, h2⟩
theorem RS.frzs : ∀ {rs : List RV} {vs : List V} {ds : List D} {G : Hp} {δ : Env}, RS K w z G₀ B G H σ δ → HVsOk K w G σ vs rs → frzs δ rs = some (ds, δ') → ∃ G', RS K w z G₀ B G' H σ δ' ∧ Same G G' ∧ Rps K w G' ds vs
  | [], [], ds, G, δ, R, _, e => by cases e; exact ⟨G, R, Same.refl _, rfl⟩
  | r :: rs, v :: vs, ds, G, δ, R, h, e => by
    unfold DL.frzs at e
    cases c : DL.frz δ r with
    | none => rw [c] at e; cases e
    | some q =>
      obtain ⟨d, δ1⟩ := q
      rw [c] at e
      cases c2 : DL.frzs δ1 rs with
      | none => simp only [c2] at e; cases e
      | some q2 =>
        obtain ⟨ds', δ2⟩ := q2
        simp only [c2] at e
        cases e
        obtain ⟨G1, R1, s1, p1⟩ := R.frz h.1.rv c
        obtain ⟨G2, R2, s2, p2⟩ := RS.frzs R1 (h.2.mono s1) c2
        exact ⟨G2, R2, s1.trans s2, v, vs, rfl, p1.mono s2, p2⟩
  | [], _ :: _, _, _, _, _, h, _ => h.elim
  | _ :: _, [], _, _, _, _, h, _ => h.elim
end
end DL
set_option Elab.async false
set_option linter.all false
set_option maxRecDepth 100000
/-! Layer D, part C: the judgements of expressions, and each construct. -/
namespace DL
open PySem PySem.Spec PyProof.Rows L2

def clsV (mg : Str → Option Value) (c : Str) : Value := (mg c).getD .none
/-- what is wanted behind code on data -/
def Kont {α : Type} (X : Cx) (W : WX) (z : Option Addr) (G₀ B G : Hp) (σ : L2.St) (r : Res α) (C : α → Env → Hp → Hp → Prop) : Prop := match r with
  | .ok a δ => ∀ G' H', RS X.K X.w z G₀ B G' H' σ δ → Same G G' → C a δ G' H'
  | .exc c δ => ∀ G' H', RS X.K X.w z G₀ B G' H' σ δ → Same G G' → W (clsV X.mg c) none σ H'
  | .bad => False
section
variable {X : Cx} {W : WX} {z : Option Addr} {G₀ B G G' H : Hp} {σ : L2.St} {α β : Type}
theorem Kont.base {r : Res α} {C : α → Env → Hp → Hp → Prop} (h : Kont X W z G₀ B G σ r C) (e : Same G G') : Kont X W z G₀ B G' σ r C := by
  cases r with
  | ok a δ => exact fun G2 H2 R s => h G2 H2 R (e.trans s)
  | exc c δ => exact fun G2 H2 R s => h G2 H2 R (e.trans s)
  | bad => exact h
theorem Kont.bind {r : Res α} {f : α → Env → Res β} {C : β → Env → Hp → Hp → Prop} (h : Kont X W z G₀ B G σ (r.bind f) C) : Kont X W z G₀ B G σ r (fun a δ G' _ => Kont X W z G₀ B G' σ (f a δ) C) := by
  cases r with
  | ok a δ => exact fun G2 H2 R s => Kont.base h s
  | exc c δ => exact h
  | bad => exact h
theorem Kont.imp {r : Res α} {C C' : α → Env → Hp → Hp → Prop} (h : Kont X W z G₀ B G σ r C) (f : ∀ a δ G' H', RS X.K X.w z G₀ B G' H' σ δ → Same G G' → C a δ G' H' → C' a δ G' H') : Kont X W z G₀ B G σ r C' := by
  cases r with
  | ok a δ => exact fun G2 H2 R s => f a δ G2 H2 R s (h G2 H2 R s)
  | exc c δ => exact h
  | bad => exact h
theorem Kont.use {δ : Env} {a : α} {C : α → Env → Hp → Hp → Prop} (h : Kont X W z G₀ B G σ (.ok a δ) C) (R : RS X.K X.w z G₀ B G H σ δ) : C a δ G H := h G H R (Same.refl _)
end

abbrev EQ (X : Cx) (pins : List (Addr × Obj)) (B : Hp) (σ : L2.St) (Q : Value → Shared → Prop) (r : RV) (δ : Env) (G H : Hp) : Prop :=
  ∀ u s v, Inv X pins σ H s → RelV v u → RVOk X.K X.w B G H σ δ v r → Q u s
/-- the expression e gives what t says -/
structure DE (X : Cx) (e : Expr) (t : Ev) : Prop where
  run : ∀ (W : WX) (z : Option Addr) (G₀ B : Hp), Takes X W → ∀ (pins : List (Addr × Obj)) (s : Shared) (σ : L2.St) (G H : Hp) (δ : Env) (Q : Value → Shared → Prop), Inv X pins σ H s → RS X.K X.w z G₀ B G H σ δ →
    Kont X W z G₀ B G σ (t δ) (EQ X pins B σ Q) → wpAny (model X.prog X.w) X.A (eval e X.env) Q X.xe s
abbrev TQ (X : Cx) (pins : List (Addr × Obj)) (σ : L2.St) (Q : Bool → Shared → Prop) (b : Bool) (δ : Env) (G H : Hp) : Prop := ∀ s, Inv X pins σ H s → Q b s
/-- e as a test, whatever its whole is -/
structure DT (X : Cx) (e : Expr) (t : Env → Res Bool) : Prop where
  run : ∀ (W : WX) (z : Option Addr) (G₀ B : Hp), Takes X W → ∀ (pins : List (Addr × Obj)) (s : Shared) (σ : L2.St) (G H : Hp) (δ : Env) (Q : Bool → Shared → Prop), Inv X pins σ H s → RS X.K X.w z G₀ B G H σ δ →
    Kont X W z G₀ B G σ (t δ) (TQ X pins σ Q) → wpAny (model X.prog X.w) X.A (isTrue e X.env (eval e X.env)) Q X.xe s
/-- several expressions, from the left -/
def wpL (X : Cx) : List Expr → (List Value → Shared → Prop) → Shared → Prop
  | [], Q, s => Q [] s
  | e :: es, Q, s => wpAny (model X.prog X.w) X.A (eval e X.env) (fun u s1 => wpL X es (fun us s2 => Q (u :: us) s2) s1) X.xe s
abbrev LQ (X : Cx) (pins : List (Addr × Obj)) (σ : L2.St) (Q : List Value → Shared → Prop) (rs : List RV) (δ : Env) (G H : Hp) : Prop :=
  ∀ us s vs, Inv X pins σ H s → Vals vs us → HVsOk X.K X.w G σ vs rs → Q us s
structure DEs (X : Cx) (es : List Expr) (t : Env → Res (List RV)) : Prop where
  run : ∀ (W : WX) (z : Option Addr) (G₀ B : Hp), Takes X W → ∀ (pins : List (Addr × Obj)) (s : Shared) (σ : L2.St) (G H : Hp) (δ : Env) (Q : List Value → Shared → Prop), Inv X pins σ H s → RS X.K X.w z G₀ B G H σ δ →
    Kont X W z G₀ B G σ (t δ) (LQ X pins σ Q) → wpL X es Q s

section
variable {X : Cx}
theorem wpL_mono : ∀ {es : List Expr} {Q Q' : List Value → Shared → Prop} {s : Shared}, wpL X es Q s → (∀ us s, Q us s → Q' us s) → wpL X es Q' s
  | [], _, _, _, h, f => f _ _ h
  | e :: es, Q, Q', s, h, f => thn h fun u s1 h1 => wpL_mono h1 fun us s2 h2 => f _ _ h2
theorem DEs.nil : DEs X [] (fun δ => .ok [] δ) := ⟨fun W z G₀ B tk pins s σ G H δ Q I R h => h G H R (Same.refl _) [] s [] I .nil trivial⟩
theorem DEs.cons {e : Expr} {es : List Expr} {t : Ev} {ts : Env → Res (List RV)} (h1 : DE X e t) (h2 : DEs X es ts) : DEs X (e :: es) (fun δ => (t δ).bind fun r δ1 => (ts δ1).bind fun rs δ2 => .ok (hold r :: rs) δ2) := by
  refine ⟨fun W z G₀ B tk pins s σ G H δ Q I R h => ?_⟩
  refine h1.run W z G₀ B tk pins s σ G H δ _ I R (h.bind.imp fun r δ1 G1 H1 R1 s1 k1 => ?_)
  intro u s1' v I1 rv ok
  obtain ⟨G2, R2, s2, hv⟩ := R1.held ok
  refine h2.run W z G₀ B tk pins s1' σ G2 H1 δ1 _ I1 R2 ((k1.base s2).bind.imp fun rs δ2 G3 H3 R3 s3 k3 => ?_)
  intro us s3' vs I3 rvs oks
  exact (k3.use R3) (u :: us) s3' (v :: vs) I3 (.cons rv rvs) ⟨hv.mono s3, oks⟩
/-- a plain argument: no star -/
def plainE : Expr → Bool
  | .Starred _ _ => false
  | .Slice _ _ _ _ => false
  | .Set _ _ _ => false
  | .SetComp _ _ _ _ => false
  | .DictComp _ _ _ _ _ => false
  | _ => true
theorem star_cons {e : Expr} (h : plainE e = true) (es : List Expr) (env : PySem.Env) : starEach (e :: es) env = (false, eval e env) :: starEach es env := by
  cases e <;> first | rfl | cases h
theorem star_any (pos : Pos) (env : PySem.Env) : ∀ {es : List Expr}, (es.all plainE) = true → (backTo pos (starEach es env)).any (·.1) = false
  | [], _ => rfl
  | e :: es, h => by
    rw [List.all_cons, Bool.and_eq_true] at h
    rw [star_cons h.1]
    show (false || (backTo pos (starEach es env)).any (·.1)) = false
    rw [star_any pos env h.2]; rfl
theorem wpL_spliced (pos : Pos) : ∀ {es : List Expr} {Q : List Value → Shared → Prop} {s : Shared}, (es.all plainE) = true → wpL X es Q s → wpAny (model X.prog X.w) X.A (spliced (backTo pos (starEach es X.env))) Q X.xe s
  | [], _, _, _, h => Calls.spliced_nil h
  | e :: es, Q, s, hp, h => by
    rw [List.all_cons, Bool.and_eq_true] at hp
    rw [star_cons hp.1]
    exact Calls.spliced_cons (thn h fun u s1 h1 => wpL_spliced pos hp.2 h1)

/-! ### names, constants -/
theorem de_var {i : Nat} {x : Str} {pos : Pos} (hN : X.N[i]? = some x) (hv : Vis X.env.scope x) (hd : (x == ("__debug__" : Str)) = false) (hcd : (x == ("__classdict__" : Str)) = false) : DE X (.Name x pos) (ev (.var i)) := by
  refine ⟨fun W z G₀ B tk pins s σ G H δ Q I R h => ?_⟩
  have fin : ∀ v, slotV σ i = some v → (∀ u s, Inv X pins σ H s → RelV v u → Q u s) → wpAny (model X.prog X.w) X.A (eval (.Name x pos) X.env) Q X.xe s := fun v hs hq => by
    have e : σ[i]? = some (some v) := by
      unfold slotV at hs
      rw [List.getD_eq_getElem?_getD] at hs
      cases q : σ[i]? with
      | none => rw [q] at hs; cases hs
      | some o => rw [q] at hs; cases hs; rfl
    exact thn ((pe_var (i := i) hN hv hd hcd).run pins s σ H (fun v' H' => v' = v ∧ H' = H) I ⟨v, e, rfl, rfl⟩) fun u s1 ⟨v', H', I1, r1, e1, e2⟩ => by
      subst e1 e2
      exact hq u s1 I1 r1
  have q := R.slot i
  unfold ev at h
  cases c : getS δ i with
  | non => simp only [c] at h; exact h.elim
  | sh d =>
    simp only [c] at h
    rw [c] at q
    obtain ⟨v, hs, hr⟩ := q
    exact fin v hs fun u s1 I1 r1 => h.use R u s1 v I1 r1 hr
  | ow d =>
    simp only [c] at h
    rw [c] at q
    obtain ⟨p, o, hs, _⟩ := q
    exact fin _ hs fun u s1 I1 r1 => h.use R u s1 _ I1 r1 hs
  | io d =>
    simp only [c] at h
    rw [c] at q
    obtain ⟨_, p, o, _, hs, _⟩ := q
    exact fin _ hs fun u s1 I1 r1 => h.use R u s1 _ I1 r1 hs
theorem de_of {e : Expr} {t : Ev} {v : V} {d : D} (hp : PE X e (tC v)) (ht : ∀ δ, t δ = .ok (.sh d) δ) (hr : ∀ K w G, Rp K w G d v) : DE X e t := by
  refine ⟨fun W z G₀ B tk pins s σ G H δ Q I R h => ?_⟩
  rw [ht] at h
  exact thn (hp.run pins s σ H (fun v' H' => v' = v ∧ H' = H) I ⟨rfl, rfl⟩) fun u s1 ⟨v', H', I1, r1, e1, e2⟩ => by
    subst e1 e2
    exact h.use R u s1 v' I1 r1 (hr _ _ _)
theorem de_int {i : Int} {j pos} : DE X (.Constant (.int i) j pos) (ev (.cst (.int i))) := de_of (d := .int i) pe_int (fun δ => by simp only [ev]) fun _ _ _ => rfl
theorem de_bool {b : Bool} {j pos} : DE X (.Constant (.bool b) j pos) (ev (.cst (.bool b))) := de_of (d := .bool b) pe_bl (fun δ => by simp only [ev]) fun _ _ _ => rfl
theorem de_none {j pos} : DE X (.Constant .none j pos) (ev (.cst .none)) := de_of (d := .none) pe_non (fun δ => by simp only [ev]) fun _ _ _ => rfl
theorem de_str {x : Str} {j pos} : DE X (.Constant (.str x) j pos) (ev (.cst (.str x))) := de_of (d := .str x) pe_str (fun δ => by simp only [ev]) fun _ _ _ => rfl
theorem de_glb {x : Str} {i : Int} {t : Tok} {pos} (hg : Gl X x) (hm : X.mg x = some (.int i t)) (hd : (x == ("__debug__" : Str)) = false) : DE X (.Name x pos) (ev (.glb x (.int i))) :=
  de_of (d := .int i) (pe_glob hg hm (v := .int i) ⟨_, rfl⟩ hd) (fun δ => by simp only [ev]) fun _ _ _ => rfl

/-! ### tests -/
/-- where the test is asked by its value -/
def plainT : Expr → Bool
  | .BoolOp _ _ _ => false
  | .UnaryOp .Not _ _ => false
  | .IfExp _ _ _ _ => false
  | .Compare _ _ _ _ => false
  | _ => true
theorem tst_kont {W : WX} {z : Option Addr} {G₀ B G : Hp} {σ : L2.St} {r : Res RV} {C : Bool → Env → Hp → Hp → Prop} (h : Kont X W z G₀ B G σ (tst r) C) :
    Kont X W z G₀ B G σ r (fun a δ G' H' => ∃ b, a = .sh (.bool b) ∧ C b δ G' H') := by
  refine (Kont.bind h).imp fun a δ G' H' R s k => ?_
  cases a with
  | sh d =>
    cases d with
    | bool b => exact ⟨b, rfl, k.use R⟩
    | _ => exact k.elim
  | _ => exact k.elim
theorem dt_plain {e : Expr} {t : Ev} (h : DE X e t) (hp : plainT e = true) : DT X e (fun δ => tst (t δ)) := by
  have he : ∀ whole, isTrue e X.env whole = (do let v ← whole; standAt e.pos; holding [v] (truthy v)) := by
    intro whole
    cases e with
    | UnaryOp op a pos => cases op <;> first | rfl | cases hp
    | _ => first | rfl | cases hp
  refine ⟨fun W z G₀ B tk pins s σ G H δ Q I R k => ?_⟩
  refine isTrue_plain (h.run W z G₀ B tk pins s σ G H δ _ I R ((tst_kont k).imp fun a δ1 G1 H1 R1 s1 k1 => ?_)) (he _)
  obtain ⟨b, rfl, q⟩ := k1
  intro u s1 v I1 r1 ok
  obtain rfl : v = .bl b := ok
  cases r1
  exact wpAny_truthy_bool (q s1 I1)
theorem dt_not {a : Expr} {t : Env → Res Bool} {pos : Pos} (h : DT X a t) : DT X (.UnaryOp .Not a pos) (fun δ => tst ((t δ).bind fun b δ1 => .ok (.sh (.bool (!b))) δ1)) := by
  refine ⟨fun W z G₀ B tk pins s σ G H δ Q I R k => ?_⟩
  refine isTrue_not (h.run W z G₀ B tk pins s σ G H δ _ I R ((tst_kont k).bind.imp fun b δ1 G1 H1 R1 s1 k1 => ?_))
  intro s1 I1
  obtain ⟨c, e, q⟩ := k1.use R1
  cases e
  exact q s1 I1
theorem de_not {a : Expr} {t : Ev} {pos : Pos} (h : DE X a t) : DE X (.UnaryOp .Not a pos) (fun δ => (tst (t δ)).bind fun b δ1 => .ok (.sh (.bool (!b))) δ1) := by
  refine ⟨fun W z G₀ B tk pins s σ G H δ Q I R k => ?_⟩
  refine UnaryOp_ (h.run W z G₀ B tk pins s σ G H δ _ I R ((tst_kont k.bind).imp fun a δ1 G1 H1 R1 s1 k1 => ?_))
  obtain ⟨b, rfl, q⟩ := k1
  intro u s1 v I1 r1 ok
  obtain rfl : v = .bl b := ok
  cases r1
  exact not_of (wpAny_truthy_bool (q.use R1 _ s1 (.bl (!b)) I1 rfl rfl))
theorem de_ite {c a b : Expr} {t : Env → Res Bool} {ta tb : Ev} {pos : Pos} (hc : DT X c t) (ha : DE X a ta) (hb : DE X b tb) : DE X (.IfExp c a b pos) (fun δ => (t δ).bind fun t δ1 => if t then ta δ1 else tb δ1) := by
  refine ⟨fun W z G₀ B tk pins s σ G H δ Q I R k => ?_⟩
  refine wpAny_IfExp (hc.run W z G₀ B tk pins s σ G H δ _ I R (k.bind.imp fun d δ1 G1 H1 R1 s1 k1 => ?_))
  intro s1 I1
  cases d with
  | true => exact ha.run W z G₀ B tk pins s1 σ G1 H1 δ1 Q I1 R1 k1
  | false => exact hb.run W z G₀ B tk pins s1 σ G1 H1 δ1 Q I1 R1 k1
/-- and, or: as values -/
theorem de_one {op : BoolOp} {a : Expr} {t : Ev} {pos : Pos} (h : DE X a t) : DE X (.BoolOp op [a] pos) t := ⟨fun W z G₀ B tk pins s σ G H δ Q I R k => BoolOp_one (h.run W z G₀ B tk pins s σ G H δ Q I R k)⟩
theorem de_and {a b : Expr} {rest : List Expr} {t : Ev} {u : Ev} {pos : Pos} (ha : DE X a t) (hb : DE X (.BoolOp .And (b :: rest) pos) u) :
    DE X (.BoolOp .And (a :: b :: rest) pos) (fun δ => (tst (t δ)).bind fun c δ1 => if c then u δ1 else .ok (.sh (.bool false)) δ1) := by
  refine ⟨fun W z G₀ B tk pins s σ G H δ Q I R k => ?_⟩
  refine BoolOp_and (ha.run W z G₀ B tk pins s σ G H δ _ I R ((tst_kont k.bind).imp fun a δ1 G1 H1 R1 s1 k1 => ?_))
  obtain ⟨c, rfl, q⟩ := k1
  intro u s1 v I1 r1 ok
  obtain rfl : v = .bl c := ok
  cases r1
  refine wpAny_truthy_bool ?_
  cases c with
  | true => exact hb.run W z G₀ B tk pins s1 σ G1 H1 δ1 Q I1 R1 q
  | false => exact q.use R1 _ s1 (.bl false) I1 rfl rfl
theorem de_or {a b : Expr} {rest : List Expr} {t : Ev} {u : Ev} {pos : Pos} (ha : DE X a t) (hb : DE X (.BoolOp .Or (b :: rest) pos) u) :
    DE X (.BoolOp .Or (a :: b :: rest) pos) (fun δ => (tst (t δ)).bind fun c δ1 => if c then .ok (.sh (.bool true)) δ1 else u δ1) := by
  refine ⟨fun W z G₀ B tk pins s σ G H δ Q I R k => ?_⟩
  refine BoolOp_or (ha.run W z G₀ B tk pins s σ G H δ _ I R ((tst_kont k.bind).imp fun a δ1 G1 H1 R1 s1 k1 => ?_))
  obtain ⟨c, rfl, q⟩ := k1
  intro u s1 v I1 r1 ok
  obtain rfl : v = .bl c := ok
  cases r1
  refine wpAny_truthy_bool ?_
  cases c with
  | true => exact q.use R1 _ s1 (.bl true) I1 rfl rfl
  | false => exact hb.run W z G₀ B tk pins s1 σ G1 H1 δ1 Q I1 R1 q
/-- .. as tests, whatever the whole is -/
structure DTW (X : Cx) (e : Expr) (t : Env → Res Bool) : Prop where
  run : ∀ (whole : Sem Value) (W : WX) (z : Option Addr) (G₀ B : Hp), Takes X W → ∀ (pins : List (Addr × Obj)) (s : Shared) (σ : L2.St) (G H : Hp) (δ : Env) (Q : Bool → Shared → Prop), Inv X pins σ H s → RS X.K X.w z G₀ B G H σ δ →
    Kont X W z G₀ B G σ (t δ) (TQ X pins σ Q) → wpAny (model X.prog X.w) X.A (isTrue e X.env whole) Q X.xe s
theorem DTW.dt {e : Expr} {t : Env → Res Bool} (h : DTW X e t) : DT X e t := ⟨h.run _⟩
theorem dt_and1 {a : Expr} {t : Env → Res Bool} {pos : Pos} (h : DT X a t) : DTW X (.BoolOp .And [a] pos) t := by
  refine ⟨fun wh W z G₀ B tk pins s σ G H δ Q I R k => ?_⟩
  refine isTrue_and (h.run W z G₀ B tk pins s σ G H δ _ I R (k.imp fun c δ1 G1 H1 R1 s1 k1 => ?_))
  intro s1 I1
  cases c with
  | true => exact isTrue_and_nil (k1 s1 I1)
  | false => exact k1 s1 I1
theorem dt_or1 {a : Expr} {t : Env → Res Bool} {pos : Pos} (h : DT X a t) : DTW X (.BoolOp .Or [a] pos) t := by
  refine ⟨fun wh W z G₀ B tk pins s σ G H δ Q I R k => ?_⟩
  refine isTrue_or (h.run W z G₀ B tk pins s σ G H δ _ I R (k.imp fun c δ1 G1 H1 R1 s1 k1 => ?_))
  intro s1 I1
  cases c with
  | false => exact isTrue_or_nil (k1 s1 I1)
  | true => exact k1 s1 I1
theorem dt_and {a b : Expr} {rest : List Expr} {t u : Env → Res Bool} {pos : Pos} (ha : DT X a t) (hb : DTW X (.BoolOp .And (b :: rest) pos) u) :
    DTW X (.BoolOp .And (a :: b :: rest) pos) (fun δ => (t δ).bind fun c δ1 => if c then u δ1 else .ok false δ1) := by
  refine ⟨fun wh W z G₀ B tk pins s σ G H δ Q I R k => ?_⟩
  refine isTrue_and (ha.run W z G₀ B tk pins s σ G H δ _ I R (k.bind.imp fun c δ1 G1 H1 R1 s1 k1 => ?_))
  intro s1 I1
  cases c with
  | true => exact hb.run wh W z G₀ B tk pins s1 σ G1 H1 δ1 Q I1 R1 k1
  | false => exact k1.use R1 s1 I1
theorem dt_or {a b : Expr} {rest : List Expr} {t u : Env → Res Bool} {pos : Pos} (ha : DT X a t) (hb : DTW X (.BoolOp .Or (b :: rest) pos) u) :
    DTW X (.BoolOp .Or (a :: b :: rest) pos) (fun δ => (t δ).bind fun c δ1 => if c then .ok true δ1 else u δ1) := by
  refine ⟨fun wh W z G₀ B tk pins s σ G H δ Q I R k => ?_⟩
  refine isTrue_or (ha.run W z G₀ B tk pins s σ G H δ _ I R (k.bind.imp fun c δ1 G1 H1 R1 s1 k1 => ?_))
  intro s1 I1
  cases c with
  | true => exact k1.use R1 s1 I1
  | false => exact hb.run wh W z G₀ B tk pins s1 σ G1 H1 δ1 Q I1 R1 k1
end
end DL
set_option Elab.async false
set_option linter.all false
set_option maxRecDepth 100000
set_option maxHeartbeats 1000000
/-! Layer D, part D: the operations, by values. -/
namespace DL
open PySem PySem.Spec PyProof.Rows L2

/-! ### reading a value -/
section
variable {K : PySem.W.Frag} {w : World} {G H : Hp} {v : V}
theorem Rd1.int {i : Int} (h : Rd1 K w G H (.int i) v) : v = .int i := h.elim (fun h => h) fun ⟨_, _, _, _, h⟩ => h.elim
theorem Rd1.bool {i : Bool} (h : Rd1 K w G H (.bool i) v) : v = .bl i := h.elim (fun h => h) fun ⟨_, _, _, _, h⟩ => h.elim
theorem Rd1.str {i : Str} (h : Rd1 K w G H (.str i) v) : v = .str i := h.elim (fun h => h) fun ⟨_, _, _, _, h⟩ => h.elim
theorem Rd1.none (h : Rd1 K w G H .none v) : v = .non := h.elim (fun h => h) fun ⟨_, _, _, _, h⟩ => h.elim
theorem Rd1.list {ds : List D} (e : Same G H) (h : Rd1 K w G H (.list ds) v) : ∃ a xs, v = .ref a ∧ SqL K H a xs ∧ ds.length ≤ sizeLine ∧ Rps K w G ds xs := by
  rcases h with h | ⟨p, o, rfl, h1, h2⟩
  · obtain ⟨a, xs, h1, h2, h3, h4⟩ := h
    exact ⟨a, xs, h1, e.seq h2, h3, h4⟩
  · obtain ⟨xs, rfl, h3, h4⟩ := h2
    exact ⟨p, xs, rfl, .inl (.inl h1), h3, h4⟩
theorem Rd1.tuple {ds : List D} (e : Same G H) (h : Rd1 K w G H (.tuple ds) v) : ∃ a xs, v = .ref a ∧ SqT K H a xs ∧ ds.length ≤ sizeLine ∧ Rps K w G ds xs ∧ ∃ o, G a = some (.frz o (.tup xs)) ∧ o.dict = Option.none := by
  rcases h with h | ⟨p, o, rfl, h1, h2⟩
  · obtain ⟨a, xs, o, h1, h2, h3, h4, h5⟩ := h
    exact ⟨a, xs, h1, .inl (.inr ⟨o, e _ _ h2⟩), h4, h5, o, h2, h3⟩
  · exact h2.elim
theorem Rps.get : ∀ {ds : List D} {xs : List V} {i : Nat} {d : D}, Rps K w G ds xs → ds[i]? = some d → ∃ x, xs[i]? = some x ∧ Rp K w G d x
  | [], _, _, _, _, e => by simp at e
  | d :: ds, xs, i, d', h, e => by
    obtain ⟨x, r, rfl, h1, h2⟩ := h
    cases i with
    | zero => cases e; exact ⟨x, rfl, h1⟩
    | succ i => exact Rps.get (i := i) h2 e
theorem Rps.append : ∀ {ds : List D} {xs : List V} {es : List D} {ys : List V}, Rps K w G ds xs → Rps K w G es ys → Rps K w G (ds ++ es) (xs ++ ys)
  | [], _, _, _, h, h' => by cases h; exact h'
  | d :: ds, xs, es, ys, h, h' => by
    obtain ⟨x, r, rfl, h1, h2⟩ := h
    exact ⟨x, r ++ ys, rfl, h1, Rps.append h2 h'⟩
theorem Rps.drop : ∀ {ds : List D} {xs : List V} (n : Nat), Rps K w G ds xs → Rps K w G (ds.drop n) (xs.drop n)
  | _, _, 0, h => h
  | [], _, n + 1, h => by cases h; rfl
  | d :: ds, xs, n + 1, h => by
    obtain ⟨x, r, rfl, h1, h2⟩ := h
    exact Rps.drop n h2
theorem Rps.take : ∀ {ds : List D} {xs : List V} (n : Nat), Rps K w G ds xs → Rps K w G (ds.take n) (xs.take n)
  | _, _, 0, h => rfl
  | [], _, n + 1, h => by cases h; rfl
  | d :: ds, xs, n + 1, h => by
    obtain ⟨x, r, rfl, h1, h2⟩ := h
    exact ⟨x, r.take n, rfl, h1, Rps.take n h2⟩
theorem Rps.rep {ds : List D} {xs : List V} (h : Rps K w G ds xs) : ∀ n : Nat, Rps K w G (List.replicate n ds).flatten (List.replicate n xs).flatten
  | 0 => rfl
  | n + 1 => by
    rw [List.replicate_succ, List.replicate_succ, List.flatten_cons, List.flatten_cons]
    exact h.append (Rps.rep h n)
theorem Rps.reverse : ∀ {ds : List D} {xs : List V}, Rps K w G ds xs → Rps K w G ds.reverse xs.reverse
  | [], _, h => by cases h; rfl
  | d :: ds, xs, h => by
    obtain ⟨x, r, rfl, h1, h2⟩ := h
    rw [List.reverse_cons, List.reverse_cons]
    exact (Rps.reverse h2).append ⟨x, [], rfl, h1, rfl⟩
theorem Rps.set : ∀ {ds : List D} {xs : List V} (i : Nat) {d : D} {x : V}, Rps K w G ds xs → Rp K w G d x → Rps K w G (ds.set i d) (xs.set i x)
  | [], _, _, _, _, h, _ => by cases h; rfl
  | d :: ds, xs, i, d', x', h, h' => by
    obtain ⟨x, r, rfl, h1, h2⟩ := h
    cases i with
    | zero => exact ⟨x', r, rfl, h', h2⟩
    | succ i => exact ⟨x, r.set i x', rfl, h1, Rps.set i h2 h'⟩
theorem Rps.eraseIdx : ∀ {ds : List D} {xs : List V} (i : Nat), Rps K w G ds xs → Rps K w G (ds.eraseIdx i) (xs.eraseIdx i)
  | [], _, _, h => by cases h; rfl
  | d :: ds, xs, i, h => by
    obtain ⟨x, r, rfl, h1, h2⟩ := h
    cases i with
    | zero => exact h2
    | succ i => exact ⟨x, r.eraseIdx i, rfl, h1, Rps.eraseIdx i h2⟩
theorem Rps.dropLast : ∀ {ds : List D} {xs : List V}, Rps K w G ds xs → Rps K w G ds.dropLast xs.dropLast := fun {ds xs} h => by
  have e := h.length
  rw [List.dropLast_eq_take, List.dropLast_eq_take, e]
  exact h.take _
theorem Rps.ints : ∀ {ds : List D} {xs : List V} {ns : List Int}, Rps K w G ds xs → intsOf ds = some ns → xs = ns.map V.int
  | [], _, _, h, e => by cases h; cases e; rfl
  | d :: ds, xs, ns, h, e => by
    obtain ⟨x, r, rfl, h1, h2⟩ := h
    cases d with
    | int i =>
      unfold intsOf at e
      cases q : intsOf ds with
      | none => rw [q] at e; cases e
      | some ms =>
        rw [q] at e; cases e
        rw [Rps.ints h2 q, show x = .int i from h1]; rfl
    | _ => cases e
theorem Rps.bools : ∀ {ds : List D} {xs : List V} {ns : List Bool}, Rps K w G ds xs → boolsOf ds = some ns → xs = ns.map V.bl
  | [], _, _, h, e => by cases h; cases e; rfl
  | d :: ds, xs, ns, h, e => by
    obtain ⟨x, r, rfl, h1, h2⟩ := h
    cases d with
    | bool i =>
      unfold boolsOf at e
      cases q : boolsOf ds with
      | none => rw [q] at e; cases e
      | some ms =>
        rw [q] at e; cases e
        rw [Rps.bools h2 q, show x = .bl i from h1]; rfl
    | _ => cases e
/-- the data as == is told of them -/
theorem Same.dpL {K : PySem.W.Frag} {G H : Hp} {a : Addr} {xs : List V} (e : Same G H) {o : Obj} (h : G a = some (.frz o (.tup xs))) : SqT K H a xs := .inl (.inr ⟨o, e _ _ h⟩)
mutual
theorem Rp.dp (e : Same G H) : ∀ {d : D} {v : V}, Rp K w G d v → d.plain = true → Dp K H v d
  | .none, v, h, _ => by rw [show v = .non from h]; exact .non
  | .bool b, v, h, _ => by rw [show v = .bl b from h]; exact .bl b
  | .int i, v, h, _ => by rw [show v = .int i from h]; exact .int i
  | .str x, v, h, _ => by rw [show v = .str x from h]; exact .str x
  | .list ds, v, h, c => by
    obtain ⟨a, xs, rfl, h2, _, h4⟩ := h
    exact .lst (e.seq h2) (Rps.dp e h4 c)
  | .tuple ds, v, h, c => by
    obtain ⟨a, xs, o, rfl, h2, _, _, h5⟩ := h
    exact .tup (Same.dpL e h2) (Rps.dp e h5 c)
  | .dict _, v, h, c => by cases c
theorem Rps.dp (e : Same G H) : ∀ {ds : List D} {xs : List V}, Rps K w G ds xs → PyData.plainAll ds = true → DpAll K H xs ds
  | [], _, h, _ => by cases h; exact .nil
  | d :: ds, xs, h, c => by
    obtain ⟨x, r, rfl, h1, h2⟩ := h
    rw [PyData.plainAll, Bool.and_eq_true] at c
    exact .cons (Rp.dp e h1 c.1) (Rps.dp e h2 c.2)
end
theorem Rd1.dp {d : D} (e : Same G H) (h : Rd1 K w G H d v) (c : d.plain = true) : Dp K H v d := by
  rcases h with h | ⟨p, o, rfl, h1, h2⟩
  · exact h.dp e c
  · cases d with
    | list ds =>
      obtain ⟨xs, rfl, _, h4⟩ := h2
      exact .lst (.inl (.inl h1)) (Rps.dp e h4 c)
    | dict kvs => cases c
    | _ => exact h2.elim
end

/-! ### a new value -/
def NewR (K : PySem.W.Frag) (w : World) (G H H' : Hp) (v : V) : RV → Prop
  | .sh d => Rp K w G d v
  | .ow d => ∃ p o, v = .ref p ∧ H p = none ∧ G p = none ∧ H' p = some o ∧ ObOk K w G p o d
  | .br _ => False
section
variable {K : PySem.W.Frag} {w : World} {z : Option Addr} {G₀ B G G' H H' : Hp} {σ : L2.St} {δ : Env} {v : V} {r : RV}
theorem NewR.rv (R : RS K w z G₀ B G H σ δ) (n : NewR K w G' H H' v r) : RVOk K w B G' H' σ δ v r := by
  cases r with
  | sh d => exact n
  | br i => exact n.elim
  | ow d =>
    obtain ⟨p, o, rfl, h1, h2, h3, h4⟩ := n
    refine ⟨p, o, rfl, R.bh.free h1, h2, h3, h4, fun i hi hs => ?_⟩
    have q := R.slot i
    cases c : getS δ i with
    | non => rw [c] at hi; cases hi
    | sh d' => rw [c] at hi; cases hi
    | ow d' =>
      rw [c] at q
      obtain ⟨p', o', h5, _, _, h6, _⟩ := q
      rw [hs] at h5; cases h5
      rw [h1] at h6; cases h6
    | io d' =>
      rw [c] at q
      obtain ⟨_, p', o', _, h5, _, _, h6, _⟩ := q
      rw [hs] at h5; cases h5
      rw [h1] at h6; cases h6
end
/-- the end of an operation -/
def OpP (X : Cx) (pins : List (Addr × Obj)) (σ : L2.St) (G H : Hp) (r : RV) (u : Value) (s' : Shared) : Prop :=
  ∃ v G' H', Inv X pins σ H' s' ∧ RelV v u ∧ Ext G H G' H' ∧ NewR X.K X.w G' H H' v r
/-- an operation by values -/
structure OpV (X : Cx) (g : List D → Option RV) (sem : List Value → Sem Value) : Prop where
  run : ∀ (pins : List (Addr × Obj)) (s : Shared) (σ : L2.St) (G H : Hp) (vs : List V) (us : List Value) (ds : List D) (r : RV), Inv X pins σ H s → Vals vs us → Same G H → Rd1s X.K X.w G H ds vs → g ds = some r →
    wpAny (model X.prog X.w) X.A (sem us) (OpP X pins σ G H r) X.xe s
def sem1 (f : Value → Sem Value) : List Value → Sem Value
  | [v] => f v
  | _ => pure .none
def sem2 (f : Value → Value → Sem Value) : List Value → Sem Value
  | [v, u] => f v u
  | _ => pure .none
section
variable {X : Cx} {pins : List (Addr × Obj)} {s : Shared} {σ : L2.St} {G H : Hp} {us : List Value} {vs : List V}
/-- a flat answer: nothing is new -/
def Flat (X : Cx) (v : V) (r : RV) : Prop := ∃ d, r = .sh d ∧ ∀ K w G, Rp K w G d v
theorem OpP.flat {v : V} {d : D} {u : Value} {s' : Shared} (I : Inv X pins σ H s') (ru : RelV v u) (e : Same G H) (h : ∀ K w G, Rp K w G d v) : OpP X pins σ G H (.sh d) u s' := ⟨v, G, H, I, ru, Ext.refl e, h _ _ _⟩
theorem OpP.item {v : V} {d : D} {u : Value} {s' : Shared} (I : Inv X pins σ H s') (ru : RelV v u) (e : Same G H) (h : Rp X.K X.w G d v) : OpP X pins σ G H (.sh d) u s' := ⟨v, G, H, I, ru, Ext.refl e, h⟩
theorem OpP.newList {ds : List D} {xs : List V} {p : Addr} {u : Value} {s' : Shared} (I : Inv X pins σ (upd H p (.lst xs)) s') (ru : RelV (.ref p) u) (e : Same G H) (n : H p = none) (hz : ds.length ≤ sizeLine) (h : Rps X.K X.w G ds xs) : OpP X pins σ G H (.ow (.list ds)) u s' :=
  ⟨.ref p, G, _, I, ru, Ext.new1 e n, p, _, rfl, n, e.free n, upd_same, xs, rfl, hz, h⟩
/-- the object of a new tuple -/
abbrev tO (its : List Value) : Obj := { cls := .type "tuple", data := .seq its.toArray }
theorem tup_laid {its : List Value} {xs : List V} {tk : Nat} (I : Inv X pins σ H s) (r : Vals xs its) (hz : xs.length ≤ sizeLine) :
    Inv X pins σ (upd H s.heap.objs.size (.frz (tO its) (.tup xs))) { s with heap := s.heap.push (tO its), toks := tk } :=
  I.laid (fun b o e => Heap.get?_push_of_some _ e) (Nat.le_refl _) (show ObjOk X.prog X.w _ _ _ (.frz (tO its) (.tup xs)) from ⟨Heap.get?_push_size _ rfl, hz, its, r, IsTup.new _ _⟩)
theorem OpP.newTup {ds : List D} {xs : List V} {p : Addr} {o : Obj} {u : Value} {s' : Shared} (I : Inv X pins σ (upd H p (.frz o (.tup xs))) s') (ho : o.dict = none) (ru : RelV (.ref p) u) (e : Same G H) (n : H p = none) (hz : ds.length ≤ sizeLine) (h : Rps X.K X.w G ds xs) : OpP X pins σ G H (.sh (.tuple ds)) u s' :=
  ⟨.ref p, upd G p (.frz o (.tup xs)), _, I, ru, Ext.newSh e n, p, xs, o, rfl, upd_same, ho, hz, Rps.mono (Ext.newSh (o := .frz o (.tup xs)) e n).gg h⟩
theorem rd2 {d d' : D} {vs : List V} (h : Rd1s X.K X.w G H [d, d'] vs) : ∃ x y, vs = [x, y] ∧ Rd1 X.K X.w G H d x ∧ Rd1 X.K X.w G H d' y := by
  match vs, h with
  | [x, y], h => exact ⟨x, y, rfl, h.1, h.2.1⟩
theorem rd1 {d : D} {vs : List V} (h : Rd1s X.K X.w G H [d] vs) : ∃ x, vs = [x] ∧ Rd1 X.K X.w G H d x := by
  match vs, h with
  | [x], h => exact ⟨x, rfl, h.1⟩
theorem rd3 {d d' d2 : D} {vs : List V} (h : Rd1s X.K X.w G H [d, d', d2] vs) : ∃ x y z, vs = [x, y, z] ∧ Rd1 X.K X.w G H d x ∧ Rd1 X.K X.w G H d' y ∧ Rd1 X.K X.w G H d2 z := by
  match vs, h with
  | [x, y, z], h => exact ⟨x, y, z, rfl, h.1, h.2.1, h.2.2.1⟩
/-- of two values -/
theorem ov2 {f : Value → Value → Sem Value} {g : List D → Option RV} (h2 : ∀ ds r, g ds = some r → ∃ a b, ds = [a, b])
    (h : ∀ (pins : List (Addr × Obj)) (s : Shared) (σ : L2.St) (G H : Hp) (x y : V) (v u : Value) (a b : D) (r : RV), Inv X pins σ H s → RelV x v → RelV y u → Same G H → Rd1 X.K X.w G H a x → Rd1 X.K X.w G H b y → g [a, b] = some r →
      wpAny (model X.prog X.w) X.A (f v u) (OpP X pins σ G H r) X.xe s) : OpV X g (sem2 f) := by
  refine ⟨fun pins s σ G H vs us ds r I rv e hd hg => ?_⟩
  obtain ⟨a, b, rfl⟩ := h2 _ _ hg
  obtain ⟨x, y, rfl, hx, hy⟩ := rd2 hd
  obtain ⟨v, u, rfl, r1, r2⟩ := vals2 rv
  exact h pins s σ G H x y v u a b r I r1 r2 e hx hy hg
theorem ov1 {f : Value → Sem Value} {g : List D → Option RV} (h2 : ∀ ds r, g ds = some r → ∃ a, ds = [a])
    (h : ∀ (pins : List (Addr × Obj)) (s : Shared) (σ : L2.St) (G H : Hp) (x : V) (v : Value) (a : D) (r : RV), Inv X pins σ H s → RelV x v → Same G H → Rd1 X.K X.w G H a x → g [a] = some r →
      wpAny (model X.prog X.w) X.A (f v) (OpP X pins σ G H r) X.xe s) : OpV X g (sem1 f) := by
  refine ⟨fun pins s σ G H vs us ds r I rv e hd hg => ?_⟩
  obtain ⟨a, rfl⟩ := h2 _ _ hg
  obtain ⟨x, rfl, hx⟩ := rd1 hd
  obtain ⟨v, rfl, r1⟩ := vals1 rv
  exact h pins s σ G H x v a r I r1 e hx hg
/-- by an OpR of HandS whose answer is flat -/
theorem op_flat {f : Value → Value → Sem Value} {rr : R2} {x y v : V} {u w : Value} {d : D} (ho : OpR X f rr) (I : Inv X pins σ H s) (rx : RelV x u) (ry : RelV y w) (e : Same G H) (hr : ∀ Q : VK, Q v H → rr x y H Q) (hd : ∀ K w G, Rp K w G d v) :
    wpAny (model X.prog X.w) X.A (f u w) (OpP X pins σ G H (.sh d)) X.xe s :=
  thn (ho pins s σ H x y u w (fun v' H' => v' = v ∧ H' = H) I rx ry (hr _ ⟨rfl, rfl⟩)) fun u' s' ⟨v', H', I', ru, e1, e2⟩ => by
    subst e1 e2
    exact OpP.flat I' ru e hd
theorem call_flat {f : Value} {rr : List V → Hp → VK → Prop} {v : V} {d : D} {xs : List V} {us : List Value} (ho : CallR X f rr) (I : Inv X pins σ H s) (rx : Vals xs us) (e : Same G H) (hr : ∀ Q : VK, Q v H → rr xs H Q) (hd : ∀ K w G, Rp K w G d v) :
    wpAny (model X.prog X.w) X.A (call f us) (OpP X pins σ G H (.sh d)) X.xe s :=
  thn (ho pins s σ H xs us (fun v' H' => v' = v ∧ H' = H) I rx (hr _ ⟨rfl, rfl⟩)) fun u' s' ⟨v', H', I', ru, e1, e2⟩ => by
    subst e1 e2
    exact OpP.flat I' ru e hd
end

theorem sh2 {g : List D → Option RV} (h3 : ∀ a b c t, g (a :: b :: c :: t) = none) (h1 : ∀ a, g [a] = none) (h0 : g [] = none) : ∀ ds r, g ds = some r → ∃ a b, ds = [a, b]
  | [], r, h => by rw [h0] at h; cases h
  | [a], r, h => by rw [h1] at h; cases h
  | [a, b], _, _ => ⟨a, b, rfl⟩
  | a :: b :: c :: t, r, h => by rw [h3] at h; cases h
theorem sh1 {g : List D → Option RV} (h2 : ∀ a b t, g (a :: b :: t) = none) (h0 : g [] = none) : ∀ ds r, g ds = some r → ∃ a, ds = [a]
  | [], r, h => by rw [h0] at h; cases h
  | [a], _, _ => ⟨a, rfl⟩
  | a :: b :: t, r, h => by rw [h2] at h; cases h
/-! ### arithmetic -/
section
variable {X : Cx}
theorem listAdd {pins : List (Addr × Obj)} {s : Shared} {σ : L2.St} {G H : Hp} {as bs : List D} {x y : V} {v u : Value} (I : Inv X pins σ H s) (rx : RelV x v) (ry : RelV y u) (e : Same G H) (ha : Rd1 X.K X.w G H (.list as) x) (hb : Rd1 X.K X.w G H (.list bs) y) (hz : as.length + bs.length ≤ big) :
    wpAny (model X.prog X.w) X.A (binaryOp .Add v u) (OpP X pins σ G H (.ow (.list (as ++ bs)))) X.xe s := by
  obtain ⟨a, xs, rfl, h1, z1, p1⟩ := ha.list e
  obtain ⟨b, ys, rfl, h2, z2, p2⟩ := hb.list e
  cases rx
  cases ry
  obtain ⟨its, r1, pl, _⟩ := I.list h1
  obtain ⟨its2, r2, pl2, _⟩ := I.list h2
  obtain ⟨⟨cls, dd, data, sl⟩, ho, hc, n, hd⟩ := pl.isList
  obtain ⟨⟨cls2, dd2, data2, sl2⟩, ho2, hc2, n2, hd2⟩ := pl2.isList
  simp only at hc hd hc2 hd2
  subst hc hd hc2 hd2
  have l1 := r1.length
  have l2 := r2.length
  have l3 := p1.length
  have l4 := p2.length
  have hz' : as.length + bs.length ≤ 16777216 := hz
  have hsz : its.length + its2.length ≤ sizeLine := by rw [sizeLine_eq]; omega
  refine concat_meets ⟨_, ho, rfl⟩ ⟨_, ho2, rfl⟩ noFill_list_add seq_list_add PySem.F.slot_list_add PySem.F.entry_list_add (PySem.F.args_list_add_2 _ _) (list_addW a b its.toArray its2.toArray n n2 dd dd2 sl sl2 (by simpa using hsz)) ⟨ho, ho2, ?_⟩
  rw [show its.toArray ++ its2.toArray = (its ++ its2).toArray by simp]
  refine OpP.newList (I.lnew (t' := s.toks) (r1.append r2) ?_) rfl e I.fresh ?_ (p1.append p2)
  · rw [List.length_append]; omega
  · rw [List.length_append, sizeLine_eq]; exact hz
theorem tupAdd {pins : List (Addr × Obj)} {s : Shared} {σ : L2.St} {G H : Hp} {as bs : List D} {x y : V} {v u : Value} (I : Inv X pins σ H s) (rx : RelV x v) (ry : RelV y u) (e : Same G H) (ha : Rd1 X.K X.w G H (.tuple as) x) (hb : Rd1 X.K X.w G H (.tuple bs) y) (hz : as.length + bs.length ≤ big) :
    wpAny (model X.prog X.w) X.A (binaryOp .Add v u) (OpP X pins σ G H (.sh (.tuple (as ++ bs)))) X.xe s := by
  obtain ⟨a, xs, rfl, h1, z1, p1, o1, g1, n1⟩ := ha.tuple e
  obtain ⟨b, ys, rfl, h2, z2, p2, o2, g2, n2⟩ := hb.tuple e
  cases rx
  cases ry
  obtain ⟨its, r1, t1, _⟩ := I.tuple h1
  obtain ⟨its2, r2, t2, _⟩ := I.tuple h2
  have l1 := r1.length
  have l2 := r2.length
  have l3 := p1.length
  have l4 := p2.length
  have hz' : as.length + bs.length ≤ 16777216 := hz
  by_cases hx : its = []
  · subst hx
    cases r1
    have z : as = [] := List.eq_nil_of_length_eq_zero l3
    subst z
    exact cat_tup0 t1 t2 (OpP.item (v := .ref b) I rfl e ⟨b, ys, o2, rfl, g2, n2, z2, p2⟩)
  · refine HT.cat_tup t1 t2 hx (fun z => ?_) (fun _ => ?_) (by rw [sizeLine_eq]; omega)
    · subst z
      cases r2
      have z : bs = [] := List.eq_nil_of_length_eq_zero l4
      subst z
      rw [List.append_nil]
      exact OpP.item (v := .ref a) I rfl e ⟨a, xs, o1, rfl, g1, n1, z1, p1⟩
    · refine OpP.newTup (tup_laid (tk := s.toks) I (r1.append r2) ?_) rfl rfl e I.fresh ?_ (p1.append p2)
      · rw [List.length_append, sizeLine_eq]; omega
      · rw [List.length_append, sizeLine_eq]; exact hz
theorem ov_add : OpV X (opD .add) (sem2 (binaryOp .Add)) := by
  refine ov2 (sh2 (fun _ _ _ _ => rfl) (fun _ => rfl) rfl) fun pins s σ G H x y v u a b r I rx ry e ha hb hg => ?_
  replace hg : addD a b = some r := hg
  unfold addD at hg
  split at hg
  · cases hg
    have ea := ha.int; have eb := hb.int
    subst ea eb
    exact op_flat op_add I rx ry e (fun Q q => ⟨_, _, rfl, rfl, q⟩) fun _ _ _ => rfl
  · split at hg
    · cases hg
      exact listAdd I rx ry e ha hb (by assumption)
    · cases hg
  · split at hg
    · cases hg
      exact tupAdd I rx ry e ha hb (by assumption)
    · cases hg
  · split at hg
    · cases hg
      have ea := ha.str; have eb := hb.str
      subst ea eb
      exact op_flat op_add_str I rx ry e (fun Q q => ⟨_, _, rfl, rfl, by rw [sizeLine_eq]; assumption, q⟩) fun _ _ _ => rfl
    · cases hg
  · cases hg
    have ea := ha.bool; have eb := hb.int
    subst ea eb
    cases rx
    obtain ⟨t, rfl⟩ := ry
    exact PySem.IntBool.add_bool_int (OpP.flat (v := .int _) (I.tok _) ⟨_, rfl⟩ e fun _ _ _ => rfl)
  · cases hg
theorem ov_sub : OpV X (opD .sub) (sem2 (binaryOp .Sub)) := by
  refine ov2 (sh2 (fun _ _ _ _ => rfl) (fun _ => rfl) rfl) fun pins s σ G H x y v u a b r I rx ry e ha hb hg => ?_
  replace hg : subD a b = some r := hg
  unfold subD at hg
  split at hg
  · cases hg
    have ea := ha.int; have eb := hb.int
    subst ea eb
    exact op_flat op_sub I rx ry e (fun Q q => ⟨_, _, rfl, rfl, q⟩) fun _ _ _ => rfl
  · cases hg
    have ea := ha.bool; have eb := hb.int
    subst ea eb
    cases rx
    obtain ⟨t, rfl⟩ := ry
    exact PySem.IntBool.sub_bool_int (OpP.flat (v := .int _) (I.tok _) ⟨_, rfl⟩ e fun _ _ _ => rfl)
  · cases hg
theorem okMul_ok {i j : Int} (h : okMul i j = true) : IntMulOk i j := by
  unfold okMul at h
  simp only [Bool.or_eq_true, Bool.and_eq_true, decide_eq_true_eq] at h
  rcases h with (h | h) | h
  · exact CMul.ok (.inl h)
  · exact CMul.ok (.inr h)
  · exact (wide_mul (a := 8000) (b := 8000) h.1 h.2 (by decide) (by decide) (by decide)).ok
theorem list_mulW (l : Addr) (items : Array Value) (n : Nat) (dd : Option Addr) (sl : Array (Option Value)) (x : Int) (u : Tok) (hc0 : ¬(!Builtin.List.listFitsIndex x) = true) (hc1 : ¬items.size * x.toNat > (2 ^ 63 - 1) / 8) (hc2 : ¬Builtin.List.listTooLong (items.size * x.toNat) = true) :
    Meets (Builtin.«list.__mul__» ⟨[.ref l, .int x u], []⟩) (fun _ R s => s.heap.get? l = some { cls := .type "list", dict := dd, data := .seq items n, slots := sl } ∧
      R (.ok (.ret (Value.ref s.heap.objs.size))) { s with heap := s.heap.push { cls := Value.type "list", data := Data.seq (List.foldl (fun x1 x2 => x1 ++ x2) #[] (List.replicate (if items.isEmpty = true then 0 else x.toNat) items)) }, toks := s.toks }) :=
  .of_wp fun prog w A R s h => by
    obtain ⟨hp, g, dr, tk, os⟩ := s
    obtain ⟨hl, h⟩ := h
    have fits := AutoListH.joined_fits hc2
    have f1 := AutoSeq1.idx_int
    wp_walk using AutoSeq1.wpAny_loadPart' hl
    refine wpAny_ite_false (decide_eq_false (Nat.not_lt.mpr fits)) ?_
    wp_walk using AutoSeq1.wpAny_loadPart' hl
    exact ⟨_, rfl, h⟩
theorem ov_fdiv : OpV X (opD .fdiv) (sem2 (binaryOp .FloorDiv)) := by
  refine ov2 (sh2 (fun _ _ _ _ => rfl) (fun _ => rfl) rfl) fun pins s σ G H x y v u a b r I rx ry e ha hb hg => ?_
  replace hg : fdivD a b = some r := hg
  unfold fdivD at hg
  split at hg
  · split at hg
    · rename_i hm
      cases hg
      have ea := ha.int; have eb := hb.int
      subst ea eb
      rcases hm with ⟨h0, h1 | h1⟩
      · exact op_flat op_fdiv I rx ry e (fun Q q => ⟨_, _, rfl, rfl, ⟨h0, h1⟩, q⟩) fun _ _ _ => rfl
      · exact op_flat op_fdivW I rx ry e (fun Q q => ⟨_, _, rfl, rfl, wide_div h0 h1.2 (by decide) (by decide), q⟩) fun _ _ _ => rfl
    · cases hg
  · cases hg
theorem ov_mod : OpV X (opD .mod) (sem2 (binaryOp .Mod)) := by
  refine ov2 (sh2 (fun _ _ _ _ => rfl) (fun _ => rfl) rfl) fun pins s σ G H x y v u a b r I rx ry e ha hb hg => ?_
  replace hg : modD a b = some r := hg
  unfold modD at hg
  split at hg
  · split at hg
    · rename_i hm
      cases hg
      have ea := ha.int; have eb := hb.int
      subst ea eb
      exact op_flat op_mod I rx ry e (fun Q q => ⟨_, _, rfl, rfl, hm, q⟩) fun _ _ _ => rfl
    · cases hg
  · cases hg
theorem ov_pow : OpV X (opD .pow) (sem2 (binaryOp .Pow)) := by
  refine ov2 (sh2 (fun _ _ _ _ => rfl) (fun _ => rfl) rfl) fun pins s σ G H x y v u a b r I rx ry e ha hb hg => ?_
  replace hg : powD a b = some r := hg
  unfold powD at hg
  split at hg
  · split at hg
    · rename_i hm
      cases hg
      have ea := ha.int; have eb := hb.int
      subst ea eb
      exact op_flat op_pow I rx ry e (fun Q q => ⟨_, _, rfl, rfl, hm, q⟩) fun _ _ _ => rfl
    · cases hg
  · cases hg
theorem ov_neg : OpV X (opD .neg) (sem1 (unaryOp .USub)) := by
  refine ov1 (sh1 (fun _ _ _ => rfl) rfl) fun pins s σ G H x v a r I rx e ha hg => ?_
  replace hg : negD a = some r := hg
  unfold negD at hg
  split at hg
  · cases hg
    have ea := ha.int
    subst ea
    obtain ⟨t, rfl⟩ := rx
    exact neg_int (OpP.flat (v := .int _) (I.tok _) ⟨_, rfl⟩ e fun _ _ _ => rfl)
  · cases hg

/-! ### comparisons -/
theorem reads_of {pins : List (Addr × Obj)} {s : Shared} {σ : L2.St} {G H : Hp} {x : V} {v : Value} {a : D} (I : Inv X pins σ H s) (rx : RelV x v) (e : Same G H) (ha : Rd1 X.K X.w G H a x) (h : plainD a = true) : a.plain = true ∧ a.depth ≤ 60 ∧ ∃ as, Reads s.heap v a as := by
  unfold plainD at h
  simp only [Bool.and_eq_true, decide_eq_true_eq] at h
  exact ⟨h.1, h.2, Dp.reads I a x v (ha.dp e h.1) rx⟩
theorem ov_eq (hu : X.A.units + 64 < cLine) : OpV X (opD .eq) (sem2 (compareOp .Eq)) := by
  refine ov2 (sh2 (fun _ _ _ _ => rfl) (fun _ => rfl) rfl) fun pins s σ G H x y v u a b r I rx ry e ha hb hg => ?_
  replace hg : eqD a b = some r := hg
  unfold eqD boolR at hg
  split at hg
  · rename_i hm
    rw [Bool.and_eq_true] at hm
    cases hg
    obtain ⟨p1, d1, as, r1⟩ := reads_of I rx e ha hm.1
    obtain ⟨p2, d2, bs, r2⟩ := reads_of I ry e hb hm.2
    exact PySem.SeqAt.eq_plain r1 r2 p1 p2 (by have := Nat.min_le_left a.depth b.depth; omega) (OpP.flat (v := .bl _) I rfl e fun _ _ _ => rfl)
  · cases hg
theorem ov_ne (hu : X.A.units + 64 < cLine) : OpV X (opD .ne) (sem2 (compareOp .NotEq)) := by
  refine ov2 (sh2 (fun _ _ _ _ => rfl) (fun _ => rfl) rfl) fun pins s σ G H x y v u a b r I rx ry e ha hb hg => ?_
  replace hg : neD a b = some r := hg
  unfold neD boolR at hg
  split at hg
  · rename_i hm
    rw [Bool.and_eq_true] at hm
    cases hg
    obtain ⟨p1, d1, as, r1⟩ := reads_of I rx e ha hm.1
    obtain ⟨p2, d2, bs, r2⟩ := reads_of I ry e hb hm.2
    exact PySem.SeqAt.ne_plain r1 r2 p1 p2 (by have := Nat.min_le_left a.depth b.depth; omega) (OpP.flat (v := .bl _) I rfl e fun _ _ _ => rfl)
  · cases hg
theorem cmp_ints {op : CmpOp} {g : D → D → Option RV} {p : Int → Int → Bool} {o : Op} (ho : OpR X (compareOp op) (rI0 fun i j => .bl (p i j))) (h0 : ∀ a b, opD o [a, b] = g a b) (hs : ∀ ds r, opD o ds = some r → ∃ a b, ds = [a, b])
    (hg : ∀ a b r, g a b = some r → ∃ i j, a = .int i ∧ b = .int j ∧ r = .sh (.bool (p i j))) : OpV X (opD o) (sem2 (compareOp op)) := by
  refine ov2 hs fun pins s σ G H x y v u a b r I rx ry e ha hb h => ?_
  rw [h0] at h
  obtain ⟨i, j, rfl, rfl, rfl⟩ := hg _ _ _ h
  have ea := ha.int; have eb := hb.int
  subst ea eb
  exact op_flat ho I rx ry e (fun Q q => ⟨_, _, rfl, rfl, q⟩) fun _ _ _ => rfl
theorem ltD_some {a b : D} {r : RV} (h : ltD a b = some r) : ∃ i j, a = .int i ∧ b = .int j ∧ r = .sh (.bool (decide (i < j))) := by
  unfold ltD boolR at h
  split at h
  · cases h; exact ⟨_, _, rfl, rfl, rfl⟩
  · cases h
theorem leD_some {a b : D} {r : RV} (h : leD a b = some r) : ∃ i j, a = .int i ∧ b = .int j ∧ r = .sh (.bool (decide (i ≤ j))) := by
  unfold leD boolR at h
  split at h
  · cases h; exact ⟨_, _, rfl, rfl, rfl⟩
  · cases h
theorem ov_lt : OpV X (opD .lt) (sem2 (compareOp .Lt)) := cmp_ints op_lt (fun _ _ => rfl) (sh2 (fun _ _ _ _ => rfl) (fun _ => rfl) rfl) fun a b r h => ltD_some h
theorem ov_le : OpV X (opD .le) (sem2 (compareOp .LtE)) := cmp_ints op_le (fun _ _ => rfl) (sh2 (fun _ _ _ _ => rfl) (fun _ => rfl) rfl) fun a b r h => leD_some h
theorem ov_gt : OpV X (opD .gt) (sem2 (compareOp .Gt)) := cmp_ints (g := fun a b => ltD b a) op_gt (fun _ _ => rfl) (sh2 (fun _ _ _ _ => rfl) (fun _ => rfl) rfl) fun a b r h => let ⟨i, j, h1, h2, h3⟩ := ltD_some h; ⟨j, i, h2, h1, h3⟩
theorem ov_ge : OpV X (opD .ge) (sem2 (compareOp .GtE)) := cmp_ints (g := fun a b => leD b a) op_ge (fun _ _ => rfl) (sh2 (fun _ _ _ _ => rfl) (fun _ => rfl) rfl) fun a b r h => let ⟨i, j, h1, h2, h3⟩ := leD_some h; ⟨j, i, h2, h1, h3⟩
theorem Rd1.isnon {K : PySem.W.Frag} {w : World} {G H : Hp} {d : D} {v : V} (h : Rd1 K w G H d v) : decide (v = .non) = isNone d := by
  cases d with
  | none => rw [h.none]; rfl
  | bool b => rw [h.bool]; rfl
  | int b => rw [h.int]; rfl
  | str b => rw [h.str]; rfl
  | list ds =>
    rcases h with h | ⟨p, o, rfl, _, _⟩
    · obtain ⟨a, xs, rfl, _⟩ := h; rfl
    · rfl
  | tuple ds =>
    rcases h with h | ⟨p, o, rfl, _, _⟩
    · obtain ⟨a, xs, o, rfl, _⟩ := h; rfl
    · rfl
  | dict ds =>
    rcases h with h | ⟨p, o, rfl, _, _⟩
    · obtain ⟨a, xs, rfl, _⟩ := h; rfl
    · rfl
theorem isD_some {neg : Bool} {a b : D} {r : RV} (h : isD neg a b = some r) : (b = .none ∧ r = .sh (.bool (xor neg (isNone a)))) ∨ ∃ p q, a = .bool p ∧ b = .bool q ∧ r = .sh (.bool (xor neg (p == q))) := by
  unfold isD boolR at h
  split at h
  · cases h; exact .inl ⟨rfl, rfl⟩
  · split at h
    · cases h; exact .inr ⟨_, _, rfl, rfl, rfl⟩
    · cases h
  · cases h
theorem ov_is : OpV X (opD .is_) (sem2 (compareOp .Is)) := by
  refine ov2 (sh2 (fun _ _ _ _ => rfl) (fun _ => rfl) rfl) fun pins s σ G H x y v u a b r I rx ry e ha hb hg => ?_
  rcases isD_some hg with ⟨rfl, rfl⟩ | ⟨p, q, rfl, rfl, rfl⟩
  · have eb := hb.none
    subst eb
    refine op_flat (v := .bl (decide (x = .non))) op_isN I rx ry e (fun Q q => ⟨rfl, q⟩) fun _ _ _ => ?_
    rw [ha.isnon]
    show V.bl _ = V.bl _
    cases isNone a <;> rfl
  · have ea := ha.bool; have eb := hb.bool
    subst ea eb
    refine op_flat (v := .bl (decide (p = q))) op_isBl I rx ry e (fun Q z => ⟨_, _, rfl, rfl, z⟩) fun _ _ _ => ?_
    show V.bl _ = V.bl _
    cases p <;> cases q <;> rfl
theorem ov_isnot : OpV X (opD .isnot) (sem2 (compareOp .IsNot)) := by
  refine ov2 (sh2 (fun _ _ _ _ => rfl) (fun _ => rfl) rfl) fun pins s σ G H x y v u a b r I rx ry e ha hb hg => ?_
  rcases isD_some hg with ⟨rfl, rfl⟩ | ⟨p, q, rfl, rfl, rfl⟩
  · have eb := hb.none
    subst eb
    refine op_flat (v := .bl (!decide (x = .non))) op_notN I rx ry e (fun Q q => ⟨rfl, q⟩) fun _ _ _ => ?_
    rw [ha.isnon]
    show V.bl _ = V.bl _
    cases isNone a <;> rfl
  · have ea := ha.bool; have eb := hb.bool
    subst ea eb
    refine op_flat (v := .bl (!decide (p = q))) op_notBl I rx ry e (fun Q z => ⟨_, _, rfl, rfl, z⟩) fun _ _ _ => ?_
    show V.bl _ = V.bl _
    cases p <;> cases q <;> rfl
end
end DL
set_option Elab.async false
set_option linter.all false
set_option maxRecDepth 100000
set_option maxHeartbeats 1000000
/-! Layer D, part E: lists, tuples, by values. -/
namespace DL
open PySem PySem.Spec PyProof.Rows L2

theorem tuple_mul_same (l : Addr) (items : Array Value) (n : Nat) (dd : Option Addr) (sl : Array (Option Value)) (x : Int) (u : Tok) (c0 : (decide (x < -(2 ^ 63)) || decide (x ≥ 2 ^ 63)) = false) (c1 : (items.isEmpty || x == 1) = true) :
    Meets (Builtin.«tuple.__mul__» ⟨[.ref l, .int x u], []⟩) (fun _ R s => s.heap.get? l = some { cls := .type "tuple", dict := dd, data := .seq items n, slots := sl } ∧ R (.ok (.ret (Value.ref l))) { s with heap := s.heap, toks := s.toks }) :=
  .of_wp fun prog w A R s h => by
    obtain ⟨hp, g, dr, tk, os⟩ := s
    obtain ⟨hl, h⟩ := h
    have f1 := AutoSeq1.idx_int
    wp_walk using AutoSeq1.wpAny_loadPart' hl
    repeat (first
      | (refine wpAny_ite_false (decide_eq_false (by rw [c0]; exact Bool.false_ne_true)) ?_; wp_walk using AutoSeq1.wpAny_loadPart' hl)
      | (refine wpAny_ite_true (decide_eq_true c1) ?_; wp_walk using AutoSeq1.wpAny_loadPart' hl))
    exact ⟨_, rfl, h⟩
theorem tuple_mul_zero (l : Addr) (items : Array Value) (n : Nat) (dd : Option Addr) (sl : Array (Option Value)) (x : Int) (u : Tok) (c0 : (decide (x < -(2 ^ 63)) || decide (x ≥ 2 ^ 63)) = false) (c1 : (items.isEmpty || x == 1) = false) (c2 : (decide (x ≤ 0) || items.isEmpty) = true) :
    Meets (Builtin.«tuple.__mul__» ⟨[.ref l, .int x u], []⟩) (fun _ R s => s.heap.get? l = some { cls := .type "tuple", dict := dd, data := .seq items n, slots := sl } ∧
      R (.ok (.ret (Value.ref s.heap.objs.size))) { s with heap := s.heap.push { cls := Value.type "tuple", data := Data.seq #[] }, toks := s.toks }) :=
  .of_wp fun prog w A R s h => by
    obtain ⟨hp, g, dr, tk, os⟩ := s
    obtain ⟨hl, h⟩ := h
    have f1 := AutoSeq1.idx_int
    wp_walk using AutoSeq1.wpAny_loadPart' hl
    repeat (first
      | (refine wpAny_ite_false (decide_eq_false (by rw [c0]; exact Bool.false_ne_true)) ?_; wp_walk using AutoSeq1.wpAny_loadPart' hl)
      | (refine wpAny_ite_false (decide_eq_false (by rw [c1]; exact Bool.false_ne_true)) ?_; wp_walk using AutoSeq1.wpAny_loadPart' hl)
      | (refine wpAny_ite_true (decide_eq_true c2) ?_; wp_walk using AutoSeq1.wpAny_loadPart' hl))
    exact ⟨_, rfl, h⟩
theorem int_rmul_list (a : Int) (t : Tok) (l : Addr) (items : Array Value) (n : Nat) (dd : Option Addr) (sl : Array (Option Value)) :
    Meets (Builtin.«int.__rmul__» ⟨[.int a t, .ref l], []⟩) (fun _ R s => s.heap.get? l = some { cls := .type "list", dict := dd, data := .seq items n, slots := sl } ∧ R (.ok (.ret Value.notImplemented)) s) :=
  .of_wp fun prog w A R s h => by
    obtain ⟨hp, g, dr, tk, os⟩ := s
    obtain ⟨hl, h⟩ := h
    wp_walk using AutoSeq1.wpAny_loadPart' hl
    exact ⟨_, rfl, h⟩
section
variable {X : Cx} {pins : List (Addr × Obj)} {s : Shared} {σ : L2.St} {G H : Hp} {x y : V} {v u : Value}
theorem fold_rep (its : List Value) (m : Nat) : List.foldl (fun x1 x2 => x1 ++ x2) #[] (List.replicate m its.toArray) = (List.replicate m its).flatten.toArray := by
  have := foldl_rep its m []
  rw [List.nil_append] at this
  exact this
theorem listMul {as : List D} {k : Int} (I : Inv X pins σ H s) (rx : RelV x v) (ry : RelV y u) (e : Same G H) (ha : Rd1 X.K X.w G H (.list as) x) (hb : Rd1 X.K X.w G H (.int k) y) (hm : as.length ≤ 1000 ∧ k ≤ 1000 ∧ -1000 ≤ k) :
    wpAny (model X.prog X.w) X.A (binaryOp .Mult v u) (OpP X pins σ G H (.ow (.list (List.replicate k.toNat as).flatten))) X.xe s := by
  obtain ⟨a, xs, rfl, h1, z1, p1⟩ := ha.list e
  have eb := hb.int
  subst eb
  cases rx
  obtain ⟨t, rfl⟩ := ry
  obtain ⟨its, r1, pl, _⟩ := I.list h1
  obtain ⟨⟨cls, dd, data, sl⟩, ho, hc, n, hd⟩ := pl.isList
  simp only at hc hd
  subst hc hd
  have l1 := r1.length
  have l3 := p1.length
  have a1 : its.length * k.toNat ≤ 1000 * 1000 := Nat.mul_le_mul (by omega) (by omega)
  have c0 : ¬ (!Builtin.List.listFitsIndex k) = true := by
    rw [fitsIndex_both (by omega) (by omega)]
    exact Bool.false_ne_true
  have c1 : ¬ its.toArray.size * k.toNat > (2 ^ 63 - 1) / 8 := by rw [List.size_toArray]; omega
  have c2 : ¬ Builtin.List.listTooLong (its.toArray.size * k.toNat) = true := by
    rw [List.size_toArray, notLongL (by rw [sizeLine_eq]; omega)]
    exact Bool.false_ne_true
  have hf : List.foldl (fun x1 x2 => x1 ++ x2) #[] (List.replicate (if its.toArray.isEmpty = true then 0 else k.toNat) its.toArray) = (List.replicate k.toNat its).flatten.toArray := by
    rw [fold_rep]
    cases its with
    | nil => simp
    | cons b r => rw [if_neg (by simp)]
  refine wpAny_binaryOp_repeat_ref (T := "list") (U := "int") (by decide) ⟨_, ho, rfl⟩ (fun s' => typeIs_int s' k t) noFill_list_mul F.fills_int_mul F.slot_int_rmul repeat_list F.slot_int_index.lookup
    (call_meets F.slot_int_rmul (typeIs_int s k t) F.entry_int_rmul (F.args_int_rmul_2 _ _) (int_rmul_list k t a its.toArray n dd sl)
      ⟨ho, rfl, ⟨_, ho, rfl⟩, call_meets F.slot_list_mul ⟨_, ho, rfl⟩ F.entry_list_mul (F.args_list_mul_2 _ _) (list_mulW a its.toArray n dd sl k t c0 c1 c2) ⟨ho, ?_⟩⟩)
  rw [hf]
  have q : (List.replicate k.toNat as).flatten.length ≤ 1000000 := by
    rw [PyProof.Rows.lm_len_rep_flat, l3, l1, Nat.mul_comm]; exact a1
  refine OpP.newList (I.lnew (t' := s.toks) (r1.rep k.toNat) ?_) rfl e I.fresh ?_ (p1.rep k.toNat)
  · rw [PyProof.Rows.lm_len_rep_flat, l1, Nat.mul_comm, sizeLine_eq]; omega
  · rw [sizeLine_eq]; omega
theorem tupMul {as : List D} {k : Int} (I : Inv X pins σ H s) (rx : RelV x v) (ry : RelV y u) (e : Same G H) (ha : Rd1 X.K X.w G H (.tuple as) x) (hb : Rd1 X.K X.w G H (.int k) y) (hm : as.length ≤ 1000 ∧ k ≤ 1000 ∧ -1000 ≤ k) :
    wpAny (model X.prog X.w) X.A (binaryOp .Mult v u) (OpP X pins σ G H (.sh (.tuple (List.replicate k.toNat as).flatten))) X.xe s := by
  obtain ⟨a, xs, rfl, h1, z1, p1, o1, g1, n1⟩ := ha.tuple e
  have eb := hb.int
  subst eb
  cases rx
  obtain ⟨t, rfl⟩ := ry
  obtain ⟨its, r1, ⟨⟨cls, dd, data, sl⟩, ho, hc, n, hd⟩, _⟩ := I.tuple h1
  simp only at hc hd
  subst hc hd
  have l1 := r1.length
  have l3 := p1.length
  have a1 : its.length * k.toNat ≤ 1000 * 1000 := Nat.mul_le_mul (by omega) (by omega)
  have c0 : (decide (k < -(2 ^ 63)) || decide (k ≥ 2 ^ 63)) = false := by
    rw [decide_eq_false (by omega), decide_eq_false (by omega)] <;> rfl
  by_cases c1 : (its.toArray.isEmpty || k == 1) = true
  · refine wpAny_binaryOp_repeat_ref (T := "tuple") (U := "int") (by decide) ⟨_, ho, rfl⟩ (fun s' => typeIs_int s' k t) noFill_tuple_mul F.fills_int_mul F.slot_int_rmul repeat_tuple F.slot_int_index.lookup
      (call_meets F.slot_int_rmul (typeIs_int s k t) F.entry_int_rmul (F.args_int_rmul_2 _ _) (int_rmul_tuple k t a its.toArray n dd sl)
        ⟨ho, rfl, ⟨_, ho, rfl⟩, call_meets F.slot_tuple_mul ⟨_, ho, rfl⟩ F.entry_tuple_mul (F.args_tuple_mul_2 _ _) (tuple_mul_same a its.toArray n dd sl k t c0 c1) ⟨ho, ?_⟩⟩)
    have q : (List.replicate k.toNat as).flatten = as := by
      rw [Bool.or_eq_true] at c1
      rcases c1 with c1 | c1
      · have z : its = [] := by simpa using c1
        subst z
        cases r1
        have z : as = [] := List.eq_nil_of_length_eq_zero l3
        subst z
        simp
      · have z : k = 1 := by simpa using c1
        subst z
        simp
    rw [q]
    exact OpP.item (v := .ref a) I rfl e ⟨a, xs, o1, rfl, g1, n1, z1, p1⟩
  · have c1' : (its.toArray.isEmpty || k == 1) = false := by simpa using c1
    by_cases c2 : (decide (k ≤ 0) || its.toArray.isEmpty) = true
    · refine wpAny_binaryOp_repeat_ref (T := "tuple") (U := "int") (by decide) ⟨_, ho, rfl⟩ (fun s' => typeIs_int s' k t) noFill_tuple_mul F.fills_int_mul F.slot_int_rmul repeat_tuple F.slot_int_index.lookup
        (call_meets F.slot_int_rmul (typeIs_int s k t) F.entry_int_rmul (F.args_int_rmul_2 _ _) (int_rmul_tuple k t a its.toArray n dd sl)
          ⟨ho, rfl, ⟨_, ho, rfl⟩, call_meets F.slot_tuple_mul ⟨_, ho, rfl⟩ F.entry_tuple_mul (F.args_tuple_mul_2 _ _) (tuple_mul_zero a its.toArray n dd sl k t c0 c1' c2) ⟨ho, ?_⟩⟩)
      have q : (List.replicate k.toNat as).flatten = [] := by
        rw [Bool.or_eq_true] at c2
        rcases c2 with c2 | c2
        · have z : k.toNat = 0 := by have := of_decide_eq_true c2; omega
          rw [z]; rfl
        · rw [Bool.or_eq_false_iff] at c1'
          rw [c2] at c1'
          cases c1'.1
      rw [q]
      exact OpP.newTup (ds := []) (xs := []) (tup_laid (its := []) (tk := s.toks) I .nil (Nat.zero_le _)) rfl rfl e I.fresh (Nat.zero_le _) rfl
    · have c2' : (decide (k ≤ 0) || its.toArray.isEmpty) = false := by simpa using c2
      have hp : 0 < k := by
        rw [Bool.or_eq_false_iff] at c2'
        have := of_decide_eq_false c2'.1
        omega
      have hm' : ((its.length : Nat) : Int) * k ≤ 1000000 := by
        have : ((its.length : Nat) : Int) * k ≤ 1000 * k := Int.mul_le_mul_of_nonneg_right (by omega) (by omega)
        omega
      have c4 : Builtin.Tuple.tupleTooMany (((its.toArray.size : Nat) : Int) * k) = false := by
        unfold Builtin.Tuple.tupleTooMany
        rw [sizeLine_eq, List.size_toArray]
        exact decide_eq_false (by omega)
      have q : (List.replicate k.toNat as).flatten.length ≤ 1000000 := by
        rw [PyProof.Rows.lm_len_rep_flat, l3, l1, Nat.mul_comm]; exact a1
      have q2 : (List.replicate k.toNat its).flatten.length ≤ 1000000 := by
        rw [PyProof.Rows.lm_len_rep_flat, Nat.mul_comm]; exact a1
      refine wpAny_binaryOp_repeat_ref (T := "tuple") (U := "int") (by decide) ⟨_, ho, rfl⟩ (fun s' => typeIs_int s' k t) noFill_tuple_mul F.fills_int_mul F.slot_int_rmul repeat_tuple F.slot_int_index.lookup
        (call_meets F.slot_int_rmul (typeIs_int s k t) F.entry_int_rmul (F.args_int_rmul_2 _ _) (int_rmul_tuple k t a its.toArray n dd sl)
          ⟨ho, rfl, ⟨_, ho, rfl⟩, call_meets F.slot_tuple_mul ⟨_, ho, rfl⟩ F.entry_tuple_mul (F.args_tuple_mul_2 _ _) (tuple_mulW a its.toArray n dd sl k t c0 c1' c2' (by rw [List.size_toArray]; omega) c4 (by rw [fold_rep, List.size_toArray, sizeLine_eq]; omega)) ⟨ho, ?_⟩⟩)
      rw [fold_rep]
      refine OpP.newTup (tup_laid (tk := s.toks) I (r1.rep k.toNat) ?_) rfl rfl e I.fresh ?_ (p1.rep k.toNat)
      · rw [PyProof.Rows.lm_len_rep_flat, l1, Nat.mul_comm, sizeLine_eq]; omega
      · rw [sizeLine_eq]; omega
theorem ov_mul : OpV X (opD .mul) (sem2 (binaryOp .Mult)) := by
  refine ov2 (sh2 (fun _ _ _ _ => rfl) (fun _ => rfl) rfl) fun pins s σ G H x y v u a b r I rx ry e ha hb hg => ?_
  replace hg : mulD a b = some r := hg
  unfold mulD at hg
  split at hg
  · split at hg
    · rename_i hm
      cases hg
      have ea := ha.int; have eb := hb.int
      subst ea eb
      obtain ⟨t, rfl⟩ := rx
      obtain ⟨t', rfl⟩ := ry
      exact mul_int (OpP.flat (v := .int _) (I.tok _) ⟨_, rfl⟩ e fun _ _ _ => rfl) (okMul_ok hm)
    · cases hg
  · split at hg
    · rename_i hm
      cases hg
      exact tupMul I rx ry e ha hb hm
    · cases hg
  · split at hg
    · rename_i hm
      cases hg
      exact listMul I rx ry e ha hb hm
    · cases hg
  · cases hg

end
end DL
set_option Elab.async false
set_option linter.all false
set_option maxRecDepth 100000
set_option maxHeartbeats 1000000
/-! Layer D, part F: items, slices, lengths, conversions, isinstance. -/
namespace DL
open PySem PySem.Spec PyProof.Rows L2
section
variable {X : Cx}
theorem Rps.atI {K : PySem.W.Frag} {w : World} {G : Hp} {ds : List D} {xs : List V} {i : Int} {d : D} (h : Rps K w G ds xs) (e : DL.atI ds i = some d) : ∃ x, L2.atI xs i = some x ∧ Rp K w G d x := by
  unfold DL.atI at e
  unfold L2.atI
  have hl := h.length
  have q : L2.ixN xs.length i = DL.ixN ds.length i := by rw [hl]; rfl
  rw [q]
  cases c : DL.ixN ds.length i with
  | none => rw [c] at e; cases e
  | some j =>
    rw [c] at e
    exact h.get e
theorem ov_idx {a b : Expr} (hp : PlainIx b) (hd : ∀ pins s σ G H x y v u kvs k r, Inv X pins σ H s → RelV x v → RelV y u → Same G H → Rd1 X.K X.w G H (.dict kvs) x → Rd1 X.K X.w G H k y → idxD (.dict kvs) k = some r → wpAny (model X.prog X.w) X.A (subscriptTail a b v u) (OpP X pins σ G H r) X.xe s) :
    OpV X (opD .idx) (sem2 (subscriptTail a b)) := by
  refine ov2 (sh2 (fun _ _ _ _ => rfl) (fun _ => rfl) rfl) fun pins s σ G H x y v u da db r I rx ry e ha hb hg => ?_
  replace hg : idxD da db = some r := hg
  unfold idxD at hg
  split at hg
  · rename_i ds i
    cases c : DL.atI ds i with
    | none => rw [c] at hg; cases hg
    | some d =>
      rw [c] at hg; cases hg
      obtain ⟨p, xs, rfl, h1, _, h3⟩ := ha.list e
      have eb := hb.int
      subst eb
      obtain ⟨x, hx, rx'⟩ := h3.atI c
      exact thn (ix_list a b pins s σ H _ _ v u (fun v' H' => v' = x ∧ H' = H) I rx ry ⟨p, xs, i, x, rfl, rfl, h1, hx, rfl, rfl⟩ (hp _ _)) fun u' s' ⟨v', H', I', ru, e1, e2⟩ => by
        subst e1 e2
        exact OpP.item I' ru e rx'
  · rename_i ds i
    cases c : DL.atI ds i with
    | none => rw [c] at hg; cases hg
    | some d =>
      rw [c] at hg; cases hg
      obtain ⟨p, xs, rfl, h1, _, h3, _⟩ := ha.tuple e
      have eb := hb.int
      subst eb
      obtain ⟨x, hx, rx'⟩ := h3.atI c
      exact thn (ix_tup a b pins s σ H _ _ v u (fun v' H' => v' = x ∧ H' = H) I rx ry ⟨p, xs, i, x, rfl, rfl, h1, hx, rfl, rfl⟩ (hp _ _)) fun u' s' ⟨v', H', I', ru, e1, e2⟩ => by
        subst e1 e2
        exact OpP.item I' ru e rx'
  · exact hd pins s σ G H x y v u _ _ r I rx ry e ha hb (by unfold idxD; exact hg)
  · cases hg
theorem sIx_same (n d : Nat) (o : Option Int) : HT.sIx n d o = sIx n d o := by
  cases o with
  | none => rfl
  | some v => unfold HT.sIx sIx; rfl
/-- a slice by values, the slice object at sl -/
theorem sl_ok {pins : List (Addr × Obj)} {s : Shared} {σ : L2.St} {G H : Hp} {x : V} {v vl vu : Value} {lo hi : Option Int} {sl : Addr} {a : D} {r : RV} (I : Inv X pins σ H s) (rx : RelV x v) (e : Same G H) (hs : s.heap.IsSliceOf sl vl vu .none) (pl : IsPart vl lo) (pu : IsPart vu hi)
    (ha : Rd1 X.K X.w G H a x) (hg : cutD a lo hi = some r) : ∃ T id, typeLookup (.type T) "__getitem__" = pure (some (.builtin id)) ∧ s.TypeIs v T ∧ wpAny (model X.prog X.w) X.A (getItem v (.ref sl)) (OpP X pins σ G H r) X.xe s := by
  unfold cutD at hg
  split at hg
  · rename_i ds
    cases hg
    obtain ⟨p, xs, rfl, h1, hz, h3⟩ := ha.list e
    have hl := h3.length
    obtain ⟨T, id, t1, t2, t3⟩ := sl_list pins s σ H (.ref p) v vl vu lo hi sl (fun v' H' => ∃ q, v' = .ref q ∧ H q = none ∧ H' = upd H q (.lst (cutV xs lo hi))) I rx hs pl pu ⟨p, xs, rfl, h1, fun q hq => ⟨q, rfl, hq, rfl⟩⟩
    refine ⟨T, id, t1, t2, thn t3 fun u' s' ⟨v', H', I', ru, q, e1, e2, e3⟩ => ?_⟩
    subst e1 e3
    refine OpP.newList I' ru e e2 ?_ ?_
    · exact Nat.le_trans (by unfold cut; rw [List.length_take, List.length_drop]; omega) hz
    · unfold cut cutV
      rw [hl, sIx_same, sIx_same]
      exact (h3.drop _).take _
  · rename_i ds
    cases hg
    obtain ⟨p, xs, rfl, h1, hz, h3, o, g1, n1⟩ := ha.tuple e
    have hl := h3.length
    cases rx
    obtain ⟨its, r1, ht, hz'⟩ := I.tuple h1
    have hlen : its.toArray.size = xs.length := by rw [List.size_toArray]; exact r1.length.symm
    refine ⟨"tuple", _, PyProof.Rows.slot_tuple_getitem.lookup, ht.typeIs, ?_⟩
    by_cases hw : HT.sIx its.toArray.size 0 lo = 0 ∧ HT.sIx its.toArray.size its.toArray.size hi = its.toArray.size
    · refine getItem_tuple_whole ht hs pl pu hw ?_
      have q : cut ds lo hi = ds := by
        unfold cut
        rw [hlen, ← hl] at hw
        rw [sIx_same, sIx_same] at hw
        have w1 : sIx ds.length 0 lo = 0 := hw.1
        have w2 : sIx ds.length ds.length hi = ds.length := hw.2
        rw [w1, w2, List.drop_zero, Nat.sub_zero, List.take_length]
      rw [q]
      exact OpP.item (v := .ref p) I rfl e ⟨p, xs, o, rfl, g1, n1, hz, h3⟩
    · refine HT.getItem_tuple_cut ht hs pl pu hw ?_ (by rw [hlen]; exact hz')
      rw [hlen, ← hl, sIx_same, sIx_same]
      refine OpP.newTup (ds := cut ds lo hi) (tup_laid (tk := s.toks) I ((r1.drop _).take _) ?_) rfl rfl e I.fresh ?_ (by unfold cut; exact (h3.drop _).take _)
      · rw [List.length_take, List.length_drop]; omega
      · unfold cut; rw [List.length_take, List.length_drop]; omega
  · cases hg
theorem ov_len (hd : ∀ pins s σ G H x v kvs r, Inv X pins σ H s → RelV x v → Same G H → Rd1 X.K X.w G H (.dict kvs) x → lenD (.dict kvs) = some r → wpAny (model X.prog X.w) X.A (call (.builtin "len") [v]) (OpP X pins σ G H r) X.xe s) :
    OpV X (opD .len) (sem1 fun v => call (.builtin "len") [v]) := by
  refine ov1 (sh1 (fun _ _ _ => rfl) rfl) fun pins s σ G H x v a r I rx e ha hg => ?_
  replace hg : lenD a = some r := hg
  unfold lenD at hg
  split at hg
  · cases hg
    obtain ⟨p, xs, rfl, h1, _, h3⟩ := ha.list e
    rw [h3.length]
    exact call_flat (v := .int xs.length) call_len_seq I (.cons rx .nil) e (fun Q q => ⟨p, xs, rfl, .inl h1, q⟩) fun _ _ _ => rfl
  · cases hg
    obtain ⟨p, xs, rfl, h1, _, h3, _⟩ := ha.tuple e
    rw [h3.length]
    exact call_flat (v := .int xs.length) call_len_seq I (.cons rx .nil) e (fun Q q => ⟨p, xs, rfl, .inr h1, q⟩) fun _ _ _ => rfl
  · exact hd pins s σ G H x v _ r I rx e ha (by unfold lenD; exact hg)
  · split at hg
    · cases hg
      have ea := ha.str
      subst ea
      exact call_flat (v := .int _) call_len_str I (.cons rx .nil) e (fun Q q => ⟨_, rfl, by rw [sizeLine_eq]; assumption, q⟩) fun _ _ _ => rfl
    · cases hg
  · cases hg
theorem ov_list (hd : ∀ pins s σ G H x v kvs r, Inv X pins σ H s → RelV x v → Same G H → Rd1 X.K X.w G H (.dict kvs) x → listD (.dict kvs) = some r → wpAny (model X.prog X.w) X.A (call (.type "list") [v]) (OpP X pins σ G H r) X.xe s) :
    OpV X (opD .list) (sem1 fun v => call (.type "list") [v]) := by
  refine ov1 (sh1 (fun _ _ _ => rfl) rfl) fun pins s σ G H x v a r I rx e ha hg => ?_
  replace hg : listD a = some r := hg
  have go : ∀ {p xs ds}, x = .ref p → (SqL X.K H p xs ∨ SqT X.K H p xs) → ds.length ≤ sizeLine → Rps X.K X.w G ds xs → wpAny (model X.prog X.w) X.A (call (.type "list") [v]) (OpP X pins σ G H (.ow (.list ds))) X.xe s := fun {p xs ds} ex h1 h2 h3 => by
    subst ex
    exact thn (call_list_of pins s σ H [.ref p] [v] (fun v' H' => ∃ l, v' = .ref l ∧ H l = none ∧ H' = upd H l (.lst xs)) I (.cons rx .nil) ⟨p, xs, rfl, h1, fun l hl => ⟨l, rfl, hl, rfl⟩⟩) fun u' s' ⟨v', H', I', ru, q, e1, e2, e3⟩ => by
      subst e1 e3
      exact OpP.newList I' ru e e2 h2 h3
  unfold listD at hg
  split at hg
  · cases hg
    obtain ⟨p, xs, ex, h1, h2, h3⟩ := ha.list e
    exact go ex (.inl h1) h2 h3
  · cases hg
    obtain ⟨p, xs, ex, h1, h2, h3, _⟩ := ha.tuple e
    exact go ex (.inr h1) h2 h3
  · exact hd pins s σ G H x v _ r I rx e ha (by unfold listD; exact hg)
  · cases hg
theorem ov_tuple : OpV X (opD .tuple) (sem1 fun v => call (.type "tuple") [v]) := by
  refine ov1 (sh1 (fun _ _ _ => rfl) rfl) fun pins s σ G H x v a r I rx e ha hg => ?_
  replace hg : tupleD a = some r := hg
  unfold tupleD at hg
  split at hg
  · cases hg
    obtain ⟨p, xs, rfl, h1, h2, h3⟩ := ha.list e
    cases rx
    obtain ⟨its, r1, pl, hz⟩ := I.list h1
    have l1 := r1.length
    refine call_tuple_list pl.isList (fun h' kp => ?_) (by rw [List.size_toArray]; omega)
    have I1 : Inv X pins σ H { s with heap := h' } := I.kept (t' := s.toks) kp
    exact OpP.newTup (tup_laid (tk := s.toks) I1 r1 hz) rfl rfl e I1.fresh h2 h3
  · cases hg
    obtain ⟨p, xs, rfl, h1, h2, h3, o, g1, n1⟩ := ha.tuple e
    cases rx
    obtain ⟨its, r1, pl, hz⟩ := I.tuple h1
    exact call_tuple_same pl (OpP.item (v := .ref p) I rfl e ⟨p, xs, o, rfl, g1, n1, h2, h3⟩)
  · cases hg
theorem ov_int : OpV X (opD .int) (sem1 fun v => call (.type "int") [v]) := by
  refine ov1 (sh1 (fun _ _ _ => rfl) rfl) fun pins s σ G H x v a r I rx e ha hg => ?_
  replace hg : intD a = some r := hg
  unfold intD at hg
  split at hg
  · cases hg
    have ea := ha.int
    subst ea
    exact call_flat (v := .int _) call_int1 I (.cons rx .nil) e (fun Q q => .inl ⟨_, rfl, q⟩) fun _ _ _ => rfl
  · cases hg
    have ea := ha.bool
    subst ea
    exact call_flat (v := .int _) call_int1 I (.cons rx .nil) e (fun Q q => .inr ⟨_, rfl, q⟩) fun _ _ _ => rfl
  · cases hg
theorem ov_str : OpV X (opD .str) (sem1 fun v => call (.type "str") [v]) := by
  refine ov1 (sh1 (fun _ _ _ => rfl) rfl) fun pins s σ G H x v a r I rx e ha hg => ?_
  replace hg : strD a = some r := hg
  unfold strD at hg
  split at hg
  · split at hg
    · cases hg
      have ea := ha.int
      subst ea
      exact call_flat (v := .str _) call_str_int I (.cons rx .nil) e (fun Q q => ⟨_, rfl, by assumption, q⟩) fun _ _ _ => rfl
    · cases hg
  · cases hg
    have ea := ha.bool
    subst ea
    cases rx
    exact PySem.P.str_of_bool (OpP.flat (v := .str _) (I.tok _) ⟨_, rfl⟩ e fun _ _ _ => rfl)
  · cases hg
theorem ov_all (hc : X.calm = true) : OpV X (opD .all) (sem1 fun v => call (.builtin "all") [v]) := by
  refine ov1 (sh1 (fun _ _ _ => rfl) rfl) fun pins s σ G H x v a r I rx e ha hg => ?_
  replace hg : allD a = some r := hg
  unfold allD at hg
  split at hg
  · rename_i ds
    cases c : boolsOf ds with
    | none => rw [c] at hg; cases hg
    | some bs =>
      rw [c] at hg; cases hg
      obtain ⟨p, xs, rfl, h1, h2, h3⟩ := ha.list e
      rw [h3.bools c] at h1
      exact call_flat (v := .bl _) (cr_all hc) I (.cons rx .nil) e (fun Q q => ⟨p, bs, rfl, h1, q⟩) fun _ _ _ => rfl
  · cases hg
theorem ov_any (hc : X.calm = true) : OpV X (opD .any) (sem1 fun v => call (.builtin "any") [v]) := by
  refine ov1 (sh1 (fun _ _ _ => rfl) rfl) fun pins s σ G H x v a r I rx e ha hg => ?_
  replace hg : anyD a = some r := hg
  unfold anyD at hg
  split at hg
  · rename_i ds
    cases c : boolsOf ds with
    | none => rw [c] at hg; cases hg
    | some bs =>
      rw [c] at hg; cases hg
      obtain ⟨p, xs, rfl, h1, h2, h3⟩ := ha.list e
      rw [h3.bools c] at h1
      exact call_flat (v := .bl _) (cr_any hc) I (.cons rx .nil) e (fun Q q => ⟨p, bs, rfl, h1, q⟩) fun _ _ _ => rfl
  · cases hg
theorem ov_sum (hc : X.calm = true) : OpV X (opD .sum) (sem1 fun v => call (.builtin "sum") [v]) := by
  refine ov1 (sh1 (fun _ _ _ => rfl) rfl) fun pins s σ G H x v a r I rx e ha hg => ?_
  replace hg : sumD a = some r := hg
  unfold sumD at hg
  split at hg
  · rename_i ds
    cases c : intsOf ds with
    | none => rw [c] at hg; cases hg
    | some bs =>
      rw [c] at hg; cases hg
      obtain ⟨p, xs, rfl, h1, h2, h3⟩ := ha.list e
      rw [h3.ints c] at h1
      exact call_flat (v := .int _) (cr_sum hc) I (.cons rx .nil) e (fun Q q => ⟨p, bs, rfl, h1, q⟩) fun _ _ _ => rfl
  · cases hg
theorem ov_mn2 (hc : X.calm = true) : OpV X (opD .mn2) (sem2 fun v u => call (.builtin "min") [v, u]) := by
  refine ov2 (sh2 (fun _ _ _ _ => rfl) (fun _ => rfl) rfl) fun pins s σ G H x y v u a b r I rx ry e ha hb hg => ?_
  replace hg : mn2D a b = some r := hg
  unfold mn2D at hg
  split at hg
  · rename_i i j
    cases hg
    have ea := ha.int; have eb := hb.int
    subst ea eb
    refine call_flat (v := .int (if j < i then j else i)) (call_min2 hc) I (.cons rx (.cons ry .nil)) e (fun Q q => ⟨_, _, rfl, q⟩) fun _ _ _ => ?_
    show V.int _ = V.int _
    congr 1
    rw [Int.min_def]
    split <;> split <;> omega
  · cases hg
theorem ov_mx2 (hc : X.calm = true) : OpV X (opD .mx2) (sem2 fun v u => call (.builtin "max") [v, u]) := by
  refine ov2 (sh2 (fun _ _ _ _ => rfl) (fun _ => rfl) rfl) fun pins s σ G H x y v u a b r I rx ry e ha hb hg => ?_
  replace hg : mx2D a b = some r := hg
  unfold mx2D at hg
  split at hg
  · rename_i i j
    cases hg
    have ea := ha.int; have eb := hb.int
    subst ea eb
    refine call_flat (v := .int (if j > i then j else i)) (call_max2 hc) I (.cons rx (.cons ry .nil)) e (fun Q q => ⟨_, _, rfl, q⟩) fun _ _ _ => ?_
    show V.int _ = V.int _
    congr 1
    rw [Int.max_def]
    split <;> split <;> omega
  · cases hg
/-! ### isinstance -/
def Ty.name : Ty → String
  | .int => "int"
  | .bool => "bool"
  | .str => "str"
  | .list => "list"
  | .tuple => "tuple"
/-- the built-in type of data -/
def tyD : D → String
  | .none => "NoneType"
  | .bool _ => "bool"
  | .int _ => "int"
  | .str _ => "str"
  | .list _ => "list"
  | .tuple _ => "tuple"
  | .dict _ => "dict"
theorem Rd1.tyx {K : PySem.W.Frag} {w : World} {G H : Hp} {d : D} {v : V} (e : Same G H) (h : Rd1 K w G H d v) (hd : ∀ kvs, d ≠ .dict kvs) : TyX K H v (.type (tyD d)) := by
  cases d with
  | none => rw [h.none]; exact .base .non
  | bool b => rw [h.bool]; exact .base (.bl b)
  | int i => rw [h.int]; exact .base (.int i)
  | str x => rw [h.str]; exact .base (.str x)
  | list ds =>
    obtain ⟨a, xs, rfl, h1, _⟩ := h.list e
    rcases h1 with (h1 | ⟨o, h1⟩) | ⟨o, its, n, h1, h2, _⟩
    · exact .base (.lst h1)
    · exact .base (.frz h1)
    · exact .kList h1 h2
  | tuple ds =>
    obtain ⟨a, xs, rfl, h1, _, _, o, g1, _⟩ := h.tuple e
    exact .fTuple (e _ _ g1)
  | dict kvs => exact absurd rfl (hd kvs)
theorem kit_all (d : D) (t : Ty) (hd : ∀ kvs, d ≠ .dict kvs) {K : PySem.W.Frag} : PySem.W.kitOne K (.type (tyD d)) (.type t.name) = some (t.is d) := by
  cases d with
  | dict kvs => exact absurd rfl (hd kvs)
  | _ => cases t <;> exact kit_ty (by first | rfl | decide +kernel)
theorem isi_run {pins : List (Addr × Obj)} {s : Shared} {σ : L2.St} {G H : Hp} {x : V} {v : Value} {a : D} {t : Ty} {r : RV} (I : Inv X pins σ H s) (rx : RelV x v) (e : Same G H) (ha : Rd1 X.K X.w G H a x) (hg : isiD t a = some r) :
    wpAny (model X.prog X.w) X.A (call (.builtin "isinstance") [v, .type t.name]) (OpP X pins σ G H r) X.xe s := by
  have hd : ∀ kvs, a ≠ .dict kvs := fun kvs q => by subst q; cases hg
  have hr : r = .sh (.bool (t.is a)) := by
    unfold isiD boolR at hg
    split at hg
    · cases hg
    · cases hg; rfl
  subst hr
  exact call_flat (v := .bl (t.is a)) call_isi I (.cons rx (.cons (show RelV (V.ty t.name) (Value.type t.name) from rfl) .nil)) e (fun Q q => ⟨x, .ty t.name, _, _, _, rfl, .ty _, ha.tyx e hd, kit_all a t hd, q⟩) fun _ _ _ => rfl
theorem isi2_run {pins : List (Addr × Obj)} {s : Shared} {σ : L2.St} {G H : Hp} {x : V} {v : Value} {a : D} {t t' : Ty} {r : RV} {tp : Addr} (I : Inv X pins σ H s) (rx : RelV x v) (e : Same G H) (ha : Rd1 X.K X.w G H a x) (hg : isi2D t t' a = some r) (ht : H tp = some (.tup [.ty t.name, .ty t'.name])) :
    wpAny (model X.prog X.w) X.A (call (.builtin "isinstance") [v, .ref tp]) (OpP X pins σ G H r) X.xe s := by
  have hd : ∀ kvs, a ≠ .dict kvs := fun kvs q => by subst q; cases hg
  have hr : r = .sh (.bool (t.is a || t'.is a)) := by
    unfold isi2D boolR at hg
    split at hg
    · cases hg
    · cases hg; rfl
  subst hr
  refine call_flat (v := .bl (t.is a || t'.is a)) call_isiT I (.cons rx (.cons (show RelV (V.ref tp) (Value.ref tp) from rfl) .nil)) e (fun Q q => ⟨x, tp, _, _, [.type t.name, .type t'.name], _, rfl, ht, .cons (.ty _) (.cons (.ty _) .nil), ha.tyx e hd, ?_, q⟩) fun _ _ _ => rfl
  have k1 := kit_all a t hd (K := X.K)
  have k2 := kit_all a t' hd (K := X.K)
  refine kitAny_cons k1 (fun q => ?_) (fun q => by rw [q, Bool.true_or])
  rw [q, Bool.false_or]
  refine kitAny_cons k2 (fun q => by rw [q]; exact kitAny_nil) fun q => q
end
end DL
set_option Elab.async false
set_option linter.all false
set_option maxRecDepth 100000
set_option maxHeartbeats 1000000
/-! Layer D, part G: operations as expressions and as tests; chains; slices. -/
namespace DL
open PySem PySem.Spec PyProof.Rows L2
section
variable {X : Cx} {W : WX} {z : Option Addr} {G₀ B G H : Hp} {σ : L2.St} {δ : Env} {pins : List (Addr × Obj)} {s : Shared}
theorem opn_run {o : Op} {sem : List Value → Sem Value} {vs : List V} {us : List Value} {rs : List RV} {C : RV → Env → Hp → Hp → Prop} {Q : Value → Shared → Prop} (ho : OpV X (opD o) sem) (I : Inv X pins σ H s) (R : RS X.K X.w z G₀ B G H σ δ) (rv : Vals vs us) (hv : HVsOk X.K X.w G σ vs rs)
    (k : Kont X W z G₀ B G σ (eOp o rs δ) C) (fin : ∀ r δ1 G' H' u s' v, RS X.K X.w z G₀ B G' H' σ δ1 → Same G G' → C r δ1 G' H' → Inv X pins σ H' s' → RelV v u → RVOk X.K X.w B G' H' σ δ1 v r → Q u s') : wpAny (model X.prog X.w) X.A (sem us) Q X.xe s := by
  unfold eOp at k
  cases c : dats δ rs with
  | none => rw [c] at k; exact k.elim
  | some ds =>
    rw [c] at k
    cases c2 : opD o ds with
    | none => simp only [c2, okR] at k; exact k.elim
    | some r =>
      simp only [c2, okR] at k
      refine thn (ho.run pins s σ G H vs us ds r I rv R.gh (R.reads hv c) c2) fun u s' ⟨v, G', H', I', ru, e, n⟩ => ?_
      exact fin r δ G' H' u s' v (R.ext e) e.gg (k G' H' (R.ext e) e.gg) I' ru (n.rv R)
theorem de_opn {o : Op} {sem : List Value → Sem Value} {es : List Expr} {e : Expr} {ts : Env → Res (List RV)} (ho : OpV X (opD o) sem) (hs : DEs X es ts)
    (hsyn : ∀ (pins : List (Addr × Obj)) (σ : L2.St) (H : Hp) (Q : Value → Shared → Prop) s, Inv X pins σ H s → wpL X es (fun us s1 => wpAny (model X.prog X.w) X.A (sem us) Q X.xe s1) s → wpAny (model X.prog X.w) X.A (eval e X.env) Q X.xe s) : DE X e (fun δ => (ts δ).bind fun rs δ1 => eOp o rs δ1) := by
  refine ⟨fun W z G₀ B tk pins s σ G H δ Q I R k => ?_⟩
  refine hsyn pins σ H Q s I (hs.run W z G₀ B tk pins s σ G H δ _ I R (k.bind.imp fun rs δ1 G1 H1 R1 s1 k1 => ?_))
  intro us s1 vs I1 rv hv
  exact opn_run ho I1 R1 rv hv k1 fun r δ2 G' H' u s' v R' sg c I' ru ok => c u s' v I' ru ok
theorem dt_opn {o : Op} {sem : List Value → Sem Value} {es : List Expr} {e : Expr} {ts : Env → Res (List RV)} (ho : OpV X (opD o) sem) (hs : DEs X es ts)
    (hsyn : ∀ (pins : List (Addr × Obj)) (σ : L2.St) (H : Hp) (Q : Bool → Shared → Prop) s, Inv X pins σ H s → wpL X es (fun us s1 => wpAny (model X.prog X.w) X.A (sem us) (fun v s2 => wpAny (model X.prog X.w) X.A (truthy v) Q X.xe s2) X.xe s1) s → wpAny (model X.prog X.w) X.A (isTrue e X.env (eval e X.env)) Q X.xe s) :
    DT X e (fun δ => tst ((ts δ).bind fun rs δ1 => eOp o rs δ1)) := by
  refine ⟨fun W z G₀ B tk pins s σ G H δ Q I R k => ?_⟩
  refine hsyn pins σ H Q s I (hs.run W z G₀ B tk pins s σ G H δ _ I R ((tst_kont k).bind.imp fun rs δ1 G1 H1 R1 s1 k1 => ?_))
  intro us s1 vs I1 rv hv
  refine opn_run ho I1 R1 rv hv k1 fun r δ2 G' H' u s' v R' sg c I' ru ok => ?_
  obtain ⟨b, rfl, q⟩ := c
  obtain rfl : v = .bl b := ok
  cases ru
  exact wpAny_truthy_bool (q s' I')

/-! ### chains -/
theorem de_chain {a b c : Expr} {ta tb tc : Ev} {o o' : Op} {p p' : CmpOp} {pos : Pos} (ha : DE X a ta) (hb : DE X b tb) (hc : DE X c tc) (ho : OpV X (opD o) (sem2 (compareOp p))) (ho' : OpV X (opD o') (sem2 (compareOp p')))
    (hm : lastMarks [p, p'] [b, c] = false) : DE X (.Compare a [p, p'] [b, c] pos) (fun δ => (ta δ).bind fun x δ1 => (tb δ1).bind fun y δ2 => (tst (eOp o [hold x, hold y] δ2)).bind fun t δ3 =>
      if t then (tc δ3).bind fun z δ4 => eOp o' [hold y, hold z] δ4 else .ok (.sh (.bool false)) δ3) := by
  refine ⟨fun W z G₀ B tk pins s σ G H δ Q I R k => ?_⟩
  refine Compare_chain (ha.run W z G₀ B tk pins s σ G H δ _ I R (k.bind.imp fun x δ1 G1 H1 R1 s1 k1 => ?_)) hm
  intro u1 s1 v1 I1 rv1 ok1
  obtain ⟨G2, R2, sg2, hv1⟩ := R1.held ok1
  refine chain_link (hb.run W z G₀ B tk pins s1 σ G2 H1 δ1 _ I1 R2 ((k1.base sg2).bind.imp fun y δ2 G3 H3 R3 s3 k3 => ?_))
  intro u2 s2 v2 I2 rv2 ok2
  obtain ⟨G4, R4, sg4, hv2⟩ := R3.held ok2
  refine opn_run (W := W) (us := [u1, u2]) (rs := [hold x, hold y]) ho I2 R4 (.cons rv1 (.cons rv2 .nil)) ⟨(hv1.mono s3).mono sg4, hv2, trivial⟩ (tst_kont (k3.base sg4).bind) fun r δ3 G' H' u s' v R' sg c I' ru ok => ?_
  obtain ⟨t, rfl, q⟩ := c
  obtain rfl : v = .bl t := ok
  cases ru
  refine wpAny_truthy_bool ?_
  cases t with
  | false => exact ite_ff (q.use R' _ s' (.bl false) I' rfl rfl)
  | true =>
    refine ite_tt (chain_last (hc.run W z G₀ B tk pins s' σ G' H' δ3 _ I' R' (Kont.bind (show Kont X W z G₀ B G' σ ((tc δ3).bind fun z δ4 => eOp o' [hold y, hold z] δ4) _ from q) |>.imp fun w δ5 G5 H5 R5 s5 k5 => ?_)))
    intro u3 s6 v3 I6 rv3 ok3
    obtain ⟨G7, R7, sg7, hv3⟩ := R5.held ok3
    exact opn_run (W := W) (us := [u2, u3]) (rs := [hold y, hold w]) ho' I6 R7 (.cons rv2 (.cons rv3 .nil)) ⟨((hv2.mono sg).mono s5).mono sg7, hv3, trivial⟩ (k5.base sg7) fun r δ3 G' H' u s' v R' sg c I' ru ok => c u s' v I' ru ok
theorem dt_chain {a b c : Expr} {ta tb tc : Ev} {o o' : Op} {p p' : CmpOp} {pos : Pos} (ha : DE X a ta) (hb : DE X b tb) (hc : DE X c tc) (ho : OpV X (opD o) (sem2 (compareOp p))) (ho' : OpV X (opD o') (sem2 (compareOp p')))
    (hm : lastMarks [p, p'] [b, c] = false) : DT X (.Compare a [p, p'] [b, c] pos) (fun δ => tst ((ta δ).bind fun x δ1 => (tb δ1).bind fun y δ2 => (tst (eOp o [hold x, hold y] δ2)).bind fun t δ3 =>
      if t then (tc δ3).bind fun z δ4 => eOp o' [hold y, hold z] δ4 else .ok (.sh (.bool false)) δ3)) := by
  refine ⟨fun W z G₀ B tk pins s σ G H δ Q I R k => ?_⟩
  refine isTrue_chain (ha.run W z G₀ B tk pins s σ G H δ _ I R ((tst_kont k).bind.imp fun x δ1 G1 H1 R1 s1 k1 => ?_)) hm
  intro u1 s1 v1 I1 rv1 ok1
  obtain ⟨G2, R2, sg2, hv1⟩ := R1.held ok1
  refine test_link (hb.run W z G₀ B tk pins s1 σ G2 H1 δ1 _ I1 R2 ((k1.base sg2).bind.imp fun y δ2 G3 H3 R3 s3 k3 => ?_))
  intro u2 s2 v2 I2 rv2 ok2
  obtain ⟨G4, R4, sg4, hv2⟩ := R3.held ok2
  refine opn_run (W := W) (us := [u1, u2]) (rs := [hold x, hold y]) ho I2 R4 (.cons rv1 (.cons rv2 .nil)) ⟨(hv1.mono s3).mono sg4, hv2, trivial⟩ (tst_kont (k3.base sg4).bind) fun r δ3 G' H' u s' v R' sg c I' ru ok => ?_
  obtain ⟨t, rfl, q⟩ := c
  obtain rfl : v = .bl t := ok
  cases ru
  refine wpAny_truthy_bool ?_
  cases t with
  | false =>
    obtain ⟨b, e, q⟩ := q.use R'
    cases e
    exact ite_ff (q s' I')
  | true =>
    refine ite_tt (test_last (hc.run W z G₀ B tk pins s' σ G' H' δ3 _ I' R' (Kont.bind (show Kont X W z G₀ B G' σ ((tc δ3).bind fun z δ4 => eOp o' [hold y, hold z] δ4) _ from q) |>.imp fun w δ5 G5 H5 R5 s5 k5 => ?_)))
    intro u3 s6 v3 I6 rv3 ok3
    obtain ⟨G7, R7, sg7, hv3⟩ := R5.held ok3
    refine opn_run (W := W) (us := [u2, u3]) (rs := [hold y, hold w]) ho' I6 R7 (.cons rv2 (.cons rv3 .nil)) ⟨((hv2.mono sg).mono s5).mono sg7, hv3, trivial⟩ (k5.base sg7) fun r δ3 G' H' u s' v R' sg c I' ru ok => ?_
    obtain ⟨b, rfl, q⟩ := c
    obtain rfl : v = .bl b := ok
    cases ru
    exact wpAny_truthy_bool (q s' I')

/-! ### slices -/
theorem slc_fin {e : Expr} {lo hi : Option Expr} {p2 : Pos} {l h : Bool} {ol oh : Option Int} {d : D} {v : Value} {x : V} {vl vu : Value} {r : RV} (I : Inv X pins σ H s) (e0 : Same G H) (rx : RelV x v) (pl : IsPart vl ol) (pu : IsPart vu oh) (ha : Rd1 X.K X.w G H d x) (hg : cutD d ol oh = some r) :
    wpAny (model X.prog X.w) X.A (subscriptTail e (.Slice lo hi none p2) v (.ref s.heap.objs.size)) (OpP X pins σ G H r) X.xe { s with heap := s.heap.push { cls := .type "slice", data := .fields #[vl, vu, .none] } } := by
  have I4 : Inv X pins σ H { s with heap := s.heap.push { cls := .type "slice", data := .fields #[vl, vu, .none] } } := I.kept (t' := s.toks) fun b ob q => Heap.get?_push_of_some _ q
  obtain ⟨T, id, hT, ht, hg⟩ := sl_ok I4 rx e0 (Heap.IsSliceOf.new ..) pl pu ha hg
  exact tail_any (ops := [.ref s.heap.objs.size, v]) ht hT hg (by with_unfolding_all rfl)
def partsE (lo hi : Option Expr) : List Expr := lo.toList ++ hi.toList
theorem de_slc {e : Expr} {lo hi : Option Expr} {p2 pos : Pos} {ts : Env → Res (List RV)} (hs : DEs X (e :: partsE lo hi) ts) : DE X (.Subscript e (.Slice lo hi none p2) pos) (fun δ => (ts δ).bind fun rs δ1 => eOp (.slc lo.isSome hi.isSome) rs δ1) := by
  refine ⟨fun W z G₀ B tk pins s σ G H δ Q I R k => ?_⟩
  refine Subscript_ ?_
  have key := hs.run W z G₀ B tk pins s σ G H δ
  have fin : ∀ {x : V} {v vl vu : Value} {ol oh : Option Int} {d : D} {δ1 : Env} {G1 H1 : Hp} {s1 : Shared} {r : RV}, Inv X pins σ H1 s1 → RS X.K X.w z G₀ B G1 H1 σ δ1 → RelV x v → IsPart vl ol → IsPart vu oh → Rd1 X.K X.w G1 H1 d x → cutD d ol oh = some r →
      Kont X W z G₀ B G1 σ (.ok r δ1) (EQ X pins B σ Q) →
      wpAny (model X.prog X.w) X.A (subscriptTail e (.Slice lo hi none p2) v (.ref s1.heap.objs.size)) Q X.xe { s1 with heap := s1.heap.push { cls := .type "slice", data := .fields #[vl, vu, .none] } } := fun {x v vl vu ol oh d δ1 G1 H1 s1 r} I1 R1 rx pl pu ha hg kk =>
    thn (slc_fin (l := lo.isSome) (h := hi.isSome) I1 R1.gh rx pl pu ha hg) fun u s' ⟨v', G', H', I', ru, e', n⟩ => kk G' H' (R1.ext e') e'.gg u s' v' I' ru (n.rv R1)
  have h : wpL X (e :: partsE lo hi) (fun us s1 => ∃ vs rs δ1 G1 H1, Inv X pins σ H1 s1 ∧ RS X.K X.w z G₀ B G1 H1 σ δ1 ∧ Vals vs us ∧ HVsOk X.K X.w G1 σ vs rs ∧ Kont X W z G₀ B G1 σ (eOp (.slc lo.isSome hi.isSome) rs δ1) (EQ X pins B σ Q)) s :=
    key _ I R (k.bind.imp fun rs δ1 G1 H1 R1 s1 k1 => fun us s1 vs I1 rv hv => ⟨vs, rs, δ1, G1, H1, I1, R1, rv, hv, k1⟩)
  have op : ∀ {rs : List RV} {δ1 : Env} {G1 H1 : Hp} {vs : List V} {l h : Bool}, RS X.K X.w z G₀ B G1 H1 σ δ1 → HVsOk X.K X.w G1 σ vs rs → Kont X W z G₀ B G1 σ (eOp (.slc l h) rs δ1) (EQ X pins B σ Q) → ∃ ds r, Rd1s X.K X.w G1 H1 ds vs ∧ slcD l h ds = some r ∧ Kont X W z G₀ B G1 σ (.ok r δ1) (EQ X pins B σ Q) := fun {rs δ1 G1 H1 vs l h} R1 hv k1 => by
    unfold eOp at k1
    cases c : dats δ1 rs with
    | none => rw [c] at k1; exact k1.elim
    | some ds =>
      rw [c] at k1
      cases c2 : slcD l h ds with
      | none =>
        have c2' : opD (.slc l h) ds = none := by rw [← c2]; rfl
        simp only [c2', okR] at k1; exact k1.elim
      | some r =>
        have c2' : opD (.slc l h) ds = some r := by rw [← c2]; rfl
        simp only [c2', okR] at k1
        exact ⟨ds, r, R1.reads hv c, c2, k1⟩
  cases lo with
  | none =>
    cases hi with
    | none =>
      refine thn h fun v s1 ⟨vs, rs, δ1, G1, H1, I1, R1, rv, hv, k1⟩ => ?_
      obtain ⟨ds, r, hd, hg, k2⟩ := op R1 hv k1
      refine wpAny_Slice ?_
      rw [evalPart_none]
      refine wpAny_pure (wpAny_pure (wpAny_pure ?_))
      match ds, hg with
      | [d], hg =>
        obtain ⟨x, rfl, hx⟩ := rd1 hd
        obtain ⟨_, e1, rx⟩ := vals1 rv
        cases e1
        exact fin I1 R1 rx .none .none hx hg k2
    | some b =>
      refine thn h fun v s1 h1 => ?_
      refine wpAny_Slice ?_
      rw [evalPart_none, evalPart_some]
      refine wpAny_pure (thn h1 fun vb s2 ⟨vs, rs, δ1, G1, H1, I1, R1, rv, hv, k1⟩ => wpAny_pure ?_)
      obtain ⟨ds, r, hd, hg, k2⟩ := op R1 hv k1
      match ds, hg with
      | [d, .int j], hg =>
        obtain ⟨x, y, rfl, hx, hy⟩ := rd2 hd
        obtain ⟨_, _, e1, rx, ry⟩ := vals2 rv
        cases e1
        have ey := hy.int
        subst ey
        obtain ⟨t, rfl⟩ := ry
        exact fin I1 R1 rx .none (.int j t) hx hg k2
  | some a =>
    cases hi with
    | none =>
      refine thn h fun v s1 h1 => ?_
      refine wpAny_Slice ?_
      rw [evalPart_none, evalPart_some]
      refine thn h1 fun vb s2 ⟨vs, rs, δ1, G1, H1, I1, R1, rv, hv, k1⟩ => wpAny_pure (wpAny_pure ?_)
      obtain ⟨ds, r, hd, hg, k2⟩ := op R1 hv k1
      match ds, hg with
      | [d, .int j], hg =>
        obtain ⟨x, y, rfl, hx, hy⟩ := rd2 hd
        obtain ⟨_, _, e1, rx, ry⟩ := vals2 rv
        cases e1
        have ey := hy.int
        subst ey
        obtain ⟨t, rfl⟩ := ry
        exact fin I1 R1 rx (.int j t) .none hx hg k2
    | some b =>
      refine thn h fun v s1 h1 => ?_
      refine wpAny_Slice ?_
      rw [evalPart_none, evalPart_some, evalPart_some]
      refine thn h1 fun va s2 h2 => thn h2 fun vb s3 ⟨vs, rs, δ1, G1, H1, I1, R1, rv, hv, k1⟩ => wpAny_pure ?_
      obtain ⟨ds, r, hd, hg, k2⟩ := op R1 hv k1
      match ds, hg with
      | [d, .int i, .int j], hg =>
        obtain ⟨x, y, w, rfl, hx, hy, hw⟩ := rd3 hd
        obtain ⟨_, _, _, e1, rx, ry, rw'⟩ : ∃ u w' t', [v, va, vb] = [u, w', t'] ∧ L2.RelV x u ∧ L2.RelV y w' ∧ L2.RelV w t' := by
          cases rv with
          | cons p q => cases q with
            | cons p' q' => cases q' with
              | cons p2 q2 => exact ⟨_, _, _, rfl, p, p', p2⟩
        cases e1
        have ey := hy.int
        subst ey
        have ew := hw.int
        subst ew
        obtain ⟨t, rfl⟩ := ry
        obtain ⟨t', rfl⟩ := rw'
        exact fin I1 R1 rx (.int i t) (.int j t') hx hg k2

/-! ### x[::-1] -/
theorem sliceApplied_rev {prog : Program} {w : World} {A : Around} {E : Value → Shared → Prop} {s : Shared} {sl : Addr} {t : Tok} {n : Nat} {Q : Int × Int × Nat → Shared → Prop} (hs : s.heap.IsSliceOf sl .none .none (.int (-1) t))
    (h : Q ((n : Int) - 1, -1, n) s) : wpAny (model prog w) A (Builtin.Slice.sliceApplied (.ref sl) (pure (n : Int))) Q E s := by
  obtain ⟨os, hos, hcs, hds⟩ := id hs
  unfold Builtin.Slice.sliceApplied Builtin.Slice.sliceFields
  refine wpAny_bind (wpAny_bind (wpAny_field hos hds (x := .none) rfl (wpAny_bind (wpAny_field hos hds (x := .none) rfl (wpAny_bind (wpAny_field hos hds (x := .int (-1) t) rfl (wpAny_pure ?_)))))))
  refine wpAny_bind (slicePart_int ?_)
  show wpAny _ _ (if ((-1 : Int) == 0) = true then _ else _) _ _ s
  rw [if_neg (by decide)]
  refine wpAny_bind (slicePart_none (wpAny_bind (slicePart_none (wpAny_bind (wpAny_pure ?_)))))
  show wpAny _ _ (match Builtin.Slice.sliceAdjust none none (-1) (n : Int) with | (lo, hi) => pure (lo, (-1 : Int), Builtin.Slice.slicePlaces lo hi (-1))) _ _ s
  have e1 : Builtin.Slice.sliceAdjust none none (-1) (n : Int) = ((n : Int) - 1, -1) := by
    unfold Builtin.Slice.sliceAdjust
    simp
  rw [e1]
  show wpAny _ _ (pure ((n : Int) - 1, (-1 : Int), Builtin.Slice.slicePlaces ((n : Int) - 1) (-1) (-1))) _ _ s
  have e2 : Builtin.Slice.slicePlaces ((n : Int) - 1) (-1) (-1) = n := by
    unfold Builtin.Slice.slicePlaces
    have h1 : ¬ ((-1 : Int) > 0) := by omega
    simp only [h1, if_false, show (- -1 : Int) = 1 by decide, Int.ediv_one]
    split <;> omega
  rw [e2]
  exact wpAny_pure h
theorem fm_congr {α β : Type} {f g : α → Option β} : ∀ (l : List α), (∀ m ∈ l, f m = g m) → l.filterMap f = l.filterMap g
  | [], _ => rfl
  | a :: l, h => by
    rw [List.filterMap_cons, List.filterMap_cons, h a List.mem_cons_self, fm_congr l fun m hm => h m (List.mem_cons_of_mem _ hm)]
theorem rev_pick (xs : Array Value) : ((List.range xs.size).filterMap fun (m : Nat) => xs[(((xs.size : Nat) : Int) - 1 + (m : Int) * -1).toNat]?).toArray = xs.toList.reverse.toArray := by
  rw [← PySem.W.krv_pick]
  unfold slicePick
  rw [PySem.W.krv_bounds]
  show _ = ((PySem.sliceRange ((xs.size : Int) - 1) (-1) (-1)).filterMap (xs[·]?)).toArray
  rw [PySem.W.krv_sliceRange, List.filterMap_map]
  congr 1
  refine fm_congr _ fun m hm => ?_
  have := List.mem_range.mp hm
  show xs[_]? = xs[xs.size - 1 - m]?
  congr 1
  omega
theorem getItem_tuple_rev {prog : Program} {w : World} {A : Around} {E : Value → Shared → Prop} {s : Shared} {t sl : Addr} {items : Array Value} {u : Tok} {Q : Value → Shared → Prop} (ht : IsTup s.heap t items) (hs : s.heap.IsSliceOf sl .none .none (.int (-1) u))
    (h : Q (.ref s.heap.objs.size) { s with heap := s.heap.push { cls := .type "tuple", data := .seq items.toList.reverse.toArray } })
    (hsz : items.size ≤ sizeLine) : wpAny (model prog w) A (getItem (.ref t) (.ref sl)) Q E s := by
  have htake : sizeOk (.seq items.toList.reverse.toArray) := by
    show items.toList.reverse.toArray.size ≤ sizeLine
    rw [List.size_toArray, List.length_reverse, Array.length_toList]
    exact hsz
  obtain ⟨os, hos, hcs, hds⟩ := id hs
  have hTs : s.TypeIs (.ref sl) "slice" := ⟨os, hos, hcs⟩
  unfold getItem
  try with_reducible refine wpAny_holding ?_
  first | refine wpAny_bind (wpAny_pure ?_) | skip
  refine wpAny_bind (wpAny_sequenceKey ht.typeIs (by decide) ?_)
  refine wpAny_bind (wpAny_callSpecial?_slot (name := Str.ofString "__getitem__") ht.typeIs PyProof.Rows.slot_tuple_getitem
    (wpAny_call_entry PyProof.Rows.slot_tuple_getitem ht.typeIs entry_tuple_getitem ?_ (args_tuple_getitem _ _)))
  show wpAny _ _ (Builtin.Tuple.tupleItemsOf (.ref t) >>= _) _ _ s
  refine wpAny_bind (tupleItemsOf_ ht ?_)
  refine wpAny_bind (wpAny_typeOf hTs ?_)
  rw [if_pos (by decide)]
  refine wpAny_bind (sliceApplied_rev (n := items.size) hs ?_)
  have hno : ¬ ((((items.size : Int) - 1 == 0) && (-1 : Int) == 1 && items.size == items.size) = true) := by
    intro q
    rw [Bool.and_eq_true, Bool.and_eq_true] at q
    exact absurd q.1.2 (by decide)
  show wpAny _ _ (if (((items.size : Int) - 1 == 0) && (-1 : Int) == 1 && items.size == items.size) = true then _ else _) _ _ s
  rw [if_neg hno, rev_pick]
  first
    | exact wpAny_bind (m := Builtin.Tuple.tupleExact _) (wpAny_newObj_type (wpAny_pure ⟨_, rfl, wpAny_pure h⟩) htake)
    | exact wpAny_bind (m := Builtin.Tuple.tupleExact _) (wpAny_newObj_type (wpAny_bind (wpAny_pure (wpAny_pure ⟨_, rfl, wpAny_pure h⟩))) htake)
    | exact wpAny_bind (wpAny_bind (m := Builtin.Tuple.tupleExact _) (wpAny_newObj_type (wpAny_pure (wpAny_pure ⟨_, rfl, wpAny_pure h⟩)) htake))
    | exact wpAny_bind (wpAny_bind (m := Builtin.Tuple.tupleExact _) (wpAny_newObj_type (wpAny_pure ⟨_, rfl, wpAny_pure h⟩) htake))
theorem rev_run {e : Expr} {k : Nat} {p1 p2 p3 : Pos} {t : Tok} {d : D} {v : Value} {x : V} {r : RV} (I : Inv X pins σ H s) (e0 : Same G H) (rx : RelV x v) (ha : Rd1 X.K X.w G H d x) (hg : revD d = some r) :
    wpAny (model X.prog X.w) X.A (subscriptTail e (.Slice none none (some (.UnaryOp .USub (.Constant (.int 1) k p1) p2)) p3) v (.ref s.heap.objs.size)) (OpP X pins σ G H r) X.xe { s with heap := s.heap.push { cls := .type "slice", data := .fields #[.none, .none, .int (-1) t] } } := by
  have I4 : Inv X pins σ H { s with heap := s.heap.push { cls := .type "slice", data := .fields #[.none, .none, .int (-1) t] } } := I.kept (t' := s.toks) fun b ob q => Heap.get?_push_of_some _ q
  unfold revD at hg
  split at hg
  · cases hg
    obtain ⟨p, xs, rfl, h1, hz, h3⟩ := ha.list e0
    cases rx
    obtain ⟨its, r1, pl, hz'⟩ := I4.list h1
    have hlen := r1.length
    refine tail_any (ops := [.ref p, .ref s.heap.objs.size]) pl.isList.typeIs (PySem.slot_list_getitem.lookup) ?_ (by with_unfolding_all rfl)
    refine wpAny_getItem_list_slice pl.isList (Heap.IsSliceOf.new ..) .none .none (.int (-1) t) (by decide) ?_ (by rw [List.size_toArray]; omega)
    rw [PySem.W.krv_pick]
    refine OpP.newList (xs := xs.reverse) (I4.lnew (its := its.reverse) (t' := s.toks) ?_ ?_) rfl e0 I4.fresh ?_ h3.reverse
    · exact r1.reverse
    · rw [List.length_reverse]; exact hz'
    · rw [List.length_reverse]; exact hz
  · cases hg
    obtain ⟨p, xs, rfl, h1, hz, h3, _⟩ := ha.tuple e0
    cases rx
    obtain ⟨its, r1, pl, hz'⟩ := I4.tuple h1
    have hlen := r1.length
    refine tail_any (ops := [.ref p, .ref s.heap.objs.size]) pl.typeIs (PyProof.Rows.slot_tuple_getitem.lookup) ?_ (by with_unfolding_all rfl)
    refine getItem_tuple_rev pl (Heap.IsSliceOf.new ..) ?_ (by rw [List.size_toArray]; omega)
    refine OpP.newTup (xs := xs.reverse) (tup_laid (its := its.reverse) (tk := s.toks) I4 ?_ ?_) rfl rfl e0 I4.fresh ?_ h3.reverse
    · exact r1.reverse
    · rw [List.length_reverse]; exact hz'
    · rw [List.length_reverse]; exact hz
  · cases hg
theorem de_rev {e : Expr} {k : Nat} {p1 p2 p3 pos : Pos} {ts : Env → Res (List RV)} (hs : DEs X [e] ts) : DE X (.Subscript e (.Slice none none (some (.UnaryOp .USub (.Constant (.int 1) k p1) p2)) p3) pos) (fun δ => (ts δ).bind fun rs δ1 => eOp .rev rs δ1) := by
  refine ⟨fun W z G₀ B tk pins s σ G H δ Q I R kk => ?_⟩
  have h : wpL X [e] (fun us s1 => ∃ vs rs δ1 G1 H1, Inv X pins σ H1 s1 ∧ RS X.K X.w z G₀ B G1 H1 σ δ1 ∧ Vals vs us ∧ HVsOk X.K X.w G1 σ vs rs ∧ Kont X W z G₀ B G1 σ (eOp .rev rs δ1) (EQ X pins B σ Q)) s :=
    hs.run W z G₀ B tk pins s σ G H δ _ I R (kk.bind.imp fun rs δ1 G1 H1 R1 s1 k1 => fun us s1 vs I1 rv hv => ⟨vs, rs, δ1, G1, H1, I1, R1, rv, hv, k1⟩)
  refine Subscript_ (thn h fun v s1 ⟨vs, rs, δ1, G1, H1, I1, R1, rv, hv, k1⟩ => ?_)
  have hst : PE X (.UnaryOp .USub (.Constant (.int 1) k p1) p2) (tUn (rU fun i => .int (-i)) (tC (.int 1))) := pe_un un_neg pe_int
  refine wpAny_Slice ?_
  rw [evalPart_none, evalPart_some]
  refine wpAny_pure (wpAny_pure (thn (hst.run pins s1 σ H1 (fun v' H' => v' = .int (-1) ∧ H' = H1) I1 ⟨1, rfl, rfl, rfl⟩) fun vs' s2 ⟨v', H2, I2, rv2, e1, e2⟩ => ?_))
  subst e1 e2
  obtain ⟨t, rfl⟩ := rv2
  unfold eOp at k1
  cases c : dats δ1 rs with
  | none => rw [c] at k1; exact k1.elim
  | some ds =>
    rw [c] at k1
    cases c2 : opD .rev ds with
    | none => simp only [c2, okR] at k1; exact k1.elim
    | some r =>
      simp only [c2, okR] at k1
      match ds, c2, c with
      | [d], c2, c =>
        obtain ⟨x, rfl, hx⟩ := rd1 (R1.reads hv c)
        obtain ⟨_, e1, rx⟩ := vals1 rv
        cases e1
        exact thn (rev_run I2 R1.gh rx hx c2) fun u s' ⟨v', G', H', I', ru, e', n⟩ => k1 G' H' (R1.ext e') e'.gg u s' v' I' ru (n.rv R1)
end
end DL
set_option Elab.async false
set_option linter.all false
set_option maxRecDepth 100000
set_option maxHeartbeats 1000000
/-! Layer D, part H: the forms of operations, isinstance, displays. -/
namespace DL
open PySem PySem.Spec PyProof.Rows L2
section
variable {X : Cx} {W : WX} {z : Option Addr} {G₀ B G H : Hp} {σ : L2.St} {δ : Env} {pins : List (Addr × Obj)} {s : Shared}
abbrev GoP (X : Cx) (W : WX) (z : Option Addr) (G₀ B : Hp) (pins : List (Addr × Obj)) (σ : L2.St) {β : Type} (f : List RV → Env → Res β) (C : β → Env → Hp → Hp → Prop) (us : List Value) (s1 : Shared) : Prop :=
  ∃ vs rs δ1 G1 H1, Inv X pins σ H1 s1 ∧ RS X.K X.w z G₀ B G1 H1 σ δ1 ∧ Vals vs us ∧ HVsOk X.K X.w G1 σ vs rs ∧ Kont X W z G₀ B G1 σ (f rs δ1) C
theorem DEs.go {es : List Expr} {ts : Env → Res (List RV)} {β : Type} {f : List RV → Env → Res β} {C : β → Env → Hp → Hp → Prop} (hs : DEs X es ts) (tk : Takes X W) (I : Inv X pins σ H s) (R : RS X.K X.w z G₀ B G H σ δ) (k : Kont X W z G₀ B G σ ((ts δ).bind f) C) :
    wpL X es (GoP X W z G₀ B pins σ f C) s :=
  hs.run W z G₀ B tk pins s σ G H δ _ I R (k.bind.imp fun rs δ1 G1 H1 R1 s1 k1 => fun us s1 vs I1 rv hv => ⟨vs, rs, δ1, G1, H1, I1, R1, rv, hv, k1⟩)

/-! ### binary, unary, compare, subscript -/
def opB : Op → Option Operator
  | .add => some .Add
  | .sub => some .Sub
  | .mul => some .Mult
  | .fdiv => some .FloorDiv
  | .mod => some .Mod
  | .pow => some .Pow
  | _ => none
theorem ovB {o : Op} {p : Operator} (h : opB o = some p) : OpV X (opD o) (sem2 (binaryOp p)) := by
  cases o <;> cases h
  · exact ov_add
  · exact ov_sub
  · exact ov_mul
  · exact ov_fdiv
  · exact ov_mod
  · exact ov_pow
def opC : Op → Option CmpOp
  | .eq => some .Eq
  | .ne => some .NotEq
  | .lt => some .Lt
  | .le => some .LtE
  | .gt => some .Gt
  | .ge => some .GtE
  | .is_ => some .Is
  | .isnot => some .IsNot
  | .isin => some .In
  | .notin => some .NotIn
  | _ => none
theorem de_bin {o : Op} {p : Operator} {a b : Expr} {pos : Pos} {ts : Env → Res (List RV)} (h : opB o = some p) (hs : DEs X [a, b] ts) : DE X (.BinOp a p b pos) (fun δ => (ts δ).bind fun rs δ1 => eOp o rs δ1) :=
  de_opn (ovB h) hs fun _ _ _ Q s _ hw => wpAny_BinOp hw
theorem de_neg {a : Expr} {pos : Pos} {ts : Env → Res (List RV)} (hs : DEs X [a] ts) : DE X (.UnaryOp .USub a pos) (fun δ => (ts δ).bind fun rs δ1 => eOp .neg rs δ1) :=
  de_opn ov_neg hs fun _ _ _ Q s _ hw => UnaryOp_ hw
theorem de_cmp {o : Op} {p : CmpOp} {a b : Expr} {pos : Pos} {ts : Env → Res (List RV)} (h : OpV X (opD o) (sem2 (compareOp p))) (hs : DEs X [a, b] ts) (hm : behindInMarks p b = false) : DE X (.Compare a [p] [b] pos) (fun δ => (ts δ).bind fun rs δ1 => eOp o rs δ1) :=
  de_opn h hs fun _ _ _ Q s _ hw => wpAny_Compare1 hw hm
theorem dt_cmp {o : Op} {p : CmpOp} {a b : Expr} {pos : Pos} {ts : Env → Res (List RV)} (h : OpV X (opD o) (sem2 (compareOp p))) (hs : DEs X [a, b] ts) (hm : behindInMarks p b = false) : DT X (.Compare a [p] [b] pos) (fun δ => tst ((ts δ).bind fun rs δ1 => eOp o rs δ1)) :=
  dt_opn h hs fun _ _ _ Q s _ hw => wpAny_isTrue_Compare1 hw hm
def plainIx : Expr → Bool
  | .Slice _ _ _ _ => false
  | _ => true
theorem plainIx_ok {b : Expr} (h : plainIx b = true) : PlainIx b := by
  intro o i
  cases b <;> first | rfl | cases h
theorem de_idx {a b : Expr} {pos : Pos} {ts : Env → Res (List RV)} (h : OpV X (opD .idx) (sem2 (subscriptTail a b))) (hs : DEs X [a, b] ts) : DE X (.Subscript a b pos) (fun δ => (ts δ).bind fun rs δ1 => eOp .idx rs δ1) :=
  de_opn h hs fun _ _ _ Q s _ hw => Subscript_ hw

/-! ### calls of builtins -/
theorem syn_call {f : Str} {fv : Value} {e : Expr} {es : List Expr} {p pos : Pos} {Q : Value → Shared → Prop} (hg : Gl X f) (hm : X.mg f = none) (hv : bootBuiltins f = some fv) (hn : f ≠ "__name__") (hd : (f == ("__debug__" : Str)) = false) (hb : (∃ id, fv = .builtin id) ∨ ∃ T, fv = .type T)
    (hp : ((e :: es).all plainE) = true) (I : Inv X pins σ H s) (h : wpL X (e :: es) (fun us s1 => wpAny (model X.prog X.w) X.A (call fv us) Q X.xe s1) s) : wpAny (model X.prog X.w) X.A (eval (.Call (.Name f p) (e :: es) [] pos) X.env) Q X.xe s := by
  have hp' := hp
  rw [List.all_cons, Bool.and_eq_true] at hp'
  refine Call_ (ld_blt I hg hm hv ?_ hn hd)
  rcases hb with ⟨id, rfl⟩ | ⟨T, rfl⟩
  · exact PyProof.Rows.callWith_builtin1 (wpL_spliced pos hp h) (star_cons hp'.1 _ _) (star_any pos _ hp'.2)
  · exact PyProof.Rows.callWith_type1 (wpL_spliced pos hp h) (star_cons hp'.1 _ _) (star_any pos _ hp'.2)
theorem de_blt {o : Op} {sem : List Value → Sem Value} {f : Str} {fv : Value} {e : Expr} {es : List Expr} {p pos : Pos} {ts : Env → Res (List RV)} (ho : OpV X (opD o) sem) (hsem : ∀ us, us.length = (e :: es).length → sem us = call fv us) (hg : Gl X f) (hm : X.mg f = none) (hv : bootBuiltins f = some fv) (hn : f ≠ "__name__") (hd : (f == ("__debug__" : Str)) = false) (hb : (∃ id, fv = .builtin id) ∨ ∃ T, fv = .type T)
    (hp : ((e :: es).all plainE) = true) (hs : DEs X (e :: es) ts) : DE X (.Call (.Name f p) (e :: es) [] pos) (fun δ => (ts δ).bind fun rs δ1 => eOp o rs δ1) := by
  refine de_opn ho hs fun pins σ H Q s I hw => syn_call hg hm hv hn hd hb hp I ?_
  have key : ∀ {l : List Expr} {QQ QQ' : List Value → Shared → Prop} {s : Shared}, wpL X l QQ s → (∀ us s, us.length = l.length → QQ us s → QQ' us s) → wpL X l QQ' s := by
    intro l
    induction l with
    | nil => intro QQ QQ' s h f; exact f [] s rfl h
    | cons a l ih =>
      intro QQ QQ' s h f
      exact thn h fun u s1 h1 => ih h1 fun us s2 hl h2 => f (u :: us) s2 (by rw [List.length_cons, List.length_cons, hl]) h2
  exact key hw fun us s hl h => by rw [← hsem us hl]; exact h

/-! ### isinstance -/
theorem eOp_ok {o : Op} {rs : List RV} {δ : Env} {C : RV → Env → Hp → Hp → Prop} (k : Kont X W z G₀ B G σ (eOp o rs δ) C) : ∃ ds r, dats δ rs = some ds ∧ opD o ds = some r ∧ Kont X W z G₀ B G σ (.ok r δ) C := by
  unfold eOp at k
  cases c : dats δ rs with
  | none => rw [c] at k; exact k.elim
  | some ds =>
    rw [c] at k
    cases c2 : opD o ds with
    | none => simp only [c2, okR] at k; exact k.elim
    | some r =>
      simp only [c2, okR] at k
      exact ⟨ds, r, rfl, c2, k⟩
theorem boot_ty (t : Ty) : bootBuiltins (Str.ofString t.name) = some (.type t.name) := by cases t <;> decide +kernel
def tyN (t : Ty) : Str := Str.ofString t.name
theorem tyN_ne (t : Ty) : tyN t ≠ "__name__" := by cases t <;> decide +kernel
theorem tyN_nd (t : Ty) : (tyN t == ("__debug__" : Str)) = false := by cases t <;> decide +kernel
theorem boot_isi : bootBuiltins "isinstance" = some (.builtin "isinstance") := by decide +kernel
theorem de_isi {t : Ty} {a : Expr} {p q pos : Pos} {ts : Env → Res (List RV)} (hg : Gl X "isinstance") (hm : X.mg "isinstance" = none) (hgt : Gl X (tyN t)) (hmt : X.mg (tyN t) = none) (hp : plainE a = true) (hs : DEs X [a] ts) :
    DE X (.Call (.Name "isinstance" p) [a, .Name (tyN t) q] [] pos) (fun δ => (ts δ).bind fun rs δ1 => eOp (.isi t) rs δ1) := by
  refine ⟨fun W z G₀ B tk pins s σ G H δ Q I R k => ?_⟩
  refine syn_call hg hm boot_isi (by decide) (by decide) (.inl ⟨_, rfl⟩) (by rw [List.all_cons, hp]; rfl) I ?_
  refine thn (hs.go tk I R k) fun u s1 ⟨vs, rs, δ1, G1, H1, I1, R1, rv, hv, k1⟩ => ?_
  refine ld_blt I1 hgt hmt (boot_ty t) ?_ (tyN_ne t) (tyN_nd t)
  obtain ⟨ds, r, c, c2, k2⟩ := eOp_ok k1
  match ds, c, c2 with
  | [d], c, c2 =>
    obtain ⟨x, rfl, hx⟩ := rd1 (R1.reads hv c)
    obtain ⟨_, e1, rx⟩ := vals1 rv
    cases e1
    exact thn (isi_run I1 rx R1.gh hx c2) fun u s' ⟨v', G', H', I', ru, e', n⟩ => k2 G' H' (R1.ext e') e'.gg u s' v' I' ru (n.rv R1)
theorem de_isi2 {t t' : Ty} {k' : Nat} {a : Expr} {p q q' q2 pos : Pos} {ts : Env → Res (List RV)} (hg : Gl X "isinstance") (hm : X.mg "isinstance" = none) (hgt : Gl X (tyN t)) (hmt : X.mg (tyN t) = none) (hgt' : Gl X (tyN t')) (hmt' : X.mg (tyN t') = none) (hp : plainE a = true) (hs : DEs X [a] ts) :
    DE X (.Call (.Name "isinstance" p) [a, .Tuple [.Name (tyN t) q, .Name (tyN t') q'] k' q2] [] pos) (fun δ => (ts δ).bind fun rs δ1 => eOp (.isi2 t t') rs δ1) := by
  refine ⟨fun W z G₀ B tk pins s σ G H δ Q I R k => ?_⟩
  refine syn_call hg hm boot_isi (by decide) (by decide) (.inl ⟨_, rfl⟩) (by rw [List.all_cons, hp]; rfl) I ?_
  refine thn (hs.go tk I R k) fun u s1 ⟨vs, rs, δ1, G1, H1, I1, R1, rv, hv, k1⟩ => ?_
  refine wpAny_Tuple_spliced (wpL_spliced (X := X) _ (es := [.Name (tyN t) q, .Name (tyN t') q']) rfl ?_)
  refine ld_blt I1 hgt hmt (boot_ty t) (ld_blt I1 hgt' hmt' (boot_ty t') ?_ (tyN_ne t') (tyN_nd t')) (tyN_ne t) (tyN_nd t)
  refine ⟨by show 2 ≤ sizeLine; decide, ?_⟩
  have I2 : Inv X pins σ (upd H1 s1.heap.objs.size (.tup [.ty t.name, .ty t'.name])) { s1 with heap := s1.heap.push { cls := .type "tuple", data := .seq [Value.type t.name, Value.type t'.name].toArray } } :=
    I1.laid (t' := s1.toks) (fun b u e => Heap.get?_push_of_some _ e) (Nat.le_refl _) ⟨by show 2 ≤ sizeLine; decide, [Value.type t.name, Value.type t'.name], .cons (show RelV (V.ty t.name) (Value.type t.name) from rfl) (.cons (show RelV (V.ty t'.name) (Value.type t'.name) from rfl) .nil), ⟨_, Heap.get?_push_size _ rfl, rfl, _, rfl⟩⟩
  have e1 : Ext G1 H1 G1 (upd H1 s1.heap.objs.size (.tup [.ty t.name, .ty t'.name])) := Ext.new1 R1.gh I1.fresh
  have R2 := R1.ext e1
  obtain ⟨ds, r, c, c2, k2⟩ := eOp_ok k1
  match ds, c, c2 with
  | [d], c, c2 =>
    obtain ⟨x, rfl, hx⟩ := rd1 (R2.reads hv c)
    obtain ⟨_, ee, rx⟩ := vals1 rv
    cases ee
    exact thn (isi2_run I2 rx R2.gh hx c2 upd_same) fun u s' ⟨v', G', H', I', ru, e', n⟩ => k2 G' H' (R2.ext e') e'.gg u s' v' I' ru (n.rv R2)

/-! ### displays -/
theorem shL_ok {o : Option (List D × Env)} {f : List D → RV} {C : RV → Env → Hp → Hp → Prop} (k : Kont X W z G₀ B G σ (shL o f) C) : ∃ ds δ', o = some (ds, δ') ∧ ds.length ≤ big ∧ Kont X W z G₀ B G σ (.ok (f ds) δ') C := by
  cases o with
  | none => exact k.elim
  | some q =>
    obtain ⟨ds, δ'⟩ := q
    unfold shL at k
    simp only at k
    split at k
    · exact ⟨ds, δ', rfl, by assumption, k⟩
    · exact k.elim
theorem de_tup {es : List Expr} {k' : Nat} {pos : Pos} {ts : Env → Res (List RV)} (hp : (es.all plainE) = true) (hs : DEs X es ts) : DE X (.Tuple es k' pos) (fun δ => (ts δ).bind fun rs δ1 => shL (frzs δ1 rs) fun ds => .sh (.tuple ds)) := by
  refine ⟨fun W z G₀ B tk pins s σ G H δ Q I R k => ?_⟩
  refine wpAny_Tuple_spliced (wpL_spliced pos hp (wpL_mono (hs.go tk I R k) fun us s1 ⟨vs, rs, δ1, G1, H1, I1, R1, rv, hv, k1⟩ => ?_))
  obtain ⟨ds, δ2, c, hz, k2⟩ := shL_ok k1
  obtain ⟨G2, R2, s2, hr⟩ := R1.frzs hv c
  have hl := hr.length
  have hl2 := rv.length
  have hz' : vs.length ≤ sizeLine := by rw [← hl, sizeLine_eq]; exact hz
  refine ⟨by rw [← hl2]; exact hz', ?_⟩
  have e1 : Ext G2 H1 (upd G2 s1.heap.objs.size (.frz (tO us) (.tup vs))) (upd H1 s1.heap.objs.size (.frz (tO us) (.tup vs))) := Ext.newSh R2.gh I1.fresh
  exact k2 _ _ (R2.ext e1) (s2.trans e1.gg) _ _ (.ref s1.heap.objs.size) (tup_laid (tk := s1.toks) I1 rv hz') rfl ⟨_, vs, _, rfl, upd_same, rfl, by rw [hl]; exact hz', hr.mono e1.gg⟩
theorem de_lst {es : List Expr} {pos : Pos} {ts : Env → Res (List RV)} (hp : (es.all plainE) = true) (hs : DEs X es ts) : DE X (.List es pos) (fun δ => (ts δ).bind fun rs δ1 => shL (frzs δ1 rs) fun ds => .ow (.list ds)) := by
  refine ⟨fun W z G₀ B tk pins s σ G H δ Q I R k => ?_⟩
  refine wpAny_List_spliced (wpL_spliced pos hp (wpL_mono (hs.go tk I R k) fun us s1 ⟨vs, rs, δ1, G1, H1, I1, R1, rv, hv, k1⟩ => ?_))
  obtain ⟨ds, δ2, c, hz, k2⟩ := shL_ok k1
  obtain ⟨G2, R2, s2, hr⟩ := R1.frzs hv c
  have hl := hr.length
  have hl2 := rv.length
  have hz' : vs.length ≤ sizeLine := by rw [← hl, sizeLine_eq]; exact hz
  refine ⟨by rw [← hl2]; exact hz', ?_⟩
  have e1 : Ext G2 H1 G2 (upd H1 s1.heap.objs.size (.lst vs)) := Ext.new1 R2.gh I1.fresh
  have n : NewR X.K X.w G2 H1 (upd H1 s1.heap.objs.size (.lst vs)) (.ref s1.heap.objs.size) (.ow (.list ds)) := ⟨_, _, rfl, I1.fresh, R2.gh.free I1.fresh, upd_same, vs, rfl, by rw [hl]; exact hz', hr⟩
  exact k2 _ _ (R2.ext e1) (s2.trans e1.gg) _ _ (.ref s1.heap.objs.size) (I1.lnew (t' := s1.toks) rv hz') rfl (n.rv R2)
end
end DL
set_option Elab.async false
set_option linter.all false
set_option maxRecDepth 100000
set_option maxHeartbeats 1000000
/-! Layer D, part I: calls of defs. -/
namespace DL
open PySem PySem.Spec PyProof.Rows L2

/-- what a def promises -/
def spF (K : PySem.W.Frag) (w : World) (mg : Str → Option Value) (np : Nat) (f : Fn) : Sp := fun vs H Q E => ∃ G ds, ds.length = np ∧ Same G H ∧ Rps K w G ds vs ∧ match f ds with
  | .ok r => ∀ v G' H', Same H H' → Same G G' → Same G' H' → (∀ a, H a ≠ none → G' a = G a) → NewR K w G' H H' v r → Q v H'
  | .exc c => ∀ H', Same H H' → E (clsV mg c) none H'
  | .bad => False
/-- .. that changes its first argument -/
def spFI (K : PySem.W.Frag) (w : World) (mg : Str → Option Value) (np : Nat) (f : FnI) : Sp := fun vs H Q E => ∃ G p o d0 ds xs, vs = .ref p :: xs ∧ ds.length + 1 = np ∧ Same G H ∧ H p = some o ∧ G p = none ∧ ObOk K w G p o d0 ∧ Rps K w G ds xs ∧ match f d0 ds with
  | .ok r d1 => ∀ v G' H' o', (∀ a u, a ≠ p → H a = some u → H' a = some u) → H' p = some o' → G' p = none → ObOk K w G' p o' d1 → Same G G' → Same G' H' → (∀ a, H a ≠ none → G' a = G a) → NewR K w G' H H' v r → Q v H'
  | .exc c d1 => ∀ G' H' o', (∀ a u, a ≠ p → H a = some u → H' a = some u) → H' p = some o' → G' p = none → ObOk K w G' p o' d1 → Same G G' → Same G' H' → (∀ a, H a ≠ none → G' a = G a) → E (clsV mg c) none H'
  | .bad => False
theorem spF_len {K w mg np f} : ∀ vs H Q E, spF K w mg np f vs H Q E → vs.length = np := fun vs H Q E ⟨G, ds, h1, _, h3, _⟩ => by rw [← h3.length]; exact h1
theorem spFI_len {K w mg np f} : ∀ vs H Q E, spFI K w mg np f vs H Q E → vs.length = np := fun vs H Q E ⟨G, p, o, d0, ds, xs, e, h1, _, _, _, _, h3, _⟩ => by
  rw [e, List.length_cons, ← h3.length]; exact h1
structure FnAt (X : Cx) (k : Nat) (x : Str) (sp : Sp) : Prop where
  ok : ∃ addr fd ps, FnOk X.prog X.w X.K X.mg X.base (L2.CX X.prog X.w) k addr fd ps sp ∧ X.mg x = some (.ref addr) ∧ PySem.W.keepIn X.K (.ref addr) = true ∧ Binds X.K fd ps []
abbrev CallOk (X : Cx) (k : Nat) (x : Str) (f : Fn) : Prop := ∃ np, FnAt X k x (spF X.K X.w X.mg np f) ∧ ∀ ds, ds.length ≠ np → f ds = .bad
abbrev CallOkI (X : Cx) (k : Nat) (x : Str) (f : FnI) : Prop := ∃ np, FnAt X k x (spFI X.K X.w X.mg np f) ∧ ∀ d0 ds, ds.length + 1 ≠ np → f d0 ds = .bad
theorem FnAt.mono {X : Cx} {j k : Nat} {x : Str} {sp : Sp} (F : FnAt X j x sp) (h : j ≤ k) : FnAt X k x sp := by
  obtain ⟨addr, fd, ps, h1, h2⟩ := F.ok
  exact ⟨addr, fd, ps, h1.mono h, h2⟩

section
variable {X : Cx} {W : WX} {z : Option Addr} {G₀ B G G' H H' : Hp} {σ : L2.St} {δ δ' : Env} {pins : List (Addr × Obj)} {s : Shared}
theorem wpL_call {x : Str} {k : Nat} {sp : Sp} {e : Expr} {es : List Expr} {p pos : Pos} {Q : Value → Shared → Prop} {PQ : List Value → Shared → Prop} (F : FnAt X k x sp) (hr : Room k X.A) (hg : Gl X x) (hd : (x == ("__debug__" : Str)) = false) (hp : ((e :: es).all plainE) = true) (I : Inv X pins σ H s) (tk : Takes X W)
    (h : wpL X (e :: es) PQ s) (fin : ∀ us s1, PQ us s1 → ∃ H1 vs QV, Inv X pins σ H1 s1 ∧ Vals vs us ∧ sp vs H1 QV (WE W σ) ∧ ∀ u s2, EP X pins σ QV u s2 → Q u s2) : wpAny (model X.prog X.w) X.A (eval (.Call (.Name x p) (e :: es) [] pos) X.env) Q X.xe s := by
  obtain ⟨addr, fd, ps, hF, hm, hk, hb⟩ := F.ok
  have hp' := hp
  rw [List.all_cons, Bool.and_eq_true] at hp'
  refine wpAny_Call_Name_kw (ld_glob I hg hm ?_ hd)
  refine PySem.W.callWith_K (h₀ := X.base) I.ok.mod.kin hk (wpL_spliced pos hp (wpL_mono h fun us s1 hq => ?_)) (star_cons hp'.1 _ _) (star_any pos _ hp'.2)
  obtain ⟨H1, vs, QV, I1, rv, hsp, hQ⟩ := fin us s1 hq
  refine ⟨I1.kIn, thn (run_fnSD (E := WE W) (dvs := []) hF hr hb .nil (passAt tk σ) I1 rv (by rw [List.append_nil]; exact hsp)) hQ⟩
theorem NewR.scalar {K : PySem.W.Frag} {w : World} {G' H H' : Hp} {v : V} {d : D} (n : NewR K w G' H H' v (.sh d)) (h : scalar d = true) : ∀ G, Rp K w G d v := fun G => by
  have n : Rp K w G' d v := n
  cases d <;> first | exact n | cases h
def datS : Sl → Option D
  | .non => none
  | .sh d => some d
  | .ow d => some d
  | .io d => some d
theorem dats_frzs : ∀ {rs : List RV} {δ δ' : Env} {ds es : List D}, dats δ rs = some ds → frzs δ rs = some (es, δ') → es = ds := by
  have one : ∀ {r : RV} {δ δ' : Env} {d e : D}, dat δ r = some d → frz δ r = some (e, δ') → e = d := fun {r δ δ' d e} h1 h2 => by
    cases r with
    | sh d' => cases h1; cases h2; rfl
    | ow d' => cases h1; cases h2; rfl
    | br i =>
      cases c : getS δ i with
      | non => simp only [dat, c] at h1; cases h1
      | sh d' => simp only [dat, c] at h1; simp only [frz, c] at h2; cases h1; cases h2; rfl
      | ow d' => simp only [dat, c] at h1; simp only [frz, c] at h2; cases h1; cases h2; rfl
      | io d' => simp only [frz, c] at h2; cases h2
  have stay : ∀ {r r2 : RV} {δ δ' : Env} {e : D}, frz δ r = some (e, δ') → dat δ' r2 = dat δ r2 := fun {r r2 δ δ' e} h => by
    cases r with
    | sh d' => cases h; rfl
    | ow d' => cases h; rfl
    | br i =>
      cases c : getS δ i with
      | non => simp only [frz, c] at h; cases h
      | sh d' => simp only [frz, c] at h; cases h; rfl
      | io d' => simp only [frz, c] at h; cases h
      | ow d' =>
        simp only [frz, c] at h; cases h
        cases r2 with
        | sh _ => rfl
        | ow _ => rfl
        | br j =>
          show datS (getS (δ.set i (.sh e)) j) = datS (getS δ j)
          rw [getS_set]
          by_cases q : i = j ∧ i < δ.length
          · rw [if_pos q, ← q.1, c]; rfl
          · rw [if_neg q]
  have stays : ∀ {rs : List RV} {r : RV} {δ δ' : Env} {e : D}, frz δ r = some (e, δ') → dats δ' rs = dats δ rs := by
    intro rs
    induction rs with
    | nil => intros; rfl
    | cons r2 rs ih =>
      intro r δ δ' e h
      unfold dats
      rw [stay h, ih h]
  intro rs
  induction rs with
  | nil => intro δ δ' ds es h1 h2; cases h1; cases h2; rfl
  | cons r rs ih =>
    intro δ δ' ds es h1 h2
    unfold dats at h1
    unfold frzs at h2
    cases c : dat δ r with
    | none => rw [c] at h1; cases h1
    | some d =>
      rw [c] at h1
      cases c2 : dats δ rs with
      | none => rw [c2] at h1; cases h1
      | some ds' =>
        rw [c2] at h1; cases h1
        cases c3 : frz δ r with
        | none => rw [c3] at h2; cases h2
        | some q =>
          obtain ⟨e, δ1⟩ := q
          rw [c3] at h2
          cases c4 : frzs δ1 rs with
          | none => simp only [c4] at h2; cases h2
          | some q2 =>
            obtain ⟨es', δ2⟩ := q2
            simp only [c4] at h2; cases h2
            rw [one c c3, ih (by rw [stays c3]; exact c2) c4]
/-- the arguments, frozen for the callee (the caller may go on owning them) -/
theorem RS.lend : ∀ {rs : List RV} {vs : List V} {ds : List D} {G : Hp}, RS X.K X.w z G₀ B G H σ δ → HVsOk X.K X.w G σ vs rs → dats δ rs = some ds → ∃ G', Same G G' ∧ Same G' H ∧ (∀ a, G' a ≠ none → G a ≠ none ∨ H a ≠ none) ∧ Rps X.K X.w G' ds vs
  | [], [], ds, G, R, _, e => by cases e; exact ⟨G, Same.refl _, R.gh, fun a h => .inl h, rfl⟩
  | r :: rs, v :: vs, ds, G, R, h, e => by
    unfold dats at e
    cases c : dat δ r with
    | none => rw [c] at e; cases e
    | some d =>
      rw [c] at e
      cases c2 : dats δ rs with
      | none => rw [c2] at e; cases e
      | some ds' =>
        rw [c2] at e; cases e
        obtain ⟨G1, s1, g1, n1, p1⟩ := RS.lend R h.2 c2
        rcases R.read h.1 c with q | ⟨p, o, rfl, hp, ok⟩
        · exact ⟨G1, s1, g1, n1, v, vs, rfl, q.mono s1, p1⟩
        · by_cases hG : G1 p = none
          · have sg : Same G1 (upd G1 p o) := fun a u q => by rw [upd_ne (ne_of_none q hG)]; exact q
            refine ⟨upd G1 p o, s1.trans sg, fun a u q => ?_, fun a q => ?_, .ref p, vs, rfl, (ok.mono s1).rp hG, p1.mono sg⟩
            · by_cases w : a = p
              · subst w; rw [upd_same] at q; cases q; exact hp
              · rw [upd_ne w] at q; exact g1 a u q
            · by_cases w : a = p
              · subst w; exact .inr (by rw [hp]; simp)
              · rw [upd_ne w] at q; exact n1 a q
          · obtain ⟨u, hu⟩ := Option.ne_none_iff_exists'.mp hG
            have : u = o := by have := g1 p u hu; rw [hp] at this; cases this; rfl
            subst this
            refine ⟨G1, s1, g1, n1, .ref p, vs, rfl, ?_, p1⟩
            have ok1 := ok.mono s1
            cases d with
            | list ds => obtain ⟨xs, rfl, h2, h3⟩ := ok1; exact ⟨p, xs, rfl, .inl (.inl hu), h2, h3⟩
            | dict kvs => obtain ⟨xs, rfl, h2, h3⟩ := ok1; exact ⟨p, xs, rfl, hu, h2, h3⟩
            | _ => exact ok1.elim
  | [], _ :: _, _, _, _, h, _ => h.elim
  | _ :: _, [], _, _, _, h, _ => h.elim
theorem de_call {x : Str} {f : Fn} {k : Nat} {e : Expr} {es : List Expr} {p pos : Pos} {ts : Env → Res (List RV)} (F : CallOk X k x f) (hr : Room k X.A) (hg : Gl X x) (hd : (x == ("__debug__" : Str)) = false) (hp : ((e :: es).all plainE) = true) (hs : DEs X (e :: es) ts) :
    DE X (.Call (.Name x p) (e :: es) [] pos) (fun δ => (ts δ).bind fun rs δ1 => eCall f rs δ1) := by
  refine ⟨fun W z G₀ B tk pins s σ G H δ Q I R kk => ?_⟩
  obtain ⟨np, F, Fbad⟩ := F
  obtain ⟨addr, fd, ps, hF, hF2⟩ := id F.ok
  refine wpL_call F hr hg hd hp I tk (hs.go tk I R kk) fun us s1 ⟨vs, rs, δ1, G1, H1, I1, R1, rv, hv, k1⟩ => ?_
  replace k1 : Kont X W z G₀ B G1 σ (eCall f rs δ1) (EQ X pins B σ Q) := k1
  unfold eCall at k1
  cases c : dats δ1 rs with
  | none => rw [c] at k1; exact k1.elim
  | some ds =>
    simp only [c] at k1
    by_cases hlen : ds.length = np
    · cases c2 : f ds with
      | bad => simp only [c2] at k1; exact k1.elim
      | exc cl =>
        simp only [c2] at k1
        obtain ⟨G2, s2, g2, n2, pr⟩ := R1.lend hv c
        refine ⟨H1, vs, fun v H' => False, I1, rv, ⟨G2, ds, hlen, g2, pr, ?_⟩, fun u s2 ⟨v, H2, I2, ru, q⟩ => q.elim⟩
        rw [c2]
        intro H' sh
        exact k1 G1 H' (R1.ext ⟨sh, Same.refl _, R1.gh.trans sh, fun a h => absurd rfl h⟩) (Same.refl _)
      | ok r =>
        cases r with
        | br i => simp only [c2] at k1; exact k1.elim
        | sh d =>
          simp only [c2] at k1
          by_cases hsc : scalar d = true
          · rw [if_pos hsc] at k1
            obtain ⟨G2, s2, g2, n2, pr⟩ := R1.lend hv c
            refine ⟨H1, vs, fun v H' => Same H1 H' ∧ ∀ G, Rp X.K X.w G d v, I1, rv, ⟨G2, ds, hlen, g2, pr, ?_⟩, fun u s2 ⟨v, H2, I2, ru, sh, q⟩ => ?_⟩
            · rw [c2]
              intro v G' H' sh sg gh _ n
              exact ⟨sh, n.scalar hsc⟩
            · exact k1 G1 H2 (R1.ext ⟨sh, Same.refl _, R1.gh.trans sh, fun a h => absurd rfl h⟩) (Same.refl _) u s2 v I2 ru (q G1)
          · rw [if_neg hsc] at k1
            cases c3 : frzs δ1 rs with
            | none => simp only [c3] at k1; exact k1.elim
            | some q =>
              obtain ⟨es', δ2⟩ := q
              simp only [c3] at k1
              have := dats_frzs c c3
              subst this
              obtain ⟨G2, R2, s2, pr⟩ := R1.frzs hv c3
              refine ⟨H1, vs, fun v H' => ∃ G', Same H1 H' ∧ Same G2 G' ∧ Same G' H' ∧ (∀ a, H1 a ≠ none → G' a = G2 a) ∧ NewR X.K X.w G' H1 H' v (.sh d), I1, rv, ⟨G2, es', hlen, R2.gh, pr, ?_⟩, fun u s2' ⟨v, H2, I2, ru, G', sh, sg, gh, nw, n⟩ => ?_⟩
              · rw [c2]
                intro v G' H' sh sg gh nw n
                exact ⟨G', sh, sg, gh, nw, n⟩
              · have e1 : Ext G2 H1 G' H2 := ⟨sh, sg, gh, fun a h => Classical.byContradiction fun q => h (nw a q)⟩
                exact k1 G' H2 (R2.ext e1) (s2.trans sg) u s2' v I2 ru (n.rv R2)
        | ow d =>
          simp only [c2] at k1
          cases c3 : frzs δ1 rs with
          | none => simp only [c3] at k1; exact k1.elim
          | some q =>
            obtain ⟨es', δ2⟩ := q
            simp only [c3] at k1
            have := dats_frzs c c3
            subst this
            obtain ⟨G2, R2, s2, pr⟩ := R1.frzs hv c3
            refine ⟨H1, vs, fun v H' => ∃ G', Same H1 H' ∧ Same G2 G' ∧ Same G' H' ∧ (∀ a, H1 a ≠ none → G' a = G2 a) ∧ NewR X.K X.w G' H1 H' v (.ow d), I1, rv, ⟨G2, es', hlen, R2.gh, pr, ?_⟩, fun u s2' ⟨v, H2, I2, ru, G', sh, sg, gh, nw, n⟩ => ?_⟩
            · rw [c2]
              intro v G' H' sh sg gh nw n
              exact ⟨G', sh, sg, gh, nw, n⟩
            · have e1 : Ext G2 H1 G' H2 := ⟨sh, sg, gh, fun a h => Classical.byContradiction fun q => h (nw a q)⟩
              exact k1 G' H2 (R2.ext e1) (s2.trans sg) u s2' v I2 ru (n.rv R2)
    · rw [Fbad ds hlen] at k1; exact k1.elim
/-- a def that changes slot i's thing -/
theorem RS.callI {v : V} {G1 H1 G' H' : Hp} {i : Nat} {p : Addr} {o o' : HO} {d0 d1 : D} {r : RV} {δ2 : Env} (R : RS X.K X.w z G₀ B G1 H1 σ δ) (hs : slotV σ i = some (.ref p)) (ho : isOwn (getS δ i) = true) (hp : H1 p = some o) (hn : G1 p = none) (hput : putS δ i d1 = some δ2)
    (a1 : ∀ a u, a ≠ p → H1 a = some u → H' a = some u) (a2 : H' p = some o') (a3 : G' p = none) (a4 : ObOk X.K X.w G' p o' d1) (a5 : Same G1 G') (a6 : Same G' H') (a7 : ∀ a, H1 a ≠ none → G' a = G1 a) : RS X.K X.w z G₀ B G' H' σ δ2 ∧ (NewR X.K X.w G' H1 H' v r → RVOk X.K X.w B G' H' σ δ2 v r) := by
  have e1 : Ext G1 H1 G' (fun a => if a = p then H1 p else H' a) := by
    refine ⟨fun a u q => ?_, a5, fun a u q => ?_, fun a h => ?_⟩
    · by_cases w : a = p
      · simp only [w, if_true]; rw [← w]; exact q
      · simp only [w, if_false]; exact a1 a u w q
    · by_cases w : a = p
      · subst w; rw [a3] at q; cases q
      · simp only [w, if_false]; exact a6 a u q
    · by_cases q : H1 a = none
      · exact q
      · exact absurd (a7 a q) h
  have R1 := R.ext e1
  have R2 := R1.put (o' := o') (d := d1) hs ho a4 hput
  have eH : upd (fun a => if a = p then H1 p else H' a) p o' = H' := by
    funext a
    by_cases w : a = p
    · subst w; rw [upd_same, a2]
    · rw [upd_ne w]; simp only [w, if_false]
  rw [eH] at R2
  refine ⟨R2, fun n => ?_⟩
  have ow : ∀ j, isOwn (getS δ2 j) = true → isOwn (getS δ j) = true := fun j h => by
    unfold putS at hput
    cases e : getS δ i with
    | non => rw [e] at hput; cases hput
    | sh d' => rw [e] at hput; cases hput
    | ow d' =>
      rw [e] at hput; cases hput
      rw [getS_set] at h
      by_cases q : i = j ∧ i < δ.length
      · rw [← q.1]; exact ho
      · rw [if_neg q] at h; exact h
    | io d' =>
      rw [e] at hput; cases hput
      rw [getS_set] at h
      by_cases q : i = j ∧ i < δ.length
      · rw [← q.1]; exact ho
      · rw [if_neg q] at h; exact h
  cases r with
  | sh d => exact n
  | br i => exact n.elim
  | ow d =>
    obtain ⟨p1, o1, rfl, h1, h2, h3, h4⟩ := n
    refine ⟨p1, o1, rfl, R.bh.free h1, h2, h3, h4, fun j hj hsj => ?_⟩
    have q := R.slot j
    have hj := ow j hj
    cases c : getS δ j with
    | non => rw [c] at hj; cases hj
    | sh d' => rw [c] at hj; cases hj
    | ow d' =>
      rw [c] at q
      obtain ⟨p', o', h5, _, _, h6, _⟩ := q
      rw [hsj] at h5; cases h5
      rw [h1] at h6; cases h6
    | io d' =>
      rw [c] at q
      obtain ⟨_, p', o', _, h5, _, _, h6, _⟩ := q
      rw [hsj] at h5; cases h5
      rw [h1] at h6; cases h6
theorem needOwn_ok {α : Type} {i : Nat} {r : Res α} {C : α → Env → Hp → Hp → Prop} (k : Kont X W z G₀ B G σ (needOwn δ i r) C) : isOwn (getS δ i) = true ∧ Kont X W z G₀ B G σ r C := by
  unfold needOwn at k
  split at k
  · exact ⟨by assumption, k⟩
  · exact k.elim
theorem RS.owned {i : Nat} (R : RS X.K X.w z G₀ B G H σ δ) (h : isOwn (getS δ i) = true) : ∃ d p o, ownS δ i = some d ∧ slotV σ i = some (.ref p) ∧ B p = none ∧ G p = none ∧ H p = some o ∧ ObOk X.K X.w G p o d := by
  cases c : getS δ i with
  | non => rw [c] at h; cases h
  | sh d => rw [c] at h; cases h
  | ow d =>
    have q : ownS δ i = some d := by unfold ownS; rw [c]
    obtain ⟨p, o, h1⟩ := R.own q
    exact ⟨d, p, o, q, h1⟩
  | io d =>
    have q : ownS δ i = some d := by unfold ownS; rw [c]
    obtain ⟨p, o, h1⟩ := R.own q
    exact ⟨d, p, o, q, h1⟩
theorem ownS_own {i : Nat} {d : D} (h : ownS δ i = some d) : isOwn (getS δ i) = true := by
  unfold ownS at h
  cases c : getS δ i with
  | non => rw [c] at h; cases h
  | sh d => rw [c] at h; cases h
  | ow d => rfl
  | io d => rfl
/-- the name of an owned slot, read -/
theorem own_name {i : Nat} {x : Str} {pos : Pos} {p : Addr} {Q : Value → Shared → Prop} (hN : X.N[i]? = some x) (hv : Vis X.env.scope x) (hd : (x == ("__debug__" : Str)) = false) (hcd : (x == ("__classdict__" : Str)) = false) (I : Inv X pins σ H s) (hs : slotV σ i = some (.ref p))
    (h : ∀ s', Inv X pins σ H s' → Q (.ref p) s') : wpAny (model X.prog X.w) X.A (eval (.Name x pos) X.env) Q X.xe s := by
  have e : σ[i]? = some (some (.ref p)) := by
    unfold slotV at hs
    rw [List.getD_eq_getElem?_getD] at hs
    cases q : σ[i]? with
    | none => rw [q] at hs; cases hs
    | some o => rw [q] at hs; cases hs; rfl
  exact thn ((pe_var (i := i) hN hv hd hcd).run pins s σ H (fun v' H' => v' = .ref p ∧ H' = H) I ⟨_, e, rfl, rfl⟩) fun u s1 ⟨v', H', I1, r1, e1, e2⟩ => by
    subst e1 e2
    cases r1
    exact h s1 I1
theorem de_callI {x y : Str} {f : FnI} {k i : Nat} {es : List Expr} {p p' pos : Pos} {ts : Env → Res (List RV)} (F : CallOkI X k x f) (hr : Room k X.A) (hg : Gl X x) (hd : (x == ("__debug__" : Str)) = false) (hN : X.N[i]? = some y) (hv : Vis X.env.scope y) (hdy : (y == ("__debug__" : Str)) = false) (hcd : (y == ("__classdict__" : Str)) = false)
    (hp : (es.all plainE) = true) (hs : DEs X es ts) :
    DE X (.Call (.Name x p) (.Name y p' :: es) [] pos) (fun δ => needOwn δ i ((ts δ).bind fun rs δ1 => eCallI f i rs δ1)) := by
  refine ⟨fun W z G₀ B tk pins s σ G H δ Q I R kk => ?_⟩
  obtain ⟨np, F, Fbad⟩ := F
  obtain ⟨hi, kk⟩ := needOwn_ok kk
  obtain ⟨_, pa, _, _, hs0, _⟩ := R.owned hi
  refine wpL_call (PQ := fun us s1 => ∃ us', us = .ref pa :: us' ∧ GoP X W z G₀ B pins σ (fun rs δ1 => eCallI f i rs δ1) (EQ X pins B σ Q) us' s1) F hr hg hd (by rw [List.all_cons, hp]; rfl) I tk ?_ ?_
  · refine own_name hN hv hdy hcd I hs0 fun s' I' => ?_
    exact wpL_mono (hs.go tk I' R kk) fun us s1 h => ⟨us, rfl, h⟩
  · rintro us0 s1 ⟨us, rfl, vs, rs, δ1, G1, H1, I1, R1, rv, hv, k1⟩
    replace k1 : Kont X W z G₀ B G1 σ (eCallI f i rs δ1) (EQ X pins B σ Q) := k1
    unfold eCallI at k1
    cases c : frzs δ1 rs with
    | none => rw [c] at k1; exact k1.elim
    | some q =>
      obtain ⟨ds, δ2⟩ := q
      simp only [c] at k1
      obtain ⟨G2, R2, s2, pr⟩ := R1.frzs hv c
      cases c1 : ownS δ2 i with
      | none => simp only [c1] at k1; exact k1.elim
      | some d0 =>
        simp only [c1] at k1
        obtain ⟨p1, o, h1, h2, h3, h4, h5⟩ := R2.own c1
        rw [hs0] at h1; cases h1
        by_cases hlen : ds.length + 1 = np
        · cases c2 : f d0 ds with
          | bad => simp only [c2] at k1; exact k1.elim
          | exc cl d1 =>
            simp only [c2] at k1
            cases c3 : putS δ2 i d1 with
            | none => simp only [c3] at k1; exact k1.elim
            | some δ3 =>
              simp only [c3] at k1
              refine ⟨H1, .ref pa :: vs, fun v H' => False, I1, .cons rfl rv, ⟨G2, pa, o, d0, ds, vs, rfl, hlen, R2.gh, h4, h3, h5, pr, ?_⟩, fun u s2 ⟨v, H2, I2, ru, q⟩ => q.elim⟩
              rw [c2]
              intro G' H' o' a1 a2 a3 a4 a5 a6 a7
              exact k1 G' H' (R2.callI (v := .non) (d0 := d0) (r := .sh .none) hs0 (ownS_own c1) h4 h3 c3 a1 a2 a3 a4 a5 a6 a7).1 (s2.trans a5)
          | ok r d1 =>
            have go : ∀ {δ3 : Env}, putS δ2 i d1 = some δ3 → Kont X W z G₀ B G1 σ (.ok r δ3) (EQ X pins B σ Q) → ∃ H1 vs QV, Inv X pins σ H1 s1 ∧ Vals vs (.ref pa :: us) ∧ spFI X.K X.w X.mg np f vs H1 QV (WE W σ) ∧ ∀ u s2, EP X pins σ QV u s2 → Q u s2 := fun {δ3} c3 k1 => by
              refine ⟨H1, .ref pa :: vs, fun v H' => ∃ G' o', (∀ a u, a ≠ pa → H1 a = some u → H' a = some u) ∧ H' pa = some o' ∧ G' pa = none ∧ ObOk X.K X.w G' pa o' d1 ∧ Same G2 G' ∧ Same G' H' ∧ (∀ a, H1 a ≠ none → G' a = G2 a) ∧ NewR X.K X.w G' H1 H' v r, I1, .cons rfl rv,
                ⟨G2, pa, o, d0, ds, vs, rfl, hlen, R2.gh, h4, h3, h5, pr, ?_⟩, ?_⟩
              · rw [c2]
                intro v G' H' o' a1 a2 a3 a4 a5 a6 a7 n
                exact ⟨G', o', a1, a2, a3, a4, a5, a6, a7, n⟩
              · rintro u s2' ⟨v, H2, I2, ru, G', o', a1, a2, a3, a4, a5, a6, a7, n⟩
                obtain ⟨R3, nw⟩ := R2.callI (v := v) (d0 := d0) (r := r) hs0 (ownS_own c1) h4 h3 c3 a1 a2 a3 a4 a5 a6 a7
                exact k1 G' H2 R3 (s2.trans a5) u s2' v I2 ru (nw n)
            cases r with
            | br j => simp only [c2] at k1; exact k1.elim
            | sh d =>
              simp only [c2] at k1
              cases c3 : putS δ2 i d1 with
              | none => simp only [c3] at k1; exact k1.elim
              | some δ3 => simp only [c3] at k1; exact go c3 k1
            | ow d =>
              simp only [c2] at k1
              cases c3 : putS δ2 i d1 with
              | none => simp only [c3] at k1; exact k1.elim
              | some δ3 => simp only [c3] at k1; exact go c3 k1
        · rw [Fbad d0 ds hlen] at k1; exact k1.elim
end
end DL
set_option Elab.async false
set_option linter.all false
set_option maxRecDepth 100000
set_option maxHeartbeats 1000000
/-! Layer D, part J: targets, what is walked, comprehensions. -/
namespace DL
open PySem PySem.Spec PyProof.Rows L2

/-! ### as transformers -/
abbrev noW : WX := fun _ _ _ _ => False
theorem takes_no (X : Cx) : Takes X noW := fun _ _ ⟨_, _, _, _, _, _, _, _, _, _, _, _, _, _, _, _, w⟩ => w.elim
def tD (X : Cx) (t : Ev) : TE := fun σ H Q => ∃ z G₀ B G δ, RS X.K X.w z G₀ B G H σ δ ∧ Kont X noW z G₀ B G σ (t δ) fun r δ' G' H' => ∀ v, RVOk X.K X.w B G' H' σ δ' v r → Q v H'
def tDT (X : Cx) (t : Env → Res Bool) : TT := fun σ H Q => ∃ z G₀ B G δ, RS X.K X.w z G₀ B G H σ δ ∧ Kont X noW z G₀ B G σ (t δ) fun b δ' G' H' => Q b H'
theorem DE.pe {X : Cx} {e : Expr} {t : Ev} (h : DE X e t) : PE X e (tD X t) := ⟨fun pins s σ H Q I ⟨z, G₀, B, G, δ, R, k⟩ =>
  h.run noW z G₀ B (takes_no X) pins s σ G H δ _ I R (k.imp fun r δ' G' H' R' s' q u s1 v I1 rv ok => ⟨v, H', I1, rv, q v ok⟩)⟩
theorem DT.pt {X : Cx} {e : Expr} {t : Env → Res Bool} (h : DT X e t) : PT X e (tDT X t) := ⟨fun pins s σ H Q I ⟨z, G₀, B, G, δ, R, k⟩ =>
  h.run noW z G₀ B (takes_no X) pins s σ G H δ _ I R (k.imp fun r δ' G' H' R' s' q s1 I1 => ⟨H', I1, q⟩)⟩

/-! ### targets -/
/-- an item that comes: data, or (to be taken apart at once) a pair that is not shared -/
def YOk (K : PySem.W.Frag) (w : World) (tp : Bool) (G H : Hp) (d : D) (x : V) : Prop :=
  Rp K w G d x ∨ (tp = true ∧ ∃ ds a xs, d = .tuple ds ∧ x = .ref a ∧ SqT K H a xs ∧ Rps K w G ds xs)
def SetIn (is : List Nat) (σ σ' : L2.St) : Prop := σ'.length = σ.length ∧ ∀ j, j ∉ is → σ'[j]? = σ[j]?
theorem SetIn.refl {is : List Nat} {σ : L2.St} : SetIn is σ σ := ⟨rfl, fun _ _ => rfl⟩
theorem SetIn.trans {is : List Nat} {σ σ' σ2 : L2.St} (a : SetIn is σ σ') (b : SetIn is σ' σ2) : SetIn is σ σ2 := ⟨b.1.trans a.1, fun j h => (b.2 j h).trans (a.2 j h)⟩
theorem SetIn.mono {is js : List Nat} {σ σ' : L2.St} (a : SetIn is σ σ') (h : ∀ i ∈ is, i ∈ js) : SetIn js σ σ' := ⟨a.1, fun j q => a.2 j fun z => q (h j z)⟩
theorem wipe_get : ∀ {vs : List Nat} {σ : L2.St} {j : Nat}, (wipe σ vs)[j]? = if j ∈ vs then (if j < σ.length then some none else none) else σ[j]?
  | [], σ, j => by simp [wipe]
  | v :: vs, σ, j => by
    unfold wipe
    rw [List.getElem?_set, L2.wipe_length]
    by_cases h : v = j
    · subst h
      by_cases h2 : v < σ.length
      · simp [h2]
      · simp [h2]
    · rw [if_neg h, wipe_get]
      have h' : ¬ j = v := fun e => h e.symm
      simp [h']
theorem SetIn.wipe {vs : List Nat} {σ σ' : L2.St} (h : SetIn vs σ σ') : L2.wipe σ' vs = L2.wipe σ vs := by
  apply List.ext_getElem?
  intro j
  rw [wipe_get, wipe_get, h.1]
  by_cases q : j ∈ vs
  · rw [if_pos q, if_pos q]
  · rw [if_neg q, if_neg q, h.2 j q]
theorem wipe_wipe {vs : List Nat} {σ : L2.St} : L2.wipe (L2.wipe σ vs) vs = L2.wipe σ vs := by
  apply List.ext_getElem?
  intro j
  rw [wipe_get, wipe_get, L2.wipe_length]
  by_cases q : j ∈ vs
  · rw [if_pos q, if_pos q]
  · rw [if_neg q, if_neg q]
structure DG (X : Cx) (tp : Bool) (is : List Nat) (tg : Expr) (t : D → Env → Option Env) : Prop where
  run : ∀ (z : Option Addr) (G₀ B : Hp) (pins : List (Addr × Obj)) (s : Shared) (σ : L2.St) (G H : Hp) (δ : Env) (x : V) (u : Value) (d : D) (δ' : Env) (Q : Shared → Prop), Inv X pins σ H s → RelV x u → RS X.K X.w z G₀ B G H σ δ → YOk X.K X.w tp G H d x → t d δ = some δ' →
    (∀ s' σ', Inv X pins σ' H s' → RS X.K X.w z G₀ B G H σ' δ' → SetIn is σ σ' → Q s') → wpAny (model X.prog X.w) X.A (assign tg X.env u) (fun _ s' => Q s') X.xe s
structure DGs (X : Cx) (is : List Nat) (tgs : List Expr) (t : List D → Env → Option Env) : Prop where
  run : ∀ (z : Option Addr) (G₀ B : Hp) (pins : List (Addr × Obj)) (s : Shared) (σ : L2.St) (G H : Hp) (δ : Env) (xs : List V) (us : List Value) (ds : List D) (δ' : Env) (Q : Shared → Prop), Inv X pins σ H s → Vals xs us → RS X.K X.w z G₀ B G H σ δ → Rps X.K X.w G ds xs → t ds δ = some δ' →
    (∀ s' σ', Inv X pins σ' H s' → RS X.K X.w z G₀ B G H σ' δ' → SetIn is σ σ' → Q s') → wpAny (model X.prog X.w) X.A (assignInOrder ((assignEach tgs X.env).map (·.2)) us) (fun _ s' => Q s') X.xe s
def gD (X : Cx) (tp : Bool) (is : List Nat) (t : D → Env → Option Env) : TG := fun v σ H Q => ∃ z G₀ B G δ d δ', RS X.K X.w z G₀ B G H σ δ ∧ YOk X.K X.w tp G H d v ∧ t d δ = some δ' ∧ ∀ σ', RS X.K X.w z G₀ B G H σ' δ' → SetIn is σ σ' → Q σ' H
theorem DG.pg {X : Cx} {tp : Bool} {is : List Nat} {tg : Expr} {t : D → Env → Option Env} (h : DG X tp is tg t) : PG X tg (gD X tp is t) := ⟨fun pins s σ H v u Q I r ⟨z, G₀, B, G, δ, d, δ', R, y, e, q⟩ =>
  h.run z G₀ B pins s σ G H δ v u d δ' _ I r R y e fun s' σ' I' R' st => ⟨σ', H, I', q σ' R' st⟩⟩
theorem YOk.mono {K : PySem.W.Frag} {w : World} {tp : Bool} {G G' H H' : Hp} {d : D} {x : V} (h : YOk K w tp G H d x) (e : Same G G') (f : Same H H') : YOk K w tp G' H' d x := by
  rcases h with h | ⟨h0, ds, a, xs, h1, h2, h3, h4⟩
  · exact .inl (h.mono e)
  · refine .inr ⟨h0, ds, a, xs, h1, h2, ?_, Rps.mono e h4⟩
    rcases h3 with (h3 | ⟨o, h3⟩) | h3
    · exact .inl (.inl (f _ _ h3))
    · exact .inl (.inr ⟨o, f _ _ h3⟩)
    · exact .inr h3
section
variable {X : Cx}
theorem setS_some {δ δ' : Env} {i : Nat} {x : Sl} (h : setS δ i x = some δ') : δ' = δ.set i x := by
  unfold setS at h
  split at h
  · cases h
  · split at h
    · cases h; rfl
    · cases h
theorem dg_name {i : Nat} {x : Str} {pos : Pos} (hN : X.N.Nodup) (hi : X.N[i]? = some x) (hx : Loc X.env.scope x) (hf : X.fn x = true ∨ X.env.scope.names.lookup x = some .local) : DG X false [i] (.Name x pos) (fun d δ => asg (.name i) d δ) := by
  refine ⟨fun z G₀ B pins s σ G H δ v u d δ' Q I r R y e q => ?_⟩
  replace e : setS δ i (.sh d) = some δ' := by rw [← e, asg]
  have e := setS_some e
  subst e
  rcases y with y | ⟨y, _⟩
  · refine thn ((pg_name (pos := pos) hN hi hx hf).run pins s σ H v u (fun σ' H' => σ' = σ.set i (some v) ∧ H' = H) I r ⟨rfl, rfl⟩) fun _ s' ⟨σ', H', I', e1, e2⟩ => ?_
    subst e1 e2
    refine q s' _ I' (R.setSh y) ⟨List.length_set, fun j hj => ?_⟩
    rw [List.getElem?_set]
    rw [if_neg (fun h => hj (by simp [h]))]
  · cases y
theorem DG.up {tp : Bool} {is : List Nat} {tg : Expr} {t : D → Env → Option Env} (h : DG X true is tg t) : DG X tp is tg t := ⟨fun z G₀ B pins s σ G H δ x u d δ' Q I r R y e q =>
  h.run z G₀ B pins s σ G H δ x u d δ' Q I r R (by rcases y with y | ⟨_, y⟩; exact .inl y; exact .inr ⟨rfl, y⟩) e q⟩
theorem DGs.nil : DGs X [] [] (fun ds δ => asgs .nil ds δ) := by
  refine ⟨fun z G₀ B pins s σ G H δ xs us ds δ' Q I r R y e q => ?_⟩
  cases ds with
  | nil =>
    cases y
    cases r
    replace e : some δ = some δ' := by rw [← e, asgs]
    cases e
    exact assignInOrder_nil (q s σ I R SetIn.refl)
  | cons d ds => rw [show asgs .nil (d :: ds) δ = none by unfold asgs; rfl] at e; cases e
def noStar : Expr → Bool
  | .Starred _ _ => false
  | _ => true
theorem each_cons {e : Expr} {es : List Expr} (h : noStar e = true) (env : PySem.Env) : assignEach (e :: es) env = (false, assign e env) :: assignEach es env := by
  cases e <;> first | rfl | cases h
theorem DGs.cons {e : Expr} {es : List Expr} {is js : List Nat} {t : Tg} {ts : Tgs} (hs : noStar e = true) (h1 : DG X false is e (fun d δ => asg t d δ)) (h2 : DGs X js es (fun ds δ => asgs ts ds δ)) : DGs X (is ++ js) (e :: es) (fun ds δ => asgs (.cons t ts) ds δ) := by
  refine ⟨fun z G₀ B pins s σ G H δ xs us ds δ' Q I r R y ee q => ?_⟩
  cases ds with
  | nil => rw [show asgs (.cons t ts) [] δ = none by unfold asgs; rfl] at ee; cases ee
  | cons d ds =>
    obtain ⟨x, xr, rfl, hx, hxs⟩ := y
    cases r with
    | cons r rr =>
      replace ee : (match asg t d δ with | none => none | some δ1 => asgs ts ds δ1) = some δ' := by rw [← ee, asgs] <;> rfl
      cases c : asg t d δ with
      | none => rw [c] at ee; cases ee
      | some δ1 =>
        rw [c] at ee
        rw [each_cons hs, List.map_cons]
        refine assignInOrder_cons (thn (h1.run z G₀ B pins s σ G H δ x _ d δ1 _ I r R (.inl hx) c fun s' σ' I' R' st => ?_) fun _ s1 h => h)
        exact h2.run z G₀ B pins s' σ' G H δ1 xr _ ds δ' Q I' rr R' hxs ee fun s2 σ2 I2 R2 st2 => q s2 σ2 I2 R2 ((st.mono fun i h => List.mem_append_left _ h).trans (st2.mono fun i h => List.mem_append_right _ h))
def tgsLen : Tgs → Nat
  | .nil => 0
  | .cons _ ts => tgsLen ts + 1
theorem asgs_len : ∀ {ts : Tgs} {ds : List D} {δ δ' : Env}, asgs ts ds δ = some δ' → ds.length = tgsLen ts
  | .nil, [], _, _, _ => rfl
  | .nil, _ :: _, δ, δ', h => by rw [show asgs .nil _ δ = none by unfold asgs; rfl] at h; cases h
  | .cons t ts, [], δ, δ', h => by rw [show asgs (.cons t ts) [] δ = none by unfold asgs; rfl] at h; cases h
  | .cons t ts, d :: ds, δ, δ', h => by
    replace h : (match asg t d δ with | none => none | some δ1 => asgs ts ds δ1) = some δ' := by rw [← h, asgs] <;> rfl
    cases c : asg t d δ with
    | none => rw [c] at h; cases h
    | some δ1 =>
      rw [c] at h
      rw [List.length_cons, asgs_len h]; rfl
theorem each_len : ∀ {es : List Expr} (env : PySem.Env), (assignEach es env).length = es.length
  | [], _ => rfl
  | e :: es, env => by
    cases e <;> (unfold assignEach; rw [List.length_cons, List.length_cons, each_len env])
theorem each_star : ∀ {es : List Expr} (env : PySem.Env), (es.all noStar) = true → (assignEach es env).findIdx? (·.1) = none
  | [], _, _ => rfl
  | e :: es, env, h => by
    rw [List.all_cons, Bool.and_eq_true] at h
    rw [each_cons h.1, List.findIdx?_cons]
    simp [each_star env h.2]
theorem dg_tup {es : List Expr} {k : Nat} {pos : Pos} {is : List Nat} {ts : Tgs} (hc : X.calm = true) (hn : tgsLen ts = es.length) (hst : (es.all noStar) = true) (h : DGs X is es (fun ds δ => asgs ts ds δ)) : DG X true is (.Tuple es k pos) (fun d δ => asg (.tup ts) d δ) := by
  refine ⟨fun z G₀ B pins s σ G H δ v u d δ' Q I r R y e q => ?_⟩
  have go : ∀ ds a xs, d = .tuple ds → v = .ref a → SqT X.K H a xs → Rps X.K X.w G ds xs → wpAny (model X.prog X.w) X.A (assign (.Tuple es k pos) X.env u) (fun _ s' => Q s') X.xe s := fun ds a xs e1 e2 hq hr => by
    subst e1 e2
    replace e : asgs ts ds δ = some δ' := by rw [← e, asg]
    cases r
    obtain ⟨its, rv, ht, hz⟩ := I.tuple hq
    have l1 := asgs_len e
    have l2 := hr.length
    have l3 := rv.length
    refine assign_Tuple_tuple (I.ok.hd hc) ht (by rw [each_len, List.size_toArray]; omega) (each_star _ hst) fun h' hx => ?_
    have I1 : Inv X pins σ H { s with heap := h' } := I.kept (t' := s.toks) fun b o e => hx b o (Nat.ne_of_lt (Heap.lt_size e)) e
    exact h.run z G₀ B pins _ σ G H δ xs _ ds δ' Q I1 (by simpa using rv) R hr e q
  rcases y with y | ⟨_, ds, a, xs, e1, e2, e3, e4⟩
  · cases d with
    | tuple ds =>
      obtain ⟨a, xs, o, e1, e2, e3, _, e5⟩ := y
      exact go ds a xs rfl e1 (.inl (.inr ⟨o, R.gh _ _ e2⟩)) e5
    | _ => rw [show asg (.tup ts) _ δ = none by unfold asg; rfl] at e; cases e
  · exact go ds a xs e1 e2 e3 e4
end

/-! ### what is walked -/
def ItD (K : PySem.W.Frag) (w : World) (tp : Bool) (G1 : Hp) (ds : List D) (J : It) : Prop := ∀ i G H, Same G1 G → Same G H → (i = ds.length → J.stop i H) ∧ ∀ d, ds[i]? = some d → J.go i H ∧ ∀ x H', J.yld i H x H' → ∃ G', Ext G H G' H' ∧ YOk K w tp G' H' d x
structure DI (X : Cx) (tp : Bool) (tg iter : Expr) (t : Env → Res (List D)) : Prop where
  run : ∀ (W : WX) (z : Option Addr) (G₀ B : Hp), Takes X W → ∀ (pins : List (Addr × Obj)) (s : Shared) (σ : L2.St) (G H : Hp) (δ : Env) (RR : It → Hp → Prop), Inv X pins σ H s → RS X.K X.w z G₀ B G H σ δ →
    Kont X W z G₀ B G σ (t δ) (fun ds _ G1 H1 => ∀ J, ItD X.K X.w tp G1 ds J → RR J H1) → wpAny (model X.prog X.w) X.A (eval iter X.env) (fun v s1 => wpAny (model X.prog X.w) X.A (pyIter v) (PIE X pins σ tg RR) X.xe s1) X.xe s
def iD (X : Cx) (tp : Bool) (t : Env → Res (List D)) : TI := fun σ H RR => ∃ W z G₀ B G δ, Takes X W ∧ RS X.K X.w z G₀ B G H σ δ ∧ Kont X W z G₀ B G σ (t δ) (fun ds _ G1 H1 => ∀ J, ItD X.K X.w tp G1 ds J → RR J H1)
theorem DI.pi {X : Cx} {tp : Bool} {tg iter : Expr} {t : Env → Res (List D)} (h : DI X tp tg iter t) : PI X tg iter (iD X tp t) := ⟨fun pins s σ H RR I ⟨W, z, G₀, B, G, δ, tk, R, k⟩ => h.run W z G₀ B tk pins s σ G H δ RR I R k⟩
theorem Same.sqT {K : PySem.W.Frag} {H H' : Hp} {a : Addr} {xs : List V} (f : Same H H') (h : SqT K H a xs) : SqT K H' a xs := by
  rcases h with (h | ⟨o, h⟩) | h
  · exact .inl (.inl (f _ _ h))
  · exact .inl (.inr ⟨o, f _ _ h⟩)
  · exact .inr h
section
variable {X : Cx} {tp : Bool} {W : WX} {z : Option Addr} {G₀ B G H : Hp} {σ : L2.St} {δ : Env} {pins : List (Addr × Obj)} {s : Shared}
theorem itD_list {K : PySem.W.Frag} {w : World} {G1 : Hp} {ds : List D} {a : Addr} {xs : List V} (h : SqL K G1 a xs) (hr : Rps K w G1 ds xs) : ItD K w tp G1 ds (Itl K a) := by
  intro i G H s1 s2
  have q : SqL K H a xs := (s1.trans s2).seq h
  refine ⟨fun hi => ⟨xs, q, by rw [← hr.length]; exact Nat.le_of_eq hi.symm⟩, fun d hd => ?_⟩
  obtain ⟨x, hx, rx⟩ := hr.get hd
  refine ⟨⟨xs, x, q, hx⟩, fun y H' ⟨e, hy⟩ => ?_⟩
  subst e
  have := hy xs q
  rw [hx] at this
  cases this
  exact ⟨G, Ext.refl s2, .inl (rx.mono s1)⟩
theorem itD_tup {K : PySem.W.Frag} {w : World} {G1 : Hp} {ds : List D} {a : Addr} {xs : List V} (h : SqT K G1 a xs) (hr : Rps K w G1 ds xs) : ItD K w tp G1 ds (Itt K a) := by
  intro i G H s1 s2
  have q : SqT K H a xs := Same.sqT (s1.trans s2) h
  refine ⟨fun hi => ⟨xs, q, by rw [← hr.length]; exact Nat.le_of_eq hi.symm⟩, fun d hd => ?_⟩
  obtain ⟨x, hx, rx⟩ := hr.get hd
  refine ⟨⟨xs, x, q, hx⟩, fun y H' ⟨e, hy⟩ => ?_⟩
  subst e
  have := hy xs q
  rw [hx] at this
  cases this
  exact ⟨G, Ext.refl s2, .inl (rx.mono s1)⟩
theorem di_seq {tg e : Expr} {t : Ev} (h : DE X e t)
    (hd : ∀ pins s σ G H kvs ds v u RR, Inv X pins σ H s → RelV v u → Same G H → Rp X.K X.w G (.dict kvs) v → itemsD (.dict kvs) = some ds → (∀ J, ItD X.K X.w tp G ds J → RR J H) → wpAny (model X.prog X.w) X.A (pyIter u) (PIE X pins σ tg RR) X.xe s) :
    DI X tp tg e (fun δ => (t δ).bind fun r δ1 => match frz δ1 r with
    | none => .bad
    | some (d, δ2) => match itemsD d with
      | some ds => .ok ds δ2
      | none => .bad) := by
  refine ⟨fun W z G₀ B tk pins s σ G H δ RR I R k => ?_⟩
  refine h.run W z G₀ B tk pins s σ G H δ _ I R (k.bind.imp fun r δ1 G1 H1 R1 s1 k1 => ?_)
  intro u s1' v I1 rv ok
  cases c : frz δ1 r with
  | none => simp only [c] at k1; exact k1.elim
  | some q =>
    obtain ⟨d, δ2⟩ := q
    simp only [c] at k1
    obtain ⟨G2, R2, s2, hr⟩ := R1.frz ok c
    cases d with
    | list ds =>
      replace k1 := (k1.base s2).use R2
      obtain ⟨a, xs, rfl, h1, h2, h3⟩ := hr
      cases rv
      obtain ⟨its, rvs, p, hz⟩ := I1.list (R2.gh.seq h1)
      refine wpAny_pyIter_list p.isList ?_
      refine ⟨s1'.heap.objs.size, [s1'.heap.objs.size], _, _, H1, rfl, I1.kept (t' := s1'.toks) fun b o e => Heap.get?_push_of_some _ e, turn_list a _, ⟨_, Heap.get?_push_size _ rfl, rfl, rfl⟩, fun b hb => ?_, k1 _ (itD_list h1 h3)⟩
      have e : b = s1'.heap.objs.size := by simpa using hb
      subst e
      exact I1.fpOk (Nat.le_refl _) (I1.hok.fresh (Nat.le_refl _))
    | tuple ds =>
      replace k1 := (k1.base s2).use R2
      obtain ⟨a, xs, o, rfl, h1, hn, h2, h3⟩ := hr
      cases rv
      have hq : SqT X.K H1 a xs := .inl (.inr ⟨o, R2.gh _ _ h1⟩)
      obtain ⟨its, rvs, p, hz⟩ := I1.tuple hq
      refine wpAny_pyIter_tuple (show s1'.heap.IsTuple a its.toArray from p) ?_
      refine ⟨s1'.heap.objs.size, [s1'.heap.objs.size], _, _, H1, rfl, I1.kept (t' := s1'.toks) fun b o e => Heap.get?_push_of_some _ e, turn_tuple a _, ⟨_, Heap.get?_push_size _ rfl, rfl, rfl⟩, fun b hb => ?_, k1 _ (itD_tup (.inl (.inr ⟨o, h1⟩)) h3)⟩
      have e : b = s1'.heap.objs.size := by simpa using hb
      subst e
      exact I1.fpOk (Nat.le_refl _) (I1.hok.fresh (Nat.le_refl _))
    | dict kvs =>
      cases cd : itemsD (.dict kvs) with
      | none => simp only [cd] at k1; exact k1.elim
      | some ds =>
        simp only [cd] at k1
        replace k1 := (k1.base s2).use R2
        exact hd pins s1' σ G2 H1 kvs ds v u RR I1 rv R2.gh hr cd k1
    | none => exact k1.elim
    | bool _ => exact k1.elim
    | int _ => exact k1.elim
    | str _ => exact k1.elim
theorem rangeD_get {lo hi : Int} {i : Nat} : (rangeD lo hi)[i]? = if i < (hi - lo).toNat then some (.int (lo + i)) else none := by
  unfold rangeD
  rw [List.getElem?_map]
  by_cases h : i < (hi - lo).toNat
  · rw [List.getElem?_range h, if_pos h]; rfl
  · rw [if_neg h, List.getElem?_eq_none (by rw [List.length_range]; omega)]; rfl
theorem rangeD_len (lo hi : Int) : (rangeD lo hi).length = (hi - lo).toNat := by unfold rangeD; rw [List.length_map, List.length_range]
theorem itD_range {K : PySem.W.Frag} {w : World} {G1 : Hp} {lo hi : Int} : ItD K w tp G1 (rangeD lo hi) (Itr lo (hi - lo).toNat) := by
  intro i G H s1 s2
  rw [rangeD_len, rangeD_get]
  refine ⟨fun hi => Nat.le_of_eq hi.symm, fun d hd => ?_⟩
  split at hd
  · rename_i hlt
    cases hd
    refine ⟨hlt, fun x H' ⟨e1, e2⟩ => ?_⟩
    subst e1 e2
    exact ⟨G, Ext.refl s2, .inl rfl⟩
  · cases hd
theorem eRng_ok {a b : D} {C : List D → Env → Hp → Hp → Prop} (k : Kont X W z G₀ B G σ (eRng a b δ) C) : ∃ i j, a = .int i ∧ b = .int j ∧ (-(2 ^ 62) ≤ i ∧ i < 2 ^ 62 ∧ -(2 ^ 62) ≤ j ∧ j < 2 ^ 62) ∧ Kont X W z G₀ B G σ (.ok (rangeD i j) δ) C := by
  unfold eRng at k
  split at k
  · rename_i i j
    split at k
    · rename_i hm
      simp only [Bool.and_eq_true, decide_eq_true_eq] at hm
      exact ⟨i, j, rfl, rfl, ⟨hm.1.1.1, hm.1.1.2, hm.1.2, hm.2⟩, k⟩
    · exact k.elim
  · exact k.elim
theorem di_rng1 {tg a : Expr} {t : Ev} {p pos : Pos} (hg : Gl X "range") (hm : X.mg "range" = none) (hp : plainE a = true) (h : DE X a t) : DI X tp tg (.Call (.Name "range" p) [a] [] pos) (fun δ => (t δ).bind fun r δ1 => match dat δ1 r with
    | some d => eRng (.int 0) d δ1
    | none => .bad) := by
  refine ⟨fun W z G₀ B tk pins s σ G H δ RR I R k => ?_⟩
  refine syn_call hg hm PyProof.Rows.boot_range (by decide) (by decide) (.inr ⟨_, rfl⟩) (by rw [List.all_cons, hp]; rfl) I ?_
  refine h.run W z G₀ B tk pins s σ G H δ _ I R (k.bind.imp fun r δ1 G1 H1 R1 s1 k1 => ?_)
  intro u s1' v I1 rv ok
  obtain ⟨G2, R2, s2, hv⟩ := R1.held ok
  have e0 : dat δ1 (hold r) = dat δ1 r := by cases r <;> rfl
  cases c : dat δ1 r with
  | none => simp only [c] at k1; exact k1.elim
  | some d =>
    simp only [c] at k1
    obtain ⟨i, j, e1, e2, ⟨_, _, q1, q2⟩, k2⟩ := eRng_ok (k1.base s2)
    cases e1
    subst e2
    have ev := (R2.read hv (e0.trans c)).int
    subst ev
    obtain ⟨t', rfl⟩ := rv
    exact call_range_1 (range_it (R := RR) I1 (by omega) (by omega) q1 q2 (k2.use R2 _ itD_range))
theorem di_rng2 {tg a b : Expr} {ta tb : Ev} {p pos : Pos} (hg : Gl X "range") (hm : X.mg "range" = none) (hp : plainE a = true) (hp' : plainE b = true) (ha : DE X a ta) (hb : DE X b tb) : DI X tp tg (.Call (.Name "range" p) [a, b] [] pos) (fun δ => (ta δ).bind fun x δ1 => (tb δ1).bind fun y δ2 => match dats δ2 [hold x, hold y] with
    | some [i, j] => eRng i j δ2
    | _ => .bad) := by
  refine ⟨fun W z G₀ B tk pins s σ G H δ RR I R k => ?_⟩
  refine syn_call hg hm PyProof.Rows.boot_range (by decide) (by decide) (.inr ⟨_, rfl⟩) (by rw [List.all_cons, List.all_cons, hp, hp']; rfl) I ?_
  refine ha.run W z G₀ B tk pins s σ G H δ _ I R (k.bind.imp fun x δ1 G1 H1 R1 s1 k1 => ?_)
  intro u1 s1' v1 I1 rv1 ok1
  obtain ⟨G2, R2, s2, hv1⟩ := R1.held ok1
  refine hb.run W z G₀ B tk pins s1' σ G2 H1 δ1 _ I1 R2 ((k1.base s2).bind.imp fun y δ2 G3 H3 R3 s3 k3 => ?_)
  intro u2 s2' v2 I2 rv2 ok2
  obtain ⟨G4, R4, s4, hv2⟩ := R3.held ok2
  replace k3 := k3.base s4
  cases c : dats δ2 [hold x, hold y] with
  | none => simp only [c] at k3; exact k3.elim
  | some ds =>
    have rd := R4.reads (vs := [v1, v2]) (rs := [hold x, hold y]) ⟨(hv1.mono s3).mono s4, hv2, trivial⟩ c
    match ds, c, rd with
    | [], c, rd => exact rd.elim
    | [_], c, rd => exact rd.2.elim
    | [i, j], c, rd =>
      simp only [c] at k3
      obtain ⟨i, j, e1, e2, ⟨q1, q2, q3, q4⟩, k4⟩ := eRng_ok k3
      subst e1 e2
      have ev := rd.1.int
      subst ev
      have ev := rd.2.1.int
      subst ev
      obtain ⟨t', rfl⟩ := rv1
      obtain ⟨t', rfl⟩ := rv2
      exact call_range_2 (range_it (R := RR) I2 q1 q2 q3 q4 (k4.use R4 _ itD_range))
    | _ :: _ :: _ :: _, c, rd => exact rd.2.2.elim
end
end DL
set_option Elab.async false
set_option linter.all false
set_option maxRecDepth 100000
set_option maxHeartbeats 1000000
/-! Layer D, part K: comprehensions. -/
namespace DL
open PySem PySem.Spec PyProof.Rows L2
section
variable {X : Cx} {W W' : WX} {z : Option Addr} {G₀ B B' G G' H H' : Hp} {σ σ' : L2.St} {δ : Env} {pins : List (Addr × Obj)} {s : Shared} {α β : Type}
theorem Kont.nx {r : Res α} {f : α → Env → Res β} {C : β → Env → Hp → Hp → Prop} {z' : Option Addr} {G₀' : Hp} (h : Kont X W z G₀ B G σ (noExc (r.bind f)) C) : Kont X W' z' G₀' B' G σ' r (fun a δ G' H' => Kont X W z G₀ B G' σ (noExc (f a δ)) C) := by
  cases r with
  | ok a δ => exact fun G2 H2 R s => h.base s
  | exc c δ => exact h.elim
  | bad => exact h.elim
/-- a list at D that nobody owns is set apart -/
theorem RS.apart {D : Addr} {o : HO} (R : RS X.K X.w z G₀ B G H σ δ) (hn : H D = none) : RS X.K X.w z G₀ (upd B D o) G (upd H D o) σ δ := by
  have hG : G D = none := R.gh.free hn
  have hG0 : G₀ D = none := R.gg.free hG
  have ne : ∀ {p : Addr} {u : HO}, H p = some u → p ≠ D := fun {p u} h e => by rw [e, hn] at h; cases h
  refine ⟨fun a u q => ?_, R.gg, fun a u q => ?_, fun a q => ?_, R.len, fun i => ?_, R.ap⟩
  · by_cases w : a = D
    · rw [w] at q ⊢; rw [upd_same] at q ⊢; exact q
    · rw [upd_ne w] at q ⊢; exact R.bh a u q
  · rw [upd_ne (fun w => by rw [w, hG] at q; cases q)]; exact R.gh a u q
  · by_cases w : a = D
    · rw [w, hG, hG0]
    · rw [upd_ne w] at q; exact R.nb a q
  · have q := R.slot i
    cases c : getS δ i with
    | non => trivial
    | sh d => rw [c] at q; exact q
    | ow d =>
      rw [c] at q
      obtain ⟨p, u, h1, h2, h3, h4, h5⟩ := q
      exact ⟨p, u, h1, by rw [upd_ne (ne h4)]; exact h2, h3, by rw [upd_ne (ne h4)]; exact h4, h5⟩
    | io d =>
      rw [c] at q
      obtain ⟨h0, p, u, hz, h1, h2, h3, h4, h5⟩ := q
      exact ⟨h0, p, u, hz, h1, by rw [upd_ne (ne h4)]; exact h2, h3, by rw [upd_ne (ne h4)]; exact h4, h5⟩
/-- what is set apart is changed -/
theorem RS.rebase {D : Addr} {o o' : HO} (hG0 : G₀ D = none) (R : RS X.K X.w z G₀ (upd B D o) G H σ δ) : RS X.K X.w z G₀ (upd B D o') G (upd H D o') σ δ := by
  have hG : G D = none := by rw [R.nb D (by rw [upd_same]; simp)]; exact hG0
  have ne : ∀ {p : Addr}, upd B D o p = none → p ≠ D := fun {p} h e => by rw [e, upd_same] at h; cases h
  refine ⟨fun a u q => ?_, R.gg, fun a u q => ?_, fun a q => ?_, R.len, fun i => ?_, R.ap⟩
  · by_cases w : a = D
    · rw [w] at q ⊢; rw [upd_same] at q ⊢; exact q
    · rw [upd_ne w] at q ⊢; exact R.bh a u (by rw [upd_ne w]; exact q)
  · rw [upd_ne (fun w => by rw [w, hG] at q; cases q)]; exact R.gh a u q
  · by_cases w : a = D
    · rw [w, hG, hG0]
    · rw [upd_ne w] at q; exact R.nb a (by rw [upd_ne w]; exact q)
  · have q := R.slot i
    cases c : getS δ i with
    | non => trivial
    | sh d => rw [c] at q; exact q
    | ow d =>
      rw [c] at q
      obtain ⟨p, u, h1, h2, h3, h4, h5⟩ := q
      have w := ne h2
      exact ⟨p, u, h1, by rw [upd_ne w] at h2 ⊢; exact h2, h3, by rw [upd_ne w]; exact h4, h5⟩
    | io d =>
      rw [c] at q
      obtain ⟨h0, p, u, hz, h1, h2, h3, h4, h5⟩ := q
      have w := ne h2
      exact ⟨h0, p, u, hz, h1, by rw [upd_ne w] at h2 ⊢; exact h2, h3, by rw [upd_ne w]; exact h4, h5⟩
/-- .. and comes back as a new thing in hand -/
theorem RS.back {D : Addr} {o : HO} {d : DL.D} (hB : B D = none) (hG0 : G₀ D = none) (ok : ObOk X.K X.w G D o d) (R : RS X.K X.w z G₀ (upd B D o) G H σ δ) : RS X.K X.w z G₀ B G H σ δ ∧ RVOk X.K X.w B G H σ δ (.ref D) (.ow d) := by
  have hG : G D = none := by rw [R.nb D (by rw [upd_same]; simp)]; exact hG0
  have hH : H D = some o := R.bh D o upd_same
  have ne : ∀ {p : Addr}, upd B D o p = none → p ≠ D := fun {p} h e => by rw [e, upd_same] at h; cases h
  refine ⟨⟨fun a u q => ?_, R.gg, R.gh, fun a q => ?_, R.len, fun i => ?_, R.ap⟩, D, o, rfl, hB, hG, hH, ok, fun i hi hs => ?_⟩
  · by_cases w : a = D
    · rw [w, hB] at q; cases q
    · exact R.bh a u (by rw [upd_ne w]; exact q)
  · by_cases w : a = D
    · rw [w, hG, hG0]
    · exact R.nb a (by rw [upd_ne w]; exact q)
  · have q := R.slot i
    cases c : getS δ i with
    | non => trivial
    | sh d => rw [c] at q; exact q
    | ow d =>
      rw [c] at q
      obtain ⟨p, u, h1, h2, h3, h4, h5⟩ := q
      exact ⟨p, u, h1, by rw [upd_ne (ne h2)] at h2; exact h2, h3, h4, h5⟩
    | io d =>
      rw [c] at q
      obtain ⟨h0, p, u, hz, h1, h2, h3, h4, h5⟩ := q
      exact ⟨h0, p, u, hz, h1, by rw [upd_ne (ne h2)] at h2; exact h2, h3, h4, h5⟩
  · have q := R.slot i
    cases c : getS δ i with
    | non => rw [c] at hi; cases hi
    | sh d => rw [c] at hi; cases hi
    | ow d =>
      rw [c] at q
      obtain ⟨p, u, h1, h2, h3, h4, h5⟩ := q
      rw [hs] at h1; cases h1
      exact ne h2 rfl
    | io d =>
      rw [c] at q
      obtain ⟨h0, p, u, hz, h1, h2, h3, h4, h5⟩ := q
      rw [hs] at h1; cases h1
      exact ne h2 rfl
theorem slotV_wipe {vs : List Nat} {j : Nat} : slotV (L2.wipe σ vs) j = if j ∈ vs then none else slotV σ j := by
  unfold slotV
  rw [List.getD_eq_getElem?_getD, List.getD_eq_getElem?_getD, wipe_get]
  by_cases h : j ∈ vs
  · rw [if_pos h, if_pos h]
    split <;> rfl
  · rw [if_neg h, if_neg h]
theorem wipeS_len : ∀ {vs : List Nat} {δ : Env}, (wipeS δ vs).length = δ.length
  | [], _ => rfl
  | v :: vs, δ => by unfold wipeS; rw [List.length_set, wipeS_len]
theorem restS_len {δ0 : Env} : ∀ {vs : List Nat} {δ : Env}, (restS δ0 δ vs).length = δ.length
  | [], _ => rfl
  | v :: vs, δ => by unfold restS; rw [List.length_set, restS_len]
theorem restS_get {δ0 : Env} (hl : δ0.length = δ.length) : ∀ {vs : List Nat} {j : Nat}, getS (restS δ0 δ vs) j = if j ∈ vs then getS δ0 j else getS δ j
  | [], j => by simp [restS]
  | v :: vs, j => by
    unfold restS
    rw [getS_set, restS_len]
    by_cases h : v = j
    · subst h
      by_cases h2 : v < δ.length
      · simp [h2]
      · have e1 : getS δ v = .non := by unfold getS; rw [List.getD_eq_getElem?_getD, List.getElem?_eq_none (by omega)]; rfl
        have e2 : getS δ0 v = .non := by unfold getS; rw [List.getD_eq_getElem?_getD, List.getElem?_eq_none (by omega)]; rfl
        rw [if_neg (by omega), restS_get hl, e1, e2]
        simp
    · rw [if_neg (fun q => h q.1), restS_get hl]
      have h' : ¬ j = v := fun e => h e.symm
      simp [h']
theorem freeS_get {vs : List Nat} {i : Nat} (h : freeS δ vs = true) (hi : i ∈ vs) : isOwn (getS δ i) = false := by
  unfold freeS at h
  rw [List.all_eq_true] at h
  have := h i hi
  cases c : getS δ i with
  | non => rfl
  | sh d => rfl
  | ow d => simp only [c] at this; cases this
  | io d => simp only [c] at this; cases this
/-- behind the block: the def's own values are back -/
theorem RS.rest {vs : List Nat} {δ' : Env} {G1 H1 : Hp} {B1 : Hp} (R0 : RS X.K X.w z G₀ B1 G1 H1 σ δ) (hf : freeS δ vs = true) (R : RS X.K X.w z G₀ B G H (L2.wipe σ vs) δ') (sg : Same G1 G) : RS X.K X.w z G₀ B G H σ (restS δ δ' vs) := by
  have hl : δ.length = δ'.length := by rw [R0.len, R.len, L2.wipe_length]
  have ow : ∀ {i}, isOwn (getS (restS δ δ' vs) i) = true → i ∉ vs ∧ isOwn (getS δ' i) = true := fun {i} h => by
    rw [restS_get hl] at h
    by_cases q : i ∈ vs
    · rw [if_pos q, freeS_get hf q] at h; cases h
    · rw [if_neg q] at h; exact ⟨q, h⟩
  have sv : ∀ {i}, i ∉ vs → slotV (L2.wipe σ vs) i = slotV σ i := fun {i} h => by rw [slotV_wipe, if_neg h]
  refine ⟨R.bh, R.gg, R.gh, R.nb, by rw [restS_len, R.len, L2.wipe_length], fun i => ?_, fun i j v n h1 h2 h3 => ?_⟩
  · rw [restS_get hl]
    by_cases q : i ∈ vs
    · rw [if_pos q]
      have := freeS_get hf q
      have p := R0.slot i
      cases c : getS δ i with
      | non => trivial
      | sh d =>
        rw [c] at p
        obtain ⟨v, h1, h2⟩ := p
        exact ⟨v, h1, h2.mono sg⟩
      | ow d => rw [c] at this; cases this
      | io d => rw [c] at this; cases this
    · rw [if_neg q, ← sv q]
      exact R.slot i
  · obtain ⟨n1, o1⟩ := ow h1
    obtain ⟨n2, o2⟩ := ow h2
    rw [← sv n1] at h3
    rw [← sv n2]
    exact R.ap i j v n o1 o2 h3
theorem compL_cons {own : List Nat} {tg : Tg} {test : Env → Res Bool} {elt : Ev} {d : D} {ds : List D} {δ : Env} : compL own tg test elt (d :: ds) δ = match asg tg d (wipeS δ own) with
    | none => .bad
    | some δ1 => (test δ1).bind fun b δ2 => if b then
        (elt δ2).bind fun r δ3 => match frz δ3 r with
          | none => .bad
          | some (x, δ4) => (compL own tg test elt ds δ4).bind fun xs δ5 => .ok (x :: xs) δ5
      else compL own tg test elt ds δ2 := rfl
theorem wipeS_get : ∀ {vs : List Nat} {δ : Env} {j : Nat}, (wipeS δ vs)[j]? = if j ∈ vs then (if j < δ.length then some .non else none) else δ[j]?
  | [], δ, j => by simp [wipeS]
  | v :: vs, δ, j => by
    unfold wipeS
    rw [List.getElem?_set, wipeS_len]
    by_cases h : v = j
    · subst h
      by_cases h2 : v < δ.length
      · simp [h2]
      · simp [h2]
    · rw [if_neg h, wipeS_get]
      have h' : ¬ j = v := fun e => h e.symm
      simp [h']
theorem wipeS_wipeS {vs : List Nat} {δ : Env} : wipeS (wipeS δ vs) vs = wipeS δ vs := by
  apply List.ext_getElem?
  intro j
  rw [wipeS_get, wipeS_get, wipeS_len]
  by_cases q : j ∈ vs
  · rw [if_pos q, if_pos q]
  · rw [if_neg q, if_neg q]
theorem compL_wipe {own : List Nat} {tg : Tg} {test : Env → Res Bool} {elt : Ev} {ds : List D} {δ : Env} : compL own tg test elt ds (wipeS δ own) = compL own tg test elt ds δ := by
  cases ds with
  | nil => show Res.ok [] (wipeS (wipeS δ own) own) = Res.ok [] (wipeS δ own); rw [wipeS_wipeS]
  | cons d ds => rw [compL_cons, compL_cons, wipeS_wipeS]
theorem Res.bind_bind {γ : Type} {r : Res α} {f : α → Env → Res β} {g : β → Env → Res γ} : (r.bind f).bind g = r.bind fun a δ => (f a δ).bind g := by cases r <;> rfl
end

section
variable {X : Cx} {W : WX} {z : Option Addr} {G₀ B G H : Hp} {σ : L2.St} {δ : Env} {pins : List (Addr × Obj)} {s : Shared}
/-- the comprehension, as HandS has it -/
theorem tLc_of {own : List Nat} {is : List Nat} {tp : Bool} {tg : Tg} {tt : Env → Res Bool} {te : Ev} {ti : Env → Res (List D)} {Q : VK} {δ0 : Env} (his : ∀ i ∈ is, i ∈ own) (tk : Takes X W) (R : RS X.K X.w z G₀ B G H σ δ)
    (k : Kont X W z G₀ B G σ ((ti δ).bind fun items δ1 => eComp own tg tt te items δ1) (fun r δ' G' H' => ∀ v, RVOk X.K X.w B G' H' σ δ' v r → Q v H')) :
    tLc (iD X tp ti) (gD X tp is (fun d δ => asg tg d δ)) (tDT X tt) (tD X te) own σ H Q := by
  refine ⟨W, z, G₀, B, G, δ, tk, R, k.bind.imp fun ds δ1 G1 H1 R1 sg1 k1 => ?_⟩
  intro J hJ D hD
  unfold eComp at k1
  split at k1
  · rename_i hcond
    rw [Bool.and_eq_true, decide_eq_true_eq] at hcond
    obtain ⟨hfree, hlen⟩ := hcond
    have hlen' : ds.length ≤ 16777216 := hlen
    have hB : B D = none := R1.bh.free hD
    have hG1 : G1 D = none := R1.gh.free hD
    have hG0 : G₀ D = none := R1.gg.free hG1
    refine ⟨fun i m H => m = ds.length - i ∧ i ≤ ds.length ∧ ∃ (G2 : Hp) (δ2 : Env) (acc : List DL.D) (av : List V), RS X.K X.w z G₀ (upd B D (.lst av)) G2 H (L2.wipe σ own) (wipeS δ2 own) ∧ Same G1 G2 ∧ Rps X.K X.w G2 acc av ∧ acc.length ≤ i ∧
      Kont X W z G₀ B G2 σ (noExc ((compL own tg tt te (ds.drop i) δ2).bind fun xs δ' => .ok (.ow (.list (acc ++ xs))) (restS δ1 δ' own))) (fun r δ' G' H' => ∀ v, RVOk X.K X.w B G' H' σ δ' v r → Q v H'), ⟨ds.length, ?_⟩, ?_⟩
    · refine ⟨by simp, Nat.zero_le _, G1, δ1, [], [], (R1.wipe own).apart hD, Same.refl _, rfl, Nat.le_refl _, ?_⟩
      simpa using k1
    · rintro i m H2 ⟨rfl, hi, G2, δ2, acc, av, R2, sg2, hacc, hal, k2⟩
      obtain ⟨hstop, hgo⟩ := hJ i G2 H2 sg2 R2.gh
      by_cases hlt : i < ds.length
      · have hd : ds[i]? = some ds[i] := by simp [hlt]
        obtain ⟨go, yl⟩ := hgo _ hd
        rw [List.drop_eq_getElem_cons hlt, compL_cons] at k2
        refine .inr ⟨go, fun H' => ∃ m', m' < ds.length - i ∧ (fun i m H => m = ds.length - i ∧ i ≤ ds.length ∧ ∃ (G2 : Hp) (δ2 : Env) (acc : List DL.D) (av : List V), RS X.K X.w z G₀ (upd B D (.lst av)) G2 H (L2.wipe σ own) (wipeS δ2 own) ∧ Same G1 G2 ∧ Rps X.K X.w G2 acc av ∧ acc.length ≤ i ∧
      Kont X W z G₀ B G2 σ (noExc ((compL own tg tt te (ds.drop i) δ2).bind fun xs δ' => .ok (.ow (.list (acc ++ xs))) (restS δ1 δ' own))) (fun r δ' G' H' => ∀ v, RVOk X.K X.w B G' H' σ δ' v r → Q v H')) (i + 1) m' H', fun H' h => h, fun x H' hy => ?_⟩
        obtain ⟨G3, e3, y3⟩ := yl x H' hy
        have R3 := R2.ext e3
        cases ca : asg tg ds[i] (wipeS δ2 own) with
        | none => rw [ca] at k2; exact k2.elim
        | some δ3 =>
          rw [ca] at k2
          refine ⟨z, G₀, upd B D (.lst av), G3, wipeS δ2 own, ds[i], δ3, R3, y3, ca, fun σ' R3' st => ?_⟩
          have hw : L2.wipe σ' own = L2.wipe σ own := by
            rw [(st.mono his).wipe, wipe_wipe]
          refine ⟨hw, ?_⟩
          rw [Res.bind_bind] at k2
          refine ⟨z, G₀, upd B D (.lst av), G3, δ3, R3', ((k2.base e3.gg).nx).imp fun b δ4 G4 H4 R4 sg4 k4 => ?_⟩
          cases b with
          | true =>
            rw [if_pos rfl] at k4 ⊢
            rw [Res.bind_bind] at k4
            refine ⟨z, G₀, upd B D (.lst av), G4, δ4, R4, k4.nx.imp fun r δ5 G5 H5 R5 sg5 k5 => ?_⟩
            intro v hv
            cases cf : frz δ5 r with
            | none => simp only [cf] at k5; exact k5.elim
            | some q =>
              obtain ⟨dx, δ6⟩ := q
              simp only [cf] at k5
              obtain ⟨G6, R6, sg6, hx⟩ := R5.frz hv cf
              have hH5 : H5 D = some (.lst av) := R5.bh D _ upd_same
              have hl := hacc.length
              refine ⟨av, hH5, by rw [← hl, sizeLine_eq]; omega, ds.length - (i + 1), by omega, rfl, hlt, G6, δ6, acc ++ [dx], av ++ [v], ?_, ?_, ?_, ?_, ?_⟩
              · have := (R6.wipe own).rebase (o' := .lst (av ++ [v])) hG0
                rw [hw] at this
                exact this
              · exact (((sg2.trans e3.gg).trans sg4).trans sg5).trans sg6
              · exact (Rps.mono (((e3.gg.trans sg4).trans sg5).trans sg6) hacc).append ⟨v, [], rfl, hx, rfl⟩
              · rw [List.length_append]; simp; omega
              · rw [Res.bind_bind] at k5
                have e0 : (fun xs δ' => Res.ok (RV.ow (PyData.list (acc ++ [dx] ++ xs))) (restS δ1 δ' own)) = fun a δ => (Res.ok (dx :: a) δ).bind fun xs δ' => Res.ok (RV.ow (PyData.list (acc ++ xs))) (restS δ1 δ' own) := by
                  funext a δ
                  rw [Res.bind_ok, List.append_assoc]; rfl
                rw [e0]
                exact k5.base sg6
          | false =>
            rw [if_neg Bool.false_ne_true] at k4 ⊢
            refine ⟨ds.length - (i + 1), by omega, rfl, hlt, G4, δ4, acc, av, ?_, (sg2.trans e3.gg).trans sg4, Rps.mono (e3.gg.trans sg4) hacc, by omega, k4⟩
            have := R4.wipe own
            rw [hw] at this
            exact this
      · have ei : i = ds.length := by omega
        subst ei
        refine .inl ⟨hstop rfl, ?_⟩
        rw [List.drop_length] at k2
        have hl := hacc.length
        have ok : ObOk X.K X.w G2 D (.lst av) (.list acc) := ⟨av, rfl, by rw [sizeLine_eq]; omega, hacc⟩
        obtain ⟨R5, hv⟩ := R2.back hB hG0 ok
        have R6 := R1.rest hfree R5 sg2
        have k3 : Kont X W z G₀ B G2 σ (.ok (.ow (.list (acc ++ []))) (restS δ1 (wipeS δ2 own) own)) (fun r δ' G' H' => ∀ v, RVOk X.K X.w B G' H' σ δ' v r → Q v H') := k2
        rw [List.append_nil] at k3
        refine k3.use R6 (.ref D) ?_
        obtain ⟨p, o, h1, h2, h3, h4, h5, h6⟩ := hv
        refine ⟨p, o, h1, h2, h3, h4, h5, fun j hj hs => ?_⟩
        have hl2 : δ1.length = (wipeS δ2 own).length := by rw [R1.len, R5.len, L2.wipe_length]
        rw [restS_get hl2] at hj
        by_cases q : j ∈ own
        · rw [if_pos q, freeS_get hfree q] at hj; cases hj
        · rw [if_neg q] at hj
          exact h6 j hj (by rw [slotV_wipe, if_neg q]; exact hs)
  · exact k1.elim
end
end DL
set_option Elab.async false
set_option linter.all false
set_option maxRecDepth 100000
set_option maxHeartbeats 1000000
/-! Layer D, part L: statements. -/
namespace DL
open PySem PySem.Spec PyProof.Rows L2

def KontS {α : Type} (X : Cx) (W : WX) (z : Option Addr) (G₀ B G : Hp) (r : Res α) (C : α → Env → L2.St → Hp → Hp → Prop) : Prop := match r with
  | .ok a δ => ∀ σ' G' H', RS X.K X.w z G₀ B G' H' σ' δ → Same G G' → C a δ σ' G' H'
  | .exc c δ => ∀ σ' G' H', RS X.K X.w z G₀ B G' H' σ' δ → Same G G' → W (clsV X.mg c) none σ' H'
  | .bad => False
section
variable {X : Cx} {W : WX} {z : Option Addr} {G₀ B G G' H : Hp} {σ : L2.St} {α β : Type}
theorem KontS.base {r : Res α} {C : α → Env → L2.St → Hp → Hp → Prop} (h : KontS X W z G₀ B G r C) (e : Same G G') : KontS X W z G₀ B G' r C := by
  cases r with
  | ok a δ => exact fun σ G2 H2 R s => h σ G2 H2 R (e.trans s)
  | exc c δ => exact fun σ G2 H2 R s => h σ G2 H2 R (e.trans s)
  | bad => exact h
theorem KontS.bind {r : Res α} {f : α → Env → Res β} {C : β → Env → L2.St → Hp → Hp → Prop} (h : KontS X W z G₀ B G (r.bind f) C) : KontS X W z G₀ B G r (fun a δ _ G' _ => KontS X W z G₀ B G' (f a δ) C) := by
  cases r with
  | ok a δ => exact fun σ G2 H2 R s => KontS.base h s
  | exc c δ => exact h
  | bad => exact h
theorem KontS.at {r : Res α} {f : α → Env → Res β} {C : β → Env → L2.St → Hp → Hp → Prop} (h : KontS X W z G₀ B G (r.bind f) C) (σ : L2.St) : Kont X W z G₀ B G σ r (fun a δ G' _ => KontS X W z G₀ B G' (f a δ) C) := by
  cases r with
  | ok a δ => exact fun G2 H2 R s => KontS.base h s
  | exc c δ => exact fun G2 H2 R s => h σ G2 H2 R s
  | bad => exact h
theorem KontS.imp {r : Res α} {C C' : α → Env → L2.St → Hp → Hp → Prop} (h : KontS X W z G₀ B G r C) (f : ∀ a δ σ' G' H', RS X.K X.w z G₀ B G' H' σ' δ → Same G G' → C a δ σ' G' H' → C' a δ σ' G' H') : KontS X W z G₀ B G r C' := by
  cases r with
  | ok a δ => exact fun σ' G2 H2 R s => f a δ σ' G2 H2 R s (h σ' G2 H2 R s)
  | exc c δ => exact h
  | bad => exact h
theorem KontS.use {δ : Env} {a : α} {C : α → Env → L2.St → Hp → Hp → Prop} (h : KontS X W z G₀ B G (.ok a δ) C) (R : RS X.K X.w z G₀ B G H σ δ) : C a δ σ G H := h σ G H R (Same.refl _)
end
/-- what is wanted behind a statement, as HandS has it -/
abbrev DQ (X : Cx) (B : Hp) (D : Ends) (f : Flow) (δ : Env) (σ' : L2.St) (G' H' : Hp) : Prop := match f with
  | .next => D.nx σ' H'
  | .brk => D.bk σ' H'
  | .ret r => ∀ v, RVOk X.K X.w B G' H' σ' δ v r → D.rt v H'
def tDS (X : Cx) (W : WX) (t : SEv) : TS := fun D σ H => ∃ z G₀ B G δ, RS X.K X.w z G₀ B G H σ δ ∧ KontS X W z G₀ B G (t δ) (DQ X B D)
/-- the statement does what t says -/
def DS (X : Cx) (st : Stmt) (t : SEv) : Prop := ∀ W, Takes X W → PS X st (tDS X W t)
def DSs (X : Cx) (st : List Stmt) (t : SEv) : Prop := ∀ W, Takes X W → PSs X st (tDS X W t)
def tDW (X : Cx) (W : WX) (t : Ev) : TE := fun σ H Q => ∃ z G₀ B G δ, RS X.K X.w z G₀ B G H σ δ ∧ Kont X W z G₀ B G σ (t δ) fun r δ' G' H' => ∀ v, RVOk X.K X.w B G' H' σ δ' v r → Q v H'
def tDTW (X : Cx) (W : WX) (t : Env → Res Bool) : TT := fun σ H Q => ∃ z G₀ B G δ, RS X.K X.w z G₀ B G H σ δ ∧ Kont X W z G₀ B G σ (t δ) fun b δ' G' H' => Q b H'
section
variable {X : Cx} {W : WX} {z : Option Addr} {G₀ B G G' H : Hp} {σ : L2.St} {δ δ' : Env}
theorem DE.pw {e : Expr} {t : Ev} (h : DE X e t) (tk : Takes X W) : PE X e (tDW X W t) := ⟨fun pins s σ H Q I ⟨z, G₀, B, G, δ, R, k⟩ =>
  h.run W z G₀ B tk pins s σ G H δ _ I R (k.imp fun r δ' G' H' R' s' q u s1 v I1 rv ok => ⟨v, H', I1, rv, q v ok⟩)⟩
theorem DT.pw {e : Expr} {t : Env → Res Bool} (h : DT X e t) (tk : Takes X W) : PT X e (tDTW X W t) := ⟨fun pins s σ H Q I ⟨z, G₀, B, G, δ, R, k⟩ =>
  h.run W z G₀ B tk pins s σ G H δ _ I R (k.imp fun r δ' G' H' R' s' q s1 I1 => ⟨H', I1, q⟩)⟩
/-- .. where the statement's reading of t is told -/
theorem DS.of {st : Stmt} {t : SEv} {ts : TS} (tk : Takes X W) (p : PS X st ts) (h : ∀ D σ H z G₀ B G δ, RS X.K X.w z G₀ B G H σ δ → KontS X W z G₀ B G (t δ) (DQ X B D) → ts D σ H) : PS X st (tDS X W t) :=
  ⟨fun pins s σ H D I ⟨z, G₀, B, G, δ, R, k⟩ => p.run pins s σ H D I (h D σ H z G₀ B G δ R k)⟩
theorem dss_nil : DSs X [] (evSs .nil) := fun W tk => ⟨fun pins s σ H D I ⟨z, G₀, B, G, δ, R, k⟩ => pss_nil.run pins s σ H D I (by unfold evSs at k; exact k.use R)⟩
theorem dss_cons {st : Stmt} {sts : List Stmt} {c : DL.St} {cs : Sts} (h1 : DS X st (evS c)) (h2 : DSs X sts (evSs cs)) : DSs X (st :: sts) (evSs (.cons c cs)) := fun W tk => by
  refine ⟨fun pins s σ H D I ⟨z, G₀, B, G, δ, R, k⟩ => (pss_cons (h1 W tk) (h2 W tk)).run pins s σ H D I ?_⟩
  unfold evSs at k
  refine ⟨z, G₀, B, G, δ, R, k.bind.imp fun f δ1 σ1 G1 H1 R1 s1 k1 => ?_⟩
  cases f with
  | next => exact ⟨z, G₀, B, G1, δ1, R1, k1⟩
  | brk => exact k1.use R1
  | ret r => exact k1.use R1

/-! ### name = .. -/
theorem setS_ok {i : Nat} {x : Sl} (h : setS δ i x = some δ') : δ' = δ.set i x ∧ i < δ.length := by
  unfold setS at h
  split at h
  · cases h
  · split at h
    · cases h; exact ⟨rfl, by assumption⟩
    · cases h
theorem RS.setR {i : Nat} {v : V} {r : RV} (R : RS X.K X.w z G₀ B G H σ δ) (ok : RVOk X.K X.w B G H σ δ v r) (e : setR δ i r = some δ') : RS X.K X.w z G₀ B G H (σ.set i (some v)) δ' := by
  cases r with
  | sh d => obtain ⟨e, _⟩ := setS_ok e; subst e; exact R.setSh ok
  | ow d =>
    obtain ⟨e, _⟩ := setS_ok e; subst e
    obtain ⟨p, o, rfl, h1, h2, h3, h4, h5⟩ := ok
    exact R.setOw h1 h2 h3 h4 fun j _ hj => h5 j hj
  | br j =>
    have ok : slotV σ j = some v := ok
    have q := R.slot j
    cases c : getS δ j with
    | non => simp only [DL.setR, c] at e; cases e
    | io d => simp only [DL.setR, c] at e; cases e
    | sh d =>
      simp only [DL.setR, c] at e
      rw [c] at q
      obtain ⟨e, _⟩ := setS_ok e; subst e
      obtain ⟨v', h1, h2⟩ := q
      rw [ok] at h1; cases h1
      exact R.setSh h2
    | ow d =>
      simp only [DL.setR, c] at e
      rw [c] at q
      obtain ⟨e, _⟩ := setS_ok e; subst e
      obtain ⟨p, o, h1, h2, h3, h4, h5⟩ := q
      rw [ok] at h1; cases h1
      refine (R.drop (i := j)).setOw h2 h3 h4 h5 fun l _ hl hs => ?_
      rw [getS_set] at hl
      by_cases w : j = l ∧ j < δ.length
      · rw [if_pos w] at hl; cases hl
      · rw [if_neg w] at hl
        by_cases w2 : j = l
        · subst w2
          exact w ⟨rfl, getS_lt fun z => by rw [z] at hl; cases hl⟩
        · exact R.ap j l _ w2 (by rw [c]; rfl) hl ok hs
/-- not a comprehension -/
def noLc : Expr → Bool
  | .ListComp _ _ _ _ => false
  | .SetComp _ _ _ _ => false
  | .DictComp _ _ _ _ _ => false
  | _ => true
theorem noLc_sw {e : Expr} (h : noLc e = true) (t : Option Expr) (l : Nat) (env : PySem.Env) : swapsWith e t l env = pure false := by
  cases e <;> first | rfl | cases h
theorem ds_set {i : Nat} {x : Str} {e : Expr} {c : Ex} {pos pos' : Pos} (hN : X.N.Nodup) (hi : X.N[i]? = some x) (hx : Loc X.env.scope x) (hf : X.fn x = true ∨ X.env.scope.names.lookup x = some .local) (he : DE X e (ev c)) (hs : swapsWith e (some (.Name x pos')) pos.line X.env = pure false) :
    DS X (.Assign [.Name x pos'] e pos) (evS (.set i c)) := fun W tk => by
  refine DS.of tk (ps_set hN hi hx (he.pw tk) hs hf) fun D σ H z G₀ B G δ R k => ?_
  unfold evS at k
  refine ⟨z, G₀, B, G, δ, R, (k.at σ).imp fun r δ1 G1 H1 R1 s1 k1 v hv => ?_⟩
  cases c2 : setR δ1 i r with
  | none => rw [c2] at k1; exact k1.elim
  | some δ2 => rw [c2] at k1; exact k1.use (R1.setR hv c2)
/-- (a, b) = .. -/
theorem sole_noLc {tg e : Expr} (h : noLc e = true) (l : Nat) (env : PySem.Env) : swapsWithSole [tg] e l env = pure false := noLc_sw h _ _ _
def isTupE : Expr → Bool
  | .Tuple _ _ _ => true
  | _ => false
theorem stores_none {tg e : Expr} (h : isTupE e = false) (env : PySem.Env) : swappedStores [tg] e env = pure none := by
  unfold swappedStores
  cases e <;> first | (cases tg <;> rfl) | cases h
theorem ds_setT {tp : Bool} {is : List Nat} {tg e : Expr} {g : Tg} {c : Ex} {pos : Pos} (he : DE X e (ev c)) (hg : DG X tp is tg (fun d δ => asg g d δ)) (h1 : noLc e = true) (h2 : isTupE e = false) (h3 : noStar tg = true) : DS X (.Assign [tg] e pos) (evS (.setT g c)) := fun W tk => by
  refine DS.of tk (ps_asg (he.pw tk) hg.pg (sole_noLc h1 _ _) (stores_none h2 _) (by rw [each_cons h3]; rfl)) fun D σ H z G₀ B G δ R k => ?_
  unfold evS at k
  refine ⟨z, G₀, B, G, δ, R, (k.at σ).imp fun r δ1 G1 H1 R1 s1 k1 v hv => ?_⟩
  cases c2 : frz δ1 r with
  | none => simp only [c2] at k1; exact k1.elim
  | some q =>
    obtain ⟨d, δ2⟩ := q
    simp only [c2] at k1
    cases c3 : asg g d δ2 with
    | none => rw [c3] at k1; exact k1.elim
    | some δ3 =>
      rw [c3] at k1
      obtain ⟨G2, R2, s2, hr⟩ := R1.frz hv c2
      exact ⟨z, G₀, B, G2, δ2, d, δ3, R2, .inl hr, c3, fun σ' R' _ => (k1.base s2).use R'⟩

/-! ### if, return, expressions -/
theorem ds_if {c : Expr} {a b : List Stmt} {cc : Ex} {ca cb : Sts} {pos : Pos} (hc : DT X c (fun δ => tst (ev cc δ))) (ha : DSs X a (evSs ca)) (hb : DSs X b (evSs cb)) : DS X (.If c a b pos) (evS (.ifs cc ca cb)) := fun W tk => by
  refine DS.of tk (ps_if (hc.pw tk) (ha W tk) (hb W tk)) fun D σ H z G₀ B G δ R k => ?_
  unfold evS at k
  refine ⟨z, G₀, B, G, δ, R, (k.at σ).imp fun t δ1 G1 H1 R1 s1 k1 => ?_⟩
  cases t with
  | true => exact ⟨z, G₀, B, G1, δ1, R1, k1⟩
  | false => exact ⟨z, G₀, B, G1, δ1, R1, k1⟩
theorem ds_retN {pos : Pos} : DS X (.Return none pos) (evS .retN) := fun W tk => by
  refine DS.of tk ps_retN fun D σ H z G₀ B G δ R k => ?_
  unfold evS at k
  exact k.use R .non rfl
theorem ds_brk {pos : Pos} : DS X (.Break pos) (evS .brk) := fun W tk => by
  refine DS.of tk ps_break fun D σ H z G₀ B G δ R k => ?_
  unfold evS at k
  exact k.use R
theorem ds_ret {e : Expr} {c : Ex} {pos : Pos} (he : DE X e (ev c)) : DS X (.Return (some e) pos) (evS (.ret c)) := fun W tk => by
  refine DS.of tk (ps_ret (he.pw tk)) fun D σ H z G₀ B G δ R k => ?_
  unfold evS at k
  refine ⟨z, G₀, B, G, δ, R, (k.at σ).imp fun r δ1 G1 H1 R1 s1 k1 v hv => ?_⟩
  cases r with
  | sh d => exact k1.use R1 v hv
  | ow d => exact k1.use R1 v hv
  | br i =>
    have q := R1.slot i
    have hv : slotV σ i = some v := hv
    cases c2 : getS δ1 i with
    | non => simp only [c2] at k1; exact k1.elim
    | io d => simp only [c2] at k1; exact k1.elim
    | sh d =>
      simp only [c2] at k1
      rw [c2] at q
      obtain ⟨v', h1, h2⟩ := q
      rw [hv] at h1; cases h1
      exact k1.use R1 _ h2
    | ow d =>
      simp only [c2] at k1
      rw [c2] at q
      obtain ⟨p, o, h1, h2, h3, h4, h5⟩ := q
      rw [hv] at h1; cases h1
      refine k1.use (R1.drop (i := i)) _ ⟨p, o, rfl, h2, h3, h4, h5, fun l hl hs => ?_⟩
      rw [getS_set] at hl
      by_cases w : i = l ∧ i < δ1.length
      · rw [if_pos w] at hl; cases hl
      · rw [if_neg w] at hl
        by_cases w2 : i = l
        · subst w2
          exact w ⟨rfl, getS_lt fun z => by rw [z] at hl; cases hl⟩
        · exact R1.ap i l _ w2 (by rw [c2]; rfl) hl hv hs
theorem ds_expr {e : Expr} {c : Ex} {pos : Pos} (he : DE X e (ev c)) (hs : noLc e = true) : DS X (.Expr e pos) (evS (.expr c)) := fun W tk => by
  refine DS.of tk (ps_expr (he.pw tk) (noLc_sw hs _ _ _)) fun D σ H z G₀ B G δ R k => ?_
  unfold evS at k
  exact ⟨z, G₀, B, G, δ, R, (k.at σ).imp fun r δ1 G1 H1 R1 s1 k1 v hv => k1.use R1⟩

/-! ### loops -/
def noSetE : Expr → Bool
  | .Set _ _ _ => false
  | _ => true
theorem noSet_ok {e : Expr} (h : noSetE e = true) (env : PySem.Env) (x : Value) : foldedSetIterable e env x = pure x := by
  unfold foldedSetIterable
  cases e <;> first | rfl | cases h
theorem ds_for {tp : Bool} {is : List Nat} {tg iter : Expr} {body : List Stmt} {g : Tg} {src : Src} {cb : Sts} {pos : Pos} (hp : PassesOwn (model X.prog X.w) X.A X.env X.xe) (hc : X.calm = true) (hi : DI X tp tg iter (evI src)) (hg : DG X tp is tg (fun d δ => asg g d δ)) (hb : DSs X body (evSs cb)) (hs : noSetE iter = true) :
    DS X (.For tg iter body [] pos) (evS (.for_ g src cb)) := fun W tk => by
  refine DS.of tk (ps_for hp hc hi.pi hg.pg (hb W tk) (noSet_ok hs _)) fun D σ H z G₀ B G δ R k => ?_
  unfold evS at k
  refine ⟨W, z, G₀, B, G, δ, tk, R, (k.at σ).imp fun ds δ1 G1 H1 R1 s1 k1 J hJ => ?_⟩
  refine ⟨fun i m σ H => m = ds.length - i ∧ i ≤ ds.length ∧ ∃ G2 δ2, RS X.K X.w z G₀ B G2 H σ δ2 ∧ Same G1 G2 ∧ KontS X W z G₀ B G2 (forL g (evSs cb) (ds.drop i) δ2) (DQ X B D), ⟨ds.length, by simp, Nat.zero_le _, G1, δ1, R1, Same.refl _, by simpa using k1⟩, ?_⟩
  rintro i m σ2 H2 ⟨rfl, hi', G2, δ2, R2, sg2, k2⟩
  obtain ⟨hstop, hgo⟩ := hJ i G2 H2 sg2 R2.gh
  by_cases hlt : i < ds.length
  · have hd : ds[i]? = some ds[i] := by simp [hlt]
    obtain ⟨go, yl⟩ := hgo _ hd
    rw [List.drop_eq_getElem_cons hlt] at k2
    unfold forL at k2
    refine .inr ⟨go, fun σ' H' => ∃ m', m' < ds.length - i ∧ (fun i m σ H => m = ds.length - i ∧ i ≤ ds.length ∧ ∃ G2 δ2, RS X.K X.w z G₀ B G2 H σ δ2 ∧ Same G1 G2 ∧ KontS X W z G₀ B G2 (forL g (evSs cb) (ds.drop i) δ2) (DQ X B D)) (i + 1) m' σ' H', fun σ' H' h => h, fun x H' hy => ?_⟩
    obtain ⟨G3, e3, y3⟩ := yl x H' hy
    have R3 := R2.ext e3
    cases ca : asg g ds[i] δ2 with
    | none => simp only [ca] at k2; exact k2.elim
    | some δ3 =>
      simp only [ca] at k2
      refine ⟨z, G₀, B, G3, δ2, ds[i], δ3, R3, y3, ca, fun σ' R3' _ => ?_⟩
      refine ⟨z, G₀, B, G3, δ3, R3', (k2.base e3.gg).bind.imp fun f δ4 σ4 G4 H4 R4 s4 k4 => ?_⟩
      cases f with
      | next => exact ⟨ds.length - (i + 1), by omega, rfl, hlt, G4, δ4, R4, (sg2.trans e3.gg).trans s4, k4⟩
      | brk => exact k4.use R4
      | ret r => exact k4.use R4
  · have ei : i = ds.length := by omega
    subst ei
    rw [List.drop_length] at k2
    unfold forL at k2
    exact .inl ⟨hstop rfl, k2.use R2⟩
theorem ds_while {c : Expr} {body : List Stmt} {cc : Ex} {cb : Sts} {pos : Pos} (hp : PassesOwn (model X.prog X.w) X.A X.env X.xe) (hc : DT X c (fun δ => tst (ev cc δ))) (hb : DSs X body (evSs cb)) : DS X (.While c body [] pos) (evS (.whl cc cb)) := fun W tk => by
  refine DS.of tk (ps_while hp (hc.pw tk) (hb W tk)) fun D σ H z G₀ B G δ R k => ?_
  unfold evS at k
  refine ⟨fun m σ H => ∃ G2 δ2, RS X.K X.w z G₀ B G2 H σ δ2 ∧ KontS X W z G₀ B G2 (whileN (fun δ => tst (ev cc δ)) (evSs cb) m δ2) (DQ X B D), ⟨turns, G, δ, R, k⟩, ?_⟩
  rintro m σ2 H2 ⟨G2, δ2, R2, k2⟩
  cases m with
  | zero => unfold whileN at k2; exact k2.elim
  | succ n =>
    unfold whileN at k2
    refine ⟨z, G₀, B, G2, δ2, R2, (k2.at σ2).imp fun b δ3 G3 H3 R3 s3 k3 => ?_⟩
    cases b with
    | true =>
      rw [if_pos rfl] at k3 ⊢
      refine ⟨fun σ' H' => ∃ m', m' < n + 1 ∧ ∃ G2 δ2, RS X.K X.w z G₀ B G2 H' σ' δ2 ∧ KontS X W z G₀ B G2 (whileN (fun δ => tst (ev cc δ)) (evSs cb) m' δ2) (DQ X B D), fun σ' H' h => h, ?_⟩
      refine ⟨z, G₀, B, G3, δ3, R3, k3.bind.imp fun f δ4 σ4 G4 H4 R4 s4 k4 => ?_⟩
      cases f with
      | next => exact ⟨n, by omega, G4, δ4, R4, k4⟩
      | brk => exact k4.use R4
      | ret r => exact k4.use R4
    | false =>
      rw [if_neg Bool.false_ne_true] at k3 ⊢
      exact k3.use R3
end
end DL
set_option Elab.async false
set_option linter.all false
set_option maxRecDepth 100000
set_option maxHeartbeats 1000000
/-! Layer D, part M: comprehensions as values, stores, append, pop, a, b = .., op=. -/
namespace DL
open PySem PySem.Spec PyProof.Rows L2
section
variable {X : Cx} {W : WX} {z : Option Addr} {G₀ B G G' H : Hp} {σ : L2.St} {δ δ' : Env}
abbrev AtBlk (X : Cx) (scope : Scope) (P : Cx → Prop) : Prop := ∀ (s : Shared) (H : Hp) (C : Addr) (cl : List (Str × Addr)) (fp : List Addr), P (X.blk s H scope (compEnvC scope cl C X.env) fp)
/-- none or one test -/
inductive DTs (X : Cx) : List Expr → (Env → Res Bool) → Prop where
  | nil : DTs X [] (fun δ => .ok true δ)
  | one {c : Expr} {t : Env → Res Bool} (h : DT X c t) : DTs X [c] t
theorem DTs.pts {ifs : List Expr} {t : Env → Res Bool} (h : DTs X ifs t) : PTs X ifs (tDT X t) := by
  cases h with
  | nil => exact ⟨fun pins s σ H Q I ⟨z, G₀, B, G, δ, R, k⟩ => pts_nil.run pins s σ H Q I (k.use R)⟩
  | one h => exact pts_one h.pt
theorem de_comp {elt tg iter : Expr} {ifs : List Expr} {scope : Scope} {own : List (Str × Nat)} {pos : Pos} {is : List Nat} {tp : Bool} {g : Tg} {src : Src} {tests : Exs} {ce : Ex} (hc : X.calm = true) (hN : X.N.Nodup) (hi : DI X tp tg iter (evI src)) (ok : BlkOk X.N X.env.scope scope own)
    (hg : AtBlk X scope fun X' => DG X' tp is tg (fun d δ => asg g d δ)) (his : ∀ i ∈ is, i ∈ own.map (·.2)) (ht : AtBlk X scope fun X' => DTs X' ifs (evTests tests)) (he : AtBlk X scope fun X' => DE X' elt (ev ce)) (hs : noSetE iter = true) :
    DE X (.ListComp elt [⟨tg, iter, ifs, 0⟩] scope pos) (ev (.comp src (own.map (·.2)) g tests ce)) := by
  refine ⟨fun W z G₀ B tk pins s σ G H δ Q I R k => ?_⟩
  unfold ev at k
  refine thn ((pe_lc (g := gD X tp is (fun d δ => asg g d δ)) (tt := tDT X (evTests tests)) (te := tD X (ev ce)) hc hN hi.pi ok (fun s H C cl fp => (hg s H C cl fp).pg) (fun s H C cl fp => (ht s H C cl fp).pts) (fun s H C cl fp => (he s H C cl fp).pe) (noSet_ok hs _)).run pins s σ H (fun v H' => ∀ u s, Inv X pins σ H' s → RelV v u → Q u s) I
    (tLc_of (δ0 := δ) his tk R (k.imp fun r δ' G' H' R' s' q v hv u s1 I1 rv => q u s1 v I1 rv hv))) fun u s1 ⟨v, H1, I1, rv, q⟩ => q u s1 I1 rv
theorem ds_setLc {i : Nat} {y : Str} {py : Pos} {elt tg iter : Expr} {ifs : List Expr} {scope : Scope} {own : List (Str × Nat)} {pos spos : Pos} {is : List Nat} {tp : Bool} {g : Tg} {src : Src} {tests : Exs} {ce : Ex} (hc : X.calm = true) (hN : X.N.Nodup) (hy : X.N[i]? = some y) (hyl : X.env.scope.names.lookup y = some .local)
    (hsw : swapsWith (.ListComp elt [⟨tg, iter, ifs, 0⟩] scope pos) (some (.Name y py)) spos.line X.env = pure true) (hi : DI X tp tg iter (evI src)) (ok : BlkOk X.N X.env.scope scope own)
    (hg : AtBlk X scope fun X' => DG X' tp is tg (fun d δ => asg g d δ)) (his : ∀ i ∈ is, i ∈ own.map (·.2)) (ht : AtBlk X scope fun X' => DTs X' ifs (evTests tests)) (he : AtBlk X scope fun X' => DE X' elt (ev ce)) (hs : noSetE iter = true) :
    DS X (.Assign [.Name y py] (.ListComp elt [⟨tg, iter, ifs, 0⟩] scope pos) spos) (evS (.set i (.comp src (own.map (·.2)) g tests ce))) := fun W tk => by
  refine DS.of tk (ps_setLc (g := gD X tp is (fun d δ => asg g d δ)) (tt := tDT X (evTests tests)) (te := tD X (ev ce)) hc hN hy hyl hsw hi.pi ok (fun s H C cl fp => (hg s H C cl fp).pg) (fun s H C cl fp => (ht s H C cl fp).pts) (fun s H C cl fp => (he s H C cl fp).pe) (noSet_ok hs _)) fun D σ H z G₀ B G δ R k => ?_
  unfold evS ev at k
  refine tLc_of (δ0 := δ) his tk R ((k.at σ).imp fun r δ1 G1 H1 R1 s1 k1 v hv => ?_)
  cases c2 : setR δ1 i r with
  | none => rw [c2] at k1; exact k1.elim
  | some δ2 => rw [c2] at k1; exact k1.use (R1.setR hv c2)

/-! ### xs[k] = e -/
/-- a store into the owned thing at p -/
def SetOk (X : Cx) : Prop := ∀ pins s σ (G H : Hp) p o d k v kd d' (iv u : Value) kv vv, Inv X pins σ H s → Same G H → H p = some o → ObOk X.K X.w G p o d → RelV kv iv → RelV vv u → Rp X.K X.w G kd kv → Rp X.K X.w G v vv → d = PyData.dict k → setItemD d kd v = some d' →
  wpAny (model X.prog X.w) X.A (setItem (.ref p) iv u) (fun _ s' => ∃ o', Inv X pins σ (upd H p o') s' ∧ ObOk X.K X.w G p o' d') X.xe s
theorem set_any (hd : SetOk X) {pins : List (Addr × Obj)} {s : Shared} {p : Addr} {o : HO} {d v kd d' : D} {iv u : Value} {kv vv : V} (I : Inv X pins σ H s) (e : Same G H) (hp : H p = some o) (ok : ObOk X.K X.w G p o d) (rk : RelV kv iv) (rv : RelV vv u) (hk : Rp X.K X.w G kd kv) (hv : Rp X.K X.w G v vv) (h : setItemD d kd v = some d') :
    wpAny (model X.prog X.w) X.A (setItem (.ref p) iv u) (fun _ s' => ∃ o', Inv X pins σ (upd H p o') s' ∧ ObOk X.K X.w G p o' d') X.xe s := by
  cases d with
  | list ds =>
    cases kd with
    | int k =>
      obtain ⟨xs, rfl, hz, hr⟩ := ok
      obtain rfl : kv = .int k := hk
      cases c : DL.ixN ds.length k with
      | none => simp only [setItemD, c] at h; cases h
      | some j =>
        simp only [setItemD, c] at h; cases h
        have c' : L2.ixN xs.length k = some j := by rw [← hr.length]; exact c
        exact thn (set_list pins s σ H (.ref p) (.int k) vv (.ref p) iv u (fun H' => H' = upd H p (.lst (xs.set j vv))) I rfl rk rv ⟨p, xs, k, j, rfl, rfl, hp, c', rfl⟩) fun _ s' ⟨H', I', e'⟩ => by
          subst e'
          exact ⟨_, I', xs.set j vv, rfl, by rw [List.length_set]; exact hz, hr.set j hv⟩
    | _ => cases h
  | dict kvs => exact hd pins s σ G H p o _ kvs v kd d' iv u kv vv I e hp ok rk rv hk hv rfl h
  | _ => cases h
theorem sSetI_ok {i : Nat} {k v : D} {C : Flow → Env → L2.St → Hp → Hp → Prop} (q : KontS X W z G₀ B G (sSetI i k v δ) C) : ∃ d d' δ', ownS δ i = some d ∧ setItemD d k v = some d' ∧ putS δ i d' = some δ' ∧ KontS X W z G₀ B G (.ok .next δ') C := by
  unfold sSetI at q
  cases c : ownS δ i with
  | none => rw [c] at q; exact q.elim
  | some d =>
    simp only [c] at q
    cases c2 : setItemD d k v with
    | none => rw [c2] at q; exact q.elim
    | some d' =>
      simp only [c2] at q
      cases c3 : putS δ i d' with
      | none => rw [c3] at q; exact q.elim
      | some δ' => rw [c3] at q; exact ⟨d, d', δ', rfl, c2, c3, q⟩
theorem needOwnS_ok {α : Type} {i : Nat} {r : Res α} {C : α → Env → L2.St → Hp → Hp → Prop} (k : KontS X W z G₀ B G (needOwn δ i r) C) : isOwn (getS δ i) = true ∧ KontS X W z G₀ B G r C := by
  unfold needOwn at k
  split at k
  · exact ⟨by assumption, k⟩
  · exact k.elim
theorem ds_setI {i : Nat} {x : Str} {a e : Expr} {ca ce : Ex} {p' pos pos' : Pos} (hd : SetOk X) (hN : X.N[i]? = some x) (hv : Vis X.env.scope x) (hdb : (x == ("__debug__" : Str)) = false) (hcd : (x == ("__classdict__" : Str)) = false) (ha : DE X a (ev ca)) (he : DE X e (ev ce)) (hp : plainIx a = true) (h1 : noLc e = true) :
    DS X (.Assign [.Subscript (.Name x p') a pos'] e pos) (evS (.setI i ca ce)) := fun W tk => by
  refine ⟨fun pins s σ H D I ⟨z, G₀, B, G, δ, R, k⟩ => ?_⟩
  unfold evS at k
  have ae : ∀ v, assign (.Subscript (.Name x p') a pos') X.env v = (do
      let ov ← holding [v] (eval (.Name x p') X.env)
      let iv ← holding [v, ov] (eval a X.env)
      standAt pos'
      holding [v, ov, iv] (setItem ov iv v)
      release [v, ov, iv] []) := by
    intro v
    cases a <;> first | rfl | cases hp
  have hst : swappedStores [.Subscript (.Name x p') a pos'] e X.env = pure none := by
    unfold swappedStores
    cases e <;> rfl
  refine wpAny_Assign_stores (he.run W z G₀ B tk pins s σ G H δ _ I R ((k.at σ).imp fun r δ1 G1 H1 R1 s1 k1 => ?_)) (sole_noLc h1 _ _) hst
  intro u s1' v I1 rv hv1
  cases c : frz δ1 r with
  | none => simp only [c] at k1; exact k1.elim
  | some q =>
    obtain ⟨vd, δ2⟩ := q
    simp only [c] at k1
    obtain ⟨hi, k2⟩ := needOwnS_ok k1
    obtain ⟨G2, R2, s2, hr⟩ := R1.frz hv1 c
    obtain ⟨_, pa, _, _, hs0, _⟩ := R2.owned hi
    show wpAny _ _ (assign (.Subscript (.Name x p') a pos') X.env u) (fun _ => SP X pins D .next) X.xe s1'
    rw [ae]
    refine wpAny_bind (wpAny_holding (own_name hN hv hdb hcd I1 hs0 fun s3 I3 => ?_))
    refine wpAny_bind (wpAny_holding (ha.run W z G₀ B tk pins s3 σ G2 H1 δ2 _ I3 R2 (((k2.base s2).at σ).imp fun q δ3 G3 H3 R3 s3' k3 => ?_)))
    intro iv s4 kv I4 rk hk
    cases c4 : frz δ3 q with
    | none => simp only [c4] at k3; exact k3.elim
    | some qq =>
      obtain ⟨kd, δ4⟩ := qq
      simp only [c4] at k3
      obtain ⟨G4, R4, s4', hkd⟩ := R3.frz hk c4
      obtain ⟨d, d', δ5, c5, c6, c7, k5⟩ := sSetI_ok (k3.base s4')
      obtain ⟨p5, o5, h1', h2', h3', h4', h5'⟩ := R4.own c5
      rw [hs0] at h1'; cases h1'
      refine wpAny_bind (wpAny_standAt (wpAny_bind (wpAny_holding (thn (set_any hd I4 R4.gh h4' h5' rk rv hkd (Rp.mono (s3'.trans s4') hr) c6) fun _ s6 ⟨o', I6, ok6⟩ => ?_))))
      exact wpAny_release ⟨σ, _, I6, k5.use (R4.put hs0 (ownS_own c5) ok6 c7)⟩
end

/-! ### a, b = x, y -/
section
variable {X : Cx} {W : WX} {z : Option Addr} {G₀ B G G' H : Hp} {σ : L2.St} {δ δ' : Env}
def owVs : List V → List RV → List V
  | v :: vs, .ow _ :: rs => v :: owVs vs rs
  | _ :: vs, _ :: rs => owVs vs rs
  | _, _ => []
def isOw : RV → Bool
  | .ow _ => true
  | _ => false
def PVs (K : PySem.W.Frag) (w : World) (B G H : Hp) (σ : L2.St) (δ : Env) : List V → List RV → Prop
  | [], [] => True
  | v :: vs, r :: rs => RVOk K w B G H σ δ v r ∧ (isOw r = true → v ∉ owVs vs rs) ∧ PVs K w B G H σ δ vs rs
  | _, _ => False
structure DEp (X : Cx) (es : List Expr) (t : Env → Res (List RV)) : Prop where
  run : ∀ (W : WX) (z : Option Addr) (G₀ B : Hp), Takes X W → ∀ (pins : List (Addr × Obj)) (s : Shared) (σ : L2.St) (G H : Hp) (δ : Env) (Q : List Value → Shared → Prop), Inv X pins σ H s → RS X.K X.w z G₀ B G H σ δ →
    Kont X W z G₀ B G σ (t δ) (fun rs δ' G' H' => ∀ us s vs, Inv X pins σ H' s → Vals vs us → PVs X.K X.w B G' H' σ δ' vs rs → Q us s) → wpL X es Q s
theorem dep_nil : DEp X [] (evP .nil) := ⟨fun W z G₀ B tk pins s σ G H δ Q I R k => by unfold evP at k; exact k.use R [] s [] I .nil trivial⟩
/-- a new thing in hand is set apart -/
theorem Kont.guard {α : Type} {r : Res α} {C : α → Env → Hp → Hp → Prop} {p : Addr} {o : HO} {d : D} (hB : B p = none) (hG0 : G₀ p = none) (ok : ObOk X.K X.w G p o d) (k : Kont X W z G₀ B G σ r C) :
    Kont X W z G₀ (upd B p o) G σ r (fun a δ G' H' => C a δ G' H' ∧ RVOk X.K X.w B G' H' σ δ (.ref p) (.ow d)) := by
  cases r with
  | ok a δ => exact fun G2 H2 R s => let ⟨R', v⟩ := R.back hB hG0 (ok.mono s); ⟨k G2 H2 R' s, v⟩
  | exc c δ => exact fun G2 H2 R s => k G2 H2 (R.back hB hG0 (ok.mono s)).1 s
  | bad => exact k
theorem RS.guard {p : Addr} {o : HO} {d : D} (R : RS X.K X.w z G₀ B G H σ δ) (hG : G p = none) (hH : H p = some o) (hs : ∀ i, isOwn (getS δ i) = true → slotV σ i ≠ some (.ref p)) : RS X.K X.w z G₀ (upd B p o) G H σ δ := by
  have hG0 : G₀ p = none := R.gg.free hG
  refine ⟨fun a u q => ?_, R.gg, R.gh, fun a q => ?_, R.len, fun i => ?_, R.ap⟩
  · by_cases w : a = p
    · rw [w] at q ⊢; rw [upd_same] at q; rw [hH]; exact q
    · rw [upd_ne w] at q; exact R.bh a u q
  · by_cases w : a = p
    · rw [w, hG, hG0]
    · rw [upd_ne w] at q; exact R.nb a q
  · have q := R.slot i
    have hi := hs i
    cases c : getS δ i with
    | non => trivial
    | sh d => rw [c] at q; exact q
    | ow d =>
      rw [c] at q hi
      obtain ⟨p', u, h1, h2, h3, h4, h5⟩ := q
      exact ⟨p', u, h1, by rw [upd_ne (fun e => hi rfl (by rw [h1, e]))]; exact h2, h3, h4, h5⟩
    | io d =>
      rw [c] at q hi
      obtain ⟨h0, p', u, hz, h1, h2, h3, h4, h5⟩ := q
      exact ⟨h0, p', u, hz, h1, by rw [upd_ne (fun e => hi rfl (by rw [h1, e]))]; exact h2, h3, h4, h5⟩
theorem PVs.unguard {p : Addr} {o : HO} : ∀ {vs : List V} {rs : List RV}, PVs X.K X.w (upd B p o) G H σ δ vs rs → PVs X.K X.w B G H σ δ vs rs ∧ V.ref p ∉ owVs vs rs
  | [], [], _ => ⟨trivial, by simp [owVs]⟩
  | v :: vs, r :: rs, ⟨h1, h2, h3⟩ => by
    obtain ⟨h4, h5⟩ := PVs.unguard h3
    cases r with
    | sh d => exact ⟨⟨h1, h2, h4⟩, h5⟩
    | br i => exact ⟨⟨h1, h2, h4⟩, h5⟩
    | ow d =>
      obtain ⟨q, u, e1, e2, e3⟩ := h1
      have ne : q ≠ p := fun e => by rw [e, upd_same] at e2; cases e2
      refine ⟨⟨⟨q, u, e1, by rw [upd_ne ne] at e2; exact e2, e3⟩, h2, h4⟩, ?_⟩
      show V.ref p ∉ v :: owVs vs rs
      intro h
      rcases List.mem_cons.mp h with h | h
      · rw [e1] at h; cases h; exact ne rfl
      · exact h5 h
  | [], _ :: _, h => h.elim
  | _ :: _, [], h => h.elim
theorem dep_cons {e : Expr} {es : List Expr} {c : Ex} {cs : Exs} (h1 : DE X e (ev c)) (h2 : DEp X es (evP cs)) : DEp X (e :: es) (evP (.cons c cs)) := by
  refine ⟨fun W z G₀ B tk pins s σ G H δ Q I R k => ?_⟩
  unfold evP at k
  refine h1.run W z G₀ B tk pins s σ G H δ _ I R (k.bind.imp fun r δ1 G1 H1 R1 s1 k1 => ?_)
  intro u s1' v I1 rv ok
  have k1 := k1.bind
  have go : (isOw r = false) → (∀ G', Same G1 G' → ∀ H' δ', RVOk X.K X.w B G' H' σ δ' v r) → wpL X es (fun us s2 => Q (u :: us) s2) s1' := fun hno hr =>
    h2.run W z G₀ B tk pins s1' σ G1 H1 δ1 _ I1 R1 (k1.imp fun rs δ2 G2 H2 R2 s2 k2 us s3 vs I3 rvs pv =>
      k2.use R2 (u :: us) s3 (v :: vs) I3 (.cons rv rvs) ⟨hr G2 s2 H2 δ2, (fun q => by rw [hno] at q; cases q), pv⟩)
  cases r with
  | sh d => exact go rfl fun G' s' _ _ => Rp.mono s' ok
  | br i => exact go rfl fun _ _ _ _ => ok
  | ow d =>
    obtain ⟨p, o, rfl, hB, hG, hH, hok, hs⟩ := ok
    have hG0 : G₀ p = none := R1.gg.free hG
    refine h2.run W z G₀ (upd B p o) tk pins s1' σ G1 H1 δ1 _ I1 (R1.guard (d := d) hG hH hs) ((Kont.guard hB hG0 hok k1).imp fun rs δ2 G2 H2 R2 s2 k2 us s3 vs I3 rvs pv => ?_)
    obtain ⟨pv', nin⟩ := pv.unguard
    exact (k2.1.use (R2.back hB hG0 (hok.mono s2)).1) (u :: us) s3 (.ref p :: vs) I3 (.cons rv rvs) ⟨k2.2, fun _ => nin, pv'⟩
def tPD (X : Cx) (W : WX) (t : Env → Res (List RV)) : TA := fun σ H Q => ∃ z G₀ B G δ, RS X.K X.w z G₀ B G H σ δ ∧ Kont X W z G₀ B G σ (t δ) fun rs δ' G' H' => ∀ vs, PVs X.K X.w B G' H' σ δ' vs rs → Q vs H'
theorem DEp.pa {es : List Expr} {t : Env → Res (List RV)} (h : DEp X es t) (tk : Takes X W) (hp : (es.all plainE) = true) : PA X es (tPD X W t) := ⟨fun pos pins s σ H Q I ⟨z, G₀, B, G, δ, R, k⟩ =>
  wpL_spliced pos hp (h.run W z G₀ B tk pins s σ G H δ _ I R (k.imp fun rs δ' G' H' R' s' q us s1 vs I1 rvs pv => ⟨vs, H', I1, rvs, q vs pv⟩))⟩
theorem PVs.len : ∀ {vs : List V} {rs : List RV}, PVs X.K X.w B G H σ δ vs rs → vs.length = rs.length
  | [], [], _ => rfl
  | _ :: vs, _ :: rs, ⟨_, _, h⟩ => by rw [List.length_cons, List.length_cons, PVs.len h]
  | [], _ :: _, h => h.elim
  | _ :: _, [], h => h.elim
def setAll : L2.St → List Nat → List V → L2.St
  | σ, i :: is, v :: vs => setAll (σ.set i (some v)) is vs
  | σ, _, _ => σ
theorem setR_own {i j : Nat} {r : RV} (h : DL.setR δ i r = some δ') (hj : isOwn (getS δ' j) = true) : (j = i ∧ (isOw r = true ∨ ∃ l, r = .br l ∧ isOwn (getS δ l) = true)) ∨ isOwn (getS δ j) = true := by
  have one : ∀ {x : Sl} {δ0 : Env}, setS δ0 i x = some δ' → (j = i ∧ isOwn x = true) ∨ isOwn (getS δ0 j) = true := fun {x δ0} h => by
    obtain ⟨e, _⟩ := setS_ok h; subst e
    rw [getS_set] at hj
    by_cases q : i = j ∧ i < δ0.length
    · rw [if_pos q] at hj; exact .inl ⟨q.1.symm, hj⟩
    · rw [if_neg q] at hj; exact .inr hj
  cases r with
  | sh d =>
    rcases one h with ⟨_, q⟩ | q
    · cases q
    · exact .inr q
  | ow d =>
    rcases one h with ⟨e, _⟩ | q
    · exact .inl ⟨e, .inl rfl⟩
    · exact .inr q
  | br l =>
    cases c : getS δ l with
    | non => simp only [DL.setR, c] at h; cases h
    | io d => simp only [DL.setR, c] at h; cases h
    | sh d =>
      simp only [DL.setR, c] at h
      rcases one h with ⟨_, q⟩ | q
      · cases q
      · exact .inr q
    | ow d =>
      simp only [DL.setR, c] at h
      rcases one h with ⟨e, _⟩ | q
      · exact .inl ⟨e, .inr ⟨l, rfl, by rw [c]; rfl⟩⟩
      · rw [getS_set] at q
        by_cases w : l = j ∧ l < δ.length
        · rw [if_pos w] at q; cases q
        · rw [if_neg w] at q; exact .inr q
theorem RS.parS : ∀ {is : List Nat} {rs : List RV} {vs : List V} {σ : L2.St} {δ δ' : Env}, RS X.K X.w z G₀ B G H σ δ → PVs X.K X.w B G H σ δ vs rs → DL.parS is rs δ = some δ' → RS X.K X.w z G₀ B G H (setAll σ is vs) δ'
  | [], [], [], σ, δ, δ', R, _, h => by cases h; exact R
  | i :: is, r :: rs, v :: vs, σ, δ, δ', R, ⟨h1, h2, h3⟩, h => by
    unfold DL.parS at h
    split at h
    · cases h
    · rename_i hbr
      cases c : DL.setR δ i r with
      | none => simp only [c] at h; cases h
      | some δ1 =>
        simp only [c] at h
        show RS X.K X.w z G₀ B G H (setAll (σ.set i (some v)) is vs) δ'
        refine RS.parS (R.setR h1 c) ?_ h
        have go : ∀ {vs : List V} {rs : List RV}, rs.any (brOf i) = false → (isOw r = true → v ∉ owVs vs rs) → PVs X.K X.w B G H σ δ vs rs → PVs X.K X.w B G H (σ.set i (some v)) δ1 vs rs := by
          intro vs
          induction vs with
          | nil => intro rs _ _ h; cases rs <;> exact h
          | cons v' vs ih =>
            intro rs hb hn h
            cases rs with
            | nil => exact h
            | cons r' rs =>
              obtain ⟨q1, q2, q3⟩ := h
              rw [List.any_cons, Bool.or_eq_false_iff] at hb
              refine ⟨?_, q2, ih hb.2 (fun w m => hn w ?_) q3⟩
              · cases r' with
                | sh d => exact q1
                | br l =>
                  have ne : i ≠ l := fun e => by have := hb.1; simp [brOf, e] at this
                  show slotV (σ.set i (some v)) l = some v'
                  rw [slotV_set, if_neg fun w => ne w.1]
                  exact q1
                | ow d =>
                  obtain ⟨p, o, rfl, e2, e3, e4, e5, e6⟩ := q1
                  refine ⟨p, o, rfl, e2, e3, e4, e5, fun j hj hs => ?_⟩
                  rw [slotV_set] at hs
                  by_cases w : i = j ∧ i < σ.length
                  · rw [if_pos w] at hs
                    have hs : v = .ref p := Option.some.inj hs
                    subst hs
                    rcases setR_own c hj with ⟨_, w | ⟨l, rfl, w⟩⟩ | w
                    · exact hn w (by unfold owVs; exact List.mem_cons_self)
                    · exact e6 l w h1
                    · cases r with
                      | ow d => exact hn rfl (by unfold owVs; exact List.mem_cons_self)
                      | br l =>
                        have q := R.slot l
                        have h1 : slotV σ l = some (.ref p) := h1
                        cases cl : getS δ l with
                        | non => simp only [DL.setR, cl] at c; cases c
                        | io d => simp only [DL.setR, cl] at c; cases c
                        | ow d => exact e6 l (by rw [cl]; rfl) h1
                        | sh d =>
                          simp only [DL.setR, cl] at c
                          obtain ⟨e, hl⟩ := setS_ok c; subst e
                          rw [getS_set, if_pos ⟨‹i = j ∧ _›.1, hl⟩] at hj
                          cases hj
                      | sh d =>
                        obtain ⟨e, hl⟩ := setS_ok c; subst e
                        rw [getS_set, if_pos ⟨‹i = j ∧ _›.1, hl⟩] at hj
                        cases hj
                  · rw [if_neg w] at hs
                    rcases setR_own c hj with ⟨e, _⟩ | w2
                    · subst e
                      have hl : j < δ1.length := getS_lt fun z => by rw [z] at hj; cases hj
                      have hlen := (R.setR h1 c).len
                      rw [List.length_set] at hlen
                      exact absurd ⟨rfl, by omega⟩ w
                    · exact e6 j w2 hs
              · cases r' with
                | sh d => exact m
                | br l => exact m
                | ow d => exact List.mem_cons_of_mem _ m
        exact go (by simpa using hbr) h2 h3
  | [], [], _ :: _, _, _, _, _, h, _ => h.elim
  | [], _ :: _, _, _, _, _, _, _, h => by cases h
  | _ :: _, [], _, _, _, _, _, _, h => by cases h
  | _ :: _, _ :: _, [], _, _, _, _, h, _ => h.elim
theorem sw_par {x y : Str} {px py pt pt2 : Pos} {a b : Expr} {kt k2 : Nat} {env : PySem.Env} (hk : env.scope.kind = .function) (hx : env.scope.names.lookup x = some .local) (hy : env.scope.names.lookup y = some .local) (hl : (py.line == px.line) = true) (hne : (x == y) = false) (na : plainE a = true) (nb : plainE b = true)
    (hf : [a, b].all (foldedForSure 8) = false) (hc : [a, b].all (constantsAlone 8) = false) : swappedStores [.Tuple [.Name x px, .Name y py] kt pt] (.Tuple [a, b] k2 pt2) env = pure (some [x, y]) := by
  have kx : env.kindOf x = some .local := hx
  have ky : env.kindOf y = some .local := hy
  have hb : env.blockKind = .function := by unfold Env.blockKind; rw [hk]; rfl
  have hs : ([a, b].any fun | .Starred .. => true | _ => false) = false := by
    rw [List.any_cons, List.any_cons, List.any_nil]
    cases a <;> first | (cases na; done) | (cases b <;> first | rfl | (cases nb; done))
  have e1 : ([x, y] : List Str).eraseDups = [x, y] := by
    have : (y == x) = false := by
      have h := hne
      rw [beq_eq_false_iff_ne] at h ⊢
      exact fun e => h e.symm
    simp [List.eraseDups_cons, this]
  have hpl : (px.line == px.line) = true := by simp
  unfold swappedStores
  dsimp only
  refine (if_neg (by rw [hb]; exact Bool.false_ne_true)).trans ?_
  refine (if_neg (fun h => Bool.false_ne_true (hs.symm.trans h))).trans ?_
  simp only [List.head?_cons, Option.map_some, Option.getD_some, Expr.pos, List.filterMap_cons, List.filterMap_nil, kx, ky, hl, hpl, beq_self_eq_true, Bool.and_self, if_true]
  refine (if_neg (by rw [e1]; exact Bool.false_ne_true)).trans ?_
  refine (if_neg (by rw [hf]; exact Bool.false_ne_true)).trans ?_
  refine (if_neg (by rw [hc]; exact Bool.false_ne_true)).trans ?_
  rfl
theorem ds_par {i j : Nat} {x y : Str} {a b : Expr} {ca cb : Ex} {px py pt pos : Pos} {kt k2 pt2} (hc : X.calm = true) (hN : X.N.Nodup) (hi : X.N[i]? = some x) (hj : X.N[j]? = some y) (hij : i ≠ j)
    (hx : X.env.scope.names.lookup x = some .local) (hy : X.env.scope.names.lookup y = some .local) (ha : DE X a (ev ca)) (hb : DE X b (ev cb)) (hp : ([a, b].all plainE) = true) (hw : swappedStores [.Tuple [.Name x px, .Name y py] kt pt] (.Tuple [a, b] k2 pt2) X.env = pure (some [x, y])) :
    DS X (.Assign [.Tuple [.Name x px, .Name y py] kt pt] (.Tuple [a, b] k2 pt2) pos) (evS (.par [i, j] (.cons ca (.cons cb .nil)))) := fun W tk => by
  refine DS.of tk (ps_par hc hN hi hj hij hx hy ((dep_cons ha (dep_cons hb dep_nil)).pa tk hp) hw (sole_noLc rfl _ _)) fun D σ H z G₀ B G δ R k => ?_
  unfold evS at k
  refine ⟨z, G₀, B, G, δ, R, (k.at σ).imp fun rs δ1 G1 H1 R1 s1 k1 vs pv => ?_⟩
  cases c : DL.parS [i, j] rs δ1 with
  | none => rw [c] at k1; exact k1.elim
  | some δ2 =>
    rw [c] at k1
    have R2 := R1.parS pv c
    match rs, vs, pv, c with
    | [r, t], [v, w], pv, c => exact ⟨v, w, rfl, k1.use R2⟩
    | [], [], _, c => simp [DL.parS] at c
    | [r], [v], _, c =>
      unfold DL.parS at c
      split at c
      · cases c
      · split at c
        · cases c
        · simp [DL.parS] at c
    | _ :: _ :: _ :: _, _ :: _ :: _ :: _, _, c =>
      unfold DL.parS at c
      split at c
      · cases c
      · split at c
        · cases c
        · unfold DL.parS at c
          split at c
          · cases c
          · split at c
            · cases c
            · simp [DL.parS] at c
end
end DL
set_option Elab.async false
set_option linter.all false
set_option maxRecDepth 100000
set_option maxHeartbeats 1000000
/-! Layer D, part N: enumerate. -/
namespace DL
open PySem PySem.Spec PyProof.Rows L2
theorem enum_new1 {v : Value} {o : Obj} {H : Heap → Prop} (B : Begins v o H) :
    Meets (Builtin.«enumerate.__new__» ⟨[.type "enumerate", v], []⟩) (fun _ R s => H s.heap ∧
      R (.ok (.ret (.ref (s.heap.push o).objs.size))) { s with heap := (s.heap.push o).push { cls := .type "enumerate", data := .fields #[.none, .bool false, .ref s.heap.objs.size, rawInt 0, .none, .none] } }) :=
  .of_wp fun prog w A R s h => by
    obtain ⟨hp, g, d, tk, os⟩ := s; obtain ⟨h1, h⟩ := h
    have hsub := sub_enumerate
    have q1 : ∀ {A' : Around} {E : Value → Shared → Prop} {Q : Value → Shared → Prop}, Q (.ref hp.objs.size) ⟨hp.push o, g, d, tk, os⟩ → wpAny (model prog w) A' (pyIter v) Q E ⟨hp, g, d, tk, os⟩ :=
      fun q => B.iter prog w _ _ ⟨hp, g, d, tk, os⟩ _ h1 q
    wp_walk using q1
    refine wpAny_stack_any fun st => wpAny_pure ?_
    split
    · rename_i c _ _ _ _ _
      cases (c == Value.type "enumerate")
      · wp_walk using q1
        exact ⟨_, rfl, h⟩
      · wp_walk using q1
        exact ⟨_, rfl, h⟩
    · wp_walk using q1
      exact ⟨_, rfl, h⟩
theorem enum_begins1 {prog : Program} {w : World} {A : Around} {E : Value → Shared → Prop} {s : Shared} {v : Value} {o : Obj} {H : Heap → Prop} {Q : Value → Shared → Prop} (B : Begins v o H) (h1 : H s.heap)
    (h : ∀ h', IsEnum h' (s.heap.objs.size + 1) s.heap.objs.size 0 .none → h'.get? s.heap.objs.size = some o → h'.objs.size = s.heap.objs.size + 2 →
      (∀ b o, s.heap.get? b = some o → h'.get? b = some o) → Q (.ref (s.heap.objs.size + 1)) { s with heap := h' }) :
    wpAny (model prog w) A (call (.type "enumerate") [v]) Q E s := by
  refine callType_new F.called_enumerate (by decide) (F.typeCall_enumerate_1 _) (F.newCall_enumerate_1 _) (fun obj => F.args_object_init_2 obj _) F.entry_enumerate_new
    (enum_new1 B) ⟨h1, ?_⟩
  have hz : (s.heap.push o).objs.size = s.heap.objs.size + 1 := Heap.size_push ..
  show _ ∧ _
  rw [hz]
  have he : IsEnum ((s.heap.push o).push { cls := .type "enumerate", data := .fields #[.none, .bool false, .ref s.heap.objs.size, rawInt 0, .none, .none] }) (s.heap.objs.size + 1) s.heap.objs.size 0 .none := by
    have := Heap.get?_push_size (s.heap.push o) (o := { cls := .type "enumerate", data := .fields #[.none, .bool false, .ref s.heap.objs.size, rawInt 0, .none, .none] }) rfl
    rw [hz] at this; exact this
  refine ⟨⟨_, he, rfl⟩, h _ he (Heap.get?_push_of_some _ (Heap.get?_push_size _ B.free)) (by rw [Heap.size_push, hz]) fun b o x => Heap.get?_push_of_some _ (Heap.get?_push_of_some _ x)⟩

/-! ### enumerate of a tuple -/
def IteT (K : PySem.W.Frag) (a : Addr) : It :=
  ⟨fun i H => ∃ (xs : List V) (x : V), SqT K H a xs ∧ xs[i]? = some x, fun i H v H' => ∃ T x, v = .ref T ∧ H T = none ∧ H' = upd H T (.tup [.int (i : Nat), x]) ∧ ∀ xs, SqT K H a xs → xs[i]? = some x, fun i H => ∃ xs : List V, SqT K H a xs ∧ xs.length = i⟩
theorem turn_enumT {P : Program} {w : World} {K : PySem.W.Frag} {elts : List Expr} {kk : Nat} {tpos : Pos} (a e it : Addr) :
    Turn P w K (.Tuple elts kk tpos) (IteT K a) [e, it] e (fun i h => (∃ old, IsEnum h e it ((i : Nat) : Int) old) ∧ h.IsTupleIter it a i ∧ e ≠ it ∧ a ≠ it ∧ a ≠ e) where
  mem := by simp
  obj := fun i h st b hb => by
    obtain ⟨⟨old, he⟩, ⟨o, ho, hc, hd⟩, _⟩ := st
    have e' : b = e ∨ b = it := by simpa using hb
    rcases e' with z | z
    · rw [z]; exact ⟨_, he, fun v q => nomatch q⟩
    · rw [z]; exact ⟨o, ho, fun v q => by rw [hd] at q; cases q⟩
  keep := fun i h h' st k => let ⟨⟨old, he⟩, hi, hne⟩ := st; ⟨⟨old, k e (by simp) _ he⟩, hi.at fun o q => k it (by simp) o q, hne⟩
  item := by
    intro X hP hw hK hc i pins s σ H E I hf st hg
    subst hP hw hK
    obtain ⟨⟨old, he⟩, hit, hne, hai, hae⟩ := st
    obtain ⟨xs, x, hq, hx⟩ := hg
    obtain ⟨its, rv, p, hz⟩ := I.tuple hq
    obtain ⟨u, hu, ru⟩ := rv.get hx
    have hel : e < s.heap.objs.size := Heap.lt_size he
    have hil : it < s.heap.objs.size := by obtain ⟨_, q, _⟩ := hit; exact Heap.lt_size q
    have hlt : i < its.toArray.size := by
      rw [List.size_toArray]
      exact (List.getElem?_eq_some_iff.mp hu).1
    have D := Draws.tuple (prog := X.prog) (w := X.w) (A := X.A.in1) (I.ok.hd hc) it a hai its.toArray
    refine wpAny_pyNext_enum_itemD D he ⟨hit, (show s.heap.IsTuple a its.toArray from p)⟩ hlt hne (by simp [hne, Ne.symm hae]) fun y h' tk hy ho hst' hT hsz hk => ?_
    have ey : y = u := by
      rw [show its.toArray[i]? = some u by simpa using hu] at hy
      exact (Option.some.inj hy).symm
    subst ey
    refine ⟨_, rfl, wpAny_letOwnedTupleGo_enum (s := { s with heap := h', toks := tk + 1 }) ho fun h'' he' sb => ?_⟩
    have hT2 : h''.get? s.heap.objs.size = some { cls := .type "tuple", data := .seq #[.int i tk, y] } := (sb.2 _ (Nat.ne_of_gt hel)).trans hT
    have new : ObjOk X.prog X.w (upd H s.heap.objs.size (.tup [.int (i : Nat), x])) h'' s.heap.objs.size (.tup [.int (i : Nat), x]) :=
      ⟨by show 2 ≤ sizeLine; decide, [.int i tk, y], .cons ⟨_, rfl⟩ (.cons ru .nil), ⟨_, hT2, rfl, _, rfl⟩⟩
    have I1 : Inv X pins σ (upd H s.heap.objs.size (.tup [.int (i : Nat), x])) { s with heap := h'', toks := tk + 1 } :=
      I.turnedNew (ch := [e, it]) (fun b ob hb q => (sb.2 b (fun z => hb (by simp [z]))).trans (hk b ob (fun z => hb (by simp [z])) (fun z => hb (by simp [z])) q)) hf (Nat.le_refl _) new
    refine ⟨.ref s.heap.objs.size, _, I1, rfl, ⟨_, x, rfl, I.hok.fresh (Nat.le_refl _), rfl, fun ys hy => by rw [I.tuple_inj hy hq]; exact hx⟩, ⟨⟨y, ?_⟩, hst'.1.at fun o q => (sb.2 it (Ne.symm hne)).trans q, hne, hai, hae⟩, fun b hb => ?_⟩
    · have e1 : ((i + 1 : Nat) : Int) = (i : Int) + 1 := by omega
      rw [e1]; exact he'
    · have hb' : b < s.heap.objs.size := by
        have e' : b = e ∨ b = it := by simpa using hb
        rcases e' with z | z
        · rw [z]; exact hel
        · rw [z]; exact hil
      rw [upd_ne (Nat.ne_of_lt hb')]
      exact (hf b hb).1
  done := by
    intro X hP hw hK hc i pins s σ H E I hf st hg
    subst hP hw hK
    obtain ⟨⟨old, he⟩, hit, hne, hai, hae⟩ := st
    obtain ⟨xs, hq, hx⟩ := hg
    obtain ⟨its, rv, p, hz⟩ := I.tuple hq
    obtain ⟨f0, f1, f2, f3, f4, f5⟩ := hf it (by simp)
    have hl := rv.length
    have D := Draws.tuple (prog := X.prog) (w := X.w) (A := X.A.in1) (I.ok.hd hc) it a hai its.toArray
    have ei : i = its.toArray.size := by rw [List.size_toArray]; omega
    exact wpAny_pyNext_enum_endD D he (show _ ∧ _ from ⟨ei ▸ hit, (show s.heap.IsTuple a its.toArray from p)⟩) fun h' eb => ⟨rfl, I.turned (t' := s.toks) (fun b o hb q => eb b o hb q) f0 f1 f3 f4 f5⟩
  self := fun A i s Q E st h => let ⟨⟨_, he⟩, _⟩ := st; wpAny_pyIter_enum he h

section
variable {X : Cx} {tp : Bool} {W : WX} {z : Option Addr} {G₀ B G H : Hp} {σ : L2.St} {δ : Env} {pins : List (Addr × Obj)} {s : Shared}
theorem enumD_len : ∀ {ds : List D} {n : Nat}, (enumD n ds).length = ds.length
  | [], _ => rfl
  | d :: ds, n => by show (enumD (n + 1) ds).length + 1 = ds.length + 1; rw [enumD_len]
theorem enumD_get : ∀ {ds : List D} {n i : Nat}, (enumD n ds)[i]? = (ds[i]?).map fun d => .tuple [.int ((n + i : Nat) : Int), d]
  | [], _, _ => by simp [enumD]
  | d :: ds, n, 0 => rfl
  | d :: ds, n, i + 1 => by
    show (enumD (n + 1) ds)[i]? = _
    rw [enumD_get]
    have : n + 1 + i = n + (i + 1) := by omega
    rw [this]; rfl
theorem Ext.scratch {T : Addr} {o : HO} (e : Same G H) (n : H T = none) : Ext G H G (upd H T o) := Ext.new1 e n
theorem itD_enumL {K : PySem.W.Frag} {w : World} {G1 : Hp} {ds : List D} {a : Addr} {xs : List V} (h : SqL K G1 a xs) (hr : Rps K w G1 ds xs) : ItD K w true G1 (enumD 0 ds) (Ite K a) := by
  intro i G H s1 s2
  have q : SqL K H a xs := (s1.trans s2).seq h
  rw [enumD_len, enumD_get]
  refine ⟨fun hi => ⟨xs, q, by rw [← hr.length]; exact Nat.le_of_eq hi.symm⟩, fun d hd => ?_⟩
  cases c : ds[i]? with
  | none => rw [c] at hd; cases hd
  | some d0 =>
    rw [c] at hd; cases hd
    obtain ⟨x, hx, rx⟩ := hr.get c
    refine ⟨⟨xs, x, q, hx⟩, fun y H' ⟨T, x', e1, e2, e3, hy⟩ => ?_⟩
    subst e1 e3
    have := hy xs q
    rw [hx] at this
    cases this
    refine ⟨G, Ext.new1 s2 e2, .inr ⟨rfl, _, T, [.int (i : Nat), x], rfl, rfl, .inl (.inl upd_same), .int (i : Nat), [x], rfl, ?_, x, [], rfl, rx.mono s1, rfl⟩⟩
    show V.int _ = V.int _
    rw [Nat.zero_add]
theorem itD_enumT {K : PySem.W.Frag} {w : World} {G1 : Hp} {ds : List D} {a : Addr} {xs : List V} (h : SqT K G1 a xs) (hr : Rps K w G1 ds xs) : ItD K w true G1 (enumD 0 ds) (IteT K a) := by
  intro i G H s1 s2
  have q : SqT K H a xs := Same.sqT (s1.trans s2) h
  rw [enumD_len, enumD_get]
  refine ⟨fun hi => ⟨xs, q, by rw [← hr.length]; exact hi.symm⟩, fun d hd => ?_⟩
  cases c : ds[i]? with
  | none => rw [c] at hd; cases hd
  | some d0 =>
    rw [c] at hd; cases hd
    obtain ⟨x, hx, rx⟩ := hr.get c
    refine ⟨⟨xs, x, q, hx⟩, fun y H' ⟨T, x', e1, e2, e3, hy⟩ => ?_⟩
    subst e1 e3
    have := hy xs q
    rw [hx] at this
    cases this
    refine ⟨G, Ext.new1 s2 e2, .inr ⟨rfl, _, T, [.int (i : Nat), x], rfl, rfl, .inl (.inl upd_same), .int (i : Nat), [x], rfl, ?_, x, [], rfl, rx.mono s1, rfl⟩⟩
    show V.int _ = V.int _
    rw [Nat.zero_add]
theorem di_enum {elts : List Expr} {kk : Nat} {tpos : Pos} {e : Expr} {t : Ev} {p pos : Pos} (hg : Gl X "enumerate") (hm : X.mg "enumerate" = none) (hp : plainE e = true) (h : DE X e t) : DI X true (.Tuple elts kk tpos) (.Call (.Name "enumerate" p) [e] [] pos) (fun δ => (t δ).bind fun r δ1 => match frz δ1 r with
    | some (.list ds, δ2) => .ok (enumD 0 ds) δ2
    | some (.tuple ds, δ2) => .ok (enumD 0 ds) δ2
    | _ => .bad) := by
  refine ⟨fun W z G₀ B tk pins s σ G H δ RR I R k => ?_⟩
  refine syn_call hg hm PyProof.Rows.boot_enumerate (by decide) (by decide) (.inr ⟨_, rfl⟩) (by rw [List.all_cons, hp]; rfl) I ?_
  refine h.run W z G₀ B tk pins s σ G H δ _ I R (k.bind.imp fun r δ1 G1 H1 R1 s1 k1 => ?_)
  intro u s1' v I1 rv ok
  cases c : frz δ1 r with
  | none => simp only [c] at k1; exact k1.elim
  | some q =>
    obtain ⟨d, δ2⟩ := q
    obtain ⟨G2, R2, s2, hr⟩ := R1.frz ok c
    cases d with
    | list ds =>
      simp only [c] at k1
      replace k1 := (k1.base s2).use R2
      obtain ⟨a, xs, rfl, h1, h2, h3⟩ := hr
      cases rv
      obtain ⟨its, rvs, p', hz⟩ := I1.list (R2.gh.seq h1)
      refine call_enumerate_list p'.isList fun h' he hit hsz hk => wpAny_pyIter_enum he ?_
      have I2 : Inv X pins σ H1 { s1' with heap := h' } := I1.kept (t' := s1'.toks) hk
      refine ⟨s1'.heap.objs.size + 1, [s1'.heap.objs.size + 1, s1'.heap.objs.size], _, _, H1, rfl, I2, turn_enum a (s1'.heap.objs.size + 1) s1'.heap.objs.size, ⟨⟨.none, he⟩, hit, Nat.succ_ne_self _⟩, fun b hb => ?_, k1 _ (itD_enumL h1 h3)⟩
      have e' : b = s1'.heap.objs.size + 1 ∨ b = s1'.heap.objs.size := by simpa using hb
      have hle : s1'.heap.objs.size ≤ b := by
        rcases e' with z | z
        · rw [z]; exact Nat.le_add_right _ _
        · rw [z]; exact Nat.le_refl _
      exact I1.fpOk hle (I1.hok.fresh hle)
    | tuple ds =>
      simp only [c] at k1
      replace k1 := (k1.base s2).use R2
      obtain ⟨a, xs, o, rfl, h1, hn, h2, h3⟩ := hr
      cases rv
      have hq : SqT X.K H1 a xs := .inl (.inr ⟨o, R2.gh _ _ h1⟩)
      obtain ⟨its, rvs, p', hz⟩ := I1.tuple hq
      have hal : a < s1'.heap.objs.size := by obtain ⟨_, q, _⟩ := p'; exact Heap.lt_size q
      refine enum_begins1 (begins_tuple a its.toArray) (show s1'.heap.IsTuple a its.toArray from p') fun h' he hit hsz hk => wpAny_pyIter_enum he ?_
      have I2 : Inv X pins σ H1 { s1' with heap := h' } := I1.kept (t' := s1'.toks) hk
      refine ⟨s1'.heap.objs.size + 1, [s1'.heap.objs.size + 1, s1'.heap.objs.size], _, _, H1, rfl, I2, turn_enumT a (s1'.heap.objs.size + 1) s1'.heap.objs.size, ⟨⟨.none, he⟩, ⟨_, hit, rfl, rfl⟩, Nat.succ_ne_self _, Nat.ne_of_lt hal, Nat.ne_of_lt (Nat.lt_succ_of_lt hal)⟩, fun b hb => ?_, k1 _ (itD_enumT (.inl (.inr ⟨o, h1⟩)) h3)⟩
      have e' : b = s1'.heap.objs.size + 1 ∨ b = s1'.heap.objs.size := by simpa using hb
      have hle : s1'.heap.objs.size ≤ b := by
        rcases e' with z | z
        · rw [z]; exact Nat.le_add_right _ _
        · rw [z]; exact Nat.le_refl _
      exact I1.fpOk hle (I1.hok.fresh hle)
    | none => simp only [c] at k1; exact k1.elim
    | bool _ => simp only [c] at k1; exact k1.elim
    | int _ => simp only [c] at k1; exact k1.elim
    | str _ => simp only [c] at k1; exact k1.elim
    | dict _ => simp only [c] at k1; exact k1.elim
end
end DL
set_option Elab.async false
set_option linter.all false
set_option maxRecDepth 100000
set_option maxHeartbeats 1000000
/-! Layer D, part N2: zip of lists and tuples, mixed. -/
namespace DL
open PySem PySem.Spec PyProof.Rows L2
/-- a list (t = false), a tuple -/
def SqA : Bool → PySem.W.Frag → Hp → Addr → List V → Prop
  | false, K, H, a, xs => SqL K H a xs
  | true, K, H, a, xs => SqT K H a xs
def itA : Bool → Addr → Addr → Nat → Heap → Prop
  | false, it, a, i, h => h.IsListIter it a i
  | true, it, a, i, h => h.IsTupleIter it a i
def stA : Bool → Addr → Addr → Array Value → Nat → Heap → Prop
  | false, it, a, items, i, h => h.IsListIter it a i ∧ h.IsList a items
  | true, it, a, items, i, h => h.IsTupleIter it a i ∧ h.IsTuple a items
theorem dA (t : Bool) {prog : Program} {w : World} {A : Around} (hh : A.handled = none) (it a : Addr) (hne : a ≠ it) (items : Array Value) : Draws prog w A it [it, a] items.size (fun i v => items[i]? = some v) (stA t it a items) := by
  cases t
  · exact Draws.list hh it a hne items
  · exact Draws.tuple hh it a hne items
theorem itA_obj {t : Bool} {it a : Addr} {i : Nat} {h : Heap} (st : itA t it a i h) : ∃ o, h.get? it = some o ∧ ∀ v, o.data ≠ .cell v := by
  cases t <;> (obtain ⟨o, e, c, d⟩ := st; exact ⟨o, e, fun v z => by rw [d] at z; cases z⟩)
theorem itA_keep {t : Bool} {it a : Addr} {i : Nat} {h h' : Heap} (st : itA t it a i h) (k : ∀ o, h.get? it = some o → h'.get? it = some o) : itA t it a i h' := by
  cases t
  · exact Heap.IsListIter.at st fun o e => k o e
  · exact Heap.IsTupleIter.at st fun o e => k o e
theorem stA_it {t : Bool} {it a : Addr} {its : Array Value} {i : Nat} {h : Heap} (st : stA t it a its i h) : itA t it a i h := by cases t <;> exact st.1
theorem ne_of_in {z i a : Addr} (h : z ∉ [i, a]) : i ≠ z := fun e => h (by simp [e])
theorem Inv.seqA {X : Cx} {pins : List (Addr × Obj)} {σ : L2.St} {H : Hp} {s : Shared} {t : Bool} {a : Addr} {xs : List V} (I : L2.Inv X pins σ H s) (h : SqA t X.K H a xs) : ∃ its : List Value, Vals xs its ∧ ∀ it i, itA t it a i s.heap → stA t it a its.toArray i s.heap := by
  cases t
  · obtain ⟨its, r, p, _⟩ := I.list h
    exact ⟨its, r, fun it i q => ⟨q, p.isList⟩⟩
  · obtain ⟨its, r, p, _⟩ := I.tuple h
    exact ⟨its, r, fun it i q => ⟨q, p⟩⟩
theorem Inv.seqA_inj {X : Cx} {pins : List (Addr × Obj)} {σ : L2.St} {H : Hp} {s : Shared} {t : Bool} {a : Addr} {xs ys : List V} (I : L2.Inv X pins σ H s) (h : SqA t X.K H a xs) (h' : SqA t X.K H a ys) : ys = xs := by
  cases t
  · exact I.list_inj h' h
  · exact I.tuple_inj h' h
def Itz2 (t1 t2 : Bool) (K : PySem.W.Frag) (a1 a2 : Addr) : It :=
  ⟨fun i H => ∃ (xs1 xs2 : List V) (x1 x2 : V), SqA t1 K H a1 xs1 ∧ SqA t2 K H a2 xs2 ∧ xs1[i]? = some x1 ∧ xs2[i]? = some x2,
    fun i H v H' => ∃ T x1 x2, v = .ref T ∧ H T = none ∧ H' = upd H T (.tup [x1, x2]) ∧ (∀ xs, SqA t1 K H a1 xs → xs[i]? = some x1) ∧ (∀ xs, SqA t2 K H a2 xs → xs[i]? = some x2),
    fun i H => ∃ xs1 xs2 : List V, SqA t1 K H a1 xs1 ∧ SqA t2 K H a2 xs2 ∧ i ≤ xs1.length ∧ i ≤ xs2.length ∧ (i = xs1.length ∨ i = xs2.length)⟩
theorem turn_zip2A {P : Program} {w : World} {K : PySem.W.Frag} {elts : List Expr} {kk : Nat} {tpos : Pos} {t1 t2 : Bool} {a1 a2 z TI TO i1 i2 : Addr} (D : ZipSep2 z TI TO i1 i2 [i1, a1] [i2, a2]) (n1 : a1 ≠ i1) (n2 : a2 ≠ i2) :
    Turn P w K (.Tuple elts kk tpos) (Itz2 t1 t2 K a1 a2) [z, TI, TO, i1, i2] z (fun i h => IsZip h z TI TO .none ∧ IsTupOf2 h TI (.ref i1) (.ref i2) ∧ (∃ x1 x2, IsTupOf2 h TO x1 x2) ∧ itA t1 i1 a1 i h ∧ itA t2 i2 a2 i h) where
  mem := List.mem_cons_self
  obj := fun i h st c hc => by
    obtain ⟨hz, hTI, ⟨x1, x2, hTO⟩, h1, h2⟩ := st
    have e' : c = z ∨ c = TI ∨ c = TO ∨ c = i1 ∨ c = i2 := by simpa using hc
    rcases e' with q | q | q | q | q
    · exact q ▸ ⟨_, hz, fun v q => nomatch q⟩
    · exact q ▸ ⟨_, hTI, fun v q => nomatch q⟩
    · exact q ▸ ⟨_, hTO, fun v q => nomatch q⟩
    · exact q ▸ itA_obj h1
    · exact q ▸ itA_obj h2
  keep := fun i h h' st k => by
    obtain ⟨hz, hTI, ⟨x1, x2, hTO⟩, h1, h2⟩ := st
    exact ⟨k z (by simp) _ hz, k TI (by simp) _ hTI, ⟨x1, x2, k TO (by simp) _ hTO⟩, itA_keep h1 fun o q => k i1 (by simp) o q, itA_keep h2 fun o q => k i2 (by simp) o q⟩
  item := by
    intro X hP hw hK hc i pins s σ H E I hf st hg
    subst hP hw hK
    obtain ⟨hz, hTI, ⟨p1, p2, hTO⟩, h1, h2⟩ := st
    obtain ⟨xs1, xs2, x1, x2, q1, q2, g1, g2⟩ := hg
    obtain ⟨b1, rv1, m1⟩ := Inv.seqA I q1
    obtain ⟨u1, hu1, ru1⟩ := rv1.get g1
    have lt1 : i < b1.toArray.size := by rw [List.size_toArray]; exact (List.getElem?_eq_some_iff.mp hu1).1
    obtain ⟨b2, rv2, m2⟩ := Inv.seqA I q2
    obtain ⟨u2, hu2, ru2⟩ := rv2.get g2
    have lt2 : i < b2.toArray.size := by rw [List.size_toArray]; exact (List.getElem?_eq_some_iff.mp hu2).1
    have hzl : z < s.heap.objs.size := Heap.lt_size hz
    have D1 := dA t1 (prog := X.prog) (w := X.w) (A := X.A.in1) (I.ok.hd hc) i1 a1 n1 b1.toArray
    have D2 := dA t2 (prog := X.prog) (w := X.w) (A := X.A.in1) (I.ok.hd hc) i2 a2 n2 b2.toArray
    refine wpAny_pyNext_zipD2_item D D1 D2 hz hTI hTO (m1 _ _ h1) (m2 _ _ h2) lt1 lt2 fun y1 y2 h' tk e1 e2 z' TO' st1 st2 hT hsz hk => ?_
    have v1 : y1 = u1 := by rw [show b1.toArray[i]? = some u1 by simpa using hu1] at e1; exact (Option.some.inj e1).symm
    subst v1
    have v2 : y2 = u2 := by rw [show b2.toArray[i]? = some u2 by simpa using hu2] at e2; exact (Option.some.inj e2).symm
    subst v2
    refine ⟨_, rfl, wpAny_letOwnedTupleGo_zip (s := { s with heap := h', toks := tk }) z' fun h'' z'' sb => ?_⟩
    have hT2 : h''.get? s.heap.objs.size = some { cls := .type "tuple", data := .seq #[y1, y2] } := (sb.2 _ (Nat.ne_of_gt hzl)).trans hT
    have new : ObjOk X.prog X.w (upd H s.heap.objs.size (.tup [x1, x2])) h'' s.heap.objs.size (.tup [x1, x2]) :=
      ⟨by show 2 ≤ sizeLine; decide, [y1, y2], (.cons ru1 (.cons ru2 .nil)), ⟨_, hT2, rfl, _, rfl⟩⟩
    have I1 : Inv X pins σ (upd H s.heap.objs.size (.tup [x1, x2])) { s with heap := h'', toks := tk } :=
      I.turnedNew (ch := [z, TI, TO, i1, i2]) (fun c o hb q => (sb.2 c (fun r => hb (by simp [r]))).trans (hk c o (fun r => hb (by simp [r])) (fun r => hb (by simp [r])) (fun r => hb (by simp [r])) (fun r => hb (by simp [r])) q)) hf (Nat.le_refl _) new
    refine ⟨.ref s.heap.objs.size, _, I1, rfl, ⟨_, x1, x2, rfl, I.hok.fresh (Nat.le_refl _), rfl, fun l hl => (Inv.seqA_inj I hl q1 ▸ g1), fun l hl => (Inv.seqA_inj I hl q2 ▸ g2)⟩, ⟨z'', ?_, ⟨y1, y2, ?_⟩, itA_keep (stA_it st1) fun o q => (sb.2 _ (ne_of_in D.zf1)).trans q, itA_keep (stA_it st2) fun o q => (sb.2 _ (ne_of_in D.zf2)).trans q⟩, fun c hcm => ?_⟩
    · exact (sb.2 _ D.TIz).trans (hk _ _ D.TIz D.TITO D.TIi1 D.TIi2 hTI)
    · exact (sb.2 _ D.TOz).trans TO'
    · have hlt : c < s.heap.objs.size := by
        have e' : c = z ∨ c = TI ∨ c = TO ∨ c = i1 ∨ c = i2 := by simpa using hcm
        rcases e' with q | q | q | q | q
        · rw [q]; exact hzl
        · rw [q]; exact Heap.lt_size hTI
        · rw [q]; exact Heap.lt_size hTO
        · rw [q]; obtain ⟨_, e, _⟩ := itA_obj h1; exact Heap.lt_size e
        · rw [q]; obtain ⟨_, e, _⟩ := itA_obj h2; exact Heap.lt_size e
      rw [upd_ne (Nat.ne_of_lt hlt)]
      exact (hf c hcm).1
  done := by
    intro X hP hw hK hc i pins s σ H E I hf st hg
    subst hP hw hK
    obtain ⟨hz, hTI, ⟨p1, p2, hTO⟩, h1, h2⟩ := st
    obtain ⟨xs1, xs2, q1, q2, g1, g2, hend⟩ := hg
    obtain ⟨b1, rv1, m1⟩ := Inv.seqA I q1
    have l1 : b1.toArray.size = xs1.length := by rw [List.size_toArray]; exact rv1.length.symm
    have D1 := dA t1 (prog := X.prog) (w := X.w) (A := X.A.in1) (I.ok.hd hc) i1 a1 n1 b1.toArray
    obtain ⟨b2, rv2, m2⟩ := Inv.seqA I q2
    have l2 : b2.toArray.size = xs2.length := by rw [List.size_toArray]; exact rv2.length.symm
    have D2 := dA t2 (prog := X.prog) (w := X.w) (A := X.A.in1) (I.ok.hd hc) i2 a2 n2 b2.toArray
    exact wpAny_pyNext_zipD2_end D D1 D2 hz hTI hTO (m1 _ _ h1) (m2 _ _ h2) (by omega) (by omega) (by omega) fun h' tk hk => ⟨rfl, I.turnedL (t' := tk) (ch := [z, TI, TO, i1, i2]) (fun c o hb q => hk c o (fun r => hb (by simp [r])) (fun r => hb (by simp [r])) (fun r => hb (by simp [r])) (fun r => hb (by simp [r])) q) hf⟩
  self := fun A i s Q E st h => wpAny_pyIter_zip st.1 h
def Itz3 (t1 t2 t3 : Bool) (K : PySem.W.Frag) (a1 a2 a3 : Addr) : It :=
  ⟨fun i H => ∃ (xs1 xs2 xs3 : List V) (x1 x2 x3 : V), SqA t1 K H a1 xs1 ∧ SqA t2 K H a2 xs2 ∧ SqA t3 K H a3 xs3 ∧ xs1[i]? = some x1 ∧ xs2[i]? = some x2 ∧ xs3[i]? = some x3,
    fun i H v H' => ∃ T x1 x2 x3, v = .ref T ∧ H T = none ∧ H' = upd H T (.tup [x1, x2, x3]) ∧ (∀ xs, SqA t1 K H a1 xs → xs[i]? = some x1) ∧ (∀ xs, SqA t2 K H a2 xs → xs[i]? = some x2) ∧ (∀ xs, SqA t3 K H a3 xs → xs[i]? = some x3),
    fun i H => ∃ xs1 xs2 xs3 : List V, SqA t1 K H a1 xs1 ∧ SqA t2 K H a2 xs2 ∧ SqA t3 K H a3 xs3 ∧ i ≤ xs1.length ∧ i ≤ xs2.length ∧ i ≤ xs3.length ∧ (i = xs1.length ∨ i = xs2.length ∨ i = xs3.length)⟩
theorem turn_zip3A {P : Program} {w : World} {K : PySem.W.Frag} {elts : List Expr} {kk : Nat} {tpos : Pos} {t1 t2 t3 : Bool} {a1 a2 a3 z TI TO i1 i2 i3 : Addr} (D : ZipSep3 z TI TO i1 i2 i3 [i1, a1] [i2, a2] [i3, a3]) (n1 : a1 ≠ i1) (n2 : a2 ≠ i2) (n3 : a3 ≠ i3) :
    Turn P w K (.Tuple elts kk tpos) (Itz3 t1 t2 t3 K a1 a2 a3) [z, TI, TO, i1, i2, i3] z (fun i h => IsZip h z TI TO .none ∧ IsTupOf3 h TI (.ref i1) (.ref i2) (.ref i3) ∧ (∃ x1 x2 x3, IsTupOf3 h TO x1 x2 x3) ∧ itA t1 i1 a1 i h ∧ itA t2 i2 a2 i h ∧ itA t3 i3 a3 i h) where
  mem := List.mem_cons_self
  obj := fun i h st c hc => by
    obtain ⟨hz, hTI, ⟨x1, x2, x3, hTO⟩, h1, h2, h3⟩ := st
    have e' : c = z ∨ c = TI ∨ c = TO ∨ c = i1 ∨ c = i2 ∨ c = i3 := by simpa using hc
    rcases e' with q | q | q | q | q | q
    · exact q ▸ ⟨_, hz, fun v q => nomatch q⟩
    · exact q ▸ ⟨_, hTI, fun v q => nomatch q⟩
    · exact q ▸ ⟨_, hTO, fun v q => nomatch q⟩
    · exact q ▸ itA_obj h1
    · exact q ▸ itA_obj h2
    · exact q ▸ itA_obj h3
  keep := fun i h h' st k => by
    obtain ⟨hz, hTI, ⟨x1, x2, x3, hTO⟩, h1, h2, h3⟩ := st
    exact ⟨k z (by simp) _ hz, k TI (by simp) _ hTI, ⟨x1, x2, x3, k TO (by simp) _ hTO⟩, itA_keep h1 fun o q => k i1 (by simp) o q, itA_keep h2 fun o q => k i2 (by simp) o q, itA_keep h3 fun o q => k i3 (by simp) o q⟩
  item := by
    intro X hP hw hK hc i pins s σ H E I hf st hg
    subst hP hw hK
    obtain ⟨hz, hTI, ⟨p1, p2, p3, hTO⟩, h1, h2, h3⟩ := st
    obtain ⟨xs1, xs2, xs3, x1, x2, x3, q1, q2, q3, g1, g2, g3⟩ := hg
    obtain ⟨b1, rv1, m1⟩ := Inv.seqA I q1
    obtain ⟨u1, hu1, ru1⟩ := rv1.get g1
    have lt1 : i < b1.toArray.size := by rw [List.size_toArray]; exact (List.getElem?_eq_some_iff.mp hu1).1
    obtain ⟨b2, rv2, m2⟩ := Inv.seqA I q2
    obtain ⟨u2, hu2, ru2⟩ := rv2.get g2
    have lt2 : i < b2.toArray.size := by rw [List.size_toArray]; exact (List.getElem?_eq_some_iff.mp hu2).1
    obtain ⟨b3, rv3, m3⟩ := Inv.seqA I q3
    obtain ⟨u3, hu3, ru3⟩ := rv3.get g3
    have lt3 : i < b3.toArray.size := by rw [List.size_toArray]; exact (List.getElem?_eq_some_iff.mp hu3).1
    have hzl : z < s.heap.objs.size := Heap.lt_size hz
    have D1 := dA t1 (prog := X.prog) (w := X.w) (A := X.A.in1) (I.ok.hd hc) i1 a1 n1 b1.toArray
    have D2 := dA t2 (prog := X.prog) (w := X.w) (A := X.A.in1) (I.ok.hd hc) i2 a2 n2 b2.toArray
    have D3 := dA t3 (prog := X.prog) (w := X.w) (A := X.A.in1) (I.ok.hd hc) i3 a3 n3 b3.toArray
    refine wpAny_pyNext_zipD3_item D D1 D2 D3 hz hTI hTO (m1 _ _ h1) (m2 _ _ h2) (m3 _ _ h3) lt1 lt2 lt3 fun y1 y2 y3 h' tk e1 e2 e3 z' TO' st1 st2 st3 hT hsz hk => ?_
    have v1 : y1 = u1 := by rw [show b1.toArray[i]? = some u1 by simpa using hu1] at e1; exact (Option.some.inj e1).symm
    subst v1
    have v2 : y2 = u2 := by rw [show b2.toArray[i]? = some u2 by simpa using hu2] at e2; exact (Option.some.inj e2).symm
    subst v2
    have v3 : y3 = u3 := by rw [show b3.toArray[i]? = some u3 by simpa using hu3] at e3; exact (Option.some.inj e3).symm
    subst v3
    refine ⟨_, rfl, wpAny_letOwnedTupleGo_zip (s := { s with heap := h', toks := tk }) z' fun h'' z'' sb => ?_⟩
    have hT2 : h''.get? s.heap.objs.size = some { cls := .type "tuple", data := .seq #[y1, y2, y3] } := (sb.2 _ (Nat.ne_of_gt hzl)).trans hT
    have new : ObjOk X.prog X.w (upd H s.heap.objs.size (.tup [x1, x2, x3])) h'' s.heap.objs.size (.tup [x1, x2, x3]) :=
      ⟨by show 3 ≤ sizeLine; decide, [y1, y2, y3], (.cons ru1 (.cons ru2 (.cons ru3 .nil))), ⟨_, hT2, rfl, _, rfl⟩⟩
    have I1 : Inv X pins σ (upd H s.heap.objs.size (.tup [x1, x2, x3])) { s with heap := h'', toks := tk } :=
      I.turnedNew (ch := [z, TI, TO, i1, i2, i3]) (fun c o hb q => (sb.2 c (fun r => hb (by simp [r]))).trans (hk c o (fun r => hb (by simp [r])) (fun r => hb (by simp [r])) (fun r => hb (by simp [r])) (fun r => hb (by simp [r])) (fun r => hb (by simp [r])) q)) hf (Nat.le_refl _) new
    refine ⟨.ref s.heap.objs.size, _, I1, rfl, ⟨_, x1, x2, x3, rfl, I.hok.fresh (Nat.le_refl _), rfl, fun l hl => (Inv.seqA_inj I hl q1 ▸ g1), fun l hl => (Inv.seqA_inj I hl q2 ▸ g2), fun l hl => (Inv.seqA_inj I hl q3 ▸ g3)⟩, ⟨z'', ?_, ⟨y1, y2, y3, ?_⟩, itA_keep (stA_it st1) fun o q => (sb.2 _ (ne_of_in D.zf1)).trans q, itA_keep (stA_it st2) fun o q => (sb.2 _ (ne_of_in D.zf2)).trans q, itA_keep (stA_it st3) fun o q => (sb.2 _ (ne_of_in D.zf3)).trans q⟩, fun c hcm => ?_⟩
    · exact (sb.2 _ D.TIz).trans (hk _ _ D.TIz D.TITO D.TIi1 D.TIi2 D.TIi3 hTI)
    · exact (sb.2 _ D.TOz).trans TO'
    · have hlt : c < s.heap.objs.size := by
        have e' : c = z ∨ c = TI ∨ c = TO ∨ c = i1 ∨ c = i2 ∨ c = i3 := by simpa using hcm
        rcases e' with q | q | q | q | q | q
        · rw [q]; exact hzl
        · rw [q]; exact Heap.lt_size hTI
        · rw [q]; exact Heap.lt_size hTO
        · rw [q]; obtain ⟨_, e, _⟩ := itA_obj h1; exact Heap.lt_size e
        · rw [q]; obtain ⟨_, e, _⟩ := itA_obj h2; exact Heap.lt_size e
        · rw [q]; obtain ⟨_, e, _⟩ := itA_obj h3; exact Heap.lt_size e
      rw [upd_ne (Nat.ne_of_lt hlt)]
      exact (hf c hcm).1
  done := by
    intro X hP hw hK hc i pins s σ H E I hf st hg
    subst hP hw hK
    obtain ⟨hz, hTI, ⟨p1, p2, p3, hTO⟩, h1, h2, h3⟩ := st
    obtain ⟨xs1, xs2, xs3, q1, q2, q3, g1, g2, g3, hend⟩ := hg
    obtain ⟨b1, rv1, m1⟩ := Inv.seqA I q1
    have l1 : b1.toArray.size = xs1.length := by rw [List.size_toArray]; exact rv1.length.symm
    have D1 := dA t1 (prog := X.prog) (w := X.w) (A := X.A.in1) (I.ok.hd hc) i1 a1 n1 b1.toArray
    obtain ⟨b2, rv2, m2⟩ := Inv.seqA I q2
    have l2 : b2.toArray.size = xs2.length := by rw [List.size_toArray]; exact rv2.length.symm
    have D2 := dA t2 (prog := X.prog) (w := X.w) (A := X.A.in1) (I.ok.hd hc) i2 a2 n2 b2.toArray
    obtain ⟨b3, rv3, m3⟩ := Inv.seqA I q3
    have l3 : b3.toArray.size = xs3.length := by rw [List.size_toArray]; exact rv3.length.symm
    have D3 := dA t3 (prog := X.prog) (w := X.w) (A := X.A.in1) (I.ok.hd hc) i3 a3 n3 b3.toArray
    exact wpAny_pyNext_zipD3_end D D1 D2 D3 hz hTI hTO (m1 _ _ h1) (m2 _ _ h2) (m3 _ _ h3) (by omega) (by omega) (by omega) (by omega) fun h' tk hk => ⟨rfl, I.turnedL (t' := tk) (ch := [z, TI, TO, i1, i2, i3]) (fun c o hb q => hk c o (fun r => hb (by simp [r])) (fun r => hb (by simp [r])) (fun r => hb (by simp [r])) (fun r => hb (by simp [r])) (fun r => hb (by simp [r])) q) hf⟩
  self := fun A i s Q E st h => wpAny_pyIter_zip st.1 h
end DL
set_option Elab.async false
set_option linter.all false
set_option maxRecDepth 100000
set_option maxHeartbeats 1000000
namespace DL
open PySem PySem.Spec PyProof.Rows L2

theorem SqA.up {t : Bool} {K : PySem.W.Frag} {H H' : Hp} {a : Addr} {xs : List V} (f : Same H H') (h : SqA t K H a xs) : SqA t K H' a xs := by
  cases t
  · exact f.seq h
  · exact Same.sqT f h

theorem wpL_len {X : Cx} : ∀ {l : List Expr} {Q : List Value → Shared → Prop} {s : Shared}, wpL X l Q s → wpL X l (fun us s => us.length = l.length ∧ Q us s) s
  | [], _, _, h => ⟨rfl, h⟩
  | e :: es, Q, s, h => thn h fun u s1 h1 => wpL_mono (wpL_len h1) fun us s2 ⟨a, b⟩ => ⟨by rw [List.length_cons, List.length_cons, a], b⟩
theorem allItems_cons {d : D} {r : List D} {ls : List (List D)} (h : allItems (d :: r) = some ls) : ∃ l k, ls = l :: k ∧ (d = .list l ∨ d = .tuple l) ∧ allItems r = some k := by
  cases d with
  | list l =>
    replace h : (allItems r).map (l :: ·) = some ls := h
    cases c : allItems r with
    | none => rw [c] at h; cases h
    | some k => rw [c] at h; cases h; exact ⟨l, k, rfl, .inl rfl, rfl⟩
  | tuple l =>
    replace h : (allItems r).map (l :: ·) = some ls := h
    cases c : allItems r with
    | none => rw [c] at h; cases h
    | some k => rw [c] at h; cases h; exact ⟨l, k, rfl, .inr rfl, rfl⟩
  | _ => cases h
theorem seqA_of {K : PySem.W.Frag} {w : World} {G : Hp} {d : D} {v : V} {l : List D} (h : Rp K w G d v) (hd : d = .list l ∨ d = .tuple l) : ∃ t a xs, v = .ref a ∧ SqA t K G a xs ∧ Rps K w G l xs := by
  rcases hd with rfl | rfl
  · obtain ⟨a, xs, h1, h2, _, h4⟩ := h
    exact ⟨false, a, xs, h1, h2, h4⟩
  · obtain ⟨a, xs, o, h1, h2, _, _, h5⟩ := h
    exact ⟨true, a, xs, h1, .inl (.inr ⟨o, h2⟩), h5⟩
def isA : Bool → Heap → Addr → Array Value → Prop
  | false, h, a, its => h.IsList a its
  | true, h, a, its => h.IsTuple a its
def begO : Bool → Addr → Obj
  | false, a => { cls := .type "list_iterator", data := .fields #[.ref a, .int 0 0] }
  | true, a => { cls := .type "tuple_iterator", data := .fields #[.ref a, .int 0 0] }
theorem beginsA (t : Bool) (a : Addr) (its : Array Value) : Begins (.ref a) (begO t a) (fun h => isA t h a its) := by
  cases t
  · exact begins_list a its
  · exact begins_tuple a its
theorem itA_beg {t : Bool} {it a : Addr} {h : Heap} (g : h.get? it = some (begO t a)) : itA t it a 0 h := by
  cases t <;> exact ⟨_, g, rfl, rfl⟩
theorem Inv.isA {X : Cx} {pins : List (Addr × Obj)} {σ : L2.St} {H : Hp} {s : Shared} {t : Bool} {a : Addr} {xs : List V} (I : L2.Inv X pins σ H s) (h : SqA t X.K H a xs) : ∃ (its : Array Value) (o : Obj), isA t s.heap a its ∧ a < s.heap.objs.size := by
  cases t
  · obtain ⟨its, r, p, _⟩ := I.list h
    obtain ⟨o, n, e, _⟩ := id p
    exact ⟨_, o, p.isList, Heap.lt_size e⟩
  · obtain ⟨its, r, p, _⟩ := I.tuple h
    obtain ⟨o, e, _⟩ := id p
    exact ⟨_, o, p, Heap.lt_size e⟩
theorem len2 {α : Type} : ∀ {l : List α}, l.length = 2 → ∃ a b, l = [a, b]
  | [a, b], _ => ⟨a, b, rfl⟩
theorem len3 {α : Type} : ∀ {l : List α}, l.length = 3 → ∃ a b c, l = [a, b, c]
  | [a, b, c], _ => ⟨a, b, c, rfl⟩
theorem zipD2_get : ∀ (n : Nat) (l1 l2 : List D), n ≤ l1.length → n ≤ l2.length → (zipD n [l1, l2]).length = n ∧ ∀ i, i < n → ∃ x1 x2, l1[i]? = some x1 ∧ l2[i]? = some x2 ∧ (zipD n [l1, l2])[i]? = some (.tuple [x1, x2])
  | 0, l1, l2, _, _ => ⟨rfl, fun i h => absurd h (Nat.not_lt_zero i)⟩
  | n + 1, y1 :: r1, y2 :: r2, g1, g2 => by
    obtain ⟨e1, e2⟩ := zipD2_get n r1 r2 (Nat.le_of_succ_le_succ g1) (Nat.le_of_succ_le_succ g2)
    have e : zipD (n + 1) [y1 :: r1, y2 :: r2] = .tuple [y1, y2] :: zipD n [r1, r2] := rfl
    rw [e]
    refine ⟨by rw [List.length_cons, e1], fun i h => ?_⟩
    cases i with
    | zero => exact ⟨y1, y2, rfl, rfl, rfl⟩
    | succ i => exact e2 i (Nat.lt_of_succ_lt_succ h)
  | n + 1, [], _, g1, _ => absurd g1 (Nat.not_succ_le_zero n)
  | n + 1, y1 :: r1, [], _, g2 => absurd g2 (Nat.not_succ_le_zero n)
theorem itD_zip2 {K : PySem.W.Frag} {w : World} {G1 : Hp} {t1 t2 : Bool} {a1 a2 : Addr} {l1 l2 : List D} {xs1 xs2 : List V} (h1 : SqA t1 K G1 a1 xs1) (h2 : SqA t2 K G1 a2 xs2) (r1 : Rps K w G1 l1 xs1) (r2 : Rps K w G1 l2 xs2) :
    ItD K w true G1 (zipD (zipLen [l1, l2]) [l1, l2]) (Itz2 t1 t2 K a1 a2) := by
  have hz : zipLen [l1, l2] = min (l1.length) l2.length := rfl
  have b1 : zipLen [l1, l2] ≤ l1.length := by rw [hz]; omega
  have b2 : zipLen [l1, l2] ≤ l2.length := by rw [hz]; omega
  obtain ⟨e1, e2⟩ := zipD2_get (zipLen [l1, l2]) l1 l2 b1 b2
  intro i G H s1 s2
  have q1 : SqA t1 K H a1 xs1 := SqA.up (s1.trans s2) h1
  have n1 := r1.length
  have q2 : SqA t2 K H a2 xs2 := SqA.up (s1.trans s2) h2
  have n2 := r2.length
  rw [e1]
  refine ⟨fun hi => ⟨xs1, xs2, q1, q2, by omega, by omega, ?_⟩, fun d hd => ?_⟩
  · rw [hz] at hi; omega
  · have hlt : i < zipLen [l1, l2] := by
      rw [← e1]; exact (List.getElem?_eq_some_iff.mp hd).1
    obtain ⟨d1, d2, f1, f2, e3⟩ := e2 i hlt
    rw [e3] at hd; cases hd
    obtain ⟨x1, g1, c1⟩ := r1.get f1
    obtain ⟨x2, g2, c2⟩ := r2.get f2
    refine ⟨⟨xs1, xs2, x1, x2, q1, q2, g1, g2⟩, fun y H' ⟨T, w1, w2, z1, z2, z3, k1, k2⟩ => ?_⟩
    subst z1 z3
    have k1 := k1 xs1 q1
    rw [g1] at k1; cases k1
    have k2 := k2 xs2 q2
    rw [g2] at k2; cases k2
    exact ⟨G, Ext.new1 s2 z2, .inr ⟨rfl, _, T, [x1, x2], rfl, rfl, .inl (.inl upd_same), ⟨x1, _, rfl, c1.mono s1, ⟨x2, _, rfl, c2.mono s1, rfl⟩⟩⟩⟩
theorem zipD3_get : ∀ (n : Nat) (l1 l2 l3 : List D), n ≤ l1.length → n ≤ l2.length → n ≤ l3.length → (zipD n [l1, l2, l3]).length = n ∧ ∀ i, i < n → ∃ x1 x2 x3, l1[i]? = some x1 ∧ l2[i]? = some x2 ∧ l3[i]? = some x3 ∧ (zipD n [l1, l2, l3])[i]? = some (.tuple [x1, x2, x3])
  | 0, l1, l2, l3, _, _, _ => ⟨rfl, fun i h => absurd h (Nat.not_lt_zero i)⟩
  | n + 1, y1 :: r1, y2 :: r2, y3 :: r3, g1, g2, g3 => by
    obtain ⟨e1, e2⟩ := zipD3_get n r1 r2 r3 (Nat.le_of_succ_le_succ g1) (Nat.le_of_succ_le_succ g2) (Nat.le_of_succ_le_succ g3)
    have e : zipD (n + 1) [y1 :: r1, y2 :: r2, y3 :: r3] = .tuple [y1, y2, y3] :: zipD n [r1, r2, r3] := rfl
    rw [e]
    refine ⟨by rw [List.length_cons, e1], fun i h => ?_⟩
    cases i with
    | zero => exact ⟨y1, y2, y3, rfl, rfl, rfl, rfl⟩
    | succ i => exact e2 i (Nat.lt_of_succ_lt_succ h)
  | n + 1, [], _, _, g1, _, _ => absurd g1 (Nat.not_succ_le_zero n)
  | n + 1, y1 :: r1, [], _, _, g2, _ => absurd g2 (Nat.not_succ_le_zero n)
  | n + 1, y1 :: r1, y2 :: r2, [], _, _, g3 => absurd g3 (Nat.not_succ_le_zero n)
theorem itD_zip3 {K : PySem.W.Frag} {w : World} {G1 : Hp} {t1 t2 t3 : Bool} {a1 a2 a3 : Addr} {l1 l2 l3 : List D} {xs1 xs2 xs3 : List V} (h1 : SqA t1 K G1 a1 xs1) (h2 : SqA t2 K G1 a2 xs2) (h3 : SqA t3 K G1 a3 xs3) (r1 : Rps K w G1 l1 xs1) (r2 : Rps K w G1 l2 xs2) (r3 : Rps K w G1 l3 xs3) :
    ItD K w true G1 (zipD (zipLen [l1, l2, l3]) [l1, l2, l3]) (Itz3 t1 t2 t3 K a1 a2 a3) := by
  have hz : zipLen [l1, l2, l3] = min (min (l1.length) l2.length) l3.length := rfl
  have b1 : zipLen [l1, l2, l3] ≤ l1.length := by rw [hz]; omega
  have b2 : zipLen [l1, l2, l3] ≤ l2.length := by rw [hz]; omega
  have b3 : zipLen [l1, l2, l3] ≤ l3.length := by rw [hz]; omega
  obtain ⟨e1, e2⟩ := zipD3_get (zipLen [l1, l2, l3]) l1 l2 l3 b1 b2 b3
  intro i G H s1 s2
  have q1 : SqA t1 K H a1 xs1 := SqA.up (s1.trans s2) h1
  have n1 := r1.length
  have q2 : SqA t2 K H a2 xs2 := SqA.up (s1.trans s2) h2
  have n2 := r2.length
  have q3 : SqA t3 K H a3 xs3 := SqA.up (s1.trans s2) h3
  have n3 := r3.length
  rw [e1]
  refine ⟨fun hi => ⟨xs1, xs2, xs3, q1, q2, q3, by omega, by omega, by omega, ?_⟩, fun d hd => ?_⟩
  · rw [hz] at hi; omega
  · have hlt : i < zipLen [l1, l2, l3] := by
      rw [← e1]; exact (List.getElem?_eq_some_iff.mp hd).1
    obtain ⟨d1, d2, d3, f1, f2, f3, e3⟩ := e2 i hlt
    rw [e3] at hd; cases hd
    obtain ⟨x1, g1, c1⟩ := r1.get f1
    obtain ⟨x2, g2, c2⟩ := r2.get f2
    obtain ⟨x3, g3, c3⟩ := r3.get f3
    refine ⟨⟨xs1, xs2, xs3, x1, x2, x3, q1, q2, q3, g1, g2, g3⟩, fun y H' ⟨T, w1, w2, w3, z1, z2, z3, k1, k2, k3⟩ => ?_⟩
    subst z1 z3
    have k1 := k1 xs1 q1
    rw [g1] at k1; cases k1
    have k2 := k2 xs2 q2
    rw [g2] at k2; cases k2
    have k3 := k3 xs3 q3
    rw [g3] at k3; cases k3
    exact ⟨G, Ext.new1 s2 z2, .inr ⟨rfl, _, T, [x1, x2, x3], rfl, rfl, .inl (.inl upd_same), ⟨x1, _, rfl, c1.mono s1, ⟨x2, _, rfl, c2.mono s1, ⟨x3, _, rfl, c3.mono s1, rfl⟩⟩⟩⟩⟩
theorem di_zip2 {X : Cx} {elts : List Expr} {kk : Nat} {tpos : Pos} {e1 e2 : Expr} {ts : Env → Res (List RV)} {p pos : Pos} (hg : Gl X "zip") (hm : X.mg "zip" = none) (hp : ([e1, e2].all plainE) = true) (hs : DEs X [e1, e2] ts) :
    DI X true (.Tuple elts kk tpos) (.Call (.Name "zip" p) [e1, e2] [] pos) (fun δ => (ts δ).bind fun rs δ1 => match frzs δ1 rs with
    | none => .bad
    | some (ds, δ2) => match allItems ds with
      | some ls => .ok (zipD (zipLen ls) ls) δ2
      | none => .bad) := by
  refine ⟨fun W z G₀ B tk pins s σ G H δ RR I R k => ?_⟩
  refine syn_call hg hm PyProof.Rows.boot_zip (by decide) (by decide) (.inr ⟨_, rfl⟩) hp I ?_
  refine wpL_mono (wpL_len (hs.go tk I R k)) fun us s1 ⟨hul, vs, rs, δ1, G1, H1, I1, R1, rv, hv, k1⟩ => ?_
  have hln := rv.length
  cases c : frzs δ1 rs with
  | none => simp only [c] at k1; exact k1.elim
  | some q =>
    obtain ⟨ds, δ2⟩ := q
    simp only [c] at k1
    obtain ⟨G2, R2, s2, hr⟩ := R1.frzs hv c
    cases c2 : allItems ds with
    | none => simp only [c2] at k1; exact k1.elim
    | some ls =>
      simp only [c2] at k1
      replace k1 := (k1.base s2).use R2
      have hdl := hr.length
      have hul : us.length = 2 := hul
      have hd2 : ds.length = 2 := by omega
      clear hdl hln hv
      obtain ⟨u1, u2, rfl⟩ := len2 hul
      obtain ⟨d1, d2, rfl⟩ := len2 hd2
      · skip
        obtain ⟨v1, m1, rfl, hd1, hr⟩ := hr
        obtain ⟨v2, m2, rfl, hd2, hr⟩ := hr
        cases hr
        obtain ⟨l1, k1l, rfl, w1, c2⟩ := allItems_cons c2
        obtain ⟨l2, k2l, rfl, w2, c2⟩ := allItems_cons c2
        cases c2
        obtain ⟨t1, a1, xs1, rfl, q1, r1⟩ := seqA_of hd1 w1
        obtain ⟨t2, a2, xs2, rfl, q2, r2⟩ := seqA_of hd2 w2
        cases rv with
        | cons b1 rv =>
          cases rv with
          | cons b2 rv =>
            cases rv
            cases b1
            cases b2
            obtain ⟨its1, o1, j1, lt1⟩ := Inv.isA I1 (SqA.up R2.gh q1)
            obtain ⟨its2, o2, j2, lt2⟩ := Inv.isA I1 (SqA.up R2.gh q2)
            refine zip_begins2 (beginsA t1 a1 its1) (beginsA t2 a2 its2) j1 j2 fun h' hz hTI hTO g1 g2 hsz hk => wpAny_pyIter_zip hz ?_
            have I2 : Inv X pins σ H1 { s1 with heap := h' } := I1.kept (t' := s1.toks) hk
            refine ⟨s1.heap.objs.size + 4, [s1.heap.objs.size + 4, s1.heap.objs.size + 2, s1.heap.objs.size + 3, s1.heap.objs.size, s1.heap.objs.size + 1], _, _, H1, rfl, I2, turn_zip2A (zip_sep2 (fp1 := [a1]) (fun b hb => by rw [List.mem_singleton.mp hb]; exact lt1) (fp2 := [a2]) (fun b hb => by rw [List.mem_singleton.mp hb]; exact lt2)) (Nat.ne_of_lt (Nat.lt_of_lt_of_le lt1 (Nat.le_add_right _ 0))) (Nat.ne_of_lt (Nat.lt_of_lt_of_le lt2 (Nat.le_add_right _ 1))), ⟨hz, hTI, ⟨.none, .none, hTO⟩, itA_beg g1, itA_beg g2⟩, fun b hb => ?_, k1 _ (itD_zip2 q1 q2 r1 r2)⟩
            have hle : s1.heap.objs.size ≤ b := by
              simp only [List.mem_cons, List.not_mem_nil, or_false] at hb
              rcases hb with q | q | q | q | q <;> (rw [q]; first | exact Nat.le_refl _ | exact Nat.le_add_right _ _)
            exact I1.fpOk hle (I1.hok.fresh hle)
theorem di_zip3 {X : Cx} {elts : List Expr} {kk : Nat} {tpos : Pos} {e1 e2 e3 : Expr} {ts : Env → Res (List RV)} {p pos : Pos} (hg : Gl X "zip") (hm : X.mg "zip" = none) (hp : ([e1, e2, e3].all plainE) = true) (hs : DEs X [e1, e2, e3] ts) :
    DI X true (.Tuple elts kk tpos) (.Call (.Name "zip" p) [e1, e2, e3] [] pos) (fun δ => (ts δ).bind fun rs δ1 => match frzs δ1 rs with
    | none => .bad
    | some (ds, δ2) => match allItems ds with
      | some ls => .ok (zipD (zipLen ls) ls) δ2
      | none => .bad) := by
  refine ⟨fun W z G₀ B tk pins s σ G H δ RR I R k => ?_⟩
  refine syn_call hg hm PyProof.Rows.boot_zip (by decide) (by decide) (.inr ⟨_, rfl⟩) hp I ?_
  refine wpL_mono (wpL_len (hs.go tk I R k)) fun us s1 ⟨hul, vs, rs, δ1, G1, H1, I1, R1, rv, hv, k1⟩ => ?_
  have hln := rv.length
  cases c : frzs δ1 rs with
  | none => simp only [c] at k1; exact k1.elim
  | some q =>
    obtain ⟨ds, δ2⟩ := q
    simp only [c] at k1
    obtain ⟨G2, R2, s2, hr⟩ := R1.frzs hv c
    cases c2 : allItems ds with
    | none => simp only [c2] at k1; exact k1.elim
    | some ls =>
      simp only [c2] at k1
      replace k1 := (k1.base s2).use R2
      have hdl := hr.length
      have hul : us.length = 3 := hul
      have hd2 : ds.length = 3 := by omega
      clear hdl hln hv
      obtain ⟨u1, u2, u3, rfl⟩ := len3 hul
      obtain ⟨d1, d2, d3, rfl⟩ := len3 hd2
      · skip
        obtain ⟨v1, m1, rfl, hd1, hr⟩ := hr
        obtain ⟨v2, m2, rfl, hd2, hr⟩ := hr
        obtain ⟨v3, m3, rfl, hd3, hr⟩ := hr
        cases hr
        obtain ⟨l1, k1l, rfl, w1, c2⟩ := allItems_cons c2
        obtain ⟨l2, k2l, rfl, w2, c2⟩ := allItems_cons c2
        obtain ⟨l3, k3l, rfl, w3, c2⟩ := allItems_cons c2
        cases c2
        obtain ⟨t1, a1, xs1, rfl, q1, r1⟩ := seqA_of hd1 w1
        obtain ⟨t2, a2, xs2, rfl, q2, r2⟩ := seqA_of hd2 w2
        obtain ⟨t3, a3, xs3, rfl, q3, r3⟩ := seqA_of hd3 w3
        cases rv with
        | cons b1 rv =>
          cases rv with
          | cons b2 rv =>
            cases rv with
            | cons b3 rv =>
              cases rv
              cases b1
              cases b2
              cases b3
              obtain ⟨its1, o1, j1, lt1⟩ := Inv.isA I1 (SqA.up R2.gh q1)
              obtain ⟨its2, o2, j2, lt2⟩ := Inv.isA I1 (SqA.up R2.gh q2)
              obtain ⟨its3, o3, j3, lt3⟩ := Inv.isA I1 (SqA.up R2.gh q3)
              refine zip_begins3 (beginsA t1 a1 its1) (beginsA t2 a2 its2) (beginsA t3 a3 its3) j1 j2 j3 fun h' hz hTI hTO g1 g2 g3 hsz hk => wpAny_pyIter_zip hz ?_
              have I2 : Inv X pins σ H1 { s1 with heap := h' } := I1.kept (t' := s1.toks) hk
              refine ⟨s1.heap.objs.size + 5, [s1.heap.objs.size + 5, s1.heap.objs.size + 3, s1.heap.objs.size + 4, s1.heap.objs.size, s1.heap.objs.size + 1, s1.heap.objs.size + 2], _, _, H1, rfl, I2, turn_zip3A (zip_sep3 (fp1 := [a1]) (fun b hb => by rw [List.mem_singleton.mp hb]; exact lt1) (fp2 := [a2]) (fun b hb => by rw [List.mem_singleton.mp hb]; exact lt2) (fp3 := [a3]) (fun b hb => by rw [List.mem_singleton.mp hb]; exact lt3)) (Nat.ne_of_lt (Nat.lt_of_lt_of_le lt1 (Nat.le_add_right _ 0))) (Nat.ne_of_lt (Nat.lt_of_lt_of_le lt2 (Nat.le_add_right _ 1))) (Nat.ne_of_lt (Nat.lt_of_lt_of_le lt3 (Nat.le_add_right _ 2))), ⟨hz, hTI, ⟨.none, .none, .none, hTO⟩, itA_beg g1, itA_beg g2, itA_beg g3⟩, fun b hb => ?_, k1 _ (itD_zip3 q1 q2 q3 r1 r2 r3)⟩
              have hle : s1.heap.objs.size ≤ b := by
                simp only [List.mem_cons, List.not_mem_nil, or_false] at hb
                rcases hb with q | q | q | q | q | q <;> (rw [q]; first | exact Nat.le_refl _ | exact Nat.le_add_right _ _)
              exact I1.fpOk hle (I1.hok.fresh hle)
end DL
set_option Elab.async false
set_option linter.all false
set_option maxRecDepth 100000
set_option maxHeartbeats 2000000
/-! Layer D, part M3: append, pop, name op= e, xs[k] op= e. -/
namespace DL
open PySem PySem.Spec PyProof.Rows L2
section
variable {X : Cx} {W : WX} {z : Option Addr} {G₀ B G G' H : Hp} {σ : L2.St} {δ δ' : Env}
/-- the list at an owned slot's address: its type, no instance dict -/
theorem list_mth {pins : List (Addr × Obj)} {s : Shared} {p : Addr} {xs : List V} (I : Inv X pins σ H s) (hp : H p = some (.lst xs)) : s.TypeIs (.ref p) "list" ∧ ∀ a, Value.ref p = .ref a → ∃ o, s.heap.get? a = some o ∧ o.dict = none := by
  obtain ⟨its, r, pl, _⟩ := I.list (.inl (.inl hp))
  refine ⟨pl.isList.typeIs, fun a e => ?_⟩
  cases e
  obtain ⟨o, n, e, c, hd, _⟩ := pl
  exact ⟨o, e, hd⟩
theorem few1 {e : Expr} (he : plainE e = true) (cpos : Pos) (env : PySem.Env) : ((backTo cpos (starEach [e] env)).all (fun x => !x.1) && (backToKw cpos (keywordEach [] env)).all (fun x => x.1.isSome)
    && decide (([e] : List Expr).length + ([] : List Keyword).length + (if ([] : List Keyword).isEmpty then 0 else 1) < 30)) = true := by
  rw [star_cons he]; rfl
theorem needLS_ok {α : Type} {i : Nat} {r : Res α} {C : α → Env → L2.St → Hp → Hp → Prop} (k : KontS X W z G₀ B G (needL δ i r) C) : (∃ ds, ownS δ i = some (.list ds)) ∧ KontS X W z G₀ B G r C := by
  unfold needL at k
  split at k
  · rename_i ds h
    exact ⟨⟨ds, h⟩, k⟩
  · exact k.elim
theorem needL_ok {α : Type} {i : Nat} {r : Res α} {C : α → Env → Hp → Hp → Prop} (k : Kont X W z G₀ B G σ (needL δ i r) C) : (∃ ds, ownS δ i = some (.list ds)) ∧ Kont X W z G₀ B G σ r C := by
  unfold needL at k
  split at k
  · rename_i ds h
    exact ⟨⟨ds, h⟩, k⟩
  · exact k.elim
theorem ds_app {i : Nat} {x : Str} {e : Expr} {c : Ex} {p' apos cpos pos : Pos} (hN : X.N[i]? = some x) (hv : Vis X.env.scope x) (hdb : (x == ("__debug__" : Str)) = false) (hcd : (x == ("__classdict__" : Str)) = false) (he : DE X e (ev c)) (hp : plainE e = true) (hl : (apos.endLine == cpos.line) = true) :
    DS X (.Expr (.Call (.Attribute (.Name x p') "append" apos) [e] [] cpos) pos) (evS (.app i c)) := fun W tk => by
  refine ⟨fun pins s σ H D I ⟨z, G₀, B, G, δ, R, k⟩ => ?_⟩
  unfold evS at k
  obtain ⟨⟨ds0, ho⟩, k⟩ := needLS_ok k
  obtain ⟨pa, o0, hs0, _, _, hH0, ok0⟩ := R.own ho
  obtain ⟨xs0, rfl, _, _⟩ := ok0
  refine wpAny_Expr_any (wpAny_Call_method_late rfl (few1 hp _ _) hl rfl (own_name hN hv hdb hcd I hs0 fun s1 I1 => ?_)) I.quiet (noLc_sw rfl _ _ _)
  obtain ⟨m1, m2⟩ := list_mth I1 hH0
  refine ⟨"list", _, PySem.F.plainAttrs_list, PySem.F.slot_list_append, type_list_append, m1, m2, ?_⟩
  rw [star_cons hp]
  refine Calls.callWith_builtin rfl (Calls.evalArgs_plain (Calls.spliced_cons (he.run W z G₀ B tk pins s1 σ G H δ _ I1 R ((k.at σ).imp fun r δ1 G1 H1 R1 s1' k1 u s2 v I2 rv hv => Calls.spliced_nil ?_))))
  cases c1 : frz δ1 r with
  | none => simp only [c1] at k1; exact k1.elim
  | some q =>
    obtain ⟨xd, δ2⟩ := q
    simp only [c1] at k1
    obtain ⟨G2, R2, s2', hx⟩ := R1.frz hv c1
    cases c2 : ownS δ2 i with
    | none => simp only [c2, Option.bind_none] at k1; exact k1.elim
    | some d =>
      simp only [c2, Option.bind_some] at k1
      cases c3 : appD d xd with
      | none => simp only [c3] at k1; exact k1.elim
      | some d' =>
        simp only [c3] at k1
        cases c4 : putS δ2 i d' with
        | none => simp only [c4] at k1; exact k1.elim
        | some δ3 =>
          simp only [c4] at k1
          obtain ⟨p2, o2, h1, _, _, h4, h5⟩ := R2.own c2
          rw [hs0] at h1; cases h1
          cases d with
          | list ds =>
            obtain ⟨xs, rfl, hz, hr⟩ := h5
            replace c3 : (if ds.length < big then some (PyData.list (ds ++ [xd])) else none) = some d' := c3
            split at c3
            · rename_i hlt
              cases c3
              have hz' : ds.length < 16777216 := hlt
              have hln := hr.length
              exact thn (mt_append pins s2 σ H1 (.ref pa) [v] (.ref pa) [u] (fun v' H' => v' = .non ∧ H' = upd H1 pa (.lst (xs ++ [v]))) I2 rfl (.cons rv .nil) ⟨pa, xs, v, rfl, rfl, h4, by rw [sizeLine_eq]; omega, rfl, rfl⟩) fun w s3 ⟨v', H', I3, _, e1, e2⟩ => by
                subst e1 e2
                refine ⟨σ, _, I3, (k1.base s2').use (R2.put (d := .list (ds ++ [xd])) hs0 (ownS_own c2) ⟨xs ++ [v], rfl, by rw [List.length_append, sizeLine_eq]; simp; omega, hr.append ⟨v, [], rfl, hx, rfl⟩⟩ c4)⟩
            · cases c3
          | _ => cases c3

/-! ### name op= e -/
def augB : Op → Option Operator
  | .add => some .Add
  | .sub => some .Sub
  | .mul => some .Mult
  | _ => none
/-- in place, of two ints -/
theorem ipv {o : Op} {p : Operator} {pins : List (Addr × Obj)} {s : Shared} {v u : Value} {x y : V} {a b d : D} (h : augB o = some p) (I : Inv X pins σ H s) (rx : RelV x v) (ry : RelV y u) (e : Same G H) (hx : Rd1 X.K X.w G H a x) (hy : Rd1 X.K X.w G H b y) (hr : augD o a b = some d) :
    wpAny (model X.prog X.w) X.A (inplaceOp p v u) (fun w s' => ∃ n : Int, Inv X pins σ H s' ∧ RelV (.int n) w ∧ d = .int n) X.xe s := by
  unfold augD at hr
  split at hr
  · have := hx.int; subst this
    have := hy.int; subst this
    cases hr
    cases h
    exact thn (iop_add pins s σ H _ _ v u (fun v' H' => v' = .int _ ∧ H' = H) I rx ry ⟨_, _, rfl, rfl, rfl, rfl⟩) fun w s' ⟨v', H', I', ru, e1, e2⟩ => by
      subst e1 e2; exact ⟨_, I', ru, rfl⟩
  · have := hx.int; subst this
    have := hy.int; subst this
    cases hr
    cases h
    exact thn (iop_sub pins s σ H _ _ v u (fun v' H' => v' = .int _ ∧ H' = H) I rx ry ⟨_, _, rfl, rfl, rfl, rfl⟩) fun w s' ⟨v', H', I', ru, e1, e2⟩ => by
      subst e1 e2; exact ⟨_, I', ru, rfl⟩
  · split at hr
    · rename_i hm
      have := hx.int; subst this
      have := hy.int; subst this
      cases hr
      cases h
      obtain ⟨t, rfl⟩ := rx
      obtain ⟨t', rfl⟩ := ry
      exact imul_int ⟨_, I.tok _, ⟨_, rfl⟩, rfl⟩ (okMul_ok hm)
    · cases hr
  · cases hr
theorem ds_aug {i : Nat} {x : Str} {e : Expr} {c : Ex} {o : Op} {p : Operator} {p' pos : Pos} (hb : augB o = some p) (hN : X.N.Nodup) (hi : X.N[i]? = some x) (hx : Loc X.env.scope x) (hf : X.fn x = true ∨ X.env.scope.names.lookup x = some .local) (he : DE X e (ev c)) :
    DS X (.AugAssign (.Name x p') p e pos) (evS (.aug i o c)) := fun W tk => by
  refine ⟨fun pins s σ H D I ⟨z, G₀, B, G, δ, R, k⟩ => ?_⟩
  unfold evS at k
  cases c0 : getS δ i with
  | sh xd =>
    simp only [c0] at k
    have q := R.slot i
    rw [c0] at q
    obtain ⟨v, hsv, hv⟩ := q
    have e1 : σ[i]? = some (some v) := by
      unfold slotV at hsv
      rw [List.getD_eq_getElem?_getD] at hsv
      cases q : σ[i]? with
      | none => rw [q] at hsv; cases hsv
      | some o => rw [q] at hsv; cases hsv; rfl
    obtain ⟨m, hn, hl⟩ := I.loc
    have vis : Vis X.env.scope x := by rcases hx with k | k; exact .inl k; exact .inr (.inl k)
    obtain ⟨u, r, l⟩ := hl i x v hi e1 vis
    refine wpAny_AugAssign_Name ?_
    have go : wpAny (model X.prog X.w) X.A (eval e X.env) (fun w s₂ => wpAny (model X.prog X.w) X.A (inplaceOp p u w) (fun r s₃ => wpAny (model X.prog X.w) X.A (storeName X.env x r) (fun _ => SP X pins D .next) X.xe s₃) X.xe s₂) X.xe s := by
      refine he.run W z G₀ B tk pins s σ G H δ _ I R ((k.at σ).imp fun r2 δ1 G1 H1 R1 s1 k1 => ?_)
      intro w s2 y I2 ry hy
      obtain ⟨G2, R2, sg2, hy2⟩ := R1.held hy
      have e0 : dat δ1 (hold r2) = dat δ1 r2 := by cases r2 <;> rfl
      cases c1 : dat δ1 r2 with
      | none => simp only [c1] at k1; exact k1.elim
      | some yd =>
        simp only [c1] at k1
        cases c2 : augD o xd yd with
        | none => simp only [c2] at k1; exact k1.elim
        | some d =>
          simp only [c2] at k1
          cases c3 : setS δ1 i (.sh d) with
          | none => rw [c3] at k1; exact k1.elim
          | some δ2 =>
            rw [c3] at k1
            refine thn (ipv hb I2 r ry R2.gh (.inl (hv.mono (s1.trans sg2))) (R2.read hy2 (e0.trans c1)) c2) fun w2 s3 ⟨n, I3, rn, en⟩ => ?_
            subst en
            obtain ⟨e3, _⟩ := setS_ok c3
            subst e3
            exact store_ok I3 hN hi hx rn (fun s4 I4 => ⟨_, H1, I4, (k1.base sg2).use (R2.setSh (v := .int n) rfl)⟩) hf
    rcases l with ⟨hk, hm⟩ | ⟨hk, c, hc, hcell⟩
    · exact wpAny_loadName_local I.ok.kind hk hn hm go
    · rcases hk with hk | hk
      · exact wpAny_loadName_cell I.ok.kind hk hc hcell go
      · rcases hx with k | k
        · have : X.env.scope.names.lookup x = some .free := hk
          rw [k] at this; cases this
        · have : X.env.scope.names.lookup x = some .free := hk
          rw [k] at this; cases this
  | non => simp only [c0] at k; exact k.elim
  | ow d => simp only [c0] at k; exact k.elim
  | io d => simp only [c0] at k; exact k.elim
end
end DL
set_option Elab.async false
set_option linter.all false
set_option maxRecDepth 100000
set_option maxHeartbeats 2000000
/-! Layer D, part M4: raise; in, not in. -/
namespace DL
open PySem PySem.Spec PyProof.Rows L2
/-- a class that may be raised -/
structure ExcOk (K : PySem.W.Frag) (mg : Str → Option Value) (c : Str) : Prop where
  ok : ∃ C, mg c = some (.ref C) ∧ PySem.W.excIn K C He.veBase "ValueError.__new__" = true ∧ PySem.W.keepIn K (.ref C) = true ∧ PySem.W.subIn K (.ref C) (.type "BaseException") = some true ∧ PySem.W.typeIn K (.ref C) = some (.type "type")
theorem ds_raise {X : Cx} {c m : Str} {j : Nat} {p p2 cpos pos : Pos} (hc : X.calm = true) (E : ExcOk X.K X.mg c) (hg : Gl X c) (hdb : (c == ("__debug__" : Str)) = false) :
    DS X (.Raise (some (.Call (.Name c p) [.Constant (.str m) j p2] [] cpos)) none pos) (evS (.raise c (.cst (.str m)))) := fun W tk => by
  obtain ⟨C, gC, q, kC, r1, r2⟩ := E.ok
  refine DS.of tk (ps_raise hc tk (pmk_own PySem.F.excBase_ValueError q gC kC (raises_own r1 r2) hg hdb)) fun D σ H z G₀ B G δ R k => ?_
  unfold evS ev at k
  have := k σ G H R (Same.refl _)
  unfold clsV at this
  rw [gC] at this
  exact this
section
variable {X : Cx}
theorem plain_list {ds : List D} (h : plainD (.list ds) = true) : PyData.plainAll ds = true ∧ PyData.depthAll ds ≤ 60 := by
  unfold plainD at h
  rw [Bool.and_eq_true, decide_eq_true_eq, PyData.plain, PyData.depth] at h
  exact ⟨h.1, by omega⟩
theorem ov_in (hu : X.A.units + 64 < cLine) : OpV X (opD .isin) (sem2 (compareOp .In)) := by
  refine ov2 (sh2 (fun _ _ _ _ => rfl) (fun _ => rfl) rfl) fun pins s σ G H x y v u a b r I rx ry e ha hb hg => ?_
  replace hg : inD false a b = some r := hg
  unfold inD boolR at hg
  split at hg
  · rename_i ds
    split at hg
    · rename_i hm
      rw [Bool.and_eq_true] at hm
      cases hg
      obtain ⟨p1, d1, as, r1⟩ := reads_of I rx e ha hm.1
      obtain ⟨p2, d2, bs, r2⟩ := reads_of I ry e hb hm.2
      exact PySem.SeqAt.in_list_data r2 r1 (plain_list hm.2).1 p1 (by have := Nat.min_le_right (PyData.depthAll ds) (PyData.depth a); omega) (OpP.flat (v := .bl _) I rfl e fun _ _ _ => by show V.bl _ = V.bl _; simp)
    · cases hg
  · rename_i ds
    split at hg
    · rename_i hm
      rw [Bool.and_eq_true] at hm
      cases hg
      obtain ⟨p1, d1, as, r1⟩ := reads_of I rx e ha hm.1
      obtain ⟨p2, d2, bs, r2⟩ := reads_of I ry e hb hm.2
      exact PySem.SeqAt.in_tuple_data r2 r1 (by rw [PyData.plain] at p2; exact p2) p1 (by have := Nat.min_le_right (PyData.depthAll ds) (PyData.depth a); omega) (OpP.flat (v := .bl _) I rfl e fun _ _ _ => by show V.bl _ = V.bl _; simp)
    · cases hg
  · simp [dictsOn] at hg
  · cases hg
theorem ov_notin (hu : X.A.units + 64 < cLine) : OpV X (opD .notin) (sem2 (compareOp .NotIn)) := by
  refine ov2 (sh2 (fun _ _ _ _ => rfl) (fun _ => rfl) rfl) fun pins s σ G H x y v u a b r I rx ry e ha hb hg => ?_
  replace hg : inD true a b = some r := hg
  unfold inD boolR at hg
  split at hg
  · rename_i ds
    split at hg
    · rename_i hm
      rw [Bool.and_eq_true] at hm
      cases hg
      obtain ⟨p1, d1, as, r1⟩ := reads_of I rx e ha hm.1
      obtain ⟨p2, d2, bs, r2⟩ := reads_of I ry e hb hm.2
      exact PySem.SeqAt.notIn_list_data r2 r1 (plain_list hm.2).1 p1 (by have := Nat.min_le_right (PyData.depthAll ds) (PyData.depth a); omega) (OpP.flat (v := .bl _) I rfl e fun _ _ _ => by show V.bl _ = V.bl _; simp)
    · cases hg
  · rename_i ds
    split at hg
    · rename_i hm
      rw [Bool.and_eq_true] at hm
      cases hg
      obtain ⟨p1, d1, as, r1⟩ := reads_of I rx e ha hm.1
      obtain ⟨p2, d2, bs, r2⟩ := reads_of I ry e hb hm.2
      exact PySem.SeqAt.notIn_tuple_data r2 r1 (by rw [PyData.plain] at p2; exact p2) p1 (by have := Nat.min_le_right (PyData.depthAll ds) (PyData.depth a); omega) (OpP.flat (v := .bl _) I rfl e fun _ _ _ => by show V.bl _ = V.bl _; simp)
    · cases hg
  · simp [dictsOn] at hg
  · cases hg
theorem foldl_min : ∀ (ns : List Int) (x : Int), (ns.foldl min x = x ∨ ns.foldl min x ∈ ns) ∧ ns.foldl min x ≤ x ∧ ∀ y ∈ ns, ns.foldl min x ≤ y
  | [], x => ⟨.inl rfl, Int.le_refl _, fun _ h => nomatch h⟩
  | n :: ns, x => by
    obtain ⟨h1, h2, h3⟩ := foldl_min ns (min x n)
    rw [List.foldl_cons]
    refine ⟨?_, by omega, fun y hy => ?_⟩
    · rcases h1 with h1 | h1
      · rw [h1]
        rcases Int.le_total x n with q | q
        · exact .inl (Int.min_eq_left q)
        · exact .inr (by rw [Int.min_eq_right q]; exact .head _)
      · exact .inr (.tail _ h1)
    · cases hy with
      | head => omega
      | tail _ hy => exact h3 y hy
theorem foldl_max : ∀ (ns : List Int) (x : Int), (ns.foldl max x = x ∨ ns.foldl max x ∈ ns) ∧ x ≤ ns.foldl max x ∧ ∀ y ∈ ns, y ≤ ns.foldl max x
  | [], x => ⟨.inl rfl, Int.le_refl _, fun _ h => nomatch h⟩
  | n :: ns, x => by
    obtain ⟨h1, h2, h3⟩ := foldl_max ns (max x n)
    rw [List.foldl_cons]
    refine ⟨?_, by omega, fun y hy => ?_⟩
    · rcases h1 with h1 | h1
      · rw [h1]
        rcases Int.le_total x n with q | q
        · exact .inr (by rw [Int.max_eq_right q]; exact .head _)
        · exact .inl (Int.max_eq_left q)
      · exact .inr (.tail _ h1)
    · cases hy with
      | head => omega
      | tail _ hy => exact h3 y hy
theorem ov_mn (hc : X.calm = true) : OpV X (opD .mn) (sem1 fun v => call (.builtin "min") [v]) := by
  refine ov1 (sh1 (fun _ _ _ => rfl) rfl) fun pins s σ G H x v a r I rx e ha hg => ?_
  replace hg : mnD a = some r := hg
  unfold mnD at hg
  split at hg
  · rename_i ds
    cases c : intsOf ds with
    | none => rw [c] at hg; cases hg
    | some ns =>
      rw [c] at hg
      cases ns with
      | nil => cases hg
      | cons n ns =>
        cases hg
        obtain ⟨p, xs, rfl, h1, h2, h3⟩ := ha.list e
        rw [h3.ints c] at h1
        obtain ⟨m1, m2, m3⟩ := foldl_min ns n
        refine call_flat (v := .int (ns.foldl min n)) (cr_min hc) I (.cons rx .nil) e (fun Q q => ⟨p, n :: ns, rfl, h1, Nat.succ_pos _, fun m hm hy => ?_⟩) fun _ _ _ => rfl
        have e1 : m = ns.foldl min n := by
          refine Int.le_antisymm ?_ ?_
          · rcases m1 with m1 | m1
            · rw [m1]; exact hy _ (.head _)
            · exact hy _ (.tail _ m1)
          · cases hm with
            | head => exact m2
            | tail _ hm => exact m3 _ hm
        rw [e1]; exact q
  · cases hg
theorem ov_mx (hc : X.calm = true) : OpV X (opD .mx) (sem1 fun v => call (.builtin "max") [v]) := by
  refine ov1 (sh1 (fun _ _ _ => rfl) rfl) fun pins s σ G H x v a r I rx e ha hg => ?_
  replace hg : mxD a = some r := hg
  unfold mxD at hg
  split at hg
  · rename_i ds
    cases c : intsOf ds with
    | none => rw [c] at hg; cases hg
    | some ns =>
      rw [c] at hg
      cases ns with
      | nil => cases hg
      | cons n ns =>
        cases hg
        obtain ⟨p, xs, rfl, h1, h2, h3⟩ := ha.list e
        rw [h3.ints c] at h1
        obtain ⟨m1, m2, m3⟩ := foldl_max ns n
        refine call_flat (v := .int (ns.foldl max n)) (cr_max hc) I (.cons rx .nil) e (fun Q q => ⟨p, n :: ns, rfl, h1, Nat.succ_pos _, fun m hm hy => ?_⟩) fun _ _ _ => rfl
        have e1 : m = ns.foldl max n := by
          refine Int.le_antisymm ?_ ?_
          · cases hm with
            | head => exact m2
            | tail _ hm => exact m3 _ hm
          · rcases m1 with m1 | m1
            · rw [m1]; exact hy _ (.head _)
            · exact hy _ (.tail _ m1)
        rw [e1]; exact q
  · cases hg
end
end DL
set_option Elab.async false
set_option linter.all false
set_option maxRecDepth 100000
set_option maxHeartbeats 2000000
/-! Layer D, part M5: sorted; count. -/
namespace DL
open PySem PySem.Calls PyProof.Rows PySem.W
section
variable {prog : Program} {w : World} {A : Around} {E : Value → Shared → Prop} {s : Shared}
theorem collect_tup {l : Addr} {vs : List Value} {Q : List Value → Shared → Prop} (hl : s.heap.IsTuple l vs.toArray)
    (h : Q vs { s with heap := (s.heap.push (seqObj "list" #[] 0)).update s.heap.objs.size (Obj.mapSeq (· ++ vs.toArray)) }) (hsz : vs.length ≤ sizeLine) :
    wpAny (model prog w) A (collect (.ref l)) Q E s := by
  obtain ⟨o, ho, hc, n, hd⟩ := id hl
  unfold collect
  refine wpAny_bind (wpAny_runValue (codeAny_builtin entry_proto_collect' ?_))
  show wpAny _ _ (do again (.builtin "list.__iadd__" ⟨[← newList [], .ref l], []⟩)) _ _ s
  refine wpAny_bind (wpAny_newList (wpAny_pure ⟨Code.quiet_builtin _ (by decide +kernel), codeAny_builtin entry_list_iadd' ?_⟩))
  show wpAny _ _ (Builtin.List.listExtendWith (.ref s.heap.objs.size) (.ref l) (.ref s.heap.objs.size)) _ _ { s with heap := s.heap.push (seqObj "list" #[] 0) }
  unfold Builtin.List.listExtendWith
  have ho' : (s.heap.push (seqObj "list" #[] 0)).get? l = some o := Heap.get?_push_of_some _ ho
  refine wpAny_bind (wpAny_typeOf (T := "tuple") ⟨o, ho', hc⟩ ?_)
  have ht : (Value.type "tuple" == Value.type "tuple") = true := by rfl
  rw [if_pos (by rw [ht]; simp)]
  refine wpAny_bind (listItems_at ho' hd ?_)
  refine wpAny_bind (listItems_at (xs := #[]) (n := 0) (Heap.get?_push_size _ rfl) rfl ?_)
  rw [if_neg (by simp)]
  refine wpAny_bind (listUpdate_at (xs := #[]) (n := 0) (Heap.get?_push_size _ rfl) rfl ?_ (Nat.zero_le _) (by show (#[] ++ vs.toArray).size ≤ sizeLine + 1; simp only [Array.size_append, List.size_toArray, List.length_nil]; omega))
  refine wpAny_pure ?_
  show wpAny (model prog w) A (do
      let o ← load s.heap.objs.size
      match o.data with
      | .seq xs _ => pure xs.toList
      | _ => unsupported "internal:collect") Q E { s with heap := (s.heap.push (seqObj "list" #[] 0)).update s.heap.objs.size (Obj.mapSeq (· ++ vs.toArray)) }
  refine wpAny_bind (wpAny_load (get?_update_seq (Heap.get?_push_size _ rfl) _) ?_)
  show wpAny _ _ (pure ((#[] : Array Value) ++ vs.toArray).toList) Q E _
  rw [show ((#[] : Array Value) ++ vs.toArray).toList = vs by simp]
  exact wpAny_pure h
/-- sorted of a list or a tuple -/
theorem sorted_seq {l : Addr} {vs : List Value} {κ : PyProof.Rows.KeyKind} {Q : Value → Shared → Prop} (hl : s.heap.IsTuple l vs.toArray) (hL : vs.length ≤ sizeLine)
    (S : SortsAt prog w A.in1.in1 { s with heap := sortingHeap (copyHeap s.heap vs) (s.heap.objs.size + 1) vs } κ vs)
    (h : Q (.ref (s.heap.objs.size + 1)) { s with heap := sortedAll s.heap vs (sortVals κ false vs vs).toArray }) : wpAny (model prog w) A (call (.builtin "sorted") [.ref l]) Q E s := by
  refine call_function_entry_kw kind_sorted plain_sorted entry_sorted (args_sorted1 _) ?_
  unfold Builtin.«sorted»
  refine wpAny_bind (m := checkCount "sorted" 1 1 _) (wpAny_pure ?_)
  refine wpAny_bind (collect_tup hl ?_ hL)
  refine wpAny_bind (wpAny_newList ?_ hL)
  have hsz : ((s.heap.push (seqObj "list" #[] 0)).update s.heap.objs.size (Obj.mapSeq (· ++ vs.toArray))).objs.size = s.heap.objs.size + 1 := by
    rw [Heap.size_update, size_push']
  show wpAny _ _ _ _ _ { s with heap := copyHeap s.heap vs }
  rw [hsz]
  refine wpAny_bind (wpAny_holding (wpAny_call_entry_kw slot_list_sort ⟨_, copyHeap_at s.heap vs, rfl⟩ entry_list_sort ?body (args_list_sort _)))
  case body =>
    show wpAny (model prog w) A.in1.in1 (Builtin.«list.sort» ⟨[.ref (s.heap.objs.size + 1)], []⟩) _ _ _
    refine wpAny_mono (list_sort_vals (P := fun f s' => f = .done (.ret .none) ∧ Q (.ref (s.heap.objs.size + 1)) s') (s := { s with heap := copyHeap s.heap vs }) (copyHeap_at s.heap vs) S hL ⟨rfl, h⟩) (fun f s' hf => ?_) fun _ _ e => e
    obtain ⟨rfl, hq⟩ := hf
    exact ⟨_, rfl, wpAny_pure ⟨_, rfl, hq⟩⟩
theorem sorted_two {l : Addr} {vs : List Value} {bs : List (D × V)} {R : Value → D × V → Prop} {Q : Value → Shared → Prop} (hl : s.heap.IsList l vs.toArray ∨ s.heap.IsTuple l vs.toArray) (e : EachIs R vs bs) (er : EachIs (fun v b => ∃ as, Reads s.heap v b.1 as) vs bs)
    (hal : AllAlike (bs.map (·.1))) (hk : Sortable (bs.map (·.1))) (hL : bs.length ≤ sizeLine) (hu : ∀ b, b ∈ bs → A.units + 2 + b.1.depth < cLine)
    (h : ∀ out, out.length = bs.length → EachIs R out (bs.mergeSort (dataLe false (·.1))) → Q (.ref (s.heap.objs.size + 1)) { s with heap := sortedAll s.heap vs (List.toArray out) }) :
    wpAny (model prog w) A (call (.builtin "sorted") [.ref l]) Q E s := by
  rcases hl with hl | hl
  · exact sorted_data (enc := (·.1)) hl e er hal hk hL hu h
  · have er' : EachIs (fun v b => ∃ as, Reads (sortingHeap (copyHeap s.heap vs) (s.heap.objs.size + 1) vs) v b.1 as) vs bs := er.mono fun _ _ ⟨as, r⟩ => ⟨as, PyProof.Rows.Reads.keeps (fun _ _ => sorting_copy_old) r⟩
    exact sorted_seq hl (by rw [e.length]; exact hL) (SortsAt.data (s := { s with heap := sortingHeap (copyHeap s.heap vs) (s.heap.objs.size + 1) vs }) (each_map (R := fun v d => ∃ as, Reads (sortingHeap (copyHeap s.heap vs) (s.heap.objs.size + 1) vs) v d as) (fun b : D × V => b.1) er') hal hk (bound_map hu))
      (h _ (by rw [sortVals_length false rfl]; exact e.length) (sortVals_data false e er' hal))
end
end DL
namespace DL
open PySem PySem.Spec PyProof.Rows L2
section
variable {X : Cx}
theorem each_of {pins : List (Addr × Obj)} {s : Shared} {σ : L2.St} {G H : Hp} (I : Inv X pins σ H s) (e : Same G H) : ∀ {ds : List D} {xs : List V} {vs : List Value}, Vals xs vs → Rps X.K X.w G ds xs → (∀ d ∈ ds, plainD d = true) →
    PySem.W.EachIs (fun v (b : D × V) => RelV b.2 v ∧ Rp X.K X.w G b.1 b.2) vs (ds.zip xs) ∧ PySem.W.EachIs (fun v (b : D × V) => ∃ as, Reads s.heap v b.1 as) vs (ds.zip xs)
  | [], xs, vs, rv, h, hp => by
    cases h; cases rv; exact ⟨.nil, .nil⟩
  | d :: ds, xs, vs, rv, h, hp => by
    obtain ⟨x, r, rfl, h1, h2⟩ := h
    cases rv with
    | cons r1 rv =>
      obtain ⟨a1, a2⟩ := each_of I e rv h2 fun d hd => hp d (.tail _ hd)
      obtain ⟨_, _, as, q⟩ := reads_of I r1 e (.inl h1) (hp d (.head _))
      exact ⟨.cons ⟨r1, h1⟩ a1, .cons ⟨as, q⟩ a2⟩
theorem each_back {G : Hp} : ∀ {bs : List (D × V)} {out : List Value}, PySem.W.EachIs (fun v (b : D × V) => RelV b.2 v ∧ Rp X.K X.w G b.1 b.2) out bs → Vals (bs.map (·.2)) out ∧ Rps X.K X.w G (bs.map (·.1)) (bs.map (·.2))
  | [], _, h => by cases h; exact ⟨.nil, rfl⟩
  | b :: bs, _, h => by
    cases h with
    | cons h1 h2 =>
      obtain ⟨a1, a2⟩ := each_back h2
      exact ⟨.cons h1.1 a1, _, _, rfl, h1.2, a2⟩
theorem Rps.zip1 {K : PySem.W.Frag} {w : World} {G : Hp} : ∀ {ds : List D} {xs : List V}, Rps K w G ds xs → (ds.zip xs).map (·.1) = ds
  | [], _, h => by cases h; rfl
  | d :: ds, xs, h => by
    obtain ⟨x, r, rfl, h1, h2⟩ := h
    simp [Rps.zip1 h2]
theorem sortable_of {ds : List D} (h : (ds.all tupD || ds.all notTupD) = true) : PySem.W.Sortable ds := by
  rw [Bool.or_eq_true, List.all_eq_true, List.all_eq_true] at h
  rcases h with h | h
  · refine .inl fun d hd => ?_
    have := h d hd
    unfold tupD at this
    split at this
    · exact ⟨_, _, rfl⟩
    · cases this
  · refine .inr fun d hd => ?_
    have := h d hd
    unfold notTupD at this
    split at this
    · cases this
    · cases this
    · rename_i n1 n2
      exact ⟨n2, n1⟩
theorem ov_sorted (hu : X.A.units + 64 < cLine) : OpV X (opD .sorted) (sem1 fun v => call (.builtin "sorted") [v]) := by
  refine ov1 (sh1 (fun _ _ _ => rfl) rfl) fun pins s σ G H x v a r I rx e ha hg => ?_
  replace hg : sortedD a = some r := hg
  have go : ∀ {p : Addr} {xs : List V} {ds : List D} {its : List Value}, v = .ref p → Vals xs its → (s.heap.IsList p its.toArray ∨ s.heap.IsTuple p its.toArray) → ds.length ≤ sizeLine → Rps X.K X.w G ds xs → alikeD ds = true → shallowD ds = true →
      wpAny (model X.prog X.w) X.A (call (.builtin "sorted") [v]) (OpP X pins σ G H (.ow (.list (sortD ds)))) X.xe s := fun {p xs ds its} ev rv hl hz hr ha hs => by
    subst ev
    unfold shallowD at hs
    rw [Bool.and_eq_true, List.all_eq_true] at hs
    obtain ⟨a1, a2⟩ := each_of I e rv hr hs.1
    have hzl : (ds.zip xs).length = ds.length := by rw [← Rps.zip1 hr, List.length_map, Rps.zip1 hr]
    refine sorted_two hl a1 a2 (by rw [Rps.zip1 hr]; unfold alikeD at ha; intro d hd d' hd'; rw [List.all_eq_true] at ha; have := ha d hd; rw [List.all_eq_true] at this; exact this d' hd') (by rw [Rps.zip1 hr]; exact sortable_of hs.2) (by omega) (fun b hb => ?_) fun out ho he => ?_
    · have : b.1 ∈ ds := by rw [← Rps.zip1 hr]; exact List.mem_map.mpr ⟨b, hb, rfl⟩
      have := hs.1 _ this
      unfold plainD at this
      rw [Bool.and_eq_true, decide_eq_true_eq] at this
      have h2 : PyData.depth b.1 ≤ 60 := this.2
      show X.A.units + 2 + PyData.depth b.1 < _
      omega
    · obtain ⟨b1, b2⟩ := each_back (X := X) he
      obtain ⟨ep, he'⟩ := PyProof.Rows.sortedAll_at s.heap its out.toArray
      have e1 : ((ds.zip xs).mergeSort (PySem.W.dataLe false (·.1))).map (·.1) = sortD ds := by
        unfold sortD
        have q := List.map_mergeSort (r := PySem.W.dataLe false (fun b : D × V => b.1)) (s := PySem.W.dataLe false (id : D → D)) (f := fun b : D × V => b.1) (l := ds.zip xs) (fun a _ b _ => rfl)
        rw [Rps.zip1 hr] at q
        exact q
      rw [e1] at b2
      have hl2 := b2.length
      have hl3 : (sortD ds).length = ds.length := by unfold sortD; exact List.length_mergeSort _
      have hlen : (((ds.zip xs).mergeSort (PySem.W.dataLe false (·.1))).map (·.2)).length ≤ sizeLine := by omega
      have I2 : Inv X pins σ (upd H (s.heap.objs.size + 1) (.lst (((ds.zip xs).mergeSort (PySem.W.dataLe false (·.1))).map (·.2)))) { s with heap := PyProof.Rows.sortedAll s.heap its out.toArray } :=
        I.laid (t' := s.toks) (fun _ _ => PyProof.Rows.sortedAll_old) (Nat.le_succ _) ⟨hlen, out, ep, b1, he'⟩
      exact OpP.newList I2 rfl e (I.hok.fresh (Nat.le_succ _)) (by omega) b2
  unfold sortedD at hg
  split at hg
  · split at hg
    · rename_i hc
      rw [Bool.and_eq_true] at hc
      cases hg
      obtain ⟨p, xs, rfl, h1, h2, h3⟩ := ha.list e
      cases rx
      obtain ⟨its, rv, hl, _⟩ := I.list h1
      exact go rfl rv (.inl hl.isList) h2 h3 hc.1 hc.2
    · cases hg
  · split at hg
    · rename_i hc
      rw [Bool.and_eq_true] at hc
      cases hg
      obtain ⟨p, xs, rfl, h1, h2, h3, _⟩ := ha.tuple e
      cases rx
      obtain ⟨its, rv, hl, _⟩ := I.tuple h1
      exact go rfl rv (.inr hl) h2 h3 hc.1 hc.2
    · cases hg
  · simp [dictsOn] at hg
  · cases hg
end
end DL
set_option Elab.async false
set_option linter.all false
set_option maxRecDepth 100000
set_option maxHeartbeats 2000000
/-! Layer D, part M6: xs.count(x). -/
namespace DL
open PySem PySem.Spec PyProof.Rows L2
def baseOk : Expr → Bool
  | .Call _ _ _ _ => false
  | _ => true
theorem baseOk_ok {o : Expr} {m : Str} {env : PySem.Env} (h : baseOk o = true) : attributeBase o m env (eval o env) = eval o env := by
  cases o <;> first | rfl | cases h
def simpleEx : Ex → Bool
  | .var _ => true
  | .cst _ => true
  | _ => false
section
variable {X : Cx} {W : WX} {z : Option Addr} {G₀ B G G' H : Hp} {σ : L2.St} {δ δ' : Env}
theorem simple_ev {c : Ex} (h : simpleEx c = true) (δ : Env) : ev c δ = .bad ∨ ∃ q, ev c δ = .ok q δ := by
  cases c with
  | var i =>
    unfold ev
    cases getS δ i with
    | non => exact .inl rfl
    | sh d => exact .inr ⟨_, rfl⟩
    | ow d => exact .inr ⟨_, rfl⟩
    | io d => exact .inr ⟨_, rfl⟩
  | cst d => unfold ev; exact .inr ⟨_, rfl⟩
  | _ => cases h
theorem cnt_mid {pins : List (Addr × Obj)} {s : Shared} {v : V} {u : Value} {d1 d2 : D} {rr : RV} (hu : X.A.units + 64 < cLine) (hg : countD d2 d1 = some rr) (I : Inv X pins σ H s) (r : RelV v u) (e : Same G H) (h1 : Rd1 X.K X.w G H d1 v) :
    ∃ (T id : String), PlainAttrs T ∧ Slot T "count" id ∧ typeOf (.builtin id) = pure (.type "method_descriptor") ∧ s.TypeIs u T ∧ (∀ a, u = .ref a → ∃ ob, s.heap.get? a = some ob ∧ ob.dict = none) ∧
      ∀ (s2 : Shared) (G2 H2 : Hp) (v2 : V) (u2 : Value), Inv X pins σ H2 s2 → RelV v2 u2 → Same G2 H2 → Rd1 X.K X.w G2 H2 d1 v → Rd1 X.K X.w G2 H2 d2 v2 → wpAny (model X.prog X.w) X.A (call (.builtin id) [u, u2]) (OpP X pins σ G2 H2 rr) X.xe s2 := by
  unfold countD at hg
  split at hg
  · rename_i ds
    split at hg
    · rename_i hm
      rw [Bool.and_eq_true] at hm
      cases hg
      obtain ⟨p, xs, rfl, q1, q2, q3, o, g1, n1⟩ := h1.tuple e
      cases r
      have hh := I.hok _ _ (e _ _ g1)
      refine ⟨"tuple", "tuple.count", PySem.F.plainAttrs_tuple, PySem.F.slot_tuple_count, PySem.F.type_tuple_count, ?_, fun a ea => ?_, fun s2 G2 H2 v2 u2 I2 r2 e2 k1 k2 => ?_⟩
      · obtain ⟨its, rv, ⟨o', ho, hc, _⟩, _⟩ := I.tuple q1
        exact ⟨o', ho, hc⟩
      · cases ea
        exact ⟨o, hh.1, n1⟩
      · obtain ⟨p1, dd1, as, w1⟩ := reads_of I2 (x := .ref p) (v := .ref p) rfl e2 k1 hm.2
        obtain ⟨p2, dd2, bs, w2⟩ := reads_of I2 r2 e2 k2 hm.1
        cases w1 with
        | tuple a1 a2 a3 a4 =>
          refine PySem.SeqAt.count_tuple_data ⟨_, a1, a2, _, a3⟩ a4 w2 (by rw [PyData.plain] at p1; exact p1) p2 (by have := Nat.min_le_right (PyData.depthAll ds) (PyData.depth d2); omega) ?_
          exact OpP.flat (v := .int _) (I2.kept (t' := s2.toks + 1) fun _ _ q => q) ⟨_, rfl⟩ e2 fun _ _ _ => rfl
    · cases hg
  · rename_i ds
    split at hg
    · rename_i hm
      rw [Bool.and_eq_true] at hm
      cases hg
      obtain ⟨p, xs, rfl, q1, q2, q3⟩ := h1.list e
      cases r
      refine ⟨"list", "list.count", PySem.F.plainAttrs_list, PySem.F.slot_list_count, PySem.F.type_list_count, ?_, fun a ea => ?_, fun s2 G2 H2 v2 u2 I2 r2 e2 k1 k2 => ?_⟩
      · obtain ⟨its, rv, pl, _⟩ := I.list q1
        exact pl.isList.typeIs
      · cases ea
        obtain ⟨its, rv, ⟨o, n, e3, c, hd, _⟩, _⟩ := I.list q1
        exact ⟨o, e3, hd⟩
      · obtain ⟨p1, dd1, as, w1⟩ := reads_of I2 (x := .ref p) (v := .ref p) rfl e2 k1 hm.2
        obtain ⟨p2, dd2, bs, w2⟩ := reads_of I2 r2 e2 k2 hm.1
        cases w1 with
        | list a1 a2 a3 a4 =>
          refine PySem.SeqAt.count_list_data ⟨_, a1, a2, _, a3⟩ a4 w2 (plain_list hm.2).1 p2 (by have := Nat.min_le_right (PyData.depthAll ds) (PyData.depth d2); omega) ?_
          exact OpP.flat (v := .int _) (I2.kept (t' := s2.toks + 1) fun _ _ q => q) ⟨_, rfl⟩ e2 fun _ _ _ => rfl
    · cases hg
  · cases hg
theorem de_count {eo eb : Expr} {co cb : Ex} {apos cpos : Pos} (hu : X.A.units + 64 < cLine) (ho : DE X eo (ev co)) (hb : DE X eb (ev cb)) (hs : simpleEx cb = true) (hp : plainE eb = true) (hbs : baseOk eo = true) (hl : (apos.endLine == cpos.line) = true) :
    DE X (.Call (.Attribute eo "count" apos) [eb] [] cpos) (fun δ => (ev co δ).bind fun r δ1 => (ev cb δ1).bind fun q δ2 => eOp .count [hold r, hold q] δ2) := by
  refine ⟨fun W z G₀ B tk pins s σ G H δ Q I R k => ?_⟩
  refine wpAny_Call_method_late (baseOk_ok hbs) (few1 hp _ _) hl rfl (ho.run W z G₀ B tk pins s σ G H δ _ I R (k.bind.imp fun r δ1 G1 H1 R1 s1 k1 => ?_))
  intro u s1' v I1 rv ok
  obtain ⟨G2, R2, s2, hv⟩ := R1.held ok
  rcases simple_ev hs δ1 with hq | ⟨q, hq⟩
  · rw [hq] at k1; exact k1.elim
  rw [hq] at k1
  replace k1 : Kont X W z G₀ B G1 σ (eOp .count [hold r, hold q] δ1) _ := k1
  cases c : dats δ1 [hold r, hold q] with
  | none => unfold eOp at k1; rw [c] at k1; exact k1.elim
  | some ds =>
    obtain ⟨d1, d2, rfl, c1⟩ : ∃ d1 d2, ds = [d1, d2] ∧ dats δ1 [hold r] = some [d1] := by
      unfold dats at c ⊢
      cases x1 : dat δ1 (hold r) with
      | none => rw [x1] at c; cases c
      | some d1 =>
        rw [x1] at c
        unfold dats at c
        cases x2 : dat δ1 (hold q) with
        | none => rw [x2] at c; cases c
        | some d2 => rw [x2] at c; cases c; exact ⟨d1, d2, rfl, rfl⟩
    have k2 := k1
    unfold eOp at k2
    rw [c] at k2
    cases c2 : opD .count [d1, d2] with
    | none => simp only [c2, okR] at k2; exact k2.elim
    | some rr =>
      obtain ⟨T, id, t1, t2, t3, t4, t5, t6⟩ := cnt_mid (d2 := d2) hu c2 I1 rv R2.gh (R2.reads (vs := [v]) (rs := [hold r]) ⟨hv, trivial⟩ c1).1
      refine ⟨T, id, t1, t2, t3, t4, t5, ?_⟩
      rw [star_cons hp]
      refine Calls.callWith_builtin rfl (Calls.evalArgs_plain (Calls.spliced_cons (hb.run W z G₀ B tk pins s1' σ G2 H1 δ1 _ I1 R2 ?_)))
      rw [hq]
      intro G3 H3 R3 s3 u2 s2' v2 I2 rv2 ok2
      refine Calls.spliced_nil ?_
      obtain ⟨G4, R4, s4, hv2⟩ := R3.held ok2
      have hr := R4.reads (vs := [v, v2]) (rs := [hold r, hold q]) ⟨hv.mono (s3.trans s4), hv2, trivial⟩ c
      refine thn (t6 s2' G4 H3 v2 u2 I2 rv2 R4.gh hr.1 hr.2.1) fun w s5 ⟨vv, G5, H5, I5, rw5, ex, n⟩ => ?_
      simp only [c2, okR] at k2
      have R5 := R4.ext ex
      exact k2 G5 H5 R5 (s2.trans (s3.trans (s4.trans ex.gg))) w s5 vv I5 rw5 (n.rv R4)
end
end DL
set_option Elab.async false
set_option linter.all false
set_option maxRecDepth 100000
set_option maxHeartbeats 2000000
/-! Layer D, part O: the checker of expressions, and that it is right. -/
namespace DL
open PySem PySem.Spec PyProof.Rows L2

/-! ### what the checker looks at -/
def glS (sc : Scope) (x : Str) : Bool := decide (sc.names.lookup x = some .globalImplicit) && !(x == ("__debug__" : Str))
def visS (sc : Scope) (x : Str) : Bool := (decide (sc.names.lookup x = some .local) || decide (sc.names.lookup x = some .cell) || decide (sc.names.lookup x = some .free)) && !(x == ("__debug__" : Str)) && !(x == ("__classdict__" : Str))
def locS (sc : Scope) (fc : Str → Bool) (x : Str) : Bool := decide (sc.names.lookup x = some .local) || decide (sc.names.lookup x = some .cell) && fc x
def bltNames : List Str := ["len", "list", "tuple", "int", "str", "all", "any", "sum", "min", "max", "isinstance", "bool", "range", "enumerate", "zip", "sorted", "set", "dict"]
def cmpOk (o : Op) (p : CmpOp) : Bool := match o, p with
  | .eq, .Eq => true
  | .ne, .NotEq => true
  | .lt, .Lt => true
  | .le, .LtE => true
  | .gt, .Gt => true
  | .ge, .GtE => true
  | .is_, .Is => true
  | .isnot, .IsNot => true
  | .isin, .In => true
  | .notin, .NotIn => true
  | _, _ => false
def blt1 : Op → Option (Str × Value)
  | .len => some ("len", .builtin "len")
  | .list => some ("list", .type "list")
  | .tuple => some ("tuple", .type "tuple")
  | .int => some ("int", .type "int")
  | .str => some ("str", .type "str")
  | .all => some ("all", .builtin "all")
  | .any => some ("any", .builtin "any")
  | .sum => some ("sum", .builtin "sum")
  | .mn => some ("min", .builtin "min")
  | .mx => some ("max", .builtin "max")
  | .sorted => some ("sorted", .builtin "sorted")
  | _ => none
def blt2 : Op → Option (Str × Value)
  | .mn2 => some ("min", .builtin "min")
  | .mx2 => some ("max", .builtin "max")
  | _ => none
def nameIs (f : Str) : Option (Str × Value) → Bool
  | some (g, _) => f == g
  | none => false
def callArgs (sc : Scope) (o : Op) (f : Str) (args : List Expr) : Option (List Expr) := match args with
  | [a] => if plainE a && glS sc f && nameIs f (blt1 o) then some [a] else none
  | [a, b] => match o with
    | .isi t => match b with
      | .Name q _ => if plainE a && (f == ("isinstance" : Str)) && glS sc f && (q == tyN t) && glS sc q then some [a] else none
      | _ => none
    | .isi2 t t' => match b with
      | .Tuple [.Name q _, .Name q' _] _ _ => if plainE a && (f == ("isinstance" : Str)) && glS sc f && (q == tyN t) && glS sc q && (q' == tyN t') && glS sc q' then some [a] else none
      | _ => none
    | o => if plainE a && plainE b && glS sc f && nameIs f (blt2 o) then some [a, b] else none
  | _ => none
def idxArgs (o : Op) (a b : Expr) : Option (List Expr) := match b with
  | .Slice lo hi none _ => match o with
    | .slc l h => if lo.isSome == l && hi.isSome == h then some (a :: partsE lo hi) else none
    | _ => none
  | .Slice none none (some (.UnaryOp .USub (.Constant (.int i) _ _) _)) _ => match o with
    | .rev => if i = 1 then some [a] else none
    | _ => none
  | .Slice _ _ _ _ => none
  | b => match o with
    | .idx => some [a, b]
    | _ => none
def opArgs (sc : Scope) (o : Op) : Expr → Option (List Expr)
  | .BinOp a p b _ => if opB o = some p then some [a, b] else none
  | .UnaryOp .USub a _ => match o with
    | .neg => some [a]
    | _ => none
  | .Compare a [p] [b] _ => if cmpOk o p && !behindInMarks p b then some [a, b] else none
  | .Subscript a b _ => idxArgs o a b
  | .Call (.Name f _) args [] _ => callArgs sc o f args
  | _ => none

/-- what the checker's context promises -/
structure GX (X : Cx) (N : List Str) (sc : Scope) (fc : Str → Bool) (k : Nat) (P : Str → Fn → Prop) (PI : Str → FnI → Prop) (PG : Str → D → Prop) : Prop where
  hN : X.N = N
  hs : X.env.scope = sc
  nd : N.Nodup
  kd : sc.kind = .function
  calm : X.calm = true
  room : Room k X.A
  blt : ∀ x ∈ bltNames, X.mg x = none
  fn : ∀ x, fc x = true → X.fn x = true
  call : ∀ x f, P x f → CallOk X k x f
  callI : ∀ x f, PI x f → CallOkI X k x f
  glb : ∀ x d, PG x d → (∃ i t, d = .int i ∧ X.mg x = some (.int i t)) ∨ (d = .none ∧ ExcOk X.K X.mg x)
section
variable {X : Cx} {N : List Str} {sc : Scope} {fc : Str → Bool} {k : Nat} {P : Str → Fn → Prop} {PI : Str → FnI → Prop} {PG : Str → D → Prop}
theorem GX.gl (g : GX X N sc fc k P PI PG) {x : Str} (h : glS sc x = true) : Gl X x ∧ (x == ("__debug__" : Str)) = false := by
  unfold glS at h
  rw [Bool.and_eq_true, decide_eq_true_eq, Bool.not_eq_true'] at h
  exact ⟨by unfold Gl; show X.env.scope.names.lookup x = _; rw [g.hs]; exact h.1, h.2⟩
theorem GX.vis (g : GX X N sc fc k P PI PG) {x : Str} (h : visS sc x = true) : Vis X.env.scope x ∧ (x == ("__debug__" : Str)) = false ∧ (x == ("__classdict__" : Str)) = false := by
  unfold visS at h
  simp only [Bool.and_eq_true, Bool.or_eq_true, decide_eq_true_eq, Bool.not_eq_true'] at h
  refine ⟨?_, h.1.2, h.2⟩
  rw [g.hs]
  rcases h.1.1 with (h | h) | h
  · exact .inl h
  · exact .inr (.inl h)
  · exact .inr (.inr h)
theorem GX.loc (g : GX X N sc fc k P PI PG) {x : Str} (h : locS sc fc x = true) : Loc X.env.scope x ∧ (X.fn x = true ∨ X.env.scope.names.lookup x = some .local) := by
  unfold locS at h
  rw [Bool.or_eq_true, Bool.and_eq_true, decide_eq_true_eq, decide_eq_true_eq] at h
  rw [g.hs]
  rcases h with h | h
  · exact ⟨.inl h, .inr h⟩
  · exact ⟨.inr h.1, .inl (g.fn x h.2)⟩
theorem ovC (g : GX X N sc fc k P PI PG) {o : Op} {p : CmpOp} (h : cmpOk o p = true) : OpV X (opD o) (sem2 (compareOp p)) := by
  have hu := g.room.units
  unfold cmpOk at h
  split at h
  · exact ov_eq hu
  · exact ov_ne hu
  · exact ov_lt
  · exact ov_le
  · exact ov_gt
  · exact ov_ge
  · exact ov_is
  · exact ov_isnot
  · exact ov_in hu
  · exact ov_notin hu
  · cases h
theorem ovBlt1 (g : GX X N sc fc k P PI PG) {o : Op} {f : Str} {fv : Value} (h : blt1 o = some (f, fv)) : OpV X (opD o) (sem1 fun v => call fv [v]) ∧ f ∈ bltNames ∧ bootBuiltins f = some fv ∧ ((∃ id, fv = .builtin id) ∨ ∃ T, fv = .type T) := by
  cases o <;> simp only [blt1, Option.some.injEq, Prod.mk.injEq, reduceCtorEq] at h
  all_goals obtain ⟨rfl, rfl⟩ := h
  · exact ⟨ov_len fun _ _ _ _ _ _ _ kvs r _ _ _ _ hg => (by simp [lenD, dictsOn] at hg), by simp [bltNames], by decide +kernel, .inl ⟨_, rfl⟩⟩
  · exact ⟨ov_sum g.calm, by simp [bltNames], by decide +kernel, .inl ⟨_, rfl⟩⟩
  · exact ⟨ov_mn g.calm, by simp [bltNames], by decide +kernel, .inl ⟨_, rfl⟩⟩
  · exact ⟨ov_mx g.calm, by simp [bltNames], by decide +kernel, .inl ⟨_, rfl⟩⟩
  · exact ⟨ov_sorted g.room.units, by simp [bltNames], by decide +kernel, .inl ⟨_, rfl⟩⟩
  · exact ⟨ov_list fun _ _ _ _ _ _ _ kvs r _ _ _ _ hg => (by simp [listD, dictsOn] at hg), by simp [bltNames], by decide +kernel, .inr ⟨_, rfl⟩⟩
  · exact ⟨ov_tuple, by simp [bltNames], by decide +kernel, .inr ⟨_, rfl⟩⟩
  · exact ⟨ov_int, by simp [bltNames], by decide +kernel, .inr ⟨_, rfl⟩⟩
  · exact ⟨ov_str, by simp [bltNames], by decide +kernel, .inr ⟨_, rfl⟩⟩
  · exact ⟨ov_all g.calm, by simp [bltNames], by decide +kernel, .inl ⟨_, rfl⟩⟩
  · exact ⟨ov_any g.calm, by simp [bltNames], by decide +kernel, .inl ⟨_, rfl⟩⟩
theorem ovBlt2 (g : GX X N sc fc k P PI PG) {o : Op} {f : Str} {fv : Value} (h : blt2 o = some (f, fv)) : OpV X (opD o) (sem2 fun v u => call fv [v, u]) ∧ f ∈ bltNames ∧ bootBuiltins f = some fv ∧ ((∃ id, fv = .builtin id) ∨ ∃ T, fv = .type T) := by
  cases o <;> simp only [blt2, Option.some.injEq, Prod.mk.injEq, reduceCtorEq] at h
  all_goals obtain ⟨rfl, rfl⟩ := h
  · exact ⟨ov_mn2 g.calm, by simp [bltNames], by decide +kernel, .inl ⟨_, rfl⟩⟩
  · exact ⟨ov_mx2 g.calm, by simp [bltNames], by decide +kernel, .inl ⟨_, rfl⟩⟩
theorem name_ne {f : Str} (h : f ∈ bltNames) : f ≠ "__name__" := by
  intro e
  subst e
  exact absurd h (by decide +kernel)
theorem nameIs_ok {f : Str} {o : Option (Str × Value)} (h : nameIs f o = true) : ∃ fv, o = some (f, fv) := by
  cases o with
  | none => cases h
  | some q =>
    obtain ⟨g, fv⟩ := q
    have : f = g := eq_of_beq h
    exact ⟨fv, by rw [this]⟩
theorem tyN_mem (t : Ty) : tyN t ∈ bltNames := by cases t <;> decide +kernel
/-- the operation's form is right -/
theorem opArgs_de (g : GX X N sc fc k P PI PG) {o : Op} {e : Expr} {es : List Expr} {ts : Env → Res (List RV)} (h : opArgs sc o e = some es) (hs : DEs X es ts) : DE X e (fun δ => (ts δ).bind fun rs δ1 => eOp o rs δ1) := by
  unfold opArgs at h
  split at h
  · split at h
    · cases h; exact de_bin (by assumption) hs
    · cases h
  · split at h
    · cases h; exact de_neg hs
    · cases h
  · split at h
    · rename_i hc
      rw [Bool.and_eq_true, Bool.not_eq_true'] at hc
      cases h; exact de_cmp (ovC g hc.1) hs hc.2
    · cases h
  · rename_i a b pos
    unfold idxArgs at h
    split at h
    · split at h
      · split at h
        · rename_i hc
          rw [Bool.and_eq_true, beq_iff_eq, beq_iff_eq] at hc
          cases h
          obtain ⟨rfl, rfl⟩ := hc
          exact de_slc hs
        · cases h
      · cases h
    · split at h
      · split at h
        · rename_i hc
          cases h
          subst hc
          exact de_rev hs
        · cases h
      · cases h
    · cases h
    · rename_i b' h1 h2 h3
      split at h
      · cases h
        have hp : plainIx b = true := by
          cases b with
          | Slice lo hi st p => exact absurd rfl (h3 lo hi st p)
          | _ => rfl
        exact de_idx (ov_idx (plainIx_ok hp) fun _ _ _ _ _ _ _ _ _ kvs kd r _ _ _ _ _ _ hg => by simp [idxD, dictsOn] at hg) hs
      · cases h
  · unfold callArgs at h
    split at h
    · split at h
      · rename_i hc
        simp only [Bool.and_eq_true] at hc
        obtain ⟨⟨hp, hg⟩, hn⟩ := hc
        obtain ⟨fv, hb⟩ := nameIs_ok hn
        obtain ⟨h1, h2, h3, h4⟩ := ovBlt1 g hb
        obtain ⟨h5, h6⟩ := g.gl hg
        cases h
        exact de_blt h1 (fun us hl => by match us, hl with | [u], _ => rfl) h5 (g.blt _ h2) h3 (name_ne h2) h6 h4 (by rw [List.all_cons, hp]; rfl) hs
      · cases h
    · split at h
      · split at h
        · split at h
          · rename_i hc
            simp only [Bool.and_eq_true, beq_iff_eq] at hc
            obtain ⟨⟨⟨⟨hp, rfl⟩, hg⟩, rfl⟩, hg2⟩ := hc
            cases h
            exact de_isi (g.gl hg).1 (g.blt _ (by decide +kernel)) (g.gl hg2).1 (g.blt _ (tyN_mem _)) hp hs
          · cases h
        · cases h
      · split at h
        · split at h
          · rename_i hc
            simp only [Bool.and_eq_true, beq_iff_eq] at hc
            obtain ⟨⟨⟨⟨⟨⟨hp, rfl⟩, hg⟩, rfl⟩, hg2⟩, rfl⟩, hg3⟩ := hc
            cases h
            exact de_isi2 (g.gl hg).1 (g.blt _ (by decide +kernel)) (g.gl hg2).1 (g.blt _ (tyN_mem _)) (g.gl hg3).1 (g.blt _ (tyN_mem _)) hp hs
          · cases h
        · cases h
      · split at h
        · rename_i hc
          simp only [Bool.and_eq_true] at hc
          obtain ⟨⟨⟨hp, hp'⟩, hg⟩, hn⟩ := hc
          obtain ⟨fv, hb⟩ := nameIs_ok hn
          obtain ⟨h1, h2, h3, h4⟩ := ovBlt2 g hb
          obtain ⟨h5, h6⟩ := g.gl hg
          cases h
          exact de_blt h1 (fun us hl => by match us, hl with | [u, v], _ => rfl) h5 (g.blt _ h2) h3 (name_ne h2) h6 h4 (by rw [List.all_cons, List.all_cons, hp, hp']; rfl) hs
        · cases h
    · cases h
  · cases h
theorem opArgs_dt (g : GX X N sc fc k P PI PG) {o : Op} {e : Expr} {es : List Expr} {ts : Env → Res (List RV)} (h : opArgs sc o e = some es) (hs : DEs X es ts) : DT X e (fun δ => tst ((ts δ).bind fun rs δ1 => eOp o rs δ1)) := by
  by_cases hp : plainT e = true
  · exact dt_plain (opArgs_de g h hs) hp
  · unfold opArgs at h
    split at h
    · exact absurd rfl hp
    · exact absurd rfl hp
    · split at h
      · rename_i hc
        rw [Bool.and_eq_true, Bool.not_eq_true'] at hc
        cases h; exact dt_cmp (ovC g hc.1) hs hc.2
      · cases h
    · exact absurd rfl hp
    · exact absurd rfl hp
    · cases h
end
end DL
set_option Elab.async false
set_option linter.all false
set_option maxRecDepth 100000
set_option maxHeartbeats 2000000
/-! Layer D, part P: expressions: the checker, its soundness. -/
namespace DL
open PySem PySem.Spec PyProof.Rows L2

def constOk : D → Const → Bool
  | .none, .none => true
  | .bool a, .bool b => a == b
  | .int a, .int b => decide (a = b)
  | .str a, .str b => decide (a = b)
  | _, _ => false
def ownP (N : List Str) (own : List Nat) : List (Str × Nat) := own.map fun i => (N.getD i "", i)
theorem ownP_snd {N : List Str} {own : List Nat} : (ownP N own).map (·.2) = own := by
  unfold ownP
  rw [List.map_map]
  exact List.map_id own
def blkB (N : List Str) (sc scope : Scope) (own : List (Str × Nat)) : Bool :=
  decide (scope.kind = .function) && (scope.names.all fun y => decide (scope.names.lookup y.1 = some y.2)) && (own.all fun p => decide (N[p.2]? = some p.1)) &&
  (scope.names.all fun y => !decide (y.2 = .free) || decide (sc.names.lookup y.1 = some .cell) || decide (sc.names.lookup y.1 = some .free)) &&
  (scope.names.all fun y => !(decide (y.2 = .local) || decide (y.2 = .cell)) || (own.map (·.1)).contains y.1 || !N.contains y.1)
theorem blkB_ok {N : List Str} {sc scope : Scope} {own : List (Str × Nat)} (h : blkB N sc scope own = true) : BlkOk N sc scope own := by
  unfold blkB at h
  simp only [Bool.and_eq_true, List.all_eq_true, decide_eq_true_eq, Bool.or_eq_true, Bool.not_eq_true', decide_eq_false_iff_not, Bool.or_eq_false_iff] at h
  obtain ⟨⟨⟨⟨h1, h2⟩, h3⟩, h4⟩, h5⟩ := h
  refine ⟨h1, fun y hy => h2 y hy, fun p hp => h3 p hp, fun y hy e => ?_, fun y hy e => ?_⟩
  · rcases h4 y hy with (q | q) | q
    · exact absurd e q
    · exact .inl q
    · exact .inr q
  · rcases h5 y hy with (q | q) | q
    · rcases e with e | e
      · exact absurd e q.1
      · exact absurd e q.2
    · exact .inl (by simpa using q)
    · exact .inr (by simpa using q)
/-- a block's scope: what is free there and a cell around it is a cell -/
def relS (scope sc : Scope) : Scope := { scope with names := scope.names.map fun (n, k) => if (k == NameKind.free && sc.kind == .function && sc.names.lookup n == some .cell) then (n, NameKind.cell) else (n, k) }
def cellOf (scope : Scope) (x : Str) : Bool := scope.names.lookup x == some .cell
mutual
def chkTg (N : List Str) (sc : Scope) (fc : Str → Bool) : Tg → Expr → Bool
  | .name i, e => match e with
    | .Name x _ => decide (N[i]? = some x) && locS sc fc x
    | _ => false
  | .tup ts, e => match e with
    | .Tuple es _ _ => chkTgs N sc fc ts es && es.all noStar
    | _ => false
def chkTgs (N : List Str) (sc : Scope) (fc : Str → Bool) : Tgs → List Expr → Bool
  | .nil, es => match es with
    | [] => true
    | _ => false
  | .cons t ts, es => match es with
    | e :: es => chkTg N sc fc t e && chkTgs N sc fc ts es
    | [] => false
end
mutual
def tgIs : Tg → List Nat
  | .name i => [i]
  | .tup ts => tgsIs ts
def tgsIs : Tgs → List Nat
  | .nil => []
  | .cons t ts => tgIs t ++ tgsIs ts
end
def isTup : Tg → Bool
  | .name _ => false
  | .tup _ => true
def testE : Expr → Bool
  | .IfExp _ _ _ _ => false
  | _ => true
def needTup : Src → Bool
  | .enum _ => true
  | .zip _ => true
  | _ => false
mutual
def chk (N : List Str) : Ex → Scope → Expr → Bool
  | .var i, sc, e => match e with
    | .Name x _ => decide (N[i]? = some x) && visS sc x
    | _ => false
  | .cst d, _, e => match e with
    | .Constant c _ _ => constOk d c
    | _ => false
  | .glb y d, sc, e => match e with
    | .Name x _ => decide (y = x) && glS sc x && !isNone d
    | _ => false
  | .op o args, sc, e => match opArgs sc o e with
    | some es => chks N args sc es
    | none => chkM N o args sc e
  | .and cs, sc, e => match e with
    | .BoolOp .And es _ => chkB N cs sc es
    | _ => false
  | .or cs, sc, e => match e with
    | .BoolOp .Or es _ => chkB N cs sc es
    | _ => false
  | .not c, sc, e => match e with
    | .UnaryOp .Not a _ => chk N c sc a && testE a
    | _ => false
  | .ite c a b, sc, e => match e with
    | .IfExp c' a' b' _ => chk N c sc c' && testE c' && chk N a sc a' && chk N b sc b'
    | _ => false
  | .chain a o b o' c, sc, e => match e with
    | .Compare a' [p, p'] [b', c'] _ => chk N a sc a' && chk N b sc b' && chk N c sc c' && cmpOk o p && cmpOk o' p' && !lastMarks [p, p'] [b', c']
    | _ => false
  | .call x _ args, sc, e => match e with
    | .Call (.Name y _) (a :: es) [] _ => decide (x = y) && glS sc x && (a :: es).all plainE && chks N args sc (a :: es)
    | _ => false
  | .callI x _ i args, sc, e => match e with
    | .Call (.Name y _) (.Name z _ :: es) [] _ => decide (x = y) && glS sc x && decide (N[i]? = some z) && visS sc z && es.all plainE && chks N args sc es
    | _ => false
  | .tup es, sc, e => match e with
    | .Tuple es' _ _ => es'.all plainE && chks N es sc es'
    | _ => false
  | .lst es, sc, e => match e with
    | .List es' _ => es'.all plainE && chks N es sc es'
    | _ => false
  | .comp src own tg tests elt, sc, e => match e with
    | .ListComp elt' [⟨tg', iter, ifs, 0⟩] scope _ => chkI N src sc iter && (isTup tg || !needTup src) && noSetE iter && blkB N sc scope (ownP N own) && chkTg N (relS scope sc) (cellOf scope) tg tg' && (tgIs tg).all (fun i => own.contains i) && chkT N tests (relS scope sc) ifs && chk N elt (relS scope sc) elt'
    | _ => false
  | .dct0, _, _ => false
  | .dct1 _ _, _, _ => false
  | .pop _ _, _, _ => false
def chks (N : List Str) : Exs → Scope → List Expr → Bool
  | .nil, _, es => match es with
    | [] => true
    | _ => false
  | .cons c cs, sc, es => match es with
    | e :: es => chk N c sc e && chks N cs sc es
    | [] => false
/-- a method of a value -/
def chkM (N : List Str) (o : Op) : Exs → Scope → Expr → Bool
  | .cons a (.cons b .nil), sc, e => match o, e with
    | .count, .Call (.Attribute ea m apos) [eb] [] cpos => decide (m = ("count" : Str)) && simpleEx b && plainE eb && baseOk ea && (apos.endLine == cpos.line) && chk N a sc ea && chk N b sc eb
    | _, _ => false
  | _, _, _ => false
/-- the parts of an and, an or -/
def chkB (N : List Str) : Exs → Scope → List Expr → Bool
  | .nil, _, _ => false
  | .cons c cs, sc, es => match es with
    | [e] => chk N c sc e && testE e && (match cs with
      | .nil => true
      | _ => false)
    | e :: e' :: es => chk N c sc e && testE e && chkB N cs sc (e' :: es)
    | [] => false
def chkT (N : List Str) : Exs → Scope → List Expr → Bool
  | .nil, _, es => match es with
    | [] => true
    | _ => false
  | .cons c cs, sc, es => match es with
    | [e] => chk N c sc e && testE e && (match cs with
      | .nil => true
      | _ => false)
    | _ => false
def chkI (N : List Str) : Src → Scope → Expr → Bool
  | .seq c, sc, e => chk N c sc e
  | .rng1 c, sc, e => match e with
    | .Call (.Name f _) [a] [] _ => decide (f = ("range" : Str)) && glS sc f && plainE a && chk N c sc a
    | _ => false
  | .rng2 c d, sc, e => match e with
    | .Call (.Name f _) [a, b] [] _ => decide (f = ("range" : Str)) && glS sc f && plainE a && plainE b && chk N c sc a && chk N d sc b
    | _ => false
  | .enum c, sc, e => match e with
    | .Call (.Name f _) [a] [] _ => decide (f = ("enumerate" : Str)) && glS sc f && plainE a && chk N c sc a
    | _ => false
  | .zip cs, sc, e => match e with
    | .Call (.Name f _) es [] _ => decide (f = ("zip" : Str)) && glS sc f && es.all plainE && (es.length == 2 || es.length == 3) && chks N cs sc es
    | _ => false
end
theorem chkM_no {N : List Str} {o : Op} {sc : Scope} {e : Expr} (he : ∀ a b c d, e ≠ .Call a b c d) : ∀ {args : Exs}, chkM N o args sc e = false
  | .nil => by unfold chkM; rfl
  | .cons a .nil => by unfold chkM; rfl
  | .cons a (.cons b (.cons c cs)) => by unfold chkM; rfl
  | .cons a (.cons b .nil) => by
    unfold chkM
    split
    · exact absurd rfl (he _ _ _ _)
    · rfl
/-! the defs and constants that the code names -/
section
variable (P : Str → Fn → Prop) (PI : Str → FnI → Prop) (PG : Str → D → Prop)
mutual
def gE : Ex → Prop
  | .var _ => True
  | .cst _ => True
  | .glb x d => PG x d
  | .op _ args => gEs args
  | .and cs => gEs cs
  | .or cs => gEs cs
  | .not c => gE c
  | .ite c a b => gE c ∧ gE a ∧ gE b
  | .chain a _ b _ c => gE a ∧ gE b ∧ gE c
  | .call x f args => P x f ∧ gEs args
  | .callI x f _ args => PI x f ∧ gEs args
  | .tup es => gEs es
  | .lst es => gEs es
  | .dct0 => True
  | .dct1 k v => gE k ∧ gE v
  | .comp src _ _ tests elt => gI src ∧ gEs tests ∧ gE elt
  | .pop _ args => gEs args
def gEs : Exs → Prop
  | .nil => True
  | .cons c cs => gE c ∧ gEs cs
def gI : Src → Prop
  | .seq c => gE c
  | .rng1 c => gE c
  | .rng2 c d => gE c ∧ gE d
  | .enum c => gE c
  | .zip cs => gEs cs
end
end
section
variable {X : Cx} {N : List Str} {sc : Scope} {fc : Str → Bool} {k : Nat} {P : Str → Fn → Prop} {PI : Str → FnI → Prop} {PG : Str → D → Prop}
theorem GX.blk (g : GX X N sc fc k P PI PG) {scope : Scope} (hk : scope.kind = .function) : AtBlk X scope fun X' => GX X' N (relS scope sc) (cellOf scope) k P PI PG := fun s H C cl fp =>
  ⟨g.hN, by rw [← g.hs]; rfl, g.nd, hk, g.calm, g.room, g.blt, fun x h => h, fun x f h => let ⟨np, F, b⟩ := g.call x f h; ⟨np, ⟨F.ok⟩, b⟩, fun x f h => let ⟨np, F, b⟩ := g.callI x f h; ⟨np, ⟨F.ok⟩, b⟩, g.glb⟩
mutual
theorem tg_snd (g : GX X N sc fc k P PI PG) : ∀ {t : Tg} {e : Expr} {tp : Bool}, chkTg N sc fc t e = true → (isTup t = false → tp = false) → DG X tp (tgIs t) e (fun d δ => asg t d δ)
  | .name i, e, tp, h, htp => by
    unfold chkTg at h
    split at h
    · rw [Bool.and_eq_true, decide_eq_true_eq] at h
      have := htp rfl
      subst this
      obtain ⟨h1, h2⟩ := g.loc h.2
      unfold tgIs
      exact dg_name (by rw [g.hN]; exact g.nd) (by rw [g.hN]; exact h.1) h1 h2
    · cases h
  | .tup ts, e, tp, h, htp => by
    unfold chkTg at h
    split at h
    · rw [Bool.and_eq_true] at h
      unfold tgIs
      exact (dg_tup g.calm (tgs_len h.1) h.2 (tgs_snd g h.1 h.2)).up
    · cases h
theorem tgs_snd (g : GX X N sc fc k P PI PG) : ∀ {ts : Tgs} {es : List Expr}, chkTgs N sc fc ts es = true → (es.all noStar) = true → DGs X (tgsIs ts) es (fun ds δ => asgs ts ds δ)
  | .nil, es, h, _ => by
    unfold chkTgs at h
    split at h
    · unfold tgsIs; exact DGs.nil
    · cases h
  | .cons t ts, es, h, hs => by
    unfold chkTgs at h
    split at h
    · rw [Bool.and_eq_true] at h
      rw [List.all_cons, Bool.and_eq_true] at hs
      unfold tgsIs
      exact DGs.cons hs.1 (tg_snd g h.1 fun _ => rfl) (tgs_snd g h.2 hs.2)
    · cases h
theorem tgs_len : ∀ {ts : Tgs} {es : List Expr}, chkTgs N sc fc ts es = true → tgsLen ts = es.length
  | .nil, es, h => by
    unfold chkTgs at h
    split at h
    · rfl
    · cases h
  | .cons t ts, es, h => by
    unfold chkTgs at h
    split at h
    · rw [Bool.and_eq_true] at h
      unfold tgsLen
      rw [tgs_len h.2]; rfl
    · cases h
end
theorem tst_if {r : Res RV} {f : Env → Res RV} : tst ((tst r).bind fun b δ => if b then f δ else .ok (.sh (.bool false)) δ) = (tst r).bind fun b δ => if b then tst (f δ) else .ok false δ := by
  cases tst r with
  | ok b δ => cases b <;> rfl
  | exc c δ => rfl
  | bad => rfl
theorem tst_or {r : Res RV} {f : Env → Res RV} : tst ((tst r).bind fun b δ => if b then .ok (.sh (.bool true)) δ else f δ) = (tst r).bind fun b δ => if b then .ok true δ else tst (f δ) := by
  cases tst r with
  | ok b δ => cases b <;> rfl
  | exc c δ => rfl
  | bad => rfl
theorem DE.cast {e : Expr} {t t' : Ev} (h : DE X e t) (q : ∀ δ, t' δ = t δ) : DE X e t' := by rw [show t' = t from funext q]; exact h
theorem DT.cast {e : Expr} {t t' : Env → Res Bool} (h : DT X e t) (q : ∀ δ, t' δ = t δ) : DT X e t' := by rw [show t' = t from funext q]; exact h
theorem DTW.cast {e : Expr} {t t' : Env → Res Bool} (h : DTW X e t) (q : ∀ δ, t' δ = t δ) : DTW X e t' := by rw [show t' = t from funext q]; exact h
theorem DEs.cast {e : List Expr} {t t' : Env → Res (List RV)} (h : DEs X e t) (q : ∀ δ, t' δ = t δ) : DEs X e t' := by rw [show t' = t from funext q]; exact h
theorem DI.cast {tp : Bool} {tg e : Expr} {t t' : Env → Res (List D)} (h : DI X tp tg e t) (q : ∀ δ, t' δ = t δ) : DI X tp tg e t' := by rw [show t' = t from funext q]; exact h
abbrev Both (X : Cx) (e : Expr) (c : Ex) : Prop := DE X e (ev c) ∧ (testE e = true → DT X e (fun δ => tst (ev c δ)))
theorem both_plain {e : Expr} {c : Ex} (h : DE X e (ev c)) (hp : testE e = true → plainT e = true) : Both X e c := ⟨h, fun q => dt_plain h (hp q)⟩
end
mutual
theorem snd {N : List Str} {k : Nat} {P : Str → Fn → Prop} {PI : Str → FnI → Prop} {PG : Str → D → Prop} : ∀ (c : Ex) {X : Cx} {sc : Scope} {fc : Str → Bool} {e : Expr}, GX X N sc fc k P PI PG → chk N c sc e = true → gE P PI PG c → Both X e c
  | .var i, X, sc, fc, e, g, h, hg => by
    unfold chk at h
    split at h
    · rw [Bool.and_eq_true, decide_eq_true_eq] at h
      obtain ⟨h1, h2, h3⟩ := g.vis h.2
      exact both_plain (de_var (by rw [g.hN]; exact h.1) h1 h2 h3) fun _ => rfl
    · cases h
  | .cst d, X, sc, fc, e, g, h, hg => by
    unfold chk at h
    split at h
    · rename_i c j p
      refine both_plain ?_ fun _ => rfl
      unfold constOk at h
      split at h
      · exact de_none
      · rename_i a b; have : a = b := by simpa using h
        subst this; exact de_bool
      · rw [decide_eq_true_eq] at h; subst h; exact de_int
      · rw [decide_eq_true_eq] at h; subst h; exact de_str
      · cases h
    · cases h
  | .glb y d, X, sc, fc, e, g, h, hg => by
    unfold chk at h
    split at h
    · rw [Bool.and_eq_true, Bool.and_eq_true, decide_eq_true_eq] at h
      obtain ⟨⟨rfl, h2⟩, hn⟩ := h
      obtain ⟨h3, h4⟩ := g.gl h2
      unfold gE at hg
      rcases g.glb _ _ hg with ⟨i, t, rfl, h5⟩ | ⟨rfl, _⟩
      · exact both_plain (de_glb h3 h5 h4) fun _ => rfl
      · cases hn
    · cases h
  | .op o args, X, sc, fc, e, g, h, hg => by
    unfold chk at h
    split at h
    · rename_i es he
      unfold gE at hg
      have hs := sndL args g h hg
      exact ⟨(opArgs_de g he hs).cast fun δ => by rw [ev], fun _ => (opArgs_dt g he hs).cast fun δ => by rw [ev]⟩
    · unfold gE at hg
      exact sndM args g h hg
  | .and cs, X, sc, fc, e, g, h, hg => by
    unfold chk at h
    split at h
    · unfold gE at hg
      obtain ⟨h1, h2⟩ := sndA cs g h hg
      exact ⟨h1.cast fun δ => by rw [ev], fun _ => h2.dt.cast fun δ => by rw [ev]⟩
    · cases h
  | .or cs, X, sc, fc, e, g, h, hg => by
    unfold chk at h
    split at h
    · unfold gE at hg
      obtain ⟨h1, h2⟩ := sndO cs g h hg
      exact ⟨h1.cast fun δ => by rw [ev], fun _ => h2.dt.cast fun δ => by rw [ev]⟩
    · cases h
  | .not c, X, sc, fc, e, g, h, hg => by
    unfold chk at h
    split at h
    · unfold gE at hg
      rw [Bool.and_eq_true] at h
      obtain ⟨h1, h2⟩ := snd c g h.1 hg
      exact ⟨(de_not h1).cast fun δ => by rw [ev], fun _ => (dt_not (h2 h.2)).cast fun δ => by rw [ev]⟩
    · cases h
  | .ite c a b, X, sc, fc, e, g, h, hg => by
    unfold chk at h
    split at h
    · unfold gE at hg
      simp only [Bool.and_eq_true] at h
      obtain ⟨⟨⟨h1, h2⟩, h3⟩, h4⟩ := h
      exact ⟨(de_ite ((snd c g h1 hg.1).2 h2) (snd a g h3 hg.2.1).1 (snd b g h4 hg.2.2).1).cast fun δ => by rw [ev], fun q => by cases q⟩
    · cases h
  | .chain a o b o' c, X, sc, fc, e, g, h, hg => by
    unfold chk at h
    split at h
    · unfold gE at hg
      simp only [Bool.and_eq_true, Bool.not_eq_true'] at h
      obtain ⟨⟨⟨⟨⟨h1, h2⟩, h3⟩, h4⟩, h5⟩, h6⟩ := h
      have a1 := (snd a g h1 hg.1).1
      have b1 := (snd b g h2 hg.2.1).1
      have c1 := (snd c g h3 hg.2.2).1
      exact ⟨(de_chain a1 b1 c1 (ovC g h4) (ovC g h5) h6).cast fun δ => by rw [ev], fun _ => (dt_chain a1 b1 c1 (ovC g h4) (ovC g h5) h6).cast fun δ => by rw [ev]⟩
    · cases h
  | .call x f args, X, sc, fc, e, g, h, hg => by
    unfold chk at h
    split at h
    · unfold gE at hg
      simp only [Bool.and_eq_true, decide_eq_true_eq] at h
      obtain ⟨⟨⟨rfl, h2⟩, h3⟩, h4⟩ := h
      obtain ⟨h5, h6⟩ := g.gl h2
      exact both_plain ((de_call (g.call _ _ hg.1) g.room h5 h6 (by simpa using h3) (sndL args g h4 hg.2)).cast fun δ => by rw [ev]) fun _ => rfl
    · cases h
  | .callI x f i args, X, sc, fc, e, g, h, hg => by
    unfold chk at h
    split at h
    · unfold gE at hg
      simp only [Bool.and_eq_true, decide_eq_true_eq] at h
      obtain ⟨⟨⟨⟨⟨rfl, h2⟩, h3⟩, h4⟩, h5⟩, h6⟩ := h
      obtain ⟨h7, h8⟩ := g.gl h2
      obtain ⟨v1, v2, v3⟩ := g.vis h4
      exact both_plain ((de_callI (g.callI _ _ hg.1) g.room h7 h8 (by rw [g.hN]; exact h3) v1 v2 v3 h5 (sndL args g h6 hg.2)).cast fun δ => by rw [ev]) fun _ => rfl
    · cases h
  | .tup es, X, sc, fc, e, g, h, hg => by
    unfold chk at h
    split at h
    · unfold gE at hg
      rw [Bool.and_eq_true] at h
      exact both_plain ((de_tup h.1 (sndL es g h.2 hg)).cast fun δ => by rw [ev]) fun _ => rfl
    · cases h
  | .lst es, X, sc, fc, e, g, h, hg => by
    unfold chk at h
    split at h
    · unfold gE at hg
      rw [Bool.and_eq_true] at h
      exact both_plain ((de_lst h.1 (sndL es g h.2 hg)).cast fun δ => by rw [ev]) fun _ => rfl
    · cases h
  | .comp src own tg tests elt, X, sc, fc, e, g, h, hg => by
    unfold chk at h
    split at h
    · unfold gE at hg
      rename_i elt' tg' iter ifs scope pos
      simp only [Bool.and_eq_true] at h
      obtain ⟨⟨⟨⟨⟨⟨⟨h1, h2⟩, h3⟩, h4⟩, h5⟩, h6⟩, h7⟩, h8⟩ := h
      have ok := blkB_ok h4
      have gb := g.blk ok.kind
      have hi : DI X (isTup tg) tg' iter (evI src) := sndI src g h1 hg.1 (by simpa using h2) h5
      have := de_comp (own := ownP N own) (is := tgIs tg) (pos := pos) g.calm (by rw [g.hN]; exact g.nd) hi (by rw [g.hN, g.hs]; exact ok) (fun s H C cl fp => tg_snd (gb s H C cl fp) h5 fun q => q)
        (by rw [ownP_snd]; intro i hi; rw [List.all_eq_true] at h6; simpa using h6 i hi) (fun s H C cl fp => sndT tests (gb s H C cl fp) h7 hg.2.1) (fun s H C cl fp => (snd elt (gb s H C cl fp) h8 hg.2.2).1) h3
      rw [ownP_snd] at this
      exact both_plain this fun _ => rfl
    · cases h
  | .dct0, X, sc, fc, e, g, h, hg => by unfold chk at h; cases h
  | .dct1 _ _, X, sc, fc, e, g, h, hg => by unfold chk at h; cases h
  | .pop _ _, X, sc, fc, e, g, h, hg => by unfold chk at h; cases h
theorem sndL {N : List Str} {k : Nat} {P : Str → Fn → Prop} {PI : Str → FnI → Prop} {PG : Str → D → Prop} : ∀ (cs : Exs) {X : Cx} {sc : Scope} {fc : Str → Bool} {es : List Expr}, GX X N sc fc k P PI PG → chks N cs sc es = true → gEs P PI PG cs → DEs X es (evs cs)
  | .nil, X, sc, fc, es, g, h, hg => by
    unfold chks at h
    split at h
    · exact DEs.nil.cast fun δ => by rw [evs]
    · cases h
  | .cons c cs, X, sc, fc, es, g, h, hg => by
    unfold chks at h
    split at h
    · unfold gEs at hg
      rw [Bool.and_eq_true] at h
      exact (DEs.cons (snd c g h.1 hg.1).1 (sndL cs g h.2 hg.2)).cast fun δ => by rw [evs]
    · cases h
theorem sndA {N : List Str} {k : Nat} {P : Str → Fn → Prop} {PI : Str → FnI → Prop} {PG : Str → D → Prop} : ∀ (cs : Exs) {X : Cx} {sc : Scope} {fc : Str → Bool} {es : List Expr} {pos : Pos}, GX X N sc fc k P PI PG → chkB N cs sc es = true → gEs P PI PG cs → DE X (.BoolOp .And es pos) (evAnd cs) ∧ DTW X (.BoolOp .And es pos) (fun δ => tst (evAnd cs δ))
  | .nil, X, sc, fc, es, pos, g, h, hg => by unfold chkB at h; cases h
  | .cons c cs, X, sc, fc, es, pos, g, h, hg => by
    unfold chkB at h
    split at h
    · unfold gEs at hg
      simp only [Bool.and_eq_true] at h
      obtain ⟨⟨h1, h2⟩, h3⟩ := h
      obtain ⟨a1, a2⟩ := snd c g h1 hg.1
      cases cs with
      | nil => exact ⟨(de_one a1).cast fun δ => by rw [evAnd], (dt_and1 (a2 h2)).cast fun δ => by rw [evAnd]⟩
      | cons _ _ => cases h3
    · unfold gEs at hg
      simp only [Bool.and_eq_true] at h
      obtain ⟨⟨h1, h2⟩, h3⟩ := h
      obtain ⟨a1, a2⟩ := snd c g h1 hg.1
      obtain ⟨b1, b2⟩ := sndA cs (pos := pos) g h3 hg.2
      cases cs with
      | nil => unfold chkB at h3; cases h3
      | cons c2 cs2 => exact ⟨(de_and a1 b1).cast fun δ => (by rw [evAnd]; intro q; cases q), (dt_and (a2 h2) b2).cast fun δ => (by rw [evAnd]; exact tst_if; intro q; cases q)⟩
    · cases h
theorem sndO {N : List Str} {k : Nat} {P : Str → Fn → Prop} {PI : Str → FnI → Prop} {PG : Str → D → Prop} : ∀ (cs : Exs) {X : Cx} {sc : Scope} {fc : Str → Bool} {es : List Expr} {pos : Pos}, GX X N sc fc k P PI PG → chkB N cs sc es = true → gEs P PI PG cs → DE X (.BoolOp .Or es pos) (evOr cs) ∧ DTW X (.BoolOp .Or es pos) (fun δ => tst (evOr cs δ))
  | .nil, X, sc, fc, es, pos, g, h, hg => by unfold chkB at h; cases h
  | .cons c cs, X, sc, fc, es, pos, g, h, hg => by
    unfold chkB at h
    split at h
    · unfold gEs at hg
      simp only [Bool.and_eq_true] at h
      obtain ⟨⟨h1, h2⟩, h3⟩ := h
      obtain ⟨a1, a2⟩ := snd c g h1 hg.1
      cases cs with
      | nil => exact ⟨(de_one a1).cast fun δ => by rw [evOr], (dt_or1 (a2 h2)).cast fun δ => by rw [evOr]⟩
      | cons _ _ => cases h3
    · unfold gEs at hg
      simp only [Bool.and_eq_true] at h
      obtain ⟨⟨h1, h2⟩, h3⟩ := h
      obtain ⟨a1, a2⟩ := snd c g h1 hg.1
      obtain ⟨b1, b2⟩ := sndO cs (pos := pos) g h3 hg.2
      cases cs with
      | nil => unfold chkB at h3; cases h3
      | cons c2 cs2 => exact ⟨(de_or a1 b1).cast fun δ => (by rw [evOr]; intro q; cases q), (dt_or (a2 h2) b2).cast fun δ => (by rw [evOr]; exact tst_or; intro q; cases q)⟩
    · cases h
theorem sndM {N : List Str} {k : Nat} {P : Str → Fn → Prop} {PI : Str → FnI → Prop} {PG : Str → D → Prop} : ∀ (cs : Exs) {X : Cx} {sc : Scope} {fc : Str → Bool} {e : Expr} {o : Op}, GX X N sc fc k P PI PG → chkM N o cs sc e = true → gEs P PI PG cs → Both X e (.op o cs)
  | .nil, X, sc, fc, e, o, g, h, hg => by unfold chkM at h; cases h
  | .cons a .nil, X, sc, fc, e, o, g, h, hg => by unfold chkM at h; cases h
  | .cons a (.cons b (.cons c cs)), X, sc, fc, e, o, g, h, hg => by unfold chkM at h; cases h
  | .cons a (.cons b .nil), X, sc, fc, e, o, g, h, hg => by
    unfold chkM at h
    split at h
    · unfold gEs gEs at hg
      simp only [Bool.and_eq_true, decide_eq_true_eq] at h
      obtain ⟨⟨⟨⟨⟨⟨rfl, h2⟩, h3⟩, h4⟩, h5⟩, h6⟩, h7⟩ := h
      refine both_plain ((de_count g.room.units (snd a g h6 hg.1).1 (snd b g h7 hg.2.1).1 h2 h3 h4 h5).cast fun δ => ?_) fun _ => rfl
      rw [ev, evs]
      cases ev a δ with
      | ok r δ1 =>
        simp only [Res.bind, evs]
        cases ev b δ1 <;> rfl
      | exc _ _ => rfl
      | bad => rfl
    · cases h
theorem sndT {N : List Str} {k : Nat} {P : Str → Fn → Prop} {PI : Str → FnI → Prop} {PG : Str → D → Prop} : ∀ (cs : Exs) {X : Cx} {sc : Scope} {fc : Str → Bool} {es : List Expr}, GX X N sc fc k P PI PG → chkT N cs sc es = true → gEs P PI PG cs → DTs X es (evTests cs)
  | .nil, X, sc, fc, es, g, h, hg => by
    unfold chkT at h
    split at h
    · rw [show evTests .nil = fun δ => .ok true δ from funext fun δ => by rw [evTests]]; exact .nil
    · cases h
  | .cons c cs, X, sc, fc, es, g, h, hg => by
    unfold chkT at h
    split at h
    · unfold gEs at hg
      simp only [Bool.and_eq_true] at h
      obtain ⟨⟨h1, h2⟩, h3⟩ := h
      cases cs with
      | nil =>
        rw [show evTests (.cons c .nil) = fun δ => tst (ev c δ) from funext fun δ => by rw [evTests]]
        exact .one ((snd c g h1 hg.1).2 h2)
      | cons _ _ => cases h3
    · cases h
theorem sndI {N : List Str} {k : Nat} {P : Str → Fn → Prop} {PI : Str → FnI → Prop} {PG : Str → D → Prop} : ∀ (c : Src) {X : Cx} {sc sc' : Scope} {fc fc' : Str → Bool} {e tg' : Expr} {tg : Tg}, GX X N sc fc k P PI PG → chkI N c sc e = true → gI P PI PG c → (isTup tg = true ∨ needTup c = false) → chkTg N sc' fc' tg tg' = true → DI X (isTup tg) tg' e (evI c)
  | .seq c, X, sc, sc', fc, fc', e, tg', tg, g, h, hg, hn, ht => by
    unfold chkI at h
    unfold gI at hg
    exact (di_seq (snd c g h hg).1 fun _ _ _ _ _ kvs ds _ _ _ _ _ _ _ hi => by simp [itemsD, dictsOn] at hi).cast fun δ => by rw [evI] <;> rfl
  | .rng1 c, X, sc, sc', fc, fc', e, tg', tg, g, h, hg, hn, ht => by
    unfold chkI at h
    split at h
    · unfold gI at hg
      simp only [Bool.and_eq_true, decide_eq_true_eq] at h
      obtain ⟨⟨⟨rfl, h2⟩, h3⟩, h4⟩ := h
      exact (di_rng1 (g.gl h2).1 (g.blt _ (by decide +kernel)) h3 (snd c g h4 hg).1).cast fun δ => by rw [evI] <;> rfl
    · cases h
  | .rng2 c d, X, sc, sc', fc, fc', e, tg', tg, g, h, hg, hn, ht => by
    unfold chkI at h
    split at h
    · unfold gI at hg
      simp only [Bool.and_eq_true, decide_eq_true_eq] at h
      obtain ⟨⟨⟨⟨⟨rfl, h2⟩, h3⟩, h4⟩, h5⟩, h6⟩ := h
      exact (di_rng2 (g.gl h2).1 (g.blt _ (by decide +kernel)) h3 h4 (snd c g h5 hg.1).1 (snd d g h6 hg.2).1).cast fun δ => by rw [evI] <;> rfl
    · cases h
  | .enum c, X, sc, sc', fc, fc', e, tg', tg, g, h, hg, hn, ht => by
    unfold chkI at h
    split at h
    · unfold gI at hg
      simp only [Bool.and_eq_true, decide_eq_true_eq] at h
      obtain ⟨⟨⟨rfl, h2⟩, h3⟩, h4⟩ := h
      cases tg with
      | name i => rcases hn with hn | hn <;> cases hn
      | tup ts =>
        unfold chkTg at ht
        split at ht
        · exact (di_enum (g.gl h2).1 (g.blt _ (by decide +kernel)) h3 (snd c g h4 hg).1).cast fun δ => by rw [evI] <;> rfl
        · cases ht
    · cases h
  | .zip cs, X, sc, sc', fc, fc', e, tg', tg, g, h, hg, hn, ht => by
    unfold chkI at h
    split at h
    · rename_i f p es pos
      unfold gI at hg
      simp only [Bool.and_eq_true, Bool.or_eq_true, decide_eq_true_eq, beq_iff_eq] at h
      obtain ⟨⟨⟨⟨rfl, h2⟩, h3⟩, h4⟩, h5⟩ := h
      cases tg with
      | name i => rcases hn with hn | hn <;> cases hn
      | tup ts =>
        unfold chkTg at ht
        split at ht
        · rcases h4 with h4 | h4
          · obtain ⟨e1, e2, rfl⟩ : ∃ e1 e2, es = [e1, e2] := by
              match es, h4 with
              | [a, b], _ => exact ⟨a, b, rfl⟩
            exact (di_zip2 (g.gl h2).1 (g.blt _ (by decide +kernel)) h3 (sndL cs g h5 hg)).cast fun δ => by rw [evI] <;> rfl
          · obtain ⟨e1, e2, e3, rfl⟩ : ∃ e1 e2 e3, es = [e1, e2, e3] := by
              match es, h4 with
              | [a, b, c], _ => exact ⟨a, b, c, rfl⟩
            exact (di_zip3 (g.gl h2).1 (g.blt _ (by decide +kernel)) h3 (sndL cs g h5 hg)).cast fun δ => by rw [evI] <;> rfl
        · cases ht
    · cases h
end
end DL
set_option Elab.async false
set_option linter.all false
set_option maxRecDepth 100000
set_option maxHeartbeats 2000000
/-! Layer D, part M2: a, b, .. = x, y, .. in both orders of the stores. -/
namespace DL
open PySem PySem.Spec PyProof.Rows L2
def isStar : Expr → Bool
  | .Starred _ _ => true
  | _ => false
def swapS (sc : Scope) (ts vs : List Expr) : Option (Option (List Str)) :=
  if (!(ts.length == 2 || ts.length == 3) || vs.length != ts.length) = true then some none
  else if (vs.any isStar) = true then some none
  else
    let line := (ts.head?.map (·.pos.line)).getD 0
    let names := ts.filterMap fun
      | .Name id pos => if sc.names.lookup id == some .local && pos.line == line then some id else none
      | _ => none
    if (names.length != ts.length || names.eraseDups.length != names.length) = true then some none
    else if (vs.all (foldedForSure 8)) = true then some none
    else if (vs.all (constantsAlone 8)) = true then none else some (some names)
theorem isStar_any : ∀ (vs : List Expr), (vs.any fun | .Starred .. => true | _ => false) = vs.any isStar
  | [] => rfl
  | v :: vs => by
    rw [List.any_cons, List.any_cons, isStar_any vs]
    cases v <;> rfl
theorem swapS_ok {sc : Scope} {env : PySem.Env} {ts vs : List Expr} {kt k2 : Nat} {pt pt2 : Pos} {r : Option (List Str)} (hs : env.scope = sc) (hk : sc.kind = .function) (h : swapS sc ts vs = some r) : swappedStores [.Tuple ts kt pt] (.Tuple vs k2 pt2) env = pure r := by
  have hb : env.blockKind = .function := by unfold Env.blockKind; rw [hs, hk]; rfl
  have hn : (ts.filterMap fun | .Name id pos => if env.kindOf id == some .local && pos.line == ((ts.head?.map (·.pos.line)).getD 0) then some id else none | _ => none) = ts.filterMap fun
      | .Name id pos => if sc.names.lookup id == some .local && pos.line == ((ts.head?.map (·.pos.line)).getD 0) then some id else none
      | _ => none := by
    subst hs
    refine fm_congr ts fun m _ => ?_
    cases m <;> rfl
  unfold swapS at h
  unfold swappedStores
  dsimp only
  by_cases c1 : (!(ts.length == 2 || ts.length == 3) || vs.length != ts.length) = true
  · rw [if_pos c1] at h
    cases h
    refine (if_pos ?_).trans rfl
    rw [Bool.or_eq_true]
    exact .inl c1
  · rw [if_neg c1] at h
    refine (if_neg ?_).trans ?_
    · intro q
      rw [Bool.or_eq_true] at q
      rcases q with q | q
      · exact c1 q
      · rw [hb] at q; exact Bool.false_ne_true q
    by_cases c2 : (vs.any isStar) = true
    · rw [if_pos c2] at h
      cases h
      exact (if_pos ((isStar_any vs).trans c2)).trans rfl
    · rw [if_neg c2] at h
      refine (if_neg fun q => c2 ((isStar_any vs).symm.trans q)).trans ?_
      generalize hnm : List.filterMap _ ts = names
      have en := hnm.symm.trans hn
      subst en
      dsimp only at h
      split at h
      · cases h; rename_i c; exact (if_pos c).trans rfl
      · rename_i c
        refine (if_neg c).trans ?_
        split at h
        · cases h; rename_i c; exact (if_pos c).trans rfl
        · rename_i c
          refine (if_neg c).trans ?_
          split at h
          · cases h
          · cases h; rename_i c; exact (if_neg c).trans rfl
section
variable {X : Cx} {W : WX} {z : Option Addr} {G₀ B G G' H : Hp} {σ : L2.St} {δ δ' : Env}
def gNs : List Nat → TGs
  | [] => gNil
  | i :: is => gCons (gName i) (gNs is)
theorem gNs_of : ∀ {is : List Nat} {vs : List V} {σ : L2.St} {H : Hp} {Q : L2.St → Hp → Prop}, vs.length = is.length → Q (setAll σ is vs) H → gNs is vs σ H Q
  | [], [], σ, H, Q, _, q => ⟨rfl, q⟩
  | i :: is, v :: vs, σ, H, Q, h, q => ⟨v, vs, rfl, gNs_of (by simpa using h) q⟩
  | [], _ :: _, _, _, _, h, _ => by cases h
  | _ :: _, [], _, _, _, h, _ => by cases h
theorem ps_parC {tgs es : List Expr} {ta : TA} {tg : TGs} {kt k2 : Nat} {pt pt2 pos : Pos} (hc : X.calm = true) (ha : PA X es ta) (hg : PGs X tgs tg) (hst : (tgs.all noStar) = true) (hw : swappedStores [.Tuple tgs kt pt] (.Tuple es k2 pt2) X.env = pure none) :
    PS X (.Assign [.Tuple tgs kt pt] (.Tuple es k2 pt2) pos) (fun D σ H => ta σ H fun vs H1 => vs.length = tgs.length ∧ vs.length ≤ 1000 ∧ tg vs σ H1 D.nx) := by
  refine ⟨fun pins s σ H D I h => ?_⟩
  refine wpAny_Assign_stores (wpAny_Tuple_spliced (thn (ha.run _ pins s σ H _ I h) fun us s1 ⟨vs, H1, I1, r1, hl, hz, q1⟩ => ⟨?_, ?_⟩)) (sole_noLc rfl _ _) hw
  · rw [← r1.length, sizeLine_eq]; omega
  · have I2 : Inv X pins σ H1 { s1 with heap := s1.heap.push { cls := .type "tuple", data := .seq us.toArray } } := I1.kept (t' := s1.toks) fun b o e => Heap.get?_push_of_some _ e
    show wpAny _ _ (assign (.Tuple tgs kt pt) X.env (.ref s1.heap.objs.size)) (fun _ => SP X pins D .next) X.xe _
    have lu := r1.length
    refine assign_Tuple_tuple (I2.ok.hd hc) (IsTup.new s1.heap us.toArray) (by rw [each_len, List.size_toArray]; omega) (each_star _ hst) fun h' hx => ?_
    have I3 : Inv X pins σ H1 { s1 with heap := h' } := I2.kept (t' := s1.toks) fun b o e => hx b o (Nat.ne_of_lt (Heap.lt_size e)) e
    exact thn (hg.run pins _ σ H1 vs _ D.nx I3 (by simpa using r1) q1) fun _ s2 q => q
/-- the names at the slots -/
inductive NmS (X : Cx) : List Nat → List Expr → Prop where
  | nil : NmS X [] []
  | cons {i : Nat} {x : Str} {p : Pos} {is : List Nat} {es : List Expr} (hi : X.N[i]? = some x) (hx : Loc X.env.scope x) (hf : X.fn x = true ∨ X.env.scope.names.lookup x = some .local) (h : NmS X is es) : NmS X (i :: is) (.Name x p :: es)
theorem NmS.pgs {is : List Nat} {es : List Expr} (hN : X.N.Nodup) (h : NmS X is es) : PGs X es (gNs is) := by
  induction h with
  | nil => exact pgs_nil
  | cons hi hx hf _ ih => exact pgs_cons (pg_name hN hi hx hf) ih rfl
theorem NmS.star {is : List Nat} {es : List Expr} (h : NmS X is es) : (es.all noStar) = true ∧ es.length = is.length := by
  induction h with
  | nil => exact ⟨rfl, rfl⟩
  | cons _ _ _ _ ih => exact ⟨by rw [List.all_cons, ih.1]; rfl, by rw [List.length_cons, List.length_cons, ih.2]⟩
theorem parS_len : ∀ {is : List Nat} {rs : List RV} {δ δ' : Env}, DL.parS is rs δ = some δ' → rs.length = is.length
  | [], [], _, _, _ => rfl
  | i :: is, r :: rs, δ, δ', h => by
    unfold DL.parS at h
    split at h
    · cases h
    · split at h
      · cases h
      · rw [List.length_cons, List.length_cons, parS_len h]
  | [], _ :: _, _, _, h => by cases h
  | _ :: _, [], _, _, h => by cases h
theorem ds_parC {is : List Nat} {tgs es : List Expr} {cs : Exs} {kt k2 : Nat} {pt pt2 pos : Pos} (hc : X.calm = true) (hN : X.N.Nodup) (hn : NmS X is tgs) (ha : DEp X es (evP cs)) (hp : (es.all plainE) = true) (hz : es.length ≤ 1000) (hl : tgs.length ≤ 1000) (hw : swappedStores [.Tuple tgs kt pt] (.Tuple es k2 pt2) X.env = pure none) :
    DS X (.Assign [.Tuple tgs kt pt] (.Tuple es k2 pt2) pos) (evS (.par is cs)) := fun W tk => by
  refine DS.of tk (ps_parC hc (ha.pa tk hp) (hn.pgs hN) hn.star.1 hw) fun D σ H z G₀ B G δ R k => ?_
  unfold evS at k
  refine ⟨z, G₀, B, G, δ, R, (k.at σ).imp fun rs δ1 G1 H1 R1 s1 k1 vs pv => ?_⟩
  cases c : DL.parS is rs δ1 with
  | none => rw [c] at k1; exact k1.elim
  | some δ2 =>
    rw [c] at k1
    have R2 := R1.parS pv c
    have h1 := parS_len c
    have h2 := pv.len
    have h3 := hn.star.2
    exact ⟨by omega, by omega, gNs_of (by omega) (k1.use R2)⟩
theorem ds_par3 {i j l : Nat} {x y w : Str} {a b c : Expr} {cs : Exs} {px py pw pt pos : Pos} {kt k2 pt2} (hc : X.calm = true) (hN : X.N.Nodup) (hi : X.N[i]? = some x) (hj : X.N[j]? = some y) (hl : X.N[l]? = some w) (hij : i ≠ j) (hil : i ≠ l) (hjl : j ≠ l)
    (hx : X.env.scope.names.lookup x = some .local) (hy : X.env.scope.names.lookup y = some .local) (hw' : X.env.scope.names.lookup w = some .local) (ha : DEp X [a, b, c] (evP cs)) (hp : ([a, b, c].all plainE) = true) (hw : swappedStores [.Tuple [.Name x px, .Name y py, .Name w pw] kt pt] (.Tuple [a, b, c] k2 pt2) X.env = pure (some [x, y, w])) :
    DS X (.Assign [.Tuple [.Name x px, .Name y py, .Name w pw] kt pt] (.Tuple [a, b, c] k2 pt2) pos) (evS (.par [i, j, l] cs)) := fun W tk => by
  refine DS.of tk (L2.ps_par3 hc hN hi hj hl hij hil hjl hx hy hw' (ha.pa tk hp) hw (sole_noLc rfl _ _)) fun D σ H z G₀ B G δ R k => ?_
  unfold evS at k
  refine ⟨z, G₀, B, G, δ, R, (k.at σ).imp fun rs δ1 G1 H1 R1 s1 k1 vs pv => ?_⟩
  cases c' : DL.parS [i, j, l] rs δ1 with
  | none => rw [c'] at k1; exact k1.elim
  | some δ2 =>
    rw [c'] at k1
    have R2 := R1.parS pv c'
    have h1 := parS_len c'
    have h2 := pv.len
    match vs, h2.trans h1, R2 with
    | [u, v, t], _, R2 => exact ⟨u, v, t, rfl, k1.use R2⟩
theorem ds_par2 {i j : Nat} {x y : Str} {a b : Expr} {cs : Exs} {px py pt pos : Pos} {kt k2 pt2} (hc : X.calm = true) (hN : X.N.Nodup) (hi : X.N[i]? = some x) (hj : X.N[j]? = some y) (hij : i ≠ j)
    (hx : X.env.scope.names.lookup x = some .local) (hy : X.env.scope.names.lookup y = some .local) (ha : DEp X [a, b] (evP cs)) (hp : ([a, b].all plainE) = true) (hw : swappedStores [.Tuple [.Name x px, .Name y py] kt pt] (.Tuple [a, b] k2 pt2) X.env = pure (some [x, y])) :
    DS X (.Assign [.Tuple [.Name x px, .Name y py] kt pt] (.Tuple [a, b] k2 pt2) pos) (evS (.par [i, j] cs)) := fun W tk => by
  refine DS.of tk (ps_par hc hN hi hj hij hx hy (ha.pa tk hp) hw (sole_noLc rfl _ _)) fun D σ H z G₀ B G δ R k => ?_
  unfold evS at k
  refine ⟨z, G₀, B, G, δ, R, (k.at σ).imp fun rs δ1 G1 H1 R1 s1 k1 vs pv => ?_⟩
  cases c' : DL.parS [i, j] rs δ1 with
  | none => rw [c'] at k1; exact k1.elim
  | some δ2 =>
    rw [c'] at k1
    have R2 := R1.parS pv c'
    have h1 := parS_len c'
    have h2 := pv.len
    match vs, h2.trans h1, R2 with
    | [u, v], _, R2 => exact ⟨u, v, rfl, k1.use R2⟩
theorem sndP {N : List Str} {k : Nat} {P : Str → Fn → Prop} {PI : Str → FnI → Prop} {PG : Str → D → Prop} : ∀ (cs : Exs) {X : Cx} {sc : Scope} {fc : Str → Bool} {es : List Expr}, GX X N sc fc k P PI PG → chks N cs sc es = true → gEs P PI PG cs → DEp X es (evP cs)
  | .nil, X, sc, fc, es, g, h, hg => by
    unfold chks at h
    split at h
    · exact dep_nil
    · cases h
  | .cons c cs, X, sc, fc, es, g, h, hg => by
    unfold chks at h
    split at h
    · unfold gEs at hg
      rw [Bool.and_eq_true] at h
      exact dep_cons (snd c g h.1 hg.1).1 (sndP cs g h.2 hg.2)
    · cases h
def chkNs (N : List Str) (sc : Scope) : List Nat → List Expr → Bool
  | [], es => match es with
    | [] => true
    | _ => false
  | i :: is, es => match es with
    | .Name x _ :: es => decide (N[i]? = some x) && locS sc (fun _ => true) x && chkNs N sc is es
    | _ => false
theorem chkNs_ok {N : List Str} {sc : Scope} {k : Nat} {P : Str → Fn → Prop} {PI : Str → FnI → Prop} {PG : Str → D → Prop} (g : GX X N sc (fun _ => true) k P PI PG) : ∀ {is : List Nat} {es : List Expr}, chkNs N sc is es = true → NmS X is es
  | [], es, h => by
    unfold chkNs at h
    split at h
    · exact .nil
    · cases h
  | i :: is, es, h => by
    unfold chkNs at h
    split at h
    · simp only [Bool.and_eq_true, decide_eq_true_eq] at h
      obtain ⟨l1, l2⟩ := g.loc h.1.2
      exact .cons (by rw [g.hN]; exact h.1.1) l1 l2 (chkNs_ok g h.2)
    · cases h
/-- the names, all plain locals, stored from the right -/
def chkSw (sc : Scope) (is : List Nat) (ts vs : List Expr) : Bool := match is, ts, vs with
  | [i, j], [.Name x _, .Name y _], [_, _] => decide (swapS sc ts vs = some (some [x, y])) && decide (i ≠ j) && decide (sc.names.lookup x = some .local) && decide (sc.names.lookup y = some .local)
  | [i, j, l], [.Name x _, .Name y _, .Name w _], [_, _, _] => decide (swapS sc ts vs = some (some [x, y, w])) && decide (i ≠ j) && decide (i ≠ l) && decide (j ≠ l) && decide (sc.names.lookup x = some .local) && decide (sc.names.lookup y = some .local) && decide (sc.names.lookup w = some .local)
  | _, _, _ => false
def chkPar (N : List Str) (sc : Scope) (is : List Nat) (cs : Exs) (ts vs : List Expr) : Bool := chkNs N sc is ts && vs.all plainE && chks N cs sc vs && decide (vs.length ≤ 1000) && decide (ts.length ≤ 1000) && (decide (swapS sc ts vs = some none) || chkSw sc is ts vs)
theorem chkPar_ok {N : List Str} {sc : Scope} {k : Nat} {P : Str → Fn → Prop} {PI : Str → FnI → Prop} {PG : Str → D → Prop} (g : GX X N sc (fun _ => true) k P PI PG) {is : List Nat} {cs : Exs} {ts vs : List Expr} {kt k2 : Nat} {pt pt2 pos : Pos} (h : chkPar N sc is cs ts vs = true) (hg : gEs P PI PG cs) :
    DS X (.Assign [.Tuple ts kt pt] (.Tuple vs k2 pt2) pos) (evS (.par is cs)) := by
  unfold chkPar at h
  simp only [Bool.and_eq_true, Bool.or_eq_true, decide_eq_true_eq] at h
  obtain ⟨⟨⟨⟨⟨h1, h2⟩, h3⟩, h4⟩, h5⟩, h6⟩ := h
  have nm := chkNs_ok g h1
  have dp := sndP cs g h3 hg
  have hN : X.N.Nodup := by rw [g.hN]; exact g.nd
  rcases h6 with h6 | h6
  · exact ds_parC g.calm hN nm dp h2 h4 h5 (swapS_ok g.hs g.kd h6)
  · unfold chkSw at h6
    split at h6
    · simp only [Bool.and_eq_true, decide_eq_true_eq] at h6
      obtain ⟨⟨⟨q1, q2⟩, q3⟩, q4⟩ := h6
      cases nm with
      | cons n1 _ _ nm => cases nm with
        | cons n2 _ _ nm => exact ds_par2 g.calm hN n1 n2 q2 (by rw [g.hs]; exact q3) (by rw [g.hs]; exact q4) dp h2 (swapS_ok g.hs g.kd q1)
    · simp only [Bool.and_eq_true, decide_eq_true_eq] at h6
      obtain ⟨⟨⟨⟨⟨⟨q1, q2⟩, q3⟩, q4⟩, q5⟩, q6⟩, q7⟩ := h6
      cases nm with
      | cons n1 _ _ nm => cases nm with
        | cons n2 _ _ nm => cases nm with
          | cons n3 _ _ nm => exact ds_par3 g.calm hN n1 n2 n3 q2 q3 q4 (by rw [g.hs]; exact q5) (by rw [g.hs]; exact q6) (by rw [g.hs]; exact q7) dp h2 (swapS_ok g.hs g.kd q1)
    · cases h6
end
end DL
set_option Elab.async false
set_option linter.all false
set_option maxRecDepth 100000
set_option maxHeartbeats 2000000
/-! Layer D, part Q: statements and defs: the checker, its soundness. -/
namespace DL
open PySem PySem.Spec PyProof.Rows L2

def allF : Str → Bool := fun _ => true
def locL (sc : Scope) (x : Str) : Bool := decide (sc.names.lookup x = some .local)
mutual
def chkS (N : List Str) (sc : Scope) : DL.St → Stmt → Bool
  | .set i c, st => match st with
    | .Assign [.Name x _] e _ => decide (N[i]? = some x) && locS sc allF x && chk N c sc e
    | _ => false
  | .setT g c, st => match st with
    | .Assign [tg] e _ => chkTg N sc allF g tg && isTup g && noLc e && !isTupE e && noStar tg && chk N c sc e
    | _ => false
  | .par is es, st => match st with
    | .Assign [.Tuple ts _ _] (.Tuple vs _ _) _ => chkPar N sc is es ts vs
    | _ => false
  | .setI i ca ce, st => match st with
    | .Assign [.Subscript (.Name x _) a _] e _ => decide (N[i]? = some x) && visS sc x && chk N ca sc a && chk N ce sc e && plainIx a && noLc e
    | _ => false
  | .aug i o c, st => match st with
    | .AugAssign (.Name x _) p e _ => decide (N[i]? = some x) && locS sc allF x && decide (augB o = some p) && chk N c sc e
    | _ => false
  | .augI _ _ _ _, _ => false
  | .app i c, st => match st with
    | .Expr (.Call (.Attribute (.Name x _) m apos) [e] [] cpos) _ => decide (N[i]? = some x) && visS sc x && decide (m = ("append" : Str)) && plainE e && (apos.endLine == cpos.line) && chk N c sc e
    | _ => false
  | .upd _ _, _ => false
  | .revs _, _ => false
  | .expr c, st => match st with
    | .Expr e _ => noLc e && chk N c sc e
    | _ => false
  | .ifs c a b, st => match st with
    | .If c' a' b' _ => chk N c sc c' && testE c' && chkSs N sc a a' && chkSs N sc b b'
    | _ => false
  | .for_ g src body, st => match st with
    | .For tg iter body' [] _ => chkI N src sc iter && (isTup g || !needTup src) && noSetE iter && chkTg N sc allF g tg && chkSs N sc body body'
    | _ => false
  | .whl c body, st => match st with
    | .While c' body' [] _ => chk N c sc c' && testE c' && chkSs N sc body body'
    | _ => false
  | .ret c, st => match st with
    | .Return (some e) _ => chk N c sc e
    | _ => false
  | .retN, st => match st with
    | .Return none _ => true
    | _ => false
  | .brk, st => match st with
    | .Break _ => true
    | _ => false
  | .raise c m, st => match st with
    | .Raise (some (.Call (.Name x _) [.Constant (.str t) _ _] [] _)) none _ => match m with
      | .cst (.str t') => decide (c = x) && glS sc x && decide (t' = t)
      | _ => false
    | _ => false
def chkSs (N : List Str) (sc : Scope) : Sts → List Stmt → Bool
  | .nil, st => match st with
    | [] => true
    | _ => false
  | .cons c cs, st => match st with
    | s :: ss => chkS N sc c s && chkSs N sc cs ss
    | [] => false
end
section
variable (P : Str → Fn → Prop) (PI : Str → FnI → Prop) (PG : Str → D → Prop)
mutual
def gS : DL.St → Prop
  | .set _ e => gE P PI PG e
  | .setT _ e => gE P PI PG e
  | .par _ es => gEs P PI PG es
  | .setI _ k e => gE P PI PG k ∧ gE P PI PG e
  | .aug _ _ e => gE P PI PG e
  | .augI _ k _ e => gE P PI PG k ∧ gE P PI PG e
  | .app _ e => gE P PI PG e
  | .upd _ e => gE P PI PG e
  | .revs _ => True
  | .expr e => gE P PI PG e
  | .ifs c a b => gE P PI PG c ∧ gSs a ∧ gSs b
  | .for_ _ src body => gI P PI PG src ∧ gSs body
  | .whl c body => gE P PI PG c ∧ gSs body
  | .ret e => gE P PI PG e
  | .retN => True
  | .brk => True
  | .raise c _ => PG c .none
def gSs : Sts → Prop
  | .nil => True
  | .cons s ss => gS s ∧ gSs ss
end
end
section
variable {X : Cx} {N : List Str} {sc : Scope} {k : Nat} {P : Str → Fn → Prop} {PI : Str → FnI → Prop} {PG : Str → D → Prop}
theorem setOk (X : Cx) : SetOk X := fun pins s σ G H p o d k v kd d' iv u kv vv _ _ _ _ _ _ _ _ e h => by
  subst e
  cases kd <;> simp [setItemD, dictsOn] at h
/-- a comprehension stored under a name -/
theorem set_comp {i : Nat} {y : Str} {py spos : Pos} {e : Expr} {c : Ex} (g : GX X N sc allF k P PI PG) (hi : N[i]? = some y) (hl : locS sc allF y = true) (h : chk N c sc e = true) (hg : gE P PI PG c) : DS X (.Assign [.Name y py] e spos) (evS (.set i c)) := by
  obtain ⟨l1, l2⟩ := g.loc hl
  have hN : X.N.Nodup := by rw [g.hN]; exact g.nd
  have hi' : X.N[i]? = some y := by rw [g.hN]; exact hi
  by_cases hn : noLc e = true
  · exact ds_set hN hi' l1 l2 (snd c g h hg).1 (noLc_sw hn _ _ _)
  · have b := (snd c g h hg).1
    cases e with
    | ListComp elt gens scope pos =>
      by_cases hsw : (py.line == pos.line) = true ∧ sc.names.lookup y = some .local ∧ (scope.names.any fun (n, k) => n == y && (k == .local || k == .cell)) = false
      · obtain ⟨s1, s2, s3⟩ := hsw
        have hyl : X.env.scope.names.lookup y = some .local := by rw [g.hs]; exact s2
        have hsw : ∀ gs, swapsWith (.ListComp elt gs scope pos) (some (.Name y py)) spos.line X.env = pure true := fun gs => sw_true (by rw [g.hs]; exact g.kd) hyl s1 s3
        cases c with
        | comp src own tg tests ce =>
          unfold chk at h
          split at h
          · rename_i elt' tg' iter ifs scope' pos' heq
            cases heq
            unfold gE at hg
            simp only [Bool.and_eq_true] at h
            obtain ⟨⟨⟨⟨⟨⟨⟨h1, h2⟩, h3⟩, h4⟩, h5⟩, h6⟩, h7⟩, h8⟩ := h
            have ok := blkB_ok h4
            have gb := g.blk ok.kind
            have hI : DI X (isTup tg) tg' iter (evI src) := sndI src g h1 hg.1 (by simpa using h2) h5
            have := ds_setLc (own := ownP N own) (is := tgIs tg) (pos := pos) (spos := spos) (py := py) g.calm hN hi' hyl (hsw _) hI (by rw [g.hN, g.hs]; exact ok) (fun s H C cl fp => tg_snd (gb s H C cl fp) h5 fun q => q)
              (by rw [ownP_snd]; intro i hi; rw [List.all_eq_true] at h6; simpa using h6 i hi) (fun s H C cl fp => sndT tests (gb s H C cl fp) h7 hg.2.1) (fun s H C cl fp => (snd ce (gb s H C cl fp) h8 hg.2.2).1) h3
            rw [ownP_snd] at this
            exact this
          · cases h
        | op o args =>
          unfold chk at h
          have : opArgs sc o (.ListComp elt gens scope pos) = none := rfl
          rw [this] at h
          have q := chkM_no (N := N) (o := o) (sc := sc) (e := .ListComp elt gens scope pos) (fun _ _ _ _ q => by cases q) (args := args)
          exact absurd (q.symm.trans h) (by decide)
        | _ => unfold chk at h; cases h
      · refine ds_set hN hi' l1 l2 b ?_
        have hb : X.env.blockKind = .function := by unfold Env.blockKind; rw [g.hs, g.kd]; rfl
        have hk : X.env.kindOf y = sc.names.lookup y := by show X.env.scope.names.lookup y = _; rw [g.hs]
        have e1 : swapsWith (.ListComp elt gens scope pos) (some (.Name y py)) spos.line X.env = pure (X.env.blockKind == .function && X.env.kindOf y == some .local && py.line == pos.line && !(scope.names.any fun (n, k) => n == y && (k == .local || k == .cell))) := rfl
        rw [e1, hb, hk]
        congr 1
        by_cases q1 : (py.line == pos.line) = true
        · by_cases q2 : sc.names.lookup y = some .local
          · by_cases q3 : (scope.names.any fun (n, k) => n == y && (k == .local || k == .cell)) = false
            · exact absurd ⟨q1, q2, q3⟩ hsw
            · rw [Bool.not_eq_false] at q3
              rw [q3]
              simp
          · have : (sc.names.lookup y == some NameKind.local) = false := by rw [beq_eq_false_iff_ne]; exact q2
            rw [this]
            simp
        · rw [Bool.not_eq_true] at q1
          rw [q1]
          simp
    | SetComp _ _ _ _ =>
      exfalso
      cases c <;> first
        | (unfold chk at h; cases h; done)
        | (rename_i o args; unfold chk at h; rw [show opArgs sc o (.SetComp _ _ _ _) = none from rfl] at h; exact absurd ((chkM_no (N := N) (o := o) (sc := sc) (e := .SetComp _ _ _ _) (fun _ _ _ _ q => by cases q) (args := args)).symm.trans h) (by decide); done)
    | DictComp _ _ _ _ _ =>
      exfalso
      cases c <;> first
        | (unfold chk at h; cases h; done)
        | (rename_i o args; unfold chk at h; rw [show opArgs sc o (.DictComp _ _ _ _ _) = none from rfl] at h; exact absurd ((chkM_no (N := N) (o := o) (sc := sc) (e := .DictComp _ _ _ _ _) (fun _ _ _ _ q => by cases q) (args := args)).symm.trans h) (by decide); done)
    | _ => exact absurd rfl hn
end
mutual
theorem sndS {N : List Str} {sc : Scope} {k : Nat} {P : Str → Fn → Prop} {PI : Str → FnI → Prop} {PG : Str → D → Prop} {X : Cx} (g : GX X N sc allF k P PI PG) (hp : PassesOwn (model X.prog X.w) X.A X.env X.xe) : ∀ (c : DL.St) {st : Stmt}, chkS N sc c st = true → gS P PI PG c → DS X st (evS c)
  | .set i c, st, h, hg => by
    unfold chkS at h
    split at h
    · simp only [Bool.and_eq_true, decide_eq_true_eq] at h
      unfold gS at hg
      exact set_comp g h.1.1 h.1.2 h.2 hg
    · cases h
  | .setT t c, st, h, hg => by
    unfold chkS at h
    split at h
    · simp only [Bool.and_eq_true, Bool.not_eq_true'] at h
      obtain ⟨⟨⟨⟨⟨h1, h2⟩, h3⟩, h4⟩, h5⟩, h6⟩ := h
      unfold gS at hg
      exact ds_setT (tp := true) (snd c g h6 hg).1 (tg_snd g h1 fun q => by rw [h2] at q; cases q) h3 h4 h5
    · cases h
  | .par is es, st, h, hg => by
    unfold chkS at h
    split at h
    · unfold gS at hg
      exact chkPar_ok g h hg
    · cases h
  | .setI i ca ce, st, h, hg => by
    unfold chkS at h
    split at h
    · simp only [Bool.and_eq_true, decide_eq_true_eq] at h
      obtain ⟨⟨⟨⟨⟨h1, h2⟩, h3⟩, h4⟩, h5⟩, h6⟩ := h
      unfold gS at hg
      obtain ⟨v1, v2, v3⟩ := g.vis h2
      exact ds_setI (setOk X) (by rw [g.hN]; exact h1) v1 v2 v3 (snd ca g h3 hg.1).1 (snd ce g h4 hg.2).1 h5 h6
    · cases h
  | .aug i o c, st, h, hg => by
    unfold chkS at h
    split at h
    · simp only [Bool.and_eq_true, decide_eq_true_eq] at h
      obtain ⟨⟨⟨h1, h2⟩, h3⟩, h4⟩ := h
      unfold gS at hg
      obtain ⟨l1, l2⟩ := g.loc h2
      exact ds_aug h3 (by rw [g.hN]; exact g.nd) (by rw [g.hN]; exact h1) l1 l2 (snd c g h4 hg).1
    · cases h
  | .augI _ _ _ _, st, h, hg => by unfold chkS at h; cases h
  | .app i c, st, h, hg => by
    unfold chkS at h
    split at h
    · simp only [Bool.and_eq_true, decide_eq_true_eq] at h
      obtain ⟨⟨⟨⟨⟨h1, h2⟩, rfl⟩, h4⟩, h5⟩, h6⟩ := h
      unfold gS at hg
      obtain ⟨v1, v2, v3⟩ := g.vis h2
      exact ds_app (by rw [g.hN]; exact h1) v1 v2 v3 (snd c g h6 hg).1 h4 h5
    · cases h
  | .upd _ _, st, h, hg => by unfold chkS at h; cases h
  | .revs _, st, h, hg => by unfold chkS at h; cases h
  | .expr c, st, h, hg => by
    unfold chkS at h
    split at h
    · rw [Bool.and_eq_true] at h
      unfold gS at hg
      exact ds_expr (snd c g h.2 hg).1 h.1
    · cases h
  | .ifs c a b, st, h, hg => by
    unfold chkS at h
    split at h
    · simp only [Bool.and_eq_true] at h
      obtain ⟨⟨⟨h1, h2⟩, h3⟩, h4⟩ := h
      unfold gS at hg
      exact ds_if ((snd c g h1 hg.1).2 h2) (sndSs g hp a h3 hg.2.1) (sndSs g hp b h4 hg.2.2)
    · cases h
  | .for_ t src body, st, h, hg => by
    unfold chkS at h
    split at h
    · simp only [Bool.and_eq_true] at h
      obtain ⟨⟨⟨⟨h1, h2⟩, h3⟩, h4⟩, h5⟩ := h
      unfold gS at hg
      exact ds_for hp g.calm (sndI src g h1 hg.1 (by simpa using h2) h4) (tg_snd g h4 fun q => q) (sndSs g hp body h5 hg.2) h3
    · cases h
  | .whl c body, st, h, hg => by
    unfold chkS at h
    split at h
    · simp only [Bool.and_eq_true] at h
      obtain ⟨⟨h1, h2⟩, h3⟩ := h
      unfold gS at hg
      exact ds_while hp ((snd c g h1 hg.1).2 h2) (sndSs g hp body h3 hg.2)
    · cases h
  | .ret c, st, h, hg => by
    unfold chkS at h
    split at h
    · unfold gS at hg
      exact ds_ret (snd c g h hg).1
    · cases h
  | .retN, st, h, hg => by
    unfold chkS at h
    split at h
    · exact ds_retN
    · cases h
  | .brk, st, h, hg => by
    unfold chkS at h
    split at h
    · exact ds_brk
    · cases h
  | .raise c m, st, h, hg => by
    unfold chkS at h
    split at h
    · split at h
      · simp only [Bool.and_eq_true, decide_eq_true_eq] at h
        obtain ⟨⟨rfl, h2⟩, rfl⟩ := h
        obtain ⟨h3, h4⟩ := g.gl h2
        unfold gS at hg
        rcases g.glb _ _ hg with ⟨i, t, q, _⟩ | ⟨_, E⟩
        · cases q
        · exact ds_raise g.calm E h3 h4
      · cases h
    · cases h
theorem sndSs {N : List Str} {sc : Scope} {k : Nat} {P : Str → Fn → Prop} {PI : Str → FnI → Prop} {PG : Str → D → Prop} {X : Cx} (g : GX X N sc allF k P PI PG) (hp : PassesOwn (model X.prog X.w) X.A X.env X.xe) : ∀ (c : Sts) {st : List Stmt}, chkSs N sc c st = true → gSs P PI PG c → DSs X st (evSs c)
  | .nil, st, h, hg => by
    unfold chkSs at h
    split at h
    · exact dss_nil
    · cases h
  | .cons c cs, st, h, hg => by
    unfold chkSs at h
    split at h
    · rw [Bool.and_eq_true] at h
      unfold gSs at hg
      exact dss_cons (sndS g hp c h.1 hg.1) (sndSs g hp cs h.2 hg.2)
    · cases h
end
end DL
set_option Elab.async false
set_option linter.all false
set_option maxRecDepth 100000
set_option maxHeartbeats 2000000
/-! Layer D, part R: defs. -/
namespace DL
open PySem PySem.Spec PyProof.Rows L2
section
variable {K : PySem.W.Frag} {w : World} {G H B : Hp}
theorem startS_len {n : Nat} {ss : List Sl} : (startS n ss).length = ss.length + (n - ss.length) := by unfold startS; simp
theorem start_len {N : List Str} {vs : List V} : (L2.start N vs).length = vs.length + (N.length - vs.length) := by unfold L2.start; simp
theorem startS_get {n i : Nat} {ss : List Sl} : getS (startS n ss) i = getS ss i := by
  unfold startS getS
  rw [List.getD_eq_getElem?_getD, List.getD_eq_getElem?_getD]
  by_cases h : i < ss.length
  · rw [List.getElem?_append_left h]
  · rw [List.getElem?_append_right (by omega), List.getElem?_replicate, List.getElem?_eq_none (by omega)]
    split <;> rfl
theorem start_get {N : List Str} {vs : List V} {i : Nat} : slotV (L2.start N vs) i = vs[i]? := by
  unfold L2.start slotV
  rw [List.getD_eq_getElem?_getD]
  by_cases h : i < vs.length
  · rw [List.getElem?_append_left (by rw [List.length_map]; exact h), List.getElem?_map, List.getElem?_eq_getElem h]; rfl
  · rw [List.getElem?_append_right (by rw [List.length_map]; omega), List.getElem?_replicate, List.getElem?_eq_none (by omega)]
    split <;> rfl
theorem getS_map {ds : List D} {i : Nat} : getS (ds.map Sl.sh) i = match ds[i]? with
    | some d => .sh d
    | none => .non := by
  unfold getS
  rw [List.getD_eq_getElem?_getD, List.getElem?_map]
  cases ds[i]? <;> rfl
theorem rs_start {N : List Str} {ds : List D} {vs : List V} (e : Same G H) (h : Rps K w G ds vs) : RS K w none G H G H (L2.start N vs) (startS N.length (ds.map .sh)) := by
  have hl := h.length
  refine ⟨Same.refl _, Same.refl _, e, fun _ _ => rfl, by rw [startS_len, start_len, List.length_map, hl], fun i => ?_, fun i j v _ h1 => ?_⟩
  · rw [startS_get, getS_map, start_get]
    cases c : ds[i]? with
    | none => trivial
    | some d =>
      obtain ⟨x, hx, rx⟩ := h.get c
      exact ⟨x, hx, rx⟩
  · rw [startS_get, getS_map] at h1
    cases c : ds[i]? with
    | none => rw [c] at h1; cases h1
    | some d => rw [c] at h1; cases h1
theorem rs_startI {N : List Str} {ds : List D} {vs : List V} {p : Addr} {o : HO} {d0 : D} (e : Same G H) (h : Rps K w G ds vs) (hp : H p = some o) (hn : G p = none) (ok : ObOk K w G p o d0) :
    RS K w (some p) G (fun a => if a = p then none else H a) G H (L2.start N (.ref p :: vs)) (startS N.length (.io d0 :: ds.map .sh)) := by
  have hl := h.length
  have g0 : getS (startS N.length (.io d0 :: ds.map .sh)) 0 = .io d0 := by rw [startS_get]; rfl
  have gs : ∀ i, getS (startS N.length (.io d0 :: ds.map .sh)) (i + 1) = match ds[i]? with
    | some d => .sh d
    | none => .non := fun i => by
    rw [startS_get, ← getS_map]; rfl
  have s1 : ∀ i, isOwn (getS (startS N.length (.io d0 :: ds.map .sh)) (i + 1)) = false := fun i => by
    rw [gs]
    cases ds[i]? <;> rfl
  refine ⟨fun a u q => ?_, Same.refl _, e, fun _ _ => rfl, by rw [startS_len, start_len, List.length_cons, List.length_cons, List.length_map, hl], fun i => ?_, fun i j v n h1 h2 => ?_⟩
  · by_cases w : a = p
    · simp [w] at q
    · simpa [w] using q
  · rw [start_get]
    cases i with
    | zero => rw [g0]; exact ⟨rfl, p, o, rfl, rfl, by simp, hn, hp, ok⟩
    | succ i =>
      rw [gs]
      cases c : ds[i]? with
      | none => trivial
      | some d =>
        obtain ⟨x, hx, rx⟩ := h.get c
        exact ⟨x, hx, rx⟩
  · cases i with
    | succ i => rw [s1] at h1; cases h1
    | zero =>
      cases j with
      | zero => exact absurd rfl n
      | succ j => rw [s1] at h2; cases h2
end
section
variable {prog : Program} {w : World} {K : PySem.W.Frag} {mg : Str → Option Value} {base : Heap}
/-- what holds of the callees at level k -/
structure Cal (prog : Program) (w : World) (K : PySem.W.Frag) (mg : Str → Option Value) (base : Heap) (k : Nat) (x : Str) (sp : Sp) : Prop where
  ok : ∃ addr fd ps, FnOk prog w K mg base (L2.CX prog w) k addr fd ps sp ∧ mg x = some (.ref addr) ∧ PySem.W.keepIn K (.ref addr) = true ∧ Binds K fd ps []
theorem Cal.mono {j k : Nat} {x : Str} {sp : Sp} (F : Cal prog w K mg base j x sp) (h : j ≤ k) : Cal prog w K mg base k x sp := by
  obtain ⟨addr, fd, ps, h1, h2⟩ := F.ok
  exact ⟨addr, fd, ps, h1.mono h, h2⟩
abbrev CalF (prog : Program) (w : World) (K : PySem.W.Frag) (mg : Str → Option Value) (base : Heap) (k : Nat) (x : Str) (f : Fn) : Prop := ∃ np, Cal prog w K mg base k x (spF K w mg np f) ∧ ∀ ds, ds.length ≠ np → f ds = .bad
abbrev CalI (prog : Program) (w : World) (K : PySem.W.Frag) (mg : Str → Option Value) (base : Heap) (k : Nat) (x : Str) (f : FnI) : Prop := ∃ np, Cal prog w K mg base k x (spFI K w mg np f) ∧ ∀ d0 ds, ds.length + 1 ≠ np → f d0 ds = .bad
abbrev GlD (K : PySem.W.Frag) (mg : Str → Option Value) (x : Str) (d : D) : Prop := (∃ i t, d = .int i ∧ mg x = some (.int i t)) ∨ (d = .none ∧ ExcOk K mg x)
theorem CalF.mono {j k : Nat} {x : Str} {f : Fn} (F : CalF prog w K mg base j x f) (h : j ≤ k) : CalF prog w K mg base k x f := let ⟨np, c, b⟩ := F; ⟨np, c.mono h, b⟩
theorem CalI.mono {j k : Nat} {x : Str} {f : FnI} (F : CalI prog w K mg base j x f) (h : j ≤ k) : CalI prog w K mg base k x f := let ⟨np, c, b⟩ := F; ⟨np, c.mono h, b⟩
/-- nothing is promised of a def that is never right -/
theorem cal_bad {k : Nat} {x : Str} {sp : Sp} (F : Cal prog w K mg base k x sp) {np : Nat} : CalF prog w K mg base k x (fun _ => .bad) → True := fun _ => trivial
variable {x qual : Str} {params : Arguments} {body : List Stmt} {scope : Scope} {dvs : List V} {kws : List (Str × V)} {f : Addr} {fd : FuncData} {N ps : List Str} {k : Nat} {code : Sts}
theorem body_pss (S : FnScope N ps scope) (hblt : ∀ x ∈ bltNames, mg x = none) (hc : chkSs N scope code body = true) (hg : gSs (CalF prog w K mg base k) (CalI prog w K mg base k) (GlD K mg) code) {cdv : Value} {A : Around} {outer : List PySem.Env} {s : Shared} {H : Hp} {E : XK}
    (hr : Room k (A.deeper (envOfC qual scope s.heap.objs.size f cdv))) : PSs (cxOf (L2.CX prog w) prog w K mg base N qual scope f cdv A outer s H E) body (tDS (cxOf (L2.CX prog w) prog w K mg base N qual scope f cdv A outer s H E) (fun cls d _ H => E cls d H) (evSs code)) := by
  have g : GX (cxOf (L2.CX prog w) prog w K mg base N qual scope f cdv A outer s H E) N scope allF k (CalF prog w K mg base k) (CalI prog w K mg base k) (GlD K mg) :=
    ⟨rfl, rfl, S.nd, S.kind, rfl, hr, hblt, fun _ _ => rfl, fun x f h => let ⟨np, c, b⟩ := h; ⟨np, ⟨c.ok⟩, b⟩, fun x f h => let ⟨np, c, b⟩ := h; ⟨np, ⟨c.ok⟩, b⟩, fun x d h => h⟩
  exact sndSs g (L2.passes_of rfl) code hc hg _ (L2.takes_of rfl rfl rfl rfl)
theorem fn_snd (F : FunD K x qual params body scope dvs kws f fd) (S : FnScope N ps scope) (hblt : ∀ x ∈ bltNames, mg x = none) (hc : chkSs N scope code body = true) (hg : gSs (CalF prog w K mg base k) (CalI prog w K mg base k) (GlD K mg) code) :
    FnOk prog w K mg base (L2.CX prog w) (k + 1) f fd ps (spF K w mg ps.length (mkFn ps.length N.length code)) := by
  refine F.ok S spF_len fun cdv A outer s H vs Q E hr hsp => ⟨_, body_pss S hblt hc hg hr, ?_⟩
  obtain ⟨G, ds, hl, e, hr', hm⟩ := hsp
  refine ⟨none, G, H, G, _, rs_start e hr', ?_⟩
  unfold mkFn at hm
  rw [if_pos hl] at hm
  cases c : evSs code (startS N.length (ds.map .sh)) with
  | bad => rw [c] at hm; exact hm.elim
  | exc cl δ =>
    rw [c] at hm
    exact fun σ' G' H' R s1 => hm H' R.bh
  | ok fl δ =>
    rw [c] at hm
    intro σ' G' H' R s1
    cases fl with
    | next => exact hm _ G' H' R.bh R.gg R.gh R.nb rfl
    | brk => exact hm.elim
    | ret r =>
      intro v hv
      cases r with
      | br i => exact hm.elim
      | sh d => exact hm _ G' H' R.bh R.gg R.gh R.nb hv
      | ow d =>
        obtain ⟨p, o, h1, h2, h3, h4, h5, h6⟩ := hv
        exact hm _ G' H' R.bh R.gg R.gh R.nb ⟨p, o, h1, h2, h3, h4, h5⟩
theorem fn_sndI (F : FunD K x qual params body scope dvs kws f fd) (S : FnScope N ps scope) (hblt : ∀ x ∈ bltNames, mg x = none) (hc : chkSs N scope code body = true) (hg : gSs (CalF prog w K mg base k) (CalI prog w K mg base k) (GlD K mg) code) :
    FnOk prog w K mg base (L2.CX prog w) (k + 1) f fd ps (spFI K w mg ps.length (mkFnI ps.length N.length code)) := by
  refine F.ok S spFI_len fun cdv A outer s H vs Q E hr hsp => ⟨_, body_pss S hblt hc hg hr, ?_⟩
  obtain ⟨G, p, o, d0, ds, xs, rfl, hl, e, hp, hn, hok, hr', hm⟩ := hsp
  refine ⟨some p, G, fun a => if a = p then none else H a, G, _, rs_startI e hr' hp hn hok, ?_⟩
  unfold mkFnI at hm
  rw [if_pos hl] at hm
  have fin : ∀ {δ : Env} {d : D} {σ' : L2.St} {G' H' : Hp}, RS K w (some p) G (fun a => if a = p then none else H a) G' H' σ' δ → getS δ 0 = .io d → ∃ o', (∀ a u, a ≠ p → H a = some u → H' a = some u) ∧ H' p = some o' ∧ G' p = none ∧ ObOk K w G' p o' d ∧ (∀ a, H a ≠ none → G' a = G a) := fun {δ d σ' G' H'} R c => by
    have q := R.slot 0
    rw [c] at q
    obtain ⟨_, p', o', hz, h1, h2, h3, h4, h5⟩ := q
    cases hz
    refine ⟨o', fun a u ne q => R.bh a u (by simp [ne]; exact q), h4, h3, h5, fun a q => ?_⟩
    by_cases ne : a = p
    · rw [ne, h3, hn]
    · exact R.nb a (by simp [ne]; exact q)
  cases c : evSs code (startS N.length (.io d0 :: ds.map .sh)) with
  | bad => rw [c] at hm; exact hm.elim
  | exc cl δ =>
    rw [c] at hm
    intro σ' G' H' R s1
    cases c2 : getS δ 0 with
    | io d =>
      simp only [endI, c2] at hm
      obtain ⟨o', a1, a2, a3, a4, a5⟩ := fin R c2
      exact hm G' H' o' a1 a2 a3 a4 R.gg R.gh a5
    | non => simp only [endI, c2] at hm
    | sh d => simp only [endI, c2] at hm
    | ow d => simp only [endI, c2] at hm
  | ok fl δ =>
    rw [c] at hm
    intro σ' G' H' R s1
    have go : ∀ {r : RV} {v : V}, (match endI (.ok (.ret r) δ) with
      | .ok r d1 => ∀ v G' H' o', (∀ a u, a ≠ p → H a = some u → H' a = some u) → H' p = some o' → G' p = none → ObOk K w G' p o' d1 → Same G G' → Same G' H' → (∀ a, H a ≠ none → G' a = G a) → NewR K w G' H H' v r → Q v H'
      | .exc c d1 => True
      | .bad => False) → RVOk K w (fun a => if a = p then none else H a) G' H' σ' δ v r → Q v H' := fun {r v} hm hv => by
      cases c2 : getS δ 0 with
      | io d =>
        obtain ⟨o', a1, a2, a3, a4, a5⟩ := fin R c2
        have q0 := R.slot 0
        rw [c2] at q0
        obtain ⟨_, p', o1, hz, hs0, _⟩ := q0
        cases hz
        cases r with
        | br i => simp only [endI] at hm
        | sh d' =>
          simp only [endI, c2] at hm
          exact hm v G' H' o' a1 a2 a3 a4 R.gg R.gh a5 hv
        | ow d' =>
          simp only [endI, c2] at hm
          obtain ⟨q, u, h1, h2, h3, h4, h5, h6⟩ := hv
          have ne : q ≠ p := fun e => by
            subst e
            exact h6 0 (by rw [c2]; rfl) hs0
          exact hm v G' H' o' a1 a2 a3 a4 R.gg R.gh a5 ⟨q, u, h1, by simpa [ne] using h2, h3, h4, h5⟩
      | non => cases r <;> simp only [endI, c2] at hm
      | sh d => cases r <;> simp only [endI, c2] at hm
      | ow d => cases r <;> simp only [endI, c2] at hm
    cases fl with
    | next =>
      cases c2 : getS δ 0 with
      | io d =>
        simp only [endI, c2] at hm
        obtain ⟨o', a1, a2, a3, a4, a5⟩ := fin R c2
        exact hm .non G' H' o' a1 a2 a3 a4 R.gg R.gh a5 rfl
      | non => simp only [endI, c2] at hm
      | sh d => simp only [endI, c2] at hm
      | ow d => simp only [endI, c2] at hm
    | brk => exact hm.elim
    | ret r =>
      intro v hv
      refine go (r := r) (v := v) ?_ hv
      revert hm
      cases endI (.ok (.ret r) δ) with
      | ok r' d1 => exact fun h => h
      | exc _ _ => exact fun _ => trivial
      | bad => exact fun h => h
theorem mkFn_bad {np ns : Nat} {c : Sts} : ∀ ds : List D, ds.length ≠ np → mkFn np ns c ds = .bad := fun ds h => by unfold mkFn; rw [if_neg h]
theorem mkFnI_bad {np ns : Nat} {c : Sts} : ∀ (d0 : D) (ds : List D), ds.length + 1 ≠ np → mkFnI np ns c d0 ds = .bad := fun d0 ds h => by unfold mkFnI; rw [if_neg h]
end
end DL
set_option Elab.async false
set_option linter.all false
set_option maxRecDepth 100000
set_option maxHeartbeats 2000000
/-! Layer D, part S: a law's end. -/
namespace DL
open PySem PySem.Spec PyProof.Rows L2
abbrev noE (sp : Sp) : Sp := fun vs H Q _ => sp vs H Q (fun _ _ _ => False)
theorem noExcFn {P : Program} {w : World} {K : PySem.W.Frag} {mg : Str → Option Value} {base : Heap} {k : Nat} {f : Addr} {fd : FuncData} {ps : List Str} {sp : Sp} (F : FnOk P w K mg base (L2.CX P w) k f fd ps sp) : FnOk P w K mg base L2.CX0 k f fd ps (noE sp) where
  len := fun vs H Q E h => F.len _ _ _ _ h
  run := fun A outer s H args us vs Q E hr e0 hb r h => codeAny_mono (F.run A outer s H args us vs Q _ hr e0 hb r h) fun r s' hq => by
    cases r with
    | error e =>
      obtain ⟨_, _, _, _, _, _, _, _, _, _, _, _, z⟩ := hq
      exact z.elim
    | ok fl => cases fl <;> exact hq
theorem law_sp {K : PySem.W.Frag} {w : World} {mg : Str → Option Value} {f : Fn} (hlaw : ∀ ns : List Int, ns.length ≤ 63 → f [.list (ns.map .int)] = .ok (.sh (.bool true))) {H : Hp} {a : Addr} {ns : List Int} (hl : ns.length ≤ 63) (hS : SqL K H a (ns.map V.int)) :
    noE (spF K w mg 1 f) [.ref a] H (fun v _ => v = .bl true) (fun _ _ _ => False) := by
  have hr : ∀ ns : List Int, Rps K w H (ns.map PyData.int) (ns.map V.int) := by
    intro ns
    induction ns with
    | nil => rfl
    | cons n ns ih => exact ⟨.int n, ns.map V.int, rfl, rfl, ih⟩
  refine ⟨H, [.list (ns.map .int)], rfl, Same.refl _, ⟨.ref a, [], rfl, ⟨a, ns.map V.int, rfl, hS, ?_, hr ns⟩, rfl⟩, ?_⟩
  · rw [List.length_map, sizeLine_eq]; omega
  · rw [hlaw ns hl]
    exact fun v G' H' _ _ _ _ n => n
end DL
set_option linter.all false
set_option maxRecDepth 100000
namespace DL
open PySem (Str PyData)
def c__law_flows : Sts := (.cons (.par [2, 3] (.cons (.lst .nil) (.cons (.cst (.int 0)) .nil))) (.cons (.for_ (.tup (.cons (.name 4) (.cons (.name 5) .nil))) (.zip (.cons (.var 0) (.cons (.var 1) .nil))) (.cons (.set 3 (.op .mx2 (.cons (.cst (.int 0)) (.cons (.op .sub (.cons (.op .add (.cons (.var 3) (.cons (.var 5) .nil))) (.cons (.var 4) .nil))) .nil)))) (.cons (.app 2 (.var 3)) .nil))) (.cons (.ret (.var 2)) .nil)))
def f__law_flows : Fn := mkFn 2 6 c__law_flows
def c__law_agrees : Sts := (.cons (.set 3 (.call "_law_flows" (f__law_flows) (.cons (.var 0) (.cons (.var 1) .nil)))) (.cons (.ret (.op .eq (.cons (.comp (.seq (.var 2)) [4, 5] (.tup (.cons (.name 4) (.cons (.name 5) .nil))) (.cons (.op .ne (.cons (.op .idx (.cons (.var 3) (.cons (.var 4) .nil))) (.cons (.var 5) .nil))) .nil) (.cst (.int 1))) (.cons (.lst .nil) .nil)))) .nil))
def f__law_agrees : Fn := mkFn 3 6 c__law_agrees
def c__law_all_seatings : Sts := (.cons (.set 1 (.op .len (.cons (.op .idx (.cons (.var 0) (.cons (.cst (.int 1)) .nil))) .nil))) (.cons (.set 2 (.lst (.cons (.op .mul (.cons (.tup (.cons (.cst .none) .nil)) (.cons (.var 1) .nil))) .nil))) (.cons (.for_ (.name 3) (.rng1 (.var 1)) (.cons (.set 4 .dct0) (.cons (.for_ (.name 5) (.seq (.var 2)) (.cons (.for_ (.name 6) (.rng1 (.var 1)) (.cons (.ifs (.op .is_ (.cons (.op .idx (.cons (.var 5) (.cons (.var 6) .nil))) (.cons (.cst .none) .nil))) (.cons (.set 7 (.op .idx (.cons (.op .idx (.cons (.var 0) (.cons (.cst (.int 1)) .nil))) (.cons (.var 6) .nil)))) (.cons (.whl (.and (.cons (.op .lt (.cons (.var 7) (.cons (.op .len (.cons (.op .idx (.cons (.var 0) (.cons (.cst (.int 0)) .nil))) .nil)) .nil))) (.cons (.op .ge (.cons (.op .count (.cons (.var 5) (.cons (.var 7) .nil))) (.cons (.op .idx (.cons (.op .idx (.cons (.var 0) (.cons (.cst (.int 0)) .nil))) (.cons (.var 7) .nil))) .nil))) .nil))) (.cons (.set 7 (.op .add (.cons (.var 7) (.cons (.cst (.int 1)) .nil)))) .nil)) (.cons (.setI 4 (.op .add (.cons (.op .add (.cons (.op (.slc false true) (.cons (.var 5) (.cons (.var 6) .nil))) (.cons (.tup (.cons (.var 7) .nil)) .nil))) (.cons (.op (.slc true false) (.cons (.var 5) (.cons (.op .add (.cons (.var 6) (.cons (.cst (.int 1)) .nil))) .nil))) .nil))) (.cst (.bool true))) .nil))) .nil) .nil)) .nil)) (.cons (.set 2 (.op .list (.cons (.var 4) .nil))) .nil)))) (.cons (.ret (.op .sorted (.cons (.var 2) .nil))) .nil))))
def f__law_all_seatings : Fn := mkFn 1 8 c__law_all_seatings
def c__law_gcd : Sts := (.cons (.par [2, 3] (.cons (.var 0) (.cons (.var 1) .nil))) (.cons (.whl (.op .gt (.cons (.var 3) (.cons (.cst (.int 0)) .nil))) (.cons (.par [2, 3] (.cons (.var 3) (.cons (.op .mod (.cons (.op .int (.cons (.var 2) .nil)) (.cons (.var 3) .nil))) .nil))) .nil)) (.cons (.ret (.var 2)) .nil)))
def f__law_gcd : Fn := mkFn 2 4 c__law_gcd
def c__law_low : Sts := (.cons (.set 2 (.call "_law_gcd" (f__law_gcd) (.cons (.var 0) (.cons (.var 1) .nil)))) (.cons (.ret (.tup (.cons (.op .fdiv (.cons (.var 0) (.cons (.var 2) .nil))) (.cons (.op .fdiv (.cons (.var 1) (.cons (.var 2) .nil))) .nil)))) .nil))
def f__law_low : Fn := mkFn 2 3 c__law_low
def c__law_all_sum : Sts := (.cons (.par [1, 2] (.cons (.cst (.int 0)) (.cons (.cst (.int 1)) .nil))) (.cons (.for_ (.tup (.cons (.name 3) (.cons (.name 4) .nil))) (.seq (.var 0)) (.cons (.set 1 (.op .add (.cons (.op .mul (.cons (.var 1) (.cons (.var 4) .nil))) (.cons (.op .mul (.cons (.var 3) (.cons (.var 2) .nil))) .nil)))) (.cons (.set 2 (.op .mul (.cons (.var 2) (.cons (.var 4) .nil)))) .nil))) (.cons (.ret (.call "_law_low" (f__law_low) (.cons (.var 1) (.cons (.var 2) .nil)))) .nil)))
def f__law_all_sum : Fn := mkFn 1 5 c__law_all_sum
def c__law_draw : Sts := (.cons (.ifs (.op .gt (.cons (.op .idx (.cons (.var 0) (.cons (.cst (.int 0)) .nil))) (.cons (.cst (.int 1)) .nil))) (.cons (.set 3 (.op .mod (.cons (.op .idx (.cons (.var 0) (.cons (.cst (.int 0)) .nil))) (.cons (.var 1) .nil)))) (.cons (.setI 0 (.cst (.int 0)) (.op .fdiv (.cons (.op .idx (.cons (.var 0) (.cons (.cst (.int 0)) .nil))) (.cons (.var 1) .nil)))) (.cons (.ret (.var 3)) .nil))) .nil) (.cons (.setI 0 (.cst (.int 2)) (.op .add (.cons (.op .idx (.cons (.var 0) (.cons (.cst (.int 2)) .nil))) (.cons (.cst (.int 1)) .nil)))) (.cons (.set 2 (.op .mod (.cons (.op .pow (.cons (.op .add (.cons (.op .idx (.cons (.var 0) (.cons (.cst (.int 1)) .nil))) (.cons (.op .mul (.cons (.cst (.int 15485867)) (.cons (.op .idx (.cons (.var 0) (.cons (.cst (.int 2)) .nil))) .nil))) .nil))) (.cons (.cst (.int 5)) .nil))) (.cons (.cst (.int 2147483647)) .nil)))) (.cons (.set 3 (.op .fdiv (.cons (.op .mod (.cons (.op .pow (.cons (.op .add (.cons (.var 2) (.cons (.op .mul (.cons (.cst (.int 7919)) (.cons (.op .idx (.cons (.var 0) (.cons (.cst (.int 2)) .nil))) .nil))) .nil))) (.cons (.cst (.int 3)) .nil))) (.cons (.cst (.int 2147483629)) .nil))) (.cons (.cst (.int 32)) .nil)))) (.cons (.ret (.op .mod (.cons (.var 3) (.cons (.var 1) .nil)))) .nil)))))
def f__law_draw : FnI := mkFnI 2 4 c__law_draw
def c__law_choice : Sts := (.cons (.ret (.op .idx (.cons (.var 1) (.cons (.callI "_law_draw" (f__law_draw) 0 (.cons (.op .len (.cons (.var 1) .nil)) .nil)) .nil)))) .nil)
def f__law_choice : FnI := mkFnI 2 2 c__law_choice
def c__law_any_value : Sts := (.cons (.set 1 (.lst (.cons (.cst .none) (.cons (.cst (.bool true)) (.cons (.cst (.str "")) (.cons (.cst (.str "x")) (.cons (.tup .nil) (.cons (.lst .nil) (.cons (.tup (.cons (.tup .nil) .nil)) (.cons (.cst (.int 7)) (.cons (.op .neg (.cons (.cst (.int 1)) .nil)) (.cons (.op .pow (.cons (.cst (.int 10)) (.cons (.cst (.int 30)) .nil))) (.cons (.tup (.cons (.cst (.int 1)) (.cons (.cst (.int 2)) .nil))) (.cons (.tup (.cons (.tup (.cons (.cst (.int 2)) .nil)) (.cons (.tup (.cons (.cst (.int 0)) .nil)) .nil))) (.cons (.tup (.cons (.tup (.cons (.cst (.int 0)) (.cons (.cst (.int 1)) .nil))) (.cons (.tup .nil) .nil))) (.cons (.tup (.cons (.cst (.int 0)) (.cons (.cst (.int 1)) .nil))) .nil)))))))))))))))) (.cons (.ret (.callI "_law_choice" (f__law_choice) 0 (.cons (.var 1) .nil))) .nil))
def f__law_any_value : FnI := mkFnI 1 2 c__law_any_value
def c__law_away : Sts := (.cons (.ret (.op .tuple (.cons (.comp (.rng1 (.op .len (.cons (.var 1) .nil))) [2] (.name 2) (.cons (.op .eq (.cons (.op .idx (.cons (.var 1) (.cons (.var 2) .nil))) (.cons (.op .len (.cons (.op .idx (.cons (.var 0) (.cons (.cst (.int 0)) .nil))) .nil)) .nil))) .nil) (.var 2)) .nil))) .nil)
def f__law_away : Fn := mkFn 2 3 c__law_away
def c__law_behind : Sts := (.cons (.for_ (.tup (.cons (.name 3) (.cons (.name 4) .nil))) (.enum (.var 2)) (.cons (.for_ (.name 5) (.seq (.op (.slc true false) (.cons (.var 2) (.cons (.op .add (.cons (.var 3) (.cons (.cst (.int 1)) .nil))) .nil)))) (.cons (.ifs (.chain (.op .idx (.cons (.op .idx (.cons (.var 0) (.cons (.cst (.int 1)) .nil))) (.cons (.var 4) .nil))) .le (.op .idx (.cons (.var 1) (.cons (.var 5) .nil))) .lt (.op .idx (.cons (.var 1) (.cons (.var 4) .nil)))) (.cons (.ret (.cst (.bool false))) .nil) .nil) .nil)) .nil)) (.cons (.ret (.cst (.bool true))) .nil))
def f__law_behind : Fn := mkFn 3 6 c__law_behind
def c__law_draw_v2 : Sts := (.cons (.ifs (.op .gt (.cons (.op .idx (.cons (.var 0) (.cons (.cst (.int 0)) .nil))) (.cons (.cst (.int 1)) .nil))) (.cons (.set 3 (.op .mod (.cons (.op .int (.cons (.op .idx (.cons (.var 0) (.cons (.cst (.int 0)) .nil))) .nil)) (.cons (.var 1) .nil)))) (.cons (.setI 0 (.cst (.int 0)) (.op .fdiv (.cons (.op .idx (.cons (.var 0) (.cons (.cst (.int 0)) .nil))) (.cons (.var 1) .nil)))) (.cons (.ret (.var 3)) .nil))) .nil) (.cons (.setI 0 (.cst (.int 2)) (.op .add (.cons (.op .idx (.cons (.var 0) (.cons (.cst (.int 2)) .nil))) (.cons (.cst (.int 1)) .nil)))) (.cons (.set 2 (.op .mod (.cons (.op .int (.cons (.op .pow (.cons (.op .add (.cons (.op .idx (.cons (.var 0) (.cons (.cst (.int 1)) .nil))) (.cons (.op .mul (.cons (.cst (.int 15485867)) (.cons (.op .idx (.cons (.var 0) (.cons (.cst (.int 2)) .nil))) .nil))) .nil))) (.cons (.cst (.int 5)) .nil))) .nil)) (.cons (.cst (.int 2147483647)) .nil)))) (.cons (.set 3 (.op .fdiv (.cons (.op .mod (.cons (.op .int (.cons (.op .pow (.cons (.op .add (.cons (.var 2) (.cons (.op .mul (.cons (.cst (.int 7919)) (.cons (.op .idx (.cons (.var 0) (.cons (.cst (.int 2)) .nil))) .nil))) .nil))) (.cons (.cst (.int 3)) .nil))) .nil)) (.cons (.cst (.int 2147483629)) .nil))) (.cons (.cst (.int 32)) .nil)))) (.cons (.ret (.op .mod (.cons (.op .int (.cons (.var 3) .nil)) (.cons (.var 1) .nil)))) .nil)))))
def f__law_draw_v2 : FnI := mkFnI 2 4 c__law_draw_v2
def c__law_choice_v2 : Sts := (.cons (.ret (.op .idx (.cons (.var 1) (.cons (.callI "_law_draw" (f__law_draw_v2) 0 (.cons (.op .len (.cons (.var 1) .nil)) .nil)) .nil)))) .nil)
def f__law_choice_v2 : FnI := mkFnI 2 2 c__law_choice_v2
def c__law_choose : Sts := (.cons (.set 2 (.cst (.int 1))) (.cons (.for_ (.name 3) (.rng1 (.var 1)) (.cons (.set 2 (.op .fdiv (.cons (.op .mul (.cons (.var 2) (.cons (.op .sub (.cons (.var 0) (.cons (.var 3) .nil))) .nil))) (.cons (.op .add (.cons (.var 3) (.cons (.cst (.int 1)) .nil))) .nil)))) .nil)) (.cons (.ret (.var 2)) .nil)))
def f__law_choose : Fn := mkFn 2 4 c__law_choose
def c__law_demands : Sts := (.cons (.ret (.comp (.rng1 (.op .len (.cons (.op .idx (.cons (.var 0) (.cons (.cst (.int 0)) .nil))) .nil))) [1] (.name 1) .nil (.op .len (.cons (.comp (.seq (.op .idx (.cons (.var 0) (.cons (.cst (.int 1)) .nil)))) [2] (.name 2) (.cons (.op .eq (.cons (.var 2) (.cons (.var 1) .nil))) .nil) (.cst (.int 1))) .nil)))) .nil)
def f__law_demands : Fn := mkFn 1 3 c__law_demands
def c__law_condition : Sts := (.cons (.set 2 (.call "_law_flows" (f__law_flows) (.cons (.op .idx (.cons (.var 0) (.cons (.cst (.int 0)) .nil))) (.cons (.call "_law_demands" (f__law_demands) (.cons (.var 0) .nil)) .nil)))) (.cons (.ifs (.op .ne (.cons (.op .len (.cons (.var 1) .nil)) (.cons (.op .idx (.cons (.var 2) (.cons (.op .neg (.cons (.cst (.int 1)) .nil)) .nil))) .nil))) (.cons (.ret (.cst (.bool false))) .nil) .nil) (.cons (.for_ (.tup (.cons (.name 3) (.cons (.name 4) .nil))) (.enum (.var 2)) (.cons (.ifs (.op .gt (.cons (.op .len (.cons (.comp (.seq (.var 1)) [5] (.name 5) (.cons (.op .le (.cons (.op .idx (.cons (.op .idx (.cons (.var 0) (.cons (.cst (.int 1)) .nil))) (.cons (.var 5) .nil))) (.cons (.var 3) .nil))) .nil) (.cst (.int 1))) .nil)) (.cons (.var 4) .nil))) (.cons (.ret (.cst (.bool false))) .nil) .nil) .nil)) (.cons (.ret (.cst (.bool true))) .nil))))
def f__law_condition : Fn := mkFn 2 6 c__law_condition
def c__law_corrupt (self : FnI) : Sts := (.cons (.ifs (.and (.cons (.op (.isi2 .tuple .list) (.cons (.var 1) .nil)) (.cons (.op .gt (.cons (.op .len (.cons (.var 1) .nil)) (.cons (.cst (.int 0)) .nil))) (.cons (.op .gt (.cons (.callI "_law_draw" (f__law_draw) 0 (.cons (.cst (.int 5)) .nil)) (.cons (.cst (.int 0)) .nil))) .nil)))) (.cons (.set 2 (.op .list (.cons (.var 1) .nil))) (.cons (.set 3 (.callI "_law_draw" (f__law_draw) 0 (.cons (.op .len (.cons (.var 2) .nil)) .nil))) (.cons (.setI 2 (.var 3) (.callI "_law_corrupt" (self) 0 (.cons (.op .idx (.cons (.var 2) (.cons (.var 3) .nil))) .nil))) (.cons (.ret (.ite (.op (.isi .tuple) (.cons (.var 1) .nil)) (.op .tuple (.cons (.var 2) .nil)) (.var 2))) .nil)))) .nil) (.cons (.ifs (.op (.isi2 .tuple .list) (.cons (.var 1) .nil)) (.cons (.set 4 (.ite (.op (.isi .tuple) (.cons (.var 1) .nil)) (.op .list (.cons (.var 1) .nil)) (.op .tuple (.cons (.var 1) .nil)))) (.cons (.ret (.op .idx (.cons (.lst (.cons (.var 4) (.cons (.op .add (.cons (.var 1) (.cons (.op (.slc false true) (.cons (.var 1) (.cons (.cst (.int 1)) .nil))) .nil))) (.cons (.op (.slc true false) (.cons (.var 1) (.cons (.cst (.int 1)) .nil))) (.cons (.op .rev (.cons (.var 1) .nil)) (.cons (.cst .none) .nil)))))) (.cons (.callI "_law_draw" (f__law_draw) 0 (.cons (.cst (.int 5)) .nil)) .nil)))) .nil)) .nil) (.cons (.ifs (.op (.isi .int) (.cons (.var 1) .nil)) (.cons (.ret (.op .idx (.cons (.lst (.cons (.op .add (.cons (.var 1) (.cons (.cst (.int 1)) .nil))) (.cons (.op .sub (.cons (.var 1) (.cons (.cst (.int 1)) .nil))) (.cons (.cst (.bool true)) (.cons (.cst .none) (.cons (.cst (.int 0)) (.cons (.cst (.int 9)) (.cons (.op .str (.cons (.var 1) .nil)) .nil)))))))) (.cons (.callI "_law_draw" (f__law_draw) 0 (.cons (.cst (.int 7)) .nil)) .nil)))) .nil) .nil) (.cons (.ret (.op .idx (.cons (.lst (.cons (.cst .none) (.cons (.cst (.int 7)) (.cons (.cst (.str "a")) (.cons (.cst (.str "b")) (.cons (.cst (.str "x")) (.cons (.cst (.str "y")) (.cons (.cst (.str "z")) (.cons (.cst (.str "")) .nil))))))))) (.cons (.callI "_law_draw" (f__law_draw) 0 (.cons (.cst (.int 8)) .nil)) .nil)))) .nil))))
def f__law_corrupt : Nat → FnI
  | 0 => fun _ _ => .bad
  | n + 1 => mkFnI 2 5 (c__law_corrupt (f__law_corrupt n))
def c__law_kind : Sts := (.cons (.ifs (.op (.isi .bool) (.cons (.var 0) .nil)) (.cons (.ret (.cst (.int 1))) .nil) .nil) (.cons (.ifs (.op (.isi .int) (.cons (.var 0) .nil)) (.cons (.ret (.cst (.int 2))) .nil) .nil) (.cons (.ifs (.op (.isi .str) (.cons (.var 0) .nil)) (.cons (.ret (.cst (.int 3))) .nil) .nil) (.cons (.ifs (.op (.isi .list) (.cons (.var 0) .nil)) (.cons (.ret (.cst (.int 4))) .nil) .nil) (.cons (.ret (.ite (.op (.isi .tuple) (.cons (.var 0) .nil)) (.cst (.int 5)) (.cst (.int 6)))) .nil)))))
def f__law_kind : Fn := mkFn 1 1 c__law_kind
def c__law_equal (self : Fn) : Sts := (.cons (.ifs (.op .ne (.cons (.call "_law_kind" (f__law_kind) (.cons (.var 0) .nil)) (.cons (.call "_law_kind" (f__law_kind) (.cons (.var 1) .nil)) .nil))) (.cons (.ret (.cst (.bool false))) .nil) .nil) (.cons (.ifs (.and (.cons (.op .gt (.cons (.call "_law_kind" (f__law_kind) (.cons (.var 0) .nil)) (.cons (.cst (.int 3)) .nil))) (.cons (.op .lt (.cons (.call "_law_kind" (f__law_kind) (.cons (.var 0) .nil)) (.cons (.cst (.int 6)) .nil))) .nil))) (.cons (.ifs (.op .ne (.cons (.op .len (.cons (.var 0) .nil)) (.cons (.op .len (.cons (.var 1) .nil)) .nil))) (.cons (.ret (.cst (.bool false))) .nil) .nil) (.cons (.ret (.op .eq (.cons (.comp (.enum (.var 0)) [2, 3] (.tup (.cons (.name 2) (.cons (.name 3) .nil))) (.cons (.not (.call "_law_equal" (self) (.cons (.var 3) (.cons (.op .idx (.cons (.var 1) (.cons (.var 2) .nil))) .nil)))) .nil) (.var 2)) (.cons (.lst .nil) .nil)))) .nil)) .nil) (.cons (.ret (.op .eq (.cons (.var 0) (.cons (.var 1) .nil)))) .nil)))
def f__law_equal : Nat → Fn
  | 0 => fun _ => .bad
  | n + 1 => mkFn 2 4 (c__law_equal (f__law_equal n))
def c__law_first_ones : Sts := (.cons (.ret (.tup (.cons (.op .idx (.cons (.var 0) (.cons (.cst (.int 0)) .nil))) (.cons (.op .tuple (.cons (.comp (.seq (.op (.slc false true) (.cons (.var 1) (.cons (.var 2) .nil)))) [3] (.name 3) .nil (.op .idx (.cons (.op .idx (.cons (.var 0) (.cons (.cst (.int 1)) .nil))) (.cons (.var 3) .nil)))) .nil)) .nil)))) .nil)
def f__law_first_ones : Fn := mkFn 3 4 c__law_first_ones
def c__law_is_int : Sts := (.cons (.ret (.and (.cons (.op (.isi .int) (.cons (.var 0) .nil)) (.cons (.not (.op (.isi .bool) (.cons (.var 0) .nil))) .nil)))) .nil)
def f__law_is_int : Fn := mkFn 1 1 c__law_is_int
def c__law_fits : Sts := (.cons (.setT (.tup (.cons (.name 4) (.cons (.name 5) .nil))) (.var 0)) (.cons (.set 2 (.op .len (.cons (.var 4) .nil))) (.cons (.ifs (.or (.cons (.not (.op (.isi .tuple) (.cons (.var 1) .nil))) (.cons (.op .ne (.cons (.op .len (.cons (.var 1) .nil)) (.cons (.op .len (.cons (.var 5) .nil)) .nil))) .nil))) (.cons (.ret (.cst (.bool false))) .nil) .nil) (.cons (.ifs (.op .ne (.cons (.comp (.seq (.var 1)) [7] (.name 7) (.cons (.or (.cons (.not (.call "_law_is_int" (f__law_is_int) (.cons (.var 7) .nil))) (.cons (.not (.chain (.cst (.int 0)) .le (.var 7) .le (.var 2))) .nil))) .nil) (.var 7)) (.cons (.lst .nil) .nil))) (.cons (.ret (.cst (.bool false))) .nil) .nil) (.cons (.set 3 (.comp (.rng1 (.var 2)) [8] (.name 8) .nil (.op .count (.cons (.var 1) (.cons (.var 8) .nil))))) (.cons (.ifs (.op .ne (.cons (.comp (.zip (.cons (.var 5) (.cons (.var 1) .nil))) [6, 7] (.tup (.cons (.name 6) (.cons (.name 7) .nil))) (.cons (.op .lt (.cons (.var 7) (.cons (.var 6) .nil))) .nil) (.cst (.int 1))) (.cons (.lst .nil) .nil))) (.cons (.ret (.cst (.bool false))) .nil) .nil) (.cons (.ifs (.op .ne (.cons (.comp (.rng1 (.var 2)) [8] (.name 8) (.cons (.op .gt (.cons (.op .idx (.cons (.var 3) (.cons (.var 8) .nil))) (.cons (.op .idx (.cons (.var 4) (.cons (.var 8) .nil))) .nil))) .nil) (.var 8)) (.cons (.lst .nil) .nil))) (.cons (.ret (.cst (.bool false))) .nil) .nil) (.cons (.for_ (.tup (.cons (.name 6) (.cons (.name 7) .nil))) (.zip (.cons (.var 5) (.cons (.var 1) .nil))) (.cons (.ifs (.op .ne (.cons (.comp (.rng2 (.var 6) (.var 7)) [8] (.name 8) (.cons (.op .ne (.cons (.op .idx (.cons (.var 3) (.cons (.var 8) .nil))) (.cons (.op .idx (.cons (.var 4) (.cons (.var 8) .nil))) .nil))) .nil) (.var 8)) (.cons (.lst .nil) .nil))) (.cons (.ret (.cst (.bool false))) .nil) .nil) .nil)) (.cons (.ret (.cst (.bool true))) .nil)))))))))
def f__law_fits : Fn := mkFn 2 9 c__law_fits
def c__law_flight : Sts := (.cons (.par [6, 7] (.cons (.op .add (.cons (.cst (.int 1)) (.cons (.callI "_law_draw" (f__law_draw) 0 (.cons (.var 1) .nil)) .nil))) (.cons (.callI "_law_draw" (f__law_draw) 0 (.cons (.op .add (.cons (.var 2) (.cons (.cst (.int 1)) .nil))) .nil)) .nil))) (.cons (.set 3 (.callI "_law_choice" (f__law_choice) 0 (.cons (.lst (.cons (.cst (.int 2)) (.cons (.cst (.int 3)) (.cons (.cst (.int 4)) (.cons (.cst (.int 9)) .nil))))) .nil))) (.cons (.set 4 (.op .tuple (.cons (.comp (.rng1 (.var 6)) [8] (.name 8) .nil (.callI "_law_draw" (f__law_draw) 0 (.cons (.var 3) .nil))) .nil))) (.cons (.set 5 (.callI "_law_choice" (f__law_choice) 0 (.cons (.lst (.cons (.cst (.int 1)) (.cons (.cst (.int 2)) (.cons (.var 6) .nil)))) .nil))) (.cons (.ret (.tup (.cons (.var 4) (.cons (.op .tuple (.cons (.comp (.rng1 (.var 7)) [9] (.name 9) .nil (.callI "_law_draw" (f__law_draw) 0 (.cons (.op .mn2 (.cons (.var 5) (.cons (.var 6) .nil))) .nil))) .nil)) .nil)))) .nil)))))
def f__law_flight : FnI := mkFnI 3 10 c__law_flight
def c__law_flight_v2 : Sts := (.cons (.par [6, 7] (.cons (.op .add (.cons (.cst (.int 1)) (.cons (.callI "_law_draw" (f__law_draw_v2) 0 (.cons (.var 1) .nil)) .nil))) (.cons (.callI "_law_draw" (f__law_draw_v2) 0 (.cons (.op .add (.cons (.var 2) (.cons (.cst (.int 1)) .nil))) .nil)) .nil))) (.cons (.set 3 (.callI "_law_choice" (f__law_choice_v2) 0 (.cons (.lst (.cons (.cst (.int 2)) (.cons (.cst (.int 3)) (.cons (.cst (.int 4)) (.cons (.cst (.int 9)) .nil))))) .nil))) (.cons (.set 4 (.op .tuple (.cons (.comp (.rng1 (.var 6)) [8] (.name 8) .nil (.callI "_law_draw" (f__law_draw_v2) 0 (.cons (.var 3) .nil))) .nil))) (.cons (.set 5 (.callI "_law_choice" (f__law_choice_v2) 0 (.cons (.lst (.cons (.cst (.int 1)) (.cons (.cst (.int 2)) (.cons (.var 6) .nil)))) .nil))) (.cons (.ret (.tup (.cons (.var 4) (.cons (.op .tuple (.cons (.comp (.rng1 (.var 7)) [9] (.name 9) .nil (.callI "_law_draw" (f__law_draw_v2) 0 (.cons (.op .mn2 (.cons (.var 5) (.cons (.var 6) .nil))) .nil))) .nil)) .nil)))) .nil)))))
def f__law_flight_v2 : FnI := mkFnI 3 10 c__law_flight_v2
def c__law_is_flight : Sts := (.cons (.ifs (.or (.cons (.not (.op (.isi .tuple) (.cons (.var 0) .nil))) (.cons (.op .ne (.cons (.op .len (.cons (.var 0) .nil)) (.cons (.cst (.int 2)) .nil))) .nil))) (.cons (.ret (.cst (.bool false))) .nil) .nil) (.cons (.setT (.tup (.cons (.name 1) (.cons (.name 2) .nil))) (.var 0)) (.cons (.ifs (.or (.cons (.not (.op (.isi .tuple) (.cons (.var 1) .nil))) (.cons (.not (.op (.isi .tuple) (.cons (.var 2) .nil))) .nil))) (.cons (.ret (.cst (.bool false))) .nil) .nil) (.cons (.ifs (.or (.cons (.not (.chain (.cst (.int 1)) .le (.op .len (.cons (.var 1) .nil)) .le (.cst (.int 5)))) (.cons (.op .gt (.cons (.op .len (.cons (.var 2) .nil)) (.cons (.cst (.int 9)) .nil))) .nil))) (.cons (.ret (.cst (.bool false))) .nil) .nil) (.cons (.ifs (.op .ne (.cons (.comp (.seq (.var 1)) [3] (.name 3) (.cons (.or (.cons (.not (.call "_law_is_int" (f__law_is_int) (.cons (.var 3) .nil))) (.cons (.not (.chain (.cst (.int 0)) .le (.var 3) .le (.cst (.int 8)))) .nil))) .nil) (.var 3)) (.cons (.lst .nil) .nil))) (.cons (.ret (.cst (.bool false))) .nil) .nil) (.cons (.ret (.op .eq (.cons (.comp (.seq (.var 2)) [4] (.name 4) (.cons (.or (.cons (.not (.call "_law_is_int" (f__law_is_int) (.cons (.var 4) .nil))) (.cons (.not (.chain (.cst (.int 0)) .le (.var 4) .lt (.op .len (.cons (.var 1) .nil)))) .nil))) .nil) (.var 4)) (.cons (.lst .nil) .nil)))) .nil))))))
def f__law_is_flight : Fn := mkFn 1 5 c__law_is_flight
def c__law_is_order : Sts := (.cons (.ifs (.or (.cons (.not (.op (.isi .tuple) (.cons (.var 1) .nil))) (.cons (.op .ne (.cons (.op .len (.cons (.var 1) .nil)) (.cons (.op .len (.cons (.op .idx (.cons (.var 0) (.cons (.cst (.int 1)) .nil))) .nil)) .nil))) .nil))) (.cons (.ret (.cst (.bool false))) .nil) .nil) (.cons (.ifs (.op .ne (.cons (.comp (.seq (.var 1)) [2] (.name 2) (.cons (.not (.call "_law_is_int" (f__law_is_int) (.cons (.var 2) .nil))) .nil) (.var 2)) (.cons (.lst .nil) .nil))) (.cons (.ret (.cst (.bool false))) .nil) .nil) (.cons (.ret (.op .eq (.cons (.op .sorted (.cons (.var 1) .nil)) (.cons (.op .lrng1 (.cons (.op .len (.cons (.op .idx (.cons (.var 0) (.cons (.cst (.int 1)) .nil))) .nil)) .nil)) .nil)))) .nil)))
def f__law_is_order : Fn := mkFn 2 3 c__law_is_order
def c__law_kept : Sts := (.cons (.set 3 (.comp (.zip (.cons (.op .idx (.cons (.var 0) (.cons (.cst (.int 0)) .nil))) (.cons (.var 1) .nil))) [7, 8] (.tup (.cons (.name 7) (.cons (.name 8) .nil))) .nil (.op .add (.cons (.var 7) (.cons (.var 8) .nil))))) (.cons (.set 4 (.call "_law_flows" (f__law_flows) (.cons (.var 3) (.cons (.call "_law_demands" (f__law_demands) (.cons (.var 0) .nil)) .nil)))) (.cons (.for_ (.tup (.cons (.name 5) (.cons (.name 6) .nil))) (.zip (.cons (.var 4) (.cons (.var 2) .nil))) (.cons (.ifs (.and (.cons (.op .isnot (.cons (.var 6) (.cons (.cst .none) .nil))) (.cons (.op .gt (.cons (.var 5) (.cons (.var 6) .nil))) .nil))) (.cons (.ret (.cst (.bool false))) .nil) .nil) .nil)) (.cons (.ret (.cst (.bool true))) .nil))))
def f__law_kept : Fn := mkFn 3 9 c__law_kept
def c__law_mixed : Sts := (.cons (.par [2, 3] (.cons (.op .lrng1 (.cons (.var 1) .nil)) (.cons (.tup .nil) .nil))) (.cons (.whl (.op .ne (.cons (.var 2) (.cons (.lst .nil) .nil))) (.cons (.set 3 (.op .add (.cons (.var 3) (.cons (.tup (.cons (.pop 2 (.cons (.callI "_law_draw" (f__law_draw) 0 (.cons (.op .len (.cons (.var 2) .nil)) .nil)) .nil)) .nil)) .nil)))) .nil)) (.cons (.ret (.var 3)) .nil)))
def f__law_mixed : FnI := mkFnI 2 4 c__law_mixed
def c__law_moved : Sts := (.cons (.ret (.op .tuple (.cons (.comp (.rng1 (.op .len (.cons (.var 1) .nil))) [2] (.name 2) (.cons (.op .ne (.cons (.op .idx (.cons (.var 1) (.cons (.var 2) .nil))) (.cons (.op .idx (.cons (.op .idx (.cons (.var 0) (.cons (.cst (.int 1)) .nil))) (.cons (.var 2) .nil))) .nil))) .nil) (.var 2)) .nil))) .nil)
def f__law_moved : Fn := mkFn 2 3 c__law_moved
def c__law_seat : Sts := (.cons (.setT (.tup (.cons (.name 3) (.cons (.name 4) .nil))) (.var 0)) (.cons (.par [5, 6] (.cons (.op .mul (.cons (.lst (.cons (.cst (.int 0)) .nil)) (.cons (.op .len (.cons (.var 3) .nil)) .nil))) (.cons (.op .mul (.cons (.lst (.cons (.cst (.int 0)) .nil)) (.cons (.op .len (.cons (.var 4) .nil)) .nil))) .nil))) (.cons (.for_ (.name 2) (.seq (.var 1)) (.cons (.set 7 (.op .idx (.cons (.var 4) (.cons (.var 2) .nil)))) (.cons (.whl (.and (.cons (.op .lt (.cons (.var 7) (.cons (.op .len (.cons (.var 3) .nil)) .nil))) (.cons (.op .ge (.cons (.op .idx (.cons (.var 5) (.cons (.var 7) .nil))) (.cons (.op .idx (.cons (.var 3) (.cons (.var 7) .nil))) .nil))) .nil))) (.cons (.set 7 (.op .add (.cons (.var 7) (.cons (.cst (.int 1)) .nil)))) .nil)) (.cons (.setI 6 (.var 2) (.var 7)) (.cons (.ifs (.op .lt (.cons (.var 7) (.cons (.op .len (.cons (.var 3) .nil)) .nil))) (.cons (.setI 5 (.var 7) (.op .add (.cons (.op .idx (.cons (.var 5) (.cons (.var 7) .nil))) (.cons (.cst (.int 1)) .nil)))) .nil) .nil) .nil))))) (.cons (.ret (.op .tuple (.cons (.var 6) .nil))) .nil))))
def f__law_seat : Fn := mkFn 2 8 c__law_seat
def c_demands_of : Sts := (.cons (.ret (.comp (.rng1 (.op .len (.cons (.op .idx (.cons (.var 0) (.cons (.cst (.int 0)) .nil))) .nil))) [1] (.name 1) .nil (.op .count (.cons (.op .idx (.cons (.var 0) (.cons (.cst (.int 1)) .nil))) (.cons (.var 1) .nil))))) .nil)
def f_demands_of : Fn := mkFn 1 2 c_demands_of
def c_flows_for : Sts := (.cons (.par [2, 3] (.cons (.lst .nil) (.cons (.cst (.int 0)) .nil))) (.cons (.for_ (.tup (.cons (.name 4) (.cons (.name 5) .nil))) (.zip (.cons (.var 0) (.cons (.var 1) .nil))) (.cons (.set 3 (.op .mx2 (.cons (.cst (.int 0)) (.cons (.op .sub (.cons (.op .add (.cons (.var 3) (.cons (.var 5) .nil))) (.cons (.var 4) .nil))) .nil)))) (.cons (.app 2 (.var 3)) .nil))) (.cons (.ret (.var 2)) .nil)))
def f_flows_for : Fn := mkFn 2 6 c_flows_for
def c_flows_in : Sts := (.cons (.ret (.call "flows_for" (f_flows_for) (.cons (.op .idx (.cons (.var 0) (.cons (.cst (.int 0)) .nil))) (.cons (.call "demands_of" (f_demands_of) (.cons (.var 0) .nil)) .nil)))) .nil)
def f_flows_in : Fn := mkFn 1 1 c_flows_in
def c_bounds_of : Sts := (.cons (.par [1, 2] (.cons (.lst .nil) (.cons (.cst (.int 0)) .nil))) (.cons (.for_ (.tup (.cons (.name 3) (.cons (.name 4) .nil))) (.zip (.cons (.call "demands_of" (f_demands_of) (.cons (.var 0) .nil)) (.cons (.call "flows_in" (f_flows_in) (.cons (.var 0) .nil)) .nil))) (.cons (.app 1 (.tup (.cons (.op .mx2 (.cons (.cst (.int 0)) (.cons (.op .sub (.cons (.var 4) (.cons (.var 2) .nil))) .nil))) (.cons (.op .mn2 (.cons (.var 3) (.cons (.var 4) .nil))) .nil)))) (.cons (.set 2 (.var 4)) .nil))) (.cons (.ret (.var 1)) .nil)))
def f_bounds_of : Fn := mkFn 1 5 c_bounds_of
def c_is_between : Sts := (.cons (.ret (.and (.cons (.op (.isi .int) (.cons (.var 0) .nil)) (.cons (.not (.op (.isi .bool) (.cons (.var 0) .nil))) (.cons (.chain (.var 1) .le (.var 0) .le (.var 2)) .nil))))) .nil)
def f_is_between : Fn := mkFn 3 3 c_is_between
def c_is_set : Sts := (.cons (.ifs (.not (.op (.isi .tuple) (.cons (.var 1) .nil))) (.cons (.ret (.cst (.bool false))) .nil) .nil) (.cons (.ifs (.not (.op .all (.cons (.comp (.seq (.var 1)) [2] (.name 2) .nil (.call "is_between" (f_is_between) (.cons (.var 2) (.cons (.cst (.int 0)) (.cons (.op .sub (.cons (.op .len (.cons (.op .idx (.cons (.var 0) (.cons (.cst (.int 1)) .nil))) .nil)) (.cons (.cst (.int 1)) .nil))) .nil))))) .nil))) (.cons (.ret (.cst (.bool false))) .nil) .nil) (.cons (.ret (.op .all (.cons (.comp (.zip (.cons (.var 1) (.cons (.op (.slc true false) (.cons (.var 1) (.cons (.cst (.int 1)) .nil))) .nil))) [3, 4] (.tup (.cons (.name 3) (.cons (.name 4) .nil))) .nil (.op .lt (.cons (.var 3) (.cons (.var 4) .nil)))) .nil))) .nil)))
def f_is_set : Fn := mkFn 2 5 c_is_set
def c_can_move : Sts := (.cons (.ifs (.not (.call "is_set" (f_is_set) (.cons (.var 0) (.cons (.var 1) .nil)))) (.cons (.ret (.cst (.bool false))) .nil) .nil) (.cons (.for_ (.tup (.cons (.name 2) (.cons (.tup (.cons (.name 3) (.cons (.name 4) .nil))) .nil))) (.enum (.call "bounds_of" (f_bounds_of) (.cons (.var 0) .nil))) (.cons (.ifs (.not (.chain (.var 3) .le (.op .len (.cons (.comp (.seq (.var 1)) [5] (.name 5) (.cons (.op .eq (.cons (.op .idx (.cons (.op .idx (.cons (.var 0) (.cons (.cst (.int 1)) .nil))) (.cons (.var 5) .nil))) (.cons (.var 2) .nil))) .nil) (.var 5)) .nil)) .le (.var 4))) (.cons (.ret (.cst (.bool false))) .nil) .nil) .nil)) (.cons (.ret (.cst (.bool true))) .nil)))
def f_can_move : Fn := mkFn 2 6 c_can_move
def c_are_capacities : Sts := (.cons (.ifs (.or (.cons (.not (.op (.isi .tuple) (.cons (.var 0) .nil))) (.cons (.not (.chain (.cst (.int 1)) .le (.op .len (.cons (.var 0) .nil)) .le (.glb "MAX_CLASSES" (.int 5)))) .nil))) (.cons (.ret (.cst (.bool false))) .nil) .nil) (.cons (.ret (.op .all (.cons (.comp (.seq (.var 0)) [1] (.name 1) .nil (.call "is_between" (f_is_between) (.cons (.var 1) (.cons (.cst (.int 0)) (.cons (.glb "MAX_SEATS" (.int 8)) .nil))))) .nil))) .nil))
def f_are_capacities : Fn := mkFn 1 2 c_are_capacities
def c_is_flight : Sts := (.cons (.ifs (.or (.cons (.not (.op (.isi .tuple) (.cons (.var 0) .nil))) (.cons (.op .ne (.cons (.op .len (.cons (.var 0) .nil)) (.cons (.cst (.int 2)) .nil))) (.cons (.not (.call "are_capacities" (f_are_capacities) (.cons (.op .idx (.cons (.var 0) (.cons (.cst (.int 0)) .nil))) .nil))) .nil)))) (.cons (.ret (.cst (.bool false))) .nil) .nil) (.cons (.ifs (.or (.cons (.not (.op (.isi .tuple) (.cons (.op .idx (.cons (.var 0) (.cons (.cst (.int 1)) .nil))) .nil))) (.cons (.op .gt (.cons (.op .len (.cons (.op .idx (.cons (.var 0) (.cons (.cst (.int 1)) .nil))) .nil)) (.cons (.glb "MAX_CUSTOMERS" (.int 9)) .nil))) .nil))) (.cons (.ret (.cst (.bool false))) .nil) .nil) (.cons (.ret (.op .all (.cons (.comp (.seq (.op .idx (.cons (.var 0) (.cons (.cst (.int 1)) .nil)))) [1] (.name 1) .nil (.call "is_between" (f_is_between) (.cons (.var 1) (.cons (.cst (.int 0)) (.cons (.op .sub (.cons (.op .len (.cons (.op .idx (.cons (.var 0) (.cons (.cst (.int 0)) .nil))) .nil)) (.cons (.cst (.int 1)) .nil))) .nil))))) .nil))) .nil)))
def f_is_flight : Fn := mkFn 1 2 c_is_flight
def c_check_flight : Sts := (.cons (.ifs (.not (.call "is_flight" (f_is_flight) (.cons (.var 0) .nil))) (.cons (.raise "InvalidFlight" (.cst (.str "invalid flight"))) .nil) .nil) .nil)
def f_check_flight : Fn := mkFn 1 1 c_check_flight
def c_is_moved_set : Sts := (.cons (.expr (.call "check_flight" (f_check_flight) (.cons (.var 0) .nil))) (.cons (.ret (.call "can_move" (f_can_move) (.cons (.var 0) (.cons (.var 1) .nil)))) .nil))
def f_is_moved_set : Fn := mkFn 2 2 c_is_moved_set
def c_choose : Sts := (.cons (.ifs (.not (.chain (.cst (.int 0)) .le (.var 1) .le (.var 0))) (.cons (.ret (.cst (.int 0))) .nil) .nil) (.cons (.set 2 (.cst (.int 1))) (.cons (.for_ (.name 3) (.rng1 (.var 1)) (.cons (.set 2 (.op .fdiv (.cons (.op .mul (.cons (.var 2) (.cons (.op .sub (.cons (.var 0) (.cons (.var 3) .nil))) .nil))) (.cons (.op .add (.cons (.var 3) (.cons (.cst (.int 1)) .nil))) .nil)))) .nil)) (.cons (.ret (.var 2)) .nil))))
def f_choose : Fn := mkFn 2 4 c_choose
def c_agreeing : Sts := (.cons (.set 2 (.comp (.zip (.cons (.op .idx (.cons (.var 0) (.cons (.cst (.int 1)) .nil))) (.cons (.var 1) .nil))) [9, 10] (.tup (.cons (.name 9) (.cons (.name 10) .nil))) (.cons (.op .isnot (.cons (.var 10) (.cons (.cst .none) .nil))) .nil) (.tup (.cons (.var 9) (.cons (.var 10) .nil))))) (.cons (.ifs (.op .any (.cons (.comp (.seq (.var 2)) [9, 10] (.tup (.cons (.name 9) (.cons (.name 10) .nil))) .nil (.op .lt (.cons (.var 10) (.cons (.var 9) .nil)))) .nil)) (.cons (.ret (.cst (.int 0))) .nil) .nil) (.cons (.par [3, 4] (.cons (.cst (.int 1)) (.cons (.cst (.int 0)) .nil))) (.cons (.for_ (.tup (.cons (.name 5) (.cons (.name 6) .nil))) (.enum (.call "flows_in" (f_flows_in) (.cons (.var 0) .nil))) (.cons (.set 7 (.op .add (.cons (.var 4) (.cons (.op .len (.cons (.comp (.zip (.cons (.op .idx (.cons (.var 0) (.cons (.cst (.int 1)) .nil))) (.cons (.var 1) .nil))) [11, 10] (.tup (.cons (.name 11) (.cons (.name 10) .nil))) (.cons (.and (.cons (.op .eq (.cons (.var 11) (.cons (.var 5) .nil))) (.cons (.op .is_ (.cons (.var 10) (.cons (.cst .none) .nil))) .nil))) .nil) (.cst (.int 1))) .nil)) .nil)))) (.cons (.set 8 (.op .len (.cons (.comp (.seq (.var 2)) [9, 10] (.tup (.cons (.name 9) (.cons (.name 10) .nil))) (.cons (.chain (.var 9) .le (.var 5) .lt (.var 10)) .nil) (.cst (.int 1))) .nil))) (.cons (.aug 3 .mul (.call "choose" (f_choose) (.cons (.var 7) (.cons (.op .sub (.cons (.var 6) (.cons (.var 8) .nil))) .nil)))) (.cons (.set 4 (.op .sub (.cons (.var 6) (.cons (.var 8) .nil)))) .nil))))) (.cons (.ret (.var 3)) .nil)))))
def f_agreeing : Fn := mkFn 2 12 c_agreeing
def c_is_list : Sts := (.cons (.ifs (.or (.cons (.not (.op (.isi .tuple) (.cons (.var 1) .nil))) (.cons (.op .ne (.cons (.op .len (.cons (.var 1) .nil)) (.cons (.op .len (.cons (.op .idx (.cons (.var 0) (.cons (.cst (.int 1)) .nil))) .nil)) .nil))) .nil))) (.cons (.ret (.cst (.bool false))) .nil) .nil) (.cons (.ret (.op .all (.cons (.comp (.seq (.var 1)) [2] (.name 2) .nil (.or (.cons (.op .is_ (.cons (.var 2) (.cons (.cst .none) .nil))) (.cons (.call "is_between" (f_is_between) (.cons (.var 2) (.cons (.cst (.int 0)) (.cons (.op .len (.cons (.op .idx (.cons (.var 0) (.cons (.cst (.int 0)) .nil))) .nil)) .nil)))) .nil)))) .nil))) .nil))
def f_is_list : Fn := mkFn 2 3 c_is_list
def c_can_happen : Sts := (.cons (.ret (.and (.cons (.call "is_list" (f_is_list) (.cons (.var 0) (.cons (.var 1) .nil))) (.cons (.op .notin (.cons (.cst .none) (.cons (.var 1) .nil))) (.cons (.op .eq (.cons (.call "agreeing" (f_agreeing) (.cons (.var 0) (.cons (.var 1) .nil))) (.cons (.cst (.int 1)) .nil))) .nil))))) .nil)
def f_can_happen : Fn := mkFn 2 2 c_can_happen
def c_is_seating : Sts := (.cons (.expr (.call "check_flight" (f_check_flight) (.cons (.var 0) .nil))) (.cons (.ret (.call "can_happen" (f_can_happen) (.cons (.var 0) (.cons (.var 1) .nil)))) .nil))
def f_is_seating : Fn := mkFn 2 2 c_is_seating
def c_seating_with : Sts := (.cons (.expr (.call "check_flight" (f_check_flight) (.cons (.var 0) .nil))) (.cons (.ifs (.not (.call "can_move" (f_can_move) (.cons (.var 0) (.cons (.var 1) .nil)))) (.cons (.raise "InvalidSet" (.cst (.str "invalid set of moved customers"))) .nil) .nil) (.cons (.par [2, 3] (.cons (.op .list (.cons (.op .idx (.cons (.var 0) (.cons (.cst (.int 1)) .nil))) .nil)) (.cons (.lst .nil) .nil))) (.cons (.for_ (.tup (.cons (.name 4) (.cons (.name 5) .nil))) (.enum (.call "flows_in" (f_flows_in) (.cons (.var 0) .nil))) (.cons (.set 6 (.comp (.seq (.var 1)) [8] (.name 8) (.cons (.op .eq (.cons (.op .idx (.cons (.op .idx (.cons (.var 0) (.cons (.cst (.int 1)) .nil))) (.cons (.var 8) .nil))) (.cons (.var 4) .nil))) .nil) (.var 8))) (.cons (.set 7 (.op .add (.cons (.var 6) (.cons (.op (.slc false true) (.cons (.var 3) (.cons (.op .sub (.cons (.var 5) (.cons (.op .len (.cons (.var 6) .nil)) .nil))) .nil))) .nil)))) (.cons (.for_ (.name 8) (.seq (.op (.slc true false) (.cons (.var 3) (.cons (.op .sub (.cons (.var 5) (.cons (.op .len (.cons (.var 6) .nil)) .nil))) .nil)))) (.cons (.setI 2 (.var 8) (.var 4)) .nil)) (.cons (.for_ (.name 8) (.seq (.var 7)) (.cons (.setI 2 (.var 8) (.op .add (.cons (.var 4) (.cons (.cst (.int 1)) .nil)))) .nil)) (.cons (.set 3 (.var 7)) .nil)))))) (.cons (.ret (.op .tuple (.cons (.var 2) .nil))) .nil)))))
def f_seating_with : Fn := mkFn 2 9 c_seating_with
def c__law_large_right : Sts := (.cons (.set 2 (.call "_law_moved" (f__law_moved) (.cons (.var 1) (.cons (.call "_law_seat" (f__law_seat) (.cons (.var 1) (.cons (.callI "_law_mixed" (f__law_mixed) 0 (.cons (.op .len (.cons (.op .idx (.cons (.var 1) (.cons (.cst (.int 1)) .nil))) .nil)) .nil)) .nil))) .nil)))) (.cons (.ifs (.op .isnot (.cons (.call "is_moved_set" (f_is_moved_set) (.cons (.var 1) (.cons (.var 2) .nil))) (.cons (.cst (.bool true)) .nil))) (.cons (.ret (.cst (.bool false))) .nil) .nil) (.cons (.set 3 (.call "seating_with" (f_seating_with) (.cons (.var 1) (.cons (.var 2) .nil)))) (.cons (.ret (.and (.cons (.op .is_ (.cons (.call "is_seating" (f_is_seating) (.cons (.var 1) (.cons (.var 3) .nil))) (.cons (.cst (.bool true)) .nil))) (.cons (.op .eq (.cons (.call "_law_moved" (f__law_moved) (.cons (.var 1) (.cons (.var 3) .nil))) (.cons (.var 2) .nil))) .nil)))) .nil))))
def f__law_large_right : FnI := mkFnI 2 4 c__law_large_right
def c__law_limits : Sts := (.cons (.set 2 (.call "_law_flows" (f__law_flows) (.cons (.op .idx (.cons (.var 1) (.cons (.cst (.int 0)) .nil))) (.cons (.call "_law_demands" (f__law_demands) (.cons (.var 1) .nil)) .nil)))) (.cons (.set 3 (.tup .nil)) (.cons (.for_ (.name 4) (.seq (.var 2)) (.cons (.set 5 (.lst (.cons (.cst .none) (.cons (.cst .none) (.cons (.op .mx2 (.cons (.cst (.int 0)) (.cons (.op .sub (.cons (.var 4) (.cons (.cst (.int 1)) .nil))) .nil))) (.cons (.op .mx2 (.cons (.cst (.int 0)) (.cons (.op .sub (.cons (.var 4) (.cons (.cst (.int 2)) .nil))) .nil))) (.cons (.callI "_law_draw" (f__law_draw_v2) 0 (.cons (.cst (.int 10)) .nil)) (.cons (.cst (.int 0)) .nil)))))))) (.cons (.set 3 (.op .add (.cons (.var 3) (.cons (.tup (.cons (.callI "_law_choice" (f__law_choice_v2) 0 (.cons (.var 5) .nil)) .nil)) .nil)))) .nil))) (.cons (.ret (.var 3)) .nil))))
def f__law_limits : FnI := mkFnI 2 6 c__law_limits
def c__law_loss : Sts := (.cons (.ret (.op .sum (.cons (.comp (.zip (.cons (.var 1) (.cons (.var 2) (.cons (.op .idx (.cons (.var 0) (.cons (.cst (.int 1)) .nil))) .nil)))) [3, 4, 5] (.tup (.cons (.name 3) (.cons (.name 4) (.cons (.name 5) .nil)))) .nil (.op .mul (.cons (.var 3) (.cons (.op .sub (.cons (.var 4) (.cons (.var 5) .nil))) .nil)))) .nil))) .nil)
def f__law_loss : Fn := mkFn 3 6 c__law_loss
def c__law_losses : Sts := (.cons (.set 2 (.callI "_law_choice" (f__law_choice) 0 (.cons (.lst (.cons (.cst (.int 2)) (.cons (.cst (.int 9)) (.cons (.cst (.int 1001)) .nil)))) .nil))) (.cons (.ret (.op .tuple (.cons (.comp (.rng1 (.var 1)) [3] (.name 3) .nil (.callI "_law_draw" (f__law_draw) 0 (.cons (.var 2) .nil))) .nil))) .nil))
def f__law_losses : FnI := mkFnI 2 4 c__law_losses
def c__law_mixed_v2 : Sts := (.cons (.par [2, 3] (.cons (.op .lrng1 (.cons (.var 1) .nil)) (.cons (.tup .nil) .nil))) (.cons (.whl (.op .ne (.cons (.var 2) (.cons (.lst .nil) .nil))) (.cons (.set 3 (.op .add (.cons (.var 3) (.cons (.tup (.cons (.pop 2 (.cons (.callI "_law_draw" (f__law_draw_v2) 0 (.cons (.op .len (.cons (.var 2) .nil)) .nil)) .nil)) .nil)) .nil)))) .nil)) (.cons (.ret (.var 3)) .nil)))
def f__law_mixed_v2 : FnI := mkFnI 2 4 c__law_mixed_v2
def c__law_numbers : Sts := (.cons (.set 2 (.callI "_law_choice" (f__law_choice) 0 (.cons (.lst (.cons (.cst (.int 3)) (.cons (.cst (.int 20)) (.cons (.cst (.int 1001)) .nil)))) .nil))) (.cons (.ret (.op .tuple (.cons (.comp (.rng1 (.var 1)) [3] (.name 3) .nil (.callI "_law_draw" (f__law_draw) 0 (.cons (.var 2) .nil))) .nil))) .nil))
def f__law_numbers : FnI := mkFnI 2 4 c__law_numbers
def c__law_orders : Sts := (.cons (.set 1 (.lst (.cons (.tup .nil) .nil))) (.cons (.for_ (.name 2) (.rng1 (.var 0)) (.cons (.set 3 (.lst .nil)) (.cons (.for_ (.name 4) (.seq (.var 1)) (.cons (.set 3 (.op .add (.cons (.var 3) (.cons (.comp (.rng1 (.op .add (.cons (.op .len (.cons (.var 4) .nil)) (.cons (.cst (.int 1)) .nil)))) [5] (.name 5) .nil (.op .add (.cons (.op .add (.cons (.op (.slc false true) (.cons (.var 4) (.cons (.var 5) .nil))) (.cons (.tup (.cons (.var 2) .nil)) .nil))) (.cons (.op (.slc true false) (.cons (.var 4) (.cons (.var 5) .nil))) .nil)))) .nil)))) .nil)) (.cons (.set 1 (.var 3)) .nil)))) (.cons (.ret (.var 1)) .nil)))
def f__law_orders : Fn := mkFn 1 6 c__law_orders
def c__law_passed_on : Sts := (.cons (.par [2, 3] (.cons (.op .list (.cons (.op .idx (.cons (.var 1) (.cons (.cst (.int 1)) .nil))) .nil)) (.cons (.lst .nil) .nil))) (.cons (.for_ (.tup (.cons (.name 4) (.cons (.name 5) .nil))) (.enum (.call "_law_flows" (f__law_flows) (.cons (.op .idx (.cons (.var 1) (.cons (.cst (.int 0)) .nil))) (.cons (.call "_law_demands" (f__law_demands) (.cons (.var 1) .nil)) .nil)))) (.cons (.set 3 (.op .add (.cons (.var 3) (.cons (.comp (.enum (.op .idx (.cons (.var 1) (.cons (.cst (.int 1)) .nil)))) [7, 8] (.tup (.cons (.name 7) (.cons (.name 8) .nil))) (.cons (.op .eq (.cons (.var 8) (.cons (.var 4) .nil))) .nil) (.var 7)) .nil)))) (.cons (.set 6 (.lst .nil)) (.cons (.whl (.op .lt (.cons (.op .len (.cons (.var 6) .nil)) (.cons (.var 5) .nil))) (.cons (.app 6 (.pop 3 (.cons (.callI "_law_draw" (f__law_draw) 0 (.cons (.op .len (.cons (.var 3) .nil)) .nil)) .nil))) .nil)) (.cons (.for_ (.name 7) (.seq (.var 6)) (.cons (.setI 2 (.var 7) (.op .add (.cons (.var 4) (.cons (.cst (.int 1)) .nil)))) .nil)) (.cons (.set 3 (.var 6)) .nil)))))) (.cons (.ret (.op .tuple (.cons (.var 2) .nil))) .nil)))
def f__law_passed_on : FnI := mkFnI 2 9 c__law_passed_on
def c__law_price : Sts := (.cons (.ret (.op .sum (.cons (.comp (.zip (.cons (.var 0) (.cons (.var 1) .nil))) [2, 3] (.tup (.cons (.name 2) (.cons (.name 3) .nil))) .nil (.op .mul (.cons (.var 2) (.cons (.var 3) .nil)))) .nil))) .nil)
def f__law_price : Fn := mkFn 2 4 c__law_price
def c__law_product : Sts := (.cons (.set 1 (.cst (.int 1))) (.cons (.for_ (.name 2) (.rng1 (.var 0)) (.cons (.set 1 (.op .mul (.cons (.var 1) (.cons (.op .add (.cons (.var 2) (.cons (.cst (.int 1)) .nil))) .nil)))) .nil)) (.cons (.ret (.var 1)) .nil)))
def f__law_product : Fn := mkFn 1 3 c__law_product
def c__law_renamed : Sts := (.cons (.ret (.op .tuple (.cons (.comp (.seq (.var 0)) [2] (.name 2) .nil (.op .idx (.cons (.var 1) (.cons (.var 2) .nil)))) .nil))) .nil)
def f__law_renamed : Fn := mkFn 2 3 c__law_renamed
def c__law_rows : Sts := (.cons (.set 1 (.lst (.cons (.tup .nil) .nil))) (.cons (.for_ (.name 2) (.rng1 (.var 0)) (.cons (.set 3 (.lst .nil)) (.cons (.for_ (.name 4) (.seq (.var 1)) (.cons (.set 3 (.op .add (.cons (.var 3) (.cons (.comp (.rng1 (.cst (.int 10))) [5] (.name 5) .nil (.op .add (.cons (.var 4) (.cons (.tup (.cons (.var 5) .nil)) .nil)))) .nil)))) .nil)) (.cons (.set 1 (.var 3)) .nil)))) (.cons (.ret (.var 1)) .nil)))
def f__law_rows : Fn := mkFn 1 6 c__law_rows
def c__law_same : Sts := (.cons (.ret (.op .eq (.cons (.comp (.zip (.cons (.var 0) (.cons (.var 1) .nil))) [2, 3] (.tup (.cons (.name 2) (.cons (.name 3) .nil))) (.cons (.and (.cons (.op .isnot (.cons (.var 3) (.cons (.cst .none) .nil))) (.cons (.op .ne (.cons (.var 3) (.cons (.var 2) .nil))) .nil))) .nil) (.cst (.int 1))) (.cons (.lst .nil) .nil)))) .nil)
def f__law_same : Fn := mkFn 2 4 c__law_same
def c__law_sets : Sts := (.cons (.set 1 (.lst (.cons (.tup .nil) .nil))) (.cons (.for_ (.name 2) (.rng1 (.var 0)) (.cons (.set 1 (.op .add (.cons (.var 1) (.cons (.comp (.seq (.var 1)) [3] (.name 3) .nil (.op .add (.cons (.var 3) (.cons (.tup (.cons (.var 2) .nil)) .nil)))) .nil)))) .nil)) (.cons (.ret (.var 1)) .nil)))
def f__law_sets : Fn := mkFn 1 4 c__law_sets
def c__law_some_flight : Sts := (.cons (.set 3 (.callI "_law_flight" (f__law_flight_v2) 0 (.cons (.var 1) (.cons (.var 2) .nil)))) (.cons (.ret (.ite (.op .ne (.cons (.op .idx (.cons (.var 3) (.cons (.cst (.int 1)) .nil))) (.cons (.tup .nil) .nil))) (.var 3) (.tup (.cons (.op .idx (.cons (.var 3) (.cons (.cst (.int 0)) .nil))) (.cons (.tup (.cons (.cst (.int 0)) .nil)) .nil))))) .nil))
def f__law_some_flight : FnI := mkFnI 3 4 c__law_some_flight
def c__law_some_flight_v2 : Sts := (.cons (.set 3 (.callI "_law_flight" (f__law_flight) 0 (.cons (.var 1) (.cons (.var 2) .nil)))) (.cons (.ret (.ite (.op .ne (.cons (.op .idx (.cons (.var 3) (.cons (.cst (.int 1)) .nil))) (.cons (.tup .nil) .nil))) (.var 3) (.tup (.cons (.op .idx (.cons (.var 3) (.cons (.cst (.int 0)) .nil))) (.cons (.tup (.cons (.cst (.int 0)) .nil)) .nil))))) .nil))
def f__law_some_flight_v2 : FnI := mkFnI 3 4 c__law_some_flight_v2
def c__law_source : Sts := (.cons (.ifs (.op .ge (.cons (.var 0) (.cons (.op .pow (.cons (.cst (.int 10)) (.cons (.cst (.int 18)) .nil))) .nil))) (.cons (.ret (.lst (.cons (.op .sub (.cons (.var 0) (.cons (.op .pow (.cons (.cst (.int 10)) (.cons (.cst (.int 18)) .nil))) .nil))) (.cons (.op .mod (.cons (.var 0) (.cons (.cst (.int 2147483579)) .nil))) (.cons (.var 1) .nil))))) .nil) .nil) (.cons (.ret (.lst (.cons (.cst (.int 0)) (.cons (.op .mod (.cons (.var 0) (.cons (.cst (.int 2147483579)) .nil))) (.cons (.var 1) .nil))))) .nil))
def f__law_source : Fn := mkFn 2 2 c__law_source
def c__law_source_v2 : Sts := (.cons (.ifs (.op .ge (.cons (.var 0) (.cons (.op .pow (.cons (.cst (.int 10)) (.cons (.cst (.int 18)) .nil))) .nil))) (.cons (.ret (.lst (.cons (.op .sub (.cons (.var 0) (.cons (.op .pow (.cons (.cst (.int 10)) (.cons (.cst (.int 18)) .nil))) .nil))) (.cons (.op .mod (.cons (.op .int (.cons (.var 0) .nil)) (.cons (.cst (.int 2147483579)) .nil))) (.cons (.var 1) .nil))))) .nil) .nil) (.cons (.ret (.lst (.cons (.cst (.int 0)) (.cons (.op .mod (.cons (.op .int (.cons (.var 0) .nil)) (.cons (.cst (.int 2147483579)) .nil))) (.cons (.var 1) .nil))))) .nil))
def f__law_source_v2 : Fn := mkFn 2 2 c__law_source_v2
def c__law_spread (self : Fn) : Sts := (.cons (.ifs (.op .eq (.cons (.var 0) (.cons (.cst (.int 1)) .nil))) (.cons (.ret (.lst (.cons (.tup (.cons (.var 1) .nil)) .nil))) .nil) .nil) (.cons (.set 2 (.lst .nil)) (.cons (.for_ (.name 3) (.rng1 (.op .add (.cons (.var 1) (.cons (.cst (.int 1)) .nil)))) (.cons (.set 2 (.op .add (.cons (.var 2) (.cons (.comp (.seq (.call "_law_spread" (self) (.cons (.op .sub (.cons (.var 0) (.cons (.cst (.int 1)) .nil))) (.cons (.op .sub (.cons (.var 1) (.cons (.var 3) .nil))) .nil)))) [4] (.name 4) .nil (.op .add (.cons (.tup (.cons (.var 3) .nil)) (.cons (.var 4) .nil)))) .nil)))) .nil)) (.cons (.ret (.var 2)) .nil))))
def f__law_spread : Nat → Fn
  | 0 => fun _ => .bad
  | n + 1 => mkFn 2 5 (c__law_spread (f__law_spread n))
def c__law_swapped : Sts := (.cons (.ret (.op .add (.cons (.op .add (.cons (.op (.slc false true) (.cons (.var 0) (.cons (.var 1) .nil))) (.cons (.tup (.cons (.op .idx (.cons (.var 0) (.cons (.op .add (.cons (.var 1) (.cons (.cst (.int 1)) .nil))) .nil))) (.cons (.op .idx (.cons (.var 0) (.cons (.var 1) .nil))) .nil))) .nil))) (.cons (.op (.slc true false) (.cons (.var 0) (.cons (.op .add (.cons (.var 1) (.cons (.cst (.int 2)) .nil))) .nil))) .nil)))) .nil)
def f__law_swapped : Fn := mkFn 2 2 c__law_swapped
def c__law_torn : Sts := (.cons (.set 3 (.tup .nil)) (.cons (.for_ (.name 4) (.seq (.var 1)) (.cons (.par [5, 6] (.cons (.callI "_law_draw" (f__law_draw) 0 (.cons (.cst (.int 8)) .nil)) (.cons (.var 4) .nil))) (.cons (.ifs (.op .eq (.cons (.var 5) (.cons (.cst (.int 4)) .nil))) (.cons (.set 6 (.callI "_law_draw" (f__law_draw) 0 (.cons (.op .add (.cons (.var 2) (.cons (.cst (.int 1)) .nil))) .nil))) .nil) .nil) (.cons (.set 3 (.op .add (.cons (.var 3) (.cons (.tup (.cons (.ite (.op .lt (.cons (.var 5) (.cons (.cst (.int 4)) .nil))) (.cst .none) (.var 6)) .nil)) .nil)))) .nil)))) (.cons (.ret (.var 3)) .nil)))
def f__law_torn : FnI := mkFnI 3 7 c__law_torn
def c__law_torn_v2 : Sts := (.cons (.set 3 (.tup .nil)) (.cons (.for_ (.name 4) (.seq (.var 1)) (.cons (.par [5, 6] (.cons (.callI "_law_draw" (f__law_draw_v2) 0 (.cons (.cst (.int 8)) .nil)) (.cons (.var 4) .nil))) (.cons (.ifs (.op .eq (.cons (.var 5) (.cons (.cst (.int 4)) .nil))) (.cons (.set 6 (.callI "_law_draw" (f__law_draw_v2) 0 (.cons (.op .add (.cons (.var 2) (.cons (.cst (.int 1)) .nil))) .nil))) .nil) .nil) (.cons (.set 3 (.op .add (.cons (.var 3) (.cons (.tup (.cons (.ite (.op .lt (.cons (.var 5) (.cons (.cst (.int 4)) .nil))) (.cst .none) (.var 6)) .nil)) .nil)))) .nil)))) (.cons (.ret (.var 3)) .nil)))
def f__law_torn_v2 : FnI := mkFnI 3 7 c__law_torn_v2
def c__law_turned : Sts := (.cons (.set 2 (.op .mul (.cons (.lst (.cons (.cst .none) .nil)) (.cons (.op .len (.cons (.var 0) .nil)) .nil)))) (.cons (.for_ (.tup (.cons (.name 3) (.cons (.name 4) .nil))) (.enum (.var 0)) (.cons (.setI 2 (.op .idx (.cons (.var 1) (.cons (.var 3) .nil))) (.var 4)) .nil)) (.cons (.ret (.op .tuple (.cons (.var 2) .nil))) .nil)))
def f__law_turned : Fn := mkFn 2 5 c__law_turned
def c__law_turns : Sts := (.cons (.set 2 (.cst (.int 0))) (.cons (.for_ (.tup (.cons (.name 3) (.cons (.name 4) .nil))) (.enum (.var 0)) (.cons (.for_ (.name 5) (.seq (.op (.slc true false) (.cons (.var 0) (.cons (.op .add (.cons (.var 3) (.cons (.cst (.int 1)) .nil))) .nil)))) (.cons (.ifs (.op .lt (.cons (.op .index (.cons (.var 1) (.cons (.var 5) .nil))) (.cons (.op .index (.cons (.var 1) (.cons (.var 4) .nil))) .nil))) (.cons (.set 2 (.op .add (.cons (.var 2) (.cons (.cst (.int 1)) .nil)))) .nil) .nil) .nil)) .nil)) (.cons (.ret (.var 2)) .nil)))
def f__law_turns : Fn := mkFn 2 6 c__law_turns
def c__law_with : Sts := (.cons (.ret (.op .add (.cons (.op .add (.cons (.op (.slc false true) (.cons (.var 0) (.cons (.var 1) .nil))) (.cons (.tup (.cons (.var 2) .nil)) .nil))) (.cons (.op (.slc true false) (.cons (.var 0) (.cons (.op .add (.cons (.var 1) (.cons (.cst (.int 1)) .nil))) .nil))) .nil)))) .nil)
def f__law_with : Fn := mkFn 3 3 c__law_with
def c_agrees : Sts := (.cons (.set 3 (.call "flows_for" (f_flows_for) (.cons (.var 0) (.cons (.var 1) .nil)))) (.cons (.ret (.op .all (.cons (.comp (.seq (.var 2)) [4, 5] (.tup (.cons (.name 4) (.cons (.name 5) .nil))) .nil (.op .eq (.cons (.op .idx (.cons (.var 3) (.cons (.var 4) .nil))) (.cons (.var 5) .nil)))) .nil))) .nil))
def f_agrees : Fn := mkFn 3 6 c_agrees
def c_are_capacities_v2 : Sts := (.cons (.ifs (.or (.cons (.not (.op (.isi .tuple) (.cons (.var 0) .nil))) (.cons (.not (.chain (.cst (.int 1)) .le (.op .len (.cons (.var 0) .nil)) .le (.glb "MAX_CLASSES_flights" (.int 5)))) .nil))) (.cons (.ret (.cst (.bool false))) .nil) .nil) (.cons (.ret (.op .all (.cons (.comp (.seq (.var 0)) [1] (.name 1) .nil (.call "is_between" (f_is_between) (.cons (.var 1) (.cons (.cst (.int 0)) (.cons (.glb "MAX_SEATS" (.int 8)) .nil))))) .nil))) .nil))
def f_are_capacities_v2 : Fn := mkFn 1 2 c_are_capacities_v2
def c_are_numbers : Sts := (.cons (.ifs (.or (.cons (.not (.op (.isi .tuple) (.cons (.var 0) .nil))) (.cons (.not (.chain (.cst (.int 1)) .le (.op .len (.cons (.var 0) .nil)) .le (.glb "MAX_CLASSES" (.int 8)))) .nil))) (.cons (.ret (.cst (.bool false))) .nil) .nil) (.cons (.ret (.op .all (.cons (.comp (.seq (.var 0)) [1] (.name 1) .nil (.call "is_between" (f_is_between) (.cons (.var 1) (.cons (.cst (.int 0)) (.cons (.glb "MAX_VALUE" (.int 1000)) .nil))))) .nil))) .nil))
def f_are_numbers : Fn := mkFn 1 2 c_are_numbers
def c_are_numbers_v2 : Sts := (.cons (.ifs (.or (.cons (.not (.op (.isi .tuple) (.cons (.var 0) .nil))) (.cons (.not (.chain (.cst (.int 1)) .le (.op .len (.cons (.var 0) .nil)) .le (.glb "MAX_CLASSES_unknown" (.int 8)))) .nil))) (.cons (.ret (.cst (.bool false))) .nil) .nil) (.cons (.ret (.op .all (.cons (.comp (.seq (.var 0)) [1] (.name 1) .nil (.call "is_between" (f_is_between) (.cons (.var 1) (.cons (.cst (.int 0)) (.cons (.glb "MAX_VALUE" (.int 1000)) .nil))))) .nil))) .nil))
def f_are_numbers_v2 : Fn := mkFn 1 2 c_are_numbers_v2
def c_are_numbers_v3 : Sts := (.cons (.ifs (.or (.cons (.not (.op (.isi .tuple) (.cons (.var 0) .nil))) (.cons (.not (.chain (.cst (.int 1)) .le (.op .len (.cons (.var 0) .nil)) .le (.glb "MAX_CLASSES_chances" (.int 5)))) .nil))) (.cons (.ret (.cst (.bool false))) .nil) .nil) (.cons (.ret (.op .all (.cons (.comp (.seq (.var 0)) [1] (.name 1) .nil (.call "is_between" (f_is_between) (.cons (.var 1) (.cons (.cst (.int 0)) (.cons (.glb "MAX_AMONG" (.int 12)) .nil))))) .nil))) .nil))
def f_are_numbers_v3 : Fn := mkFn 1 2 c_are_numbers_v3
def c_best_plan : Sts := (.cons (.set 3 (.dct1 (.cst (.int 0)) (.tup (.cons (.cst (.int 0)) (.cons (.tup .nil) .nil))))) (.cons (.for_ (.tup (.cons (.name 4) (.cons (.name 5) (.cons (.name 6) (.cons (.name 7) .nil))))) (.zip (.cons (.op .idx (.cons (.var 0) (.cons (.cst (.int 0)) .nil))) (.cons (.call "demands_of" (f_demands_of) (.cons (.var 0) .nil)) (.cons (.var 1) (.cons (.var 2) .nil))))) (.cons (.set 8 .dct0) (.cons (.for_ (.name 9) (.seq (.var 3)) (.cons (.setT (.tup (.cons (.name 11) (.cons (.name 12) .nil))) (.op .idx (.cons (.var 3) (.cons (.var 9) .nil)))) (.cons (.for_ (.name 10) (.rng1 (.op .add (.cons (.glb "MAX_ADDED" (.int 9)) (.cons (.cst (.int 1)) .nil)))) (.cons (.set 13 (.op .mx2 (.cons (.cst (.int 0)) (.cons (.op .sub (.cons (.op .sub (.cons (.op .add (.cons (.var 9) (.cons (.var 5) .nil))) (.cons (.var 4) .nil))) (.cons (.var 10) .nil))) .nil)))) (.cons (.set 14 (.tup (.cons (.op .add (.cons (.var 11) (.cons (.op .mul (.cons (.var 10) (.cons (.var 7) .nil))) .nil))) (.cons (.op .add (.cons (.var 12) (.cons (.tup (.cons (.var 10) .nil)) .nil))) .nil)))) (.cons (.ifs (.or (.cons (.op .is_ (.cons (.var 6) (.cons (.cst .none) .nil))) (.cons (.op .le (.cons (.var 13) (.cons (.var 6) .nil))) .nil))) (.cons (.setI 8 (.var 13) (.op .mn2 (.cons (.op .get2 (.cons (.var 8) (.cons (.var 13) (.cons (.var 14) .nil)))) (.cons (.var 14) .nil)))) .nil) .nil) .nil)))) .nil))) (.cons (.set 3 (.var 8)) .nil)))) (.cons (.ret (.op .mn (.cons (.comp (.seq (.var 3)) [13] (.name 13) .nil (.op .idx (.cons (.var 3) (.cons (.var 13) .nil)))) .nil))) .nil)))
def f_best_plan : Fn := mkFn 3 15 c_best_plan
def c_counts_in : Sts := (.cons (.ret (.comp (.rng1 (.op .len (.cons (.op .idx (.cons (.var 0) (.cons (.cst (.int 0)) .nil))) .nil))) [2] (.name 2) .nil (.op .len (.cons (.comp (.seq (.var 1)) [3] (.name 3) (.cons (.op .eq (.cons (.op .idx (.cons (.op .idx (.cons (.var 0) (.cons (.cst (.int 1)) .nil))) (.cons (.var 3) .nil))) (.cons (.var 2) .nil))) .nil) (.var 3)) .nil)))) .nil)
def f_counts_in : Fn := mkFn 2 4 c_counts_in
def c_free_seats : Sts := (.cons (.par [2, 3] (.cons (.cst (.int 0)) (.cons (.lst .nil) .nil))) (.cons (.for_ (.tup (.cons (.name 4) (.cons (.name 5) (.cons (.name 6) .nil)))) (.zip (.cons (.op .idx (.cons (.var 0) (.cons (.cst (.int 0)) .nil))) (.cons (.var 1) (.cons (.call "flows_for" (f_flows_for) (.cons (.op .idx (.cons (.var 0) (.cons (.cst (.int 0)) .nil))) (.cons (.var 1) .nil))) .nil)))) (.cons (.app 3 (.op .sub (.cons (.var 4) (.cons (.op .sub (.cons (.op .add (.cons (.var 2) (.cons (.var 5) .nil))) (.cons (.var 6) .nil))) .nil)))) (.cons (.set 2 (.var 6)) .nil))) (.cons (.ret (.var 3)) .nil)))
def f_free_seats : Fn := mkFn 2 7 c_free_seats
def c_place_of : Sts := (.cons (.whl (.and (.cons (.op .lt (.cons (.var 1) (.cons (.op .len (.cons (.var 0) .nil)) .nil))) (.cons (.op .eq (.cons (.op .idx (.cons (.var 0) (.cons (.var 1) .nil))) (.cons (.cst (.int 0)) .nil))) .nil))) (.cons (.aug 1 .add (.cst (.int 1))) .nil)) (.cons (.ret (.var 1)) .nil))
def f_place_of : Fn := mkFn 2 2 c_place_of
def c_place_behind : Sts := (.cons (.ret (.call "place_of" (f_place_of) (.cons (.call "free_seats" (f_free_seats) (.cons (.var 0) (.cons (.var 2) .nil))) (.cons (.op .idx (.cons (.op .idx (.cons (.var 0) (.cons (.cst (.int 1)) .nil))) (.cons (.var 1) .nil))) .nil)))) .nil)
def f_place_behind : Fn := mkFn 3 3 c_place_behind
def c_can_follow : Sts := (.cons (.ifs (.op .isin (.cons (.var 3) (.cons (.var 2) .nil))) (.cons (.ret (.cst (.bool false))) .nil) .nil) (.cons (.ret (.op .isin (.cons (.op .idx (.cons (.var 1) (.cons (.var 3) .nil))) (.cons (.tup (.cons (.cst .none) (.cons (.call "place_behind" (f_place_behind) (.cons (.var 0) (.cons (.var 3) (.cons (.call "counts_in" (f_counts_in) (.cons (.var 0) (.cons (.var 2) .nil))) .nil)))) .nil))) .nil)))) .nil))
def f_can_follow : Fn := mkFn 4 4 c_can_follow
def c_check_list : Sts := (.cons (.expr (.call "check_flight" (f_check_flight) (.cons (.var 0) .nil))) (.cons (.ifs (.not (.call "is_list" (f_is_list) (.cons (.var 0) (.cons (.var 1) .nil)))) (.cons (.raise "InvalidTorn" (.cst (.str "invalid torn list"))) .nil) .nil) .nil))
def f_check_list : Fn := mkFn 2 2 c_check_list
def c_ways_on : Sts := (.cons (.set 2 (.op .len (.cons (.op .idx (.cons (.var 0) (.cons (.cst (.int 1)) .nil))) .nil))) (.cons (.set 3 (.lst (.cons (.tup .nil) .nil))) (.cons (.for_ (.name 4) (.rng1 (.var 2)) (.cons (.set 6 .dct0) (.cons (.for_ (.name 7) (.seq (.var 3)) (.cons (.for_ (.name 8) (.rng1 (.var 2)) (.cons (.ifs (.call "can_follow" (f_can_follow) (.cons (.var 0) (.cons (.var 1) (.cons (.var 7) (.cons (.var 8) .nil))))) (.cons (.setI 6 (.op .tuple (.cons (.op .sorted (.cons (.op .add (.cons (.var 7) (.cons (.tup (.cons (.var 8) .nil)) .nil))) .nil)) .nil)) (.cst (.bool true))) .nil) .nil) .nil)) .nil)) (.cons (.set 3 (.op .sorted (.cons (.var 6) .nil))) .nil)))) (.cons (.set 5 (.dct1 (.op .trng1 (.cons (.var 2) .nil)) (.cst (.int 1)))) (.cons (.set 3 (.lst (.cons (.op .trng1 (.cons (.var 2) .nil)) .nil))) (.cons (.for_ (.name 4) (.rng1 (.var 2)) (.cons (.set 6 .dct0) (.cons (.for_ (.name 7) (.seq (.var 3)) (.cons (.for_ (.name 8) (.seq (.var 7)) (.cons (.set 9 (.op .tuple (.cons (.comp (.seq (.var 7)) [10] (.name 10) (.cons (.op .ne (.cons (.var 10) (.cons (.var 8) .nil))) .nil) (.var 10)) .nil))) (.cons (.ifs (.call "can_follow" (f_can_follow) (.cons (.var 0) (.cons (.var 1) (.cons (.var 9) (.cons (.var 8) .nil))))) (.cons (.setI 6 (.var 9) (.op .add (.cons (.op .get2 (.cons (.var 6) (.cons (.var 9) (.cons (.cst (.int 0)) .nil)))) (.cons (.op .idx (.cons (.var 5) (.cons (.var 7) .nil))) .nil)))) .nil) .nil) .nil))) .nil)) (.cons (.upd 5 (.var 6)) (.cons (.set 3 (.op .sorted (.cons (.var 6) .nil))) .nil))))) (.cons (.ret (.var 5)) .nil)))))))
def f_ways_on : Fn := mkFn 2 11 c_ways_on
def c_count_orders_with : Sts := (.cons (.expr (.call "check_list" (f_check_list) (.cons (.var 0) (.cons (.var 1) .nil)))) (.cons (.ret (.op .get2 (.cons (.call "ways_on" (f_ways_on) (.cons (.var 0) (.cons (.var 1) .nil))) (.cons (.tup .nil) (.cons (.cst (.int 0)) .nil))))) .nil))
def f_count_orders_with : Fn := mkFn 2 2 c_count_orders_with
def c_factorial : Sts := (.cons (.set 1 (.cst (.int 1))) (.cons (.for_ (.name 2) (.rng1 (.var 0)) (.cons (.set 1 (.op .mul (.cons (.var 1) (.cons (.op .add (.cons (.var 2) (.cons (.cst (.int 1)) .nil))) .nil)))) .nil)) (.cons (.ret (.var 1)) .nil)))
def f_factorial : Fn := mkFn 1 3 c_factorial
def c_lowest : Sts := (.cons (.par [2, 3] (.cons (.var 0) (.cons (.var 1) .nil))) (.cons (.whl (.op .gt (.cons (.var 3) (.cons (.cst (.int 0)) .nil))) (.cons (.par [2, 3] (.cons (.var 3) (.cons (.op .mod (.cons (.var 2) (.cons (.var 3) .nil))) .nil))) .nil)) (.cons (.ret (.tup (.cons (.op .fdiv (.cons (.var 0) (.cons (.var 2) .nil))) (.cons (.op .fdiv (.cons (.var 1) (.cons (.var 2) .nil))) .nil)))) .nil)))
def f_lowest : Fn := mkFn 2 4 c_lowest
def c_chance_of : Sts := (.cons (.ret (.call "lowest" (f_lowest) (.cons (.call "count_orders_with" (f_count_orders_with) (.cons (.var 0) (.cons (.var 1) .nil))) (.cons (.call "factorial" (f_factorial) (.cons (.op .len (.cons (.op .idx (.cons (.var 0) (.cons (.cst (.int 1)) .nil))) .nil)) .nil)) .nil)))) .nil)
def f_chance_of : Fn := mkFn 2 2 c_chance_of
def c_is_flight_v2 : Sts := (.cons (.ifs (.or (.cons (.not (.op (.isi .tuple) (.cons (.var 0) .nil))) (.cons (.op .ne (.cons (.op .len (.cons (.var 0) .nil)) (.cons (.cst (.int 2)) .nil))) (.cons (.not (.call "are_capacities" (f_are_capacities_v2) (.cons (.op .idx (.cons (.var 0) (.cons (.cst (.int 0)) .nil))) .nil))) .nil)))) (.cons (.ret (.cst (.bool false))) .nil) .nil) (.cons (.ifs (.or (.cons (.not (.op (.isi .tuple) (.cons (.op .idx (.cons (.var 0) (.cons (.cst (.int 1)) .nil))) .nil))) (.cons (.op .gt (.cons (.op .len (.cons (.op .idx (.cons (.var 0) (.cons (.cst (.int 1)) .nil))) .nil)) (.cons (.glb "MAX_CUSTOMERS" (.int 9)) .nil))) .nil))) (.cons (.ret (.cst (.bool false))) .nil) .nil) (.cons (.ret (.op .all (.cons (.comp (.seq (.op .idx (.cons (.var 0) (.cons (.cst (.int 1)) .nil)))) [1] (.name 1) .nil (.call "is_between" (f_is_between) (.cons (.var 1) (.cons (.cst (.int 0)) (.cons (.op .sub (.cons (.op .len (.cons (.op .idx (.cons (.var 0) (.cons (.cst (.int 0)) .nil))) .nil)) (.cons (.cst (.int 1)) .nil))) .nil))))) .nil))) .nil)))
def f_is_flight_v2 : Fn := mkFn 1 2 c_is_flight_v2
def c_check_flight_v2 : Sts := (.cons (.ifs (.not (.call "is_flight" (f_is_flight_v2) (.cons (.var 0) .nil))) (.cons (.raise "InvalidFlight" (.cst (.str "invalid flight"))) .nil) .nil) .nil)
def f_check_flight_v2 : Fn := mkFn 1 1 c_check_flight_v2
def c_check_list_v2 : Sts := (.cons (.expr (.call "check_flight" (f_check_flight_v2) (.cons (.var 0) .nil))) (.cons (.ifs (.not (.call "is_list" (f_is_list) (.cons (.var 0) (.cons (.var 1) .nil)))) (.cons (.raise "InvalidTorn" (.cst (.str "invalid torn list"))) .nil) .nil) .nil))
def f_check_list_v2 : Fn := mkFn 2 2 c_check_list_v2
def c_count_orders_with_v2 : Sts := (.cons (.expr (.call "check_list" (f_check_list_v2) (.cons (.var 0) (.cons (.var 1) .nil)))) (.cons (.ret (.op .get2 (.cons (.call "ways_on" (f_ways_on) (.cons (.var 0) (.cons (.var 1) .nil))) (.cons (.tup .nil) (.cons (.cst (.int 0)) .nil))))) .nil))
def f_count_orders_with_v2 : Fn := mkFn 2 2 c_count_orders_with_v2
def c_chance_of_v2 : Sts := (.cons (.ret (.call "lowest" (f_lowest) (.cons (.call "count_orders_with" (f_count_orders_with_v2) (.cons (.var 0) (.cons (.var 1) .nil))) (.cons (.call "factorial" (f_factorial) (.cons (.op .len (.cons (.op .idx (.cons (.var 0) (.cons (.cst (.int 1)) .nil))) .nil)) .nil)) .nil)))) .nil)
def f_chance_of_v2 : Fn := mkFn 2 2 c_chance_of_v2
def c_check_losses : Sts := (.cons (.expr (.call "check_flight" (f_check_flight) (.cons (.var 0) .nil))) (.cons (.ifs (.or (.cons (.not (.op (.isi .tuple) (.cons (.var 1) .nil))) (.cons (.op .ne (.cons (.op .len (.cons (.var 1) .nil)) (.cons (.op .len (.cons (.op .idx (.cons (.var 0) (.cons (.cst (.int 1)) .nil))) .nil)) .nil))) .nil))) (.cons (.raise "InvalidLosses" (.cst (.str "invalid losses"))) .nil) .nil) (.cons (.ifs (.not (.op .all (.cons (.comp (.seq (.var 1)) [2] (.name 2) .nil (.call "is_between" (f_is_between) (.cons (.var 2) (.cons (.cst (.int 0)) (.cons (.glb "MAX_LOSS" (.int 1000)) .nil))))) .nil))) (.cons (.raise "InvalidLosses" (.cst (.str "invalid losses"))) .nil) .nil) .nil)))
def f_check_losses : Fn := mkFn 2 3 c_check_losses
def c_passing : Sts := (.cons (.par [3, 4, 5] (.cons (.op .list (.cons (.op .idx (.cons (.var 0) (.cons (.cst (.int 1)) .nil))) .nil)) (.cons (.lst .nil) (.cons (.cst (.int 0)) .nil)))) (.cons (.for_ (.tup (.cons (.name 6) (.cons (.name 7) .nil))) (.enum (.call "flows_in" (f_flows_in) (.cons (.var 0) .nil))) (.cons (.set 4 (.op .add (.cons (.var 4) (.cons (.comp (.enum (.op .idx (.cons (.var 0) (.cons (.cst (.int 1)) .nil)))) [9, 11] (.tup (.cons (.name 9) (.cons (.name 11) .nil))) (.cons (.op .eq (.cons (.var 11) (.cons (.var 6) .nil))) .nil) (.var 9)) .nil)))) (.cons (.set 8 (.op .sorted (.cons (.comp (.seq (.var 4)) [9] (.name 9) .nil (.tup (.cons (.op .mul (.cons (.var 2) (.cons (.op .idx (.cons (.var 1) (.cons (.var 9) .nil))) .nil))) (.cons (.var 9) .nil)))) .nil))) (.cons (.set 4 (.comp (.seq (.op (.slc false true) (.cons (.var 8) (.cons (.var 7) .nil)))) [10, 9] (.tup (.cons (.name 10) (.cons (.name 9) .nil))) .nil (.var 9))) (.cons (.for_ (.name 9) (.seq (.var 4)) (.cons (.setI 3 (.var 9) (.op .add (.cons (.var 6) (.cons (.cst (.int 1)) .nil)))) (.cons (.aug 5 .add (.op .idx (.cons (.var 1) (.cons (.var 9) .nil)))) .nil))) .nil))))) (.cons (.ret (.tup (.cons (.var 5) (.cons (.op .tuple (.cons (.var 3) .nil)) .nil)))) .nil)))
def f_passing : Fn := mkFn 3 12 c_passing
def c_cheapest : Sts := (.cons (.expr (.call "check_losses" (f_check_losses) (.cons (.var 0) (.cons (.var 1) .nil)))) (.cons (.ret (.op .idx (.cons (.call "passing" (f_passing) (.cons (.var 0) (.cons (.var 1) (.cons (.cst (.int 1)) .nil)))) (.cons (.cst (.int 1)) .nil)))) .nil))
def f_cheapest : Fn := mkFn 2 2 c_cheapest
def c_check_losses_v2 : Sts := (.cons (.expr (.call "check_flight" (f_check_flight_v2) (.cons (.var 0) .nil))) (.cons (.ifs (.or (.cons (.not (.op (.isi .tuple) (.cons (.var 1) .nil))) (.cons (.op .ne (.cons (.op .len (.cons (.var 1) .nil)) (.cons (.op .len (.cons (.op .idx (.cons (.var 0) (.cons (.cst (.int 1)) .nil))) .nil)) .nil))) .nil))) (.cons (.raise "InvalidLosses" (.cst (.str "invalid losses"))) .nil) .nil) (.cons (.ifs (.not (.op .all (.cons (.comp (.seq (.var 1)) [2] (.name 2) .nil (.call "is_between" (f_is_between) (.cons (.var 2) (.cons (.cst (.int 0)) (.cons (.glb "MAX_LOSS" (.int 1000)) .nil))))) .nil))) (.cons (.raise "InvalidLosses" (.cst (.str "invalid losses"))) .nil) .nil) .nil)))
def f_check_losses_v2 : Fn := mkFn 2 3 c_check_losses_v2
def c_cheapest_v2 : Sts := (.cons (.expr (.call "check_losses" (f_check_losses_v2) (.cons (.var 0) (.cons (.var 1) .nil)))) (.cons (.ret (.op .idx (.cons (.call "passing" (f_passing) (.cons (.var 0) (.cons (.var 1) (.cons (.cst (.int 1)) .nil)))) (.cons (.cst (.int 1)) .nil)))) .nil))
def f_cheapest_v2 : Fn := mkFn 2 2 c_cheapest_v2
def c_check_among : Sts := (.cons (.ifs (.not (.call "are_numbers" (f_are_numbers_v3) (.cons (.var 0) .nil))) (.cons (.raise "InvalidCapacities" (.cst (.str "invalid capacities"))) .nil) .nil) (.cons (.ifs (.or (.cons (.not (.call "are_numbers" (f_are_numbers_v3) (.cons (.var 1) .nil))) (.cons (.op .ne (.cons (.op .len (.cons (.var 1) .nil)) (.cons (.op .len (.cons (.var 0) .nil)) .nil))) .nil))) (.cons (.raise "InvalidDemands" (.cst (.str "invalid demands"))) .nil) .nil) (.cons (.ifs (.or (.cons (.not (.call "is_between" (f_is_between) (.cons (.var 2) (.cons (.cst (.int 0)) (.cons (.op .sub (.cons (.op .len (.cons (.var 0) .nil)) (.cons (.cst (.int 1)) .nil))) .nil))))) (.cons (.op .eq (.cons (.op .idx (.cons (.var 1) (.cons (.var 2) .nil))) (.cons (.cst (.int 0)) .nil))) .nil))) (.cons (.raise "InvalidClass" (.cst (.str "invalid class"))) .nil) .nil) .nil)))
def f_check_among : Fn := mkFn 3 3 c_check_among
def c_fits : Sts := (.cons (.set 2 (.op .len (.cons (.op .idx (.cons (.var 0) (.cons (.cst (.int 1)) .nil))) .nil))) (.cons (.ifs (.or (.cons (.not (.op (.isi .tuple) (.cons (.var 1) .nil))) (.cons (.not (.op .all (.cons (.comp (.seq (.var 1)) [3] (.name 3) .nil (.call "is_between" (f_is_between) (.cons (.var 3) (.cons (.cst (.int 0)) (.cons (.op .sub (.cons (.var 2) (.cons (.cst (.int 1)) .nil))) .nil))))) .nil))) .nil))) (.cons (.ret (.cst (.bool false))) .nil) .nil) (.cons (.ret (.op .eq (.cons (.op .sorted (.cons (.var 1) .nil)) (.cons (.op .lrng1 (.cons (.var 2) .nil)) .nil)))) .nil)))
def f_fits : Fn := mkFn 2 4 c_fits
def c_check_order : Sts := (.cons (.expr (.call "check_flight" (f_check_flight) (.cons (.var 0) .nil))) (.cons (.ifs (.not (.call "fits" (f_fits) (.cons (.var 0) (.cons (.var 1) .nil)))) (.cons (.raise "InvalidOrder" (.cst (.str "invalid order"))) .nil) .nil) .nil))
def f_check_order : Fn := mkFn 2 2 c_check_order
def c_check_both : Sts := (.cons (.expr (.call "check_order" (f_check_order) (.cons (.var 0) (.cons (.var 1) .nil)))) (.cons (.ifs (.not (.call "can_happen" (f_can_happen) (.cons (.var 0) (.cons (.var 2) .nil)))) (.cons (.raise "InvalidSeating" (.cst (.str "invalid seating"))) .nil) .nil) .nil))
def f_check_both : Fn := mkFn 3 3 c_check_both
def c_check_order_v2 : Sts := (.cons (.expr (.call "check_flight" (f_check_flight_v2) (.cons (.var 0) .nil))) (.cons (.ifs (.not (.call "fits" (f_fits) (.cons (.var 0) (.cons (.var 1) .nil)))) (.cons (.raise "InvalidOrder" (.cst (.str "invalid order"))) .nil) .nil) .nil))
def f_check_order_v2 : Fn := mkFn 2 2 c_check_order_v2
def c_check_both_v2 : Sts := (.cons (.expr (.call "check_order" (f_check_order_v2) (.cons (.var 0) (.cons (.var 1) .nil)))) (.cons (.ifs (.not (.call "can_happen" (f_can_happen) (.cons (.var 0) (.cons (.var 2) .nil)))) (.cons (.raise "InvalidSeating" (.cst (.str "invalid seating"))) .nil) .nil) .nil))
def f_check_both_v2 : Fn := mkFn 3 3 c_check_both_v2
def c_check_class : Sts := (.cons (.ifs (.not (.call "is_between" (f_is_between) (.cons (.var 1) (.cons (.cst (.int 0)) (.cons (.op .sub (.cons (.op .len (.cons (.var 0) .nil)) (.cons (.cst (.int 1)) .nil))) .nil))))) (.cons (.raise "InvalidClass" (.cst (.str "invalid class"))) .nil) .nil) .nil)
def f_check_class : Fn := mkFn 2 2 c_check_class
def c_check_limits : Sts := (.cons (.expr (.call "check_flight" (f_check_flight) (.cons (.var 0) .nil))) (.cons (.ifs (.or (.cons (.not (.op (.isi .tuple) (.cons (.var 1) .nil))) (.cons (.op .ne (.cons (.op .len (.cons (.var 1) .nil)) (.cons (.op .len (.cons (.op .idx (.cons (.var 0) (.cons (.cst (.int 0)) .nil))) .nil)) .nil))) .nil))) (.cons (.raise "InvalidLimits" (.cst (.str "invalid limits"))) .nil) .nil) (.cons (.ifs (.not (.op .all (.cons (.comp (.seq (.var 1)) [2] (.name 2) .nil (.or (.cons (.op .is_ (.cons (.var 2) (.cons (.cst .none) .nil))) (.cons (.call "is_between" (f_is_between) (.cons (.var 2) (.cons (.cst (.int 0)) (.cons (.glb "MAX_LIMIT" (.int 9)) .nil)))) .nil)))) .nil))) (.cons (.raise "InvalidLimits" (.cst (.str "invalid limits"))) .nil) .nil) .nil)))
def f_check_limits : Fn := mkFn 2 3 c_check_limits
def c_check_costs : Sts := (.cons (.expr (.call "check_limits" (f_check_limits) (.cons (.var 0) (.cons (.var 1) .nil)))) (.cons (.ifs (.or (.cons (.not (.op (.isi .tuple) (.cons (.var 2) .nil))) (.cons (.op .ne (.cons (.op .len (.cons (.var 2) .nil)) (.cons (.op .len (.cons (.op .idx (.cons (.var 0) (.cons (.cst (.int 0)) .nil))) .nil)) .nil))) .nil))) (.cons (.raise "InvalidCosts" (.cst (.str "invalid costs"))) .nil) .nil) (.cons (.ifs (.not (.op .all (.cons (.comp (.seq (.var 2)) [3] (.name 3) .nil (.call "is_between" (f_is_between) (.cons (.var 3) (.cons (.cst (.int 0)) (.cons (.glb "MAX_COST" (.int 1000)) .nil))))) .nil))) (.cons (.raise "InvalidCosts" (.cst (.str "invalid costs"))) .nil) .nil) .nil)))
def f_check_costs : Fn := mkFn 3 4 c_check_costs
def c_check_limits_v2 : Sts := (.cons (.expr (.call "check_flight" (f_check_flight_v2) (.cons (.var 0) .nil))) (.cons (.ifs (.or (.cons (.not (.op (.isi .tuple) (.cons (.var 1) .nil))) (.cons (.op .ne (.cons (.op .len (.cons (.var 1) .nil)) (.cons (.op .len (.cons (.op .idx (.cons (.var 0) (.cons (.cst (.int 0)) .nil))) .nil)) .nil))) .nil))) (.cons (.raise "InvalidLimits" (.cst (.str "invalid limits"))) .nil) .nil) (.cons (.ifs (.not (.op .all (.cons (.comp (.seq (.var 1)) [2] (.name 2) .nil (.or (.cons (.op .is_ (.cons (.var 2) (.cons (.cst .none) .nil))) (.cons (.call "is_between" (f_is_between) (.cons (.var 2) (.cons (.cst (.int 0)) (.cons (.glb "MAX_LIMIT" (.int 9)) .nil)))) .nil)))) .nil))) (.cons (.raise "InvalidLimits" (.cst (.str "invalid limits"))) .nil) .nil) .nil)))
def f_check_limits_v2 : Fn := mkFn 2 3 c_check_limits_v2
def c_check_costs_v2 : Sts := (.cons (.expr (.call "check_limits" (f_check_limits_v2) (.cons (.var 0) (.cons (.var 1) .nil)))) (.cons (.ifs (.or (.cons (.not (.op (.isi .tuple) (.cons (.var 2) .nil))) (.cons (.op .ne (.cons (.op .len (.cons (.var 2) .nil)) (.cons (.op .len (.cons (.op .idx (.cons (.var 0) (.cons (.cst (.int 0)) .nil))) .nil)) .nil))) .nil))) (.cons (.raise "InvalidCosts" (.cst (.str "invalid costs"))) .nil) .nil) (.cons (.ifs (.not (.op .all (.cons (.comp (.seq (.var 2)) [3] (.name 3) .nil (.call "is_between" (f_is_between) (.cons (.var 3) (.cons (.cst (.int 0)) (.cons (.glb "MAX_COST" (.int 1000)) .nil))))) .nil))) (.cons (.raise "InvalidCosts" (.cst (.str "invalid costs"))) .nil) .nil) .nil)))
def f_check_costs_v2 : Fn := mkFn 3 4 c_check_costs_v2
def c_check_customer : Sts := (.cons (.expr (.call "check_flight" (f_check_flight) (.cons (.var 0) .nil))) (.cons (.ifs (.not (.call "is_between" (f_is_between) (.cons (.var 1) (.cons (.cst (.int 0)) (.cons (.op .sub (.cons (.op .len (.cons (.op .idx (.cons (.var 0) (.cons (.cst (.int 1)) .nil))) .nil)) (.cons (.cst (.int 1)) .nil))) .nil))))) (.cons (.raise "InvalidCustomer" (.cst (.str "invalid customer"))) .nil) .nil) .nil))
def f_check_customer : Fn := mkFn 2 2 c_check_customer
def c_check_customer_v2 : Sts := (.cons (.expr (.call "check_flight" (f_check_flight_v2) (.cons (.var 0) .nil))) (.cons (.ifs (.not (.call "is_between" (f_is_between) (.cons (.var 1) (.cons (.cst (.int 0)) (.cons (.op .sub (.cons (.op .len (.cons (.op .idx (.cons (.var 0) (.cons (.cst (.int 1)) .nil))) .nil)) (.cons (.cst (.int 1)) .nil))) .nil))))) (.cons (.raise "InvalidCustomer" (.cst (.str "invalid customer"))) .nil) .nil) .nil))
def f_check_customer_v2 : Fn := mkFn 2 2 c_check_customer_v2
def c_check_numbers : Sts := (.cons (.ifs (.not (.call "are_numbers" (f_are_numbers) (.cons (.var 0) .nil))) (.cons (.raise "InvalidCapacities" (.cst (.str "invalid capacities"))) .nil) .nil) (.cons (.ifs (.or (.cons (.not (.call "are_numbers" (f_are_numbers) (.cons (.var 1) .nil))) (.cons (.op .ne (.cons (.op .len (.cons (.var 1) .nil)) (.cons (.op .len (.cons (.var 0) .nil)) .nil))) .nil))) (.cons (.raise "InvalidDemands" (.cst (.str "invalid demands"))) .nil) .nil) .nil))
def f_check_numbers : Fn := mkFn 2 2 c_check_numbers
def c_check_numbers_v2 : Sts := (.cons (.ifs (.not (.call "are_numbers" (f_are_numbers_v2) (.cons (.var 0) .nil))) (.cons (.raise "InvalidCapacities" (.cst (.str "invalid capacities"))) .nil) .nil) (.cons (.ifs (.or (.cons (.not (.call "are_numbers" (f_are_numbers_v2) (.cons (.var 1) .nil))) (.cons (.op .ne (.cons (.op .len (.cons (.var 1) .nil)) (.cons (.op .len (.cons (.var 0) .nil)) .nil))) .nil))) (.cons (.raise "InvalidDemands" (.cst (.str "invalid demands"))) .nil) .nil) .nil))
def f_check_numbers_v2 : Fn := mkFn 2 2 c_check_numbers_v2
def c_check_seen : Sts := (.cons (.set 2 (.and (.cons (.op (.isi .tuple) (.cons (.var 1) .nil)) (.cons (.chain (.cst (.int 1)) .le (.op .len (.cons (.var 1) .nil)) .le (.cst (.int 6))) .nil)))) (.cons (.ifs (.or (.cons (.not (.var 2)) (.cons (.not (.op .all (.cons (.comp (.seq (.var 1)) [4] (.name 4) .nil (.and (.cons (.op (.isi .tuple) (.cons (.var 4) .nil)) (.cons (.op .eq (.cons (.op .len (.cons (.var 4) .nil)) (.cons (.cst (.int 2)) .nil))) .nil)))) .nil))) .nil))) (.cons (.raise "InvalidSeen" (.cst (.str "invalid seen flows"))) .nil) .nil) (.cons (.set 3 (.op .sub (.cons (.op .len (.cons (.var 0) .nil)) (.cons (.cst (.int 1)) .nil)))) (.cons (.ifs (.not (.op .all (.cons (.comp (.seq (.var 1)) [4] (.name 4) .nil (.and (.cons (.call "is_between" (f_is_between) (.cons (.op .idx (.cons (.var 4) (.cons (.cst (.int 0)) .nil))) (.cons (.cst (.int 0)) (.cons (.var 3) .nil)))) (.cons (.call "is_between" (f_is_between) (.cons (.op .idx (.cons (.var 4) (.cons (.cst (.int 1)) .nil))) (.cons (.cst (.int 0)) (.cons (.cst (.int 10000)) .nil)))) .nil)))) .nil))) (.cons (.raise "InvalidSeen" (.cst (.str "invalid seen flows"))) .nil) .nil) .nil))))
def f_check_seen : Fn := mkFn 2 5 c_check_seen
def c_check_question : Sts := (.cons (.expr (.call "check_numbers" (f_check_numbers) (.cons (.var 0) (.cons (.var 1) .nil)))) (.cons (.expr (.call "check_class" (f_check_class) (.cons (.var 0) (.cons (.var 2) .nil)))) (.cons (.expr (.call "check_seen" (f_check_seen) (.cons (.var 0) (.cons (.var 3) .nil)))) .nil)))
def f_check_question : Fn := mkFn 4 4 c_check_question
def c_check_question_v2 : Sts := (.cons (.expr (.call "check_numbers" (f_check_numbers_v2) (.cons (.var 0) (.cons (.var 1) .nil)))) (.cons (.expr (.call "check_class" (f_check_class) (.cons (.var 0) (.cons (.var 2) .nil)))) (.cons (.expr (.call "check_seen" (f_check_seen) (.cons (.var 0) (.cons (.var 3) .nil)))) .nil)))
def f_check_question_v2 : Fn := mkFn 4 4 c_check_question_v2
def c_check_seating : Sts := (.cons (.expr (.call "check_flight" (f_check_flight) (.cons (.var 0) .nil))) (.cons (.ifs (.not (.call "can_happen" (f_can_happen) (.cons (.var 0) (.cons (.var 1) .nil)))) (.cons (.raise "InvalidSeating" (.cst (.str "invalid seating"))) .nil) .nil) .nil))
def f_check_seating : Fn := mkFn 2 2 c_check_seating
def c_check_seating_v2 : Sts := (.cons (.expr (.call "check_flight" (f_check_flight_v2) (.cons (.var 0) .nil))) (.cons (.ifs (.not (.call "can_happen" (f_can_happen) (.cons (.var 0) (.cons (.var 1) .nil)))) (.cons (.raise "InvalidSeating" (.cst (.str "invalid seating"))) .nil) .nil) .nil))
def f_check_seating_v2 : Fn := mkFn 2 2 c_check_seating_v2
def c_count_agreeing : Sts := (.cons (.expr (.call "check_list" (f_check_list) (.cons (.var 0) (.cons (.var 1) .nil)))) (.cons (.ret (.call "agreeing" (f_agreeing) (.cons (.var 0) (.cons (.var 1) .nil)))) .nil))
def f_count_agreeing : Fn := mkFn 2 2 c_count_agreeing
def c_count_agreeing_v2 : Sts := (.cons (.expr (.call "check_list" (f_check_list_v2) (.cons (.var 0) (.cons (.var 1) .nil)))) (.cons (.ret (.call "agreeing" (f_agreeing) (.cons (.var 0) (.cons (.var 1) .nil)))) .nil))
def f_count_agreeing_v2 : Fn := mkFn 2 2 c_count_agreeing_v2
def c_count_away_sets : Sts := (.cons (.expr (.call "check_flight" (f_check_flight) (.cons (.var 0) .nil))) (.cons (.set 1 (.call "flows_in" (f_flows_in) (.cons (.var 0) .nil))) (.cons (.set 2 (.dct1 (.cst (.int 0)) (.cst (.int 1)))) (.cons (.for_ (.tup (.cons (.name 3) (.cons (.name 4) .nil))) (.zip (.cons (.call "demands_of" (f_demands_of) (.cons (.var 0) .nil)) (.cons (.var 1) .nil))) (.cons (.set 5 .dct0) (.cons (.for_ (.name 6) (.seq (.var 2)) (.cons (.for_ (.name 7) (.rng1 (.op .add (.cons (.var 3) (.cons (.cst (.int 1)) .nil)))) (.cons (.ifs (.op .le (.cons (.op .add (.cons (.var 6) (.cons (.var 7) .nil))) (.cons (.var 4) .nil))) (.cons (.setI 5 (.op .add (.cons (.var 6) (.cons (.var 7) .nil))) (.op .add (.cons (.op .get2 (.cons (.var 5) (.cons (.op .add (.cons (.var 6) (.cons (.var 7) .nil))) (.cons (.cst (.int 0)) .nil)))) (.cons (.op .mul (.cons (.op .idx (.cons (.var 2) (.cons (.var 6) .nil))) (.cons (.call "choose" (f_choose) (.cons (.var 3) (.cons (.var 7) .nil))) .nil))) .nil)))) .nil) .nil) .nil)) .nil)) (.cons (.set 2 (.var 5)) .nil)))) (.cons (.ret (.op .get2 (.cons (.var 2) (.cons (.op .idx (.cons (.var 1) (.cons (.op .neg (.cons (.cst (.int 1)) .nil)) .nil))) (.cons (.cst (.int 0)) .nil))))) .nil)))))
def f_count_away_sets : Fn := mkFn 1 8 c_count_away_sets
def c_count_away_sets_v2 : Sts := (.cons (.expr (.call "check_flight" (f_check_flight_v2) (.cons (.var 0) .nil))) (.cons (.set 1 (.call "flows_in" (f_flows_in) (.cons (.var 0) .nil))) (.cons (.set 2 (.dct1 (.cst (.int 0)) (.cst (.int 1)))) (.cons (.for_ (.tup (.cons (.name 3) (.cons (.name 4) .nil))) (.zip (.cons (.call "demands_of" (f_demands_of) (.cons (.var 0) .nil)) (.cons (.var 1) .nil))) (.cons (.set 5 .dct0) (.cons (.for_ (.name 6) (.seq (.var 2)) (.cons (.for_ (.name 7) (.rng1 (.op .add (.cons (.var 3) (.cons (.cst (.int 1)) .nil)))) (.cons (.ifs (.op .le (.cons (.op .add (.cons (.var 6) (.cons (.var 7) .nil))) (.cons (.var 4) .nil))) (.cons (.setI 5 (.op .add (.cons (.var 6) (.cons (.var 7) .nil))) (.op .add (.cons (.op .get2 (.cons (.var 5) (.cons (.op .add (.cons (.var 6) (.cons (.var 7) .nil))) (.cons (.cst (.int 0)) .nil)))) (.cons (.op .mul (.cons (.op .idx (.cons (.var 2) (.cons (.var 6) .nil))) (.cons (.call "choose" (f_choose) (.cons (.var 3) (.cons (.var 7) .nil))) .nil))) .nil)))) .nil) .nil) .nil)) .nil)) (.cons (.set 2 (.var 5)) .nil)))) (.cons (.ret (.op .get2 (.cons (.var 2) (.cons (.op .idx (.cons (.var 1) (.cons (.op .neg (.cons (.cst (.int 1)) .nil)) .nil))) (.cons (.cst (.int 0)) .nil))))) .nil)))))
def f_count_away_sets_v2 : Fn := mkFn 1 8 c_count_away_sets_v2
def c_count_moved_sets : Sts := (.cons (.expr (.call "check_flight" (f_check_flight) (.cons (.var 0) .nil))) (.cons (.set 1 (.cst (.int 1))) (.cons (.for_ (.tup (.cons (.name 2) (.cons (.tup (.cons (.name 3) (.cons (.name 4) .nil))) .nil))) (.zip (.cons (.call "demands_of" (f_demands_of) (.cons (.var 0) .nil)) (.cons (.call "bounds_of" (f_bounds_of) (.cons (.var 0) .nil)) .nil))) (.cons (.aug 1 .mul (.op .sum (.cons (.comp (.rng2 (.var 3) (.op .add (.cons (.var 4) (.cons (.cst (.int 1)) .nil)))) [5] (.name 5) .nil (.call "choose" (f_choose) (.cons (.var 2) (.cons (.var 5) .nil)))) .nil))) .nil)) (.cons (.ret (.var 1)) .nil))))
def f_count_moved_sets : Fn := mkFn 1 6 c_count_moved_sets
def c_count_moved_sets_v2 : Sts := (.cons (.expr (.call "check_flight" (f_check_flight_v2) (.cons (.var 0) .nil))) (.cons (.set 1 (.cst (.int 1))) (.cons (.for_ (.tup (.cons (.name 2) (.cons (.tup (.cons (.name 3) (.cons (.name 4) .nil))) .nil))) (.zip (.cons (.call "demands_of" (f_demands_of) (.cons (.var 0) .nil)) (.cons (.call "bounds_of" (f_bounds_of) (.cons (.var 0) .nil)) .nil))) (.cons (.aug 1 .mul (.op .sum (.cons (.comp (.rng2 (.var 3) (.op .add (.cons (.var 4) (.cons (.cst (.int 1)) .nil)))) [5] (.name 5) .nil (.call "choose" (f_choose) (.cons (.var 2) (.cons (.var 5) .nil)))) .nil))) .nil)) (.cons (.ret (.var 1)) .nil))))
def f_count_moved_sets_v2 : Fn := mkFn 1 6 c_count_moved_sets_v2
def c_must_wait : Sts := (.cons (.par [3, 4] (.cons (.op .idx (.cons (.op .idx (.cons (.var 0) (.cons (.cst (.int 1)) .nil))) (.cons (.var 2) .nil))) (.cons (.op .idx (.cons (.var 1) (.cons (.var 2) .nil))) .nil))) (.cons (.ret (.comp (.enum (.var 1)) [5, 6] (.tup (.cons (.name 5) (.cons (.name 6) .nil))) (.cons (.chain (.var 3) .le (.var 6) .lt (.var 4)) .nil) (.var 5))) .nil))
def f_must_wait : Fn := mkFn 3 7 c_must_wait
def c_count_orders : Sts := (.cons (.expr (.call "check_seating" (f_check_seating) (.cons (.var 0) (.cons (.var 1) .nil)))) (.cons (.set 2 (.op .len (.cons (.var 1) .nil))) (.cons (.set 3 (.comp (.rng1 (.var 2)) [8] (.name 8) .nil (.call "must_wait" (f_must_wait) (.cons (.var 0) (.cons (.var 1) (.cons (.var 8) .nil)))))) (.cons (.set 4 (.dct1 (.tup .nil) (.cst (.int 1)))) (.cons (.for_ (.name 5) (.rng1 (.var 2)) (.cons (.set 6 .dct0) (.cons (.for_ (.name 7) (.seq (.var 4)) (.cons (.for_ (.name 8) (.rng1 (.var 2)) (.cons (.ifs (.and (.cons (.op .notin (.cons (.var 8) (.cons (.var 7) .nil))) (.cons (.op .all (.cons (.comp (.seq (.op .idx (.cons (.var 3) (.cons (.var 8) .nil)))) [10] (.name 10) .nil (.op .isin (.cons (.var 10) (.cons (.var 7) .nil)))) .nil)) .nil))) (.cons (.set 9 (.op .tuple (.cons (.op .sorted (.cons (.op .add (.cons (.var 7) (.cons (.tup (.cons (.var 8) .nil)) .nil))) .nil)) .nil))) (.cons (.setI 6 (.var 9) (.op .add (.cons (.op .get2 (.cons (.var 6) (.cons (.var 9) (.cons (.cst (.int 0)) .nil)))) (.cons (.op .idx (.cons (.var 4) (.cons (.var 7) .nil))) .nil)))) .nil)) .nil) .nil)) .nil)) (.cons (.set 4 (.var 6)) .nil)))) (.cons (.ret (.op .sum (.cons (.comp (.seq (.var 4)) [7] (.name 7) .nil (.op .idx (.cons (.var 4) (.cons (.var 7) .nil)))) .nil))) .nil))))))
def f_count_orders : Fn := mkFn 2 11 c_count_orders
def c_count_orders_v2 : Sts := (.cons (.expr (.call "check_seating" (f_check_seating_v2) (.cons (.var 0) (.cons (.var 1) .nil)))) (.cons (.set 2 (.op .len (.cons (.var 1) .nil))) (.cons (.set 3 (.comp (.rng1 (.var 2)) [8] (.name 8) .nil (.call "must_wait" (f_must_wait) (.cons (.var 0) (.cons (.var 1) (.cons (.var 8) .nil)))))) (.cons (.set 4 (.dct1 (.tup .nil) (.cst (.int 1)))) (.cons (.for_ (.name 5) (.rng1 (.var 2)) (.cons (.set 6 .dct0) (.cons (.for_ (.name 7) (.seq (.var 4)) (.cons (.for_ (.name 8) (.rng1 (.var 2)) (.cons (.ifs (.and (.cons (.op .notin (.cons (.var 8) (.cons (.var 7) .nil))) (.cons (.op .all (.cons (.comp (.seq (.op .idx (.cons (.var 3) (.cons (.var 8) .nil)))) [10] (.name 10) .nil (.op .isin (.cons (.var 10) (.cons (.var 7) .nil)))) .nil)) .nil))) (.cons (.set 9 (.op .tuple (.cons (.op .sorted (.cons (.op .add (.cons (.var 7) (.cons (.tup (.cons (.var 8) .nil)) .nil))) .nil)) .nil))) (.cons (.setI 6 (.var 9) (.op .add (.cons (.op .get2 (.cons (.var 6) (.cons (.var 9) (.cons (.cst (.int 0)) .nil)))) (.cons (.op .idx (.cons (.var 4) (.cons (.var 7) .nil))) .nil)))) .nil)) .nil) .nil)) .nil)) (.cons (.set 4 (.var 6)) .nil)))) (.cons (.ret (.op .sum (.cons (.comp (.seq (.var 4)) [7] (.name 7) .nil (.op .idx (.cons (.var 4) (.cons (.var 7) .nil)))) .nil))) .nil))))))
def f_count_orders_v2 : Fn := mkFn 2 11 c_count_orders_v2
def c_count_seatings : Sts := (.cons (.expr (.call "check_flight" (f_check_flight) (.cons (.var 0) .nil))) (.cons (.ret (.call "agreeing" (f_agreeing) (.cons (.var 0) (.cons (.op .mul (.cons (.tup (.cons (.cst .none) .nil)) (.cons (.op .len (.cons (.op .idx (.cons (.var 0) (.cons (.cst (.int 1)) .nil))) .nil)) .nil))) .nil)))) .nil))
def f_count_seatings : Fn := mkFn 1 1 c_count_seatings
def c_count_seatings_v2 : Sts := (.cons (.expr (.call "check_flight" (f_check_flight_v2) (.cons (.var 0) .nil))) (.cons (.ret (.call "agreeing" (f_agreeing) (.cons (.var 0) (.cons (.op .mul (.cons (.tup (.cons (.cst .none) .nil)) (.cons (.op .len (.cons (.op .idx (.cons (.var 0) (.cons (.cst (.int 1)) .nil))) .nil)) .nil))) .nil)))) .nil))
def f_count_seatings_v2 : Fn := mkFn 1 1 c_count_seatings_v2
def c_ends : Sts := (.cons (.ret (.ite (.op .ne (.cons (.var 0) (.cons (.lst .nil) .nil))) (.tup (.cons (.op .idx (.cons (.var 0) (.cons (.cst (.int 0)) .nil))) (.cons (.op .idx (.cons (.var 0) (.cons (.op .neg (.cons (.cst (.int 1)) .nil)) .nil))) .nil))) (.cst .none))) .nil)
def f_ends : Fn := mkFn 1 1 c_ends
def c_fewest_added : Sts := (.cons (.expr (.call "check_limits" (f_check_limits) (.cons (.var 0) (.cons (.var 1) .nil)))) (.cons (.ret (.op .idx (.cons (.call "best_plan" (f_best_plan) (.cons (.var 0) (.cons (.var 1) (.cons (.op .mul (.cons (.tup (.cons (.cst (.int 1)) .nil)) (.cons (.op .len (.cons (.var 1) .nil)) .nil))) .nil)))) (.cons (.cst (.int 0)) .nil)))) .nil))
def f_fewest_added : Fn := mkFn 2 2 c_fewest_added
def c_fewest_added_v2 : Sts := (.cons (.expr (.call "check_limits" (f_check_limits_v2) (.cons (.var 0) (.cons (.var 1) .nil)))) (.cons (.ret (.op .idx (.cons (.call "best_plan" (f_best_plan) (.cons (.var 0) (.cons (.var 1) (.cons (.op .mul (.cons (.tup (.cons (.cst (.int 1)) .nil)) (.cons (.op .len (.cons (.var 1) .nil)) .nil))) .nil)))) (.cons (.cst (.int 0)) .nil)))) .nil))
def f_fewest_added_v2 : Fn := mkFn 2 2 c_fewest_added_v2
def c_nearest : Sts := (.cons (.set 3 (.op .len (.cons (.var 1) .nil))) (.cons (.set 4 (.comp (.rng1 (.var 3)) [9] (.name 9) .nil (.call "must_wait" (f_must_wait) (.cons (.var 0) (.cons (.var 2) (.cons (.var 9) .nil)))))) (.cons (.set 5 (.dct1 (.tup .nil) (.tup (.cons (.cst (.int 0)) (.cons (.tup .nil) .nil))))) (.cons (.for_ (.name 6) (.rng1 (.var 3)) (.cons (.set 7 .dct0) (.cons (.for_ (.name 8) (.seq (.var 5)) (.cons (.setT (.tup (.cons (.name 11) (.cons (.name 12) .nil))) (.op .idx (.cons (.var 5) (.cons (.var 8) .nil)))) (.cons (.set 10 (.comp (.seq (.var 1)) [9] (.name 9) (.cons (.op .notin (.cons (.var 9) (.cons (.var 8) .nil))) .nil) (.var 9))) (.cons (.for_ (.tup (.cons (.name 13) (.cons (.name 9) .nil))) (.enum (.var 10)) (.cons (.set 14 (.op .tuple (.cons (.op .sorted (.cons (.op .add (.cons (.var 8) (.cons (.tup (.cons (.var 9) .nil)) .nil))) .nil)) .nil))) (.cons (.ifs (.op .all (.cons (.comp (.seq (.op .idx (.cons (.var 4) (.cons (.var 9) .nil)))) [15] (.name 15) .nil (.op .isin (.cons (.var 15) (.cons (.var 8) .nil)))) .nil)) (.cons (.setI 7 (.var 14) (.op .mn2 (.cons (.op .get2 (.cons (.var 7) (.cons (.var 14) (.cons (.tup (.cons (.op .add (.cons (.var 11) (.cons (.var 13) .nil))) (.cons (.op .add (.cons (.var 12) (.cons (.tup (.cons (.var 9) .nil)) .nil))) .nil))) .nil)))) (.cons (.tup (.cons (.op .add (.cons (.var 11) (.cons (.var 13) .nil))) (.cons (.op .add (.cons (.var 12) (.cons (.tup (.cons (.var 9) .nil)) .nil))) .nil))) .nil)))) .nil) .nil) .nil))) .nil)))) (.cons (.set 5 (.var 7)) .nil)))) (.cons (.ret (.op .idx (.cons (.var 5) (.cons (.op .trng1 (.cons (.var 3) .nil)) .nil)))) .nil)))))
def f_nearest : Fn := mkFn 3 16 c_nearest
def c_fewest_swaps : Sts := (.cons (.expr (.call "check_both" (f_check_both) (.cons (.var 0) (.cons (.var 1) (.cons (.var 2) .nil))))) (.cons (.ret (.op .idx (.cons (.call "nearest" (f_nearest) (.cons (.var 0) (.cons (.var 1) (.cons (.var 2) .nil)))) (.cons (.cst (.int 0)) .nil)))) .nil))
def f_fewest_swaps : Fn := mkFn 3 3 c_fewest_swaps
def c_fewest_swaps_v2 : Sts := (.cons (.expr (.call "check_both" (f_check_both_v2) (.cons (.var 0) (.cons (.var 1) (.cons (.var 2) .nil))))) (.cons (.ret (.op .idx (.cons (.call "nearest" (f_nearest) (.cons (.var 0) (.cons (.var 1) (.cons (.var 2) .nil)))) (.cons (.cst (.int 0)) .nil)))) .nil))
def f_fewest_swaps_v2 : Fn := mkFn 3 3 c_fewest_swaps_v2
def c_first_order : Sts := (.cons (.expr (.call "check_list" (f_check_list) (.cons (.var 0) (.cons (.var 1) .nil)))) (.cons (.set 2 (.call "ways_on" (f_ways_on) (.cons (.var 0) (.cons (.var 1) .nil)))) (.cons (.ifs (.op .notin (.cons (.tup .nil) (.cons (.var 2) .nil))) (.cons (.ret (.cst .none)) .nil) .nil) (.cons (.set 3 (.tup .nil)) (.cons (.for_ (.name 4) (.rng1 (.op .len (.cons (.var 1) .nil))) (.cons (.for_ (.name 5) (.rng1 (.op .len (.cons (.var 1) .nil))) (.cons (.set 6 (.op .tuple (.cons (.op .sorted (.cons (.op .add (.cons (.var 3) (.cons (.tup (.cons (.var 5) .nil)) .nil))) .nil)) .nil))) (.cons (.ifs (.and (.cons (.call "can_follow" (f_can_follow) (.cons (.var 0) (.cons (.var 1) (.cons (.var 3) (.cons (.var 5) .nil))))) (.cons (.op .isin (.cons (.var 6) (.cons (.var 2) .nil))) .nil))) (.cons (.aug 3 .add (.tup (.cons (.var 5) .nil))) (.cons .brk .nil)) .nil) .nil))) .nil)) (.cons (.ret (.var 3)) .nil))))))
def f_first_order : Fn := mkFn 2 7 c_first_order
def c_first_order_v2 : Sts := (.cons (.expr (.call "check_list" (f_check_list_v2) (.cons (.var 0) (.cons (.var 1) .nil)))) (.cons (.set 2 (.call "ways_on" (f_ways_on) (.cons (.var 0) (.cons (.var 1) .nil)))) (.cons (.ifs (.op .notin (.cons (.tup .nil) (.cons (.var 2) .nil))) (.cons (.ret (.cst .none)) .nil) .nil) (.cons (.set 3 (.tup .nil)) (.cons (.for_ (.name 4) (.rng1 (.op .len (.cons (.var 1) .nil))) (.cons (.for_ (.name 5) (.rng1 (.op .len (.cons (.var 1) .nil))) (.cons (.set 6 (.op .tuple (.cons (.op .sorted (.cons (.op .add (.cons (.var 3) (.cons (.tup (.cons (.var 5) .nil)) .nil))) .nil)) .nil))) (.cons (.ifs (.and (.cons (.call "can_follow" (f_can_follow) (.cons (.var 0) (.cons (.var 1) (.cons (.var 3) (.cons (.var 5) .nil))))) (.cons (.op .isin (.cons (.var 6) (.cons (.var 2) .nil))) .nil))) (.cons (.aug 3 .add (.tup (.cons (.var 5) .nil))) (.cons .brk .nil)) .nil) .nil))) .nil)) (.cons (.ret (.var 3)) .nil))))))
def f_first_order_v2 : Fn := mkFn 2 7 c_first_order_v2
def c_flows : Sts := (.cons (.expr (.call "check_flight" (f_check_flight) (.cons (.var 0) .nil))) (.cons (.ret (.call "flows_in" (f_flows_in) (.cons (.var 0) .nil))) .nil))
def f_flows : Fn := mkFn 1 1 c_flows
def c_flows_of : Sts := (.cons (.expr (.call "check_numbers" (f_check_numbers) (.cons (.var 0) (.cons (.var 1) .nil)))) (.cons (.ret (.call "flows_for" (f_flows_for) (.cons (.var 0) (.cons (.var 1) .nil)))) .nil))
def f_flows_of : Fn := mkFn 2 2 c_flows_of
def c_flows_of_v2 : Sts := (.cons (.expr (.call "check_numbers" (f_check_numbers_v2) (.cons (.var 0) (.cons (.var 1) .nil)))) (.cons (.ret (.call "flows_for" (f_flows_for) (.cons (.var 0) (.cons (.var 1) .nil)))) .nil))
def f_flows_of_v2 : Fn := mkFn 2 2 c_flows_of_v2
def c_flows_v2 : Sts := (.cons (.expr (.call "check_flight" (f_check_flight_v2) (.cons (.var 0) .nil))) (.cons (.ret (.call "flows_in" (f_flows_in) (.cons (.var 0) .nil))) .nil))
def f_flows_v2 : Fn := mkFn 1 1 c_flows_v2
def c_greatest_loss : Sts := (.cons (.expr (.call "check_losses" (f_check_losses) (.cons (.var 0) (.cons (.var 1) .nil)))) (.cons (.ret (.op .idx (.cons (.call "passing" (f_passing) (.cons (.var 0) (.cons (.var 1) (.cons (.op .neg (.cons (.cst (.int 1)) .nil)) .nil)))) (.cons (.cst (.int 0)) .nil)))) .nil))
def f_greatest_loss : Fn := mkFn 2 2 c_greatest_loss
def c_greatest_loss_v2 : Sts := (.cons (.expr (.call "check_losses" (f_check_losses_v2) (.cons (.var 0) (.cons (.var 1) .nil)))) (.cons (.ret (.op .idx (.cons (.call "passing" (f_passing) (.cons (.var 0) (.cons (.var 1) (.cons (.op .neg (.cons (.cst (.int 1)) .nil)) .nil)))) (.cons (.cst (.int 0)) .nil)))) .nil))
def f_greatest_loss_v2 : Fn := mkFn 2 2 c_greatest_loss_v2
def c_places_in : Sts := (.cons (.par [3, 4] (.cons (.op .list (.cons (.op .idx (.cons (.var 0) (.cons (.cst (.int 0)) .nil))) .nil)) (.cons .dct0 .nil))) (.cons (.for_ (.name 2) (.seq (.var 1)) (.cons (.set 5 (.call "place_of" (f_place_of) (.cons (.var 3) (.cons (.op .idx (.cons (.op .idx (.cons (.var 0) (.cons (.cst (.int 1)) .nil))) (.cons (.var 2) .nil))) .nil)))) (.cons (.setI 4 (.var 2) (.var 5)) (.cons (.ifs (.op .lt (.cons (.var 5) (.cons (.op .len (.cons (.var 3) .nil)) .nil))) (.cons (.augI 3 (.var 5) .sub (.cst (.int 1))) .nil) .nil) .nil)))) (.cons (.ret (.op .tuple (.cons (.comp (.rng1 (.op .len (.cons (.op .idx (.cons (.var 0) (.cons (.cst (.int 1)) .nil))) .nil))) [2] (.name 2) .nil (.op .idx (.cons (.var 4) (.cons (.var 2) .nil)))) .nil))) .nil)))
def f_places_in : Fn := mkFn 2 6 c_places_in
def c_idle_swaps : Sts := (.cons (.expr (.call "check_order" (f_check_order) (.cons (.var 0) (.cons (.var 1) .nil)))) (.cons (.set 2 (.lst .nil)) (.cons (.for_ (.name 3) (.rng1 (.op .sub (.cons (.op .len (.cons (.var 1) .nil)) (.cons (.cst (.int 1)) .nil)))) (.cons (.set 4 (.op .add (.cons (.op .add (.cons (.op (.slc false true) (.cons (.var 1) (.cons (.var 3) .nil))) (.cons (.tup (.cons (.op .idx (.cons (.var 1) (.cons (.op .add (.cons (.var 3) (.cons (.cst (.int 1)) .nil))) .nil))) (.cons (.op .idx (.cons (.var 1) (.cons (.var 3) .nil))) .nil))) .nil))) (.cons (.op (.slc true false) (.cons (.var 1) (.cons (.op .add (.cons (.var 3) (.cons (.cst (.int 2)) .nil))) .nil))) .nil)))) (.cons (.ifs (.op .eq (.cons (.call "places_in" (f_places_in) (.cons (.var 0) (.cons (.var 4) .nil))) (.cons (.call "places_in" (f_places_in) (.cons (.var 0) (.cons (.var 1) .nil))) .nil))) (.cons (.app 2 (.var 3)) .nil) .nil) .nil))) (.cons (.ret (.var 2)) .nil))))
def f_idle_swaps : Fn := mkFn 2 5 c_idle_swaps
def c_idle_swaps_v2 : Sts := (.cons (.expr (.call "check_order" (f_check_order_v2) (.cons (.var 0) (.cons (.var 1) .nil)))) (.cons (.set 2 (.lst .nil)) (.cons (.for_ (.name 3) (.rng1 (.op .sub (.cons (.op .len (.cons (.var 1) .nil)) (.cons (.cst (.int 1)) .nil)))) (.cons (.set 4 (.op .add (.cons (.op .add (.cons (.op (.slc false true) (.cons (.var 1) (.cons (.var 3) .nil))) (.cons (.tup (.cons (.op .idx (.cons (.var 1) (.cons (.op .add (.cons (.var 3) (.cons (.cst (.int 1)) .nil))) .nil))) (.cons (.op .idx (.cons (.var 1) (.cons (.var 3) .nil))) .nil))) .nil))) (.cons (.op (.slc true false) (.cons (.var 1) (.cons (.op .add (.cons (.var 3) (.cons (.cst (.int 2)) .nil))) .nil))) .nil)))) (.cons (.ifs (.op .eq (.cons (.call "places_in" (f_places_in) (.cons (.var 0) (.cons (.var 4) .nil))) (.cons (.call "places_in" (f_places_in) (.cons (.var 0) (.cons (.var 1) .nil))) .nil))) (.cons (.app 2 (.var 3)) .nil) .nil) .nil))) (.cons (.ret (.var 2)) .nil))))
def f_idle_swaps_v2 : Fn := mkFn 2 5 c_idle_swaps_v2
def c_is_away_set : Sts := (.cons (.expr (.call "check_flight" (f_check_flight) (.cons (.var 0) .nil))) (.cons (.set 2 (.call "flows_in" (f_flows_in) (.cons (.var 0) .nil))) (.cons (.ifs (.or (.cons (.not (.call "is_set" (f_is_set) (.cons (.var 0) (.cons (.var 1) .nil)))) (.cons (.op .ne (.cons (.op .len (.cons (.var 1) .nil)) (.cons (.op .idx (.cons (.var 2) (.cons (.op .neg (.cons (.cst (.int 1)) .nil)) .nil))) .nil))) .nil))) (.cons (.ret (.cst (.bool false))) .nil) .nil) (.cons (.for_ (.tup (.cons (.name 3) (.cons (.name 4) .nil))) (.enum (.var 2)) (.cons (.ifs (.op .gt (.cons (.op .len (.cons (.comp (.seq (.var 1)) [5] (.name 5) (.cons (.op .le (.cons (.op .idx (.cons (.op .idx (.cons (.var 0) (.cons (.cst (.int 1)) .nil))) (.cons (.var 5) .nil))) (.cons (.var 3) .nil))) .nil) (.var 5)) .nil)) (.cons (.var 4) .nil))) (.cons (.ret (.cst (.bool false))) .nil) .nil) .nil)) (.cons (.ret (.cst (.bool true))) .nil)))))
def f_is_away_set : Fn := mkFn 2 6 c_is_away_set
def c_is_away_set_v2 : Sts := (.cons (.expr (.call "check_flight" (f_check_flight_v2) (.cons (.var 0) .nil))) (.cons (.set 2 (.call "flows_in" (f_flows_in) (.cons (.var 0) .nil))) (.cons (.ifs (.or (.cons (.not (.call "is_set" (f_is_set) (.cons (.var 0) (.cons (.var 1) .nil)))) (.cons (.op .ne (.cons (.op .len (.cons (.var 1) .nil)) (.cons (.op .idx (.cons (.var 2) (.cons (.op .neg (.cons (.cst (.int 1)) .nil)) .nil))) .nil))) .nil))) (.cons (.ret (.cst (.bool false))) .nil) .nil) (.cons (.for_ (.tup (.cons (.name 3) (.cons (.name 4) .nil))) (.enum (.var 2)) (.cons (.ifs (.op .gt (.cons (.op .len (.cons (.comp (.seq (.var 1)) [5] (.name 5) (.cons (.op .le (.cons (.op .idx (.cons (.op .idx (.cons (.var 0) (.cons (.cst (.int 1)) .nil))) (.cons (.var 5) .nil))) (.cons (.var 3) .nil))) .nil) (.var 5)) .nil)) (.cons (.var 4) .nil))) (.cons (.ret (.cst (.bool false))) .nil) .nil) .nil)) (.cons (.ret (.cst (.bool true))) .nil)))))
def f_is_away_set_v2 : Fn := mkFn 2 6 c_is_away_set_v2
def c_is_moved_set_v2 : Sts := (.cons (.expr (.call "check_flight" (f_check_flight_v2) (.cons (.var 0) .nil))) (.cons (.ret (.call "can_move" (f_can_move) (.cons (.var 0) (.cons (.var 1) .nil)))) .nil))
def f_is_moved_set_v2 : Fn := mkFn 2 2 c_is_moved_set_v2
def c_is_order : Sts := (.cons (.expr (.call "check_flight" (f_check_flight) (.cons (.var 0) .nil))) (.cons (.ret (.call "fits" (f_fits) (.cons (.var 0) (.cons (.var 1) .nil)))) .nil))
def f_is_order : Fn := mkFn 2 2 c_is_order
def c_is_seating_v2 : Sts := (.cons (.expr (.call "check_flight" (f_check_flight_v2) (.cons (.var 0) .nil))) (.cons (.ret (.call "can_happen" (f_can_happen) (.cons (.var 0) (.cons (.var 1) .nil)))) .nil))
def f_is_seating_v2 : Fn := mkFn 2 2 c_is_seating_v2
def c_seat_all : Sts := (.cons (.expr (.call "check_flight" (f_check_flight) (.cons (.var 0) .nil))) (.cons (.ifs (.not (.call "fits" (f_fits) (.cons (.var 0) (.cons (.var 1) .nil)))) (.cons (.raise "InvalidOrder" (.cst (.str "invalid order"))) .nil) .nil) (.cons (.ret (.call "places_in" (f_places_in) (.cons (.var 0) (.cons (.var 1) .nil)))) .nil)))
def f_seat_all : Fn := mkFn 2 2 c_seat_all
def c_taken : Sts := (.cons (.expr (.call "check_flight" (f_check_flight) (.cons (.var 0) .nil))) (.cons (.par [1, 2] (.cons (.cst (.int 0)) (.cons (.lst .nil) .nil))) (.cons (.for_ (.tup (.cons (.name 3) (.cons (.name 4) .nil))) (.zip (.cons (.call "demands_of" (f_demands_of) (.cons (.var 0) .nil)) (.cons (.call "flows_in" (f_flows_in) (.cons (.var 0) .nil)) .nil))) (.cons (.app 2 (.op .sub (.cons (.op .add (.cons (.var 1) (.cons (.var 3) .nil))) (.cons (.var 4) .nil)))) (.cons (.set 1 (.var 4)) .nil))) (.cons (.ret (.var 2)) .nil))))
def f_taken : Fn := mkFn 1 5 c_taken
def c_order_for : Sts := (.cons (.expr (.call "check_seating" (f_check_seating) (.cons (.var 0) (.cons (.var 1) .nil)))) (.cons (.ret (.op .tuple (.cons (.comp (.seq (.op .sorted (.cons (.comp (.enum (.var 1)) [4, 5] (.tup (.cons (.name 4) (.cons (.name 5) .nil))) .nil (.tup (.cons (.var 5) (.cons (.var 4) .nil)))) .nil))) [2, 3] (.tup (.cons (.name 2) (.cons (.name 3) .nil))) .nil (.var 3)) .nil))) .nil))
def f_order_for : Fn := mkFn 2 6 c_order_for
def c_seating_at : Sts := (.cons (.expr (.call "check_flight" (f_check_flight) (.cons (.var 0) .nil))) (.cons (.set 2 (.op .mul (.cons (.tup (.cons (.cst .none) .nil)) (.cons (.op .len (.cons (.op .idx (.cons (.var 0) (.cons (.cst (.int 1)) .nil))) .nil)) .nil)))) (.cons (.ifs (.not (.call "is_between" (f_is_between) (.cons (.var 1) (.cons (.cst (.int 0)) (.cons (.op .sub (.cons (.call "agreeing" (f_agreeing) (.cons (.var 0) (.cons (.var 2) .nil))) (.cons (.cst (.int 1)) .nil))) .nil))))) (.cons (.raise "InvalidNumber" (.cst (.str "there is no seating with this number"))) .nil) .nil) (.cons (.for_ (.name 3) (.rng1 (.op .len (.cons (.var 2) .nil))) (.cons (.for_ (.name 4) (.rng1 (.op .add (.cons (.op .len (.cons (.op .idx (.cons (.var 0) (.cons (.cst (.int 0)) .nil))) .nil)) (.cons (.cst (.int 1)) .nil)))) (.cons (.set 5 (.op .add (.cons (.op .add (.cons (.op (.slc false true) (.cons (.var 2) (.cons (.var 3) .nil))) (.cons (.tup (.cons (.var 4) .nil)) .nil))) (.cons (.op (.slc true false) (.cons (.var 2) (.cons (.op .add (.cons (.var 3) (.cons (.cst (.int 1)) .nil))) .nil))) .nil)))) (.cons (.set 6 (.call "agreeing" (f_agreeing) (.cons (.var 0) (.cons (.var 5) .nil)))) (.cons (.ifs (.op .lt (.cons (.var 1) (.cons (.var 6) .nil))) (.cons (.set 2 (.var 5)) (.cons .brk .nil)) .nil) (.cons (.aug 1 .sub (.var 6)) .nil))))) .nil)) (.cons (.ret (.var 2)) .nil)))))
def f_seating_at : Fn := mkFn 2 7 c_seating_at
def c_seating_number : Sts := (.cons (.expr (.call "check_seating" (f_check_seating) (.cons (.var 0) (.cons (.var 1) .nil)))) (.cons (.par [3, 4] (.cons (.cst (.int 0)) (.cons (.op .len (.cons (.var 1) .nil)) .nil))) (.cons (.for_ (.name 2) (.rng1 (.var 4)) (.cons (.for_ (.name 5) (.rng1 (.op .idx (.cons (.var 1) (.cons (.var 2) .nil)))) (.cons (.aug 3 .add (.call "agreeing" (f_agreeing) (.cons (.var 0) (.cons (.op .add (.cons (.op .add (.cons (.op (.slc false true) (.cons (.var 1) (.cons (.var 2) .nil))) (.cons (.tup (.cons (.var 5) .nil)) .nil))) (.cons (.op .mul (.cons (.tup (.cons (.cst .none) .nil)) (.cons (.op .sub (.cons (.op .sub (.cons (.var 4) (.cons (.var 2) .nil))) (.cons (.cst (.int 1)) .nil))) .nil))) .nil))) .nil)))) .nil)) .nil)) (.cons (.ret (.var 3)) .nil))))
def f_seating_number : Fn := mkFn 2 6 c_seating_number
def c_least_loss : Sts := (.cons (.expr (.call "check_losses" (f_check_losses) (.cons (.var 0) (.cons (.var 1) .nil)))) (.cons (.ret (.op .idx (.cons (.call "passing" (f_passing) (.cons (.var 0) (.cons (.var 1) (.cons (.cst (.int 1)) .nil)))) (.cons (.cst (.int 0)) .nil)))) .nil))
def f_least_loss : Fn := mkFn 2 2 c_least_loss
def c_moved_bounds : Sts := (.cons (.expr (.call "check_flight" (f_check_flight) (.cons (.var 0) .nil))) (.cons (.ret (.call "bounds_of" (f_bounds_of) (.cons (.var 0) .nil))) .nil))
def f_moved_bounds : Fn := mkFn 1 1 c_moved_bounds
def c_nearest_order : Sts := (.cons (.expr (.call "check_both" (f_check_both) (.cons (.var 0) (.cons (.var 1) (.cons (.var 2) .nil))))) (.cons (.ret (.op .idx (.cons (.call "nearest" (f_nearest) (.cons (.var 0) (.cons (.var 1) (.cons (.var 2) .nil)))) (.cons (.cst (.int 1)) .nil)))) .nil))
def f_nearest_order : Fn := mkFn 3 3 c_nearest_order
def c_least_cost : Sts := (.cons (.expr (.call "check_costs" (f_check_costs) (.cons (.var 0) (.cons (.var 1) (.cons (.var 2) .nil))))) (.cons (.ret (.op .idx (.cons (.call "best_plan" (f_best_plan) (.cons (.var 0) (.cons (.var 1) (.cons (.var 2) .nil)))) (.cons (.cst (.int 0)) .nil)))) .nil))
def f_least_cost : Fn := mkFn 3 3 c_least_cost
def c_seats_to_add : Sts := (.cons (.expr (.call "check_costs" (f_check_costs) (.cons (.var 0) (.cons (.var 1) (.cons (.var 2) .nil))))) (.cons (.ret (.op .idx (.cons (.call "best_plan" (f_best_plan) (.cons (.var 0) (.cons (.var 1) (.cons (.var 2) .nil)))) (.cons (.cst (.int 1)) .nil)))) .nil))
def f_seats_to_add : Fn := mkFn 3 3 c_seats_to_add
def c_least_cost_v2 : Sts := (.cons (.expr (.call "check_costs" (f_check_costs_v2) (.cons (.var 0) (.cons (.var 1) (.cons (.var 2) .nil))))) (.cons (.ret (.op .idx (.cons (.call "best_plan" (f_best_plan) (.cons (.var 0) (.cons (.var 1) (.cons (.var 2) .nil)))) (.cons (.cst (.int 0)) .nil)))) .nil))
def f_least_cost_v2 : Fn := mkFn 3 3 c_least_cost_v2
def c_least_loss_v2 : Sts := (.cons (.expr (.call "check_losses" (f_check_losses_v2) (.cons (.var 0) (.cons (.var 1) .nil)))) (.cons (.ret (.op .idx (.cons (.call "passing" (f_passing) (.cons (.var 0) (.cons (.var 1) (.cons (.cst (.int 1)) .nil)))) (.cons (.cst (.int 0)) .nil)))) .nil))
def f_least_loss_v2 : Fn := mkFn 2 2 c_least_loss_v2
def c_moved_bounds_v2 : Sts := (.cons (.expr (.call "check_flight" (f_check_flight_v2) (.cons (.var 0) .nil))) (.cons (.ret (.call "bounds_of" (f_bounds_of) (.cons (.var 0) .nil))) .nil))
def f_moved_bounds_v2 : Fn := mkFn 1 1 c_moved_bounds_v2
def c_nearest_order_v2 : Sts := (.cons (.expr (.call "check_both" (f_check_both_v2) (.cons (.var 0) (.cons (.var 1) (.cons (.var 2) .nil))))) (.cons (.ret (.op .idx (.cons (.call "nearest" (f_nearest) (.cons (.var 0) (.cons (.var 1) (.cons (.var 2) .nil)))) (.cons (.cst (.int 1)) .nil)))) .nil))
def f_nearest_order_v2 : Fn := mkFn 3 3 c_nearest_order_v2
def c_one_class : Sts := (.cons (.par [3, 4] (.cons .dct0 (.cons .dct0 .nil))) (.cons (.for_ (.tup (.cons (.name 5) (.cons (.name 6) .nil))) (.seq (.var 0)) (.cons (.for_ (.name 7) (.rng1 (.op .add (.cons (.var 2) (.cons (.cst (.int 1)) .nil)))) (.cons (.set 8 (.op .mul (.cons (.op .idx (.cons (.var 0) (.cons (.tup (.cons (.var 5) (.cons (.var 6) .nil))) .nil))) (.cons (.call "choose" (f_choose) (.cons (.var 2) (.cons (.var 7) .nil))) .nil)))) (.cons (.set 9 (.tup (.cons (.op .mx2 (.cons (.cst (.int 0)) (.cons (.op .sub (.cons (.op .add (.cons (.var 5) (.cons (.var 7) .nil))) (.cons (.var 1) .nil))) .nil))) (.cons (.op .add (.cons (.var 6) (.cons (.var 7) .nil))) .nil)))) (.cons (.set 10 (.ite (.op .lt (.cons (.op .add (.cons (.var 5) (.cons (.var 7) .nil))) (.cons (.var 1) .nil))) (.var 3) (.var 4))) (.cons (.setI 10 (.var 9) (.op .add (.cons (.op .get2 (.cons (.var 10) (.cons (.var 9) (.cons (.cst (.int 0)) .nil)))) (.cons (.var 8) .nil)))) .nil))))) .nil)) (.cons (.ret (.tup (.cons (.var 3) (.cons (.var 4) .nil)))) .nil)))
def f_one_class : Fn := mkFn 3 11 c_one_class
def c_options : Sts := (.cons (.set 3 (.lst .nil)) (.cons (.for_ (.name 4) (.rng1 (.op .add (.cons (.op .len (.cons (.op .idx (.cons (.var 0) (.cons (.cst (.int 0)) .nil))) .nil)) (.cons (.cst (.int 1)) .nil)))) (.cons (.ifs (.op .isin (.cons (.op .idx (.cons (.var 1) (.cons (.var 2) .nil))) (.cons (.tup (.cons (.cst .none) (.cons (.var 4) .nil))) .nil))) (.cons (.ifs (.op .gt (.cons (.call "agreeing" (f_agreeing) (.cons (.var 0) (.cons (.op .add (.cons (.op .add (.cons (.op (.slc false true) (.cons (.var 1) (.cons (.var 2) .nil))) (.cons (.tup (.cons (.var 4) .nil)) .nil))) (.cons (.op (.slc true false) (.cons (.var 1) (.cons (.op .add (.cons (.var 2) (.cons (.cst (.int 1)) .nil))) .nil))) .nil))) .nil))) (.cons (.cst (.int 0)) .nil))) (.cons (.app 3 (.var 4)) .nil) .nil) .nil) .nil) .nil)) (.cons (.ret (.var 3)) .nil)))
def f_options : Fn := mkFn 3 5 c_options
def c_order_for_v2 : Sts := (.cons (.expr (.call "check_seating" (f_check_seating_v2) (.cons (.var 0) (.cons (.var 1) .nil)))) (.cons (.ret (.op .tuple (.cons (.comp (.seq (.op .sorted (.cons (.comp (.enum (.var 1)) [4, 5] (.tup (.cons (.name 4) (.cons (.name 5) .nil))) .nil (.tup (.cons (.var 5) (.cons (.var 4) .nil)))) .nil))) [2, 3] (.tup (.cons (.name 2) (.cons (.name 3) .nil))) .nil (.var 3)) .nil))) .nil))
def f_order_for_v2 : Fn := mkFn 2 6 c_order_for_v2
def c_orders_of : Sts := (.cons (.set 3 (.cst (.int 0))) (.cons (.for_ (.tup (.cons (.name 4) (.cons (.name 5) .nil))) (.seq (.var 0)) (.cons (.for_ (.name 6) (.rng1 (.op .add (.cons (.var 1) (.cons (.cst (.int 1)) .nil)))) (.cons (.set 7 (.op .add (.cons (.var 5) (.cons (.var 6) .nil)))) (.cons (.set 8 (.op .mul (.cons (.op .idx (.cons (.var 0) (.cons (.tup (.cons (.var 4) (.cons (.var 5) .nil))) .nil))) (.cons (.call "choose" (f_choose) (.cons (.var 1) (.cons (.var 6) .nil))) .nil)))) (.cons (.aug 3 .add (.op .mul (.cons (.op .mul (.cons (.var 8) (.cons (.call "factorial" (f_factorial) (.cons (.var 7) .nil)) .nil))) (.cons (.call "factorial" (f_factorial) (.cons (.op .sub (.cons (.op .sub (.cons (.var 2) (.cons (.cst (.int 1)) .nil))) (.cons (.var 7) .nil))) .nil)) .nil)))) .nil)))) .nil)) (.cons (.ret (.var 3)) .nil)))
def f_orders_of : Fn := mkFn 3 9 c_orders_of
def c_other_demands : Sts := (.cons (.set 2 (.call "demands_of" (f_demands_of) (.cons (.var 0) .nil))) (.cons (.augI 2 (.op .idx (.cons (.op .idx (.cons (.var 0) (.cons (.cst (.int 1)) .nil))) (.cons (.var 1) .nil))) .sub (.cst (.int 1))) (.cons (.ret (.var 2)) .nil)))
def f_other_demands : Fn := mkFn 2 3 c_other_demands
def c_places_for : Sts := (.cons (.expr (.call "check_flight" (f_check_flight) (.cons (.var 0) .nil))) (.cons (.ifs (.not (.call "is_between" (f_is_between) (.cons (.var 1) (.cons (.cst (.int 0)) (.cons (.op .sub (.cons (.op .len (.cons (.op .idx (.cons (.var 0) (.cons (.cst (.int 1)) .nil))) .nil)) (.cons (.cst (.int 1)) .nil))) .nil))))) (.cons (.raise "InvalidCustomer" (.cst (.str "invalid customer"))) .nil) .nil) (.cons (.ret (.call "options" (f_options) (.cons (.var 0) (.cons (.op .mul (.cons (.tup (.cons (.cst .none) .nil)) (.cons (.op .len (.cons (.op .idx (.cons (.var 0) (.cons (.cst (.int 1)) .nil))) .nil)) .nil))) (.cons (.var 1) .nil))))) .nil)))
def f_places_for : Fn := mkFn 2 2 c_places_for
def c_places_for_v2 : Sts := (.cons (.expr (.call "check_flight" (f_check_flight_v2) (.cons (.var 0) .nil))) (.cons (.ifs (.not (.call "is_between" (f_is_between) (.cons (.var 1) (.cons (.cst (.int 0)) (.cons (.op .sub (.cons (.op .len (.cons (.op .idx (.cons (.var 0) (.cons (.cst (.int 1)) .nil))) .nil)) (.cons (.cst (.int 1)) .nil))) .nil))))) (.cons (.raise "InvalidCustomer" (.cst (.str "invalid customer"))) .nil) .nil) (.cons (.ret (.call "options" (f_options) (.cons (.var 0) (.cons (.op .mul (.cons (.tup (.cons (.cst .none) .nil)) (.cons (.op .len (.cons (.op .idx (.cons (.var 0) (.cons (.cst (.int 1)) .nil))) .nil)) .nil))) (.cons (.var 1) .nil))))) .nil)))
def f_places_for_v2 : Fn := mkFn 2 2 c_places_for_v2
def c_with_number : Sts := (.cons (.ret (.op .add (.cons (.op .add (.cons (.op (.slc false true) (.cons (.var 0) (.cons (.var 1) .nil))) (.cons (.tup (.cons (.var 2) .nil)) .nil))) (.cons (.op (.slc true false) (.cons (.var 0) (.cons (.op .add (.cons (.var 1) (.cons (.cst (.int 1)) .nil))) .nil))) .nil)))) .nil)
def f_with_number : Fn := mkFn 3 3 c_with_number
def c_possible_capacities : Sts := (.cons (.expr (.call "check_question" (f_check_question) (.cons (.var 0) (.cons (.var 1) (.cons (.var 2) (.cons (.var 3) .nil)))))) (.cons (.set 4 (.lst .nil)) (.cons (.for_ (.name 5) (.rng1 (.op .add (.cons (.glb "MAX_VALUE" (.int 1000)) (.cons (.cst (.int 1)) .nil)))) (.cons (.ifs (.call "agrees" (f_agrees) (.cons (.call "with_number" (f_with_number) (.cons (.var 0) (.cons (.var 2) (.cons (.var 5) .nil)))) (.cons (.var 1) (.cons (.var 3) .nil)))) (.cons (.app 4 (.var 5)) .nil) .nil) .nil)) (.cons (.ret (.call "ends" (f_ends) (.cons (.var 4) .nil))) .nil))))
def f_possible_capacities : Fn := mkFn 4 6 c_possible_capacities
def c_possible_capacities_v2 : Sts := (.cons (.expr (.call "check_question" (f_check_question_v2) (.cons (.var 0) (.cons (.var 1) (.cons (.var 2) (.cons (.var 3) .nil)))))) (.cons (.set 4 (.lst .nil)) (.cons (.for_ (.name 5) (.rng1 (.op .add (.cons (.glb "MAX_VALUE" (.int 1000)) (.cons (.cst (.int 1)) .nil)))) (.cons (.ifs (.call "agrees" (f_agrees) (.cons (.call "with_number" (f_with_number) (.cons (.var 0) (.cons (.var 2) (.cons (.var 5) .nil)))) (.cons (.var 1) (.cons (.var 3) .nil)))) (.cons (.app 4 (.var 5)) .nil) .nil) .nil)) (.cons (.ret (.call "ends" (f_ends) (.cons (.var 4) .nil))) .nil))))
def f_possible_capacities_v2 : Fn := mkFn 4 6 c_possible_capacities_v2
def c_possible_demands : Sts := (.cons (.expr (.call "check_question" (f_check_question) (.cons (.var 0) (.cons (.var 1) (.cons (.var 2) (.cons (.var 3) .nil)))))) (.cons (.set 4 (.lst .nil)) (.cons (.for_ (.name 5) (.rng1 (.op .add (.cons (.glb "MAX_VALUE" (.int 1000)) (.cons (.cst (.int 1)) .nil)))) (.cons (.ifs (.call "agrees" (f_agrees) (.cons (.var 0) (.cons (.call "with_number" (f_with_number) (.cons (.var 1) (.cons (.var 2) (.cons (.var 5) .nil)))) (.cons (.var 3) .nil)))) (.cons (.app 4 (.var 5)) .nil) .nil) .nil)) (.cons (.ret (.call "ends" (f_ends) (.cons (.var 4) .nil))) .nil))))
def f_possible_demands : Fn := mkFn 4 6 c_possible_demands
def c_possible_demands_v2 : Sts := (.cons (.expr (.call "check_question" (f_check_question_v2) (.cons (.var 0) (.cons (.var 1) (.cons (.var 2) (.cons (.var 3) .nil)))))) (.cons (.set 4 (.lst .nil)) (.cons (.for_ (.name 5) (.rng1 (.op .add (.cons (.glb "MAX_VALUE" (.int 1000)) (.cons (.cst (.int 1)) .nil)))) (.cons (.ifs (.call "agrees" (f_agrees) (.cons (.var 0) (.cons (.call "with_number" (f_with_number) (.cons (.var 1) (.cons (.var 2) (.cons (.var 5) .nil)))) (.cons (.var 3) .nil)))) (.cons (.app 4 (.var 5)) .nil) .nil) .nil)) (.cons (.ret (.call "ends" (f_ends) (.cons (.var 4) .nil))) .nil))))
def f_possible_demands_v2 : Fn := mkFn 4 6 c_possible_demands_v2
def c_seat_all_v2 : Sts := (.cons (.expr (.call "check_flight" (f_check_flight_v2) (.cons (.var 0) .nil))) (.cons (.ifs (.not (.call "fits" (f_fits) (.cons (.var 0) (.cons (.var 1) .nil)))) (.cons (.raise "InvalidOrder" (.cst (.str "invalid order"))) .nil) .nil) (.cons (.ret (.call "places_in" (f_places_in) (.cons (.var 0) (.cons (.var 1) .nil)))) .nil)))
def f_seat_all_v2 : Fn := mkFn 2 2 c_seat_all_v2
def c_seating_at_v2 : Sts := (.cons (.expr (.call "check_flight" (f_check_flight_v2) (.cons (.var 0) .nil))) (.cons (.set 2 (.op .mul (.cons (.tup (.cons (.cst .none) .nil)) (.cons (.op .len (.cons (.op .idx (.cons (.var 0) (.cons (.cst (.int 1)) .nil))) .nil)) .nil)))) (.cons (.ifs (.not (.call "is_between" (f_is_between) (.cons (.var 1) (.cons (.cst (.int 0)) (.cons (.op .sub (.cons (.call "agreeing" (f_agreeing) (.cons (.var 0) (.cons (.var 2) .nil))) (.cons (.cst (.int 1)) .nil))) .nil))))) (.cons (.raise "InvalidNumber" (.cst (.str "there is no seating with this number"))) .nil) .nil) (.cons (.for_ (.name 3) (.rng1 (.op .len (.cons (.var 2) .nil))) (.cons (.for_ (.name 4) (.rng1 (.op .add (.cons (.op .len (.cons (.op .idx (.cons (.var 0) (.cons (.cst (.int 0)) .nil))) .nil)) (.cons (.cst (.int 1)) .nil)))) (.cons (.set 5 (.op .add (.cons (.op .add (.cons (.op (.slc false true) (.cons (.var 2) (.cons (.var 3) .nil))) (.cons (.tup (.cons (.var 4) .nil)) .nil))) (.cons (.op (.slc true false) (.cons (.var 2) (.cons (.op .add (.cons (.var 3) (.cons (.cst (.int 1)) .nil))) .nil))) .nil)))) (.cons (.set 6 (.call "agreeing" (f_agreeing) (.cons (.var 0) (.cons (.var 5) .nil)))) (.cons (.ifs (.op .lt (.cons (.var 1) (.cons (.var 6) .nil))) (.cons (.set 2 (.var 5)) (.cons .brk .nil)) .nil) (.cons (.aug 1 .sub (.var 6)) .nil))))) .nil)) (.cons (.ret (.var 2)) .nil)))))
def f_seating_at_v2 : Fn := mkFn 2 7 c_seating_at_v2
def c_seating_number_v2 : Sts := (.cons (.expr (.call "check_seating" (f_check_seating_v2) (.cons (.var 0) (.cons (.var 1) .nil)))) (.cons (.par [3, 4] (.cons (.cst (.int 0)) (.cons (.op .len (.cons (.var 1) .nil)) .nil))) (.cons (.for_ (.name 2) (.rng1 (.var 4)) (.cons (.for_ (.name 5) (.rng1 (.op .idx (.cons (.var 1) (.cons (.var 2) .nil)))) (.cons (.aug 3 .add (.call "agreeing" (f_agreeing) (.cons (.var 0) (.cons (.op .add (.cons (.op .add (.cons (.op (.slc false true) (.cons (.var 1) (.cons (.var 2) .nil))) (.cons (.tup (.cons (.var 5) .nil)) .nil))) (.cons (.op .mul (.cons (.tup (.cons (.cst .none) .nil)) (.cons (.op .sub (.cons (.op .sub (.cons (.var 4) (.cons (.var 2) .nil))) (.cons (.cst (.int 1)) .nil))) .nil))) .nil))) .nil)))) .nil)) .nil)) (.cons (.ret (.var 3)) .nil))))
def f_seating_number_v2 : Fn := mkFn 2 6 c_seating_number_v2
def c_seating_with_v2 : Sts := (.cons (.expr (.call "check_flight" (f_check_flight_v2) (.cons (.var 0) .nil))) (.cons (.ifs (.not (.call "can_move" (f_can_move) (.cons (.var 0) (.cons (.var 1) .nil)))) (.cons (.raise "InvalidSet" (.cst (.str "invalid set of moved customers"))) .nil) .nil) (.cons (.par [2, 3] (.cons (.op .list (.cons (.op .idx (.cons (.var 0) (.cons (.cst (.int 1)) .nil))) .nil)) (.cons (.lst .nil) .nil))) (.cons (.for_ (.tup (.cons (.name 4) (.cons (.name 5) .nil))) (.enum (.call "flows_in" (f_flows_in) (.cons (.var 0) .nil))) (.cons (.set 6 (.comp (.seq (.var 1)) [8] (.name 8) (.cons (.op .eq (.cons (.op .idx (.cons (.op .idx (.cons (.var 0) (.cons (.cst (.int 1)) .nil))) (.cons (.var 8) .nil))) (.cons (.var 4) .nil))) .nil) (.var 8))) (.cons (.set 7 (.op .add (.cons (.var 6) (.cons (.op (.slc false true) (.cons (.var 3) (.cons (.op .sub (.cons (.var 5) (.cons (.op .len (.cons (.var 6) .nil)) .nil))) .nil))) .nil)))) (.cons (.for_ (.name 8) (.seq (.op (.slc true false) (.cons (.var 3) (.cons (.op .sub (.cons (.var 5) (.cons (.op .len (.cons (.var 6) .nil)) .nil))) .nil)))) (.cons (.setI 2 (.var 8) (.var 4)) .nil)) (.cons (.for_ (.name 8) (.seq (.var 7)) (.cons (.setI 2 (.var 8) (.op .add (.cons (.var 4) (.cons (.cst (.int 1)) .nil)))) .nil)) (.cons (.set 3 (.var 7)) .nil)))))) (.cons (.ret (.op .tuple (.cons (.var 2) .nil))) .nil)))))
def f_seating_with_v2 : Fn := mkFn 2 9 c_seating_with_v2
def c_seats_to_add_v2 : Sts := (.cons (.expr (.call "check_costs" (f_check_costs_v2) (.cons (.var 0) (.cons (.var 1) (.cons (.var 2) .nil))))) (.cons (.ret (.op .idx (.cons (.call "best_plan" (f_best_plan) (.cons (.var 0) (.cons (.var 1) (.cons (.var 2) .nil)))) (.cons (.cst (.int 1)) .nil)))) .nil))
def f_seats_to_add_v2 : Fn := mkFn 3 3 c_seats_to_add_v2
def c_sure_places : Sts := (.cons (.expr (.call "check_list" (f_check_list) (.cons (.var 0) (.cons (.var 1) .nil)))) (.cons (.ifs (.op .eq (.cons (.call "agreeing" (f_agreeing) (.cons (.var 0) (.cons (.var 1) .nil))) (.cons (.cst (.int 0)) .nil))) (.cons (.raise "NoSeating" (.cst (.str "no seating agrees"))) .nil) .nil) (.cons (.set 2 (.lst .nil)) (.cons (.for_ (.name 3) (.rng1 (.op .len (.cons (.var 1) .nil))) (.cons (.set 4 (.call "options" (f_options) (.cons (.var 0) (.cons (.var 1) (.cons (.var 3) .nil))))) (.cons (.app 2 (.ite (.op .eq (.cons (.op .len (.cons (.var 4) .nil)) (.cons (.cst (.int 1)) .nil))) (.op .idx (.cons (.var 4) (.cons (.cst (.int 0)) .nil))) (.cst .none))) .nil))) (.cons (.ret (.op .tuple (.cons (.var 2) .nil))) .nil)))))
def f_sure_places : Fn := mkFn 2 5 c_sure_places
def c_sure_places_v2 : Sts := (.cons (.expr (.call "check_list" (f_check_list_v2) (.cons (.var 0) (.cons (.var 1) .nil)))) (.cons (.ifs (.op .eq (.cons (.call "agreeing" (f_agreeing) (.cons (.var 0) (.cons (.var 1) .nil))) (.cons (.cst (.int 0)) .nil))) (.cons (.raise "NoSeating" (.cst (.str "no seating agrees"))) .nil) .nil) (.cons (.set 2 (.lst .nil)) (.cons (.for_ (.name 3) (.rng1 (.op .len (.cons (.var 1) .nil))) (.cons (.set 4 (.call "options" (f_options) (.cons (.var 0) (.cons (.var 1) (.cons (.var 3) .nil))))) (.cons (.app 2 (.ite (.op .eq (.cons (.op .len (.cons (.var 4) .nil)) (.cons (.cst (.int 1)) .nil))) (.op .idx (.cons (.var 4) (.cons (.cst (.int 0)) .nil))) (.cst .none))) .nil))) (.cons (.ret (.op .tuple (.cons (.var 2) .nil))) .nil)))))
def f_sure_places_v2 : Fn := mkFn 2 5 c_sure_places_v2
def c_taken_v2 : Sts := (.cons (.expr (.call "check_flight" (f_check_flight_v2) (.cons (.var 0) .nil))) (.cons (.par [1, 2] (.cons (.cst (.int 0)) (.cons (.lst .nil) .nil))) (.cons (.for_ (.tup (.cons (.name 3) (.cons (.name 4) .nil))) (.zip (.cons (.call "demands_of" (f_demands_of) (.cons (.var 0) .nil)) (.cons (.call "flows_in" (f_flows_in) (.cons (.var 0) .nil)) .nil))) (.cons (.app 2 (.op .sub (.cons (.op .add (.cons (.var 1) (.cons (.var 3) .nil))) (.cons (.var 4) .nil)))) (.cons (.set 1 (.var 4)) .nil))) (.cons (.ret (.var 2)) .nil))))
def f_taken_v2 : Fn := mkFn 1 5 c_taken_v2
end DL
set_option linter.all false
set_option maxRecDepth 100000
namespace DL
open PySem (Str PyData)
def c_law_k21 : Sts := (.cons (.for_ (.name 1) (.seq (.op (.slc false true) (.cons (.op .add (.cons (.lst (.cons (.cst (.int 0)) .nil)) (.cons (.var 0) .nil))) (.cons (.cst (.int 10)) .nil)))) (.cons (.set 2 (.call "_law_source" (f__law_source) (.cons (.var 1) (.cons (.cst (.int 21)) .nil)))) (.cons (.set 3 (.callI "_law_flight" (f__law_flight) 2 (.cons (.cst (.int 5)) (.cons (.cst (.int 9)) .nil)))) (.cons (.set 4 (.op .tuple (.cons (.comp (.seq (.op .idx (.cons (.var 3) (.cons (.cst (.int 1)) .nil)))) [13] (.name 13) .nil (.callI "_law_draw" (f__law_draw) 2 (.cons (.cst (.int 101)) .nil))) .nil))) (.cons (.par [9, 10] (.cons (.callI "_law_draw" (f__law_draw) 2 (.cons (.cst (.int 200)) .nil)) (.cons (.op .add (.cons (.cst (.int 1)) (.cons (.callI "_law_draw" (f__law_draw) 2 (.cons (.cst (.int 9)) .nil)) .nil))) .nil))) (.cons (.set 5 (.op .sum (.cons (.call "flows" (f_flows) (.cons (.var 3) .nil)) .nil))) (.cons (.set 6 (.op .tuple (.cons (.comp (.seq (.var 4)) [14] (.name 14) .nil (.op .add (.cons (.var 14) (.cons (.var 9) .nil)))) .nil))) (.cons (.set 7 (.op .tuple (.cons (.comp (.seq (.var 4)) [14] (.name 14) .nil (.op .mul (.cons (.var 14) (.cons (.var 10) .nil)))) .nil))) (.cons (.par [11, 12] (.cons (.call "least_loss" (f_least_loss) (.cons (.var 3) (.cons (.var 4) .nil))) (.cons (.call "greatest_loss" (f_greatest_loss) (.cons (.var 3) (.cons (.var 4) .nil))) .nil))) (.cons (.ifs (.op .ne (.cons (.call "least_loss" (f_least_loss) (.cons (.var 3) (.cons (.var 6) .nil))) (.cons (.op .add (.cons (.var 11) (.cons (.op .mul (.cons (.var 9) (.cons (.var 5) .nil))) .nil))) .nil))) (.cons (.ret (.cst (.bool false))) .nil) .nil) (.cons (.ifs (.op .ne (.cons (.call "greatest_loss" (f_greatest_loss) (.cons (.var 3) (.cons (.var 6) .nil))) (.cons (.op .add (.cons (.var 12) (.cons (.op .mul (.cons (.var 9) (.cons (.var 5) .nil))) .nil))) .nil))) (.cons (.ret (.cst (.bool false))) .nil) .nil) (.cons (.ifs (.op .ne (.cons (.lst (.cons (.call "least_loss" (f_least_loss) (.cons (.var 3) (.cons (.var 7) .nil))) (.cons (.call "greatest_loss" (f_greatest_loss) (.cons (.var 3) (.cons (.var 7) .nil))) .nil))) (.cons (.lst (.cons (.op .mul (.cons (.var 11) (.cons (.var 10) .nil))) (.cons (.op .mul (.cons (.var 12) (.cons (.var 10) .nil))) .nil))) .nil))) (.cons (.ret (.cst (.bool false))) .nil) .nil) (.cons (.ifs (.op .ne (.cons (.call "_law_loss" (f__law_loss) (.cons (.var 3) (.cons (.var 4) (.cons (.call "cheapest" (f_cheapest) (.cons (.var 3) (.cons (.var 6) .nil))) .nil)))) (.cons (.var 11) .nil))) (.cons (.ret (.cst (.bool false))) .nil) .nil) (.cons (.ifs (.op .ne (.cons (.call "_law_loss" (f__law_loss) (.cons (.var 3) (.cons (.var 6) (.cons (.call "cheapest" (f_cheapest) (.cons (.var 3) (.cons (.var 4) .nil))) .nil)))) (.cons (.op .add (.cons (.var 11) (.cons (.op .mul (.cons (.var 9) (.cons (.var 5) .nil))) .nil))) .nil))) (.cons (.ret (.cst (.bool false))) .nil) .nil) (.cons (.set 8 (.op .mul (.cons (.tup (.cons (.var 9) .nil)) (.cons (.op .len (.cons (.var 4) .nil)) .nil)))) (.cons (.ifs (.or (.cons (.op .ne (.cons (.call "least_loss" (f_least_loss) (.cons (.var 3) (.cons (.var 8) .nil))) (.cons (.op .mul (.cons (.var 9) (.cons (.var 5) .nil))) .nil))) (.cons (.op .ne (.cons (.call "greatest_loss" (f_greatest_loss) (.cons (.var 3) (.cons (.var 8) .nil))) (.cons (.op .mul (.cons (.var 9) (.cons (.var 5) .nil))) .nil))) .nil))) (.cons (.ret (.cst (.bool false))) .nil) .nil) (.cons (.ifs (.op .ne (.cons (.call "least_loss" (f_least_loss) (.cons (.var 3) (.cons (.op .tuple (.cons (.comp (.seq (.var 4)) [14] (.name 14) .nil (.op .sub (.cons (.cst (.int 1000)) (.cons (.var 14) .nil)))) .nil)) .nil))) (.cons (.op .sub (.cons (.op .mul (.cons (.cst (.int 1000)) (.cons (.var 5) .nil))) (.cons (.var 12) .nil))) .nil))) (.cons (.ret (.cst (.bool false))) .nil) .nil) .nil))))))))))))))))) (.cons (.ret (.cst (.bool true))) .nil))
def f_law_k21 : Fn := mkFn 1 15 c_law_k21
end DL
set_option Elab.async false
set_option linter.all false
set_option maxRecDepth 100000
set_option maxHeartbeats 0
namespace K21
open PySem PySem.Spec PyProof.Rows L2 DL
def top (i : Nat) : Stmt := PySem.Challenge.pw_upgradeclasses_k21_whole_losses_raised_a.main.body.getD i (.Pass ⟨0, 0, 0, 0⟩)
abbrev FnP (K : PySem.W.Frag) (x : Str) (st : Stmt) (f : Addr) (fd : FuncData) : Prop := FunD K x x (defArgs st) (defBody st) (defScope st) [] [] f fd
section
variable {P : Program} {w : World} {K : PySem.W.Frag} {mg : Str → Option Value} {base : Heap} {f : Addr} {fd : FuncData}
theorem sc__law_source : FnScope ["cell", "turn"] ["cell", "turn"] (defScope (top 24)) := ⟨rfl, rfl, rfl, by decide +kernel, rfl, by decide +kernel, by decide +kernel⟩
theorem ok__law_source (F : FnP K "_law_source" (top 24) f fd) (gm : mg "_law_source" = some (.ref f)) (hblt : ∀ x ∈ bltNames, mg x = none)   : CalF P w K mg base 1 "_law_source" f__law_source := by
  refine ⟨2, ⟨f, fd, ["cell", "turn"], fn_snd (k := 0) F sc__law_source hblt (by decide +kernel) ?_, gm, F.kp, F.bindsN fun _ _ _ _ _ _ us hl => match us, hl with | [_, _], _ => rfl⟩, mkFn_bad⟩
  simp only [c__law_source, gSs, gS, gEs, gE, gI]
  repeat (first | exact trivial | apply And.intro)
theorem sc__law_draw : FnScope ["source", "size", "number", "drawn"] ["source", "size"] (defScope (top 25)) := ⟨rfl, rfl, rfl, by decide +kernel, rfl, by decide +kernel, by decide +kernel⟩
theorem ok__law_draw (F : FnP K "_law_draw" (top 25) f fd) (gm : mg "_law_draw" = some (.ref f)) (hblt : ∀ x ∈ bltNames, mg x = none)   : CalI P w K mg base 1 "_law_draw" f__law_draw := by
  refine ⟨2, ⟨f, fd, ["source", "size"], fn_sndI (k := 0) F sc__law_draw hblt (by decide +kernel) ?_, gm, F.kp, F.bindsN fun _ _ _ _ _ _ us hl => match us, hl with | [_, _], _ => rfl⟩, mkFnI_bad⟩
  simp only [c__law_draw, gSs, gS, gEs, gE, gI]
  repeat (first | exact trivial | apply And.intro)
theorem sc__law_choice : FnScope ["source", "items"] ["source", "items"] (defScope (top 26)) := ⟨rfl, rfl, rfl, by decide +kernel, rfl, by decide +kernel, by decide +kernel⟩
theorem ok__law_choice (F : FnP K "_law_choice" (top 26) f fd) (gm : mg "_law_choice" = some (.ref f)) (hblt : ∀ x ∈ bltNames, mg x = none) (h__law_draw : CalI P w K mg base 1 "_law_draw" (f__law_draw))  : CalI P w K mg base 2 "_law_choice" f__law_choice := by
  refine ⟨2, ⟨f, fd, ["source", "items"], fn_sndI (k := 1) F sc__law_choice hblt (by decide +kernel) ?_, gm, F.kp, F.bindsN fun _ _ _ _ _ _ us hl => match us, hl with | [_, _], _ => rfl⟩, mkFnI_bad⟩
  simp only [c__law_choice, gSs, gS, gEs, gE, gI]
  repeat (first | exact trivial | exact h__law_draw.mono (by omega) | apply And.intro)
theorem sc__law_flight : FnScope ["source", "classes", "customers", "wide", "capacities", "top", "count", "many", "number", "customer"] ["source", "classes", "customers"] (defScope (top 27)) := ⟨rfl, rfl, rfl, by decide +kernel, rfl, by decide +kernel, by decide +kernel⟩
theorem ok__law_flight (F : FnP K "_law_flight" (top 27) f fd) (gm : mg "_law_flight" = some (.ref f)) (hblt : ∀ x ∈ bltNames, mg x = none) (h__law_choice : CalI P w K mg base 2 "_law_choice" (f__law_choice)) (h__law_draw : CalI P w K mg base 1 "_law_draw" (f__law_draw))  : CalI P w K mg base 3 "_law_flight" f__law_flight := by
  refine ⟨3, ⟨f, fd, ["source", "classes", "customers"], fn_sndI (k := 2) F sc__law_flight hblt (by decide +kernel) ?_, gm, F.kp, F.bindsN fun _ _ _ _ _ _ us hl => match us, hl with | [_, _, _], _ => rfl⟩, mkFnI_bad⟩
  simp only [c__law_flight, gSs, gS, gEs, gE, gI]
  repeat (first | exact trivial | exact h__law_choice.mono (by omega) | exact h__law_draw.mono (by omega) | apply And.intro)
theorem sc_is_between : FnScope ["value", "low", "high"] ["value", "low", "high"] (defScope (top 8)) := ⟨rfl, rfl, rfl, by decide +kernel, rfl, by decide +kernel, by decide +kernel⟩
theorem ok_is_between (F : FnP K "is_between" (top 8) f fd) (gm : mg "is_between" = some (.ref f)) (hblt : ∀ x ∈ bltNames, mg x = none)   : CalF P w K mg base 1 "is_between" f_is_between := by
  refine ⟨3, ⟨f, fd, ["value", "low", "high"], fn_snd (k := 0) F sc_is_between hblt (by decide +kernel) ?_, gm, F.kp, F.bindsN fun _ _ _ _ _ _ us hl => match us, hl with | [_, _, _], _ => rfl⟩, mkFn_bad⟩
  simp only [c_is_between, gSs, gS, gEs, gE, gI]
  repeat (first | exact trivial | apply And.intro)
theorem sc_are_capacities : FnScope ["value", "seats"] ["value"] (defScope (top 9)) := ⟨rfl, rfl, rfl, by decide +kernel, rfl, by decide +kernel, by decide +kernel⟩
theorem ok_are_capacities (F : FnP K "are_capacities" (top 9) f fd) (gm : mg "are_capacities" = some (.ref f)) (hblt : ∀ x ∈ bltNames, mg x = none) (h_is_between : CalF P w K mg base 1 "is_between" (f_is_between)) (g_MAX_CLASSES : GlD K mg "MAX_CLASSES" (.int 5)) (g_MAX_SEATS : GlD K mg "MAX_SEATS" (.int 8)) : CalF P w K mg base 2 "are_capacities" f_are_capacities := by
  refine ⟨1, ⟨f, fd, ["value"], fn_snd (k := 1) F sc_are_capacities hblt (by decide +kernel) ?_, gm, F.kp, F.bindsN fun _ _ _ _ _ _ us hl => match us, hl with | [_], _ => rfl⟩, mkFn_bad⟩
  simp only [c_are_capacities, gSs, gS, gEs, gE, gI]
  repeat (first | exact trivial | exact h_is_between.mono (by omega) | exact g_MAX_CLASSES | exact g_MAX_SEATS | apply And.intro)
theorem sc_is_flight : FnScope ["value", "number"] ["value"] (defScope (top 10)) := ⟨rfl, rfl, rfl, by decide +kernel, rfl, by decide +kernel, by decide +kernel⟩
theorem ok_is_flight (F : FnP K "is_flight" (top 10) f fd) (gm : mg "is_flight" = some (.ref f)) (hblt : ∀ x ∈ bltNames, mg x = none) (h_are_capacities : CalF P w K mg base 2 "are_capacities" (f_are_capacities)) (h_is_between : CalF P w K mg base 1 "is_between" (f_is_between)) (g_MAX_CUSTOMERS : GlD K mg "MAX_CUSTOMERS" (.int 9)) : CalF P w K mg base 3 "is_flight" f_is_flight := by
  refine ⟨1, ⟨f, fd, ["value"], fn_snd (k := 2) F sc_is_flight hblt (by decide +kernel) ?_, gm, F.kp, F.bindsN fun _ _ _ _ _ _ us hl => match us, hl with | [_], _ => rfl⟩, mkFn_bad⟩
  simp only [c_is_flight, gSs, gS, gEs, gE, gI]
  repeat (first | exact trivial | exact h_are_capacities.mono (by omega) | exact h_is_between.mono (by omega) | exact g_MAX_CUSTOMERS | apply And.intro)
theorem sc_check_flight : FnScope ["flight"] ["flight"] (defScope (top 11)) := ⟨rfl, rfl, rfl, by decide +kernel, rfl, by decide +kernel, by decide +kernel⟩
theorem ok_check_flight (F : FnP K "check_flight" (top 11) f fd) (gm : mg "check_flight" = some (.ref f)) (hblt : ∀ x ∈ bltNames, mg x = none) (h_is_flight : CalF P w K mg base 3 "is_flight" (f_is_flight)) (g_InvalidFlight : GlD K mg "InvalidFlight" .none) : CalF P w K mg base 4 "check_flight" f_check_flight := by
  refine ⟨1, ⟨f, fd, ["flight"], fn_snd (k := 3) F sc_check_flight hblt (by decide +kernel) ?_, gm, F.kp, F.bindsN fun _ _ _ _ _ _ us hl => match us, hl with | [_], _ => rfl⟩, mkFn_bad⟩
  simp only [c_check_flight, gSs, gS, gEs, gE, gI]
  repeat (first | exact trivial | exact h_is_flight.mono (by omega) | exact g_InvalidFlight | apply And.intro)
theorem sc_flows_for : FnScope ["capacities", "demands", "found", "before", "seats", "demand"] ["capacities", "demands"] (defScope (top 12)) := ⟨rfl, rfl, rfl, by decide +kernel, rfl, by decide +kernel, by decide +kernel⟩
theorem ok_flows_for (F : FnP K "flows_for" (top 12) f fd) (gm : mg "flows_for" = some (.ref f)) (hblt : ∀ x ∈ bltNames, mg x = none)   : CalF P w K mg base 1 "flows_for" f_flows_for := by
  refine ⟨2, ⟨f, fd, ["capacities", "demands"], fn_snd (k := 0) F sc_flows_for hblt (by decide +kernel) ?_, gm, F.kp, F.bindsN fun _ _ _ _ _ _ us hl => match us, hl with | [_, _], _ => rfl⟩, mkFn_bad⟩
  simp only [c_flows_for, gSs, gS, gEs, gE, gI]
  repeat (first | exact trivial | apply And.intro)
theorem sc_demands_of : FnScope ["flight", "number"] ["flight"] (defScope (top 13)) := ⟨rfl, rfl, rfl, by decide +kernel, rfl, by decide +kernel, by decide +kernel⟩
theorem ok_demands_of (F : FnP K "demands_of" (top 13) f fd) (gm : mg "demands_of" = some (.ref f)) (hblt : ∀ x ∈ bltNames, mg x = none)   : CalF P w K mg base 1 "demands_of" f_demands_of := by
  refine ⟨1, ⟨f, fd, ["flight"], fn_snd (k := 0) F sc_demands_of hblt (by decide +kernel) ?_, gm, F.kp, F.bindsN fun _ _ _ _ _ _ us hl => match us, hl with | [_], _ => rfl⟩, mkFn_bad⟩
  simp only [c_demands_of, gSs, gS, gEs, gE, gI]
  repeat (first | exact trivial | apply And.intro)
theorem sc_flows_in : FnScope ["flight"] ["flight"] (defScope (top 14)) := ⟨rfl, rfl, rfl, by decide +kernel, rfl, by decide +kernel, by decide +kernel⟩
theorem ok_flows_in (F : FnP K "flows_in" (top 14) f fd) (gm : mg "flows_in" = some (.ref f)) (hblt : ∀ x ∈ bltNames, mg x = none) (h_demands_of : CalF P w K mg base 1 "demands_of" (f_demands_of)) (h_flows_for : CalF P w K mg base 1 "flows_for" (f_flows_for))  : CalF P w K mg base 2 "flows_in" f_flows_in := by
  refine ⟨1, ⟨f, fd, ["flight"], fn_snd (k := 1) F sc_flows_in hblt (by decide +kernel) ?_, gm, F.kp, F.bindsN fun _ _ _ _ _ _ us hl => match us, hl with | [_], _ => rfl⟩, mkFn_bad⟩
  simp only [c_flows_in, gSs, gS, gEs, gE, gI]
  repeat (first | exact trivial | exact h_demands_of.mono (by omega) | exact h_flows_for.mono (by omega) | apply And.intro)
theorem sc_flows : FnScope ["flight"] ["flight"] (defScope (top 15)) := ⟨rfl, rfl, rfl, by decide +kernel, rfl, by decide +kernel, by decide +kernel⟩
theorem ok_flows (F : FnP K "flows" (top 15) f fd) (gm : mg "flows" = some (.ref f)) (hblt : ∀ x ∈ bltNames, mg x = none) (h_check_flight : CalF P w K mg base 4 "check_flight" (f_check_flight)) (h_flows_in : CalF P w K mg base 2 "flows_in" (f_flows_in))  : CalF P w K mg base 5 "flows" f_flows := by
  refine ⟨1, ⟨f, fd, ["flight"], fn_snd (k := 4) F sc_flows hblt (by decide +kernel) ?_, gm, F.kp, F.bindsN fun _ _ _ _ _ _ us hl => match us, hl with | [_], _ => rfl⟩, mkFn_bad⟩
  simp only [c_flows, gSs, gS, gEs, gE, gI]
  repeat (first | exact trivial | exact h_check_flight.mono (by omega) | exact h_flows_in.mono (by omega) | apply And.intro)
theorem sc_check_losses : FnScope ["flight", "losses", "loss"] ["flight", "losses"] (defScope (top 18)) := ⟨rfl, rfl, rfl, by decide +kernel, rfl, by decide +kernel, by decide +kernel⟩
theorem ok_check_losses (F : FnP K "check_losses" (top 18) f fd) (gm : mg "check_losses" = some (.ref f)) (hblt : ∀ x ∈ bltNames, mg x = none) (h_check_flight : CalF P w K mg base 4 "check_flight" (f_check_flight)) (h_is_between : CalF P w K mg base 1 "is_between" (f_is_between)) (g_MAX_LOSS : GlD K mg "MAX_LOSS" (.int 1000)) (g_InvalidLosses : GlD K mg "InvalidLosses" .none) : CalF P w K mg base 5 "check_losses" f_check_losses := by
  refine ⟨2, ⟨f, fd, ["flight", "losses"], fn_snd (k := 4) F sc_check_losses hblt (by decide +kernel) ?_, gm, F.kp, F.bindsN fun _ _ _ _ _ _ us hl => match us, hl with | [_, _], _ => rfl⟩, mkFn_bad⟩
  simp only [c_check_losses, gSs, gS, gEs, gE, gI]
  repeat (first | exact trivial | exact h_check_flight.mono (by omega) | exact h_is_between.mono (by omega) | exact g_MAX_LOSS | exact g_InvalidLosses | apply And.intro)
theorem sc_passing : FnScope ["flight", "losses", "sign", "places", "waiting", "total", "number", "flow", "rows", "customer", "loss", "booked"] ["flight", "losses", "sign"] (defScope (top 19)) := ⟨rfl, rfl, rfl, by decide +kernel, rfl, by decide +kernel, by decide +kernel⟩
theorem ok_passing (F : FnP K "passing" (top 19) f fd) (gm : mg "passing" = some (.ref f)) (hblt : ∀ x ∈ bltNames, mg x = none) (h_flows_in : CalF P w K mg base 2 "flows_in" (f_flows_in))  : CalF P w K mg base 3 "passing" f_passing := by
  refine ⟨3, ⟨f, fd, ["flight", "losses", "sign"], fn_snd (k := 2) F sc_passing hblt (by decide +kernel) ?_, gm, F.kp, F.bindsN fun _ _ _ _ _ _ us hl => match us, hl with | [_, _, _], _ => rfl⟩, mkFn_bad⟩
  simp only [c_passing, gSs, gS, gEs, gE, gI]
  repeat (first | exact trivial | exact h_flows_in.mono (by omega) | apply And.intro)
theorem sc_least_loss : FnScope ["flight", "losses"] ["flight", "losses"] (defScope (top 20)) := ⟨rfl, rfl, rfl, by decide +kernel, rfl, by decide +kernel, by decide +kernel⟩
theorem ok_least_loss (F : FnP K "least_loss" (top 20) f fd) (gm : mg "least_loss" = some (.ref f)) (hblt : ∀ x ∈ bltNames, mg x = none) (h_check_losses : CalF P w K mg base 5 "check_losses" (f_check_losses)) (h_passing : CalF P w K mg base 3 "passing" (f_passing))  : CalF P w K mg base 6 "least_loss" f_least_loss := by
  refine ⟨2, ⟨f, fd, ["flight", "losses"], fn_snd (k := 5) F sc_least_loss hblt (by decide +kernel) ?_, gm, F.kp, F.bindsN fun _ _ _ _ _ _ us hl => match us, hl with | [_, _], _ => rfl⟩, mkFn_bad⟩
  simp only [c_least_loss, gSs, gS, gEs, gE, gI]
  repeat (first | exact trivial | exact h_check_losses.mono (by omega) | exact h_passing.mono (by omega) | apply And.intro)
theorem sc_greatest_loss : FnScope ["flight", "losses"] ["flight", "losses"] (defScope (top 21)) := ⟨rfl, rfl, rfl, by decide +kernel, rfl, by decide +kernel, by decide +kernel⟩
theorem ok_greatest_loss (F : FnP K "greatest_loss" (top 21) f fd) (gm : mg "greatest_loss" = some (.ref f)) (hblt : ∀ x ∈ bltNames, mg x = none) (h_check_losses : CalF P w K mg base 5 "check_losses" (f_check_losses)) (h_passing : CalF P w K mg base 3 "passing" (f_passing))  : CalF P w K mg base 6 "greatest_loss" f_greatest_loss := by
  refine ⟨2, ⟨f, fd, ["flight", "losses"], fn_snd (k := 5) F sc_greatest_loss hblt (by decide +kernel) ?_, gm, F.kp, F.bindsN fun _ _ _ _ _ _ us hl => match us, hl with | [_, _], _ => rfl⟩, mkFn_bad⟩
  simp only [c_greatest_loss, gSs, gS, gEs, gE, gI]
  repeat (first | exact trivial | exact h_check_losses.mono (by omega) | exact h_passing.mono (by omega) | apply And.intro)
theorem sc__law_loss : FnScope ["flight", "losses", "places", "loss", "place", "one"] ["flight", "losses", "places"] (defScope (top 28)) := ⟨rfl, rfl, rfl, by decide +kernel, rfl, by decide +kernel, by decide +kernel⟩
theorem ok__law_loss (F : FnP K "_law_loss" (top 28) f fd) (gm : mg "_law_loss" = some (.ref f)) (hblt : ∀ x ∈ bltNames, mg x = none)   : CalF P w K mg base 1 "_law_loss" f__law_loss := by
  refine ⟨3, ⟨f, fd, ["flight", "losses", "places"], fn_snd (k := 0) F sc__law_loss hblt (by decide +kernel) ?_, gm, F.kp, F.bindsN fun _ _ _ _ _ _ us hl => match us, hl with | [_, _, _], _ => rfl⟩, mkFn_bad⟩
  simp only [c__law_loss, gSs, gS, gEs, gE, gI]
  repeat (first | exact trivial | apply And.intro)
theorem sc_cheapest : FnScope ["flight", "losses"] ["flight", "losses"] (defScope (top 22)) := ⟨rfl, rfl, rfl, by decide +kernel, rfl, by decide +kernel, by decide +kernel⟩
theorem ok_cheapest (F : FnP K "cheapest" (top 22) f fd) (gm : mg "cheapest" = some (.ref f)) (hblt : ∀ x ∈ bltNames, mg x = none) (h_check_losses : CalF P w K mg base 5 "check_losses" (f_check_losses)) (h_passing : CalF P w K mg base 3 "passing" (f_passing))  : CalF P w K mg base 6 "cheapest" f_cheapest := by
  refine ⟨2, ⟨f, fd, ["flight", "losses"], fn_snd (k := 5) F sc_cheapest hblt (by decide +kernel) ?_, gm, F.kp, F.bindsN fun _ _ _ _ _ _ us hl => match us, hl with | [_, _], _ => rfl⟩, mkFn_bad⟩
  simp only [c_cheapest, gSs, gS, gEs, gE, gI]
  repeat (first | exact trivial | exact h_check_losses.mono (by omega) | exact h_passing.mono (by omega) | apply And.intro)
theorem sc_law : FnScope ["script", "cell", "source", "flight", "losses", "passings", "raised", "larger", "same", "more", "factor", "low", "high", "customer", "loss"] ["script"] (defScope (top 29)) := ⟨rfl, rfl, rfl, by decide +kernel, rfl, by decide +kernel, by decide +kernel⟩
theorem ok_law (F : FnP K "law" (top 29) f fd) (gm : mg "law" = some (.ref f)) (hblt : ∀ x ∈ bltNames, mg x = none) (h__law_draw : CalI P w K mg base 1 "_law_draw" (f__law_draw)) (h__law_flight : CalI P w K mg base 3 "_law_flight" (f__law_flight)) (h__law_loss : CalF P w K mg base 1 "_law_loss" (f__law_loss)) (h__law_source : CalF P w K mg base 1 "_law_source" (f__law_source)) (h_cheapest : CalF P w K mg base 6 "cheapest" (f_cheapest)) (h_flows : CalF P w K mg base 5 "flows" (f_flows)) (h_greatest_loss : CalF P w K mg base 6 "greatest_loss" (f_greatest_loss)) (h_least_loss : CalF P w K mg base 6 "least_loss" (f_least_loss))  : CalF P w K mg base 7 "law" f_law_k21 := by
  refine ⟨1, ⟨f, fd, ["script"], fn_snd (k := 6) F sc_law hblt (by decide +kernel) ?_, gm, F.kp, F.bindsN fun _ _ _ _ _ _ us hl => match us, hl with | [_], _ => rfl⟩, mkFn_bad⟩
  simp only [c_law_k21, gSs, gS, gEs, gE, gI]
  repeat (first | exact trivial | exact h__law_draw.mono (by omega) | exact h__law_flight.mono (by omega) | exact h__law_loss.mono (by omega) | exact h__law_source.mono (by omega) | exact h_cheapest.mono (by omega) | exact h_flows.mono (by omega) | exact h_greatest_loss.mono (by omega) | exact h_least_loss.mono (by omega) | apply And.intro)
end
def dd (x : String) (i : Nat) : He.DefD := ⟨(Str.ofString x, none), Str.ofString x, Str.ofString x, defArgs (top i), defBody (top i), defScope (top i), [], []⟩
def fn : List He.DefD := [dd "_law_source" 24, dd "_law_draw" 25, dd "_law_choice" 26, dd "_law_flight" 27, dd "is_between" 8, dd "are_capacities" 9, dd "is_flight" 10, dd "check_flight" 11, dd "flows_for" 12, dd "demands_of" 13, dd "flows_in" 14, dd "flows" 15, dd "check_losses" 18, dd "passing" 19, dd "least_loss" 20, dd "greatest_loss" 21, dd "_law_loss" 28, dd "cheapest" 22, dd "law" 29]
def fa : List He.Fa := [.glo "_law_source", .glo "_law_draw", .glo "_law_choice", .glo "_law_flight", .glo "is_between", .glo "are_capacities", .glo "is_flight", .glo "check_flight", .glo "flows_for", .glo "demands_of", .glo "flows_in", .glo "flows", .glo "check_losses", .glo "passing", .glo "least_loss", .glo "greatest_loss", .glo "_law_loss", .glo "cheapest", .glo "law", .free "len", .free "list", .free "tuple", .free "int", .free "str", .free "all", .free "any", .free "sum", .free "min", .free "max", .free "isinstance", .free "bool", .free "range", .free "enumerate", .free "zip", .free "sorted", .free "set", .free "dict", .exc "InvalidFlight", .exc "InvalidLosses", .int "MAX_CLASSES" 5, .int "MAX_CUSTOMERS" 9, .int "MAX_LOSS" 1000, .int "MAX_SEATS" 8, .glo "InvalidFlight", .glo "InvalidLosses"]
abbrev R : PySem.W.OpenRow := PySem.W.OpenLaw.row PySem.Challenge.rw_upgradeclasses_k21_whole_losses_raised_a
abbrev hk : PySem.W.Hook := He.hookD 4 fa fn
def ob (s : PySem.W.SharedT) : He.AlD := He.obsDG 4 fa fn (HandSHeadRun.getT s)
theorem ob_eq (s : PySem.W.SharedT) : ob s = hk.obs s.abs := He.obsDG_eq (HandSHeadRun.getT_eq s)
abbrev LO : List Str := ["__name__", "ClassError", "InvalidFlight", "InvalidLosses", "MAX_CLASSES", "MAX_SEATS", "MAX_CUSTOMERS", "is_between", "are_capacities", "is_flight", "check_flight", "flows_for", "demands_of", "flows_in", "flows", "MAX_LOSS", "check_losses", "passing", "least_loss", "greatest_loss", "cheapest", "_law_source", "_law_draw", "_law_choice", "_law_flight", "_law_loss"]
theorem run (w : World) : HandSHeadRun.RunEq R (PySem.W.view R.prog [29]) hk ob 4000 LO w := by
  intro os
  kernel_rfl
theorem facts {P : Program} {w : World} {K : PySem.W.Frag} {h : Heap} {mg : Str → Option Value} {f : Addr} (X : K.In h) (G : h.Ns mainGlobals mg) (hfa : mg ("law" : Str) = some (.ref f)) (c : He.SaysD fa fn K) :
    ∃ fd : FuncData, (∀ (s : Shared) (v : Value), BindsTo s fd ⟨[v], []⟩ [("script", v)]) ∧ ∀ base : Heap, K.In base → base.Ns mainGlobals mg → FnOk P w K mg base (L2.CX P w) 7 f fd ["script"] (spF K w mg 1 f_law_k21) := by
  obtain ⟨fd__law_source, F__law_source⟩ := c.def_ 0 (d := dd "_law_source" 24) rfl
  have m__law_source := He.glo_ok X G (c.fact 0 (f := .glo "_law_source") rfl)
  obtain ⟨fd__law_draw, F__law_draw⟩ := c.def_ 1 (d := dd "_law_draw" 25) rfl
  have m__law_draw := He.glo_ok X G (c.fact 1 (f := .glo "_law_draw") rfl)
  obtain ⟨fd__law_choice, F__law_choice⟩ := c.def_ 2 (d := dd "_law_choice" 26) rfl
  have m__law_choice := He.glo_ok X G (c.fact 2 (f := .glo "_law_choice") rfl)
  obtain ⟨fd__law_flight, F__law_flight⟩ := c.def_ 3 (d := dd "_law_flight" 27) rfl
  have m__law_flight := He.glo_ok X G (c.fact 3 (f := .glo "_law_flight") rfl)
  obtain ⟨fd_is_between, F_is_between⟩ := c.def_ 4 (d := dd "is_between" 8) rfl
  have m_is_between := He.glo_ok X G (c.fact 4 (f := .glo "is_between") rfl)
  obtain ⟨fd_are_capacities, F_are_capacities⟩ := c.def_ 5 (d := dd "are_capacities" 9) rfl
  have m_are_capacities := He.glo_ok X G (c.fact 5 (f := .glo "are_capacities") rfl)
  obtain ⟨fd_is_flight, F_is_flight⟩ := c.def_ 6 (d := dd "is_flight" 10) rfl
  have m_is_flight := He.glo_ok X G (c.fact 6 (f := .glo "is_flight") rfl)
  obtain ⟨fd_check_flight, F_check_flight⟩ := c.def_ 7 (d := dd "check_flight" 11) rfl
  have m_check_flight := He.glo_ok X G (c.fact 7 (f := .glo "check_flight") rfl)
  obtain ⟨fd_flows_for, F_flows_for⟩ := c.def_ 8 (d := dd "flows_for" 12) rfl
  have m_flows_for := He.glo_ok X G (c.fact 8 (f := .glo "flows_for") rfl)
  obtain ⟨fd_demands_of, F_demands_of⟩ := c.def_ 9 (d := dd "demands_of" 13) rfl
  have m_demands_of := He.glo_ok X G (c.fact 9 (f := .glo "demands_of") rfl)
  obtain ⟨fd_flows_in, F_flows_in⟩ := c.def_ 10 (d := dd "flows_in" 14) rfl
  have m_flows_in := He.glo_ok X G (c.fact 10 (f := .glo "flows_in") rfl)
  obtain ⟨fd_flows, F_flows⟩ := c.def_ 11 (d := dd "flows" 15) rfl
  have m_flows := He.glo_ok X G (c.fact 11 (f := .glo "flows") rfl)
  obtain ⟨fd_check_losses, F_check_losses⟩ := c.def_ 12 (d := dd "check_losses" 18) rfl
  have m_check_losses := He.glo_ok X G (c.fact 12 (f := .glo "check_losses") rfl)
  obtain ⟨fd_passing, F_passing⟩ := c.def_ 13 (d := dd "passing" 19) rfl
  have m_passing := He.glo_ok X G (c.fact 13 (f := .glo "passing") rfl)
  obtain ⟨fd_least_loss, F_least_loss⟩ := c.def_ 14 (d := dd "least_loss" 20) rfl
  have m_least_loss := He.glo_ok X G (c.fact 14 (f := .glo "least_loss") rfl)
  obtain ⟨fd_greatest_loss, F_greatest_loss⟩ := c.def_ 15 (d := dd "greatest_loss" 21) rfl
  have m_greatest_loss := He.glo_ok X G (c.fact 15 (f := .glo "greatest_loss") rfl)
  obtain ⟨fd__law_loss, F__law_loss⟩ := c.def_ 16 (d := dd "_law_loss" 28) rfl
  have m__law_loss := He.glo_ok X G (c.fact 16 (f := .glo "_law_loss") rfl)
  obtain ⟨fd_cheapest, F_cheapest⟩ := c.def_ 17 (d := dd "cheapest" 22) rfl
  have m_cheapest := He.glo_ok X G (c.fact 17 (f := .glo "cheapest") rfl)
  obtain ⟨fd_law, F_law⟩ := c.def_ 18 (d := dd "law" 29) rfl
  have m_law := He.glo_ok X G (c.fact 18 (f := .glo "law") rfl)
  have hblt : ∀ x ∈ bltNames, mg x = none := by
    intro x hx
    simp only [bltNames, List.mem_cons, List.not_mem_nil, or_false] at hx
    rcases hx with rfl | rfl | rfl | rfl | rfl | rfl | rfl | rfl | rfl | rfl | rfl | rfl | rfl | rfl | rfl | rfl | rfl | rfl
    · exact He.free_ok X G (c.fact 19 (f := .free "len") rfl)
    · exact He.free_ok X G (c.fact 20 (f := .free "list") rfl)
    · exact He.free_ok X G (c.fact 21 (f := .free "tuple") rfl)
    · exact He.free_ok X G (c.fact 22 (f := .free "int") rfl)
    · exact He.free_ok X G (c.fact 23 (f := .free "str") rfl)
    · exact He.free_ok X G (c.fact 24 (f := .free "all") rfl)
    · exact He.free_ok X G (c.fact 25 (f := .free "any") rfl)
    · exact He.free_ok X G (c.fact 26 (f := .free "sum") rfl)
    · exact He.free_ok X G (c.fact 27 (f := .free "min") rfl)
    · exact He.free_ok X G (c.fact 28 (f := .free "max") rfl)
    · exact He.free_ok X G (c.fact 29 (f := .free "isinstance") rfl)
    · exact He.free_ok X G (c.fact 30 (f := .free "bool") rfl)
    · exact He.free_ok X G (c.fact 31 (f := .free "range") rfl)
    · exact He.free_ok X G (c.fact 32 (f := .free "enumerate") rfl)
    · exact He.free_ok X G (c.fact 33 (f := .free "zip") rfl)
    · exact He.free_ok X G (c.fact 34 (f := .free "sorted") rfl)
    · exact He.free_ok X G (c.fact 35 (f := .free "set") rfl)
    · exact He.free_ok X G (c.fact 36 (f := .free "dict") rfl)
  have g_InvalidFlight : GlD K mg "InvalidFlight" .none := .inr ⟨rfl, ⟨_, He.glo_ok X G (c.fact 43 (f := .glo "InvalidFlight") rfl), He.exc_ok (c.fact 37 (f := .exc "InvalidFlight") rfl)⟩⟩
  have g_InvalidLosses : GlD K mg "InvalidLosses" .none := .inr ⟨rfl, ⟨_, He.glo_ok X G (c.fact 44 (f := .glo "InvalidLosses") rfl), He.exc_ok (c.fact 38 (f := .exc "InvalidLosses") rfl)⟩⟩
  have g_MAX_CLASSES : GlD K mg "MAX_CLASSES" (.int 5) := let ⟨t, h⟩ := He.int_ok X G (c.fact 39 (f := .int "MAX_CLASSES" 5) rfl); Or.inl ⟨_, t, rfl, h⟩
  have g_MAX_CUSTOMERS : GlD K mg "MAX_CUSTOMERS" (.int 9) := let ⟨t, h⟩ := He.int_ok X G (c.fact 40 (f := .int "MAX_CUSTOMERS" 9) rfl); Or.inl ⟨_, t, rfl, h⟩
  have g_MAX_LOSS : GlD K mg "MAX_LOSS" (.int 1000) := let ⟨t, h⟩ := He.int_ok X G (c.fact 41 (f := .int "MAX_LOSS" 1000) rfl); Or.inl ⟨_, t, rfl, h⟩
  have g_MAX_SEATS : GlD K mg "MAX_SEATS" (.int 8) := let ⟨t, h⟩ := He.int_ok X G (c.fact 42 (f := .int "MAX_SEATS" 8) rfl); Or.inl ⟨_, t, rfl, h⟩
  have e := hfa.symm.trans m_law
  cases e
  have b := FunD.bindsA (ps := ["script"]) F_law fun _ _ _ _ _ _ us hl => match us, hl with | [_], _ => rfl
  refine ⟨fd_law, fun s v => b s [v] rfl, fun base _ _ => ?_⟩
  have h__law_source := ok__law_source (P := P) (w := w) (base := base) F__law_source m__law_source hblt  
  have h__law_draw := ok__law_draw (P := P) (w := w) (base := base) F__law_draw m__law_draw hblt  
  have h__law_choice := ok__law_choice (P := P) (w := w) (base := base) F__law_choice m__law_choice hblt h__law_draw 
  have h__law_flight := ok__law_flight (P := P) (w := w) (base := base) F__law_flight m__law_flight hblt h__law_choice h__law_draw 
  have h_is_between := ok_is_between (P := P) (w := w) (base := base) F_is_between m_is_between hblt  
  have h_are_capacities := ok_are_capacities (P := P) (w := w) (base := base) F_are_capacities m_are_capacities hblt h_is_between g_MAX_CLASSES g_MAX_SEATS
  have h_is_flight := ok_is_flight (P := P) (w := w) (base := base) F_is_flight m_is_flight hblt h_are_capacities h_is_between g_MAX_CUSTOMERS
  have h_check_flight := ok_check_flight (P := P) (w := w) (base := base) F_check_flight m_check_flight hblt h_is_flight g_InvalidFlight
  have h_flows_for := ok_flows_for (P := P) (w := w) (base := base) F_flows_for m_flows_for hblt  
  have h_demands_of := ok_demands_of (P := P) (w := w) (base := base) F_demands_of m_demands_of hblt  
  have h_flows_in := ok_flows_in (P := P) (w := w) (base := base) F_flows_in m_flows_in hblt h_demands_of h_flows_for 
  have h_flows := ok_flows (P := P) (w := w) (base := base) F_flows m_flows hblt h_check_flight h_flows_in 
  have h_check_losses := ok_check_losses (P := P) (w := w) (base := base) F_check_losses m_check_losses hblt h_check_flight h_is_between g_MAX_LOSS g_InvalidLosses
  have h_passing := ok_passing (P := P) (w := w) (base := base) F_passing m_passing hblt h_flows_in 
  have h_least_loss := ok_least_loss (P := P) (w := w) (base := base) F_least_loss m_least_loss hblt h_check_losses h_passing 
  have h_greatest_loss := ok_greatest_loss (P := P) (w := w) (base := base) F_greatest_loss m_greatest_loss hblt h_check_losses h_passing 
  have h__law_loss := ok__law_loss (P := P) (w := w) (base := base) F__law_loss m__law_loss hblt  
  have h_cheapest := ok_cheapest (P := P) (w := w) (base := base) F_cheapest m_cheapest hblt h_check_losses h_passing 
  refine fn_snd (k := 6) F_law sc_law hblt (by decide +kernel) ?_
  simp only [c_law_k21, gSs, gS, gEs, gE, gI]
  repeat (first | exact trivial | exact h__law_draw.mono (by omega) | exact h__law_flight.mono (by omega) | exact h__law_loss.mono (by omega) | exact h__law_source.mono (by omega) | exact h_cheapest.mono (by omega) | exact h_flows.mono (by omega) | exact h_greatest_loss.mono (by omega) | exact h_least_loss.mono (by omega) | apply And.intro)
theorem holds_of (hlaw : ∀ ns : List Int, ns.length ≤ 63 → f_law_k21 [.list (ns.map .int)] = .ok (.sh (.bool true))) : PySem.Challenge.rw_upgradeclasses_k21_whole_losses_raised_a.Holds := by
  w_on; o_law
  refine HandSHeadRun.head_any (r := PySem.W.OpenLaw.row PySem.Challenge.rw_upgradeclasses_k21_whole_losses_raised_a) (q := PySem.W.view (PySem.W.OpenLaw.row PySem.Challenge.rw_upgradeclasses_k21_whole_losses_raised_a).prog [29]) (H := hk) (ob := ob) (M := 4000) (loose := LO) (d := HandSHeadRun.topDef (PySem.W.OpenLaw.row PySem.Challenge.rw_upgradeclasses_k21_whole_losses_raised_a).prog 29) (kwd := []) ob_eq
    (by kernel_rfl) (fun s => by kernel_rfl) run (by kernel_rfl) (by kernel_rfl) (by kernel_rfl) (by rfl) (by first | assumption | decide +kernel) (by decide +kernel) ⟨rfl, rfl, rfl, rfl, rfl, by decide +kernel⟩ ?hw ?hc
  case hw => w_witness2
  case hc =>
    refine L2.walk_ofE (l := PySem.Challenge.rw_upgradeclasses_k21_whole_losses_raised_a) (n := 63) (k := 7) (x := "script") (CX := L2.CX0) rfl (by decide) (by kernel_rfl) ⟨rfl, by decide, by decide⟩ ?F (fun _ _ _ _ z => z)
    intro w mg fa h Y G hmg0
    obtain ⟨K, KX, c⟩ := Y
    have hmg : mg ("law" : PySem.Str) = some (.ref fa) := by
      have e : (HandSHeadRun.topDef (PySem.W.OpenLaw.row PySem.Challenge.rw_upgradeclasses_k21_whole_losses_raised_a).prog 29).name = ("law" : PySem.Str) := by kernel_rfl
      rw [← e]
      exact hmg0
    obtain ⟨fd, hb, hF⟩ := facts (P := (PySem.Challenge.rw_upgradeclasses_k21_whole_losses_raised_a).prog) (w := w) KX G hmg c
    exact ⟨K, fd, _, KX, hb, fun H a ns hl _ hS => law_sp hlaw hl hS, fun base h1 h2 => noExcFn (hF base h1 h2)⟩


end K21
set_option linter.all false
set_option maxRecDepth 100000
set_option maxHeartbeats 1000000
/-! Layer D, part T: reading code on data. -/
namespace DL
open PySem (Str PyData)
theorem wipeS_len' : ∀ {vs : List Nat} {δ : Env}, (wipeS δ vs).length = δ.length
  | [], _ => rfl
  | v :: vs, δ => by unfold wipeS; rw [List.length_set, wipeS_len']
theorem wipeS_get' : ∀ {vs : List Nat} {δ : Env} {j : Nat}, (wipeS δ vs)[j]? = if j ∈ vs then (if j < δ.length then some .non else none) else δ[j]?
  | [], δ, j => by simp [wipeS]
  | v :: vs, δ, j => by
    unfold wipeS
    rw [List.getElem?_set, wipeS_len']
    by_cases h : v = j
    · subst h
      by_cases h2 : v < δ.length
      · simp [h2]
      · simp [h2]
    · rw [if_neg h, wipeS_get']
      have h' : ¬ j = v := fun e => h e.symm
      simp [h']
theorem wipeS_idem {vs : List Nat} {δ : Env} : wipeS (wipeS δ vs) vs = wipeS δ vs := by
  apply List.ext_getElem?
  intro j
  rw [wipeS_get', wipeS_get', wipeS_len']
  by_cases q : j ∈ vs
  · rw [if_pos q, if_pos q]
  · rw [if_neg q, if_neg q]
theorem compL_one {own : List Nat} {tg : Tg} {test : Env → Res Bool} {elt : Ev} {d : D} {ds : List D} {δ : Env} : compL own tg test elt (d :: ds) δ = match asg tg d (wipeS δ own) with
    | none => .bad
    | some δ1 => (test δ1).bind fun b δ2 => if b then
        (elt δ2).bind fun r δ3 => match frz δ3 r with
          | none => .bad
          | some (x, δ4) => (compL own tg test elt ds δ4).bind fun xs δ5 => .ok (x :: xs) δ5
      else compL own tg test elt ds δ2 := rfl
/-- a comprehension, by what stays true: I (what was made so far) (the env) -/
theorem compL_inv {own : List Nat} {tg : Tg} {test : Env → Res Bool} {elt : Ev} (I : List D → Env → Prop) : ∀ (ds : List D) (acc : List D) (δ : Env), I acc δ →
    (∀ d ∈ ds, ∀ acc δ, I acc δ → ∃ δ1 b δ2, asg tg d (wipeS δ own) = some δ1 ∧ test δ1 = .ok b δ2 ∧ ((b = false ∧ I acc δ2) ∨ (b = true ∧ ∃ r δ3 x δ4, elt δ2 = .ok r δ3 ∧ frz δ3 r = some (x, δ4) ∧ I (acc ++ [x]) δ4))) →
    ∃ xs δ', compL own tg test elt ds δ = .ok xs (wipeS δ' own) ∧ I (acc ++ xs) δ'
  | [], acc, δ, h, _ => ⟨[], δ, rfl, by rw [List.append_nil]; exact h⟩
  | d :: ds, acc, δ, h, hs => by
    obtain ⟨δ1, b, δ2, h1, h2, h3⟩ := hs d List.mem_cons_self acc δ h
    rw [compL_one, h1]
    simp only [h2, Res.bind_ok]
    rcases h3 with ⟨rfl, h3⟩ | ⟨rfl, r, δ3, x, δ4, h4, h5, h6⟩
    · obtain ⟨xs, δ', e, i⟩ := compL_inv I ds acc δ2 h3 fun d hd => hs d (List.mem_cons_of_mem _ hd)
      exact ⟨xs, δ', by simpa using e, i⟩
    · obtain ⟨xs, δ', e, i⟩ := compL_inv I ds (acc ++ [x]) δ4 h6 fun d hd => hs d (List.mem_cons_of_mem _ hd)
      refine ⟨x :: xs, δ', ?_, by rw [List.append_assoc] at i; exact i⟩
      simp [h4, h5, e]
/-- .. with the turns counted -/
theorem compL_inv2 {own : List Nat} {tg : Tg} {test : Env → Res Bool} {elt : Ev} (I : Nat → List D → Env → Prop) (N : Nat) : ∀ (ds : List D) (i : Nat) (acc : List D) (δ : Env), i + ds.length ≤ N → I i acc δ →
    (∀ i d acc δ, i < N → d ∈ ds → I i acc δ → ∃ δ1 b δ2, asg tg d (wipeS δ own) = some δ1 ∧ test δ1 = .ok b δ2 ∧ ((b = false ∧ I (i + 1) acc δ2) ∨ (b = true ∧ ∃ r δ3 x δ4, elt δ2 = .ok r δ3 ∧ frz δ3 r = some (x, δ4) ∧ I (i + 1) (acc ++ [x]) δ4))) →
    ∃ xs δ', compL own tg test elt ds δ = .ok xs (wipeS δ' own) ∧ I (i + ds.length) (acc ++ xs) δ'
  | [], i, acc, δ, _, h, _ => ⟨[], δ, rfl, by rw [List.append_nil]; exact h⟩
  | d :: ds, i, acc, δ, hN, h, hs => by
    rw [List.length_cons] at hN
    obtain ⟨δ1, b, δ2, h1, h2, h3⟩ := hs i d acc δ (by omega) List.mem_cons_self h
    rw [compL_one, h1]
    simp only [h2, Res.bind_ok]
    have el : i + 1 + ds.length = i + (d :: ds).length := by rw [List.length_cons]; omega
    rcases h3 with ⟨rfl, h3⟩ | ⟨rfl, r, δ3, x, δ4, h4, h5, h6⟩
    · obtain ⟨xs, δ', e, q⟩ := compL_inv2 I N ds (i + 1) acc δ2 (by omega) h3 fun i d acc δ hi hd => hs i d acc δ hi (List.mem_cons_of_mem _ hd)
      rw [el] at q
      exact ⟨xs, δ', by simpa using e, q⟩
    · obtain ⟨xs, δ', e, q⟩ := compL_inv2 I N ds (i + 1) (acc ++ [x]) δ4 (by omega) h6 fun i d acc δ hi hd => hs i d acc δ hi (List.mem_cons_of_mem _ hd)
      rw [el] at q
      refine ⟨x :: xs, δ', ?_, by rw [List.append_assoc] at q; exact q⟩
      simp [h4, h5, e]
/-- .. that changes nothing: p the test, g the element -/
theorem compL_pure {own : List Nat} {tg : Tg} {test : Env → Res Bool} {elt : Ev} {p : D → Bool} {g : D → D} (δ : Env) (ds : List D)
    (hs : ∀ d ∈ ds, ∃ δ1, asg tg d (wipeS δ own) = some δ1 ∧ wipeS δ1 own = wipeS δ own ∧ test δ1 = .ok (p d) δ1 ∧ (p d = true → ∃ r, elt δ1 = .ok r δ1 ∧ frz δ1 r = some (g d, δ1))) :
    compL own tg test elt ds δ = .ok ((ds.filter p).map g) (wipeS δ own) := by
  have go : ∀ (ds : List D) (δ0 : Env), wipeS δ0 own = wipeS δ own → (∀ d ∈ ds, ∃ δ1, asg tg d (wipeS δ own) = some δ1 ∧ wipeS δ1 own = wipeS δ own ∧ test δ1 = .ok (p d) δ1 ∧ (p d = true → ∃ r, elt δ1 = .ok r δ1 ∧ frz δ1 r = some (g d, δ1))) →
      compL own tg test elt ds δ0 = .ok ((ds.filter p).map g) (wipeS δ own) := by
    intro ds
    induction ds with
    | nil => intro δ0 h _; show Res.ok [] (wipeS δ0 own) = _; rw [h]; rfl
    | cons d ds ih =>
      intro δ0 h hs
      obtain ⟨δ1, h1, h2, h3, h4⟩ := hs d List.mem_cons_self
      rw [compL_one, h, h1]
      simp only [h3, Res.bind_ok]
      have ih' := ih δ1 h2 fun d hd => hs d (List.mem_cons_of_mem _ hd)
      cases c : p d with
      | false => simp [c, ih']
      | true =>
        obtain ⟨r, h5, h6⟩ := h4 c
        simp [c, h5, h6, ih']
  exact go ds δ rfl hs
theorem eComp_pure {own : List Nat} {tg : Tg} {test : Env → Res Bool} {elt : Ev} {p : D → Bool} {g : D → D} (δ : Env) (ds : List D) (hf : freeS δ own = true) (hl : ds.length ≤ big)
    (hs : ∀ d ∈ ds, ∃ δ1, asg tg d (wipeS δ own) = some δ1 ∧ wipeS δ1 own = wipeS δ own ∧ test δ1 = .ok (p d) δ1 ∧ (p d = true → ∃ r, elt δ1 = .ok r δ1 ∧ frz δ1 r = some (g d, δ1))) :
    eComp own tg test elt ds δ = .ok (.ow (.list ((ds.filter p).map g))) (restS δ (wipeS δ own) own) := by
  unfold eComp
  rw [hf, decide_eq_true hl, compL_pure δ ds hs]
  rfl
/-- a for loop by what stays true, the turns counted -/
theorem forL_inv2 {tg : Tg} {body : SEv} (I : Nat → Env → Prop) (N : Nat) : ∀ (ds : List D) (i : Nat) (δ : Env), i + ds.length ≤ N → I i δ → (∀ i d δ, i < N → d ∈ ds → I i δ → ∃ δ1 δ2, asg tg d δ = some δ1 ∧ body δ1 = .ok .next δ2 ∧ I (i + 1) δ2) → ∃ δ', forL tg body ds δ = .ok .next δ' ∧ I (i + ds.length) δ'
  | [], i, δ, _, h, _ => ⟨δ, rfl, h⟩
  | d :: ds, i, δ, hN, h, hs => by
    rw [List.length_cons] at hN
    obtain ⟨δ1, δ2, h1, h2, h3⟩ := hs i d δ (by omega) List.mem_cons_self h
    obtain ⟨δ', e, q⟩ := forL_inv2 I N ds (i + 1) δ2 (by omega) h3 fun i d δ hi hd => hs i d δ hi (List.mem_cons_of_mem _ hd)
    rw [show i + 1 + ds.length = i + (d :: ds).length by rw [List.length_cons]; omega] at q
    exact ⟨δ', by unfold forL; simp [h1, h2, e], q⟩
/-- a for loop by what stays true -/
theorem forL_inv {tg : Tg} {body : SEv} (I : Env → Prop) : ∀ (ds : List D) (δ : Env), I δ → (∀ d ∈ ds, ∀ δ, I δ → ∃ δ1 δ2, asg tg d δ = some δ1 ∧ body δ1 = .ok .next δ2 ∧ I δ2) → ∃ δ', forL tg body ds δ = .ok .next δ' ∧ I δ'
  | [], δ, h, _ => ⟨δ, rfl, h⟩
  | d :: ds, δ, h, hs => by
    obtain ⟨δ1, δ2, h1, h2, h3⟩ := hs d List.mem_cons_self δ h
    obtain ⟨δ', e, i⟩ := forL_inv I ds δ2 h3 fun d hd => hs d (List.mem_cons_of_mem _ hd)
    exact ⟨δ', by unfold forL; simp [h1, h2, e], i⟩

/-! ### bounded data -/
/-- depth, the ints' size, the lists' lengths -/
def Val : Nat → Nat → Nat → D → Prop
  | _, _, _, .none => True
  | _, _, _, .bool _ => True
  | _, m, _, .int i => i.natAbs ≤ m
  | _, _, _, .str _ => True
  | n + 1, m, l, .list ds => ds.length ≤ l ∧ ∀ d ∈ ds, Val n m l d
  | n + 1, m, l, .tuple ds => ds.length ≤ l ∧ ∀ d ∈ ds, Val n m l d
  | _, _, _, _ => False
theorem Val.mono : ∀ {n m l m' l' : Nat} {d : D}, Val n m l d → m ≤ m' → l ≤ l' → Val n m' l' d
  | n, m, l, m', l', .none, _, _, _ => by cases n <;> trivial
  | n, m, l, m', l', .bool _, _, _, _ => by cases n <;> trivial
  | n, m, l, m', l', .int i, h, h1, _ => by cases n <;> exact Nat.le_trans h h1
  | n, m, l, m', l', .str i, h, _, h2 => by cases n <;> trivial
  | 0, m, l, m', l', .list ds, h, _, _ => h.elim
  | 0, m, l, m', l', .tuple ds, h, _, _ => h.elim
  | n + 1, m, l, m', l', .list ds, h, h1, h2 => ⟨Nat.le_trans h.1 h2, fun d hd => Val.mono (h.2 d hd) h1 h2⟩
  | n + 1, m, l, m', l', .tuple ds, h, h1, h2 => ⟨Nat.le_trans h.1 h2, fun d hd => Val.mono (h.2 d hd) h1 h2⟩
  | 0, m, l, m', l', .dict ds, h, _, _ => h.elim
  | n + 1, m, l, m', l', .dict ds, h, _, _ => h.elim
/-! ### steps -/
theorem if_t {c : Ex} {a b : Sts} {δ δ1 : Env} (h : tst (ev c δ) = .ok true δ1) : evS (.ifs c a b) δ = evSs a δ1 := by rw [evS, h]; rfl
theorem if_f {c : Ex} {a b : Sts} {δ δ1 : Env} (h : tst (ev c δ) = .ok false δ1) : evS (.ifs c a b) δ = evSs b δ1 := by rw [evS, h]; rfl
theorem ss_next {s : St} {ss : Sts} {δ δ1 : Env} (h : evS s δ = .ok .next δ1) : evSs (.cons s ss) δ = evSs ss δ1 := by rw [evSs, h]; rfl
theorem ss_ret {s : St} {ss : Sts} {δ δ1 : Env} {r : RV} (h : evS s δ = .ok (.ret r) δ1) : evSs (.cons s ss) δ = .ok (.ret r) δ1 := by rw [evSs, h]; rfl
theorem s_set {i : Nat} {e : Ex} {δ δ1 δ2 : Env} {r : RV} (h : ev e δ = .ok r δ1) (h2 : setR δ1 i r = some δ2) : evS (.set i e) δ = .ok .next δ2 := by
  rw [evS, h]
  show opt (setR δ1 i r) sNext = _
  rw [h2]; rfl
theorem s_ret {e : Ex} {δ δ1 : Env} {d : D} (h : ev e δ = .ok (.sh d) δ1) : evS (.ret e) δ = .ok (.ret (.sh d)) δ1 := by rw [evS, h]; rfl
theorem s_retO {e : Ex} {δ δ1 : Env} {d : D} (h : ev e δ = .ok (.ow d) δ1) : evS (.ret e) δ = .ok (.ret (.ow d)) δ1 := by rw [evS, h]; rfl
theorem e_op {o : Op} {args : Exs} {δ δ1 : Env} {rs : List RV} {ds : List D} {r : RV} (h : evs args δ = .ok rs δ1) (h2 : dats δ1 rs = some ds) (h3 : opD o ds = some r) : ev (.op o args) δ = .ok r δ1 := by
  rw [ev, h]
  show eOp o rs δ1 = _
  unfold eOp
  rw [h2]
  show okR (opD o ds) δ1 = _
  rw [h3]; rfl
theorem es_cons {e : Ex} {es : Exs} {δ δ1 δ2 : Env} {r : RV} {rs : List RV} (h : ev e δ = .ok r δ1) (h2 : evs es δ1 = .ok rs δ2) : evs (.cons e es) δ = .ok (hold r :: rs) δ2 := by
  rw [evs, h]
  show (evs es δ1).bind _ = _
  rw [h2]; rfl
theorem es_nil {δ : Env} : evs .nil δ = .ok [] δ := by rw [evs]
theorem tst_ok {e : Ex} {δ δ1 : Env} {b : Bool} (h : ev e δ = .ok (.sh (.bool b)) δ1) : tst (ev e δ) = .ok b δ1 := by rw [h]; rfl
theorem e_callI {x : Str} {f : FnI} {i : Nat} {args : Exs} {δ δ1 δ2 δ3 : Env} {rs : List RV} {ds : List D} {d0 d1 : D} {r : RV} (ho : isOwn (getS δ i) = true) (h : evs args δ = .ok rs δ1) (h2 : frzs δ1 rs = some (ds, δ2)) (h3 : ownS δ2 i = some d0) (h4 : f d0 ds = .ok r d1) (hr : ∀ j, r ≠ .br j) (h5 : putS δ2 i d1 = some δ3) :
    ev (.callI x f i args) δ = .ok r δ3 := by
  rw [ev]
  unfold needOwn
  rw [if_pos ho, h]
  show eCallI f i rs δ1 = _
  unfold eCallI
  rw [h2]
  show (match ownS δ2 i with | none => _ | some d0 => _) = _
  rw [h3]
  show (match f d0 ds with | .ok (.br _) _ => _ | .ok r d1 => _ | .exc c d1 => _ | .bad => _) = _
  rw [h4]
  cases r with
  | br j => exact absurd rfl (hr j)
  | sh d => show (match putS δ2 i d1 with | some δ2 => _ | none => _) = _; rw [h5]
  | ow d => show (match putS δ2 i d1 with | some δ2 => _ | none => _) = _; rw [h5]
theorem e_call {x : Str} {f : Fn} {args : Exs} {δ δ1 : Env} {rs : List RV} {ds : List D} {d : D} (h : evs args δ = .ok rs δ1) (h2 : dats δ1 rs = some ds) (h4 : f ds = .ok (.sh d)) (hs : scalar d = true) : ev (.call x f args) δ = .ok (.sh d) δ1 := by
  rw [ev, h]
  show eCall f rs δ1 = _
  unfold eCall
  rw [h2]
  show (match f ds with | .ok (.sh d) => _ | .ok (.ow d) => _ | .ok (.br _) => _ | .exc c => _ | .bad => _) = _
  rw [h4]
  show (if scalar d = true then _ else _) = _
  rw [if_pos hs]
theorem e_callO {x : Str} {f : Fn} {args : Exs} {δ δ1 δ2 : Env} {rs : List RV} {ds es : List D} {r : RV} (h : evs args δ = .ok rs δ1) (h2 : dats δ1 rs = some ds) (h4 : f ds = .ok r) (hr : (∃ d, r = .ow d) ∨ ∃ d, r = .sh d ∧ scalar d = false) (h5 : frzs δ1 rs = some (es, δ2)) : ev (.call x f args) δ = .ok r δ2 := by
  rw [ev, h]
  show eCall f rs δ1 = _
  unfold eCall
  rw [h2]
  show (match f ds with | .ok (.sh d) => _ | .ok (.ow d) => _ | .ok (.br _) => _ | .exc c => _ | .bad => _) = _
  rw [h4]
  rcases hr with ⟨d, rfl⟩ | ⟨d, rfl, hs⟩
  · show (match frzs δ1 rs with | some (_, δ1) => _ | none => _) = _
    rw [h5]
  · show (if scalar d = true then _ else _) = _
    rw [if_neg (by rw [hs]; exact Bool.false_ne_true)]
    show (match frzs δ1 rs with | some (_, δ1) => _ | none => _) = _
    rw [h5]
theorem e_chain_le {a b c : Ex} {x y z : Int} {δ : Env} (ha : ev a δ = .ok (.sh (.int x)) δ) (hb : ev b δ = .ok (.sh (.int y)) δ) (hc : ev c δ = .ok (.sh (.int z)) δ) : ev (.chain a .le b .le c) δ = .ok (.sh (.bool (decide (x ≤ y) && decide (y ≤ z)))) δ := by
  rw [ev, ha]
  simp only [Res.bind_ok]
  rw [hb]
  simp only [Res.bind_ok]
  rw [show tst (eOp .le [hold (.sh (.int x)), hold (.sh (.int y))] δ) = Res.ok (decide (x ≤ y)) δ from rfl]
  simp only [Res.bind_ok]
  cases h : decide (x ≤ y)
  · rfl
  · rw [if_pos rfl, hc]
    rfl
theorem e_chain_lt {a b c : Ex} {x y z : Int} {δ : Env} (ha : ev a δ = .ok (.sh (.int x)) δ) (hb : ev b δ = .ok (.sh (.int y)) δ) (hc : ev c δ = .ok (.sh (.int z)) δ) : ev (.chain a .le b .lt c) δ = .ok (.sh (.bool (decide (x ≤ y) && decide (y < z)))) δ := by
  rw [ev, ha]
  simp only [Res.bind_ok]
  rw [hb]
  simp only [Res.bind_ok]
  rw [show tst (eOp .le [hold (.sh (.int x)), hold (.sh (.int y))] δ) = Res.ok (decide (x ≤ y)) δ from rfl]
  simp only [Res.bind_ok]
  cases h : decide (x ≤ y)
  · rfl
  · rw [if_pos rfl, hc]
    rfl
theorem e_comp {src : Src} {own : List Nat} {tg : Tg} {ts : Exs} {elt : Ex} {δ δ1 : Env} {items : List D} (h : evI src δ = .ok items δ1) : ev (.comp src own tg ts elt) δ = eComp own tg (evTests ts) (ev elt) items δ1 := by rw [ev, h]; rfl
theorem e_not {c : Ex} {δ δ1 : Env} {b : Bool} (h : ev c δ = .ok (.sh (.bool b)) δ1) : ev (.not c) δ = .ok (.sh (.bool (!b))) δ1 := by rw [ev, tst_ok h]; rfl
theorem e_or2 {a b : Ex} {δ : Env} {x y : Bool} (ha : ev a δ = .ok (.sh (.bool x)) δ) (hb : x = false → ev b δ = .ok (.sh (.bool y)) δ) : ev (.or (.cons a (.cons b .nil))) δ = .ok (.sh (.bool (x || y))) δ := by
  rw [ev, evOr, tst_ok ha]
  · cases x
    · show evOr (.cons b .nil) δ = _; rw [evOr]; exact hb rfl
    · rfl
  · intro q; cases q
theorem e_and2 {a b : Ex} {δ : Env} {x y : Bool} (ha : ev a δ = .ok (.sh (.bool x)) δ) (hb : x = true → ev b δ = .ok (.sh (.bool y)) δ) : ev (.and (.cons a (.cons b .nil))) δ = .ok (.sh (.bool (x && y))) δ := by
  rw [ev, evAnd, tst_ok ha]
  · cases x
    · rfl
    · show evAnd (.cons b .nil) δ = _; rw [evAnd]; exact hb rfl
  · intro q; cases q

/-! ### the source -/
def srcD (a b c : Int) : D := .list [.int a, .int b, .int c]
def SrcOk (B : Int) (d : D) : Prop := ∃ a b c, d = srcD a b c ∧ 0 ≤ b ∧ b < 2147483579 ∧ 0 ≤ c ∧ c ≤ B
def drawC : Sts := .cons (.ifs (.op .gt (.cons (.op .idx (.cons (.var 0) (.cons (.cst (.int 0)) .nil))) (.cons (.cst (.int 1)) .nil))) (.cons (.set 3 (.op .mod (.cons (.op .idx (.cons (.var 0) (.cons (.cst (.int 0)) .nil))) (.cons (.var 1) .nil)))) (.cons (.setI 0 (.cst (.int 0)) (.op .fdiv (.cons (.op .idx (.cons (.var 0) (.cons (.cst (.int 0)) .nil))) (.cons (.var 1) .nil)))) (.cons (.ret (.var 3)) .nil))) .nil) (.cons (.setI 0 (.cst (.int 2)) (.op .add (.cons (.op .idx (.cons (.var 0) (.cons (.cst (.int 2)) .nil))) (.cons (.cst (.int 1)) .nil)))) (.cons (.set 2 (.op .mod (.cons (.op .pow (.cons (.op .add (.cons (.op .idx (.cons (.var 0) (.cons (.cst (.int 1)) .nil))) (.cons (.op .mul (.cons (.cst (.int 15485867)) (.cons (.op .idx (.cons (.var 0) (.cons (.cst (.int 2)) .nil))) .nil))) .nil))) (.cons (.cst (.int 5)) .nil))) (.cons (.cst (.int 2147483647)) .nil)))) (.cons (.set 3 (.op .fdiv (.cons (.op .mod (.cons (.op .pow (.cons (.op .add (.cons (.var 2) (.cons (.op .mul (.cons (.cst (.int 7919)) (.cons (.op .idx (.cons (.var 0) (.cons (.cst (.int 2)) .nil))) .nil))) .nil))) (.cons (.cst (.int 3)) .nil))) (.cons (.cst (.int 2147483629)) .nil))) (.cons (.cst (.int 32)) .nil)))) (.cons (.ret (.op .mod (.cons (.var 3) (.cons (.var 1) .nil)))) .nil))))
def draw : FnI := mkFnI 2 4 drawC
theorem mulD_ok {i j : Int} (h : -(2 ^ 64) < i ∧ i < 2 ^ 64) : opD .mul [.int i, .int j] = some (.sh (.int (i * j))) := by
  show mulD (.int i) (.int j) = _
  refine if_pos ?_
  unfold okMul
  rw [decide_eq_true h.1, decide_eq_true h.2]; rfl
theorem powD_ok {i j : Int} (h : 0 ≤ j ∧ j ≤ 1000000 ∧ i.natAbs < 2 ^ 64) : opD .pow [.int i, .int j] = some (.sh (.int (i ^ j.toNat))) := if_pos h
theorem modD_ok {i j : Int} (h : 0 < j) : opD .mod [.int i, .int j] = some (.sh (.int (i % j))) := if_pos h
theorem fdivD_ok {i j : Int} (h : 0 < j) (h2 : j < 1073741824) : opD .fdiv [.int i, .int j] = some (.sh (.int (i / j))) := if_pos ⟨h, .inl h2⟩
theorem draw_ok {s : D} {B size : Int} (hS : SrcOk B s) (hB : B ≤ 1073741824) (h1 : 1 ≤ size) (h2 : size < 1073741824) : ∃ r s', draw s [.int size] = .ok (.sh (.int r)) s' ∧ 0 ≤ r ∧ r < size ∧ SrcOk (B + 1) s' := by
  obtain ⟨a, b, c, rfl, hb1, hb2, hc1, hc2⟩ := hS
  by_cases h : 1 < a
  · refine ⟨a % size, srcD (a / size) b c, ?_, Int.emod_nonneg _ (by omega), Int.emod_lt_of_pos _ (by omega), a / size, b, c, rfl, hb1, hb2, hc1, by omega⟩
    show endI (evSs drawC [.io (srcD a b c), .sh (.int size), .non, .non]) = _
    have e : evSs drawC [.io (srcD a b c), .sh (.int size), .non, .non] = .ok (.ret (.sh (.int (a % size)))) [.io (srcD (a / size) b c), .sh (.int size), .non, .sh (.int (a % size))] := by
      refine ss_ret ((if_t (δ1 := [.io (srcD a b c), .sh (.int size), .non, .non]) ?_).trans ?_)
      · show (Res.ok (decide (1 < a)) _ : Res Bool) = _
        rw [decide_eq_true h]
      · refine (ss_next (s_set (e_op (ds := [.int a, .int size]) rfl rfl (modD_ok (i := a) (j := size) (by omega))) rfl)).trans ?_
        refine (ss_next (δ1 := [.io (srcD (a / size) b c), .sh (.int size), .non, .sh (.int (a % size))]) ?_).trans rfl
        rw [evS, e_op (ds := [.int a, .int size]) (r := .sh (.int (a / size))) rfl rfl (fdivD_ok (by omega) h2)]
        rfl
    rw [e]; rfl
  · have p1 : opD .mul [.int 15485867, .int (c + 1)] = some (.sh (.int (15485867 * (c + 1)))) := mulD_ok ⟨by omega, by omega⟩
    have p2 : opD .pow [.int (b + 15485867 * (c + 1)), .int 5] = some (.sh (.int ((b + 15485867 * (c + 1)) ^ 5))) := powD_ok ⟨by omega, by omega, by omega⟩
    obtain ⟨n, hn⟩ : ∃ n, n = (b + 15485867 * (c + 1)) ^ 5 % 2147483647 := ⟨_, rfl⟩
    have p5 : opD .mod [.int ((b + 15485867 * (c + 1)) ^ 5), .int 2147483647] = some (.sh (.int n)) := by rw [hn]; exact modD_ok (by decide)
    have hn0 : 0 ≤ n ∧ n < 2147483647 := by rw [hn]; exact ⟨Int.emod_nonneg _ (by decide), Int.emod_lt_of_pos _ (by decide)⟩
    have p3 : opD .mul [.int 7919, .int (c + 1)] = some (.sh (.int (7919 * (c + 1)))) := mulD_ok ⟨by omega, by omega⟩
    have p4 : opD .pow [.int (n + 7919 * (c + 1)), .int 3] = some (.sh (.int ((n + 7919 * (c + 1)) ^ 3))) := powD_ok ⟨by omega, by omega, by omega⟩
    obtain ⟨m, hm⟩ : ∃ m, m = (n + 7919 * (c + 1)) ^ 3 % 2147483629 / 32 := ⟨_, rfl⟩
    have p6 : opD .mod [.int ((n + 7919 * (c + 1)) ^ 3), .int 2147483629] = some (.sh (.int ((n + 7919 * (c + 1)) ^ 3 % 2147483629))) := modD_ok (by decide)
    have p7 : opD .fdiv [.int ((n + 7919 * (c + 1)) ^ 3 % 2147483629), .int 32] = some (.sh (.int m)) := by rw [hm]; exact fdivD_ok (by decide) (by decide)
    refine ⟨m % size, srcD a b (c + 1), ?_, Int.emod_nonneg _ (by omega), Int.emod_lt_of_pos _ (by omega), a, b, c + 1, rfl, hb1, hb2, by omega, by omega⟩
    show endI (evSs drawC [.io (srcD a b c), .sh (.int size), .non, .non]) = _
    have e : evSs drawC [.io (srcD a b c), .sh (.int size), .non, .non] = .ok (.ret (.sh (.int (m % size)))) [.io (srcD a b (c + 1)), .sh (.int size), .sh (.int n), .sh (.int m)] := by
      refine (ss_next (δ1 := [.io (srcD a b c), .sh (.int size), .non, .non]) ((if_f ?_).trans rfl)).trans ?_
      · show (Res.ok (decide (1 < a)) _ : Res Bool) = _
        rw [decide_eq_false h]
      refine (ss_next (δ1 := [.io (srcD a b (c + 1)), .sh (.int size), .non, .non]) rfl).trans ?_
      refine (ss_next (s_set (δ2 := [.io (srcD a b (c + 1)), .sh (.int size), .sh (.int n), .non]) (e_op (ds := [.int ((b + 15485867 * (c + 1)) ^ 5), .int 2147483647]) (es_cons (e_op (ds := [.int (b + 15485867 * (c + 1)), .int 5]) (es_cons (e_op (ds := [.int b, .int (15485867 * (c + 1))]) (es_cons (r := .sh (.int b)) rfl (es_cons (e_op (ds := [.int 15485867, .int (c + 1)]) rfl rfl p1) rfl)) rfl rfl) rfl) rfl p2) rfl) rfl p5) rfl)).trans ?_
      refine (ss_next (s_set (δ2 := [.io (srcD a b (c + 1)), .sh (.int size), .sh (.int n), .sh (.int m)]) (e_op (ds := [.int ((n + 7919 * (c + 1)) ^ 3 % 2147483629), .int 32]) (es_cons (e_op (ds := [.int ((n + 7919 * (c + 1)) ^ 3), .int 2147483629]) (es_cons (e_op (ds := [.int (n + 7919 * (c + 1)), .int 3]) (es_cons (e_op (ds := [.int n, .int (7919 * (c + 1))]) (es_cons (r := .sh (.int n)) rfl (es_cons (e_op (ds := [.int 7919, .int (c + 1)]) rfl rfl p3) rfl)) rfl rfl) rfl) rfl p4) rfl) rfl p6) rfl) rfl p7) rfl)).trans ?_
      exact ss_ret (s_ret (e_op (ds := [.int m, .int size]) rfl rfl (modD_ok (by omega))))
    rw [e]; rfl
end DL
set_option linter.all false
set_option maxRecDepth 100000
set_option maxHeartbeats 4000000
set_option exponentiation.threshold 9000
/-! Layer D, part U: the laws' generators on data: draw, choice, source, flight. -/
namespace DL
open PySem (Str PyData)
def choiceC : Sts := (.cons (.ret (.op .idx (.cons (.var 1) (.cons (.callI "_law_draw" draw 0 (.cons (.op .len (.cons (.var 1) .nil)) .nil)) .nil)))) .nil)
def choice : FnI := mkFnI 2 2 choiceC
def sourceC : Sts := (.cons (.ifs (.op .ge (.cons (.var 0) (.cons (.op .pow (.cons (.cst (.int 10)) (.cons (.cst (.int 18)) .nil))) .nil))) (.cons (.ret (.lst (.cons (.op .sub (.cons (.var 0) (.cons (.op .pow (.cons (.cst (.int 10)) (.cons (.cst (.int 18)) .nil))) .nil))) (.cons (.op .mod (.cons (.var 0) (.cons (.cst (.int 2147483579)) .nil))) (.cons (.var 1) .nil))))) .nil) .nil) (.cons (.ret (.lst (.cons (.cst (.int 0)) (.cons (.op .mod (.cons (.var 0) (.cons (.cst (.int 2147483579)) .nil))) (.cons (.var 1) .nil))))) .nil))
def source : Fn := mkFn 2 2 sourceC
def flightC : Sts := (.cons (.par [6, 7] (.cons (.op .add (.cons (.cst (.int 1)) (.cons (.callI "_law_draw" draw 0 (.cons (.var 1) .nil)) .nil))) (.cons (.callI "_law_draw" draw 0 (.cons (.op .add (.cons (.var 2) (.cons (.cst (.int 1)) .nil))) .nil)) .nil))) (.cons (.set 3 (.callI "_law_choice" choice 0 (.cons (.lst (.cons (.cst (.int 2)) (.cons (.cst (.int 3)) (.cons (.cst (.int 4)) (.cons (.cst (.int 9)) .nil))))) .nil))) (.cons (.set 4 (.op .tuple (.cons (.comp (.rng1 (.var 6)) [8] (.name 8) .nil (.callI "_law_draw" draw 0 (.cons (.var 3) .nil))) .nil))) (.cons (.set 5 (.callI "_law_choice" choice 0 (.cons (.lst (.cons (.cst (.int 1)) (.cons (.cst (.int 2)) (.cons (.var 6) .nil)))) .nil))) (.cons (.ret (.tup (.cons (.var 4) (.cons (.op .tuple (.cons (.comp (.rng1 (.var 7)) [9] (.name 9) .nil (.callI "_law_draw" draw 0 (.cons (.op .mn2 (.cons (.var 5) (.cons (.var 6) .nil))) .nil))) .nil)) .nil)))) .nil)))))
def flight : FnI := mkFnI 3 10 flightC
theorem idx_in {xs : List D} {r : Int} (h0 : 0 ≤ r) (h1 : r < xs.length) : ∃ x ∈ xs, opD .idx [.list xs, .int r] = some (.sh x) := by
  have hl : r.toNat < xs.length := by omega
  refine ⟨xs[r.toNat], List.getElem_mem hl, ?_⟩
  show (atI xs r).map RV.sh = _
  unfold atI ixN
  rw [if_pos h0, if_pos h1]
  show (xs[r.toNat]?).map RV.sh = _
  rw [List.getElem?_eq_getElem hl]; rfl
theorem e_draw {e : Ex} {s : D} {rest : Env} {size B : Int} (he : ev e (.io s :: rest) = .ok (.sh (.int size)) (.io s :: rest)) (hS : SrcOk B s) (hB : B ≤ 1073741824) (h1 : 1 ≤ size) (h2 : size < 1073741824) :
    ∃ r s', ev (.callI "_law_draw" draw 0 (.cons e .nil)) (.io s :: rest) = .ok (.sh (.int r)) (.io s' :: rest) ∧ 0 ≤ r ∧ r < size ∧ SrcOk (B + 1) s' := by
  obtain ⟨r, s', e1, e2, e3, e4⟩ := draw_ok hS hB h1 h2
  exact ⟨r, s', e_callI rfl (es_cons he es_nil) rfl rfl e1 (fun j h => by cases h) rfl, e2, e3, e4⟩
theorem choice_ok {xs : List D} {s : D} {B : Int} (hS : SrcOk B s) (hB : B ≤ 1073741824) (h1 : 1 ≤ xs.length) (h2 : xs.length ≤ 1000) : ∃ x ∈ xs, ∃ s', choice s [.list xs] = .ok (.sh x) s' ∧ SrcOk (B + 1) s' := by
  obtain ⟨r, s', e1, e2, e3, e4⟩ := e_draw (e := .op .len (.cons (.var 1) .nil)) (s := s) (rest := [.sh (.list xs)]) (size := xs.length) rfl hS hB (by omega) (by omega)
  obtain ⟨x, hx, e5⟩ := idx_in e2 (by simpa using e3)
  refine ⟨x, hx, s', ?_, e4⟩
  show endI (evSs choiceC [.io s, .sh (.list xs)]) = _
  unfold choiceC
  rw [ss_ret (s_ret (e_op (es_cons (r := .sh (.list xs)) (δ1 := [.io s, .sh (.list xs)]) rfl (es_cons e1 es_nil)) rfl e5))]
  rfl
theorem e_choice {e : Ex} {s : D} {rest rest' : Env} {B : Int} {xs : List D} {r : RV} (he : ev e (.io s :: rest) = .ok r (.io s :: rest)) (hf : frz (.io s :: rest) (hold r) = some (.list xs, .io s :: rest')) (hS : SrcOk B s) (hB : B ≤ 1073741824) (h1 : 1 ≤ xs.length) (h2 : xs.length ≤ 1000) :
    ∃ x ∈ xs, ∃ s', ev (.callI "_law_choice" choice 0 (.cons e .nil)) (.io s :: rest) = .ok (.sh x) (.io s' :: rest') ∧ SrcOk (B + 1) s' := by
  obtain ⟨x, hx, s', e1, e2⟩ := choice_ok hS hB h1 h2
  refine ⟨x, hx, s', e_callI rfl (es_cons he es_nil) (ds := [.list xs]) (δ2 := .io s :: rest') ?_ rfl e1 (fun j h => by cases h) rfl, e2⟩
  unfold frzs
  rw [hf]; rfl
theorem source_ok (cell turn : Int) (ht : 0 ≤ turn) : ∃ s, source [.int cell, .int turn] = .ok (.ow s) ∧ SrcOk turn s := by
  have hm : opD .mod [.int cell, .int 2147483579] = some (.sh (.int (cell % 2147483579))) := modD_ok (by decide)
  have hp : ev (.op .pow (.cons (.cst (.int 10)) (.cons (.cst (.int 18)) .nil))) [.sh (.int cell), .sh (.int turn)] = .ok (.sh (.int 1000000000000000000)) [.sh (.int cell), .sh (.int turn)] := e_op (ds := [.int 10, .int 18]) rfl rfl (by rw [powD_ok ⟨by decide, by decide, by decide⟩]; rfl)
  have m0 := Int.emod_nonneg cell (b := 2147483579) (by decide)
  have m1 := Int.emod_lt_of_pos cell (b := 2147483579) (by decide)
  have c1 : ev (.op .ge (.cons (.var 0) (.cons (.op .pow (.cons (.cst (.int 10)) (.cons (.cst (.int 18)) .nil))) .nil))) [.sh (.int cell), .sh (.int turn)] = .ok (.sh (.bool (decide ((1000000000000000000 : Int) ≤ cell)))) [.sh (.int cell), .sh (.int turn)] :=
    e_op (ds := [.int cell, .int 1000000000000000000]) (es_cons (r := .sh (.int cell)) rfl (es_cons hp es_nil)) rfl rfl
  have em : ev (.op .mod (.cons (.var 0) (.cons (.cst (.int 2147483579)) .nil))) [.sh (.int cell), .sh (.int turn)] = .ok (.sh (.int (cell % 2147483579))) [.sh (.int cell), .sh (.int turn)] := e_op rfl rfl hm
  have lst3 : ∀ {a : Ex} {x : Int}, ev a [.sh (.int cell), .sh (.int turn)] = .ok (.sh (.int x)) [.sh (.int cell), .sh (.int turn)] → ev (.lst (.cons a (.cons (.op .mod (.cons (.var 0) (.cons (.cst (.int 2147483579)) .nil))) (.cons (.var 1) .nil)))) [.sh (.int cell), .sh (.int turn)] = .ok (.ow (srcD x (cell % 2147483579) turn)) [.sh (.int cell), .sh (.int turn)] := fun {a x} ha => by
    rw [ev, es_cons ha (es_cons em (es_cons (r := .sh (.int turn)) (δ1 := [.sh (.int cell), .sh (.int turn)]) rfl es_nil))]; rfl
  cases h : decide ((1000000000000000000 : Int) ≤ cell) with
  | true =>
    rw [h] at c1
    refine ⟨srcD (cell - 1000000000000000000) (cell % 2147483579) turn, ?_, _, _, _, rfl, m0, m1, ht, Int.le_refl _⟩
    show endF (evSs sourceC [.sh (.int cell), .sh (.int turn)]) = _
    unfold sourceC
    rw [ss_ret ((if_t (tst_ok c1)).trans (ss_ret (s_retO (lst3 (e_op (ds := [.int cell, .int 1000000000000000000]) (r := .sh (.int (cell - 1000000000000000000))) (es_cons (r := .sh (.int cell)) rfl (es_cons hp es_nil)) rfl rfl)))))]
    rfl
  | false =>
    rw [h] at c1
    refine ⟨srcD 0 (cell % 2147483579) turn, ?_, _, _, _, rfl, m0, m1, ht, Int.le_refl _⟩
    show endF (evSs sourceC [.sh (.int cell), .sh (.int turn)]) = _
    unfold sourceC
    rw [ss_next ((if_f (tst_ok c1)).trans rfl), ss_ret (s_retO (lst3 (x := 0) rfl))]
    rfl
/-! ### a flight -/
/-- [draw(size) for _ in range(n)] as a tuple -/
theorem e_draws {es : Ex} {k kk : Nat} (hkk : kk = k + 1) {s : D} {rest : Env} {n B size : Int} {en : Ex} (hn : ev en (.io s :: rest) = .ok (.sh (.int n)) (.io s :: rest)) (hn0 : 0 ≤ n ∧ n ≤ 1000) (hk : getS rest k = .non) (hkl : k < rest.length)
    (he : ∀ s d, ev es (.io s :: rest.set k (.sh d)) = .ok (.sh (.int size)) (.io s :: rest.set k (.sh d))) (hS : SrcOk B s) (hB : B ≤ 1000000) (h1 : 1 ≤ size) (h2 : size < 1073741824) :
    ∃ ds s', ev (.op .tuple (.cons (.comp (.rng1 en) [kk] (.name kk) .nil (.callI "_law_draw" draw 0 (.cons es .nil))) .nil)) (.io s :: rest) = .ok (.sh (.tuple ds)) (.io s' :: rest) ∧ ds.length = n.toNat ∧ (∀ d ∈ ds, ∃ i : Int, d = .int i ∧ 0 ≤ i ∧ i < size) ∧ SrcOk (B + n) s' := by
  subst hkk
  have hset : rest.set k .non = rest := by
    apply List.ext_getElem?
    intro j
    rw [List.getElem?_set]
    by_cases q : k = j
    · subst q
      rw [if_pos rfl, if_pos hkl]
      unfold getS at hk
      rw [List.getD_eq_getElem?_getD, List.getElem?_eq_getElem hkl] at hk
      rw [List.getElem?_eq_getElem hkl]
      exact congrArg some hk.symm
    · rw [if_neg q]
  have hw : ∀ s : D, wipeS (.io s :: rest) [k + 1] = .io s :: rest := fun s => by
    show (Sl.io s :: rest).set (k + 1) .non = _
    rw [List.set_cons_succ, hset]
  have hw2 : ∀ (s d : D), wipeS (.io s :: rest.set k (.sh d)) [k + 1] = .io s :: rest := fun s d => by
    show (Sl.io s :: rest.set k (.sh d)).set (k + 1) .non = _
    rw [List.set_cons_succ, List.set_set, hset]
  have hr : evI (.rng1 en) (.io s :: rest) = .ok (rangeD 0 n) (.io s :: rest) := by
    rw [evI, hn]
    show eRng (.int 0) (.int n) _ = _
    unfold eRng
    dsimp only
    rw [if_pos (by rw [decide_eq_true (show -(2 ^ 62) ≤ (0 : Int) by decide), decide_eq_true (show (0 : Int) < 2 ^ 62 by decide), decide_eq_true (show -(2 ^ 62) ≤ n by omega), decide_eq_true (show n < 2 ^ 62 by omega)]; rfl)]
  have hrl : (rangeD 0 n).length = n.toNat := by unfold rangeD; simp
  obtain ⟨xs, δ', e1, ⟨s', d', e2, e3, e4, e5⟩⟩ := compL_inv2 (own := [k + 1]) (tg := .name (k + 1)) (test := evTests .nil) (elt := ev (.callI "_law_draw" draw 0 (.cons es .nil)))
    (fun i acc δ => ∃ s' d, (δ = .io s' :: rest ∨ δ = .io s' :: rest.set k (.sh d)) ∧ acc.length = i ∧ (∀ d ∈ acc, ∃ i : Int, d = .int i ∧ 0 ≤ i ∧ i < size) ∧ SrcOk (B + i) s') n.toNat (rangeD 0 n) 0 [] (.io s :: rest) (by omega)
    ⟨s, .none, .inl rfl, rfl, fun d h => by simp at h, by simpa using hS⟩ fun i d acc δ hi _ ⟨s1, d1, q1, q2, q3, q4⟩ => by
      have hws : wipeS δ [k + 1] = .io s1 :: rest := by
        rcases q1 with rfl | rfl
        · exact hw _
        · exact hw2 _ _
      rw [hws]
      obtain ⟨r, s2, p1, p2, p3, p4⟩ := e_draw (he s1 d) q4 (by omega) h1 h2
      have e2 : B + ((i + 1 : Nat) : Int) = B + i + 1 := by omega
      refine ⟨.io s1 :: rest.set k (.sh d), true, .io s1 :: rest.set k (.sh d), ?_, by rw [evTests], .inr ⟨rfl, _, _, _, _, p1, rfl, s2, d, .inr rfl, by rw [List.length_append]; simp; omega, fun x hx => ?_, by rw [e2]; exact p4⟩⟩
      · rw [asg]
        unfold setS
        rw [show getS (Sl.io s1 :: rest) (k + 1) = getS rest k from rfl, hk]
        show (if k + 1 < rest.length + 1 then _ else none) = _
        rw [if_pos (by omega)]; rfl
      · rcases List.mem_append.mp hx with hx | hx
        · exact q3 x hx
        · rw [List.mem_singleton] at hx; exact ⟨r, hx, p2, p3⟩
  have hws : wipeS δ' [k + 1] = .io s' :: rest := by
    rcases e2 with rfl | rfl
    · exact hw _
    · exact hw2 _ _
  rw [List.nil_append] at e3 e4
  refine ⟨xs, s', ?_, by omega, e4, by rw [Nat.zero_add, hrl] at e5; rw [show B + n = B + (n.toNat : Int) by omega]; exact e5⟩
  refine e_op (es_cons (r := .ow (.list xs)) (δ1 := .io s' :: rest) ?_ es_nil) rfl rfl
  rw [e_comp hr]
  unfold eComp
  have hfr : freeS (.io s :: rest) [k + 1] = true := by
    unfold freeS
    rw [List.all_cons, List.all_nil, Bool.and_true]
    show (match getS rest k with | .ow _ => false | .io _ => false | _ => true) = true
    rw [hk]
  rw [hfr, decide_eq_true (show (rangeD 0 n).length ≤ big by show _ ≤ 16777216; omega), e1, hws]
  refine (if_pos rfl).trans ?_
  rw [Res.bind_ok]
  show Res.ok _ (restS (.io s :: rest) (.io s' :: rest) [k + 1]) = _
  have hrest : restS (.io s :: rest) (.io s' :: rest) [k + 1] = .io s' :: rest := by
    show (Sl.io s' :: rest).set (k + 1) (getS rest k) = _
    rw [hk, List.set_cons_succ, hset]
  rw [hrest]
/-- a flight's data -/
def flD (c b : List Int) : D := .tuple [.tuple (c.map .int), .tuple (b.map .int)]
structure FlOk (c b : List Int) : Prop where
  c1 : 1 ≤ c.length
  c5 : c.length ≤ 5
  b9 : b.length ≤ 9
  cs : ∀ x ∈ c, 0 ≤ x ∧ x ≤ 8
  bs : ∀ x ∈ b, 0 ≤ x ∧ x < c.length
theorem ints_of {P : Int → Prop} : ∀ {ds : List D}, (∀ d ∈ ds, ∃ i : Int, d = .int i ∧ P i) → ∃ c : List Int, ds = c.map .int ∧ c.length = ds.length ∧ ∀ i ∈ c, P i
  | [], _ => ⟨[], rfl, rfl, fun _ h => nomatch h⟩
  | d :: ds, h => by
    obtain ⟨i, rfl, hi⟩ := h d (.head _)
    obtain ⟨c, rfl, e, hc⟩ := ints_of fun d hd => h d (.tail _ hd)
    refine ⟨i :: c, rfl, by simp, fun j hj => ?_⟩
    cases hj with
    | head => exact hi
    | tail _ hj => exact hc j hj
theorem flight_gen {s : D} {B cl cu : Int} (hcl : 1 ≤ cl ∧ cl ≤ 5) (hcu : 0 ≤ cu ∧ cu ≤ 9) (hS : SrcOk B s) (hB : B ≤ 100000) : ∃ c b s', flight s [.int cl, .int cu] = .ok (.sh (flD c b)) s' ∧ FlOk c b ∧ (c.length : Int) ≤ cl ∧ (b.length : Int) ≤ cu ∧ SrcOk (B + 20) s' := by
  obtain ⟨r1, s1, d1, d2, d3, S1⟩ := e_draw (e := .var 1) (s := s) (rest := [.sh (.int cl), .sh (.int cu), .non, .non, .non, .non, .non, .non, .non]) (size := cl) rfl hS (by omega) (by omega) (by omega)
  obtain ⟨r2, s2, d4, d5, d6, S2⟩ := e_draw (e := .op .add (.cons (.var 2) (.cons (.cst (.int 1)) .nil))) (s := s1) (rest := [.sh (.int cl), .sh (.int cu), .non, .non, .non, .non, .non, .non, .non]) (size := cu + 1) rfl S1 (by omega) (by omega) (by omega)
  have hpar : evS (.par [6, 7] (.cons (.op .add (.cons (.cst (.int 1)) (.cons (.callI "_law_draw" draw 0 (.cons (.var 1) .nil)) .nil))) (.cons (.callI "_law_draw" draw 0 (.cons (.op .add (.cons (.var 2) (.cons (.cst (.int 1)) .nil))) .nil)) .nil))) [.io s, .sh (.int cl), .sh (.int cu), .non, .non, .non, .non, .non, .non, .non]
      = .ok .next [.io s2, .sh (.int cl), .sh (.int cu), .non, .non, .non, .sh (.int (1 + r1)), .sh (.int r2), .non, .non] := by
    have ea : ev (.op .add (.cons (.cst (.int 1)) (.cons (.callI "_law_draw" draw 0 (.cons (.var 1) .nil)) .nil))) [.io s, .sh (.int cl), .sh (.int cu), .non, .non, .non, .non, .non, .non, .non] = .ok (.sh (.int (1 + r1))) [.io s1, .sh (.int cl), .sh (.int cu), .non, .non, .non, .non, .non, .non, .non] :=
      e_op (es_cons (r := .sh (.int 1)) (δ1 := [.io s, .sh (.int cl), .sh (.int cu), .non, .non, .non, .non, .non, .non, .non]) rfl (es_cons d1 es_nil)) rfl rfl
    rw [evS, evP, ea]
    simp only [Res.bind_ok]
    rw [evP, d4]
    simp only [Res.bind_ok]
    rw [evP]
    rfl
  obtain ⟨wd, hwd, s3, d7, S3⟩ := e_choice (e := .lst (.cons (.cst (.int 2)) (.cons (.cst (.int 3)) (.cons (.cst (.int 4)) (.cons (.cst (.int 9)) .nil))))) (s := s2) (rest := [.sh (.int cl), .sh (.int cu), .non, .non, .non, .sh (.int (1 + r1)), .sh (.int r2), .non, .non]) (xs := [.int 2, .int 3, .int 4, .int 9]) rfl rfl S2 (by omega) (by decide) (by decide)
  obtain ⟨w, rfl, hw1, hw2⟩ : ∃ w : Int, wd = .int w ∧ 1 ≤ w ∧ w ≤ 9 := by
    simp only [List.mem_cons, List.not_mem_nil, or_false] at hwd
    rcases hwd with rfl | rfl | rfl | rfl <;> exact ⟨_, rfl, by decide, by decide⟩
  obtain ⟨cs, s4, d8, c1, c2, S4⟩ := e_draws (es := .var 3) (k := 7) (kk := 8) rfl (s := s3) (rest := [.sh (.int cl), .sh (.int cu), .sh (.int w), .non, .non, .sh (.int (1 + r1)), .sh (.int r2), .non, .non]) (n := 1 + r1) (size := w) (en := .var 6) rfl (by omega) rfl (by simp) (fun _ _ => rfl) S3 (by omega) hw1 (by omega)
  obtain ⟨td, htd, s5, d9, S5⟩ := e_choice (e := .lst (.cons (.cst (.int 1)) (.cons (.cst (.int 2)) (.cons (.var 6) .nil)))) (s := s4) (rest := [.sh (.int cl), .sh (.int cu), .sh (.int w), .sh (.tuple cs), .non, .sh (.int (1 + r1)), .sh (.int r2), .non, .non]) (xs := [.int 1, .int 2, .int (1 + r1)]) rfl rfl S4 (by omega) (by simp) (by simp)
  obtain ⟨t, rfl, ht1, ht2⟩ : ∃ t : Int, td = .int t ∧ 1 ≤ t ∧ t ≤ 5 := by
    simp only [List.mem_cons, List.not_mem_nil, or_false] at htd
    rcases htd with rfl | rfl | rfl
    · exact ⟨_, rfl, by decide, by decide⟩
    · exact ⟨_, rfl, by decide, by decide⟩
    · exact ⟨_, rfl, by omega, by omega⟩
  obtain ⟨bs, s6, d10, b1, b2, S6⟩ := e_draws (es := .op .mn2 (.cons (.var 5) (.cons (.var 6) .nil))) (k := 8) (kk := 9) rfl (s := s5) (rest := [.sh (.int cl), .sh (.int cu), .sh (.int w), .sh (.tuple cs), .sh (.int t), .sh (.int (1 + r1)), .sh (.int r2), .non, .non]) (n := r2) (size := min t (1 + r1)) (en := .var 7) rfl (by omega) rfl (by simp) (fun _ _ => rfl) S5 (by omega) (by omega) (by omega)
  obtain ⟨c, rfl, lc, hc⟩ := ints_of c2
  obtain ⟨b, rfl, lb, hb⟩ := ints_of b2
  refine ⟨c, b, s6, ?_, ⟨by omega, by omega, by omega, fun x hx => ?_, fun x hx => ?_⟩, by omega, by omega, ?_⟩
  · show endI (evSs flightC [.io s, .sh (.int cl), .sh (.int cu), .non, .non, .non, .non, .non, .non, .non]) = _
    unfold flightC
    rw [ss_next hpar, ss_next (s_set (δ2 := [.io s3, .sh (.int cl), .sh (.int cu), .sh (.int w), .non, .non, .sh (.int (1 + r1)), .sh (.int r2), .non, .non]) d7 rfl), ss_next (s_set (δ2 := [.io s4, .sh (.int cl), .sh (.int cu), .sh (.int w), .sh (.tuple (c.map .int)), .non, .sh (.int (1 + r1)), .sh (.int r2), .non, .non]) d8 rfl),
      ss_next (s_set (δ2 := [.io s5, .sh (.int cl), .sh (.int cu), .sh (.int w), .sh (.tuple (c.map .int)), .sh (.int t), .sh (.int (1 + r1)), .sh (.int r2), .non, .non]) d9 rfl), ss_ret (s_ret (d := .tuple [.tuple (c.map .int), .tuple (b.map .int)]) (δ1 := [.io s6, .sh (.int cl), .sh (.int cu), .sh (.int w), .sh (.tuple (c.map .int)), .sh (.int t), .sh (.int (1 + r1)), .sh (.int r2), .non, .non]) ?_)]
    · rfl
    · rw [ev, es_cons (r := .sh (.tuple (c.map .int))) (δ1 := [.io s5, .sh (.int cl), .sh (.int cu), .sh (.int w), .sh (.tuple (c.map .int)), .sh (.int t), .sh (.int (1 + r1)), .sh (.int r2), .non, .non]) rfl (es_cons d10 es_nil)]
      rfl
  · have := hc x hx
    omega
  · have := hb x hx
    omega
  · obtain ⟨x, y, zz, q1, q2, q3, q4, q5⟩ := S6
    exact ⟨x, y, zz, q1, q2, q3, q4, by omega⟩
end DL
set_option linter.all false
set_option maxRecDepth 100000
set_option maxHeartbeats 4000000
set_option exponentiation.threshold 9000
/-! Layer D, part V: is_flight, check_flight on data. -/
namespace DL
open PySem (Str PyData)
def betweenC : Sts := (.cons (.ret (.and (.cons (.op (.isi .int) (.cons (.var 0) .nil)) (.cons (.not (.op (.isi .bool) (.cons (.var 0) .nil))) (.cons (.chain (.var 1) .le (.var 0) .le (.var 2)) .nil))))) .nil)
def between : Fn := mkFn 3 3 betweenC
def capacitiesC : Sts := (.cons (.ifs (.or (.cons (.not (.op (.isi .tuple) (.cons (.var 0) .nil))) (.cons (.not (.chain (.cst (.int 1)) .le (.op .len (.cons (.var 0) .nil)) .le (.glb "MAX_CLASSES" (.int 5)))) .nil))) (.cons (.ret (.cst (.bool false))) .nil) .nil) (.cons (.ret (.op .all (.cons (.comp (.seq (.var 0)) [1] (.name 1) .nil (.call "is_between" between (.cons (.var 1) (.cons (.cst (.int 0)) (.cons (.glb "MAX_SEATS" (.int 8)) .nil))))) .nil))) .nil))
def capacities : Fn := mkFn 1 2 capacitiesC
def isFlightC : Sts := (.cons (.ifs (.or (.cons (.not (.op (.isi .tuple) (.cons (.var 0) .nil))) (.cons (.op .ne (.cons (.op .len (.cons (.var 0) .nil)) (.cons (.cst (.int 2)) .nil))) (.cons (.not (.call "are_capacities" capacities (.cons (.op .idx (.cons (.var 0) (.cons (.cst (.int 0)) .nil))) .nil))) .nil)))) (.cons (.ret (.cst (.bool false))) .nil) .nil) (.cons (.ifs (.or (.cons (.not (.op (.isi .tuple) (.cons (.op .idx (.cons (.var 0) (.cons (.cst (.int 1)) .nil))) .nil))) (.cons (.op .gt (.cons (.op .len (.cons (.op .idx (.cons (.var 0) (.cons (.cst (.int 1)) .nil))) .nil)) (.cons (.glb "MAX_CUSTOMERS" (.int 9)) .nil))) .nil))) (.cons (.ret (.cst (.bool false))) .nil) .nil) (.cons (.ret (.op .all (.cons (.comp (.seq (.op .idx (.cons (.var 0) (.cons (.cst (.int 1)) .nil)))) [1] (.name 1) .nil (.call "is_between" between (.cons (.var 1) (.cons (.cst (.int 0)) (.cons (.op .sub (.cons (.op .len (.cons (.op .idx (.cons (.var 0) (.cons (.cst (.int 0)) .nil))) .nil)) (.cons (.cst (.int 1)) .nil))) .nil))))) .nil))) .nil)))
def isFlight : Fn := mkFn 1 2 isFlightC
def checkFlightC : Sts := (.cons (.ifs (.not (.call "is_flight" isFlight (.cons (.var 0) .nil))) (.cons (.raise "InvalidFlight" (.cst (.str "invalid flight"))) .nil) .nil) .nil)
def checkFlight : Fn := mkFn 1 1 checkFlightC
def pInt (lo hi : Int) : D → Bool
  | .int i => decide (lo ≤ i) && decide (i ≤ hi)
  | _ => false
def pCap : D → Bool
  | .tuple ds => (decide ((1 : Int) ≤ ds.length) && decide ((ds.length : Int) ≤ 5)) && ds.all (pInt 0 8)
  | _ => false
def cLen : D → Int
  | .tuple ds => ds.length
  | _ => 0
def pFl : D → Bool
  | .tuple [c, .tuple bs] => pCap c && !decide ((9 : Int) < bs.length) && bs.all (pInt 0 (cLen c - 1))
  | _ => false
def NoD (d : D) : Prop := ∀ kvs, d ≠ .dict kvs
theorem e_or3 {a b c : Ex} {δ : Env} {x y z : Bool} (ha : ev a δ = .ok (.sh (.bool x)) δ) (hb : x = false → ev b δ = .ok (.sh (.bool y)) δ) (hc : x = false → y = false → ev c δ = .ok (.sh (.bool z)) δ) : ev (.or (.cons a (.cons b (.cons c .nil)))) δ = .ok (.sh (.bool (x || (y || z)))) δ := by
  rw [ev, evOr, tst_ok ha]
  · cases x
    · show evOr (.cons b (.cons c .nil)) δ = _
      have := e_or2 (hb rfl) (hc rfl)
      rw [ev] at this
      exact this
    · rfl
  · intro q; cases q
theorem between_ok {v : D} (hv : NoD v) (lo hi : Int) : between [v, .int lo, .int hi] = .ok (.sh (.bool (pInt lo hi v))) := by
  cases v with
  | dict kvs => exact absurd rfl (hv kvs)
  | int i =>
    have h := e_chain_le (a := .var 1) (b := .var 0) (c := .var 2) (x := lo) (y := i) (z := hi) (δ := [Sl.sh (.int i), Sl.sh (.int lo), Sl.sh (.int hi)]) rfl rfl rfl
    show endF (Res.bind (Res.bind (ev (.chain (.var 1) .le (.var 0) .le (.var 2)) [Sl.sh (.int i), Sl.sh (.int lo), Sl.sh (.int hi)]) _) _) = _
    rw [h]
    rfl
  | _ => rfl
theorem bools_map (f : D → Bool) : ∀ ds : List D, boolsOf (ds.map fun d => .bool (f d)) = some (ds.map f)
  | [] => rfl
  | d :: ds => by
    show (boolsOf (ds.map fun d => .bool (f d))).map _ = _
    rw [bools_map f ds]; rfl
theorem all_ok (f : D → Bool) (ds : List D) : opD .all [.list (ds.map fun d => .bool (f d))] = some (.sh (.bool (ds.all f))) := by
  show (boolsOf _).map _ = _
  rw [bools_map]
  show some (RV.sh (.bool ((ds.map f).all id))) = _
  rw [List.all_map]; rfl
theorem filter_tt (ds : List D) : ds.filter (fun _ => true) = ds := by simp
/-- all([is_between(x, lo, hi) for x in ds]) -/
theorem allb {ds : List D} (hd : ∀ d ∈ ds, NoD d) (hl : ds.length ≤ 1000) {lo hi : Int} {src : DL.Src} {el eh : Ex} {δ : Env} (hs : evI src δ = .ok ds δ) (hf : freeS δ [1] = true) (hw : restS δ (wipeS δ [1]) [1] = δ)
    (h1 : ∀ d, ∃ δ1, asg (.name 1) d (wipeS δ [1]) = some δ1 ∧ wipeS δ1 [1] = wipeS δ [1] ∧ ev (.var 1) δ1 = .ok (.sh d) δ1 ∧ ev el δ1 = .ok (.sh (.int lo)) δ1 ∧ ev eh δ1 = .ok (.sh (.int hi)) δ1) :
    ev (.op .all (.cons (.comp src [1] (.name 1) .nil (.call "is_between" between (.cons (.var 1) (.cons el (.cons eh .nil))))) .nil)) δ = .ok (.sh (.bool (ds.all (pInt lo hi)))) δ := by
  have e : ev (.comp src [1] (.name 1) .nil (.call "is_between" between (.cons (.var 1) (.cons el (.cons eh .nil))))) δ = .ok (.ow (.list (ds.map fun d => .bool (pInt lo hi d)))) δ := by
    rw [e_comp hs, eComp_pure (p := fun _ => true) (g := fun d => .bool (pInt lo hi d)) δ ds hf (by show ds.length ≤ 16777216; omega), filter_tt, hw]
    intro d hdm
    obtain ⟨δ1, a1, a2, a3, a4, a5⟩ := h1 d
    refine ⟨δ1, a1, a2, by rw [evTests], fun _ => ⟨_, e_call (es_cons a3 (es_cons a4 (es_cons a5 es_nil))) rfl (between_ok (hd d hdm) lo hi) rfl, rfl⟩⟩
  exact e_op (es_cons e es_nil) rfl (all_ok _ _)
theorem caps_ok {v : D} (hv : NoD v) (hd : ∀ ds, v = .tuple ds → ds.length ≤ 1000 ∧ ∀ d ∈ ds, NoD d) : capacities [v] = .ok (.sh (.bool (pCap v))) := by
  cases v with
  | dict kvs => exact absurd rfl (hv kvs)
  | tuple ds =>
    obtain ⟨hl, hn⟩ := hd ds rfl
    show endF (evSs capacitiesC [.sh (.tuple ds), .non]) = _
    have c1 := e_or2 (a := .not (.op (.isi .tuple) (.cons (.var 0) .nil))) (b := .not (.chain (.cst (.int 1)) .le (.op .len (.cons (.var 0) .nil)) .le (.glb "MAX_CLASSES" (.int 5)))) (δ := [.sh (.tuple ds), .non]) (x := false) (y := !(decide ((1 : Int) ≤ ds.length) && decide ((ds.length : Int) ≤ 5))) rfl
      fun _ => e_not (e_chain_le (y := ds.length) rfl rfl rfl)
    cases h : (decide ((1 : Int) ≤ ds.length) && decide ((ds.length : Int) ≤ 5)) with
    | false =>
      rw [h] at c1
      unfold capacitiesC
      rw [ss_ret ((if_t (tst_ok c1)).trans rfl)]
      show FRes.ok (.sh (.bool false)) = .ok (.sh (.bool ((decide ((1 : Int) ≤ ds.length) && decide ((ds.length : Int) ≤ 5)) && _)))
      rw [h]; rfl
    | true =>
      rw [h] at c1
      unfold capacitiesC
      rw [ss_next ((if_f (tst_ok c1)).trans rfl), ss_ret (s_ret (allb hn hl rfl rfl rfl fun d => ⟨[.sh (.tuple ds), .sh d], rfl, rfl, rfl, rfl, rfl⟩))]
      show FRes.ok (.sh (.bool (ds.all (pInt 0 8)))) = .ok (.sh (.bool ((decide ((1 : Int) ≤ ds.length) && decide ((ds.length : Int) ≤ 5)) && _)))
      rw [h]; rfl
  | _ => rfl
theorem isi_tup {d : D} (h : NoD d) : opD (.isi .tuple) [d] = some (.sh (.bool (match d with | .tuple _ => true | _ => false))) := by
  cases d with
  | dict kvs => exact absurd rfl (h kvs)
  | _ => rfl
theorem cap_false_nt {d : D} (h : ∀ ds, d ≠ .tuple ds) : pCap d = false := by
  cases d with
  | tuple ds => exact absurd rfl (h ds)
  | _ => rfl
/-- what a value's parts must be -/
structure Gd (v : D) : Prop where
  top : NoD v
  two : ∀ ds, v = .tuple ds → ds.length ≤ 1000 ∧ ∀ d ∈ ds, NoD d ∧ plainD d = true ∧ ∀ es, d = .tuple es → es.length ≤ 1000 ∧ ∀ x ∈ es, NoD x ∧ x.plain = true ∧ x.depth ≤ 50
theorem flight_ok {v : D} (g : Gd v) : isFlight [v] = .ok (.sh (.bool (pFl v))) := by
  cases v with
  | dict kvs => exact absurd rfl (g.top kvs)
  | tuple ds =>
    obtain ⟨hl, hn⟩ := g.two ds rfl
    have other : ds.length ≠ 2 → isFlight [.tuple ds] = .ok (.sh (.bool false)) := fun h => by
      show endF (evSs isFlightC [.sh (.tuple ds), .non]) = _
      have c1 : ev (.or (.cons (.not (.op (.isi .tuple) (.cons (.var 0) .nil))) (.cons (.op .ne (.cons (.op .len (.cons (.var 0) .nil)) (.cons (.cst (.int 2)) .nil))) (.cons (.not (.call "are_capacities" capacities (.cons (.op .idx (.cons (.var 0) (.cons (.cst (.int 0)) .nil))) .nil))) .nil)))) [.sh (.tuple ds), .non] = .ok (.sh (.bool (false || (true || true)))) [.sh (.tuple ds), .non] := by
        refine e_or3 rfl (fun _ => e_op (ds := [.int ds.length, .int 2]) rfl rfl ?_) fun _ h => by cases h
        show some (RV.sh (.bool (!((ds.length : Int) == 2)))) = _
        rw [show ((ds.length : Int) == 2) = false by rw [beq_eq_false_iff_ne]; omega]; rfl
      unfold isFlightC
      rw [ss_ret ((if_t (tst_ok c1)).trans rfl)]; rfl
    match ds, hl, hn, other with
    | [], _, _, o => exact o (by simp)
    | [a], _, _, o => exact o (by simp)
    | a :: b :: c :: t, _, _, o => rw [o (by simp)]; cases b <;> rfl
    | [a, b], _, hn, _ =>
      obtain ⟨a1, a2, a3⟩ := hn a (by simp)
      obtain ⟨b1, b2, b3⟩ := hn b (by simp)
      have hca := caps_ok a1 fun es he => ⟨(a3 es he).1, fun d hd => ((a3 es he).2 d hd).1⟩
      show endF (evSs isFlightC [.sh (.tuple [a, b]), .non]) = _
      have c1 : ev (.or (.cons (.not (.op (.isi .tuple) (.cons (.var 0) .nil))) (.cons (.op .ne (.cons (.op .len (.cons (.var 0) .nil)) (.cons (.cst (.int 2)) .nil))) (.cons (.not (.call "are_capacities" capacities (.cons (.op .idx (.cons (.var 0) (.cons (.cst (.int 0)) .nil))) .nil))) .nil)))) [.sh (.tuple [a, b]), .non] = .ok (.sh (.bool (false || (false || !pCap a)))) [.sh (.tuple [a, b]), .non] :=
        e_or3 rfl (fun _ => rfl) fun _ _ => e_not (e_call (ds := [a]) rfl rfl hca rfl)
      unfold isFlightC
      cases hp : pCap a with
      | false =>
        rw [hp] at c1
        rw [ss_ret ((if_t (tst_ok c1)).trans rfl)]
        cases b <;> first | rfl | (show _ = FRes.ok (.sh (.bool (pCap a && _ && _))); rw [hp]; rfl)
      | true =>
        rw [hp] at c1
        rw [ss_next ((if_f (tst_ok c1)).trans rfl)]
        have isa : ∃ as, a = .tuple as := by
          cases a with
          | tuple as => exact ⟨as, rfl⟩
          | _ => cases hp
        obtain ⟨as, rfl⟩ := isa
        cases b with
        | dict kvs => exact absurd rfl (b1 kvs)
        | tuple bs =>
          obtain ⟨q1, q3⟩ := b3 bs rfl
          have c2 : ev (.or (.cons (.not (.op (.isi .tuple) (.cons (.op .idx (.cons (.var 0) (.cons (.cst (.int 1)) .nil))) .nil))) (.cons (.op .gt (.cons (.op .len (.cons (.op .idx (.cons (.var 0) (.cons (.cst (.int 1)) .nil))) .nil)) (.cons (.glb "MAX_CUSTOMERS" (.int 9)) .nil))) .nil))) [.sh (.tuple [.tuple as, .tuple bs]), .non] = .ok (.sh (.bool (false || decide ((9 : Int) < bs.length)))) [.sh (.tuple [.tuple as, .tuple bs]), .non] :=
            e_or2 rfl fun _ => rfl
          cases h9 : decide ((9 : Int) < bs.length) with
          | true =>
            rw [h9] at c2
            rw [ss_ret ((if_t (tst_ok c2)).trans rfl)]
            show _ = FRes.ok (.sh (.bool (pCap (.tuple as) && !decide ((9 : Int) < bs.length) && _)))
            rw [hp, h9]; rfl
          | false =>
            rw [h9] at c2
            rw [ss_next ((if_f (tst_ok c2)).trans rfl), ss_ret (s_ret (allb (ds := bs) (fun d hd => (q3 d hd).1) q1 rfl rfl rfl fun d => ⟨[.sh (.tuple [.tuple as, .tuple bs]), .sh d], rfl, rfl, rfl, rfl, rfl⟩))]
            show _ = FRes.ok (.sh (.bool (pCap (.tuple as) && !decide ((9 : Int) < bs.length) && _)))
            rw [hp, h9]; rfl
        | _ =>
          rw [ss_ret ((if_t (tst_ok (e_or2 (x := true) (y := true) rfl fun h => by cases h))).trans rfl)]
          rfl
  | _ => rfl
theorem ints_plain : ∀ xs : List Int, PyData.plainAll (xs.map .int) = true ∧ PyData.depthAll (xs.map .int) ≤ 1
  | [] => ⟨rfl, by decide⟩
  | x :: xs => by
    obtain ⟨h1, h2⟩ := ints_plain xs
    rw [List.map_cons, PyData.plainAll, PyData.depthAll, h1]
    refine ⟨rfl, ?_⟩
    have : PyData.depth (.int x) ≤ 1 := by rw [PyData.depth]; omega
    omega
theorem intsT_plain (xs : List Int) : plainD (.tuple (xs.map .int)) = true := by
  obtain ⟨h1, h2⟩ := ints_plain xs
  unfold plainD
  rw [Bool.and_eq_true, decide_eq_true_eq, PyData.plain, PyData.depth]
  exact ⟨h1, by omega⟩
theorem intsL_plain (xs : List Int) : plainD (.list (xs.map .int)) = true := by
  obtain ⟨h1, h2⟩ := ints_plain xs
  unfold plainD
  rw [Bool.and_eq_true, decide_eq_true_eq, PyData.plain, PyData.depth]
  exact ⟨h1, by omega⟩
theorem int_nd {xs : List Int} : ∀ d ∈ xs.map PyData.int, NoD d ∧ d.plain = true ∧ d.depth ≤ 50 := fun d hd => by
  obtain ⟨i, _, rfl⟩ := List.mem_map.mp hd
  exact ⟨fun kvs q => (by cases q), by rw [PyData.plain], by rw [PyData.depth]; omega⟩
theorem pInts {xs : List Int} {lo hi : Int} (h : ∀ x ∈ xs, lo ≤ x ∧ x ≤ hi) : (xs.map PyData.int).all (pInt lo hi) = true := by
  rw [List.all_eq_true]
  intro d hd
  obtain ⟨i, hi, rfl⟩ := List.mem_map.mp hd
  obtain ⟨h1, h2⟩ := h i hi
  show (decide _ && decide _) = true
  rw [decide_eq_true h1, decide_eq_true h2]; rfl
theorem flD_ok {c b : List Int} (h : FlOk c b) : isFlight [flD c b] = .ok (.sh (.bool true)) := by
  have g : Gd (flD c b) := ⟨fun kvs q => (by cases q), fun ds e => (by
    cases e
    refine ⟨by simp, fun d hd => ?_⟩
    simp only [List.mem_cons, List.not_mem_nil, or_false] at hd
    rcases hd with rfl | rfl
    · exact ⟨fun kvs q => (by cases q), intsT_plain _, fun es e => by cases e; exact ⟨(by rw [List.length_map]; have := h.c5; omega), int_nd⟩⟩
    · exact ⟨fun kvs q => (by cases q), intsT_plain _, fun es e => by cases e; exact ⟨(by rw [List.length_map]; have := h.b9; omega), int_nd⟩⟩)⟩
  rw [flight_ok g]
  have e : pFl (flD c b) = true := by
    show (pCap (.tuple (c.map .int)) && !decide ((9 : Int) < (b.map PyData.int).length) && (b.map PyData.int).all (pInt 0 (((c.map PyData.int).length : Int) - 1))) = true
    have e1 : pCap (.tuple (c.map .int)) = true := by
      show ((decide ((1 : Int) ≤ (c.map PyData.int).length) && decide (((c.map PyData.int).length : Int) ≤ 5)) && (c.map PyData.int).all (pInt 0 8)) = true
      rw [pInts h.cs, List.length_map, decide_eq_true (by have := h.c1; omega), decide_eq_true (by have := h.c5; omega)]; rfl
    rw [e1, List.length_map, List.length_map, decide_eq_false (by have := h.b9; omega), pInts fun x hx => by have := h.bs x hx; omega]
    rfl
  rw [e]
theorem check_ok {c b : List Int} (h : FlOk c b) : checkFlight [flD c b] = .ok (.sh .none) := by
  show endF (evSs checkFlightC [.sh (flD c b)]) = _
  have e1 : ev (.call "is_flight" isFlight (.cons (.var 0) .nil)) [.sh (flD c b)] = .ok (.sh (.bool true)) [.sh (flD c b)] := e_call (ds := [flD c b]) rfl rfl (flD_ok h) rfl
  unfold checkFlightC
  rw [ss_next ((if_f (tst_ok (e_not e1))).trans rfl)]
  rfl
end DL
set_option linter.all false
set_option maxRecDepth 100000
set_option maxHeartbeats 4000000
/-! Layer S: typed plain functions that code computes. Part 1: the words. -/
namespace DS
open DL
open PySem (Str PyData)
/-- a typed result -/
inductive M (α : Type) where | ok (a : α) | exc (c : Str) | bad
def M.bind {α β : Type} (m : M α) (f : α → M β) : M β := match m with
  | .ok a => f a
  | .exc c => .exc c
  | .bad => .bad
@[simp] theorem M.bind_ok {α β : Type} (a : α) (f : α → M β) : (M.ok a).bind f = f a := by unfold M.bind; exact rfl
@[simp] theorem M.bind_exc {α β : Type} (c : Str) (f : α → M β) : (M.exc c : M α).bind f = .exc c := by unfold M.bind; exact rfl
@[simp] theorem M.bind_bad {α β : Type} (f : α → M β) : (M.bad : M α).bind f = .bad := by unfold M.bind; exact rfl
def M.lt {α β : Type} (a : α) (f : α → M β) : M β := f a
theorem M.lt_eq {α β : Type} (a : α) (f : α → M β) : M.lt a f = f a := by unfold M.lt; exact rfl
/-- a block's end: it goes on, breaks, returns -/
inductive Fl (σ ρ : Type) where | next (s : σ) | brk (s : σ) | ret (r : ρ)
/-- the evaluator's result x, followed by K, does what m says -/
def Kx0 {α γ : Type} (x : Res α) (K : α → Env → M γ → Prop) (m : M γ) : Prop := m = .bad ∨ match x with
  | .ok a δ => K a δ m
  | .exc c _ => m = .exc c
  | .bad => False
structure Kx {α γ : Type} (x : Res α) (K : α → Env → M γ → Prop) (m : M γ) : Prop where
  h : Kx0 x K m
section
variable {α β γ σ ρ : Type}
theorem k_bad {x : Res α} {K : α → Env → M γ → Prop} : Kx x K .bad := ⟨.inl rfl⟩
theorem k_eq {x : Res α} {a : α} {δ : Env} {K : α → Env → M γ → Prop} {m : M γ} (h : x = .ok a δ) (k : K a δ m) : Kx x K m := by subst h; exact ⟨.inr k⟩
theorem k_exc {x : Res α} {c : Str} {δ : Env} {K : α → Env → M γ → Prop} (h : x = .exc c δ) : Kx x K (.exc c : M γ) := by subst h; exact ⟨.inr rfl⟩
theorem k_bind {x : Res α} {f : α → Env → Res β} {K : β → Env → M γ → Prop} {m : M γ} (h : Kx x (fun a δ m => Kx (f a δ) K m) m) : Kx (x.bind f) K m := by
  rcases h with ⟨h | h⟩
  · exact ⟨.inl h⟩
  · cases x with
    | ok a δ => exact h
    | exc c δ => exact ⟨.inr h⟩
    | bad => exact h.elim
theorem k_to {x y : Res α} {K : α → Env → M γ → Prop} {m : M γ} (e : x = y) (h : Kx y K m) : Kx x K m := e ▸ h
theorem k_mono {x : Res α} {K L : α → Env → M γ → Prop} {m : M γ} (h : Kx x K m) (f : ∀ a δ m, K a δ m → L a δ m) : Kx x L m := by
  rcases h with ⟨h | h⟩
  · exact ⟨.inl h⟩
  · cases x with
    | ok a δ => exact ⟨.inr (f _ _ _ h)⟩
    | exc c δ => exact ⟨.inr h⟩
    | bad => exact h.elim
/-- a step whose own result is m1 -/
theorem k_step {x : Res α} {m1 : M σ} {g : σ → M γ} {K : α → Env → M γ → Prop} (h : Kx x (fun a δ m => ∃ s, m = .ok s ∧ K a δ (g s)) m1) : Kx x K (m1.bind g) := by
  rcases h with ⟨rfl | h⟩
  · exact ⟨.inl rfl⟩
  · cases x with
    | ok a δ => obtain ⟨s, rfl, h⟩ := h; exact ⟨.inr h⟩
    | exc c δ => subst h; exact ⟨.inr rfl⟩
    | bad => exact h.elim
/-! ### encodings -/
abbrev eI : Int → D := .int
abbrev eB : Bool → D := .bool
abbrev eS : Str → D := .str
def eA : D → D := fun d => d
def eU : Unit → D := fun _ => .none
def eL (e : α → D) (xs : List α) : D := .list (xs.map e)
def eT (e : α → D) (xs : List α) : D := .tuple (xs.map e)
def eQ (q : Bool) (e : α → D) (xs : List α) : D := if q then eL e xs else eT e xs
def eP {α β : Type} (e : α → D) (f : β → D) (p : α × β) : D := .tuple [e p.1, f p.2]
def eP3 {α β γ : Type} (e : α → D) (f : β → D) (g : γ → D) (p : α × β × γ) : D := .tuple [e p.1, f p.2.1, g p.2.2]
def eP4 {α β γ σ : Type} (e : α → D) (f : β → D) (g : γ → D) (h : σ → D) (p : α × β × γ × σ) : D := .tuple [e p.1, f p.2.1, g p.2.2.1, h p.2.2.2]
def eO (e : α → D) : Option α → D
  | none => .none
  | some a => e a
def eD {κ ν : Type} (e : κ → D) (f : ν → D) (kvs : List (κ × ν)) : D := .dict (kvs.map fun p => (e p.1, f p.2))
/-- a slot of no matter: .. -/
def jk : Option D → Sl
  | none => .non
  | some d => .sh d
inductive J2 where | non | sh (d : D) | ow (d : D)
def jo : J2 → Sl
  | .non => .non
  | .sh d => .sh d
  | .ow d => .ow d
/-- owned or shared -/
def hd (b : Bool) (d : D) : Sl := if b then .ow d else .sh d
/-- not lent -/
def NIo : Sl → Prop
  | .io _ => False
  | _ => True
theorem nio_jk {o : Option D} : NIo (jk o) := by cases o <;> trivial
theorem nio_jo {o : J2} : NIo (jo o) := by cases o <;> trivial
def NOw : Sl → Prop
  | .io _ => False
  | .ow _ => False
  | _ => True
theorem now_jk {o : Option D} : NOw (jk o) := by cases o <;> trivial
theorem free_nil {δ : Env} : freeS δ [] = true := rfl
theorem free_cons {δ : Env} {i : Nat} {vs : List Nat} (h : NOw (getS δ i)) (h2 : freeS δ vs = true) : freeS δ (i :: vs) = true := by
  unfold freeS at h2 ⊢
  rw [List.all_cons, h2, Bool.and_true]
  cases q : getS δ i with
  | io d => rw [q] at h; exact h.elim
  | ow d => rw [q] at h; exact h.elim
  | non => rfl
  | sh d => rfl
theorem setS_ok {δ : Env} {i : Nat} {x : Sl} (h : NIo (getS δ i)) (h2 : Nat.blt i δ.length = true) : setS δ i x = some (δ.set i x) := by
  unfold setS
  cases q : getS δ i with
  | io d => rw [q] at h; exact h.elim
  | non => exact if_pos (Nat.blt_eq.mp h2)
  | sh d => exact if_pos (Nat.blt_eq.mp h2)
  | ow d => exact if_pos (Nat.blt_eq.mp h2)
theorem setR_sh {δ : Env} {i : Nat} {d : D} (h : NIo (getS δ i)) (h2 : Nat.blt i δ.length = true) : setR δ i (.sh d) = some (δ.set i (.sh d)) := setS_ok h h2
theorem setR_ow {δ : Env} {i : Nat} {d : D} (h : NIo (getS δ i)) (h2 : Nat.blt i δ.length = true) : setR δ i (.ow d) = some (δ.set i (.ow d)) := setS_ok h h2
theorem setR_brs {δ : Env} {i j : Nat} {d : D} (hj : getS δ j = .sh d) (h : NIo (getS δ i)) (h2 : Nat.blt i δ.length = true) : setR δ i (.br j) = some (δ.set i (.sh d)) := by
  simp only [setR, hj]; exact setS_ok h h2
theorem setR_bro {δ : Env} {i j : Nat} {d : D} (hj : getS δ j = .ow d) (h : NIo (getS (δ.set j .non) i)) (h2 : Nat.blt i (δ.set j .non).length = true) : setR δ i (.br j) = some ((δ.set j .non).set i (.ow d)) := by
  simp only [setR, hj]; exact setS_ok h h2
theorem asg_name {δ : Env} {i : Nat} {d : D} (h : NIo (getS δ i)) (h2 : Nat.blt i δ.length = true) : asg (.name i) d δ = some (δ.set i (.sh d)) := by rw [asg]; exact setS_ok h h2
theorem asg_tup {ts : Tgs} {ds : List D} {δ δ1 : Env} (h : asgs ts ds δ = some δ1) : asg (.tup ts) (.tuple ds) δ = some δ1 := by rw [asg]; exact h
theorem asgs_nil {δ : Env} : asgs .nil [] δ = some δ := by rw [asgs]
theorem asgs_cons {t : Tg} {ts : Tgs} {d : D} {ds : List D} {δ δ1 δ2 : Env} (h : asg t d δ = some δ1) (h2 : asgs ts ds δ1 = some δ2) : asgs (.cons t ts) (d :: ds) δ = some δ2 := by rw [asgs, h]; exact h2

/-! ### expressions that just compute -/
theorem p_sh {δ : Env} {i : Nat} {d : D} (h : getS δ i = .sh d) : ev (.var i) δ = .ok (.sh d) δ := by rw [ev, h]
theorem p_ow {δ : Env} {i : Nat} {d : D} (h : getS δ i = .ow d) : ev (.var i) δ = .ok (.br i) δ := by rw [ev, h]
theorem p_io {δ : Env} {i : Nat} {d : D} (h : getS δ i = .io d) : ev (.var i) δ = .ok (.br i) δ := by rw [ev, h]
theorem p_cst {δ : Env} {d : D} : ev (.cst d) δ = .ok (.sh d) δ := by rw [ev]
theorem p_glb {δ : Env} {x : Str} {d : D} : ev (.glb x d) δ = .ok (.sh d) δ := by rw [ev]
theorem p_op {o : Op} {args : Exs} {δ δ1 : Env} {rs : List RV} {ds : List D} {r : RV} (h : evs args δ = .ok rs δ1) (h2 : dats δ1 rs = some ds) (h3 : opD o ds = some r) : ev (.op o args) δ = .ok r δ1 := e_op h h2 h3
theorem p_and1 {c : Ex} {δ δ1 : Env} {b : Bool} (h : ev c δ = .ok (.sh (.bool b)) δ1) : evAnd (.cons c .nil) δ = .ok (.sh (.bool b)) δ1 := by rw [evAnd]; exact h
theorem p_andc {c d : Ex} {cs : Exs} {δ : Env} {a b : Bool} (h : ev c δ = .ok (.sh (.bool a)) δ) (h2 : evAnd (.cons d cs) δ = .ok (.sh (.bool b)) δ) : evAnd (.cons c (.cons d cs)) δ = .ok (.sh (.bool (a && b))) δ := by
  rw [evAnd, tst_ok h]
  · cases a
    · rfl
    · exact h2
  · intro q; cases q
theorem p_and {cs : Exs} {δ δ1 : Env} {r : RV} (h : evAnd cs δ = .ok r δ1) : ev (.and cs) δ = .ok r δ1 := by rw [ev]; exact h
theorem p_or1 {c : Ex} {δ δ1 : Env} {b : Bool} (h : ev c δ = .ok (.sh (.bool b)) δ1) : evOr (.cons c .nil) δ = .ok (.sh (.bool b)) δ1 := by rw [evOr]; exact h
theorem p_orc {c d : Ex} {cs : Exs} {δ : Env} {a b : Bool} (h : ev c δ = .ok (.sh (.bool a)) δ) (h2 : evOr (.cons d cs) δ = .ok (.sh (.bool b)) δ) : evOr (.cons c (.cons d cs)) δ = .ok (.sh (.bool (a || b))) δ := by
  rw [evOr, tst_ok h]
  · cases a
    · exact h2
    · rfl
  · intro q; cases q
theorem p_or {cs : Exs} {δ δ1 : Env} {r : RV} (h : evOr cs δ = .ok r δ1) : ev (.or cs) δ = .ok r δ1 := by rw [ev]; exact h
theorem p_not {c : Ex} {δ δ1 : Env} {b : Bool} (h : ev c δ = .ok (.sh (.bool b)) δ1) : ev (.not c) δ = .ok (.sh (.bool (!b))) δ1 := e_not h
theorem p_ite {c a b : Ex} {δ : Env} {x : Bool} {e : α → D} {s t : α} (hc : ev c δ = .ok (.sh (.bool x)) δ) (ha : ev a δ = .ok (.sh (e s)) δ) (hb : ev b δ = .ok (.sh (e t)) δ) : ev (.ite c a b) δ = .ok (.sh (e (if x then s else t))) δ := by
  rw [ev, tst_ok hc]
  cases x
  · exact hb
  · exact ha
theorem p_iteo {c a b : Ex} {δ : Env} {x : Bool} {e : α → D} {s t : α} (hc : ev c δ = .ok (.sh (.bool x)) δ) (ha : ev a δ = .ok (.ow (e s)) δ) (hb : ev b δ = .ok (.ow (e t)) δ) : ev (.ite c a b) δ = .ok (.ow (e (if x then s else t))) δ := by
  rw [ev, tst_ok hc]
  cases x
  · exact hb
  · exact ha
theorem tst_r {x : Res RV} {δ : Env} {b : Bool} (h : x = .ok (.sh (.bool b)) δ) : tst x = .ok b δ := by rw [h]; rfl
/-- what a comparison of ints says -/
def cmpB : Op → Int → Int → Bool
  | .lt, x, y => decide (x < y)
  | .le, x, y => decide (x ≤ y)
  | .gt, x, y => decide (y < x)
  | .ge, x, y => decide (y ≤ x)
  | .eq, x, y => x == y
  | _, x, y => x != y
theorem p_chain {a b c : Ex} {o o' : Op} {δ : Env} {x y : Bool} {ra rb rc : RV} {da db dc : D} (ha : ev a δ = .ok ra δ) (hb : ev b δ = .ok rb δ) (hc : ev c δ = .ok rc δ)
    (d1 : dats δ [hold ra, hold rb] = some [da, db]) (d2 : dats δ [hold rb, hold rc] = some [db, dc]) (h1 : opD o [da, db] = some (.sh (.bool x))) (h2 : opD o' [db, dc] = some (.sh (.bool y))) : ev (.chain a o b o' c) δ = .ok (.sh (.bool (x && y))) δ := by
  have e1 : eOp o [hold ra, hold rb] δ = .ok (.sh (.bool x)) δ := by unfold eOp; rw [d1]; show okR (opD o _) δ = _; rw [h1]; rfl
  have e2 : eOp o' [hold rb, hold rc] δ = .ok (.sh (.bool y)) δ := by unfold eOp; rw [d2]; show okR (opD o' _) δ = _; rw [h2]; rfl
  rw [ev, ha]
  simp only [Res.bind_ok]
  rw [hb]
  simp only [Res.bind_ok]
  rw [tst_r e1]
  simp only [Res.bind_ok]
  cases x
  · rfl
  · rw [if_pos rfl, hc]
    simp only [Res.bind_ok]
    rw [e2]; rfl
theorem p_tup {es : Exs} {δ δ1 δ2 : Env} {rs : List RV} {ds : List D} (h : evs es δ = .ok rs δ1) (h2 : frzs δ1 rs = some (ds, δ2)) (h3 : decide (ds.length ≤ big) = true) : ev (.tup es) δ = .ok (.sh (.tuple ds)) δ2 := by
  rw [ev, h]
  show shL (frzs δ1 rs) _ = _
  rw [h2]
  exact if_pos (of_decide_eq_true h3)
theorem p_lst {es : Exs} {δ δ1 δ2 : Env} {rs : List RV} {ds : List D} (h : evs es δ = .ok rs δ1) (h2 : frzs δ1 rs = some (ds, δ2)) (h3 : decide (ds.length ≤ big) = true) : ev (.lst es) δ = .ok (.ow (.list ds)) δ2 := by
  rw [ev, h]
  show shL (frzs δ1 rs) _ = _
  rw [h2]
  exact if_pos (of_decide_eq_true h3)
theorem p_re {e : Ex} {δ δ1 : Env} {r s : RV} (h : ev e δ = .ok r δ1) (q : r = s) : ev e δ = .ok s δ1 := q ▸ h

/-! ### expressions step by step -/
theorem k_es_nil {δ : Env} {K : List RV → Env → M γ → Prop} {m : M γ} (h : K [] δ m) : Kx (evs .nil δ) K m := k_eq (by rw [evs]) h
theorem k_es {e : Ex} {es : Exs} {δ : Env} {K : List RV → Env → M γ → Prop} {m : M γ} (h : Kx (ev e δ) (fun r δ1 m1 => Kx (evs es δ1) (fun rs δ2 m2 => K (hold r :: rs) δ2 m2) m1) m) : Kx (evs (.cons e es) δ) K m := by
  rw [evs]
  exact k_bind (k_mono h fun r δ1 m1 h1 => k_bind (k_mono h1 fun rs δ2 m2 h2 => k_eq rfl h2))
theorem k_op {o : Op} {args : Exs} {δ : Env} {K : RV → Env → M γ → Prop} {m : M γ} (h : Kx (evs args δ) (fun rs δ1 m1 => Kx (eOp o rs δ1) K m1) m) : Kx (ev (.op o args) δ) K m := by
  rw [ev]; exact k_bind h
/-- an operation's own step -/
def OpR0 (o : Op) (ds : List D) (m : M α) (r : α → RV) : Prop := match m with
  | .ok a => opD o ds = some (r a)
  | .exc _ => False
  | .bad => True
structure OpR (o : Op) (ds : List D) (m : M α) (r : α → RV) : Prop where
  h : OpR0 o ds m r
theorem k_opM {o : Op} {rs : List RV} {ds : List D} {δ : Env} {m : M α} {r : α → RV} {K : RV → Env → M γ → Prop} {k : α → M γ} (h : dats δ rs = some ds) (ho : OpR o ds m r) (hk : ∀ a, K (r a) δ (k a)) : Kx (eOp o rs δ) K (m.bind k) := by
  cases m with
  | ok a => exact k_eq (show eOp o rs δ = .ok (r a) δ by unfold eOp; rw [h]; show okR (opD o ds) δ = _; rw [show opD o ds = some (r a) from ho.h]; rfl) (hk a)
  | exc c => exact ho.h.elim
  | bad => exact k_bad
theorem k_opP {o : Op} {rs : List RV} {ds : List D} {δ : Env} {r : RV} {K : RV → Env → M γ → Prop} {m : M γ} (h : dats δ rs = some ds) (ho : opD o ds = some r) (hk : K r δ m) : Kx (eOp o rs δ) K m :=
  k_eq (show eOp o rs δ = .ok r δ by unfold eOp; rw [h]; show okR (opD o ds) δ = _; rw [ho]; rfl) hk
theorem k_not {c : Ex} {δ : Env} {K : RV → Env → M γ → Prop} {m : M γ} (h : Kx (ev c δ) (fun r δ1 m1 => ∃ b, r = .sh (.bool b) ∧ K (.sh (.bool (!b))) δ1 m1) m) : Kx (ev (.not c) δ) K m := by
  rw [ev]
  unfold tst
  exact k_bind (k_bind (k_mono h fun r δ1 m1 ⟨b, e, h1⟩ => by subst e; exact k_eq rfl (k_eq rfl h1)))
theorem k_tst {x : Res RV} {K : Bool → Env → M γ → Prop} {m : M γ} (h : Kx x (fun r δ1 m1 => ∃ b, r = .sh (.bool b) ∧ K b δ1 m1) m) : Kx (tst x) K m := by
  unfold tst
  exact k_bind (k_mono h fun r δ1 m1 ⟨b, e, h1⟩ => by subst e; exact k_eq rfl h1)
/-- the rest of an and / or, by what stands so far -/
def andK (b : Bool) (cs : Exs) (δ : Env) : Res RV := if b then evAnd cs δ else .ok (.sh (.bool false)) δ
def orK (b : Bool) (cs : Exs) (δ : Env) : Res RV := if b then .ok (.sh (.bool true)) δ else evOr cs δ
theorem k_and {cs : Exs} {δ : Env} {K : RV → Env → M γ → Prop} {m : M γ} (h : Kx (evAnd cs δ) K m) : Kx (ev (.and cs) δ) K m := by rw [ev]; exact h
theorem k_or {cs : Exs} {δ : Env} {K : RV → Env → M γ → Prop} {m : M γ} (h : Kx (evOr cs δ) K m) : Kx (ev (.or cs) δ) K m := by rw [ev]; exact h
theorem k_and1 {c : Ex} {δ : Env} {K : RV → Env → M γ → Prop} {m : M γ} (h : Kx (ev c δ) K m) : Kx (evAnd (.cons c .nil) δ) K m := by rw [evAnd]; exact h
theorem k_or1 {c : Ex} {δ : Env} {K : RV → Env → M γ → Prop} {m : M γ} (h : Kx (ev c δ) K m) : Kx (evOr (.cons c .nil) δ) K m := by rw [evOr]; exact h
theorem k_andc {c d : Ex} {cs : Exs} {δ : Env} {K : RV → Env → M γ → Prop} {m : M γ} (h : Kx (ev c δ) (fun r δ1 m1 => ∃ b, r = .sh (.bool b) ∧ Kx (andK b (.cons d cs) δ1) K m1) m) : Kx (evAnd (.cons c (.cons d cs)) δ) K m := by
  rw [evAnd]
  · exact k_bind (k_tst (k_mono h fun r δ1 m1 ⟨b, e, h1⟩ => ⟨b, e, h1⟩))
  · intro q; cases q
theorem k_orc {c d : Ex} {cs : Exs} {δ : Env} {K : RV → Env → M γ → Prop} {m : M γ} (h : Kx (ev c δ) (fun r δ1 m1 => ∃ b, r = .sh (.bool b) ∧ Kx (orK b (.cons d cs) δ1) K m1) m) : Kx (evOr (.cons c (.cons d cs)) δ) K m := by
  rw [evOr]
  · exact k_bind (k_tst (k_mono h fun r δ1 m1 ⟨b, e, h1⟩ => ⟨b, e, h1⟩))
  · intro q; cases q
/-- .. with steps of its own; the env stays -/
abbrev KB (δ : Env) : RV → Env → M Bool → Prop := fun r δ1 m => ∃ y, m = .ok y ∧ r = .sh (.bool y) ∧ δ1 = δ
theorem k_andM {x : Bool} {cs : Exs} {δ : Env} {mb : M Bool} {K : RV → Env → M γ → Prop} {k : Bool → M γ} (hb : x = true → Kx (evAnd cs δ) (KB δ) mb) (hk : ∀ y, K (.sh (.bool y)) δ (k y)) : Kx (andK x cs δ) K ((if x then mb else .ok false).bind k) := by
  unfold andK
  cases x
  · exact k_eq rfl (hk false)
  · exact k_step (k_mono (hb rfl) fun r δ1 m ⟨y, h1, h2, h3⟩ => ⟨y, h1, by subst h2; subst h3; exact hk y⟩)
theorem k_orM {x : Bool} {cs : Exs} {δ : Env} {mb : M Bool} {K : RV → Env → M γ → Prop} {k : Bool → M γ} (hb : x = false → Kx (evOr cs δ) (KB δ) mb) (hk : ∀ y, K (.sh (.bool y)) δ (k y)) : Kx (orK x cs δ) K ((if x then .ok true else mb).bind k) := by
  unfold orK
  cases x
  · exact k_step (k_mono (hb rfl) fun r δ1 m ⟨y, h1, h2, h3⟩ => ⟨y, h1, by subst h2; subst h3; exact hk y⟩)
  · exact k_eq rfl (hk true)
theorem k_andP {x y : Bool} {cs : Exs} {δ : Env} {K : RV → Env → M γ → Prop} {m : M γ} (hb : evAnd cs δ = .ok (.sh (.bool y)) δ) (hk : K (.sh (.bool (x && y))) δ m) : Kx (andK x cs δ) K m := by
  unfold andK
  cases x
  · exact k_eq rfl hk
  · exact k_eq hb hk
theorem k_orP {x y : Bool} {cs : Exs} {δ : Env} {K : RV → Env → M γ → Prop} {m : M γ} (hb : evOr cs δ = .ok (.sh (.bool y)) δ) (hk : K (.sh (.bool (x || y))) δ m) : Kx (orK x cs δ) K m := by
  unfold orK
  cases x
  · exact k_eq hb hk
  · exact k_eq rfl hk
/-- a if c else b: by cases -/
theorem k_ite {c a b : Ex} {δ : Env} {K : RV → Env → M γ → Prop} {m : M γ} (h : Kx (ev c δ) (fun r δ1 m1 => ∃ x, r = .sh (.bool x) ∧ Kx (if x then ev a δ1 else ev b δ1) K m1) m) : Kx (ev (.ite c a b) δ) K m := by
  rw [ev]
  exact k_bind (k_tst (k_mono h fun r δ1 m1 ⟨x, e, h1⟩ => ⟨x, e, h1⟩))
theorem k_iteM {x : Bool} {a b : Ex} {δ : Env} {ma mb : M α} {e : α → RV} {E : α → Env} {K : RV → Env → M γ → Prop} {k : α → M γ}
    (ha : x = true → Kx (ev a δ) (fun r δ1 m => ∃ y, m = .ok y ∧ r = e y ∧ δ1 = E y) ma) (hb : x = false → Kx (ev b δ) (fun r δ1 m => ∃ y, m = .ok y ∧ r = e y ∧ δ1 = E y) mb) (hk : ∀ y, K (e y) (E y) (k y)) : Kx (if x then ev a δ else ev b δ) K ((if x then ma else mb).bind k) := by
  cases x
  · exact k_step (k_mono (hb rfl) fun r δ1 m ⟨y, h1, h2, h3⟩ => ⟨y, h1, by subst h2; subst h3; exact hk y⟩)
  · exact k_step (k_mono (ha rfl) fun r δ1 m ⟨y, h1, h2, h3⟩ => ⟨y, h1, by subst h2; subst h3; exact hk y⟩)
theorem k_chain {a b c : Ex} {o o' : Op} {δ : Env} {K : RV → Env → M γ → Prop} {m : M γ}
    (h : Kx (ev a δ) (fun ra δ1 m1 => Kx (ev b δ1) (fun rb δ2 m2 => ∃ rc x y da db dc, ev c δ2 = .ok rc δ2 ∧ dats δ2 [hold ra, hold rb] = some [da, db] ∧ dats δ2 [hold rb, hold rc] = some [db, dc] ∧ opD o [da, db] = some (.sh (.bool x)) ∧ opD o' [db, dc] = some (.sh (.bool y)) ∧ K (.sh (.bool (x && y))) δ2 m2) m1) m) : Kx (ev (.chain a o b o' c) δ) K m := by
  rw [ev]
  refine k_bind (k_mono h fun ra δ1 m1 h1 => k_bind (k_mono h1 fun rb δ2 m2 ⟨rc, x, y, da, db, dc, hc, d1, d2, q1, q2, hk⟩ => ?_))
  have e1 : eOp o [hold ra, hold rb] δ2 = .ok (.sh (.bool x)) δ2 := by unfold eOp; rw [d1]; show okR (opD o _) δ2 = _; rw [q1]; rfl
  have e2 : eOp o' [hold rb, hold rc] δ2 = .ok (.sh (.bool y)) δ2 := by unfold eOp; rw [d2]; show okR (opD o' _) δ2 = _; rw [q2]; rfl
  rw [tst_r e1]
  refine k_bind (k_eq rfl ?_)
  cases x
  · exact k_eq rfl hk
  · rw [if_pos rfl, hc]
    exact k_bind (k_eq rfl (k_eq e2 hk))
theorem k_tup {es : Exs} {δ : Env} {K : RV → Env → M γ → Prop} {m : M γ} (h : Kx (evs es δ) (fun rs δ1 m1 => ∃ ds δ2, frzs δ1 rs = some (ds, δ2) ∧ decide (ds.length ≤ big) = true ∧ K (.sh (.tuple ds)) δ2 m1) m) : Kx (ev (.tup es) δ) K m := by
  rw [ev]
  refine k_bind (k_mono h fun rs δ1 m1 ⟨ds, δ2, h1, h2, h3⟩ => ?_)
  rw [h1]
  exact k_eq (if_pos (of_decide_eq_true h2)) h3
theorem k_lst {es : Exs} {δ : Env} {K : RV → Env → M γ → Prop} {m : M γ} (h : Kx (evs es δ) (fun rs δ1 m1 => ∃ ds δ2, frzs δ1 rs = some (ds, δ2) ∧ decide (ds.length ≤ big) = true ∧ K (.ow (.list ds)) δ2 m1) m) : Kx (ev (.lst es) δ) K m := by
  rw [ev]
  refine k_bind (k_mono h fun rs δ1 m1 ⟨ds, δ2, h1, h2, h3⟩ => ?_)
  rw [h1]
  exact k_eq (if_pos (of_decide_eq_true h2)) h3

/-! ### calls -/
def FR0 (f : FRes) (m : M α) (r : α → RV) : Prop := match m with
  | .ok a => f = .ok (r a)
  | .exc c => f = .exc c
  | .bad => True
def FRI0 (f : FResI) (m : M (α × σ)) (r : α → RV) (e : σ → D) : Prop := match m with
  | .ok a => f = .ok (r a.1) (e a.2)
  | .exc _ => False
  | .bad => True
structure FR (f : FRes) (m : M α) (r : α → RV) : Prop where
  h : FR0 f m r
structure FRI (f : FResI) (m : M (α × σ)) (r : α → RV) (e : σ → D) : Prop where
  h : FRI0 f m r e
theorem k_call {x : Str} {f : Fn} {args : Exs} {δ : Env} {K : RV → Env → M γ → Prop} {m : M γ} (h : Kx (evs args δ) (fun rs δ1 m1 => Kx (eCall f rs δ1) K m1) m) : Kx (ev (.call x f args) δ) K m := by
  rw [ev]; exact k_bind h
theorem k_callS {f : Fn} {rs : List RV} {ds : List D} {δ : Env} {mf : M α} {e : α → D} {K : RV → Env → M γ → Prop} {k : α → M γ} (h : dats δ rs = some ds) (hf : FR (f ds) mf fun a => .sh (e a)) (hs : ∀ a, scalar (e a) = true) (hk : ∀ a, K (.sh (e a)) δ (k a)) : Kx (eCall f rs δ) K (mf.bind k) := by
  cases mf with
  | ok a =>
    have hf' : f ds = .ok (.sh (e a)) := hf.h
    refine k_eq (a := .sh (e a)) (δ := δ) ?_ (hk a)
    unfold eCall
    rw [h]
    show (match f ds with | .ok (.sh d) => _ | .ok (.ow d) => _ | .ok (.br _) => _ | .exc c => _ | .bad => _) = _
    rw [hf']
    exact if_pos (hs a)
  | exc c =>
    have hf' : f ds = .exc c := hf.h
    refine k_exc (δ := δ) ?_
    unfold eCall
    rw [h]
    show (match f ds with | .ok (.sh d) => _ | .ok (.ow d) => _ | .ok (.br _) => _ | .exc c => _ | .bad => _) = _
    rw [hf']
  | bad => exact k_bad
/-- .. whose result is new, or shared and no scalar: owned arguments are shared from now on -/
def nsc : RV → Bool
  | .ow _ => true
  | .sh d => !scalar d
  | .br _ => false
theorem k_callO {f : Fn} {rs : List RV} {ds es : List D} {δ δ2 : Env} {mf : M α} {r : α → RV} {K : RV → Env → M γ → Prop} {k : α → M γ} (h : dats δ rs = some ds) (hf : FR (f ds) mf r) (hs : ∀ a, nsc (r a) = true) (hz : frzs δ rs = some (es, δ2)) (hk : ∀ a, K (r a) δ2 (k a)) : Kx (eCall f rs δ) K (mf.bind k) := by
  cases mf with
  | ok a =>
    have hf' : f ds = .ok (r a) := hf.h
    refine k_eq (a := r a) (δ := δ2) ?_ (hk a)
    have hsa := hs a
    unfold eCall
    rw [h]
    show (match f ds with | .ok (.sh d) => _ | .ok (.ow d) => _ | .ok (.br _) => _ | .exc c => _ | .bad => _) = _
    rw [hf']
    cases q : r a with
    | sh d =>
      rw [q] at hsa
      have hsd : scalar d = false := by
        cases z : scalar d with
        | false => rfl
        | true => have : (!scalar d) = true := hsa; rw [z] at this; cases this
      show (if scalar d = true then _ else _) = _
      rw [if_neg (by rw [hsd]; exact Bool.false_ne_true)]
      show (match frzs δ rs with | some (_, δ1) => _ | none => _) = _
      rw [hz]
    | ow d => show (match frzs δ rs with | some (_, δ1) => _ | none => _) = _; rw [hz]
    | br j => rw [q] at hsa; cases hsa
  | exc c =>
    have hf' : f ds = .exc c := hf.h
    refine k_exc (δ := δ) ?_
    unfold eCall
    rw [h]
    show (match f ds with | .ok (.sh d) => _ | .ok (.ow d) => _ | .ok (.br _) => _ | .exc c => _ | .bad => _) = _
    rw [hf']
  | bad => exact k_bad
theorem k_callI {x : Str} {f : FnI} {i : Nat} {args : Exs} {δ : Env} {K : RV → Env → M γ → Prop} {m : M γ} (ho : isOwn (getS δ i) = true) (h : Kx (evs args δ) (fun rs δ1 m1 => Kx (eCallI f i rs δ1) K m1) m) : Kx (ev (.callI x f i args) δ) K m := by
  rw [ev]
  unfold needOwn
  rw [if_pos ho]
  exact k_bind h
def nbr : RV → Prop
  | .br _ => False
  | _ => True
theorem k_callIM {f : FnI} {i : Nat} {rs : List RV} {ds : List D} {d0 : D} {δ δ2 : Env} {mf : M (α × σ)} {r : α → RV} {e : σ → D} {E : σ → Env} {K : RV → Env → M γ → Prop} {k : α × σ → M γ} (h : frzs δ rs = some (ds, δ2)) (h3 : ownS δ2 i = some d0) (hf : FRI (f d0 ds) mf r e) (hb : ∀ a, nbr (r a)) (hp : ∀ s, putS δ2 i (e s) = some (E s)) (hk : ∀ p : α × σ, K (r p.1) (E p.2) (k p)) : Kx (eCallI f i rs δ) K (mf.bind k) := by
  cases mf with
  | ok p =>
    have hf' : f d0 ds = .ok (r p.1) (e p.2) := hf.h
    refine k_eq (a := r p.1) (δ := E p.2) ?_ (hk p)
    have hb' := hb p.1
    unfold eCallI
    rw [h]
    show (match ownS δ2 i with | none => _ | some d0 => _) = _
    rw [h3]
    show (match f d0 ds with | .ok (.br _) _ => _ | .ok r d1 => _ | .exc c d1 => _ | .bad => _) = _
    rw [hf']
    cases q : r p.1 with
    | sh d => show (match putS δ2 i (e p.2) with | some δ2 => _ | none => _) = _; rw [hp]
    | ow d => show (match putS δ2 i (e p.2) with | some δ2 => _ | none => _) = _; rw [hp]
    | br j => rw [q] at hb'; exact hb'.elim
  | exc c => exact hf.h.elim
  | bad => exact k_bad
/-- pop -/
theorem k_pop {i : Nat} {args : Exs} {δ : Env} {ds : List D} {K : RV → Env → M γ → Prop} {m : M γ} (ho : ownS δ i = some (.list ds)) (h : Kx (evs args δ) (fun rs δ1 m1 => Kx (ePop i rs δ1) K m1) m) : Kx (ev (.pop i args) δ) K m := by
  rw [ev]
  unfold needL
  rw [ho]
  exact k_bind h
theorem erase_map (f : α → β) : ∀ (xs : List α) (n : Nat), (xs.map f).eraseIdx n = (xs.eraseIdx n).map f
  | [], _ => rfl
  | x :: xs, 0 => rfl
  | x :: xs, n + 1 => by
    show f x :: (xs.map f).eraseIdx n = f x :: (xs.eraseIdx n).map f
    rw [erase_map]
/-- xs.pop(i) -/
def popM (xs : List α) (i : Int) : M (α × List α) := if decide (-(2 ^ 63) ≤ i) && decide (i < 2 ^ 63) then (match ixN xs.length i with
  | some k => (match xs[k]? with
    | some x => .ok (x, xs.eraseIdx k)
    | none => .bad)
  | none => .bad) else .bad
theorem k_pop1 {i : Nat} {rs : List RV} {δ : Env} {e : α → D} {xs : List α} {j : Int} {E : List α → Env} {K : RV → Env → M γ → Prop} {k : α × List α → M γ} (h : dats δ rs = some [.int j]) (h3 : ownS δ i = some (eL e xs)) (hp : ∀ ys, putS δ i (eL e ys) = some (E ys)) (hk : ∀ p : α × List α, K (.sh (e p.1)) (E p.2) (k p)) : Kx (ePop i rs δ) K ((popM xs j).bind k) := by
  unfold popM
  by_cases hj : (decide (-(2 ^ 63) ≤ j) && decide (j < 2 ^ 63)) = true
  · rw [if_pos hj]
    cases q : ixN xs.length j with
    | none => exact k_bad
    | some n =>
      cases q2 : xs[n]? with
      | none => simp only [q2]; exact k_bad
      | some x =>
        simp only [q2]
        refine k_eq (a := .sh (e x)) (δ := E (xs.eraseIdx n)) ?_ (hk (x, xs.eraseIdx n))
        unfold ePop
        rw [h]
        show (match ownS δ i with | none => _ | some d => _) = _
        rw [h3]
        have e1 : popD (eL e xs) [.int j] = some (e x, eL e (xs.eraseIdx n)) := by
          show (if (decide (-(2 ^ 63) ≤ j) && decide (j < 2 ^ 63)) = true then _ else _) = _
          rw [if_pos hj, List.length_map, q]
          show ((xs.map e)[n]?).map _ = _
          rw [List.getElem?_map, q2]
          show some (e x, PyData.list ((xs.map e).eraseIdx n)) = _
          rw [erase_map]; rfl
        show (match popD (eL e xs) [.int j] with | none => _ | some (x, d') => _) = _
        rw [e1]
        show (match putS δ i (eL e (xs.eraseIdx n)) with | some δ1 => _ | none => _) = _
        rw [hp]
  · rw [if_neg hj]; exact k_bad
end
end DS
set_option linter.all false
set_option maxRecDepth 100000
set_option maxHeartbeats 4000000
/-! Layer S. Part 2: statements, loops, comprehensions. -/
namespace DS
open DL
open PySem (Str PyData)
section
variable {α β γ σ ρ : Type}
def seqK (ss : Sts) (K : Flow → Env → M γ → Prop) : Flow → Env → M γ → Prop
  | .next, δ, m => Kx (evSs ss δ) K m
  | f, δ, m => K f δ m
theorem seq_n {ss : Sts} {δ : Env} {K : Flow → Env → M γ → Prop} {m : M γ} (h : Kx (evSs ss δ) K m) : seqK ss K .next δ m := h
theorem k_nil {δ : Env} {K : Flow → Env → M γ → Prop} {m : M γ} (h : K .next δ m) : Kx (evSs .nil δ) K m := k_eq (by rw [evSs]) h
theorem k_cons {s : St} {ss : Sts} {δ : Env} {K : Flow → Env → M γ → Prop} {m : M γ} (h : Kx (evS s δ) (seqK ss K) m) : Kx (evSs (.cons s ss) δ) K m := by
  rw [evSs]
  refine k_bind (k_mono h fun f δ1 m1 h1 => ?_)
  cases f with
  | next => exact h1
  | brk => exact k_eq rfl h1
  | ret r => exact k_eq rfl h1
theorem k_opt {o : Option Env} {f : Env → Res Flow} {δ : Env} {K : Flow → Env → M γ → Prop} {m : M γ} (h : o = some δ) (k : Kx (f δ) K m) : Kx (opt o f) K m := by subst h; exact k
theorem k_set {i : Nat} {e : Ex} {ss : Sts} {δ : Env} {K : Flow → Env → M γ → Prop} {m : M γ} (h : Kx (ev e δ) (fun r δ1 m1 => ∃ δ2, setR δ1 i r = some δ2 ∧ Kx (evSs ss δ2) K m1) m) : Kx (evSs (.cons (.set i e) ss) δ) K m := by
  refine k_cons ?_
  rw [evS]
  exact k_bind (k_mono h fun r δ1 m1 ⟨δ2, h1, h2⟩ => k_opt h1 (k_eq rfl h2))
theorem k_setT {tg : Tg} {e : Ex} {ss : Sts} {δ : Env} {K : Flow → Env → M γ → Prop} {m : M γ} (h : Kx (ev e δ) (fun r δ1 m1 => ∃ d δ2 δ3, frz δ1 r = some (d, δ2) ∧ asg tg d δ2 = some δ3 ∧ Kx (evSs ss δ3) K m1) m) : Kx (evSs (.cons (.setT tg e) ss) δ) K m := by
  refine k_cons ?_
  rw [evS]
  refine k_bind (k_mono h fun r δ1 m1 ⟨d, δ2, δ3, h1, h2, h3⟩ => ?_)
  simp only [h1]
  exact k_opt h2 (k_eq rfl h3)
theorem k_ep_nil {δ : Env} {K : List RV → Env → M γ → Prop} {m : M γ} (h : K [] δ m) : Kx (evP .nil δ) K m := k_eq (by rw [evP]) h
theorem k_ep {e : Ex} {es : Exs} {δ : Env} {K : List RV → Env → M γ → Prop} {m : M γ} (h : Kx (ev e δ) (fun r δ1 m1 => Kx (evP es δ1) (fun rs δ2 m2 => K (r :: rs) δ2 m2) m1) m) : Kx (evP (.cons e es) δ) K m := by
  rw [evP]
  exact k_bind (k_mono h fun r δ1 m1 h1 => k_bind (k_mono h1 fun rs δ2 m2 h2 => k_eq rfl h2))
theorem k_par {is : List Nat} {es : Exs} {ss : Sts} {δ : Env} {K : Flow → Env → M γ → Prop} {m : M γ} (h : Kx (evP es δ) (fun rs δ1 m1 => ∃ δ2, parS is rs δ1 = some δ2 ∧ Kx (evSs ss δ2) K m1) m) : Kx (evSs (.cons (.par is es) ss) δ) K m := by
  refine k_cons ?_
  rw [evS]
  exact k_bind (k_mono h fun r δ1 m1 ⟨δ2, h1, h2⟩ => k_opt h1 (k_eq rfl h2))
theorem parS_nil {δ : Env} : parS [] [] δ = some δ := rfl
theorem parS_cons {i : Nat} {is : List Nat} {r : RV} {rs : List RV} {δ δ1 δ2 : Env} (h0 : rs.any (brOf i) = false) (h : setR δ i r = some δ1) (h2 : parS is rs δ1 = some δ2) : parS (i :: is) (r :: rs) δ = some δ2 := by
  unfold parS
  rw [if_neg (by rw [h0]; exact Bool.false_ne_true)]
  simp only [h]; exact h2
/-- the value to give back -/
def retS (δ : Env) : RV → Option (RV × Env)
  | .br i => match getS δ i with
    | .sh d => some (.sh d, δ)
    | .ow d => some (.ow d, δ.set i .non)
    | _ => none
  | r => some (r, δ)
theorem k_ret {e : Ex} {ss : Sts} {δ : Env} {K : Flow → Env → M γ → Prop} {m : M γ} (h : Kx (ev e δ) (fun r δ1 m1 => ∃ v δ2, retS δ1 r = some (v, δ2) ∧ K (.ret v) δ2 m1) m) : Kx (evSs (.cons (.ret e) ss) δ) K m := by
  refine k_cons ?_
  rw [evS]
  refine k_bind (k_mono h fun r δ1 m1 ⟨v, δ2, h1, h2⟩ => ?_)
  cases r with
  | sh d => cases h1; exact k_eq rfl h2
  | ow d => cases h1; exact k_eq rfl h2
  | br i =>
    unfold retS at h1
    cases q : getS δ1 i with
    | sh d => simp only [q] at h1 ⊢; cases h1; exact k_eq rfl h2
    | ow d => simp only [q] at h1 ⊢; cases h1; exact k_eq rfl h2
    | non => simp only [q] at h1; cases h1
    | io d => simp only [q] at h1; cases h1
theorem k_retN {ss : Sts} {δ : Env} {K : Flow → Env → M γ → Prop} {m : M γ} (h : K (.ret (.sh .none)) δ m) : Kx (evSs (.cons .retN ss) δ) K m := by
  refine k_cons ?_
  rw [evS]
  exact k_eq rfl h
theorem k_brk {ss : Sts} {δ : Env} {K : Flow → Env → M γ → Prop} {m : M γ} (h : K .brk δ m) : Kx (evSs (.cons .brk ss) δ) K m := by
  refine k_cons ?_
  rw [evS]
  exact k_eq rfl h
theorem k_raise {c : Str} {e : Ex} {ss : Sts} {δ δ1 : Env} {r : RV} {K : Flow → Env → M γ → Prop} (h : ev e δ = .ok r δ1) : Kx (evSs (.cons (.raise c e) ss) δ) K (.exc c : M γ) := by
  refine k_cons ?_
  rw [evS, h]
  exact k_exc rfl
theorem k_expr {e : Ex} {ss : Sts} {δ : Env} {K : Flow → Env → M γ → Prop} {m : M γ} (h : Kx (ev e δ) (fun r δ1 m1 => Kx (evSs ss δ1) K m1) m) : Kx (evSs (.cons (.expr e) ss) δ) K m := by
  refine k_cons ?_
  rw [evS]
  exact k_bind (k_mono h fun r δ1 m1 h1 => k_eq rfl h1)
/-- if: by cases, each way on its own -/
theorem k_ifs {c : Ex} {a b ss : Sts} {δ : Env} {K : Flow → Env → M γ → Prop} {m : M γ} (h : Kx (ev c δ) (fun r δ1 m1 => ∃ x, r = .sh (.bool x) ∧ Kx (if x then evSs a δ1 else evSs b δ1) (seqK ss K) m1) m) : Kx (evSs (.cons (.ifs c a b) ss) δ) K m := by
  refine k_cons ?_
  rw [evS]
  exact k_bind (k_tst h)
theorem k_if2 {x : Bool} {a b : Sts} {δ : Env} {L : Flow → Env → M γ → Prop} {ma mb : M γ} (h1 : x = true → Kx (evSs a δ) L ma) (h2 : x = false → Kx (evSs b δ) L mb) : Kx (if x then evSs a δ else evSs b δ) L (if x then ma else mb) := by
  cases x
  · exact h2 rfl
  · exact h1 rfl
theorem k_ifJ {x : Bool} {a b : Sts} {δ : Env} {L : Flow → Env → M γ → Prop} {ma mb : M σ} {k : σ → M γ} (J : σ → Env → Prop) (h1 : x = true → Kx (evSs a δ) (fun fl δ2 m => ∃ s, m = .ok s ∧ fl = .next ∧ J s δ2) ma) (h2 : x = false → Kx (evSs b δ) (fun fl δ2 m => ∃ s, m = .ok s ∧ fl = .next ∧ J s δ2) mb)
    (hk : ∀ s δ2, J s δ2 → L .next δ2 (k s)) : Kx (if x then evSs a δ else evSs b δ) L ((if x then ma else mb).bind k) := by
  cases x
  · exact k_step (k_mono (h2 rfl) fun r δ1 m ⟨y, e1, e2, e3⟩ => ⟨y, e1, by subst e2; exact hk _ _ e3⟩)
  · exact k_step (k_mono (h1 rfl) fun r δ1 m ⟨y, e1, e2, e3⟩ => ⟨y, e1, by subst e2; exact hk _ _ e3⟩)
/-- a block that may break or return -/
def FlK (I : σ → Env → Prop) (R : ρ → RV → Env → Prop) : Flow → Env → M (Fl σ ρ) → Prop
  | .next, δ, m => ∃ s, m = .ok (.next s) ∧ I s δ
  | .brk, δ, m => ∃ s, m = .ok (.brk s) ∧ I s δ
  | .ret v, δ, m => ∃ r, m = .ok (.ret r) ∧ R r v δ
/-- .. that does not break -/
def FlL (I : σ → Env → Prop) (R : ρ → RV → Env → Prop) : Flow → Env → M (Fl σ ρ) → Prop
  | .next, δ, m => ∃ s, m = .ok (.next s) ∧ I s δ
  | .brk, _, _ => False
  | .ret v, δ, m => ∃ r, m = .ok (.ret r) ∧ R r v δ
theorem k_ifF {x : Bool} {a b : Sts} {δ : Env} {L : Flow → Env → M γ → Prop} {ma mb : M (Fl σ ρ)} {k : Fl σ ρ → M γ} (J : σ → Env → Prop) (R : ρ → RV → Env → Prop) (h1 : x = true → Kx (evSs a δ) (FlL J R) ma) (h2 : x = false → Kx (evSs b δ) (FlL J R) mb)
    (hk : ∀ s δ2, J s δ2 → L .next δ2 (k (.next s))) (hr : ∀ r v δ2, R r v δ2 → L (.ret v) δ2 (k (.ret r))) : Kx (if x then evSs a δ else evSs b δ) L ((if x then ma else mb).bind k) := by
  have go : ∀ {y : Res Flow} {m : M (Fl σ ρ)}, Kx y (FlL J R) m → Kx y L (m.bind k) := fun {y m} h => k_step (k_mono h fun fl δ1 m q => by
    cases fl with
    | next => obtain ⟨s, e, j⟩ := q; exact ⟨_, e, hk _ _ j⟩
    | brk => exact q.elim
    | ret v => obtain ⟨s, e, j⟩ := q; exact ⟨_, e, hr _ _ _ j⟩)
  cases x
  · exact go (h2 rfl)
  · exact go (h1 rfl)
/-! ### loops -/
def forN (f : σ → α → M σ) : List α → σ → M σ
  | [], s => .ok s
  | x :: xs, s => (f s x).bind fun s' => forN f xs s'
def forF (f : σ → α → M (Fl σ ρ)) : List α → σ → M (Fl σ ρ)
  | [], s => .ok (.next s)
  | x :: xs, s => (f s x).bind fun o => match o with
    | .next s' => forF f xs s'
    | .brk s' => .ok (.next s')
    | .ret r => .ok (.ret r)
theorem forL_one {tg : Tg} {body : SEv} {d : D} {ds : List D} {δ δ1 : Env} (h : asg tg d δ = some δ1) : forL tg body (d :: ds) δ = (body δ1).bind fun f δ2 => match f with
      | .next => forL tg body ds δ2
      | .brk => .ok .next δ2
      | .ret r => .ok (.ret r) δ2 := by
  show (match asg tg d δ with
    | none => Res.bad
    | some δ1 => (body δ1).bind fun f δ2 => match f with
      | .next => forL tg body ds δ2
      | .brk => .ok .next δ2
      | .ret r => .ok (.ret r) δ2) = _
  rw [h]
theorem k_forN0 {tg : Tg} {body : Sts} {e : α → D} {f : σ → α → M σ} (I : σ → Env → Prop) (hs : ∀ s x δ, I s δ → ∃ δ1, asg tg (e x) δ = some δ1 ∧ Kx (evSs body δ1) (fun fl δ2 m => ∃ s', m = .ok s' ∧ fl = .next ∧ I s' δ2) (f s x)) :
    ∀ (xs : List α) (s : σ) (δ : Env), I s δ → Kx (forL tg (evSs body) (xs.map e) δ) (fun fl δ2 m => ∃ s', m = .ok s' ∧ fl = .next ∧ I s' δ2) (forN f xs s)
  | [], s, δ, h => k_eq rfl ⟨s, rfl, rfl, h⟩
  | x :: xs, s, δ, h => by
    obtain ⟨δ1, h1, h2⟩ := hs s x δ h
    show Kx (forL tg (evSs body) (e x :: xs.map e) δ) _ _
    rw [forL_one h1]
    refine k_bind (k_step (k_mono h2 fun fl δ2 m ⟨s', e1, e2, e3⟩ => ⟨s', e1, ?_⟩))
    subst e2
    exact k_forN0 I hs xs s' δ2 e3
theorem k_forN {tg : Tg} {body : Sts} {e : α → D} {f : σ → α → M σ} {xs : List α} {s : σ} {δ : Env} {K : Flow → Env → M γ → Prop} {k : σ → M γ} (I : σ → Env → Prop) (h0 : I s δ) (hs : ∀ s x δ, I s δ → ∃ δ1, asg tg (e x) δ = some δ1 ∧ Kx (evSs body δ1) (fun fl δ2 m => ∃ s', m = .ok s' ∧ fl = .next ∧ I s' δ2) (f s x))
    (hk : ∀ s δ, I s δ → K .next δ (k s)) : Kx (forL tg (evSs body) (xs.map e) δ) K ((forN f xs s).bind k) :=
  k_step (k_mono (k_forN0 I hs xs s δ h0) fun fl δ2 m ⟨s', e1, e2, e3⟩ => ⟨s', e1, by subst e2; exact hk _ _ e3⟩)
theorem k_forF0 {tg : Tg} {body : Sts} {e : α → D} {f : σ → α → M (Fl σ ρ)} (I : σ → Env → Prop) (R : ρ → RV → Env → Prop) (hs : ∀ s x δ, I s δ → ∃ δ1, asg tg (e x) δ = some δ1 ∧ Kx (evSs body δ1) (FlK I R) (f s x)) :
    ∀ (xs : List α) (s : σ) (δ : Env), I s δ → Kx (forL tg (evSs body) (xs.map e) δ) (FlL I R) (forF f xs s)
  | [], s, δ, h => k_eq rfl ⟨s, rfl, h⟩
  | x :: xs, s, δ, h => by
    obtain ⟨δ1, h1, h2⟩ := hs s x δ h
    show Kx (forL tg (evSs body) (e x :: xs.map e) δ) _ _
    rw [forL_one h1]
    refine k_bind (k_step (k_mono h2 fun fl δ2 m q => ?_))
    cases fl with
    | next => obtain ⟨s', e1, e3⟩ := q; exact ⟨_, e1, k_forF0 I R hs xs s' δ2 e3⟩
    | brk => obtain ⟨s', e1, e3⟩ := q; exact ⟨_, e1, k_eq rfl ⟨s', rfl, e3⟩⟩
    | ret v => obtain ⟨r, e1, e3⟩ := q; exact ⟨_, e1, k_eq rfl ⟨r, rfl, e3⟩⟩
theorem k_forF {tg : Tg} {body : Sts} {e : α → D} {f : σ → α → M (Fl σ ρ)} {xs : List α} {s : σ} {δ : Env} {K : Flow → Env → M γ → Prop} {k : Fl σ ρ → M γ} (I : σ → Env → Prop) (R : ρ → RV → Env → Prop) (h0 : I s δ) (hs : ∀ s x δ, I s δ → ∃ δ1, asg tg (e x) δ = some δ1 ∧ Kx (evSs body δ1) (FlK I R) (f s x))
    (hk : ∀ s δ, I s δ → K .next δ (k (.next s))) (hr : ∀ r v δ, R r v δ → K (.ret v) δ (k (.ret r))) : Kx (forL tg (evSs body) (xs.map e) δ) K ((forF f xs s).bind k) :=
  k_step (k_mono (k_forF0 I R hs xs s δ h0) fun fl δ2 m q => by
    cases fl with
    | next => obtain ⟨s', e1, e3⟩ := q; exact ⟨_, e1, hk _ _ e3⟩
    | brk => exact q.elim
    | ret v => obtain ⟨r, e1, e3⟩ := q; exact ⟨_, e1, hr _ _ _ e3⟩)
theorem k_for {tg : Tg} {src : Src} {body ss : Sts} {δ : Env} {K : Flow → Env → M γ → Prop} {m : M γ} (h : Kx (evI src δ) (fun items δ1 m1 => Kx (forL tg (evSs body) items δ1) (seqK ss K) m1) m) : Kx (evSs (.cons (.for_ tg src body) ss) δ) K m := by
  refine k_cons ?_
  rw [evS]
  exact k_bind h
def whileM (c : σ → M Bool) (f : σ → M σ) : Nat → σ → M σ
  | 0, _ => .bad
  | n + 1, s => (c s).bind fun b => if b then (f s).bind fun s' => whileM c f n s' else .ok s
theorem k_whl0 {c : Ex} {body : Sts} {cM : σ → M Bool} {f : σ → M σ} (I : σ → Env → Prop) (hc : ∀ s δ, I s δ → Kx (ev c δ) (fun r δ1 m => ∃ b, m = .ok b ∧ r = .sh (.bool b) ∧ I s δ1) (cM s)) (hb : ∀ s δ, I s δ → Kx (evSs body δ) (fun fl δ2 m => ∃ s', m = .ok s' ∧ fl = .next ∧ I s' δ2) (f s)) :
    ∀ (n : Nat) (s : σ) (δ : Env), I s δ → Kx (whileN (fun δ => tst (ev c δ)) (evSs body) n δ) (fun fl δ2 m => ∃ s', m = .ok s' ∧ fl = .next ∧ I s' δ2) (whileM cM f n s)
  | 0, s, δ, h => k_bad
  | n + 1, s, δ, h => by
    show Kx ((tst (ev c δ)).bind _) _ ((cM s).bind _)
    refine k_bind (k_step (k_tst (k_mono (hc s δ h) fun r δ1 m ⟨b, e1, e2, e3⟩ => ⟨b, e2, b, e1, ?_⟩)))
    cases b
    · exact k_eq rfl ⟨s, rfl, rfl, e3⟩
    · refine k_bind (k_step (k_mono (hb s δ1 e3) fun fl δ2 m ⟨s', q1, q2, q3⟩ => ⟨s', q1, ?_⟩))
      subst q2
      exact k_whl0 I hc hb n s' δ2 q3
theorem k_whl {c : Ex} {body ss : Sts} {δ : Env} {s : σ} {cM : σ → M Bool} {f : σ → M σ} {K : Flow → Env → M γ → Prop} {k : σ → M γ} (I : σ → Env → Prop) (h0 : I s δ) (hc : ∀ s δ, I s δ → Kx (ev c δ) (fun r δ1 m => ∃ b, m = .ok b ∧ r = .sh (.bool b) ∧ I s δ1) (cM s)) (hb : ∀ s δ, I s δ → Kx (evSs body δ) (fun fl δ2 m => ∃ s', m = .ok s' ∧ fl = .next ∧ I s' δ2) (f s))
    (hk : ∀ s δ, I s δ → Kx (evSs ss δ) K (k s)) : Kx (evSs (.cons (.whl c body) ss) δ) K ((whileM cM f turns s).bind k) := by
  refine k_cons ?_
  rw [evS]
  exact k_step (k_mono (k_whl0 I hc hb turns s δ h0) fun fl δ2 m ⟨s', e1, e2, e3⟩ => ⟨s', e1, by subst e2; exact hk _ _ e3⟩)
/-! ### what is gone through -/
theorem k_seq {e : Ex} {δ : Env} {K : List D → Env → M γ → Prop} {m : M γ} (h : Kx (ev e δ) (fun r δ1 m1 => ∃ d δ2 ds, frz δ1 r = some (d, δ2) ∧ itemsD d = some ds ∧ K ds δ2 m1) m) : Kx (evI (.seq e) δ) K m := by
  rw [evI]
  refine k_bind (k_mono h fun r δ1 m1 ⟨d, δ2, ds, h1, h2, h3⟩ => ?_)
  simp only [h1, h2]
  exact k_eq rfl h3
def rngI (a b : Int) : List Int := (List.range (b - a).toNat).map fun i => a + (i : Nat)
theorem rngD_eq (a b : Int) : rangeD a b = (rngI a b).map eI := by unfold rangeD rngI; rw [List.map_map]; rfl
def rngM (a b : Int) : M (List Int) := if decide (-(2 ^ 62) ≤ a) && decide (a < 2 ^ 62) && decide (-(2 ^ 62) ≤ b) && decide (b < 2 ^ 62) then .ok (rngI a b) else .bad
theorem k_eRng {a b : Int} {δ : Env} {K : List D → Env → M γ → Prop} {k : List Int → M γ} (h : K ((rngI a b).map eI) δ (k (rngI a b))) : Kx (eRng (.int a) (.int b) δ) K ((rngM a b).bind k) := by
  unfold rngM
  by_cases q : (decide (-(2 ^ 62) ≤ a) && decide (a < 2 ^ 62) && decide (-(2 ^ 62) ≤ b) && decide (b < 2 ^ 62)) = true
  · rw [if_pos q]
    refine k_eq (a := (rngI a b).map eI) (δ := δ) ?_ h
    unfold eRng
    dsimp only
    rw [if_pos q, rngD_eq]
  · rw [if_neg q]; exact k_bad
theorem k_rng1 {e : Ex} {δ : Env} {K : List D → Env → M γ → Prop} {m : M γ} (h : Kx (ev e δ) (fun r δ1 m1 => ∃ i, dat δ1 r = some (.int i) ∧ Kx (eRng (.int 0) (.int i) δ1) K m1) m) : Kx (evI (.rng1 e) δ) K m := by
  rw [evI]
  refine k_bind (k_mono h fun r δ1 m1 ⟨i, h1, h2⟩ => ?_)
  simp only [h1]; exact h2
theorem k_rng2 {a b : Ex} {δ : Env} {K : List D → Env → M γ → Prop} {m : M γ} (h : Kx (ev a δ) (fun r δ1 m1 => Kx (ev b δ1) (fun r2 δ2 m2 => ∃ i j, dats δ2 [hold r, hold r2] = some [.int i, .int j] ∧ Kx (eRng (.int i) (.int j) δ2) K m2) m1) m) : Kx (evI (.rng2 a b) δ) K m := by
  rw [evI]
  refine k_bind (k_mono h fun r δ1 m1 h1 => k_bind (k_mono h1 fun r2 δ2 m2 ⟨i, j, h2, h3⟩ => ?_))
  simp only [h2]; exact h3
def enumN : Nat → List α → List (Int × α)
  | _, [] => []
  | n, x :: xs => ((n : Int), x) :: enumN (n + 1) xs
theorem enumD_eq (e : α → D) : ∀ (n : Nat) (xs : List α), enumD n (xs.map e) = (enumN n xs).map (eP eI e)
  | _, [] => rfl
  | n, x :: xs => by show _ :: enumD (n + 1) (xs.map e) = _ :: _; rw [enumD_eq]; rfl
theorem k_enum {e : Ex} {δ : Env} {K : List D → Env → M γ → Prop} {m : M γ} (h : Kx (ev e δ) (fun r δ1 m1 => ∃ d δ2 ds, frz δ1 r = some (d, δ2) ∧ (d = .list ds ∨ d = .tuple ds) ∧ K (enumD 0 ds) δ2 m1) m) : Kx (evI (.enum e) δ) K m := by
  rw [evI]
  refine k_bind (k_mono h fun r δ1 m1 ⟨d, δ2, xs, h1, h2, h3⟩ => ?_)
  rcases h2 with rfl | rfl
  · simp only [h1]; exact k_eq rfl h3
  · simp only [h1]; exact k_eq rfl h3
theorem k_zip {es : Exs} {δ : Env} {K : List D → Env → M γ → Prop} {m : M γ} (h : Kx (evs es δ) (fun rs δ1 m1 => ∃ ds δ2 ls, frzs δ1 rs = some (ds, δ2) ∧ allItems ds = some ls ∧ K (zipD (zipLen ls) ls) δ2 m1) m) : Kx (evI (.zip es) δ) K m := by
  rw [evI]
  refine k_bind (k_mono h fun r δ1 m1 ⟨d, δ2, ds, h1, h2, h3⟩ => ?_)
  simp only [h1, h2]
  exact k_eq rfl h3
theorem zipD2 (e : α → D) (f : β → D) : ∀ (n : Nat) (xs : List α) (ys : List β), n = min xs.length ys.length → zipD n [xs.map e, ys.map f] = (xs.zip ys).map (eP e f)
  | 0, [], _, _ => rfl
  | 0, _ :: _, [], _ => rfl
  | n + 1, x :: xs, y :: ys, h => by
    have := zipD2 e f n xs ys (by simp only [List.length_cons] at h; omega)
    show PyData.tuple [e x, f y] :: zipD n [xs.map e, ys.map f] = _
    rw [this]; rfl
  | 0, x :: xs, y :: ys, h => by simp only [List.length_cons] at h; omega
  | n + 1, [], _, h => by simp at h
  | n + 1, _ :: _, [], h => by simp at h
theorem zipL2 (e : α → D) (f : β → D) (xs : List α) (ys : List β) : zipD (zipLen [xs.map e, ys.map f]) [xs.map e, ys.map f] = (xs.zip ys).map (eP e f) :=
  zipD2 e f _ xs ys (by show min (xs.map e).length (ys.map f).length = _; rw [List.length_map, List.length_map])
theorem zipD3 (e : α → D) (f : β → D) (g : σ → D) : ∀ (n : Nat) (xs : List α) (ys : List β) (zs : List σ), n = min (min xs.length ys.length) zs.length → zipD n [xs.map e, ys.map f, zs.map g] = (xs.zip (ys.zip zs)).map (eP3 e f g)
  | 0, [], _, _, _ => rfl
  | 0, _ :: _, [], _, _ => rfl
  | 0, _ :: _, _ :: _, [], _ => rfl
  | n + 1, x :: xs, y :: ys, z :: zs, h => by
    have := zipD3 e f g n xs ys zs (by simp only [List.length_cons] at h; omega)
    show PyData.tuple [e x, f y, g z] :: zipD n [xs.map e, ys.map f, zs.map g] = _
    rw [this]; rfl
  | 0, x :: xs, y :: ys, z :: zs, h => by simp only [List.length_cons] at h; omega
  | n + 1, [], _, _, h => by simp at h
  | n + 1, _ :: _, [], _, h => by simp at h
  | n + 1, _ :: _, _ :: _, [], h => by simp at h
theorem zipL3 (e : α → D) (f : β → D) (g : σ → D) (xs : List α) (ys : List β) (zs : List σ) : zipD (zipLen [xs.map e, ys.map f, zs.map g]) [xs.map e, ys.map f, zs.map g] = (xs.zip (ys.zip zs)).map (eP3 e f g) :=
  zipD3 e f g _ xs ys zs (by show min (min (xs.map e).length (ys.map f).length) (zs.map g).length = _; rw [List.length_map, List.length_map, List.length_map])
/-! ### comprehensions -/
def compGo (p : α → M Bool) (g : α → M β) : List α → M (List β)
  | [] => .ok []
  | x :: xs => (p x).bind fun b => if b then (g x).bind fun y => (compGo p g xs).bind fun ys => .ok (y :: ys) else compGo p g xs
def M.noExc (m : M α) : M α := match m with
  | .ok a => .ok a
  | _ => .bad
def compM (xs : List α) (p : α → M Bool) (g : α → M β) : M (List β) := if xs.length ≤ big then (compGo p g xs).noExc else .bad
theorem k_comp {src : Src} {own : List Nat} {tg : Tg} {test : Exs} {elt : Ex} {δ : Env} {K : RV → Env → M γ → Prop} {m : M γ} (h : Kx (evI src δ) (fun items δ1 m1 => Kx (eComp own tg (evTests test) (ev elt) items δ1) K m1) m) : Kx (ev (.comp src own tg test elt) δ) K m := by
  rw [ev]; exact k_bind h
theorem k_noExc {x : Res α} {K : α → Env → M γ → Prop} {m : M σ} {k : σ → M γ} (h : Kx x (fun a δ m => ∃ s, m = .ok s ∧ K a δ (k s)) m) : Kx (noExc x) K ((m.noExc).bind k) := by
  rcases h with ⟨rfl | h⟩
  · exact ⟨.inl rfl⟩
  · cases x with
    | ok a δ => obtain ⟨s, rfl, h⟩ := h; exact ⟨.inr h⟩
    | exc c δ => subst h; exact ⟨.inl rfl⟩
    | bad => exact h.elim
theorem compL_w {own : List Nat} {tg : Tg} {test : Env → Res Bool} {elt : Ev} : ∀ (ds : List D) {δ δ' : Env}, wipeS δ own = wipeS δ' own → compL own tg test elt ds δ = compL own tg test elt ds δ'
  | [], δ, δ', h => by show Res.ok [] (wipeS δ own) = _; rw [h]; rfl
  | d :: ds, δ, δ', h => by rw [compL_one, compL_one, h]
theorem k_compGo {own : List Nat} {tg : Tg} {test : Exs} {elt : Ex} {e : α → D} {e' : β → D} {p : α → M Bool} {g : α → M β} {δ : Env} (E1 : α → Env) (ha : ∀ x, asg tg (e x) (wipeS δ own) = some (E1 x)) (hw : ∀ x, wipeS (E1 x) own = wipeS δ own)
    (hp : ∀ x, Kx (evTests test (E1 x)) (fun b δ2 m => m = .ok b ∧ δ2 = E1 x) (p x)) (hg : ∀ x, Kx (ev elt (E1 x)) (fun r δ2 m => ∃ y, m = .ok y ∧ ∃ δ3, frz δ2 r = some (e' y, δ3) ∧ wipeS δ3 own = wipeS δ own) (g x)) :
    ∀ xs : List α, Kx (compL own tg (evTests test) (ev elt) (xs.map e) δ) (fun ds δ' m => ∃ ys, m = .ok ys ∧ ds = ys.map e' ∧ δ' = wipeS δ own) (compGo p g xs)
  | [] => k_eq rfl ⟨[], rfl, rfl, rfl⟩
  | x :: xs => by
    show Kx (compL own tg (evTests test) (ev elt) (e x :: xs.map e) δ) _ ((p x).bind _)
    rw [compL_one, ha x]
    refine k_bind (k_step (k_mono (hp x) fun b δ2 m ⟨h1, h2⟩ => ⟨b, h1, ?_⟩))
    subst h2
    cases b
    · rw [if_neg Bool.false_ne_true, if_neg Bool.false_ne_true, compL_w _ (hw x)]
      exact k_compGo E1 ha hw hp hg xs
    · rw [if_pos rfl, if_pos rfl]
      refine k_bind (k_step (k_mono (hg x) fun r δ2 m ⟨y, h1, δ3, h2, h3⟩ => ⟨y, h1, ?_⟩))
      simp only [h2]
      rw [compL_w _ h3]
      exact k_bind (k_step (k_mono (k_compGo E1 ha hw hp hg xs) fun ds δ' m ⟨ys, q1, q2, q3⟩ => ⟨ys, q1, k_eq rfl ⟨y :: ys, rfl, by rw [q2]; rfl, q3⟩⟩))
theorem k_compM {own : List Nat} {tg : Tg} {test : Exs} {elt : Ex} {e : α → D} {e' : β → D} {xs : List α} {p : α → M Bool} {g : α → M β} {δ : Env} {K : RV → Env → M γ → Prop} {k : List β → M γ} (E1 : α → Env) (hf : freeS δ own = true) (hr : restS δ (wipeS δ own) own = δ) (ha : ∀ x, asg tg (e x) (wipeS δ own) = some (E1 x)) (hw : ∀ x, wipeS (E1 x) own = wipeS δ own)
    (hp : ∀ x, Kx (evTests test (E1 x)) (fun b δ2 m => m = .ok b ∧ δ2 = E1 x) (p x)) (hg : ∀ x, Kx (ev elt (E1 x)) (fun r δ2 m => ∃ y, m = .ok y ∧ ∃ δ3, frz δ2 r = some (e' y, δ3) ∧ wipeS δ3 own = wipeS δ own) (g x)) (hk : ∀ ys, K (.ow (eL e' ys)) δ (k ys)) :
    Kx (eComp own tg (evTests test) (ev elt) (xs.map e) δ) K ((compM xs p g).bind k) := by
  unfold eComp compM
  by_cases q : xs.length ≤ big
  · rw [if_pos q, hf, List.length_map, decide_eq_true q, if_pos (by rfl)]
    exact k_noExc (k_bind (k_mono (k_compGo E1 ha hw hp hg xs) fun ds δ' m ⟨ys, q1, q2, q3⟩ => k_eq rfl ⟨ys, q1, by subst q2; subst q3; rw [hr]; exact hk ys⟩))
  · rw [if_neg q]; exact k_bad
theorem k_notest {δ : Env} : Kx (evTests .nil δ) (fun b δ2 m => m = .ok b ∧ δ2 = δ) (.ok true) := k_eq (by rw [evTests]) ⟨rfl, rfl⟩
theorem k_test {c : Ex} {δ : Env} {m : M Bool} (h : Kx (ev c δ) (KB δ) m) : Kx (evTests (.cons c .nil) δ) (fun b δ2 m => m = .ok b ∧ δ2 = δ) m := by
  rw [evTests]
  exact k_tst (k_mono h fun r δ1 m ⟨y, h1, h2, h3⟩ => ⟨y, h2, h1, h3⟩)
/-- .. with a state -/
def compSGo (g : σ → α → M (β × σ)) : List α → σ → M (List β × σ)
  | [], s => .ok ([], s)
  | x :: xs, s => (g s x).bind fun y => (compSGo g xs y.2).bind fun ys => .ok (y.1 :: ys.1, ys.2)
def compS (g : σ → α → M (β × σ)) (xs : List α) (s : σ) : M (List β × σ) := if xs.length ≤ big then (compSGo g xs s).noExc else .bad
theorem k_compSGo {own : List Nat} {tg : Tg} {elt : Ex} {e : α → D} {e' : β → D} {g : σ → α → M (β × σ)} (E : σ → Env) (E1 : σ → α → Env) (ha : ∀ s x, asg tg (e x) (wipeS (E s) own) = some (E1 s x))
    (hg : ∀ s x, Kx (ev elt (E1 s x)) (fun r δ2 m => ∃ y, m = .ok y ∧ ∃ δ3, frz δ2 r = some (e' y.1, δ3) ∧ wipeS δ3 own = wipeS (E y.2) own) (g s x)) :
    ∀ (xs : List α) (s : σ), Kx (compL own tg (evTests .nil) (ev elt) (xs.map e) (E s)) (fun ds δ' m => ∃ ys, m = .ok ys ∧ ds = ys.1.map e' ∧ δ' = wipeS (E ys.2) own) (compSGo g xs s)
  | [], s => k_eq rfl ⟨([], s), rfl, rfl, rfl⟩
  | x :: xs, s => by
    show Kx (compL own tg (evTests .nil) (ev elt) (e x :: xs.map e) (E s)) _ ((g s x).bind _)
    rw [compL_one, ha s x]
    dsimp only
    rw [show evTests .nil (E1 s x) = .ok true (E1 s x) by rw [evTests], Res.bind_ok, if_pos rfl]
    refine k_bind (k_step (k_mono (hg s x) fun r δ2 m ⟨y, h1, δ3, h2, h3⟩ => ⟨y, h1, ?_⟩))
    simp only [h2]
    rw [compL_w _ h3]
    exact k_bind (k_step (k_mono (k_compSGo E E1 ha hg xs y.2) fun ds δ' m ⟨ys, q1, q2, q3⟩ => ⟨ys, q1, k_eq rfl ⟨(y.1 :: ys.1, ys.2), rfl, by rw [q2]; rfl, q3⟩⟩))
theorem k_compS {own : List Nat} {tg : Tg} {elt : Ex} {e : α → D} {e' : β → D} {xs : List α} {s : σ} {g : σ → α → M (β × σ)} {K : RV → Env → M γ → Prop} {k : List β × σ → M γ} (E : σ → Env) (E1 : σ → α → Env) (hf : freeS (E s) own = true) (hr : ∀ s', restS (E s) (wipeS (E s') own) own = E s') (ha : ∀ s x, asg tg (e x) (wipeS (E s) own) = some (E1 s x))
    (hg : ∀ s x, Kx (ev elt (E1 s x)) (fun r δ2 m => ∃ y, m = .ok y ∧ ∃ δ3, frz δ2 r = some (e' y.1, δ3) ∧ wipeS δ3 own = wipeS (E y.2) own) (g s x)) (hk : ∀ p : List β × σ, K (.ow (eL e' p.1)) (E p.2) (k p)) :
    Kx (eComp own tg (evTests .nil) (ev elt) (xs.map e) (E s)) K ((compS g xs s).bind k) := by
  unfold eComp compS
  by_cases q : xs.length ≤ big
  · rw [if_pos q, hf, List.length_map, decide_eq_true q, if_pos (by rfl)]
    exact k_noExc (k_bind (k_mono (k_compSGo E E1 ha hg xs s) fun ds δ' m ⟨ys, q1, q2, q3⟩ => k_eq rfl ⟨ys, q1, by subst q2; subst q3; rw [hr]; exact hk ys⟩))
  · rw [if_neg q]; exact k_bad
/-! ### stores -/
def augK (o : Op) (x y : D) (i : Nat) (ss : Sts) (δ : Env) : Res Flow := match augD o x y with
  | some d => opt (setS δ i (.sh d)) (evSs ss)
  | none => .bad
theorem k_aug {i : Nat} {o : Op} {e : Ex} {ss : Sts} {x : D} {δ : Env} {K : Flow → Env → M γ → Prop} {m : M γ} (hx : getS δ i = .sh x) (h : Kx (ev e δ) (fun r δ1 m1 => ∃ y, dat δ1 r = some y ∧ Kx (augK o x y i ss δ1) K m1) m) : Kx (evSs (.cons (.aug i o e) ss) δ) K m := by
  refine k_cons ?_
  rw [evS]
  simp only [hx]
  refine k_bind (k_mono h fun r δ1 m1 ⟨y, h1, h2⟩ => ?_)
  simp only [h1]
  unfold augK at h2
  cases q : augD o x y with
  | none => simp only [q] at h2 ⊢; rcases h2 with ⟨h2 | h2⟩; exact ⟨.inl h2⟩; exact h2.elim
  | some d =>
    simp only [q] at h2 ⊢
    cases q2 : setS δ1 i (.sh d) with
    | none => simp only [q2] at h2 ⊢; rcases h2 with ⟨h2 | h2⟩; exact ⟨.inl h2⟩; exact h2.elim
    | some δ2 => simp only [q2] at h2 ⊢; exact k_eq rfl h2
theorem k_augP {o : Op} {x y d : D} {i : Nat} {ss : Sts} {δ δ2 : Env} {K : Flow → Env → M γ → Prop} {m : M γ} (h : augD o x y = some d) (h2 : setS δ i (.sh d) = some δ2) (hk : Kx (evSs ss δ2) K m) : Kx (augK o x y i ss δ) K m := by
  unfold augK; simp only [h]; exact k_opt h2 hk
def mulM (i j : Int) : M Int := if okMul i j then .ok (i * j) else .bad
theorem k_augMul {a b : Int} {i : Nat} {ss : Sts} {δ : Env} {K : Flow → Env → M γ → Prop} {k : Int → M γ} {E : Int → Env} (h2 : ∀ c, setS δ i (.sh (.int c)) = some (E c)) (hk : ∀ c, Kx (evSs ss (E c)) K (k c)) : Kx (augK .mul (.int a) (.int b) i ss δ) K ((mulM a b).bind k) := by
  unfold mulM
  cases q : okMul a b with
  | true => exact k_augP (show (if okMul a b then _ else _) = _ from if_pos q) (h2 _) (hk _)
  | false => exact k_bad
def setIM (xs : List α) (j : Int) (v : α) : M (List α) := match ixN xs.length j with
  | some n => .ok (xs.set n v)
  | none => .bad
theorem k_setI {i : Nat} {k e : Ex} {ss : Sts} {δ : Env} {K : Flow → Env → M γ → Prop} {m : M γ} (h : Kx (ev e δ) (fun r δ1 m1 => ∃ v δ2, frz δ1 r = some (v, δ2) ∧ isOwn (getS δ2 i) = true ∧ Kx (ev k δ2) (fun q δ3 m2 => ∃ kd δ4, frz δ3 q = some (kd, δ4) ∧ Kx (sSetI i kd v δ4) (seqK ss K) m2) m1) m) : Kx (evSs (.cons (.setI i k e) ss) δ) K m := by
  refine k_cons ?_
  rw [evS]
  refine k_bind (k_mono h fun r δ1 m1 ⟨v, δ2, h1, h2, h3⟩ => ?_)
  simp only [h1]
  unfold needOwn
  rw [if_pos h2]
  refine k_bind (k_mono h3 fun q δ3 m2 ⟨kd, δ4, h4, h5⟩ => ?_)
  simp only [h4]; exact h5
theorem setItem_map {e : α → D} {xs : List α} {j : Int} {n : Nat} {v : α} (h : ixN xs.length j = some n) : setItemD (eL e xs) (.int j) (e v) = some (eL e (xs.set n v)) := by
  show (ixN (xs.map e).length j).map _ = _
  rw [List.length_map, h]
  show some (PyData.list ((xs.map e).set n (e v))) = some (PyData.list ((xs.set n v).map e))
  rw [List.map_set]
theorem k_sSetI {i : Nat} {e : α → D} {xs : List α} {j : Int} {v : α} {δ : Env} {E : List α → Env} {L : Flow → Env → M γ → Prop} {k : List α → M γ} (h3 : ownS δ i = some (eL e xs)) (hp : ∀ ys, putS δ i (eL e ys) = some (E ys)) (hk : ∀ ys, L .next (E ys) (k ys)) : Kx (sSetI i (.int j) (e v) δ) L ((setIM xs j v).bind k) := by
  unfold setIM
  cases q : ixN xs.length j with
  | none => exact k_bad
  | some n =>
    refine k_eq (a := .next) (δ := E (xs.set n v)) ?_ (hk _)
    unfold sSetI
    simp only [h3, setItem_map q, hp]; rfl
def appM (xs : List α) (x : α) : M (List α) := if xs.length < big then .ok (xs ++ [x]) else .bad
theorem k_app {i : Nat} {e : Ex} {ss : Sts} {δ : Env} {ds0 : List D} {K : Flow → Env → M γ → Prop} {m : M γ} (h0 : ownS δ i = some (.list ds0)) (h : Kx (ev e δ) (fun r δ1 m1 => ∃ x δ2, frz δ1 r = some (x, δ2) ∧ Kx (match (ownS δ2 i).bind fun d => appD d x with | some d' => opt (putS δ2 i d') sNext | none => .bad) (seqK ss K) m1) m) : Kx (evSs (.cons (.app i e) ss) δ) K m := by
  refine k_cons ?_
  rw [evS]
  unfold needL
  rw [h0]
  refine k_bind (k_mono h fun r δ1 m1 ⟨x, δ2, h1, h2⟩ => ?_)
  simp only [h1]; exact h2
theorem k_appM {i : Nat} {e : α → D} {xs : List α} {v : α} {δ : Env} {E : List α → Env} {L : Flow → Env → M γ → Prop} {k : List α → M γ} (h3 : ownS δ i = some (eL e xs)) (hp : ∀ ys, putS δ i (eL e ys) = some (E ys)) (hk : ∀ ys, L .next (E ys) (k ys)) : Kx (match (ownS δ i).bind fun d => appD d (e v) with | some d' => opt (putS δ i d') sNext | none => .bad) L ((appM xs v).bind k) := by
  unfold appM
  by_cases q : xs.length < big
  · rw [if_pos q]
    refine k_eq (a := .next) (δ := E (xs ++ [v])) ?_ (hk _)
    have e1 : appD (eL e xs) (e v) = some (eL e (xs ++ [v])) := by
      show (if (xs.map e).length < big then _ else _) = _
      rw [List.length_map, if_pos q]
      show some (PyData.list (xs.map e ++ [e v])) = some (PyData.list ((xs ++ [v]).map e))
      rw [List.map_append]; rfl
    rw [h3]
    simp only [Option.bind_some, e1, hp]; rfl
  · rw [if_neg q]; exact k_bad
/-- xs[k] op= y, of ints -/
def augIM (f : Int → Int → Int) (xs : List Int) (j y : Int) : M (List Int) := match ixN xs.length j with
  | some n => (match xs[n]? with
    | some x => .ok (xs.set n (f x y))
    | none => .bad)
  | none => .bad
theorem k_augI {i : Nat} {k e : Ex} {o : Op} {f : Int → Int → Int} {ss : Sts} {δ : Env} {K : Flow → Env → M γ → Prop} {m : M γ} (ho : isOwn (getS δ i) = true) (hof : ∀ x y, augD o (.int x) (.int y) = some (.int (f x y)))
    (h : Kx (ev k δ) (fun q δ1 m1 => ∃ (j : Int) (δ2 : Env) (xs : List Int) (r : RV) (y : Int) (kk : List Int → M γ) (E : List Int → Env), frz δ1 q = some (.int j, δ2) ∧ ownS δ2 i = some (eL eI xs) ∧ ev e δ2 = .ok r δ2 ∧ dat δ2 r = some (.int y) ∧ (∀ ys, putS δ2 i (eL eI ys) = some (E ys)) ∧ m1 = (augIM f xs j y).bind kk ∧ ∀ ys, Kx (evSs ss (E ys)) K (kk ys)) m) : Kx (evSs (.cons (.augI i k o e) ss) δ) K m := by
  refine k_cons ?_
  rw [evS]
  unfold needOwn
  rw [if_pos ho]
  refine k_bind (k_mono h fun q δ1 m1 ⟨j, δ2, xs, r, y, kk, E, h1, h2, h3, h4, h5, h6, h7⟩ => ?_)
  subst h6
  simp only [h1]
  unfold augIM
  cases q1 : ixN xs.length j with
  | none => exact k_bad
  | some n =>
    cases q2 : xs[n]? with
    | none => simp only [q2]; exact k_bad
    | some x =>
      simp only [q2]
      have e1 : idxD (.list (xs.map eI)) (.int j) = some (.sh (.int x)) := by
        show (atI (xs.map eI) j).map RV.sh = _
        unfold atI
        rw [List.length_map, q1]
        show ((xs.map eI)[n]?).map RV.sh = _
        rw [List.getElem?_map, q2]; rfl
      have e2 : sSetI i (.int j) (.int (f x y)) δ2 = .ok .next (E (xs.set n (f x y))) := by
        unfold sSetI
        have := setItem_map (e := eI) (v := f x y) q1
        simp only [h2, h5]
        rw [show setItemD (eL eI xs) (.int j) (.int (f x y)) = _ from this]
        show opt (putS δ2 i (eL eI _)) sNext = _
        rw [h5]; rfl
      have e3 : ownS δ2 i = some (.list (xs.map eI)) := h2
      simp only [e3, e1, h3, Res.bind_ok, h4, hof]
      exact k_eq e2 (h7 _)
end
end DS
set_option linter.all false
set_option maxRecDepth 100000
set_option maxHeartbeats 4000000
/-! Layer S. Part 3: operations, defs. -/
namespace DS
open DL
open PySem (Str PyData)
section
variable {α β γ σ ρ : Type}
/-- an encoding that == sees -/
class Enc [DecidableEq α] (e : α → D) where
  eqv : ∀ a b, PyData.eqv (e a) (e b) = decide (a = b)
  pl : ∀ a, (e a).plain = true
  dp : Nat
  le : ∀ a, (e a).depth ≤ dp
/-- .. whose values are never None -/
class EnN (e : α → D) : Prop where
  l : ∀ a, PyData.eqv .none (e a) = false
  r : ∀ a, PyData.eqv (e a) .none = false
  n : ∀ a, isNone (e a) = false
instance : Enc eI := ⟨fun a b => by show PyData.eqv (.int a) (.int b) = _; simp only [PyData.eqv]; rw [Bool.eq_iff_iff]; simp, fun _ => by simp [PyData.plain], 0, fun a => by simp [PyData.depth]⟩
instance : Enc eB := ⟨fun a b => by show PyData.eqv (.bool a) (.bool b) = _; cases a <;> cases b <;> simp [PyData.eqv], fun _ => by simp [PyData.plain], 0, fun a => by simp [PyData.depth]⟩
theorem eqvAll_map [DecidableEq α] {e : α → D} [Enc e] : ∀ xs ys : List α, PyData.eqvAll (xs.map e) (ys.map e) = decide (xs = ys)
  | [], [] => by simp [PyData.eqvAll]
  | [], _ :: _ => by simp [PyData.eqvAll]
  | _ :: _, [] => by simp [PyData.eqvAll]
  | x :: xs, y :: ys => by
    show PyData.eqvAll (e x :: xs.map e) (e y :: ys.map e) = _
    rw [PyData.eqvAll, Enc.eqv, eqvAll_map, ← Bool.decide_and]
    exact decide_eq_decide.mpr (by simp)
theorem plainAll_map [DecidableEq α] {e : α → D} [Enc e] : ∀ xs : List α, PyData.plainAll (xs.map e) = true
  | [] => by simp [PyData.plainAll]
  | x :: xs => by show PyData.plainAll (e x :: xs.map e) = true; rw [PyData.plainAll, Enc.pl, plainAll_map]; rfl
theorem depthAll_map [DecidableEq α] {e : α → D} [q : Enc e] : ∀ xs : List α, PyData.depthAll (xs.map e) ≤ q.dp
  | [] => by simp [PyData.depthAll]
  | x :: xs => by
    show PyData.depthAll (e x :: xs.map e) ≤ _
    rw [PyData.depthAll]
    have := q.le x
    have := depthAll_map (e := e) xs
    omega
instance instT [DecidableEq α] {e : α → D} [q : Enc e] : Enc (eT e) := ⟨fun a b => by unfold eT; rw [PyData.eqv]; exact eqvAll_map a b, fun a => by unfold eT; rw [PyData.plain]; exact plainAll_map a, q.dp + 1, fun a => by unfold eT; rw [PyData.depth]; have := depthAll_map (e := e) a; omega⟩
instance instL [DecidableEq α] {e : α → D} [q : Enc e] : Enc (eL e) := ⟨fun a b => by unfold eL; rw [PyData.eqv]; exact eqvAll_map a b, fun a => by unfold eL; rw [PyData.plain]; exact plainAll_map a, q.dp + 1, fun a => by unfold eL; rw [PyData.depth]; have := depthAll_map (e := e) a; omega⟩
instance instP [DecidableEq α] [DecidableEq β] {e : α → D} {f : β → D} [q : Enc e] [r : Enc f] : Enc (eP e f) := ⟨fun a b => by
    unfold eP
    simp only [PyData.eqv, PyData.eqvAll, Enc.eqv, Bool.and_true]
    rw [← Bool.decide_and]
    exact decide_eq_decide.mpr (by rw [Prod.ext_iff]), fun a => by unfold eP; simp only [PyData.plain, PyData.plainAll, Enc.pl, Bool.and_self], max q.dp r.dp + 1, fun a => by unfold eP; simp only [PyData.depth, PyData.depthAll]; have := q.le a.1; have := r.le a.2; omega⟩
instance instP3 [DecidableEq α] [DecidableEq β] [DecidableEq σ] {e : α → D} {f : β → D} {g : σ → D} [q : Enc e] [r : Enc f] [s : Enc g] : Enc (eP3 e f g) := ⟨fun a b => by
    unfold eP3
    simp only [PyData.eqv, PyData.eqvAll, Enc.eqv, Bool.and_true]
    rw [← Bool.decide_and, ← Bool.decide_and]
    exact decide_eq_decide.mpr (by rw [Prod.ext_iff, Prod.ext_iff]), fun a => by unfold eP3; simp only [PyData.plain, PyData.plainAll, Enc.pl, Bool.and_self], max q.dp (max r.dp s.dp) + 1, fun a => by unfold eP3; simp only [PyData.depth, PyData.depthAll]; have := q.le a.1; have := r.le a.2.1; have := s.le a.2.2; omega⟩
instance : EnN eI := ⟨fun a => by show PyData.eqv .none (.int a) = _; simp [PyData.eqv], fun a => by show PyData.eqv (.int a) .none = _; simp [PyData.eqv], fun _ => rfl⟩
instance {e : α → D} : EnN (eT e) := ⟨fun a => by unfold eT; simp [PyData.eqv], fun a => by unfold eT; simp [PyData.eqv], fun _ => rfl⟩
instance {e : α → D} : EnN (eL e) := ⟨fun a => by unfold eL; simp [PyData.eqv], fun a => by unfold eL; simp [PyData.eqv], fun _ => rfl⟩
instance {e : α → D} {f : β → D} : EnN (eP e f) := ⟨fun a => by unfold eP; simp [PyData.eqv], fun a => by unfold eP; simp [PyData.eqv], fun _ => rfl⟩
instance instO [DecidableEq α] {e : α → D} [q : Enc e] [EnN e] : Enc (eO e) := ⟨fun a b => by
    cases a <;> cases b
    · show PyData.eqv .none .none = _; simp [PyData.eqv]
    · show PyData.eqv .none (e _) = _; rw [EnN.l]; simp
    · show PyData.eqv (e _) .none = _; rw [EnN.r]; simp
    · rename_i x y; show PyData.eqv (e x) (e y) = _; rw [q.eqv]; simp, fun a => by
    cases a
    · show PyData.plain .none = true; simp [PyData.plain]
    · exact q.pl _, q.dp, fun a => by
    cases a
    · show PyData.depth .none ≤ _; simp [PyData.depth]
    · exact q.le _⟩
theorem plainD_e [DecidableEq α] {e : α → D} [q : Enc e] (h : decide (q.dp ≤ 60) = true) (a : α) : plainD (e a) = true := by
  unfold plainD
  rw [q.pl, decide_eq_true (Nat.le_trans (q.le a) (of_decide_eq_true h))]; rfl
/-! ### ints -/
theorem op_addI (i j : Int) : opD .add [.int i, .int j] = some (.sh (.int (i + j))) := rfl
theorem op_subI (i j : Int) : opD .sub [.int i, .int j] = some (.sh (.int (i - j))) := rfl
theorem op_negI (i : Int) : opD .neg [.int i] = some (.sh (.int (-i))) := rfl
theorem op_ltI (i j : Int) : opD .lt [.int i, .int j] = some (.sh (.bool (decide (i < j)))) := rfl
theorem op_leI (i j : Int) : opD .le [.int i, .int j] = some (.sh (.bool (decide (i ≤ j)))) := rfl
theorem op_gtI (i j : Int) : opD .gt [.int i, .int j] = some (.sh (.bool (decide (j < i)))) := rfl
theorem op_geI (i j : Int) : opD .ge [.int i, .int j] = some (.sh (.bool (decide (j ≤ i)))) := rfl
theorem op_mx2 (i j : Int) : opD .mx2 [.int i, .int j] = some (.sh (.int (max i j))) := rfl
theorem op_mn2 (i j : Int) : opD .mn2 [.int i, .int j] = some (.sh (.int (min i j))) := rfl
theorem op_intI (i : Int) : opD .int [.int i] = some (.sh (.int i)) := rfl
theorem op_intB (b : Bool) : opD .int [.bool b] = some (.sh (.int (b2i b))) := rfl
theorem op_mul (i j : Int) : OpR .mul [.int i, .int j] (mulM i j) fun a => .sh (.int a) := by
  refine ⟨?_⟩; unfold mulM OpR0
  cases q : okMul i j
  · exact trivial
  · show mulD (.int i) (.int j) = _; exact if_pos q
def fdivM (i j : Int) : M Int := if 0 < j ∧ (j < 1073741824 ∨ (i.natAbs < 2 ^ 8000 ∧ j.natAbs < 2 ^ 8000)) then .ok (i / j) else .bad
theorem op_fdiv (i j : Int) : OpR .fdiv [.int i, .int j] (fdivM i j) fun a => .sh (.int a) := by
  refine ⟨?_⟩; unfold fdivM OpR0
  by_cases q : 0 < j ∧ (j < 1073741824 ∨ (i.natAbs < 2 ^ 8000 ∧ j.natAbs < 2 ^ 8000))
  · rw [if_pos q]; show fdivD (.int i) (.int j) = _; exact if_pos q
  · rw [if_neg q]; exact trivial
def modM (i j : Int) : M Int := if 0 < j then .ok (i % j) else .bad
theorem op_mod (i j : Int) : OpR .mod [.int i, .int j] (modM i j) fun a => .sh (.int a) := by
  refine ⟨?_⟩; unfold modM OpR0
  by_cases q : 0 < j
  · rw [if_pos q]; show modD (.int i) (.int j) = _; exact if_pos q
  · rw [if_neg q]; exact trivial
/-! ### ==, in -/
theorem op_eq [DecidableEq α] (e : α → D) [q : Enc e] (h : decide (q.dp ≤ 60) = true) (a b : α) : opD .eq [e a, e b] = some (.sh (.bool (decide (a = b)))) := by
  show eqD (e a) (e b) = _
  unfold eqD
  rw [plainD_e h, plainD_e h, Enc.eqv]; rfl
theorem op_ne [DecidableEq α] (e : α → D) [q : Enc e] (h : decide (q.dp ≤ 60) = true) (a b : α) : opD .ne [e a, e b] = some (.sh (.bool (!decide (a = b)))) := by
  show neD (e a) (e b) = _
  unfold neD
  rw [plainD_e h, plainD_e h, Enc.eqv]; rfl
theorem any_eqv [DecidableEq α] (e : α → D) [Enc e] (x : α) (xs : List α) : ((xs.map e).any fun z => PyData.eqv z (e x)) = decide (x ∈ xs) := by
  rw [List.any_map]
  have : ((fun z => PyData.eqv z (e x)) ∘ e) = fun z => decide (z = x) := funext fun z => Enc.eqv z x
  rw [this]
  induction xs with
  | nil => simp
  | cons y ys ih =>
    rw [List.any_cons, ih]
    by_cases h : y = x
    · simp [h]
    · have h' : ¬ x = y := fun e => h e.symm
      simp [h, h']
theorem op_inT [DecidableEq α] (e : α → D) [q : Enc e] (h : decide (q.dp + 1 ≤ 60) = true) (x : α) (xs : List α) : opD .isin [e x, eT e xs] = some (.sh (.bool (decide (x ∈ xs)))) := by
  show inD false (e x) (.tuple (xs.map e)) = _
  have h1 : plainD (e x) = true := plainD_e (decide_eq_true (by have := of_decide_eq_true h; omega)) x
  have h2 : plainD (.tuple (xs.map e)) = true := plainD_e (e := eT e) h xs
  unfold inD
  simp only [h1, h2, any_eqv]; simp [boolR]
theorem op_inL [DecidableEq α] (e : α → D) [q : Enc e] (h : decide (q.dp + 1 ≤ 60) = true) (x : α) (xs : List α) : opD .isin [e x, eL e xs] = some (.sh (.bool (decide (x ∈ xs)))) := by
  show inD false (e x) (.list (xs.map e)) = _
  have h1 : plainD (e x) = true := plainD_e (decide_eq_true (by have := of_decide_eq_true h; omega)) x
  have h2 : plainD (.list (xs.map e)) = true := plainD_e (e := eL e) h xs
  unfold inD
  simp only [h1, h2, any_eqv]; simp [boolR]
theorem op_ninT [DecidableEq α] (e : α → D) [q : Enc e] (h : decide (q.dp + 1 ≤ 60) = true) (x : α) (xs : List α) : opD .notin [e x, eT e xs] = some (.sh (.bool (!decide (x ∈ xs)))) := by
  show inD true (e x) (.tuple (xs.map e)) = _
  have h1 : plainD (e x) = true := plainD_e (decide_eq_true (by have := of_decide_eq_true h; omega)) x
  have h2 : plainD (.tuple (xs.map e)) = true := plainD_e (e := eT e) h xs
  unfold inD
  simp only [h1, h2, any_eqv]; simp [boolR]
theorem op_ninL [DecidableEq α] (e : α → D) [q : Enc e] (h : decide (q.dp + 1 ≤ 60) = true) (x : α) (xs : List α) : opD .notin [e x, eL e xs] = some (.sh (.bool (!decide (x ∈ xs)))) := by
  show inD true (e x) (.list (xs.map e)) = _
  have h1 : plainD (e x) = true := plainD_e (decide_eq_true (by have := of_decide_eq_true h; omega)) x
  have h2 : plainD (.list (xs.map e)) = true := plainD_e (e := eL e) h xs
  unfold inD
  simp only [h1, h2, any_eqv]; simp [boolR]
theorem op_isN (e : α → D) [EnN e] (o : Option α) : opD .is_ [eO e o, .none] = some (.sh (.bool o.isNone)) := by
  cases o
  · rfl
  · show boolR (xor false (isNone (e _))) = _; rw [EnN.n]; rfl
theorem op_isnN (e : α → D) [EnN e] (o : Option α) : opD .isnot [eO e o, .none] = some (.sh (.bool o.isSome)) := by
  cases o
  · rfl
  · show boolR (xor true (isNone (e _))) = _; rw [EnN.n]; rfl
/-! ### sequences -/
theorem atI_map (e : α → D) (xs : List α) (i : Int) : atI (xs.map e) i = (atI xs i).map e := by
  unfold atI
  rw [List.length_map]
  cases ixN xs.length i with
  | none => rfl
  | some n => show (xs.map e)[n]? = (xs[n]?).map e; rw [List.getElem?_map]
def idxM (xs : List α) (i : Int) : M α := match atI xs i with
  | some x => .ok x
  | none => .bad
theorem op_idxL (e : α → D) (xs : List α) (i : Int) : OpR .idx [eL e xs, .int i] (idxM xs i) fun a => .sh (e a) := by
  refine ⟨?_⟩; unfold idxM OpR0
  cases q : atI xs i with
  | none => exact trivial
  | some x => show (atI (xs.map e) i).map RV.sh = _; rw [atI_map, q]; rfl
theorem op_idxT (e : α → D) (xs : List α) (i : Int) : OpR .idx [eT e xs, .int i] (idxM xs i) fun a => .sh (e a) := by
  refine ⟨?_⟩; unfold idxM OpR0
  cases q : atI xs i with
  | none => exact trivial
  | some x => show (atI (xs.map e) i).map RV.sh = _; rw [atI_map, q]; rfl
theorem op_idxQ (b : Bool) (e : α → D) (xs : List α) (i : Int) : OpR .idx [eQ b e xs, .int i] (idxM xs i) fun a => .sh (e a) := by
  cases b
  · exact op_idxT e xs i
  · exact op_idxL e xs i
theorem op_p0 (e : α → D) (f : β → D) (p : α × β) : opD .idx [eP e f p, .int 0] = some (.sh (e p.1)) := rfl
theorem op_p1 (e : α → D) (f : β → D) (p : α × β) : opD .idx [eP e f p, .int 1] = some (.sh (f p.2)) := rfl
theorem op_lenL (e : α → D) (xs : List α) : opD .len [eL e xs] = some (.sh (.int xs.length)) := by show some (RV.sh (.int (xs.map e).length)) = _; rw [List.length_map]
theorem op_lenT (e : α → D) (xs : List α) : opD .len [eT e xs] = some (.sh (.int xs.length)) := by show some (RV.sh (.int (xs.map e).length)) = _; rw [List.length_map]
theorem op_lenQ (b : Bool) (e : α → D) (xs : List α) : opD .len [eQ b e xs] = some (.sh (.int xs.length)) := by
  cases b
  · exact op_lenT e xs
  · exact op_lenL e xs
theorem cut_map (e : α → D) (xs : List α) (lo hi : Option Int) : cut (xs.map e) lo hi = (cut xs lo hi).map e := by
  unfold cut
  rw [List.length_map, ← List.map_drop, ← List.map_take]
theorem op_slT00 (e : α → D) (xs : List α) : opD (.slc false false) [eT e xs] = some (.sh (eT e (cut xs none none))) := by show some (RV.sh (.tuple (cut (xs.map e) none none))) = _; rw [cut_map]; rfl
theorem op_slT10 (e : α → D) (xs : List α) (a : Int) : opD (.slc true false) [eT e xs, .int a] = some (.sh (eT e (cut xs (some a) none))) := by show some (RV.sh (.tuple (cut (xs.map e) _ none))) = _; rw [cut_map]; rfl
theorem op_slT01 (e : α → D) (xs : List α) (a : Int) : opD (.slc false true) [eT e xs, .int a] = some (.sh (eT e (cut xs none (some a)))) := by show some (RV.sh (.tuple (cut (xs.map e) none _))) = _; rw [cut_map]; rfl
theorem op_slT11 (e : α → D) (xs : List α) (a b : Int) : opD (.slc true true) [eT e xs, .int a, .int b] = some (.sh (eT e (cut xs (some a) (some b)))) := by show some (RV.sh (.tuple (cut (xs.map e) _ _))) = _; rw [cut_map]; rfl
theorem op_slL10 (e : α → D) (xs : List α) (a : Int) : opD (.slc true false) [eL e xs, .int a] = some (.ow (eL e (cut xs (some a) none))) := by show some (RV.ow (.list (cut (xs.map e) _ none))) = _; rw [cut_map]; rfl
theorem op_slL01 (e : α → D) (xs : List α) (a : Int) : opD (.slc false true) [eL e xs, .int a] = some (.ow (eL e (cut xs none (some a)))) := by show some (RV.ow (.list (cut (xs.map e) none _))) = _; rw [cut_map]; rfl
theorem op_slL11 (e : α → D) (xs : List α) (a b : Int) : opD (.slc true true) [eL e xs, .int a, .int b] = some (.ow (eL e (cut xs (some a) (some b)))) := by show some (RV.ow (.list (cut (xs.map e) _ _))) = _; rw [cut_map]; rfl
theorem op_revT (e : α → D) (xs : List α) : opD .rev [eT e xs] = some (.sh (eT e xs.reverse)) := by show some (RV.sh (.tuple (xs.map e).reverse)) = _; rw [← List.map_reverse]; rfl
theorem op_revL (e : α → D) (xs : List α) : opD .rev [eL e xs] = some (.ow (eL e xs.reverse)) := by show some (RV.ow (.list (xs.map e).reverse)) = _; rw [← List.map_reverse]; rfl
def catM (xs ys : List α) : M (List α) := if xs.length + ys.length ≤ big then .ok (xs ++ ys) else .bad
theorem op_catT (e : α → D) (xs ys : List α) : OpR .add [eT e xs, eT e ys] (catM xs ys) fun a => .sh (eT e a) := by
  refine ⟨?_⟩; unfold catM OpR0
  by_cases q : xs.length + ys.length ≤ big
  · rw [if_pos q]
    show (if (xs.map e).length + (ys.map e).length ≤ big then some (RV.sh (.tuple (xs.map e ++ ys.map e))) else none) = _
    rw [List.length_map, List.length_map, if_pos q, ← List.map_append]; rfl
  · rw [if_neg q]; exact trivial
theorem op_catL (e : α → D) (xs ys : List α) : OpR .add [eL e xs, eL e ys] (catM xs ys) fun a => .ow (eL e a) := by
  refine ⟨?_⟩; unfold catM OpR0
  by_cases q : xs.length + ys.length ≤ big
  · rw [if_pos q]
    show (if (xs.map e).length + (ys.map e).length ≤ big then some (RV.ow (.list (xs.map e ++ ys.map e))) else none) = _
    rw [List.length_map, List.length_map, if_pos q, ← List.map_append]; rfl
  · rw [if_neg q]; exact trivial
def repM (xs : List α) (k : Int) : M (List α) := if xs.length ≤ 1000 ∧ k ≤ 1000 ∧ -1000 ≤ k then .ok (List.replicate k.toNat xs).flatten else .bad
theorem rep_map (e : α → D) (xs : List α) : ∀ n, (List.replicate n (xs.map e)).flatten = ((List.replicate n xs).flatten).map e
  | 0 => rfl
  | n + 1 => by rw [List.replicate_succ, List.replicate_succ, List.flatten_cons, List.flatten_cons, List.map_append, rep_map]
theorem op_repT (e : α → D) (xs : List α) (k : Int) : OpR .mul [eT e xs, .int k] (repM xs k) fun a => .sh (eT e a) := by
  refine ⟨?_⟩; unfold repM OpR0
  by_cases q : xs.length ≤ 1000 ∧ k ≤ 1000 ∧ -1000 ≤ k
  · rw [if_pos q]
    show (if (xs.map e).length ≤ 1000 ∧ k ≤ 1000 ∧ -1000 ≤ k then some (RV.sh (.tuple (List.replicate k.toNat (xs.map e)).flatten)) else none) = _
    rw [List.length_map, if_pos q, rep_map]; rfl
  · rw [if_neg q]; exact trivial
theorem op_repL (e : α → D) (xs : List α) (k : Int) : OpR .mul [eL e xs, .int k] (repM xs k) fun a => .ow (eL e a) := by
  refine ⟨?_⟩; unfold repM OpR0
  by_cases q : xs.length ≤ 1000 ∧ k ≤ 1000 ∧ -1000 ≤ k
  · rw [if_pos q]
    show (if (xs.map e).length ≤ 1000 ∧ k ≤ 1000 ∧ -1000 ≤ k then some (RV.ow (.list (List.replicate k.toNat (xs.map e)).flatten)) else none) = _
    rw [List.length_map, if_pos q, rep_map]; rfl
  · rw [if_neg q]; exact trivial
theorem intsOf_map : ∀ xs : List Int, intsOf (xs.map eI) = some xs
  | [] => rfl
  | x :: xs => by show (intsOf (xs.map eI)).map (x :: ·) = _; rw [intsOf_map]; rfl
theorem op_sum (xs : List Int) : opD .sum [eL eI xs] = some (.sh (.int xs.sum)) := by show (intsOf (xs.map eI)).map _ = _; rw [intsOf_map]; rfl
def minM (xs : List Int) : M Int := match minI xs with
  | some m => .ok m
  | none => .bad
def maxM (xs : List Int) : M Int := match maxI xs with
  | some m => .ok m
  | none => .bad
theorem op_mn (xs : List Int) : OpR .mn [eL eI xs] (minM xs) fun a => .sh (.int a) := by
  refine ⟨?_⟩; unfold minM OpR0
  cases q : minI xs with
  | none => exact trivial
  | some m => show (intsOf (xs.map eI)).bind _ = _; rw [intsOf_map]; show (minI xs).map _ = _; rw [q]; rfl
theorem op_mx (xs : List Int) : OpR .mx [eL eI xs] (maxM xs) fun a => .sh (.int a) := by
  refine ⟨?_⟩; unfold maxM OpR0
  cases q : maxI xs with
  | none => exact trivial
  | some m => show (intsOf (xs.map eI)).bind _ = _; rw [intsOf_map]; show (maxI xs).map _ = _; rw [q]; rfl
/-- sorted, by the order of the data -/
def leE (e : α → D) (a b : α) : Bool := PySem.W.dataLe false id (e a) (e b)
def sortM (e : α → D) (xs : List α) : M (List α) := if alikeD (xs.map e) && shallowD (xs.map e) then .ok (xs.mergeSort (leE e)) else .bad
theorem sort_map (e : α → D) (xs : List α) : sortD (xs.map e) = (xs.mergeSort (leE e)).map e := by
  unfold sortD
  exact (List.map_mergeSort (f := e) (r := leE e) (s := PySem.W.dataLe false id) fun a _ b _ => rfl).symm
theorem op_sortL (e : α → D) (xs : List α) : OpR .sorted [eL e xs] (sortM e xs) fun a => .ow (eL e a) := by
  refine ⟨?_⟩; unfold sortM OpR0
  cases q : alikeD (xs.map e) && shallowD (xs.map e)
  · exact trivial
  · show (if (alikeD (xs.map e) && shallowD (xs.map e)) = true then some (RV.ow (.list (sortD (xs.map e)))) else none) = _
    rw [q, if_pos rfl, sort_map]; rfl
theorem op_sortT (e : α → D) (xs : List α) : OpR .sorted [eT e xs] (sortM e xs) fun a => .ow (eL e a) := by
  refine ⟨?_⟩; unfold sortM OpR0
  cases q : alikeD (xs.map e) && shallowD (xs.map e)
  · exact trivial
  · show (if (alikeD (xs.map e) && shallowD (xs.map e)) = true then some (RV.ow (.list (sortD (xs.map e)))) else none) = _
    rw [q, if_pos rfl, sort_map]; rfl
theorem op_listL (e : α → D) (xs : List α) : opD .list [eL e xs] = some (.ow (eL e xs)) := rfl
theorem op_listT (e : α → D) (xs : List α) : opD .list [eT e xs] = some (.ow (eL e xs)) := rfl
theorem op_tupL (e : α → D) (xs : List α) : opD .tuple [eL e xs] = some (.sh (eT e xs)) := rfl
theorem op_tupT (e : α → D) (xs : List α) : opD .tuple [eT e xs] = some (.sh (eT e xs)) := rfl
theorem boolsOf_map : ∀ xs : List Bool, boolsOf (xs.map eB) = some xs
  | [] => rfl
  | x :: xs => by show (boolsOf (xs.map eB)).map (x :: ·) = _; rw [boolsOf_map]; rfl
theorem op_all (xs : List Bool) : opD .all [eL eB xs] = some (.sh (.bool (xs.all id))) := by show (boolsOf (xs.map eB)).map _ = _; rw [boolsOf_map]; rfl
theorem op_any (xs : List Bool) : opD .any [eL eB xs] = some (.sh (.bool (xs.any id))) := by show (boolsOf (xs.map eB)).map _ = _; rw [boolsOf_map]; rfl
def rngOkM (a b : Int) : M (List Int) := if rangeOk a b then .ok (rngI a b) else .bad
theorem op_lrng1 (b : Int) : OpR .lrng1 [.int b] (rngOkM 0 b) fun a => .ow (eL eI a) := by
  refine ⟨?_⟩; unfold rngOkM OpR0
  cases q : rangeOk 0 b
  · exact trivial
  · show rngD false 0 b = _; unfold rngD; rw [q, rngD_eq]; rfl
theorem op_trng1 (b : Int) : OpR .trng1 [.int b] (rngOkM 0 b) fun a => .sh (eT eI a) := by
  refine ⟨?_⟩; unfold rngOkM OpR0
  cases q : rangeOk 0 b
  · exact trivial
  · show rngD true 0 b = _; unfold rngD; rw [q, rngD_eq]; rfl
theorem op_lrng2 (a b : Int) : OpR .lrng2 [.int a, .int b] (rngOkM a b) fun a => .ow (eL eI a) := by
  refine ⟨?_⟩; unfold rngOkM OpR0
  cases q : rangeOk a b
  · exact trivial
  · show rngD false a b = _; unfold rngD; rw [q, rngD_eq]; rfl
theorem op_trng2 (a b : Int) : OpR .trng2 [.int a, .int b] (rngOkM a b) fun a => .sh (eT eI a) := by
  refine ⟨?_⟩; unfold rngOkM OpR0
  cases q : rangeOk a b
  · exact trivial
  · show rngD true a b = _; unfold rngD; rw [q, rngD_eq]; rfl
theorem op_countT [DecidableEq α] (e : α → D) [q : Enc e] (h : decide (q.dp + 1 ≤ 60) = true) (xs : List α) (x : α) : opD .count [eT e xs, e x] = some (.sh (.int (xs.count x))) := by
  show countD (e x) (.tuple (xs.map e)) = _
  have h1 : plainD (e x) = true := plainD_e (decide_eq_true (by have := of_decide_eq_true h; omega)) x
  have h2 : plainD (.tuple (xs.map e)) = true := plainD_e (e := eT e) h xs
  unfold countD
  simp only [h1, h2, List.countP_map]
  rw [show ((fun z => PyData.eqv z (e x)) ∘ e) = fun z => z == x from funext fun z => (Enc.eqv z x).trans rfl]; rfl
theorem op_countL [DecidableEq α] (e : α → D) [q : Enc e] (h : decide (q.dp + 1 ≤ 60) = true) (xs : List α) (x : α) : opD .count [eL e xs, e x] = some (.sh (.int (xs.count x))) := by
  show countD (e x) (.list (xs.map e)) = _
  have h1 : plainD (e x) = true := plainD_e (decide_eq_true (by have := of_decide_eq_true h; omega)) x
  have h2 : plainD (.list (xs.map e)) = true := plainD_e (e := eL e) h xs
  unfold countD
  simp only [h1, h2, List.countP_map]
  rw [show ((fun z => PyData.eqv z (e x)) ∘ e) = fun z => z == x from funext fun z => (Enc.eqv z x).trans rfl]; rfl
theorem allItems2 (a b : Bool) (e : α → D) (f : β → D) (xs : List α) (ys : List β) : allItems [eQ a e xs, eQ b f ys] = some [xs.map e, ys.map f] := by cases a <;> cases b <;> rfl
theorem itemsQ (b : Bool) (e : α → D) (xs : List α) : itemsD (eQ b e xs) = some (xs.map e) := by cases b <;> rfl
theorem enQ (b : Bool) (e : α → D) (xs : List α) : eQ b e xs = .list (xs.map e) ∨ eQ b e xs = .tuple (xs.map e) := by cases b <;> simp [eQ, eL, eT]
/-- an Option's value -/
def getM (o : Option α) : M α := match o with
  | some a => .ok a
  | none => .bad
theorem k_get {o : Option α} {e : α → D} {δ : Env} {x : Ex} {K : RV → Env → M γ → Prop} {k : α → M γ} (h : ev x δ = .ok (.sh (eO e o)) δ) (hk : ∀ a, K (.sh (e a)) δ (k a)) : Kx (ev x δ) K ((getM o).bind k) := by
  cases o with
  | none => exact k_bad
  | some a => exact k_eq h (hk a)
/-! ### defs -/
def RK (r : α → RV) : Flow → Env → M α → Prop := fun fl _ m => ∃ a, m = .ok a ∧ (fl = .ret (r a) ∨ fl = .next ∧ r a = .sh .none)
def RKI (r : α → RV) (e : σ → D) : Flow → Env → M (α × σ) → Prop := fun fl δ m => ∃ a, m = .ok a ∧ fl = .ret (r a.1) ∧ getS δ 0 = .io (e a.2)
theorem fin_ret {r : α → RV} {a : α} {v : RV} {δ : Env} (h : v = r a) : RK r (.ret v) δ (.ok a) := ⟨a, rfl, .inl (by rw [h])⟩
theorem fin_next {r : α → RV} {a : α} {δ : Env} (h : r a = .sh .none) : RK r .next δ (.ok a) := ⟨a, rfl, .inr ⟨rfl, h⟩⟩
theorem fin_retI {r : α → RV} {e : σ → D} {a : α × σ} {v : RV} {δ : Env} (h : v = r a.1) (h2 : getS δ 0 = .io (e a.2)) : RKI r e (.ret v) δ (.ok a) := ⟨a, rfl, by rw [h], h2⟩
theorem fn_FR {np ns : Nat} {body : Sts} {ds : List D} {δ : Env} {m : M α} {r : α → RV} (hl : ds.length = np) (hb : ∀ a, nbr (r a)) (hd : startS ns (ds.map .sh) = δ) (h : Kx (evSs body δ) (RK r) m) : FR (mkFn np ns body ds) m r := by
  subst hd
  refine ⟨?_⟩
  unfold mkFn
  rw [if_pos hl]
  rcases h with ⟨rfl | h⟩
  · exact trivial
  · cases q : evSs body (startS ns (ds.map .sh)) with
    | ok fl δ =>
      rw [q] at h
      obtain ⟨a, rfl, h⟩ := h
      have hb' := hb a
      rcases h with rfl | ⟨rfl, h2⟩
      · show endF (.ok (.ret (r a)) δ) = .ok (r a)
        cases q2 : r a with
        | br j => rw [q2] at hb'; exact hb'.elim
        | sh d => rfl
        | ow d => rfl
      · show FRes.ok (.sh .none) = .ok (r a)
        rw [h2]
    | exc c δ => rw [q] at h; subst h; rfl
    | bad => rw [q] at h; exact h.elim
theorem fn_FRI {np ns : Nat} {body : Sts} {ds : List D} {d0 : D} {δ : Env} {m : M (α × σ)} {r : α → RV} {e : σ → D} (hl : ds.length + 1 = np) (hb : ∀ a, nbr (r a)) (hd : startS ns (.io d0 :: ds.map .sh) = δ) (h : Kx (evSs body δ) (RKI r e) m) : FRI (mkFnI np ns body d0 ds) m.noExc r e := by
  subst hd
  refine ⟨?_⟩
  unfold mkFnI
  rw [if_pos hl]
  rcases h with ⟨rfl | h⟩
  · exact trivial
  · cases q : evSs body (startS ns (.io d0 :: ds.map .sh)) with
    | ok fl δ =>
      rw [q] at h
      obtain ⟨a, rfl, rfl, h2⟩ := h
      have hb' := hb a.1
      show endI (.ok (.ret (r a.1)) δ) = .ok (r a.1) (e a.2)
      cases q2 : r a.1 with
      | br j => rw [q2] at hb'; exact hb'.elim
      | sh d => show (match getS δ 0 with | .io d => _ | _ => _) = _; rw [h2]
      | ow d => show (match getS δ 0 with | .io d => _ | _ => _) = _; rw [h2]
    | exc c δ => rw [q] at h; subst h; exact trivial
    | bad => rw [q] at h; exact h.elim
theorem k_nilS {ss : Sts} {δ : Env} {K : Flow → Env → M γ → Prop} {m : M γ} (h : Kx (evSs ss δ) K m) : Kx (evSs .nil δ) (seqK ss K) m := k_nil h
theorem k_lt {X : α → Res β} {K : β → Env → M γ → Prop} {t : α} {f : α → M γ} (h : ∀ x, Kx (X x) K (f x)) : Kx (X t) K (M.lt t f) := h t
end
end DS
set_option linter.all false
set_option Elab.async false
set_option maxRecDepth 100000
set_option maxHeartbeats 4000000
/-! Layer S. Part 4: the laws' generators, check_flight. -/
namespace DS
open DL
open PySem (Str PyData)
open Classical
/-- a draw -/
def S__law_draw (s : D) (size : Int) : M (Int × D) := match draw s [.int size] with
  | .ok (.sh (.int r)) s' => .ok (r, s')
  | _ => .bad
theorem R__law_draw (s : D) (size : Int) : FRI (f__law_draw s [.int size]) (S__law_draw s size) (fun a => .sh (.int a)) eA := by
  refine ⟨?_⟩
  show FRI0 (draw s [.int size]) _ _ _
  unfold S__law_draw
  cases q : draw s [.int size] with
  | ok r s' => cases r with
    | sh d => cases d <;> first | exact trivial | rfl
    | _ => exact trivial
  | _ => exact trivial
def S__law_source (cell turn : Int) : M D := match source [.int cell, .int turn] with
  | .ok (.ow s) => .ok s
  | _ => .bad
theorem R__law_source (cell turn : Int) : FR (f__law_source [.int cell, .int turn]) (S__law_source cell turn) (fun a => .ow a) := by
  refine ⟨?_⟩
  show FR0 (source [.int cell, .int turn]) _ _
  unfold S__law_source
  cases q : source [.int cell, .int turn] with
  | ok r => cases r <;> first | exact trivial | rfl
  | _ => exact trivial
/-- s can be drawn from n times more -/
def SOk (n : Int) (s : D) : Prop := SrcOk (1073741824 - n) s
theorem SOk.mono {n m : Int} {s : D} (h : SOk n s) (h2 : m ≤ n) : SOk m s := by
  obtain ⟨a, b, c, e, h0, h1, h3, h4⟩ := h
  exact ⟨a, b, c, e, h0, h1, h3, by omega⟩
theorem draw_sp {n size : Int} {s : D} (h : SOk n s) (hn : 0 ≤ n) (h1 : 1 ≤ size) (h2 : size < 1073741824) : ∃ r s', S__law_draw s size = .ok (r, s') ∧ 0 ≤ r ∧ r < size ∧ SOk (n - 1) s' := by
  obtain ⟨r, s', e, h3, h4, h5⟩ := draw_ok h (by omega) h1 h2
  refine ⟨r, s', ?_, h3, h4, ?_⟩
  · unfold S__law_draw; rw [e]
  · unfold SOk; rw [show 1073741824 - (n - 1) = 1073741824 - n + 1 by omega]; exact h5
theorem source_sp (cell turn : Int) (h : 0 ≤ turn) (h2 : turn ≤ 73741824) : ∃ s, S__law_source cell turn = .ok s ∧ SOk 1000000000 s := by
  obtain ⟨s, e, h1⟩ := source_ok cell turn h
  refine ⟨s, ?_, ?_⟩
  · unfold S__law_source; rw [e]
  · obtain ⟨a, b, c, e, h0, h1, h3, h4⟩ := h1
    exact ⟨a, b, c, e, h0, h1, h3, by omega⟩
/-- a choice -/
def S__law_choice {α : Type} (s : D) (xs : List α) : M (α × D) := (S__law_draw s xs.length).bind fun r => (idxM xs r.1).bind fun x => .ok (x, r.2)
theorem R__law_choice {α : Type} (e : α → D) (s : D) (xs : List α) : FRI (f__law_choice s [eL e xs]) (S__law_choice s xs) (fun a => .sh (e a)) eA := by
  have hn : ∀ m : M (α × D), (∀ c, m ≠ .exc c) → m.noExc = m := fun m h => by
    cases m with
    | exc c => exact absurd rfl (h c)
    | _ => rfl
  have h0 : ∀ c, S__law_choice s xs ≠ .exc c := fun c h => by
    unfold S__law_choice S__law_draw idxM at h
    repeat' split at h
    all_goals first | cases h | skip
    all_goals (simp only [M.bind_ok] at h; repeat' split at h)
    all_goals cases h
  rw [← hn _ h0]
  unfold f__law_choice
  refine fn_FRI (δ := [.io s, .sh (eL e xs)]) rfl (fun _ => trivial) rfl ?_
  unfold c__law_choice S__law_choice
  refine k_ret ?_
  refine k_op ?_
  refine k_es ?_
  refine k_eq (p_sh rfl) ?_
  refine k_es ?_
  refine k_callI rfl ?_
  refine k_es ?_
  refine k_eq (p_op (es_cons (p_sh rfl) es_nil) rfl (op_lenL e xs)) ?_
  refine k_es_nil ?_
  refine k_callIM (ds := [.int xs.length]) (δ2 := [.io s, .sh (eL e xs)]) (r := fun a => .sh (.int a)) (e := eA) (E := fun z => [.io z, .sh (eL e xs)]) rfl rfl (R__law_draw s xs.length) (fun _ => trivial) (fun _ => rfl) fun r => ?_
  refine k_es_nil ?_
  refine k_opM rfl (op_idxL e xs r.1) fun x => ?_
  refine ⟨_, [.io r.2, .sh (eL e xs)], rfl, ?_⟩
  exact fin_retI rfl rfl
theorem idxM_in {α : Type} {xs : List α} {i : Int} (h0 : 0 ≤ i) (h1 : i < xs.length) : ∃ x ∈ xs, idxM xs i = .ok x ∧ xs[i.toNat]? = some x := by
  have hl : i.toNat < xs.length := by omega
  refine ⟨xs[i.toNat], List.getElem_mem hl, ?_, List.getElem?_eq_getElem hl⟩
  unfold idxM atI ixN
  rw [if_pos h0, if_pos h1]
  show (match xs[i.toNat]? with | some x => M.ok x | none => M.bad) = _
  rw [List.getElem?_eq_getElem hl]
theorem choice_sp {α : Type} {n : Int} {s : D} {xs : List α} (h : SOk n s) (hn : 0 ≤ n) (h1 : xs ≠ []) (h2 : xs.length < 1073741824) : ∃ x ∈ xs, ∃ s', S__law_choice s xs = .ok (x, s') ∧ SOk (n - 1) s' := by
  have hp : 1 ≤ xs.length := List.length_pos_iff.mpr h1
  obtain ⟨r, s', e, h3, h4, h5⟩ := draw_sp (size := xs.length) h hn (by omega) (by omega)
  obtain ⟨x, hx, e2, _⟩ := idxM_in h3 h4
  exact ⟨x, hx, s', by unfold S__law_choice; rw [e]; simp only [M.bind_ok]; rw [e2]; rfl, h5⟩
/-- check_flight of a typed flight -/
noncomputable def S_check_flight (fl : List Int × List Int) : M Unit := if FlOk fl.1 fl.2 then .ok () else .bad
theorem R_check_flight (fl : List Int × List Int) : FR (f_check_flight [eP (eT eI) (eT eI) fl]) (S_check_flight fl) (fun _ => .sh .none) := by
  refine ⟨?_⟩
  unfold S_check_flight
  by_cases h : FlOk fl.1 fl.2
  · rw [if_pos h]; exact check_ok h
  · rw [if_neg h]; exact trivial
end DS
namespace DS
open DL
open PySem (Str PyData)
/-- is_between, of any value -/
def S_is_between (v : D) (lo hi : Int) : M Bool := match v with
  | .int i => .ok (decide (lo ≤ i) && decide (i ≤ hi))
  | .dict _ => .bad
  | _ => .ok false
theorem R_is_between (v : D) (lo hi : Int) : FR (f_is_between [v, .int lo, .int hi]) (S_is_between v lo hi) (fun a => .sh (.bool a)) := by
  refine ⟨?_⟩
  cases v with
  | int i =>
    show f_is_between [.int i, .int lo, .int hi] = .ok (.sh (.bool (decide (lo ≤ i) && decide (i ≤ hi))))
    show endF (evSs c_is_between [.sh (.int i), .sh (.int lo), .sh (.int hi)]) = _
    unfold c_is_between
    rw [ss_ret (s_ret (p_and (p_andc (p_op (es_cons (p_sh rfl) es_nil) rfl rfl) (p_andc (p_not (p_op (es_cons (p_sh rfl) es_nil) rfl rfl)) (p_and1 (e_chain_le (p_sh rfl) (p_sh rfl) (p_sh rfl)))))))]
    rfl
  | dict _ => exact trivial
  | _ => rfl
end DS
set_option linter.all false
set_option Elab.async false
set_option maxRecDepth 100000
set_option maxHeartbeats 4000000
namespace DS
open DL
open PySem (Str PyData)
noncomputable def S__law_flight (p_source : D) (p_classes : Int) (p_customers : Int) : M (((List Int) × (List Int)) × D) := M.noExc ((S__law_draw p_source p_classes).bind fun r1 => (S__law_draw r1.2 (p_customers + 1)).bind fun r2 => (S__law_choice r2.2 ([2, 3, 4, 9] : List Int)).bind fun r3 => (rngM 0 (1 + r1.1)).bind fun it4 => (compS (fun z6 x5 => (S__law_draw z6 r3.1).bind fun r7 => .ok (r7.1, r7.2)) it4 r3.2).bind fun ys8 => (S__law_choice ys8.2 ([1, 2, (1 + r1.1)] : List Int)).bind fun r9 => (rngM 0 r2.1).bind fun it10 => (compS (fun z12 x11 => (S__law_draw z12 (min r9.1 (1 + r1.1))).bind fun r13 => .ok (r13.1, r13.2)) it10 r9.2).bind fun ys14 => .ok ((ys8.1, ys14.1), ys14.2))
theorem R__law_flight (p_source : D) (p_classes : Int) (p_customers : Int) : FRI (f__law_flight p_source [(.int p_classes), (.int p_customers)]) (S__law_flight p_source p_classes p_customers) (fun a => .sh (eP (eT eI) (eT eI) a)) eA := by
  unfold S__law_flight f__law_flight
  refine fn_FRI (δ := [.io p_source, .sh (.int p_classes), .sh (.int p_customers), .non, .non, .non, .non, .non, .non, .non]) rfl (fun _ => trivial) rfl ?_
  unfold c__law_flight
  refine k_par ?_
  refine k_ep ?_
  refine k_op ?_
  refine k_es ?_
  refine k_eq p_cst ?_
  refine k_es ?_
  refine k_callI rfl ?_
  refine k_es ?_
  refine k_eq (p_sh rfl) ?_
  refine k_es_nil ?_
  refine k_callIM (ds := [(.int p_classes)]) (δ2 := [.io p_source, .sh (.int p_classes), .sh (.int p_customers), .non, .non, .non, .non, .non, .non, .non]) (r := fun a => .sh (.int a)) (e := eA) (E := fun z => [.io z, .sh (.int p_classes), .sh (.int p_customers), .non, .non, .non, .non, .non, .non, .non]) rfl rfl (R__law_draw p_source p_classes) (fun _ => trivial) (fun _ => rfl) fun r1 => ?_
  refine k_es_nil ?_
  refine k_opP rfl (op_addI 1 r1.1) ?_
  refine k_ep ?_
  refine k_callI rfl ?_
  refine k_es ?_
  refine k_eq (p_op (es_cons (p_sh rfl) (es_cons p_cst es_nil)) rfl (op_addI p_customers 1)) ?_
  refine k_es_nil ?_
  refine k_callIM (ds := [(.int (p_customers + 1))]) (δ2 := [.io r1.2, .sh (.int p_classes), .sh (.int p_customers), .non, .non, .non, .non, .non, .non, .non]) (r := fun a => .sh (.int a)) (e := eA) (E := fun z => [.io z, .sh (.int p_classes), .sh (.int p_customers), .non, .non, .non, .non, .non, .non, .non]) rfl rfl (R__law_draw r1.2 (p_customers + 1)) (fun _ => trivial) (fun _ => rfl) fun r2 => ?_
  refine k_ep_nil ?_
  refine ⟨[.io r2.2, .sh (.int p_classes), .sh (.int p_customers), .non, .non, .non, .sh (.int (1 + r1.1)), .sh (.int r2.1), .non, .non], (parS_cons rfl (setR_sh trivial rfl) (parS_cons rfl (setR_sh trivial rfl) parS_nil)), ?_⟩
  refine k_set ?_
  refine k_callI rfl ?_
  refine k_es ?_
  refine k_eq (p_re (p_lst (es_cons p_cst (es_cons p_cst (es_cons p_cst (es_cons p_cst es_nil)))) rfl rfl) (show _ = RV.ow (eL eI ([2, 3, 4, 9] : List Int)) from rfl)) ?_
  refine k_es_nil ?_
  refine k_callIM (ds := [(eL eI ([2, 3, 4, 9] : List Int))]) (δ2 := [.io r2.2, .sh (.int p_classes), .sh (.int p_customers), .non, .non, .non, .sh (.int (1 + r1.1)), .sh (.int r2.1), .non, .non]) (r := fun a => .sh (.int a)) (e := eA) (E := fun z => [.io z, .sh (.int p_classes), .sh (.int p_customers), .non, .non, .non, .sh (.int (1 + r1.1)), .sh (.int r2.1), .non, .non]) rfl rfl (R__law_choice eI r2.2 ([2, 3, 4, 9] : List Int)) (fun _ => trivial) (fun _ => rfl) fun r3 => ?_
  refine ⟨[.io r3.2, .sh (.int p_classes), .sh (.int p_customers), .sh (.int r3.1), .non, .non, .sh (.int (1 + r1.1)), .sh (.int r2.1), .non, .non], (setR_sh trivial rfl), ?_⟩
  refine k_set ?_
  refine k_op ?_
  refine k_es ?_
  refine k_comp ?_
  refine k_rng1 ?_
  refine k_eq (p_sh rfl) ?_
  refine ⟨_, rfl, ?_⟩
  refine k_eRng ?_
  generalize rngI 0 (1 + r1.1) = it4
  refine k_compS (e := eI) (e' := eI) (xs := it4) (s := r3.2) (E := fun z6 => [.io z6, .sh (.int p_classes), .sh (.int p_customers), .sh (.int r3.1), .non, .non, .sh (.int (1 + r1.1)), .sh (.int r2.1), .non, .non]) (E1 := fun z6 x5 => [.io z6, .sh (.int p_classes), .sh (.int p_customers), .sh (.int r3.1), .non, .non, .sh (.int (1 + r1.1)), .sh (.int r2.1), .sh (.int x5), .non]) (free_cons trivial free_nil) (fun _ => rfl) (fun _ _ => (asg_name trivial rfl)) ?_ ?_
  ·
    intro z6 x5
    refine k_callI rfl ?_
    refine k_es ?_
    refine k_eq (p_sh rfl) ?_
    refine k_es_nil ?_
    refine k_callIM (ds := [(.int r3.1)]) (δ2 := [.io z6, .sh (.int p_classes), .sh (.int p_customers), .sh (.int r3.1), .non, .non, .sh (.int (1 + r1.1)), .sh (.int r2.1), .sh (.int x5), .non]) (r := fun a => .sh (.int a)) (e := eA) (E := fun z => [.io z, .sh (.int p_classes), .sh (.int p_customers), .sh (.int r3.1), .non, .non, .sh (.int (1 + r1.1)), .sh (.int r2.1), .sh (.int x5), .non]) rfl rfl (R__law_draw z6 r3.1) (fun _ => trivial) (fun _ => rfl) fun r7 => ?_
    exact ⟨(_, _), rfl, _, rfl, rfl⟩
  intro ys8
  refine k_es_nil ?_
  refine k_opP rfl (op_tupL eI ys8.1) ?_
  refine ⟨[.io ys8.2, .sh (.int p_classes), .sh (.int p_customers), .sh (.int r3.1), .sh (eT eI ys8.1), .non, .sh (.int (1 + r1.1)), .sh (.int r2.1), .non, .non], (setR_sh trivial rfl), ?_⟩
  refine k_set ?_
  refine k_callI rfl ?_
  refine k_es ?_
  refine k_eq (p_re (p_lst (es_cons p_cst (es_cons p_cst (es_cons (p_sh rfl) es_nil))) rfl rfl) (show _ = RV.ow (eL eI ([1, 2, (1 + r1.1)] : List Int)) from rfl)) ?_
  refine k_es_nil ?_
  refine k_callIM (ds := [(eL eI ([1, 2, (1 + r1.1)] : List Int))]) (δ2 := [.io ys8.2, .sh (.int p_classes), .sh (.int p_customers), .sh (.int r3.1), .sh (eT eI ys8.1), .non, .sh (.int (1 + r1.1)), .sh (.int r2.1), .non, .non]) (r := fun a => .sh (.int a)) (e := eA) (E := fun z => [.io z, .sh (.int p_classes), .sh (.int p_customers), .sh (.int r3.1), .sh (eT eI ys8.1), .non, .sh (.int (1 + r1.1)), .sh (.int r2.1), .non, .non]) rfl rfl (R__law_choice eI ys8.2 ([1, 2, (1 + r1.1)] : List Int)) (fun _ => trivial) (fun _ => rfl) fun r9 => ?_
  refine ⟨[.io r9.2, .sh (.int p_classes), .sh (.int p_customers), .sh (.int r3.1), .sh (eT eI ys8.1), .sh (.int r9.1), .sh (.int (1 + r1.1)), .sh (.int r2.1), .non, .non], (setR_sh trivial rfl), ?_⟩
  refine k_ret ?_
  refine k_tup ?_
  refine k_es ?_
  refine k_eq (p_sh rfl) ?_
  refine k_es ?_
  refine k_op ?_
  refine k_es ?_
  refine k_comp ?_
  refine k_rng1 ?_
  refine k_eq (p_sh rfl) ?_
  refine ⟨_, rfl, ?_⟩
  refine k_eRng ?_
  generalize rngI 0 r2.1 = it10
  refine k_compS (e := eI) (e' := eI) (xs := it10) (s := r9.2) (E := fun z12 => [.io z12, .sh (.int p_classes), .sh (.int p_customers), .sh (.int r3.1), .sh (eT eI ys8.1), .sh (.int r9.1), .sh (.int (1 + r1.1)), .sh (.int r2.1), .non, .non]) (E1 := fun z12 x11 => [.io z12, .sh (.int p_classes), .sh (.int p_customers), .sh (.int r3.1), .sh (eT eI ys8.1), .sh (.int r9.1), .sh (.int (1 + r1.1)), .sh (.int r2.1), .non, .sh (.int x11)]) (free_cons trivial free_nil) (fun _ => rfl) (fun _ _ => (asg_name trivial rfl)) ?_ ?_
  ·
    intro z12 x11
    refine k_callI rfl ?_
    refine k_es ?_
    refine k_eq (p_op (es_cons (p_sh rfl) (es_cons (p_sh rfl) es_nil)) rfl (op_mn2 r9.1 (1 + r1.1))) ?_
    refine k_es_nil ?_
    refine k_callIM (ds := [(.int (min r9.1 (1 + r1.1)))]) (δ2 := [.io z12, .sh (.int p_classes), .sh (.int p_customers), .sh (.int r3.1), .sh (eT eI ys8.1), .sh (.int r9.1), .sh (.int (1 + r1.1)), .sh (.int r2.1), .non, .sh (.int x11)]) (r := fun a => .sh (.int a)) (e := eA) (E := fun z => [.io z, .sh (.int p_classes), .sh (.int p_customers), .sh (.int r3.1), .sh (eT eI ys8.1), .sh (.int r9.1), .sh (.int (1 + r1.1)), .sh (.int r2.1), .non, .sh (.int x11)]) rfl rfl (R__law_draw z12 (min r9.1 (1 + r1.1))) (fun _ => trivial) (fun _ => rfl) fun r13 => ?_
    exact ⟨(_, _), rfl, _, rfl, rfl⟩
  intro ys14
  refine k_es_nil ?_
  refine k_opP rfl (op_tupL eI ys14.1) ?_
  refine k_es_nil ?_
  refine ⟨_, [.io ys14.2, .sh (.int p_classes), .sh (.int p_customers), .sh (.int r3.1), .sh (eT eI ys8.1), .sh (.int r9.1), .sh (.int (1 + r1.1)), .sh (.int r2.1), .non, .non], rfl, rfl, ?_⟩
  refine ⟨_, [.io ys14.2, .sh (.int p_classes), .sh (.int p_customers), .sh (.int r3.1), .sh (eT eI ys8.1), .sh (.int r9.1), .sh (.int (1 + r1.1)), .sh (.int r2.1), .non, .non], rfl, ?_⟩
  exact fin_retI rfl rfl
noncomputable def S_flows_for (p_capacities : List Int) (p_demands : List Int) : M (List Int) := M.lt ([] : List Int) fun found1 => (forN (fun (s3 : ((List Int) × Int)) x2 => M.lt (max 0 ((s3.2 + x2.2) - x2.1)) fun before5 => (appM s3.1 before5).bind fun found6 => .ok (found6, before5)) (List.zip p_capacities p_demands) (found1, 0)).bind fun s7 => .ok s7.1
theorem R_flows_for (q1 : Bool) (q2 : Bool) (p_capacities : List Int) (p_demands : List Int) : FR (f_flows_for [(eQ q1 eI p_capacities), (eQ q2 eI p_demands)]) (S_flows_for p_capacities p_demands) (fun a => .ow (eL eI a)) := by
  unfold S_flows_for f_flows_for
  refine fn_FR (δ := [.sh (eQ q1 eI p_capacities), .sh (eQ q2 eI p_demands), .non, .non, .non, .non]) rfl (fun _ => trivial) rfl ?_
  unfold c_flows_for
  refine k_par ?_
  refine k_ep ?_
  refine k_eq (p_re (p_lst es_nil rfl rfl) (show _ = RV.ow (eL eI ([] : List Int)) from rfl)) ?_
  refine k_ep ?_
  refine k_eq p_cst ?_
  refine k_ep_nil ?_
  refine ⟨[.sh (eQ q1 eI p_capacities), .sh (eQ q2 eI p_demands), .ow (eL eI ([] : List Int)), .sh (.int 0), .non, .non], (parS_cons rfl (setR_ow trivial rfl) (parS_cons rfl (setR_sh trivial rfl) parS_nil)), ?_⟩
  refine k_lt (X := fun found1 => evSs _ [.sh (eQ q1 eI p_capacities), .sh (eQ q2 eI p_demands), .ow (eL eI found1), .sh (.int 0), .non, .non]) (t := ([] : List Int)) fun found1 => ?_
  refine k_for ?_
  refine k_zip ?_
  refine k_es ?_
  refine k_eq (p_sh rfl) ?_
  refine k_es ?_
  refine k_eq (p_sh rfl) ?_
  refine k_es_nil ?_
  refine ⟨_, [.sh (eQ q1 eI p_capacities), .sh (eQ q2 eI p_demands), .ow (eL eI found1), .sh (.int 0), .non, .non], [p_capacities.map eI, p_demands.map eI], rfl, (allItems2 q1 q2 eI eI p_capacities p_demands), ?_⟩
  rw [zipL2]
  refine k_forN (e := (eP eI eI)) (xs := (List.zip p_capacities p_demands)) (s := (found1, 0)) (fun (s3 : ((List Int) × Int)) (δ : Env) => ∃ (j4 : Option D), ∃ (j5 : Option D), δ = [.sh (eQ q1 eI p_capacities), .sh (eQ q2 eI p_demands), .ow (eL eI s3.1), .sh (.int s3.2), jk j4, jk j5]) ⟨none, none, rfl⟩ ?_ ?_
  ·
    intro s3 x2 δ hI
    obtain ⟨j4_4, j4_5, rfl⟩ := hI
    refine ⟨[.sh (eQ q1 eI p_capacities), .sh (eQ q2 eI p_demands), .ow (eL eI s3.1), .sh (.int s3.2), .sh (.int x2.1), .sh (.int x2.2)], (asg_tup (asgs_cons (asg_name nio_jk rfl) (asgs_cons (asg_name nio_jk rfl) asgs_nil))), ?_⟩
    refine k_set ?_
    refine k_eq (p_op (es_cons p_cst (es_cons (p_op (es_cons (p_op (es_cons (p_sh rfl) (es_cons (p_sh rfl) es_nil)) rfl (op_addI s3.2 x2.2)) (es_cons (p_sh rfl) es_nil)) rfl (op_subI (s3.2 + x2.2) x2.1)) es_nil)) rfl (op_mx2 0 ((s3.2 + x2.2) - x2.1))) ?_
    refine ⟨[.sh (eQ q1 eI p_capacities), .sh (eQ q2 eI p_demands), .ow (eL eI s3.1), .sh (.int (max 0 ((s3.2 + x2.2) - x2.1))), .sh (.int x2.1), .sh (.int x2.2)], (setR_sh trivial rfl), ?_⟩
    refine k_lt (X := fun before5 => evSs _ [.sh (eQ q1 eI p_capacities), .sh (eQ q2 eI p_demands), .ow (eL eI s3.1), .sh (.int before5), .sh (.int x2.1), .sh (.int x2.2)]) (t := (max 0 ((s3.2 + x2.2) - x2.1))) fun before5 => ?_
    refine k_app rfl ?_
    refine k_eq (p_sh rfl) ?_
    refine ⟨_, [.sh (eQ q1 eI p_capacities), .sh (eQ q2 eI p_demands), .ow (eL eI s3.1), .sh (.int before5), .sh (.int x2.1), .sh (.int x2.2)], rfl, k_appM (e := eI) (xs := s3.1) (v := before5) (E := fun ys => [.sh (eQ q1 eI p_capacities), .sh (eQ q2 eI p_demands), .ow (eL eI ys), .sh (.int before5), .sh (.int x2.1), .sh (.int x2.2)]) rfl (fun _ => rfl) fun found6 => ?_⟩
    refine seq_n ?_
    exact k_nil ⟨_, rfl, rfl, ⟨(some (.int x2.1)), (some (.int x2.2)), rfl⟩⟩
  ·
    intro s7 δ hI
    obtain ⟨j8_4, j8_5, rfl⟩ := hI
    all_goals refine seq_n ?_
    refine k_ret ?_
    refine k_eq (p_ow rfl) ?_
    refine ⟨_, [.sh (eQ q1 eI p_capacities), .sh (eQ q2 eI p_demands), .non, .sh (.int s7.2), jk j8_4, jk j8_5], rfl, ?_⟩
    exact fin_ret rfl
noncomputable def S_demands_of (p_flight : (List Int) × (List Int)) : M (List Int) := (rngM 0 (p_flight.1.length : Int)).bind fun it1 => (compM it1 (fun x2 => .ok true) (fun x2 => .ok (List.count x2 p_flight.2 : Int))).bind fun ys3 => .ok ys3
theorem R_demands_of (p_flight : (List Int) × (List Int)) : FR (f_demands_of [(eP (eT eI) (eT eI) p_flight)]) (S_demands_of p_flight) (fun a => .ow (eL eI a)) := by
  unfold S_demands_of f_demands_of
  refine fn_FR (δ := [.sh (eP (eT eI) (eT eI) p_flight), .non]) rfl (fun _ => trivial) rfl ?_
  unfold c_demands_of
  refine k_ret ?_
  refine k_comp ?_
  refine k_rng1 ?_
  refine k_eq (p_op (es_cons (p_op (es_cons (p_sh rfl) (es_cons p_cst es_nil)) rfl (show _ = some (RV.sh (eT eI p_flight.1)) from rfl)) es_nil) rfl (op_lenT eI p_flight.1)) ?_
  refine ⟨_, rfl, ?_⟩
  refine k_eRng ?_
  generalize rngI 0 (p_flight.1.length : Int) = it1
  refine k_compM (e := eI) (e' := eI) (xs := it1) (E1 := fun x2 => [.sh (eP (eT eI) (eT eI) p_flight), .sh (.int x2)]) (free_cons trivial free_nil) rfl (fun _ => (asg_name trivial rfl)) (fun _ => rfl) ?_ ?_ ?_
  ·
    intro x2
    exact k_notest
  ·
    intro x2
    refine k_eq (p_op (es_cons (p_op (es_cons (p_sh rfl) (es_cons p_cst es_nil)) rfl (show _ = some (RV.sh (eT eI p_flight.2)) from rfl)) (es_cons (p_sh rfl) es_nil)) rfl (op_countT eI rfl p_flight.2 x2)) ?_
    exact ⟨_, rfl, _, rfl, rfl⟩
  intro ys3
  refine ⟨_, [.sh (eP (eT eI) (eT eI) p_flight), .non], rfl, ?_⟩
  exact fin_ret rfl
noncomputable def S_flows_in (p_flight : (List Int) × (List Int)) : M (List Int) := (S_demands_of p_flight).bind fun r1 => (S_flows_for p_flight.1 r1).bind fun r2 => .ok r2
theorem R_flows_in (p_flight : (List Int) × (List Int)) : FR (f_flows_in [(eP (eT eI) (eT eI) p_flight)]) (S_flows_in p_flight) (fun a => .ow (eL eI a)) := by
  unfold S_flows_in f_flows_in
  refine fn_FR (δ := [.sh (eP (eT eI) (eT eI) p_flight)]) rfl (fun _ => trivial) rfl ?_
  unfold c_flows_in
  refine k_ret ?_
  refine k_call ?_
  refine k_es ?_
  refine k_eq (p_op (es_cons (p_sh rfl) (es_cons p_cst es_nil)) rfl (show _ = some (RV.sh (eT eI p_flight.1)) from rfl)) ?_
  refine k_es ?_
  refine k_call ?_
  refine k_es ?_
  refine k_eq (p_sh rfl) ?_
  refine k_es_nil ?_
  refine k_callO (ds := [(eP (eT eI) (eT eI) p_flight)]) (δ2 := [.sh (eP (eT eI) (eT eI) p_flight)]) (r := fun a => .ow (eL eI a)) rfl (R_demands_of p_flight) (fun _ => rfl) rfl fun r1 => ?_
  refine k_es_nil ?_
  refine k_callO (ds := [(eT eI p_flight.1), (eL eI r1)]) (δ2 := [.sh (eP (eT eI) (eT eI) p_flight)]) (r := fun a => .ow (eL eI a)) rfl (R_flows_for false true p_flight.1 r1) (fun _ => rfl) rfl fun r2 => ?_
  refine ⟨_, [.sh (eP (eT eI) (eT eI) p_flight)], rfl, ?_⟩
  exact fin_ret rfl
noncomputable def S_flows (p_flight : (List Int) × (List Int)) : M (List Int) := (S_check_flight p_flight).bind fun r1 => (S_flows_in p_flight).bind fun r2 => .ok r2
theorem R_flows (p_flight : (List Int) × (List Int)) : FR (f_flows [(eP (eT eI) (eT eI) p_flight)]) (S_flows p_flight) (fun a => .ow (eL eI a)) := by
  unfold S_flows f_flows
  refine fn_FR (δ := [.sh (eP (eT eI) (eT eI) p_flight)]) rfl (fun _ => trivial) rfl ?_
  unfold c_flows
  refine k_expr ?_
  refine k_call ?_
  refine k_es ?_
  refine k_eq (p_sh rfl) ?_
  refine k_es_nil ?_
  refine k_callS (ds := [(eP (eT eI) (eT eI) p_flight)]) (e := eU) rfl (R_check_flight p_flight) (fun _ => rfl) fun r1 => ?_
  refine k_ret ?_
  refine k_call ?_
  refine k_es ?_
  refine k_eq (p_sh rfl) ?_
  refine k_es_nil ?_
  refine k_callO (ds := [(eP (eT eI) (eT eI) p_flight)]) (δ2 := [.sh (eP (eT eI) (eT eI) p_flight)]) (r := fun a => .ow (eL eI a)) rfl (R_flows_in p_flight) (fun _ => rfl) rfl fun r2 => ?_
  refine ⟨_, [.sh (eP (eT eI) (eT eI) p_flight)], rfl, ?_⟩
  exact fin_ret rfl
noncomputable def S_taken (p_flight : (List Int) × (List Int)) : M (List Int) := (S_check_flight p_flight).bind fun r1 => M.lt ([] : List Int) fun found2 => (S_demands_of p_flight).bind fun r3 => (S_flows_in p_flight).bind fun r4 => (forN (fun (s6 : (Int × (List Int))) x5 => (appM s6.2 ((s6.1 + x5.1) - x5.2)).bind fun found8 => .ok (x5.2, found8)) (List.zip r3 r4) (0, found2)).bind fun s9 => .ok s9.2
theorem R_taken (p_flight : (List Int) × (List Int)) : FR (f_taken [(eP (eT eI) (eT eI) p_flight)]) (S_taken p_flight) (fun a => .ow (eL eI a)) := by
  unfold S_taken f_taken
  refine fn_FR (δ := [.sh (eP (eT eI) (eT eI) p_flight), .non, .non, .non, .non]) rfl (fun _ => trivial) rfl ?_
  unfold c_taken
  refine k_expr ?_
  refine k_call ?_
  refine k_es ?_
  refine k_eq (p_sh rfl) ?_
  refine k_es_nil ?_
  refine k_callS (ds := [(eP (eT eI) (eT eI) p_flight)]) (e := eU) rfl (R_check_flight p_flight) (fun _ => rfl) fun r1 => ?_
  refine k_par ?_
  refine k_ep ?_
  refine k_eq p_cst ?_
  refine k_ep ?_
  refine k_eq (p_re (p_lst es_nil rfl rfl) (show _ = RV.ow (eL eI ([] : List Int)) from rfl)) ?_
  refine k_ep_nil ?_
  refine ⟨[.sh (eP (eT eI) (eT eI) p_flight), .sh (.int 0), .ow (eL eI ([] : List Int)), .non, .non], (parS_cons rfl (setR_sh trivial rfl) (parS_cons rfl (setR_ow trivial rfl) parS_nil)), ?_⟩
  refine k_lt (X := fun found2 => evSs _ [.sh (eP (eT eI) (eT eI) p_flight), .sh (.int 0), .ow (eL eI found2), .non, .non]) (t := ([] : List Int)) fun found2 => ?_
  refine k_for ?_
  refine k_zip ?_
  refine k_es ?_
  refine k_call ?_
  refine k_es ?_
  refine k_eq (p_sh rfl) ?_
  refine k_es_nil ?_
  refine k_callO (ds := [(eP (eT eI) (eT eI) p_flight)]) (δ2 := [.sh (eP (eT eI) (eT eI) p_flight), .sh (.int 0), .ow (eL eI found2), .non, .non]) (r := fun a => .ow (eL eI a)) rfl (R_demands_of p_flight) (fun _ => rfl) rfl fun r3 => ?_
  refine k_es ?_
  refine k_call ?_
  refine k_es ?_
  refine k_eq (p_sh rfl) ?_
  refine k_es_nil ?_
  refine k_callO (ds := [(eP (eT eI) (eT eI) p_flight)]) (δ2 := [.sh (eP (eT eI) (eT eI) p_flight), .sh (.int 0), .ow (eL eI found2), .non, .non]) (r := fun a => .ow (eL eI a)) rfl (R_flows_in p_flight) (fun _ => rfl) rfl fun r4 => ?_
  refine k_es_nil ?_
  refine ⟨_, [.sh (eP (eT eI) (eT eI) p_flight), .sh (.int 0), .ow (eL eI found2), .non, .non], [r3.map eI, r4.map eI], rfl, rfl, ?_⟩
  rw [zipL2]
  refine k_forN (e := (eP eI eI)) (xs := (List.zip r3 r4)) (s := (0, found2)) (fun (s6 : (Int × (List Int))) (δ : Env) => ∃ (j3 : Option D), ∃ (j4 : Option D), δ = [.sh (eP (eT eI) (eT eI) p_flight), .sh (.int s6.1), .ow (eL eI s6.2), jk j3, jk j4]) ⟨none, none, rfl⟩ ?_ ?_
  ·
    intro s6 x5 δ hI
    obtain ⟨j7_3, j7_4, rfl⟩ := hI
    refine ⟨[.sh (eP (eT eI) (eT eI) p_flight), .sh (.int s6.1), .ow (eL eI s6.2), .sh (.int x5.1), .sh (.int x5.2)], (asg_tup (asgs_cons (asg_name nio_jk rfl) (asgs_cons (asg_name nio_jk rfl) asgs_nil))), ?_⟩
    refine k_app rfl ?_
    refine k_eq (p_op (es_cons (p_op (es_cons (p_sh rfl) (es_cons (p_sh rfl) es_nil)) rfl (op_addI s6.1 x5.1)) (es_cons (p_sh rfl) es_nil)) rfl (op_subI (s6.1 + x5.1) x5.2)) ?_
    refine ⟨_, [.sh (eP (eT eI) (eT eI) p_flight), .sh (.int s6.1), .ow (eL eI s6.2), .sh (.int x5.1), .sh (.int x5.2)], rfl, k_appM (e := eI) (xs := s6.2) (v := ((s6.1 + x5.1) - x5.2)) (E := fun ys => [.sh (eP (eT eI) (eT eI) p_flight), .sh (.int s6.1), .ow (eL eI ys), .sh (.int x5.1), .sh (.int x5.2)]) rfl (fun _ => rfl) fun found8 => ?_⟩
    refine seq_n ?_
    refine k_set ?_
    refine k_eq (p_sh rfl) ?_
    refine ⟨[.sh (eP (eT eI) (eT eI) p_flight), .sh (.int x5.2), .ow (eL eI found8), .sh (.int x5.1), .sh (.int x5.2)], (setR_sh trivial rfl), ?_⟩
    exact k_nil ⟨_, rfl, rfl, ⟨(some (.int x5.1)), (some (.int x5.2)), rfl⟩⟩
  ·
    intro s9 δ hI
    obtain ⟨j10_3, j10_4, rfl⟩ := hI
    all_goals refine seq_n ?_
    refine k_ret ?_
    refine k_eq (p_ow rfl) ?_
    refine ⟨_, [.sh (eP (eT eI) (eT eI) p_flight), .sh (.int s9.1), .non, jk j10_3, jk j10_4], rfl, ?_⟩
    exact fin_ret rfl
noncomputable def S_check_losses (p_flight : (List Int) × (List Int)) (p_losses : List Int) : M Unit := (S_check_flight p_flight).bind fun r1 => if ((!true) || (!decide ((p_losses.length : Int) = (p_flight.2.length : Int)))) then (.exc "InvalidLosses") else ((compM p_losses (fun x2 => .ok true) (fun x2 => (S_is_between (.int x2) 0 1000).bind fun r3 => .ok r3)).bind fun ys4 => if (!(List.all ys4 id)) then (.exc "InvalidLosses") else (.ok ()))
theorem R_check_losses (p_flight : (List Int) × (List Int)) (p_losses : List Int) : FR (f_check_losses [(eP (eT eI) (eT eI) p_flight), (eT eI p_losses)]) (S_check_losses p_flight p_losses) (fun a => .sh .none) := by
  unfold S_check_losses f_check_losses
  refine fn_FR (δ := [.sh (eP (eT eI) (eT eI) p_flight), .sh (eT eI p_losses), .non]) rfl (fun _ => trivial) rfl ?_
  unfold c_check_losses
  refine k_expr ?_
  refine k_call ?_
  refine k_es ?_
  refine k_eq (p_sh rfl) ?_
  refine k_es_nil ?_
  refine k_callS (ds := [(eP (eT eI) (eT eI) p_flight)]) (e := eU) rfl (R_check_flight p_flight) (fun _ => rfl) fun r1 => ?_
  refine k_ifs ?_
  refine k_eq (p_or (p_orc (p_not (p_op (es_cons (p_sh rfl) es_nil) rfl (show _ = some (RV.sh (.bool true)) from rfl))) (p_or1 (p_op (es_cons (p_op (es_cons (p_sh rfl) es_nil) rfl (op_lenT eI p_losses)) (es_cons (p_op (es_cons (p_op (es_cons (p_sh rfl) (es_cons p_cst es_nil)) rfl (show _ = some (RV.sh (eT eI p_flight.2)) from rfl)) es_nil) rfl (op_lenT eI p_flight.2)) es_nil)) rfl (op_ne eI rfl (p_losses.length : Int) (p_flight.2.length : Int)))))) ?_
  refine ⟨_, rfl, ?_⟩
  refine k_if2 (fun hx => ?_) (fun hx => ?_)
  ·
    exact k_raise p_cst
  ·
    refine k_nilS ?_
    refine k_ifs ?_
    refine k_not ?_
    refine k_op ?_
    refine k_es ?_
    refine k_comp ?_
    refine k_seq ?_
    refine k_eq (p_sh rfl) ?_
    refine ⟨_, [.sh (eP (eT eI) (eT eI) p_flight), .sh (eT eI p_losses), .non], p_losses.map eI, rfl, rfl, ?_⟩
    refine k_compM (e := eI) (e' := eB) (xs := p_losses) (E1 := fun x2 => [.sh (eP (eT eI) (eT eI) p_flight), .sh (eT eI p_losses), .sh (.int x2)]) (free_cons trivial free_nil) rfl (fun _ => (asg_name trivial rfl)) (fun _ => rfl) ?_ ?_ ?_
    ·
      intro x2
      exact k_notest
    ·
      intro x2
      refine k_call ?_
      refine k_es ?_
      refine k_eq (p_sh rfl) ?_
      refine k_es ?_
      refine k_eq p_cst ?_
      refine k_es ?_
      refine k_eq p_glb ?_
      refine k_es_nil ?_
      refine k_callS (ds := [(.int x2), (.int 0), (.int 1000)]) (e := eB) rfl (R_is_between (.int x2) 0 1000) (fun _ => rfl) fun r3 => ?_
      exact ⟨_, rfl, _, rfl, rfl⟩
    intro ys4
    refine k_es_nil ?_
    refine k_opP rfl (op_all ys4) ?_
    refine ⟨_, rfl, ?_⟩
    refine ⟨_, rfl, ?_⟩
    refine k_if2 (fun hx => ?_) (fun hx => ?_)
    ·
      exact k_raise p_cst
    ·
      refine k_nilS ?_
      exact k_nil (fin_next rfl)
noncomputable def S_passing (p_flight : (List Int) × (List Int)) (p_losses : List Int) (p_sign : Int) : M (Int × (List Int)) := M.lt ([] : List Int) fun waiting1 => (S_flows_in p_flight).bind fun r2 => (forN (fun (s4 : ((List Int) × (List Int) × Int)) x3 => (compM (enumN 0 p_flight.2) (fun x6 => .ok (decide (x6.2 = x3.1))) (fun x6 => .ok x6.1)).bind fun ys7 => (catM s4.2.1 ys7).bind fun v8 => (compM v8 (fun x9 => .ok true) (fun x9 => (idxM p_losses x9).bind fun v10 => (mulM p_sign v10).bind fun v11 => .ok (v11, x9))).bind fun ys12 => (sortM (eP eI eI) ys12).bind fun v13 => (compM (cut v13 none (some x3.2)) (fun x14 => .ok true) (fun x14 => .ok x14.2)).bind fun ys15 => (forN (fun (s17 : ((List Int) × Int)) x16 => (setIM s17.1 x16 (x3.1 + 1)).bind fun places19 => (idxM p_losses x16).bind fun v20 => M.lt (s17.2 + v20) fun total21 => .ok (places19, total21)) ys15 (s4.1, s4.2.2)).bind fun s22 => .ok (s22.1, ys15, s22.2)) (enumN 0 r2) (p_flight.2, waiting1, 0)).bind fun s24 => .ok (s24.2.2, s24.1)
theorem R_passing (p_flight : (List Int) × (List Int)) (p_losses : List Int) (p_sign : Int) : FR (f_passing [(eP (eT eI) (eT eI) p_flight), (eT eI p_losses), (.int p_sign)]) (S_passing p_flight p_losses p_sign) (fun a => .sh (eP eI (eT eI) a)) := by
  unfold S_passing f_passing
  refine fn_FR (δ := [.sh (eP (eT eI) (eT eI) p_flight), .sh (eT eI p_losses), .sh (.int p_sign), .non, .non, .non, .non, .non, .non, .non, .non, .non]) rfl (fun _ => trivial) rfl ?_
  unfold c_passing
  refine k_par ?_
  refine k_ep ?_
  refine k_eq (p_op (es_cons (p_op (es_cons (p_sh rfl) (es_cons p_cst es_nil)) rfl (show _ = some (RV.sh (eT eI p_flight.2)) from rfl)) es_nil) rfl (op_listT eI p_flight.2)) ?_
  refine k_ep ?_
  refine k_eq (p_re (p_lst es_nil rfl rfl) (show _ = RV.ow (eL eI ([] : List Int)) from rfl)) ?_
  refine k_ep ?_
  refine k_eq p_cst ?_
  refine k_ep_nil ?_
  refine ⟨[.sh (eP (eT eI) (eT eI) p_flight), .sh (eT eI p_losses), .sh (.int p_sign), .ow (eL eI p_flight.2), .ow (eL eI ([] : List Int)), .sh (.int 0), .non, .non, .non, .non, .non, .non], (parS_cons rfl (setR_ow trivial rfl) (parS_cons rfl (setR_ow trivial rfl) (parS_cons rfl (setR_sh trivial rfl) parS_nil))), ?_⟩
  refine k_lt (X := fun waiting1 => evSs _ [.sh (eP (eT eI) (eT eI) p_flight), .sh (eT eI p_losses), .sh (.int p_sign), .ow (eL eI p_flight.2), .ow (eL eI waiting1), .sh (.int 0), .non, .non, .non, .non, .non, .non]) (t := ([] : List Int)) fun waiting1 => ?_
  refine k_for ?_
  refine k_enum ?_
  refine k_call ?_
  refine k_es ?_
  refine k_eq (p_sh rfl) ?_
  refine k_es_nil ?_
  refine k_callO (ds := [(eP (eT eI) (eT eI) p_flight)]) (δ2 := [.sh (eP (eT eI) (eT eI) p_flight), .sh (eT eI p_losses), .sh (.int p_sign), .ow (eL eI p_flight.2), .ow (eL eI waiting1), .sh (.int 0), .non, .non, .non, .non, .non, .non]) (r := fun a => .ow (eL eI a)) rfl (R_flows_in p_flight) (fun _ => rfl) rfl fun r2 => ?_
  refine ⟨_, [.sh (eP (eT eI) (eT eI) p_flight), .sh (eT eI p_losses), .sh (.int p_sign), .ow (eL eI p_flight.2), .ow (eL eI waiting1), .sh (.int 0), .non, .non, .non, .non, .non, .non], r2.map eI, rfl, (.inl rfl), ?_⟩
  rw [enumD_eq]
  refine k_forN (e := (eP eI eI)) (xs := (enumN 0 r2)) (s := (p_flight.2, waiting1, 0)) (fun (s4 : ((List Int) × (List Int) × Int)) (δ : Env) => ∃ (j4 : Bool), ∃ (j6 : Option D), ∃ (j7 : Option D), ∃ (j8 : J2), ∃ (j9 : Option D), δ = [.sh (eP (eT eI) (eT eI) p_flight), .sh (eT eI p_losses), .sh (.int p_sign), .ow (eL eI s4.1), hd j4 (eL eI s4.2.1), .sh (.int s4.2.2), jk j6, jk j7, jo j8, jk j9, .non, .non]) ⟨true, none, none, .non, none, rfl⟩ ?_ ?_
  ·
    intro s4 x3 δ hI
    obtain ⟨j5_4, j5_6, j5_7, j5_8, j5_9, rfl⟩ := hI
    cases j5_4
    ·
      refine ⟨[.sh (eP (eT eI) (eT eI) p_flight), .sh (eT eI p_losses), .sh (.int p_sign), .ow (eL eI s4.1), .sh (eL eI s4.2.1), .sh (.int s4.2.2), .sh (.int x3.1), .sh (.int x3.2), jo j5_8, jk j5_9, .non, .non], (asg_tup (asgs_cons (asg_name nio_jk rfl) (asgs_cons (asg_name nio_jk rfl) asgs_nil))), ?_⟩
      refine k_set ?_
      refine k_op ?_
      refine k_es ?_
      refine k_eq (p_sh rfl) ?_
      refine k_es ?_
      refine k_comp ?_
      refine k_enum ?_
      refine k_eq (p_op (es_cons (p_sh rfl) (es_cons p_cst es_nil)) rfl (show _ = some (RV.sh (eT eI p_flight.2)) from rfl)) ?_
      refine ⟨_, [.sh (eP (eT eI) (eT eI) p_flight), .sh (eT eI p_losses), .sh (.int p_sign), .ow (eL eI s4.1), .sh (eL eI s4.2.1), .sh (.int s4.2.2), .sh (.int x3.1), .sh (.int x3.2), jo j5_8, jk j5_9, .non, .non], p_flight.2.map eI, rfl, (.inr rfl), ?_⟩
      rw [enumD_eq]
      refine k_compM (e := (eP eI eI)) (e' := eI) (xs := (enumN 0 p_flight.2)) (E1 := fun x6 => [.sh (eP (eT eI) (eT eI) p_flight), .sh (eT eI p_losses), .sh (.int p_sign), .ow (eL eI s4.1), .sh (eL eI s4.2.1), .sh (.int s4.2.2), .sh (.int x3.1), .sh (.int x3.2), jo j5_8, .sh (.int x6.1), .non, .sh (.int x6.2)]) (free_cons now_jk (free_cons trivial free_nil)) rfl (fun _ => (asg_tup (asgs_cons (asg_name trivial rfl) (asgs_cons (asg_name trivial rfl) asgs_nil)))) (fun _ => rfl) ?_ ?_ ?_
      ·
        intro x6
        refine k_test ?_
        refine k_eq (p_op (es_cons (p_sh rfl) (es_cons (p_sh rfl) es_nil)) rfl (op_eq eI rfl x6.2 x3.1)) ?_
        exact ⟨_, rfl, rfl, rfl⟩
      ·
        intro x6
        refine k_eq (p_sh rfl) ?_
        exact ⟨_, rfl, _, rfl, rfl⟩
      intro ys7
      refine k_es_nil ?_
      refine k_opM rfl (op_catL eI s4.2.1 ys7) fun v8 => ?_
      refine ⟨[.sh (eP (eT eI) (eT eI) p_flight), .sh (eT eI p_losses), .sh (.int p_sign), .ow (eL eI s4.1), .ow (eL eI v8), .sh (.int s4.2.2), .sh (.int x3.1), .sh (.int x3.2), jo j5_8, jk j5_9, .non, .non], (setR_ow trivial rfl), ?_⟩
      refine k_set ?_
      refine k_op ?_
      refine k_es ?_
      refine k_comp ?_
      refine k_seq ?_
      refine k_eq (p_ow rfl) ?_
      refine ⟨_, [.sh (eP (eT eI) (eT eI) p_flight), .sh (eT eI p_losses), .sh (.int p_sign), .ow (eL eI s4.1), .sh (eL eI v8), .sh (.int s4.2.2), .sh (.int x3.1), .sh (.int x3.2), jo j5_8, jk j5_9, .non, .non], v8.map eI, rfl, rfl, ?_⟩
      refine k_compM (e := eI) (e' := (eP eI eI)) (xs := v8) (E1 := fun x9 => [.sh (eP (eT eI) (eT eI) p_flight), .sh (eT eI p_losses), .sh (.int p_sign), .ow (eL eI s4.1), .sh (eL eI v8), .sh (.int s4.2.2), .sh (.int x3.1), .sh (.int x3.2), jo j5_8, .sh (.int x9), .non, .non]) (free_cons now_jk free_nil) rfl (fun _ => (asg_name trivial rfl)) (fun _ => rfl) ?_ ?_ ?_
      ·
        intro x9
        exact k_notest
      ·
        intro x9
        refine k_tup ?_
        refine k_es ?_
        refine k_op ?_
        refine k_es ?_
        refine k_eq (p_sh rfl) ?_
        refine k_es ?_
        refine k_op ?_
        refine k_es ?_
        refine k_eq (p_sh rfl) ?_
        refine k_es ?_
        refine k_eq (p_sh rfl) ?_
        refine k_es_nil ?_
        refine k_opM rfl (op_idxT eI p_losses x9) fun v10 => ?_
        refine k_es_nil ?_
        refine k_opM rfl (op_mul p_sign v10) fun v11 => ?_
        refine k_es ?_
        refine k_eq (p_sh rfl) ?_
        refine k_es_nil ?_
        refine ⟨_, [.sh (eP (eT eI) (eT eI) p_flight), .sh (eT eI p_losses), .sh (.int p_sign), .ow (eL eI s4.1), .sh (eL eI v8), .sh (.int s4.2.2), .sh (.int x3.1), .sh (.int x3.2), jo j5_8, .sh (.int x9), .non, .non], rfl, rfl, ?_⟩
        exact ⟨_, rfl, _, rfl, rfl⟩
      intro ys12
      refine k_es_nil ?_
      refine k_opM rfl (op_sortL (eP eI eI) ys12) fun v13 => ?_
      refine ⟨[.sh (eP (eT eI) (eT eI) p_flight), .sh (eT eI p_losses), .sh (.int p_sign), .ow (eL eI s4.1), .sh (eL eI v8), .sh (.int s4.2.2), .sh (.int x3.1), .sh (.int x3.2), .ow (eL (eP eI eI) v13), jk j5_9, .non, .non], (setR_ow nio_jo rfl), ?_⟩
      refine k_set ?_
      refine k_comp ?_
      refine k_seq ?_
      refine k_eq (p_op (es_cons (p_ow rfl) (es_cons (p_sh rfl) es_nil)) rfl (op_slL01 (eP eI eI) v13 x3.2)) ?_
      refine ⟨_, [.sh (eP (eT eI) (eT eI) p_flight), .sh (eT eI p_losses), .sh (.int p_sign), .ow (eL eI s4.1), .sh (eL eI v8), .sh (.int s4.2.2), .sh (.int x3.1), .sh (.int x3.2), .ow (eL (eP eI eI) v13), jk j5_9, .non, .non], (cut v13 none (some x3.2)).map (eP eI eI), rfl, rfl, ?_⟩
      refine k_compM (e := (eP eI eI)) (e' := eI) (xs := (cut v13 none (some x3.2))) (E1 := fun x14 => [.sh (eP (eT eI) (eT eI) p_flight), .sh (eT eI p_losses), .sh (.int p_sign), .ow (eL eI s4.1), .sh (eL eI v8), .sh (.int s4.2.2), .sh (.int x3.1), .sh (.int x3.2), .ow (eL (eP eI eI) v13), .sh (.int x14.2), .sh (.int x14.1), .non]) (free_cons trivial (free_cons now_jk free_nil)) rfl (fun _ => (asg_tup (asgs_cons (asg_name trivial rfl) (asgs_cons (asg_name trivial rfl) asgs_nil)))) (fun _ => rfl) ?_ ?_ ?_
      ·
        intro x14
        exact k_notest
      ·
        intro x14
        refine k_eq (p_sh rfl) ?_
        exact ⟨_, rfl, _, rfl, rfl⟩
      intro ys15
      refine ⟨[.sh (eP (eT eI) (eT eI) p_flight), .sh (eT eI p_losses), .sh (.int p_sign), .ow (eL eI s4.1), .ow (eL eI ys15), .sh (.int s4.2.2), .sh (.int x3.1), .sh (.int x3.2), .ow (eL (eP eI eI) v13), jk j5_9, .non, .non], (setR_ow trivial rfl), ?_⟩
      refine k_for ?_
      refine k_seq ?_
      refine k_eq (p_ow rfl) ?_
      refine ⟨_, [.sh (eP (eT eI) (eT eI) p_flight), .sh (eT eI p_losses), .sh (.int p_sign), .ow (eL eI s4.1), .sh (eL eI ys15), .sh (.int s4.2.2), .sh (.int x3.1), .sh (.int x3.2), .ow (eL (eP eI eI) v13), jk j5_9, .non, .non], ys15.map eI, rfl, rfl, ?_⟩
      refine k_forN (e := eI) (xs := ys15) (s := (s4.1, s4.2.2)) (fun (s17 : ((List Int) × Int)) (δ : Env) => ∃ (j9 : Option D), δ = [.sh (eP (eT eI) (eT eI) p_flight), .sh (eT eI p_losses), .sh (.int p_sign), .ow (eL eI s17.1), .sh (eL eI ys15), .sh (.int s17.2), .sh (.int x3.1), .sh (.int x3.2), .ow (eL (eP eI eI) v13), jk j9, .non, .non]) ⟨j5_9, rfl⟩ ?_ ?_
      ·
        intro s17 x16 δ hI
        obtain ⟨j18_9, rfl⟩ := hI
        refine ⟨[.sh (eP (eT eI) (eT eI) p_flight), .sh (eT eI p_losses), .sh (.int p_sign), .ow (eL eI s17.1), .sh (eL eI ys15), .sh (.int s17.2), .sh (.int x3.1), .sh (.int x3.2), .ow (eL (eP eI eI) v13), .sh (.int x16), .non, .non], (asg_name nio_jk rfl), ?_⟩
        refine k_setI ?_
        refine k_eq (p_op (es_cons (p_sh rfl) (es_cons p_cst es_nil)) rfl (op_addI x3.1 1)) ?_
        refine ⟨_, [.sh (eP (eT eI) (eT eI) p_flight), .sh (eT eI p_losses), .sh (.int p_sign), .ow (eL eI s17.1), .sh (eL eI ys15), .sh (.int s17.2), .sh (.int x3.1), .sh (.int x3.2), .ow (eL (eP eI eI) v13), .sh (.int x16), .non, .non], rfl, rfl, ?_⟩
        refine k_eq (p_sh rfl) ?_
        refine ⟨_, [.sh (eP (eT eI) (eT eI) p_flight), .sh (eT eI p_losses), .sh (.int p_sign), .ow (eL eI s17.1), .sh (eL eI ys15), .sh (.int s17.2), .sh (.int x3.1), .sh (.int x3.2), .ow (eL (eP eI eI) v13), .sh (.int x16), .non, .non], rfl, ?_⟩
        refine k_sSetI (e := eI) (xs := s17.1) (v := (x3.1 + 1)) (E := fun ys => [.sh (eP (eT eI) (eT eI) p_flight), .sh (eT eI p_losses), .sh (.int p_sign), .ow (eL eI ys), .sh (eL eI ys15), .sh (.int s17.2), .sh (.int x3.1), .sh (.int x3.2), .ow (eL (eP eI eI) v13), .sh (.int x16), .non, .non]) rfl (fun _ => rfl) fun places19 => ?_
        refine seq_n ?_
        refine k_aug rfl ?_
        refine k_op ?_
        refine k_es ?_
        refine k_eq (p_sh rfl) ?_
        refine k_es ?_
        refine k_eq (p_sh rfl) ?_
        refine k_es_nil ?_
        refine k_opM rfl (op_idxT eI p_losses x16) fun v20 => ?_
        refine ⟨_, rfl, k_augP (δ2 := [.sh (eP (eT eI) (eT eI) p_flight), .sh (eT eI p_losses), .sh (.int p_sign), .ow (eL eI places19), .sh (eL eI ys15), .sh (.int (s17.2 + v20)), .sh (.int x3.1), .sh (.int x3.2), .ow (eL (eP eI eI) v13), .sh (.int x16), .non, .non]) rfl rfl ?_⟩
        refine k_lt (X := fun total21 => evSs _ [.sh (eP (eT eI) (eT eI) p_flight), .sh (eT eI p_losses), .sh (.int p_sign), .ow (eL eI places19), .sh (eL eI ys15), .sh (.int total21), .sh (.int x3.1), .sh (.int x3.2), .ow (eL (eP eI eI) v13), .sh (.int x16), .non, .non]) (t := (s17.2 + v20)) fun total21 => ?_
        exact k_nil ⟨_, rfl, rfl, ⟨(some (.int x16)), rfl⟩⟩
      ·
        intro s22 δ hI
        obtain ⟨j23_9, rfl⟩ := hI
        all_goals refine seq_n ?_
        exact k_nil ⟨_, rfl, rfl, ⟨false, (some (.int x3.1)), (some (.int x3.2)), (.ow (eL (eP eI eI) v13)), j23_9, rfl⟩⟩
    ·
      refine ⟨[.sh (eP (eT eI) (eT eI) p_flight), .sh (eT eI p_losses), .sh (.int p_sign), .ow (eL eI s4.1), .ow (eL eI s4.2.1), .sh (.int s4.2.2), .sh (.int x3.1), .sh (.int x3.2), jo j5_8, jk j5_9, .non, .non], (asg_tup (asgs_cons (asg_name nio_jk rfl) (asgs_cons (asg_name nio_jk rfl) asgs_nil))), ?_⟩
      refine k_set ?_
      refine k_op ?_
      refine k_es ?_
      refine k_eq (p_ow rfl) ?_
      refine k_es ?_
      refine k_comp ?_
      refine k_enum ?_
      refine k_eq (p_op (es_cons (p_sh rfl) (es_cons p_cst es_nil)) rfl (show _ = some (RV.sh (eT eI p_flight.2)) from rfl)) ?_
      refine ⟨_, [.sh (eP (eT eI) (eT eI) p_flight), .sh (eT eI p_losses), .sh (.int p_sign), .ow (eL eI s4.1), .ow (eL eI s4.2.1), .sh (.int s4.2.2), .sh (.int x3.1), .sh (.int x3.2), jo j5_8, jk j5_9, .non, .non], p_flight.2.map eI, rfl, (.inr rfl), ?_⟩
      rw [enumD_eq]
      refine k_compM (e := (eP eI eI)) (e' := eI) (xs := (enumN 0 p_flight.2)) (E1 := fun x6 => [.sh (eP (eT eI) (eT eI) p_flight), .sh (eT eI p_losses), .sh (.int p_sign), .ow (eL eI s4.1), .ow (eL eI s4.2.1), .sh (.int s4.2.2), .sh (.int x3.1), .sh (.int x3.2), jo j5_8, .sh (.int x6.1), .non, .sh (.int x6.2)]) (free_cons now_jk (free_cons trivial free_nil)) rfl (fun _ => (asg_tup (asgs_cons (asg_name trivial rfl) (asgs_cons (asg_name trivial rfl) asgs_nil)))) (fun _ => rfl) ?_ ?_ ?_
      ·
        intro x6
        refine k_test ?_
        refine k_eq (p_op (es_cons (p_sh rfl) (es_cons (p_sh rfl) es_nil)) rfl (op_eq eI rfl x6.2 x3.1)) ?_
        exact ⟨_, rfl, rfl, rfl⟩
      ·
        intro x6
        refine k_eq (p_sh rfl) ?_
        exact ⟨_, rfl, _, rfl, rfl⟩
      intro ys7
      refine k_es_nil ?_
      refine k_opM rfl (op_catL eI s4.2.1 ys7) fun v8 => ?_
      refine ⟨[.sh (eP (eT eI) (eT eI) p_flight), .sh (eT eI p_losses), .sh (.int p_sign), .ow (eL eI s4.1), .ow (eL eI v8), .sh (.int s4.2.2), .sh (.int x3.1), .sh (.int x3.2), jo j5_8, jk j5_9, .non, .non], (setR_ow trivial rfl), ?_⟩
      refine k_set ?_
      refine k_op ?_
      refine k_es ?_
      refine k_comp ?_
      refine k_seq ?_
      refine k_eq (p_ow rfl) ?_
      refine ⟨_, [.sh (eP (eT eI) (eT eI) p_flight), .sh (eT eI p_losses), .sh (.int p_sign), .ow (eL eI s4.1), .sh (eL eI v8), .sh (.int s4.2.2), .sh (.int x3.1), .sh (.int x3.2), jo j5_8, jk j5_9, .non, .non], v8.map eI, rfl, rfl, ?_⟩
      refine k_compM (e := eI) (e' := (eP eI eI)) (xs := v8) (E1 := fun x9 => [.sh (eP (eT eI) (eT eI) p_flight), .sh (eT eI p_losses), .sh (.int p_sign), .ow (eL eI s4.1), .sh (eL eI v8), .sh (.int s4.2.2), .sh (.int x3.1), .sh (.int x3.2), jo j5_8, .sh (.int x9), .non, .non]) (free_cons now_jk free_nil) rfl (fun _ => (asg_name trivial rfl)) (fun _ => rfl) ?_ ?_ ?_
      ·
        intro x9
        exact k_notest
      ·
        intro x9
        refine k_tup ?_
        refine k_es ?_
        refine k_op ?_
        refine k_es ?_
        refine k_eq (p_sh rfl) ?_
        refine k_es ?_
        refine k_op ?_
        refine k_es ?_
        refine k_eq (p_sh rfl) ?_
        refine k_es ?_
        refine k_eq (p_sh rfl) ?_
        refine k_es_nil ?_
        refine k_opM rfl (op_idxT eI p_losses x9) fun v10 => ?_
        refine k_es_nil ?_
        refine k_opM rfl (op_mul p_sign v10) fun v11 => ?_
        refine k_es ?_
        refine k_eq (p_sh rfl) ?_
        refine k_es_nil ?_
        refine ⟨_, [.sh (eP (eT eI) (eT eI) p_flight), .sh (eT eI p_losses), .sh (.int p_sign), .ow (eL eI s4.1), .sh (eL eI v8), .sh (.int s4.2.2), .sh (.int x3.1), .sh (.int x3.2), jo j5_8, .sh (.int x9), .non, .non], rfl, rfl, ?_⟩
        exact ⟨_, rfl, _, rfl, rfl⟩
      intro ys12
      refine k_es_nil ?_
      refine k_opM rfl (op_sortL (eP eI eI) ys12) fun v13 => ?_
      refine ⟨[.sh (eP (eT eI) (eT eI) p_flight), .sh (eT eI p_losses), .sh (.int p_sign), .ow (eL eI s4.1), .sh (eL eI v8), .sh (.int s4.2.2), .sh (.int x3.1), .sh (.int x3.2), .ow (eL (eP eI eI) v13), jk j5_9, .non, .non], (setR_ow nio_jo rfl), ?_⟩
      refine k_set ?_
      refine k_comp ?_
      refine k_seq ?_
      refine k_eq (p_op (es_cons (p_ow rfl) (es_cons (p_sh rfl) es_nil)) rfl (op_slL01 (eP eI eI) v13 x3.2)) ?_
      refine ⟨_, [.sh (eP (eT eI) (eT eI) p_flight), .sh (eT eI p_losses), .sh (.int p_sign), .ow (eL eI s4.1), .sh (eL eI v8), .sh (.int s4.2.2), .sh (.int x3.1), .sh (.int x3.2), .ow (eL (eP eI eI) v13), jk j5_9, .non, .non], (cut v13 none (some x3.2)).map (eP eI eI), rfl, rfl, ?_⟩
      refine k_compM (e := (eP eI eI)) (e' := eI) (xs := (cut v13 none (some x3.2))) (E1 := fun x14 => [.sh (eP (eT eI) (eT eI) p_flight), .sh (eT eI p_losses), .sh (.int p_sign), .ow (eL eI s4.1), .sh (eL eI v8), .sh (.int s4.2.2), .sh (.int x3.1), .sh (.int x3.2), .ow (eL (eP eI eI) v13), .sh (.int x14.2), .sh (.int x14.1), .non]) (free_cons trivial (free_cons now_jk free_nil)) rfl (fun _ => (asg_tup (asgs_cons (asg_name trivial rfl) (asgs_cons (asg_name trivial rfl) asgs_nil)))) (fun _ => rfl) ?_ ?_ ?_
      ·
        intro x14
        exact k_notest
      ·
        intro x14
        refine k_eq (p_sh rfl) ?_
        exact ⟨_, rfl, _, rfl, rfl⟩
      intro ys15
      refine ⟨[.sh (eP (eT eI) (eT eI) p_flight), .sh (eT eI p_losses), .sh (.int p_sign), .ow (eL eI s4.1), .ow (eL eI ys15), .sh (.int s4.2.2), .sh (.int x3.1), .sh (.int x3.2), .ow (eL (eP eI eI) v13), jk j5_9, .non, .non], (setR_ow trivial rfl), ?_⟩
      refine k_for ?_
      refine k_seq ?_
      refine k_eq (p_ow rfl) ?_
      refine ⟨_, [.sh (eP (eT eI) (eT eI) p_flight), .sh (eT eI p_losses), .sh (.int p_sign), .ow (eL eI s4.1), .sh (eL eI ys15), .sh (.int s4.2.2), .sh (.int x3.1), .sh (.int x3.2), .ow (eL (eP eI eI) v13), jk j5_9, .non, .non], ys15.map eI, rfl, rfl, ?_⟩
      refine k_forN (e := eI) (xs := ys15) (s := (s4.1, s4.2.2)) (fun (s17 : ((List Int) × Int)) (δ : Env) => ∃ (j9 : Option D), δ = [.sh (eP (eT eI) (eT eI) p_flight), .sh (eT eI p_losses), .sh (.int p_sign), .ow (eL eI s17.1), .sh (eL eI ys15), .sh (.int s17.2), .sh (.int x3.1), .sh (.int x3.2), .ow (eL (eP eI eI) v13), jk j9, .non, .non]) ⟨j5_9, rfl⟩ ?_ ?_
      ·
        intro s17 x16 δ hI
        obtain ⟨j18_9, rfl⟩ := hI
        refine ⟨[.sh (eP (eT eI) (eT eI) p_flight), .sh (eT eI p_losses), .sh (.int p_sign), .ow (eL eI s17.1), .sh (eL eI ys15), .sh (.int s17.2), .sh (.int x3.1), .sh (.int x3.2), .ow (eL (eP eI eI) v13), .sh (.int x16), .non, .non], (asg_name nio_jk rfl), ?_⟩
        refine k_setI ?_
        refine k_eq (p_op (es_cons (p_sh rfl) (es_cons p_cst es_nil)) rfl (op_addI x3.1 1)) ?_
        refine ⟨_, [.sh (eP (eT eI) (eT eI) p_flight), .sh (eT eI p_losses), .sh (.int p_sign), .ow (eL eI s17.1), .sh (eL eI ys15), .sh (.int s17.2), .sh (.int x3.1), .sh (.int x3.2), .ow (eL (eP eI eI) v13), .sh (.int x16), .non, .non], rfl, rfl, ?_⟩
        refine k_eq (p_sh rfl) ?_
        refine ⟨_, [.sh (eP (eT eI) (eT eI) p_flight), .sh (eT eI p_losses), .sh (.int p_sign), .ow (eL eI s17.1), .sh (eL eI ys15), .sh (.int s17.2), .sh (.int x3.1), .sh (.int x3.2), .ow (eL (eP eI eI) v13), .sh (.int x16), .non, .non], rfl, ?_⟩
        refine k_sSetI (e := eI) (xs := s17.1) (v := (x3.1 + 1)) (E := fun ys => [.sh (eP (eT eI) (eT eI) p_flight), .sh (eT eI p_losses), .sh (.int p_sign), .ow (eL eI ys), .sh (eL eI ys15), .sh (.int s17.2), .sh (.int x3.1), .sh (.int x3.2), .ow (eL (eP eI eI) v13), .sh (.int x16), .non, .non]) rfl (fun _ => rfl) fun places19 => ?_
        refine seq_n ?_
        refine k_aug rfl ?_
        refine k_op ?_
        refine k_es ?_
        refine k_eq (p_sh rfl) ?_
        refine k_es ?_
        refine k_eq (p_sh rfl) ?_
        refine k_es_nil ?_
        refine k_opM rfl (op_idxT eI p_losses x16) fun v20 => ?_
        refine ⟨_, rfl, k_augP (δ2 := [.sh (eP (eT eI) (eT eI) p_flight), .sh (eT eI p_losses), .sh (.int p_sign), .ow (eL eI places19), .sh (eL eI ys15), .sh (.int (s17.2 + v20)), .sh (.int x3.1), .sh (.int x3.2), .ow (eL (eP eI eI) v13), .sh (.int x16), .non, .non]) rfl rfl ?_⟩
        refine k_lt (X := fun total21 => evSs _ [.sh (eP (eT eI) (eT eI) p_flight), .sh (eT eI p_losses), .sh (.int p_sign), .ow (eL eI places19), .sh (eL eI ys15), .sh (.int total21), .sh (.int x3.1), .sh (.int x3.2), .ow (eL (eP eI eI) v13), .sh (.int x16), .non, .non]) (t := (s17.2 + v20)) fun total21 => ?_
        exact k_nil ⟨_, rfl, rfl, ⟨(some (.int x16)), rfl⟩⟩
      ·
        intro s22 δ hI
        obtain ⟨j23_9, rfl⟩ := hI
        all_goals refine seq_n ?_
        exact k_nil ⟨_, rfl, rfl, ⟨false, (some (.int x3.1)), (some (.int x3.2)), (.ow (eL (eP eI eI) v13)), j23_9, rfl⟩⟩
  ·
    intro s24 δ hI
    obtain ⟨j25_4, j25_6, j25_7, j25_8, j25_9, rfl⟩ := hI
    cases j25_4
    all_goals refine seq_n ?_
    ·
      refine k_ret ?_
      refine k_eq (p_re (p_tup (es_cons (p_sh rfl) (es_cons (p_op (es_cons (p_ow rfl) es_nil) rfl (op_tupL eI s24.1)) es_nil)) rfl rfl) (show _ = RV.sh (eP eI (eT eI) (s24.2.2, s24.1)) from rfl)) ?_
      refine ⟨_, [.sh (eP (eT eI) (eT eI) p_flight), .sh (eT eI p_losses), .sh (.int p_sign), .ow (eL eI s24.1), .sh (eL eI s24.2.1), .sh (.int s24.2.2), jk j25_6, jk j25_7, jo j25_8, jk j25_9, .non, .non], rfl, ?_⟩
      exact fin_ret rfl
    ·
      refine k_ret ?_
      refine k_eq (p_re (p_tup (es_cons (p_sh rfl) (es_cons (p_op (es_cons (p_ow rfl) es_nil) rfl (op_tupL eI s24.1)) es_nil)) rfl rfl) (show _ = RV.sh (eP eI (eT eI) (s24.2.2, s24.1)) from rfl)) ?_
      refine ⟨_, [.sh (eP (eT eI) (eT eI) p_flight), .sh (eT eI p_losses), .sh (.int p_sign), .ow (eL eI s24.1), .ow (eL eI s24.2.1), .sh (.int s24.2.2), jk j25_6, jk j25_7, jo j25_8, jk j25_9, .non, .non], rfl, ?_⟩
      exact fin_ret rfl
noncomputable def S_least_loss (p_flight : (List Int) × (List Int)) (p_losses : List Int) : M Int := (S_check_losses p_flight p_losses).bind fun r1 => (S_passing p_flight p_losses 1).bind fun r2 => .ok r2.1
theorem R_least_loss (p_flight : (List Int) × (List Int)) (p_losses : List Int) : FR (f_least_loss [(eP (eT eI) (eT eI) p_flight), (eT eI p_losses)]) (S_least_loss p_flight p_losses) (fun a => .sh (.int a)) := by
  unfold S_least_loss f_least_loss
  refine fn_FR (δ := [.sh (eP (eT eI) (eT eI) p_flight), .sh (eT eI p_losses)]) rfl (fun _ => trivial) rfl ?_
  unfold c_least_loss
  refine k_expr ?_
  refine k_call ?_
  refine k_es ?_
  refine k_eq (p_sh rfl) ?_
  refine k_es ?_
  refine k_eq (p_sh rfl) ?_
  refine k_es_nil ?_
  refine k_callS (ds := [(eP (eT eI) (eT eI) p_flight), (eT eI p_losses)]) (e := eU) rfl (R_check_losses p_flight p_losses) (fun _ => rfl) fun r1 => ?_
  refine k_ret ?_
  refine k_op ?_
  refine k_es ?_
  refine k_call ?_
  refine k_es ?_
  refine k_eq (p_sh rfl) ?_
  refine k_es ?_
  refine k_eq (p_sh rfl) ?_
  refine k_es ?_
  refine k_eq p_cst ?_
  refine k_es_nil ?_
  refine k_callO (ds := [(eP (eT eI) (eT eI) p_flight), (eT eI p_losses), (.int 1)]) (δ2 := [.sh (eP (eT eI) (eT eI) p_flight), .sh (eT eI p_losses)]) (r := fun a => .sh (eP eI (eT eI) a)) rfl (R_passing p_flight p_losses 1) (fun _ => rfl) rfl fun r2 => ?_
  refine k_es ?_
  refine k_eq p_cst ?_
  refine k_es_nil ?_
  refine k_opP rfl (show _ = some (RV.sh (.int r2.1)) from rfl) ?_
  refine ⟨_, [.sh (eP (eT eI) (eT eI) p_flight), .sh (eT eI p_losses)], rfl, ?_⟩
  exact fin_ret rfl
noncomputable def S_greatest_loss (p_flight : (List Int) × (List Int)) (p_losses : List Int) : M Int := (S_check_losses p_flight p_losses).bind fun r1 => (S_passing p_flight p_losses (-1)).bind fun r2 => .ok r2.1
theorem R_greatest_loss (p_flight : (List Int) × (List Int)) (p_losses : List Int) : FR (f_greatest_loss [(eP (eT eI) (eT eI) p_flight), (eT eI p_losses)]) (S_greatest_loss p_flight p_losses) (fun a => .sh (.int a)) := by
  unfold S_greatest_loss f_greatest_loss
  refine fn_FR (δ := [.sh (eP (eT eI) (eT eI) p_flight), .sh (eT eI p_losses)]) rfl (fun _ => trivial) rfl ?_
  unfold c_greatest_loss
  refine k_expr ?_
  refine k_call ?_
  refine k_es ?_
  refine k_eq (p_sh rfl) ?_
  refine k_es ?_
  refine k_eq (p_sh rfl) ?_
  refine k_es_nil ?_
  refine k_callS (ds := [(eP (eT eI) (eT eI) p_flight), (eT eI p_losses)]) (e := eU) rfl (R_check_losses p_flight p_losses) (fun _ => rfl) fun r1 => ?_
  refine k_ret ?_
  refine k_op ?_
  refine k_es ?_
  refine k_call ?_
  refine k_es ?_
  refine k_eq (p_sh rfl) ?_
  refine k_es ?_
  refine k_eq (p_sh rfl) ?_
  refine k_es ?_
  refine k_eq (p_op (es_cons p_cst es_nil) rfl (op_negI 1)) ?_
  refine k_es_nil ?_
  refine k_callO (ds := [(eP (eT eI) (eT eI) p_flight), (eT eI p_losses), (.int (-1))]) (δ2 := [.sh (eP (eT eI) (eT eI) p_flight), .sh (eT eI p_losses)]) (r := fun a => .sh (eP eI (eT eI) a)) rfl (R_passing p_flight p_losses (-1)) (fun _ => rfl) rfl fun r2 => ?_
  refine k_es ?_
  refine k_eq p_cst ?_
  refine k_es_nil ?_
  refine k_opP rfl (show _ = some (RV.sh (.int r2.1)) from rfl) ?_
  refine ⟨_, [.sh (eP (eT eI) (eT eI) p_flight), .sh (eT eI p_losses)], rfl, ?_⟩
  exact fin_ret rfl
noncomputable def S_cheapest (p_flight : (List Int) × (List Int)) (p_losses : List Int) : M (List Int) := (S_check_losses p_flight p_losses).bind fun r1 => (S_passing p_flight p_losses 1).bind fun r2 => .ok r2.2
theorem R_cheapest (p_flight : (List Int) × (List Int)) (p_losses : List Int) : FR (f_cheapest [(eP (eT eI) (eT eI) p_flight), (eT eI p_losses)]) (S_cheapest p_flight p_losses) (fun a => .sh (eT eI a)) := by
  unfold S_cheapest f_cheapest
  refine fn_FR (δ := [.sh (eP (eT eI) (eT eI) p_flight), .sh (eT eI p_losses)]) rfl (fun _ => trivial) rfl ?_
  unfold c_cheapest
  refine k_expr ?_
  refine k_call ?_
  refine k_es ?_
  refine k_eq (p_sh rfl) ?_
  refine k_es ?_
  refine k_eq (p_sh rfl) ?_
  refine k_es_nil ?_
  refine k_callS (ds := [(eP (eT eI) (eT eI) p_flight), (eT eI p_losses)]) (e := eU) rfl (R_check_losses p_flight p_losses) (fun _ => rfl) fun r1 => ?_
  refine k_ret ?_
  refine k_op ?_
  refine k_es ?_
  refine k_call ?_
  refine k_es ?_
  refine k_eq (p_sh rfl) ?_
  refine k_es ?_
  refine k_eq (p_sh rfl) ?_
  refine k_es ?_
  refine k_eq p_cst ?_
  refine k_es_nil ?_
  refine k_callO (ds := [(eP (eT eI) (eT eI) p_flight), (eT eI p_losses), (.int 1)]) (δ2 := [.sh (eP (eT eI) (eT eI) p_flight), .sh (eT eI p_losses)]) (r := fun a => .sh (eP eI (eT eI) a)) rfl (R_passing p_flight p_losses 1) (fun _ => rfl) rfl fun r2 => ?_
  refine k_es ?_
  refine k_eq p_cst ?_
  refine k_es_nil ?_
  refine k_opP rfl (show _ = some (RV.sh (eT eI r2.2)) from rfl) ?_
  refine ⟨_, [.sh (eP (eT eI) (eT eI) p_flight), .sh (eT eI p_losses)], rfl, ?_⟩
  exact fin_ret rfl
noncomputable def S__law_loss (p_flight : (List Int) × (List Int)) (p_losses : List Int) (p_places : List Int) : M Int := (compM (List.zip p_losses (List.zip p_places p_flight.2)) (fun x1 => .ok true) (fun x1 => (mulM x1.1 (x1.2.1 - x1.2.2)).bind fun v2 => .ok v2)).bind fun ys3 => .ok (List.sum ys3)
theorem R__law_loss (p_flight : (List Int) × (List Int)) (p_losses : List Int) (p_places : List Int) : FR (f__law_loss [(eP (eT eI) (eT eI) p_flight), (eT eI p_losses), (eT eI p_places)]) (S__law_loss p_flight p_losses p_places) (fun a => .sh (.int a)) := by
  unfold S__law_loss f__law_loss
  refine fn_FR (δ := [.sh (eP (eT eI) (eT eI) p_flight), .sh (eT eI p_losses), .sh (eT eI p_places), .non, .non, .non]) rfl (fun _ => trivial) rfl ?_
  unfold c__law_loss
  refine k_ret ?_
  refine k_op ?_
  refine k_es ?_
  refine k_comp ?_
  refine k_zip ?_
  refine k_es ?_
  refine k_eq (p_sh rfl) ?_
  refine k_es ?_
  refine k_eq (p_sh rfl) ?_
  refine k_es ?_
  refine k_eq (p_op (es_cons (p_sh rfl) (es_cons p_cst es_nil)) rfl (show _ = some (RV.sh (eT eI p_flight.2)) from rfl)) ?_
  refine k_es_nil ?_
  refine ⟨_, [.sh (eP (eT eI) (eT eI) p_flight), .sh (eT eI p_losses), .sh (eT eI p_places), .non, .non, .non], [p_losses.map eI, p_places.map eI, p_flight.2.map eI], rfl, rfl, ?_⟩
  rw [zipL3]
  refine k_compM (e := (eP3 eI eI eI)) (e' := eI) (xs := (List.zip p_losses (List.zip p_places p_flight.2))) (E1 := fun x1 => [.sh (eP (eT eI) (eT eI) p_flight), .sh (eT eI p_losses), .sh (eT eI p_places), .sh (.int x1.1), .sh (.int x1.2.1), .sh (.int x1.2.2)]) (free_cons trivial (free_cons trivial (free_cons trivial free_nil))) rfl (fun _ => (asg_tup (asgs_cons (asg_name trivial rfl) (asgs_cons (asg_name trivial rfl) (asgs_cons (asg_name trivial rfl) asgs_nil))))) (fun _ => rfl) ?_ ?_ ?_
  ·
    intro x1
    exact k_notest
  ·
    intro x1
    refine k_op ?_
    refine k_es ?_
    refine k_eq (p_sh rfl) ?_
    refine k_es ?_
    refine k_eq (p_op (es_cons (p_sh rfl) (es_cons (p_sh rfl) es_nil)) rfl (op_subI x1.2.1 x1.2.2)) ?_
    refine k_es_nil ?_
    refine k_opM rfl (op_mul x1.1 (x1.2.1 - x1.2.2)) fun v2 => ?_
    exact ⟨_, rfl, _, rfl, rfl⟩
  intro ys3
  refine k_es_nil ?_
  refine k_opP rfl (op_sum ys3) ?_
  refine ⟨_, [.sh (eP (eT eI) (eT eI) p_flight), .sh (eT eI p_losses), .sh (eT eI p_places), .non, .non, .non], rfl, ?_⟩
  exact fin_ret rfl
end DS
set_option linter.all false
set_option Elab.async false
set_option maxRecDepth 100000
set_option maxHeartbeats 4000000
set_option exponentiation.threshold 9000
/-! Layer S. Part 5: what the plain functions' words give. -/
namespace DS
open DL
open PySem (Str PyData)
section
variable {α β γ σ ρ : Type}
theorem leE_int (a b : Int) : leE eI a b = decide (a ≤ b) := by
  unfold leE PySem.W.dataLe PySem.W.sortLe
  show (!PySem.W.dataLt (.int b) (.int a)) = _
  rw [PySem.W.dataLt_int]
  by_cases h : a ≤ b
  · simp [h]
  · simp [h]; omega
/-- the order of tuples of ints -/
def ltI : List Int → List Int → Bool
  | [], [] => false
  | [], _ :: _ => true
  | _ :: _, [] => false
  | x :: xs, y :: ys => decide (x < y) || (decide (x = y) && ltI xs ys)
theorem toks_ltI : ∀ xs ys : List Int, PyProof.Rows.lexLt PyProof.Rows.itemOrd (PySem.W.keyToksAll (xs.map .int)) (PySem.W.keyToksAll (ys.map .int)) = ltI xs ys
  | [], [] => by decide
  | [], y :: ys => rfl
  | x :: xs, [] => rfl
  | x :: xs, y :: ys => by
    show PyProof.Rows.lexLt PyProof.Rows.itemOrd (PySem.W.keyToksAll (PyData.int x :: xs.map .int)) (PySem.W.keyToksAll (PyData.int y :: ys.map .int)) = _
    by_cases h : x = y
    · subst h
      rw [PySem.W.dataLt_all_yes (show PySem.W.alike (.int x) (.int x) = true from rfl) (show PyData.eqv (.int x) (.int x) = true by simp [PyData.eqv]), toks_ltI]
      simp [ltI]
    · rw [PySem.W.dataLt_all_no (show PySem.W.alike (.int x) (.int y) = true from rfl) (show PyData.eqv (.int x) (.int y) = false by simp [PyData.eqv, h]), PySem.W.dataLt_int]
      simp [ltI, h]
theorem leE_T (a b : List Int) : leE (eT eI) a b = !ltI b a := by
  unfold leE PySem.W.dataLe PySem.W.sortLe
  show (!PySem.W.dataLt (.tuple (b.map .int)) (.tuple (a.map .int))) = _
  rw [PySem.W.dataLt_tuple, toks_ltI]
theorem leE_pair (p q : Int × Int) : leE (eP eI eI) p q = decide (p.1 < q.1 ∨ (p.1 = q.1 ∧ p.2 ≤ q.2)) := by
  show leE (eT eI) [p.1, p.2] [q.1, q.2] = _
  rw [leE_T, Bool.eq_iff_iff]
  simp only [ltI, Bool.and_false, Bool.or_false, Bool.not_eq_true', Bool.or_eq_false_iff, Bool.and_eq_false_iff, decide_eq_false_iff_not, decide_eq_true_eq]
  omega
/-! ### steps that go well -/
theorem mulM_ok {i j : Int} (h : (-18446744073709551616 < i ∧ i < 18446744073709551616) ∨ (-18446744073709551616 < j ∧ j < 18446744073709551616)) : mulM i j = .ok (i * j) := by
  unfold mulM
  refine if_pos ?_
  unfold okMul
  rcases h with h | h
  · rw [decide_eq_true (show -(2 ^ 64) < i by omega), decide_eq_true (show i < 2 ^ 64 by omega)]; rfl
  · rw [decide_eq_true (show -(2 ^ 64) < j by omega), decide_eq_true (show j < 2 ^ 64 by omega)]; simp
theorem fdivM_ok {i j : Int} (h : 0 < j) (h2 : j < 1073741824) : fdivM i j = .ok (i / j) := if_pos ⟨h, .inl h2⟩
theorem modM_ok {i j : Int} (h : 0 < j) : modM i j = .ok (i % j) := if_pos h
theorem rngM_ok {a b : Int} (h : -1000000 ≤ a ∧ a ≤ 1000000 ∧ -1000000 ≤ b ∧ b ≤ 1000000) : rngM a b = .ok (rngI a b) := by
  refine if_pos ?_
  rw [decide_eq_true (show -(2 ^ 62) ≤ a by omega), decide_eq_true (show a < 2 ^ 62 by omega), decide_eq_true (show -(2 ^ 62) ≤ b by omega), decide_eq_true (show b < 2 ^ 62 by omega)]; rfl
theorem rngOkM_ok {a b : Int} (h : -1000000 ≤ a ∧ a ≤ 1000000 ∧ -1000000 ≤ b ∧ b ≤ 1000000) : rngOkM a b = .ok (rngI a b) := by
  refine if_pos ?_
  unfold rangeOk
  rw [decide_eq_true (show -(2 ^ 62) ≤ a by omega), decide_eq_true (show a < 2 ^ 62 by omega), decide_eq_true (show -(2 ^ 62) ≤ b by omega), decide_eq_true (show b < 2 ^ 62 by omega), decide_eq_true (show (b - a).toNat ≤ big by show _ ≤ 16777216; omega)]; rfl
theorem appM_ok {xs : List α} {x : α} (h : xs.length < 16777216) : appM xs x = .ok (xs ++ [x]) := if_pos h
theorem catM_ok {xs ys : List α} (h : xs.length + ys.length ≤ 16777216) : catM xs ys = .ok (xs ++ ys) := if_pos h
theorem repM_ok {xs : List α} {k : Int} (h : xs.length ≤ 1000 ∧ k ≤ 1000 ∧ -1000 ≤ k) : repM xs k = .ok (List.replicate k.toNat xs).flatten := if_pos h
theorem rep1 (a : α) (n : Nat) : (List.replicate n [a]).flatten = List.replicate n a := by
  induction n with
  | zero => rfl
  | succ n ih => rw [List.replicate_succ, List.flatten_cons, ih]; rfl
theorem idxM_ok {xs : List α} {i : Int} (h0 : 0 ≤ i) (h1 : i < xs.length) : idxM xs i = .ok (xs[i.toNat]'(by omega)) := by
  have hl : i.toNat < xs.length := by omega
  unfold idxM atI ixN
  rw [if_pos h0, if_pos h1]
  show (match xs[i.toNat]? with | some x => M.ok x | none => M.bad) = _
  rw [List.getElem?_eq_getElem hl]
theorem idxM_nat {xs : List α} {n : Nat} {x : α} (h : xs[n]? = some x) : idxM xs (n : Int) = .ok x := by
  obtain ⟨hl, e⟩ := List.getElem?_eq_some_iff.mp h
  rw [idxM_ok (by omega) (by omega)]
  simp [e]
theorem setIM_ok {xs : List α} {i : Int} {v : α} (h0 : 0 ≤ i) (h1 : i < xs.length) : setIM xs i v = .ok (xs.set i.toNat v) := by
  unfold setIM ixN
  rw [if_pos h0, if_pos h1]
theorem compGo_ok {p : α → M Bool} {g : α → M β} {P : α → Bool} {G : α → β} : ∀ (xs : List α), (∀ x ∈ xs, p x = .ok (P x)) → (∀ x ∈ xs, P x = true → g x = .ok (G x)) → compGo p g xs = .ok ((xs.filter P).map G)
  | [], _, _ => rfl
  | x :: xs, hp, hg => by
    unfold compGo
    rw [hp x (.head _), M.bind_ok, compGo_ok xs (fun y hy => hp y (.tail _ hy)) fun y hy => hg y (.tail _ hy)]
    cases h : P x with
    | false => rw [if_neg Bool.false_ne_true, List.filter_cons_of_neg (by rw [h]; exact Bool.false_ne_true)]
    | true => rw [if_pos rfl, hg x (.head _) h, List.filter_cons_of_pos h]; rfl
theorem compM_ok {xs : List α} {p : α → M Bool} {g : α → M β} (P : α → Bool) (G : α → β) (hl : xs.length ≤ 16777216) (hp : ∀ x ∈ xs, p x = .ok (P x)) (hg : ∀ x ∈ xs, P x = true → g x = .ok (G x)) : compM xs p g = .ok ((xs.filter P).map G) := by
  unfold compM
  rw [if_pos (show xs.length ≤ big from hl), compGo_ok xs hp hg]; rfl
theorem compM_map {xs : List α} {g : α → M β} (G : α → β) (hl : xs.length ≤ 16777216) (hg : ∀ x ∈ xs, g x = .ok (G x)) : compM xs (fun _ => .ok true) g = .ok (xs.map G) := by
  rw [compM_ok (fun _ => true) G hl (fun _ _ => rfl) fun x hx _ => hg x hx, List.filter_eq_self.mpr fun _ _ => rfl]
@[simp] theorem forN_nil {f : σ → α → M σ} {s : σ} : forN f [] s = .ok s := by unfold forN; exact rfl
@[simp] theorem forN_cons {f : σ → α → M σ} {s : σ} {x : α} {xs : List α} : forN f (x :: xs) s = (f s x).bind fun s' => forN f xs s' := by rw [forN]
theorem forN_inv {f : σ → α → M σ} (I : Nat → σ → Prop) : ∀ (xs : List α) (i : Nat) (s : σ), I i s → (∀ i s x, I i s → xs[i]? = some x ∨ x ∈ xs → x ∈ xs → ∃ s', f s x = .ok s' ∧ I (i + 1) s') → ∃ s', forN f xs s = .ok s' ∧ I (i + xs.length) s'
  | [], i, s, h, _ => ⟨s, rfl, h⟩
  | x :: xs, i, s, h, hs => by
    obtain ⟨s1, e1, h1⟩ := hs i s x h (.inr (.head _)) (.head _)
    obtain ⟨s2, e2, h2⟩ := forN_inv I xs (i + 1) s1 h1 fun j s y hj _ hy => hs j s y hj (.inr (.tail _ hy)) (.tail _ hy)
    refine ⟨s2, ?_, by rw [show i + (x :: xs).length = i + 1 + xs.length by rw [List.length_cons]; omega]; exact h2⟩
    unfold forN; rw [e1]; exact e2
/-- a loop as a fold -/
theorem forN_fold {f : σ → α → M σ} {g : σ → α → σ} (I : σ → Prop) : ∀ (xs : List α) (s : σ), I s → (∀ s, ∀ x ∈ xs, I s → f s x = .ok (g s x) ∧ I (g s x)) → forN f xs s = .ok (xs.foldl g s) ∧ I (xs.foldl g s)
  | [], s, h, _ => ⟨rfl, h⟩
  | x :: xs, s, h, hs => by
    obtain ⟨e1, h1⟩ := hs s x (.head _) h
    have := forN_fold I xs (g s x) h1 fun s y hy => hs s y (.tail _ hy)
    refine ⟨?_, this.2⟩
    unfold forN; rw [e1]; exact this.1
/-- a loop that always goes on -/
theorem forF_next {f : σ → α → M (Fl σ ρ)} (I : σ → Prop) : ∀ (xs : List α) (s : σ), I s → (∀ s, ∀ x ∈ xs, I s → ∃ s', f s x = .ok (.next s') ∧ I s') → ∃ s', forF f xs s = .ok (.next s') ∧ I s'
  | [], s, h, _ => ⟨s, rfl, h⟩
  | x :: xs, s, h, hs => by
    obtain ⟨s1, e1, h1⟩ := hs s x (.head _) h
    obtain ⟨s2, e2, h2⟩ := forF_next I xs s1 h1 fun s y hy => hs s y (.tail _ hy)
    exact ⟨s2, by unfold forF; rw [e1]; exact e2, h2⟩
theorem forF_bind {f : σ → α → M (Fl σ ρ)} {xs : List α} {s : σ} {k : Fl σ ρ → M γ} {r : M γ} (I : σ → Prop) (h0 : I s) (hs : ∀ s, ∀ x ∈ xs, I s → ∃ s', f s x = .ok (.next s') ∧ I s') (hk : ∀ s', I s' → k (.next s') = r) : (forF f xs s).bind k = r := by
  obtain ⟨s', e, h⟩ := forF_next I xs s h0 hs
  rw [e, M.bind_ok]; exact hk s' h
theorem compS_inv {g : σ → α → M (β × σ)} (I : Nat → σ → Prop) (P : β → Prop) (xs : List α) (s : σ) (hl : xs.length ≤ 16777216) (h : I xs.length s) (hs : ∀ n s x, x ∈ xs → I (n + 1) s → ∃ y s', g s x = .ok (y, s') ∧ P y ∧ I n s') : ∃ ys s', compS g xs s = .ok (ys, s') ∧ ys.length = xs.length ∧ (∀ y ∈ ys, P y) ∧ I 0 s' := by
  have go : ∀ (xs : List α) (s : σ), I xs.length s → (∀ n s x, x ∈ xs → I (n + 1) s → ∃ y s', g s x = .ok (y, s') ∧ P y ∧ I n s') → ∃ ys s', compSGo g xs s = .ok (ys, s') ∧ ys.length = xs.length ∧ (∀ y ∈ ys, P y) ∧ I 0 s' := by
    intro xs
    induction xs with
    | nil => exact fun s h _ => ⟨[], s, rfl, rfl, fun _ h => (nomatch h), h⟩
    | cons x xs ih =>
      intro s h hs
      obtain ⟨y, s1, e1, p1, i1⟩ := hs _ s x (.head _) h
      obtain ⟨ys, s2, e2, l2, p2, i2⟩ := ih s1 i1 fun n s y hy => hs n s y (.tail _ hy)
      refine ⟨y :: ys, s2, ?_, by simp [l2], fun z hz => ?_, i2⟩
      · unfold compSGo; rw [e1, M.bind_ok, e2]; rfl
      · rcases List.mem_cons.mp hz with rfl | hz
        · exact p1
        · exact p2 z hz
  obtain ⟨ys, s', e, h1⟩ := go xs s h hs
  exact ⟨ys, s', by unfold compS; rw [if_pos (show xs.length ≤ big from hl), e]; rfl, h1⟩
theorem rngI_len (n : Int) : (rngI 0 n).length = n.toNat := by unfold rngI; simp
theorem rngI_mem {n x : Int} : x ∈ rngI 0 n ↔ 0 ≤ x ∧ x < n := by
  unfold rngI
  rw [List.mem_map]
  constructor
  · rintro ⟨i, hi, rfl⟩; rw [List.mem_range] at hi; omega
  · intro h; exact ⟨x.toNat, List.mem_range.mpr (by omega), by omega⟩
end
end DS
set_option linter.all false
set_option Elab.async false
set_option maxRecDepth 100000
set_option maxHeartbeats 4000000
/-! Flights: what is drawn, the flows. -/
namespace DS
open DL
open PySem (Str PyData)
/-- the flows -/
def fl : List Int → List Int → Int → List Int
  | c :: cs, d :: ds, b => max 0 (b + d - c) :: fl cs ds (max 0 (b + d - c))
  | _, _, _ => []
theorem fl_len : ∀ (c d : List Int) (b : Int), (fl c d b).length = min c.length d.length
  | [], _, _ => by simp [fl]
  | _ :: _, [], _ => by simp [fl]
  | c :: cs, d :: ds, b => by simp only [fl, List.length_cons, fl_len]; omega
theorem fl_nn : ∀ (c d : List Int) (b : Int), ∀ x ∈ fl c d b, 0 ≤ x
  | [], _, _, x, h => by simp [fl] at h
  | _ :: _, [], _, x, h => by simp [fl] at h
  | c :: cs, d :: ds, b, x, h => by
    rcases List.mem_cons.mp h with rfl | h
    · omega
    · exact fl_nn cs ds _ x h
def dm (b : List Int) (n : Nat) : List Int := (List.range n).map fun j : Nat => ((b.count (j : Int) : Nat) : Int)
theorem dm_len (b : List Int) (n : Nat) : (dm b n).length = n := by unfold dm; simp
/-- a flight's flows -/
def flo (f : List Int × List Int) : List Int := fl f.1 (dm f.2 f.1.length) 0
theorem flo_len (f : List Int × List Int) : (flo f).length = f.1.length := by unfold flo; rw [fl_len, dm_len]; omega
theorem flows_for_sp {c d : List Int} (h : c.length ≤ 10000) : S_flows_for c d = .ok (fl c d 0) := by
  have go : ∀ (c d acc : List Int) (b : Int), acc.length + c.length ≤ 10000 → ∃ z, forN (fun (s3 : ((List Int) × Int)) x2 => M.lt (max 0 ((s3.2 + x2.2) - x2.1)) fun before5 => (appM s3.1 before5).bind fun found6 => .ok (found6, before5)) (List.zip c d) (acc, b) = .ok (acc ++ fl c d b, z) := by
    intro c
    induction c with
    | nil => intro d acc b _; exact ⟨b, by simp [forN, fl]⟩
    | cons c cs ih =>
      intro d acc b hl
      cases d with
      | nil => exact ⟨b, by simp [forN, fl]⟩
      | cons d ds =>
        rw [List.length_cons] at hl
        obtain ⟨z, e⟩ := ih ds (acc ++ [max 0 (b + d - c)]) (max 0 (b + d - c)) (by simp; omega)
        refine ⟨z, ?_⟩
        rw [List.zip_cons_cons, forN_cons]
        simp only [M.lt_eq] at e ⊢
        rw [appM_ok (show acc.length < 16777216 by omega)]
        simp only [M.bind_ok]
        rw [e]
        simp [fl]
  obtain ⟨z, e⟩ := go c d [] 0 (by simpa using h)
  unfold S_flows_for
  simp only [M.lt_eq] at e ⊢
  rw [e]; simp
theorem demands_sp {f : List Int × List Int} (h : f.1.length ≤ 1000) : S_demands_of f = .ok (dm f.2 f.1.length) := by
  unfold S_demands_of
  rw [rngM_ok (by omega), M.bind_ok, compM_map (fun x => (List.count x f.2 : Int)) (by rw [rngI_len]; omega) (fun _ _ => rfl)]
  simp only [M.bind_ok]
  unfold dm rngI
  rw [List.map_map]
  simp only [Int.sub_zero, Int.toNat_natCast]
  congr 1
  apply List.map_congr_left
  intro j _
  simp
theorem flows_in_sp {f : List Int × List Int} (h : f.1.length ≤ 1000) : S_flows_in f = .ok (flo f) := by
  unfold S_flows_in
  rw [demands_sp h]
  simp only [M.bind_ok]
  rw [flows_for_sp (by omega)]
  simp only [M.bind_ok, flo]
theorem check_flight_sp {f : List Int × List Int} (h : FlOk f.1 f.2) : S_check_flight f = .ok () := if_pos h
theorem flows_sp {f : List Int × List Int} (h : FlOk f.1 f.2) : S_flows f = .ok (flo f) := by
  unfold S_flows
  rw [check_flight_sp h]
  simp only [M.bind_ok]
  rw [flows_in_sp (by have := h.c5; omega)]
  simp only [M.bind_ok]
/-- what is drawn is a flight -/
theorem flight_sp {n cl cu : Int} {s : D} (hcl : 1 ≤ cl ∧ cl ≤ 5) (hcu : 0 ≤ cu ∧ cu ≤ 9) (h : SOk n s) (hn : 20 ≤ n) : ∃ f s', S__law_flight s cl cu = .ok (f, s') ∧ FlOk f.1 f.2 ∧ (f.1.length : Int) ≤ cl ∧ (f.2.length : Int) ≤ cu ∧ SOk (n - 20) s' := by
  obtain ⟨r1, s1, e1, p1, q1, h1⟩ := draw_sp (size := cl) h (by omega) (by omega) (by omega)
  obtain ⟨r2, s2, e2, p2, q2, h2⟩ := draw_sp (size := cu + 1) h1 (by omega) (by omega) (by omega)
  obtain ⟨w, hw, s3, e3, h3⟩ := choice_sp (xs := ([2, 3, 4, 9] : List Int)) h2 (by omega) (by simp) (by simp)
  have hw' : 1 ≤ w ∧ w ≤ 9 := by
    simp only [List.mem_cons, List.not_mem_nil, or_false] at hw
    omega
  obtain ⟨cs, s4, e4, l4, m4, h4⟩ := compS_inv (g := fun z6 (x5 : Int) => (S__law_draw z6 w).bind fun r7 => .ok (r7.1, r7.2)) (fun k s => SOk (n - 3 - (1 + r1) + k) s) (fun y => 0 ≤ y ∧ y ≤ 8) (rngI 0 (1 + r1)) s3
    (by rw [rngI_len]; omega) (by rw [rngI_len]; exact h3.mono (by omega)) fun k s x hx hk => by
      obtain ⟨r, s', e, a, b, c⟩ := draw_sp (size := w) hk (by omega) (by omega) (by omega)
      exact ⟨r, s', by rw [e]; rfl, ⟨a, by omega⟩, c.mono (by omega)⟩
  rw [rngI_len] at l4
  obtain ⟨t, ht, s5, e5, h5⟩ := choice_sp (xs := [1, 2, 1 + r1]) h4 (by omega) (by simp) (by simp)
  have ht' : 1 ≤ t := by
    simp only [List.mem_cons, List.not_mem_nil, or_false] at ht
    omega
  obtain ⟨bs, s6, e6, l6, m6, h6⟩ := compS_inv (g := fun z12 (x11 : Int) => (S__law_draw z12 (min t (1 + r1))).bind fun r13 => .ok (r13.1, r13.2)) (fun k s => SOk (n - 3 - (1 + r1) - 1 - r2 + k) s) (fun y => 0 ≤ y ∧ y < 1 + r1) (rngI 0 r2) s5
    (by rw [rngI_len]; omega) (by rw [rngI_len]; exact h5.mono (by omega)) fun k s x hx hk => by
      obtain ⟨r, s', e, a, b, c⟩ := draw_sp (size := min t (1 + r1)) hk (by omega) (by omega) (by omega)
      exact ⟨r, s', by rw [e]; rfl, ⟨a, by omega⟩, c.mono (by omega)⟩
  rw [rngI_len] at l6
  refine ⟨(cs, bs), s6, ?_, ⟨?_, ?_, ?_, ?_, ?_⟩, ?_, ?_, h6.mono (by omega)⟩
  · unfold S__law_flight
    simp only [e1, M.bind_ok, e2, e3]
    rw [rngM_ok (by omega)]
    simp only [M.bind_ok, e4, e5]
    rw [rngM_ok (by omega)]
    simp only [M.bind_ok, e6, M.noExc]
  · show 1 ≤ cs.length; omega
  · show cs.length ≤ 5; omega
  · show bs.length ≤ 9; omega
  · exact m4
  · intro x hx
    have := m6 x hx
    show 0 ≤ x ∧ x < (cs.length : Int)
    omega
  · show (cs.length : Int) ≤ cl; omega
  · show (bs.length : Int) ≤ cu; omega
end DS
set_option linter.all false
set_option Elab.async false
set_option maxRecDepth 100000
set_option maxHeartbeats 4000000
/-! Losses: who is passed on. -/
namespace DS
open DL
open PySem (Str PyData)
theorem cut_to {α : Type} {xs : List α} {n : Int} (h : 0 ≤ n) : cut xs none (some n) = xs.take n.toNat := by
  unfold cut sIx
  simp only [if_neg (show ¬ n < 0 by omega), List.drop_zero, Nat.sub_zero]
  rw [← List.take_eq_take_min]
theorem cut_to' {α : Type} {xs : List α} {n : Nat} : cut xs none (some (n : Int)) = xs.take n := by
  rw [cut_to (by omega)]; simp
def keyLe (k : Int → Int) (x y : Int) : Bool := decide (k x < k y ∨ (k x = k y ∧ x ≤ y))
def pick (k : Int → Int) (ws : List Int) (n : Int) : List Int := (ws.mergeSort (keyLe k)).take n.toNat
def own (b : List Int) (i : Int) : List Int := ((enumN 0 b).filter fun p => decide (p.2 = i)).map (·.1)
def Ws (b : List Int) (k : Int → Int) : List (Int × Int) → List Int → List (Int × List Int)
  | [], _ => []
  | p :: r, ws => (p.1, pick k (ws ++ own b p.1) p.2) :: Ws b k r (pick k (ws ++ own b p.1) p.2)
def la (l : List Int) (x : Int) : Int := l.getD x.toNat 0
def totW (l : List Int) (W : List (Int × List Int)) : Int := (W.map fun p => (p.2.map (la l)).sum).sum
def setAll (v : Int) (w ps : List Int) : List Int := w.foldl (fun ps x => ps.set x.toNat v) ps
def plW (b : List Int) (W : List (Int × List Int)) : List Int := W.foldl (fun ps p => setAll (p.1 + 1) p.2 ps) b
theorem sort_pairs (xs : List (Int × Int)) : sortM (eP eI eI) xs = .ok (xs.mergeSort (leE (eP eI eI))) := by
  unfold sortM
  refine if_pos ?_
  rw [Bool.and_eq_true]
  constructor
  · unfold alikeD
    rw [List.all_map, List.all_eq_true]
    intro x _
    show (List.map (eP eI eI) xs).all _ = true
    rw [List.all_map, List.all_eq_true]
    intro y _
    rfl
  · unfold shallowD
    rw [Bool.and_eq_true]
    constructor
    · rw [List.all_map, List.all_eq_true]; intro x _; exact plainD_e (e := eP eI eI) rfl x
    · rw [show (xs.map (eP eI eI)).all tupD = true by rw [List.all_map, List.all_eq_true]; intro x _; rfl]; rfl
theorem setAll_len (v : Int) : ∀ (w ps : List Int), (setAll v w ps).length = ps.length
  | [], ps => rfl
  | x :: w, ps => by show (setAll v w (ps.set _ v)).length = _; rw [setAll_len, List.length_set]
theorem own_mem {b : List Int} {i x : Int} : x ∈ own b i ↔ ∃ j : Nat, x = j ∧ b[j]? = some i := by
  have go : ∀ (b : List Int) (n : Nat), x ∈ ((enumN n b).filter fun p => decide (p.2 = i)).map (·.1) ↔ ∃ j : Nat, x = ((n + j : Nat) : Int) ∧ b[j]? = some i := by
    intro b
    induction b with
    | nil => intro n; simp [enumN]
    | cons y ys ih =>
      intro n
      unfold enumN
      by_cases h : y = i
      · rw [List.filter_cons_of_pos (by simpa using h), List.map_cons, List.mem_cons, ih]
        constructor
        · rintro (rfl | ⟨j, h1, h2⟩)
          · exact ⟨0, by simp, by simpa using h⟩
          · exact ⟨j + 1, by omega, by simpa using h2⟩
        · rintro ⟨j, h1, h2⟩
          cases j with
          | zero => exact .inl (by simpa using h1)
          | succ j => exact .inr ⟨j, by omega, by simpa using h2⟩
      · rw [List.filter_cons_of_neg (by simpa using h), ih]
        constructor
        · rintro ⟨j, h1, h2⟩
          exact ⟨j + 1, by omega, by simpa using h2⟩
        · rintro ⟨j, h1, h2⟩
          cases j with
          | zero => exact absurd (by simpa using h2) h
          | succ j => exact ⟨j, by omega, by simpa using h2⟩
  have := go b 0
  unfold own
  rw [this]
  simp
theorem own_nodup (b : List Int) (i : Int) : (own b i).Nodup := by
  have go : ∀ (b : List Int) (n : Nat), (∀ x ∈ (enumN n b).map (·.1), (n : Int) ≤ x) ∧ ((enumN n b).map (·.1)).Nodup := by
    intro b
    induction b with
    | nil => intro n; simp [enumN]
    | cons y ys ih =>
      intro n
      obtain ⟨h1, h2⟩ := ih (n + 1)
      unfold enumN
      rw [List.map_cons, List.nodup_cons]
      refine ⟨fun x hx => ?_, fun hc => ?_, h2⟩
      · rcases List.mem_cons.mp hx with rfl | hx
        · exact Int.le_refl _
        · have := h1 x hx; omega
      · have := h1 _ hc
        simp at this; omega
  exact List.Nodup.sublist (List.Sublist.map _ List.filter_sublist) (go b 0).2
theorem own_len (b : List Int) (i : Int) : (own b i).length = b.count i := by
  have go : ∀ (b : List Int) (n : Nat), (((enumN n b).filter fun p => decide (p.2 = i)).map (·.1)).length = b.count i := by
    intro b
    induction b with
    | nil => intro n; rfl
    | cons y ys ih =>
      intro n
      unfold enumN
      by_cases h : y = i
      · rw [List.filter_cons_of_pos (by simpa using h), List.map_cons, List.length_cons, ih, h, List.count_cons_self]
      · rw [List.filter_cons_of_neg (by simpa using h), ih, List.count_cons_of_ne h]
  exact go b 0
theorem pick_mem {k : Int → Int} {ws : List Int} {n x : Int} (h : x ∈ pick k ws n) : x ∈ ws := (List.mem_mergeSort).mp (List.mem_of_mem_take h)
theorem pick_nodup {k : Int → Int} {ws : List Int} {n : Int} (h : ws.Nodup) : (pick k ws n).Nodup := by
  have : (ws.mergeSort (keyLe k)).Nodup := (List.mergeSort_perm ws _).nodup_iff.mpr h
  exact this.sublist (List.take_sublist _ _)
theorem pick_len {k : Int → Int} {ws : List Int} {n : Int} (h : n ≤ ws.length) : (pick k ws n).length = n.toNat := by
  unfold pick
  rw [List.length_take, List.length_mergeSort]; omega
theorem pick_congr {k k' : Int → Int} {ws : List Int} {n : Int} (h : ∀ x ∈ ws, ∀ y ∈ ws, keyLe k x y = keyLe k' x y) : pick k ws n = pick k' ws n := by
  unfold pick
  have := List.map_mergeSort (f := fun x : Int => x) (r := keyLe k) (s := keyLe k') (l := ws) h
  simp only [List.map_id'] at this
  rw [this]
/-- the choice as the program makes it -/
theorem pick_rows (k : Int → Int) (ws : List Int) {n : Int} (hn : 0 ≤ n) : (cut ((ws.map fun x => (k x, x)).mergeSort (leE (eP eI eI))) none (some n)).map (·.2) = pick k ws n := by
  have e : (ws.map fun x => (k x, x)).mergeSort (leE (eP eI eI)) = (ws.mergeSort (keyLe k)).map fun x => (k x, x) :=
    (List.map_mergeSort (f := fun x => (k x, x)) (r := keyLe k) (s := leE (eP eI eI)) fun a _ b _ => by rw [leE_pair]; rfl).symm
  rw [e, cut_to hn, ← List.map_take, List.map_map]
  unfold pick
  rw [show ((fun x : Int × Int => x.2) ∘ fun x => (k x, x)) = id from rfl, List.map_id]
/-- flows that the demands allow -/
def FlowsFit (b : List Int) : List (Int × Int) → Nat → Prop
  | [], _ => True
  | p :: r, m => (0 ≤ p.2 ∧ p.2 ≤ 1000) ∧ p.2 ≤ m + b.count p.1 ∧ FlowsFit b r p.2.toNat
def inR (n : Nat) (ws : List Int) : Prop := ∀ x ∈ ws, 0 ≤ x ∧ x < n
theorem own_in (b : List Int) (i : Int) : inR b.length (own b i) := by
  intro x hx
  obtain ⟨j, rfl, h⟩ := own_mem.mp hx
  have := (List.getElem?_eq_some_iff.mp h).1
  omega
theorem pick_in {k : Int → Int} {b ws : List Int} {i n : Int} (h : inR b.length ws) : inR b.length (pick k (ws ++ own b i) n) := fun x hx => by
  rcases List.mem_append.mp (pick_mem hx) with hx | hx
  · exact h x hx
  · exact own_in b i x hx
theorem la_ok {l : List Int} {x : Int} (h : 0 ≤ x ∧ x < l.length) : idxM l x = .ok (la l x) := by
  rw [idxM_ok h.1 h.2]
  unfold la
  rw [List.getD_eq_getElem?_getD, List.getElem?_eq_getElem (by omega)]; rfl
/-- passing, as the program runs it -/
theorem passing_sp {f : List Int × List Int} {l : List Int} {sign : Int} (hf : f.1.length ≤ 1000) (hb : f.2.length ≤ 1000) (hl : l.length = f.2.length) (hs : -1 ≤ sign ∧ sign ≤ 1) (hF : FlowsFit f.2 (enumN 0 (flo f)) 0) :
    S_passing f l sign = .ok (totW l (Ws f.2 (fun x => sign * la l x) (enumN 0 (flo f)) []), plW f.2 (Ws f.2 (fun x => sign * la l x) (enumN 0 (flo f)) [])) := by
  have inner : ∀ (w ps : List Int) (t i : Int), inR f.2.length w → ps.length = f.2.length → forN (fun (s17 : ((List Int) × Int)) x16 => (setIM s17.1 x16 (i + 1)).bind fun places19 => (idxM l x16).bind fun v20 => M.lt (s17.2 + v20) fun total21 => .ok (places19, total21)) w (ps, t) = .ok (setAll (i + 1) w ps, t + (w.map (la l)).sum) := by
    intro w
    induction w with
    | nil => intro ps t i _ _; simp [setAll]
    | cons x w ih =>
      intro ps t i hw hp
      have hx := hw x (.head _)
      rw [forN_cons]
      simp only []
      rw [setIM_ok (xs := ps) hx.1 (by omega)]
      simp only [M.bind_ok, M.lt_eq]
      rw [la_ok (by omega)]
      simp only [M.bind_ok]
      have := ih (ps.set x.toNat (i + 1)) (t + la l x) i (fun y hy => hw y (.tail _ hy)) (by rw [List.length_set]; exact hp)
      simp only [M.lt_eq] at this
      rw [this]
      simp only [List.map_cons, List.sum_cons, Int.add_assoc]; rfl
  have outer : ∀ (r : List (Int × Int)) (ws ps : List Int) (t : Int), ws.length ≤ 1000 → inR f.2.length ws → ps.length = f.2.length → FlowsFit f.2 r ws.length → ∃ z, forN (fun (s4 : ((List Int) × (List Int) × Int)) x3 => (compM (enumN 0 f.2) (fun x6 => .ok (decide (x6.2 = x3.1))) (fun x6 => .ok x6.1)).bind fun ys7 => (catM s4.2.1 ys7).bind fun v8 => (compM v8 (fun x9 => .ok true) (fun x9 => (idxM l x9).bind fun v10 => (mulM sign v10).bind fun v11 => .ok (v11, x9))).bind fun ys12 => (sortM (eP eI eI) ys12).bind fun v13 => (compM (cut v13 none (some x3.2)) (fun x14 => .ok true) (fun x14 => .ok x14.2)).bind fun ys15 => (forN (fun (s17 : ((List Int) × Int)) x16 => (setIM s17.1 x16 (x3.1 + 1)).bind fun places19 => (idxM l x16).bind fun v20 => M.lt (s17.2 + v20) fun total21 => .ok (places19, total21)) ys15 (s4.1, s4.2.2)).bind fun s22 => .ok (s22.1, ys15, s22.2)) r (ps, ws, t)
      = .ok ((Ws f.2 (fun x => sign * la l x) r ws).foldl (fun ps p => setAll (p.1 + 1) p.2 ps) ps, z, t + totW l (Ws f.2 (fun x => sign * la l x) r ws)) := by
    intro r
    induction r with
    | nil => intro ws ps t _ _ _ _; exact ⟨ws, by simp [Ws, totW]⟩
    | cons p r ih =>
      intro ws ps t h1 h2 h3 h4
      obtain ⟨⟨f0, f0'⟩, f1, f2⟩ := h4
      have hE : (enumN 0 f.2).length = f.2.length := by
        have : ∀ (b : List Int) n, (enumN n b).length = b.length := by
          intro b; induction b with
          | nil => intro n; rfl
          | cons y ys ih => intro n; simp [enumN, ih]
        exact this _ _
      have ho := own_len f.2 p.1
      have hcl : f.2.count p.1 ≤ f.2.length := List.count_le_length
      have hin : inR f.2.length (ws ++ own f.2 p.1) := fun x hx => by
        rcases List.mem_append.mp hx with hx | hx
        · exact h2 x hx
        · exact own_in _ _ x hx
      have hlen : (ws ++ own f.2 p.1).length ≤ 2000 := by rw [List.length_append]; omega
      have hpl := pick_len (k := fun x => sign * la l x) (ws := ws ++ own f.2 p.1) (n := p.2) (by rw [List.length_append, ho]; omega)
      obtain ⟨z, e⟩ := ih (pick (fun x => sign * la l x) (ws ++ own f.2 p.1) p.2) (setAll (p.1 + 1) (pick (fun x => sign * la l x) (ws ++ own f.2 p.1) p.2) ps) (t + ((pick (fun x => sign * la l x) (ws ++ own f.2 p.1) p.2).map (la l)).sum)
        (by rw [hpl]; omega) (pick_in h2) (by rw [setAll_len]; exact h3) (by rw [hpl]; exact f2)
      refine ⟨z, ?_⟩
      rw [forN_cons]
      simp only []
      rw [show compM (enumN 0 f.2) (fun x6 => .ok (decide (x6.2 = p.1))) (fun x6 => .ok x6.1) = .ok (own f.2 p.1) from compM_ok (fun x6 : Int × Int => decide (x6.2 = p.1)) (fun x6 => x6.1) (by rw [hE]; omega) (fun _ _ => rfl) (fun _ _ _ => rfl)]
      simp only [M.bind_ok]
      rw [catM_ok (by have := hlen; rw [List.length_append] at this; omega)]
      simp only [M.bind_ok]
      rw [compM_map (fun x => (sign * la l x, x)) (by show (ws ++ own f.2 p.1).length ≤ _; omega) (fun x hx => by
        have := hin x hx
        rw [la_ok (by omega)]
        simp only [M.bind_ok]
        rw [mulM_ok (.inl (by omega))]
        simp only [M.bind_ok])]
      simp only [M.bind_ok]
      rw [sort_pairs]
      simp only [M.bind_ok]
      rw [compM_map (fun x : Int × Int => x.2) (by rw [cut_to f0, List.length_take, List.length_mergeSort, List.length_map]; show min _ (ws ++ own f.2 p.1).length ≤ _; omega) (fun _ _ => rfl)]
      simp only [M.bind_ok]
      have hp := pick_rows (fun x => sign * la l x) (ws ++ own f.2 p.1) f0
      rw [hp]
      rw [inner _ _ _ _ (pick_in h2) h3]
      simp only [M.bind_ok]
      rw [e]
      simp only [Ws, totW, List.foldl_cons, List.map_cons, List.sum_cons, Int.add_assoc]
  unfold S_passing
  simp only [M.lt_eq]
  rw [flows_in_sp hf]
  simp only [M.bind_ok]
  obtain ⟨z, e⟩ := outer (enumN 0 (flo f)) [] f.2 0 (by simp) (fun x hx => nomatch hx) rfl hF
  simp only [M.lt_eq] at e
  rw [e]
  simp only [M.bind_ok, Int.zero_add, plW]
end DS
set_option linter.all false
set_option Elab.async false
set_option maxRecDepth 100000
set_option maxHeartbeats 4000000
namespace DS
open DL
open PySem (Str PyData)
theorem enumN_len {α : Type} : ∀ (b : List α) (n : Nat), (enumN n b).length = b.length
  | [], n => rfl
  | y :: ys, n => by simp [enumN, enumN_len ys]
theorem fit_fl (b : List Int) (c : List Int) (n : Nat) (hc : ∀ x ∈ c, 0 ≤ x) (hb : b.length ≤ 9) (hn : c.length ≤ 100) : FlowsFit b (enumN n (fl c ((List.range' n c.length).map fun j : Nat => ((b.count (j : Int) : Nat) : Int)) 0)) 0 := by
  have go : ∀ (c : List Int) (n m : Nat), (∀ x ∈ c, 0 ≤ x) → m + 9 * c.length ≤ 1000 → FlowsFit b (enumN n (fl c ((List.range' n c.length).map fun j : Nat => ((b.count (j : Int) : Nat) : Int)) m)) m := by
    intro c
    induction c with
    | nil => intro n m _ _; simp [fl, enumN, FlowsFit]
    | cons x c ih =>
      intro n m h hm
      rw [List.length_cons] at hm ⊢
      rw [List.range'_succ, List.map_cons]
      unfold fl enumN FlowsFit
      have hx := h x (.head _)
      have hcl : b.count (n : Int) ≤ b.length := List.count_le_length
      refine ⟨⟨by show 0 ≤ max 0 _; omega, by show max 0 _ ≤ (1000 : Int); omega⟩, by show max 0 _ ≤ _; simp only []; omega, ?_⟩
      have e : (max 0 ((m : Int) + (b.count (n : Int) : Nat) - x)) = (((max 0 ((m : Int) + (b.count (n : Int) : Nat) - x)).toNat : Nat) : Int) := by omega
      have := ih (n + 1) (max 0 ((m : Int) + (b.count (n : Int) : Nat) - x)).toNat (fun y hy => h y (.tail _ hy)) (by omega)
      rw [← e] at this
      exact this
  exact go c n 0 hc (by omega)
theorem fit_flo {f : List Int × List Int} (h : FlOk f.1 f.2) : FlowsFit f.2 (enumN 0 (flo f)) 0 := by
  have := fit_fl f.2 f.1 0 (fun x hx => (h.cs x hx).1) h.b9 (by have := h.c5; omega)
  unfold flo dm
  rw [List.range_eq_range']
  exact this
/-- |W| -/
theorem Ws_len {b : List Int} {k : Int → Int} : ∀ (r : List (Int × Int)) (ws : List Int), FlowsFit b r ws.length → (Ws b k r ws).map (fun p => (p.2.length : Int)) = r.map (·.2)
  | [], ws, _ => rfl
  | p :: r, ws, h => by
    obtain ⟨⟨f0, f0'⟩, f1, f2⟩ := h
    have hpl := pick_len (k := k) (ws := ws ++ own b p.1) (n := p.2) (by rw [List.length_append, own_len]; omega)
    unfold Ws
    rw [List.map_cons, List.map_cons, Ws_len r _ (by rw [hpl]; exact f2)]
    congr 1
    show ((pick k (ws ++ own b p.1) p.2).length : Int) = p.2
    rw [hpl]; omega
theorem enumN_snd {α : Type} : ∀ (b : List α) (n : Nat), (enumN n b).map (·.2) = b
  | [], n => rfl
  | y :: ys, n => by simp [enumN, enumN_snd ys]
/-- only the order counts -/
theorem Ws_congr {b : List Int} {k k' : Int → Int} (hk : ∀ x y : Int, 0 ≤ x ∧ x < b.length → 0 ≤ y ∧ y < b.length → keyLe k x y = keyLe k' x y) : ∀ (r : List (Int × Int)) (ws : List Int), inR b.length ws → Ws b k r ws = Ws b k' r ws
  | [], ws, _ => rfl
  | p :: r, ws, h => by
    have hin : inR b.length (ws ++ own b p.1) := fun x hx => by
      rcases List.mem_append.mp hx with hx | hx
      · exact h x hx
      · exact own_in _ _ x hx
    have e : pick k (ws ++ own b p.1) p.2 = pick k' (ws ++ own b p.1) p.2 := pick_congr fun x hx y hy => hk x y (hin x hx) (hin y hy)
    unfold Ws
    rw [e, Ws_congr hk r _ (pick_in h)]
theorem Ws_in {b : List Int} {k : Int → Int} : ∀ (r : List (Int × Int)) (ws : List Int), inR b.length ws → ∀ p ∈ Ws b k r ws, inR b.length p.2
  | [], ws, _, p, hp => by simp [Ws] at hp
  | q :: r, ws, h, p, hp => by
    unfold Ws at hp
    rcases List.mem_cons.mp hp with rfl | hp
    · exact pick_in h
    · exact Ws_in r _ (pick_in h) p hp
/-- sums, place by place -/
theorem totW_lin {l l' : List Int} {W : List (Int × List Int)} {n : Nat} (g m : Int) (hW : ∀ p ∈ W, inR n p.2) (hl : ∀ x : Int, 0 ≤ x ∧ x < n → la l' x = g * la l x + m) : totW l' W = g * totW l W + m * (W.map fun p => (p.2.length : Int)).sum := by
  have inner : ∀ w : List Int, inR n w → (w.map (la l')).sum = g * (w.map (la l)).sum + m * w.length := by
    intro w
    induction w with
    | nil => intro _; simp
    | cons x w ih =>
      intro h
      simp only [List.map_cons, List.sum_cons, List.length_cons]
      rw [ih fun y hy => h y (.tail _ hy), hl x (h x (.head _))]
      simp only [Int.mul_add, Int.natCast_add, Int.natCast_one, Int.mul_one]
      omega
  induction W with
  | nil => simp [totW]
  | cons p W ih =>
    have := ih fun q hq => hW q (.tail _ hq)
    unfold totW at this ⊢
    simp only [List.map_cons, List.sum_cons]
    rw [this, inner p.2 (hW p (.head _))]
    simp only [Int.mul_add]
    omega
/-! ### the loss of the places -/
def lossSum (w ps b : List Int) : Int := ((List.zip w (List.zip ps b)).map fun t => t.1 * (t.2.1 - t.2.2)).sum
theorem lossSum_set : ∀ (w ps b : List Int) (n : Nat) (v : Int), n < ps.length → w.length = ps.length → b.length = ps.length → lossSum w (ps.set n v) b = lossSum w ps b + w.getD n 0 * (v - ps.getD n 0)
  | [], ps, b, n, v, h, h1, h2 => by simp at h1; omega
  | x :: w, [], b, n, v, h, h1, h2 => by simp at h
  | x :: w, p :: ps, [], n, v, h, h1, h2 => by simp at h2
  | x :: w, p :: ps, y :: b, 0, v, h, h1, h2 => by
    simp only [lossSum, List.set_cons_zero, List.zip_cons_cons, List.map_cons, List.sum_cons, List.getD_cons_zero]
    have : x * (v - p) = x * (v - y) - x * (p - y) := by rw [← Int.mul_sub]; congr 1; omega
    omega
  | x :: w, p :: ps, y :: b, n + 1, v, h, h1, h2 => by
    simp only [List.length_cons] at h h1 h2
    have := lossSum_set w ps b n v (by omega) (by omega) (by omega)
    simp only [lossSum, List.set_cons_succ, List.zip_cons_cons, List.map_cons, List.sum_cons, List.getD_cons_succ] at this ⊢
    omega
theorem getD_set {ps : List Int} {n m : Nat} {v : Int} (h : n ≠ m) : (ps.set n v).getD m 0 = ps.getD m 0 := by
  rw [List.getD_eq_getElem?_getD, List.getElem?_set_ne h, ← List.getD_eq_getElem?_getD]
theorem setAll_sp {w b : List Int} {i : Int} (hb : b.length = w.length) : ∀ (W ps : List Int), ps.length = w.length → W.Nodup → inR w.length W → (∀ x ∈ W, la ps x = i) → lossSum w (setAll (i + 1) W ps) b = lossSum w ps b + (W.map (la w)).sum ∧ (∀ x ∈ W, la (setAll (i + 1) W ps) x = i + 1) ∧ (∀ x : Int, 0 ≤ x → x ∉ W → la (setAll (i + 1) W ps) x = la ps x)
  | [], ps, hl, _, _, _ => ⟨by simp [setAll], (fun x hx => nomatch hx), fun x _ _ => rfl⟩
  | x :: W, ps, hl, hd, hi, hv => by
    obtain ⟨hd1, hd2⟩ := List.nodup_cons.mp hd
    have hx := hi x (.head _)
    have hne : ∀ y ∈ W, x.toNat ≠ y.toNat := fun y hy e => hd1 (by
      have := hi y (.tail _ hy)
      rw [show x = y by omega]; exact hy)
    have ih := setAll_sp hb W (ps.set x.toNat (i + 1)) (by rw [List.length_set]; exact hl) hd2 (fun y hy => hi y (.tail _ hy)) fun y hy => by
      unfold la; rw [getD_set (hne y hy)]; exact hv y (.tail _ hy)
    have e : setAll (i + 1) (x :: W) ps = setAll (i + 1) W (ps.set x.toNat (i + 1)) := rfl
    rw [e]
    refine ⟨?_, fun y hy => ?_, fun y h0 hy => ?_⟩
    · rw [ih.1, lossSum_set w ps b x.toNat (i + 1) (by omega) (by omega) (by omega)]
      have : ps.getD x.toNat 0 = i := hv x (.head _)
      rw [this]
      simp only [List.map_cons, List.sum_cons]
      have e2 : la w x = w.getD x.toNat 0 := rfl
      rw [e2, show i + 1 - i = 1 by omega, Int.mul_one]
      omega
    · rcases List.mem_cons.mp hy with rfl | hy
      · rw [ih.2.2 y hx.1 hd1]
        unfold la
        rw [List.getD_eq_getElem?_getD, List.getElem?_set_self (by omega)]; rfl
      · exact ih.2.1 y hy
    · have hy' : y ∉ W := fun h => hy (.tail _ h)
      rw [ih.2.2 y h0 hy']
      unfold la
      exact getD_set (fun e => hy (by rw [show y = x by omega]; exact .head _))
theorem plW_sp {w b : List Int} {k : Int → Int} (hw : w.length = b.length) : ∀ (r : List Int) (n : Nat) (ws ps : List Int), ps.length = b.length → ws.Nodup → inR b.length ws → (∀ x ∈ ws, la ps x = n) → (∀ x ∈ ws, la b x < n) → (∀ x : Int, 0 ≤ x → (n : Int) ≤ la b x → la ps x = la b x) →
    lossSum w ((Ws b k (enumN n r) ws).foldl (fun ps p => setAll (p.1 + 1) p.2 ps) ps) b = lossSum w ps b + totW w (Ws b k (enumN n r) ws)
  | [], n, ws, ps, _, _, _, _, _, _ => by simp [enumN, Ws, totW]
  | q :: r, n, ws, ps, h1, h2, h3, h4, h5, h6 => by
    unfold enumN Ws
    rw [List.foldl_cons]
    have ho : ∀ x ∈ own b (n : Int), la b x = n := fun x hx => by
      obtain ⟨j, rfl, e⟩ := own_mem.mp hx
      unfold la
      rw [Int.toNat_natCast, List.getD_eq_getElem?_getD, e]; rfl
    have hin : inR b.length (ws ++ own b n) := fun x hx => by
      rcases List.mem_append.mp hx with hx | hx
      · exact h3 x hx
      · exact own_in _ _ x hx
    have hnd : (ws ++ own b n).Nodup := List.nodup_append.mpr ⟨h2, own_nodup b n, fun x hx y hy e => by
      have a := h5 x hx
      have c := ho y hy
      rw [← e] at c; omega⟩
    have hval : ∀ x ∈ ws ++ own b n, la ps x = n := fun x hx => by
      rcases List.mem_append.mp hx with hx | hx
      · exact h4 x hx
      · rw [h6 x (own_in _ _ x hx).1 (by rw [ho x hx]; exact Int.le_refl _), ho x hx]
    have hlt : ∀ x ∈ ws ++ own b n, la b x ≤ n := fun x hx => by
      rcases List.mem_append.mp hx with hx | hx
      · have := h5 x hx; omega
      · rw [ho x hx]; exact Int.le_refl _
    obtain ⟨s1, s2, s3⟩ := setAll_sp (w := w) (b := b) (i := n) (by omega) (pick k (ws ++ own b n) q) ps (by omega) (pick_nodup hnd) (by rw [hw]; exact pick_in h3) fun x hx => hval x (pick_mem hx)
    have := plW_sp (k := k) hw r (n + 1) (pick k (ws ++ own b n) q) (setAll (n + 1) (pick k (ws ++ own b n) q) ps) (by rw [setAll_len]; exact h1) (pick_nodup hnd) (pick_in h3)
      (fun x hx => by rw [s2 x hx]; omega) (fun x hx => by have := hlt x (pick_mem hx); omega) fun x h0 hx => by
        rw [s3 x h0 fun hm => by have := hlt x (pick_mem hm); omega]
        exact h6 x h0 (by omega)
    simp only [] at this ⊢
    rw [this, s1]
    simp only [totW, List.map_cons, List.sum_cons]
    omega
theorem lossSum_self (w : List Int) : ∀ (b : List Int), lossSum w b b = 0 := by
  induction w with
  | nil => intro b; rfl
  | cons x w ih =>
    intro b
    cases b with
    | nil => rfl
    | cons y b =>
      have := ih b
      simp only [lossSum, List.zip_cons_cons, List.map_cons, List.sum_cons] at this ⊢
      rw [this]; simp
theorem plW_loss {w b : List Int} {k : Int → Int} (hw : w.length = b.length) (r : List Int) : lossSum w (plW b (Ws b k (enumN 0 r) [])) b = totW w (Ws b k (enumN 0 r) []) := by
  have := plW_sp (k := k) hw r 0 [] b rfl List.nodup_nil (fun x hx => nomatch hx) (fun x hx => nomatch hx) (fun x hx => nomatch hx) fun x _ _ => rfl
  unfold plW
  rw [this, lossSum_self]; omega
theorem plW_len {b : List Int} : ∀ (W : List (Int × List Int)) (ps : List Int), (W.foldl (fun ps p => setAll (p.1 + 1) p.2 ps) ps).length = ps.length
  | [], ps => rfl
  | p :: W, ps => by rw [List.foldl_cons, plW_len (b := b) W, setAll_len]
end DS
set_option linter.all false
set_option Elab.async false
set_option maxRecDepth 100000
set_option maxHeartbeats 4000000
namespace DS
open DL
open PySem (Str PyData)
noncomputable def S_law_k21 (p_script : List Int) : M Bool := (catM ([0] : List Int) p_script).bind fun v1 => (forF (ρ := Bool) (fun (s3 : Unit) x2 => (S__law_source x2 21).bind fun r5 => (S__law_flight r5 5 9).bind fun r6 => (compS (fun z8 x7 => (S__law_draw z8 101).bind fun r9 => .ok (r9.1, r9.2)) r6.1.2 r6.2).bind fun ys10 => (S__law_draw ys10.2 200).bind fun r11 => (S__law_draw r11.2 9).bind fun r12 => (S_flows r6.1).bind fun r13 => M.lt (List.sum r13) fun passings14 => (compM ys10.1 (fun x15 => .ok true) (fun x15 => .ok (x15 + r11.1))).bind fun ys16 => (compM ys10.1 (fun x17 => .ok true) (fun x17 => (mulM x17 (1 + r12.1)).bind fun v18 => .ok v18)).bind fun ys19 => (S_least_loss r6.1 ys10.1).bind fun r20 => (S_greatest_loss r6.1 ys10.1).bind fun r21 => (S_least_loss r6.1 ys16).bind fun r22 => (mulM r11.1 passings14).bind fun v23 => if (!decide (r22 = (r20 + v23))) then (.ok (.ret false)) else ((S_greatest_loss r6.1 ys16).bind fun r24 => (mulM r11.1 passings14).bind fun v25 => if (!decide (r24 = (r21 + v25))) then (.ok (.ret false)) else ((S_least_loss r6.1 ys19).bind fun r26 => (S_greatest_loss r6.1 ys19).bind fun r27 => (mulM r20 (1 + r12.1)).bind fun v28 => (mulM r21 (1 + r12.1)).bind fun v29 => if (!decide (([r26, r27] : List Int) = ([v28, v29] : List Int))) then (.ok (.ret false)) else ((S_cheapest r6.1 ys16).bind fun r30 => (S__law_loss r6.1 ys10.1 r30).bind fun r31 => if (!decide (r31 = r20)) then (.ok (.ret false)) else ((S_cheapest r6.1 ys10.1).bind fun r32 => (S__law_loss r6.1 ys16 r32).bind fun r33 => (mulM r11.1 passings14).bind fun v34 => if (!decide (r33 = (r20 + v34))) then (.ok (.ret false)) else ((repM ([r11.1] : List Int) (ys10.1.length : Int)).bind fun v35 => (S_least_loss r6.1 v35).bind fun r36 => (mulM r11.1 passings14).bind fun v37 => (if (!decide (r36 = v37)) then .ok true else ((S_greatest_loss r6.1 v35).bind fun r38 => (mulM r11.1 passings14).bind fun v39 => .ok (!decide (r38 = v39)))).bind fun c40 => if c40 then (.ok (.ret false)) else ((compM ys10.1 (fun x41 => .ok true) (fun x41 => .ok (1000 - x41))).bind fun ys42 => (S_least_loss r6.1 ys42).bind fun r43 => (mulM 1000 passings14).bind fun v44 => if (!decide (r43 = (v44 - r21))) then (.ok (.ret false)) else (.ok (.next ()))))))))) (cut v1 none (some 10)) ()).bind fun o => match o with | .next s45 => (.ok true) | .brk _ => .bad | .ret r => .ok r
theorem R_law_k21 (p_script : List Int) : FR (f_law_k21 [(eL eI p_script)]) (S_law_k21 p_script) (fun a => .sh (.bool a)) := by
  unfold S_law_k21 f_law_k21
  refine fn_FR (δ := [.sh (eL eI p_script), .non, .non, .non, .non, .non, .non, .non, .non, .non, .non, .non, .non, .non, .non]) rfl (fun _ => trivial) rfl ?_
  unfold c_law_k21
  refine k_for ?_
  refine k_seq ?_
  refine k_op ?_
  refine k_es ?_
  refine k_op ?_
  refine k_es ?_
  refine k_eq (p_re (p_lst (es_cons p_cst es_nil) rfl rfl) (show _ = RV.ow (eL eI ([0] : List Int)) from rfl)) ?_
  refine k_es ?_
  refine k_eq (p_sh rfl) ?_
  refine k_es_nil ?_
  refine k_opM rfl (op_catL eI ([0] : List Int) p_script) fun v1 => ?_
  refine k_es ?_
  refine k_eq p_cst ?_
  refine k_es_nil ?_
  refine k_opP rfl (op_slL01 eI v1 10) ?_
  refine ⟨_, [.sh (eL eI p_script), .non, .non, .non, .non, .non, .non, .non, .non, .non, .non, .non, .non, .non, .non], (cut v1 none (some 10)).map eI, rfl, rfl, ?_⟩
  refine k_forF (e := eI) (xs := (cut v1 none (some 10))) (s := ()) (fun (s3 : Unit) (δ : Env) => ∃ (j1 : Option D), ∃ (j2 : J2), ∃ (j3 : Option D), ∃ (j4 : Option D), ∃ (j5 : Option D), ∃ (j6 : Option D), ∃ (j7 : Option D), ∃ (j8 : Option D), ∃ (j9 : Option D), ∃ (j10 : Option D), ∃ (j11 : Option D), ∃ (j12 : Option D), δ = [.sh (eL eI p_script), jk j1, jo j2, jk j3, jk j4, jk j5, jk j6, jk j7, jk j8, jk j9, jk j10, jk j11, jk j12, .non, .non]) (fun r v _ => v = .sh (.bool r)) ⟨none, .non, none, none, none, none, none, none, none, none, none, none, rfl⟩ ?_ ?_ ?_
  ·
    intro s3 x2 δ hI
    obtain ⟨j4_1, j4_2, j4_3, j4_4, j4_5, j4_6, j4_7, j4_8, j4_9, j4_10, j4_11, j4_12, rfl⟩ := hI
    refine ⟨[.sh (eL eI p_script), .sh (.int x2), jo j4_2, jk j4_3, jk j4_4, jk j4_5, jk j4_6, jk j4_7, jk j4_8, jk j4_9, jk j4_10, jk j4_11, jk j4_12, .non, .non], (asg_name nio_jk rfl), ?_⟩
    refine k_set ?_
    refine k_call ?_
    refine k_es ?_
    refine k_eq (p_sh rfl) ?_
    refine k_es ?_
    refine k_eq p_cst ?_
    refine k_es_nil ?_
    refine k_callO (ds := [(.int x2), (.int 21)]) (δ2 := [.sh (eL eI p_script), .sh (.int x2), jo j4_2, jk j4_3, jk j4_4, jk j4_5, jk j4_6, jk j4_7, jk j4_8, jk j4_9, jk j4_10, jk j4_11, jk j4_12, .non, .non]) (r := fun a => .ow a) rfl (R__law_source x2 21) (fun _ => rfl) rfl fun r5 => ?_
    refine ⟨[.sh (eL eI p_script), .sh (.int x2), .ow r5, jk j4_3, jk j4_4, jk j4_5, jk j4_6, jk j4_7, jk j4_8, jk j4_9, jk j4_10, jk j4_11, jk j4_12, .non, .non], (setR_ow nio_jo rfl), ?_⟩
    refine k_set ?_
    refine k_callI rfl ?_
    refine k_es ?_
    refine k_eq p_cst ?_
    refine k_es ?_
    refine k_eq p_cst ?_
    refine k_es_nil ?_
    refine k_callIM (ds := [(.int 5), (.int 9)]) (δ2 := [.sh (eL eI p_script), .sh (.int x2), .ow r5, jk j4_3, jk j4_4, jk j4_5, jk j4_6, jk j4_7, jk j4_8, jk j4_9, jk j4_10, jk j4_11, jk j4_12, .non, .non]) (r := fun a => .sh (eP (eT eI) (eT eI) a)) (e := eA) (E := fun z => [.sh (eL eI p_script), .sh (.int x2), .ow z, jk j4_3, jk j4_4, jk j4_5, jk j4_6, jk j4_7, jk j4_8, jk j4_9, jk j4_10, jk j4_11, jk j4_12, .non, .non]) rfl rfl (R__law_flight r5 5 9) (fun _ => trivial) (fun _ => rfl) fun r6 => ?_
    refine ⟨[.sh (eL eI p_script), .sh (.int x2), .ow r6.2, .sh (eP (eT eI) (eT eI) r6.1), jk j4_4, jk j4_5, jk j4_6, jk j4_7, jk j4_8, jk j4_9, jk j4_10, jk j4_11, jk j4_12, .non, .non], (setR_sh nio_jk rfl), ?_⟩
    refine k_set ?_
    refine k_op ?_
    refine k_es ?_
    refine k_comp ?_
    refine k_seq ?_
    refine k_eq (p_op (es_cons (p_sh rfl) (es_cons p_cst es_nil)) rfl (show _ = some (RV.sh (eT eI r6.1.2)) from rfl)) ?_
    refine ⟨_, [.sh (eL eI p_script), .sh (.int x2), .ow r6.2, .sh (eP (eT eI) (eT eI) r6.1), jk j4_4, jk j4_5, jk j4_6, jk j4_7, jk j4_8, jk j4_9, jk j4_10, jk j4_11, jk j4_12, .non, .non], r6.1.2.map eI, rfl, rfl, ?_⟩
    refine k_compS (e := eI) (e' := eI) (xs := r6.1.2) (s := r6.2) (E := fun z8 => [.sh (eL eI p_script), .sh (.int x2), .ow z8, .sh (eP (eT eI) (eT eI) r6.1), jk j4_4, jk j4_5, jk j4_6, jk j4_7, jk j4_8, jk j4_9, jk j4_10, jk j4_11, jk j4_12, .non, .non]) (E1 := fun z8 x7 => [.sh (eL eI p_script), .sh (.int x2), .ow z8, .sh (eP (eT eI) (eT eI) r6.1), jk j4_4, jk j4_5, jk j4_6, jk j4_7, jk j4_8, jk j4_9, jk j4_10, jk j4_11, jk j4_12, .sh (.int x7), .non]) (free_cons trivial free_nil) (fun _ => rfl) (fun _ _ => (asg_name trivial rfl)) ?_ ?_
    ·
      intro z8 x7
      refine k_callI rfl ?_
      refine k_es ?_
      refine k_eq p_cst ?_
      refine k_es_nil ?_
      refine k_callIM (ds := [(.int 101)]) (δ2 := [.sh (eL eI p_script), .sh (.int x2), .ow z8, .sh (eP (eT eI) (eT eI) r6.1), jk j4_4, jk j4_5, jk j4_6, jk j4_7, jk j4_8, jk j4_9, jk j4_10, jk j4_11, jk j4_12, .sh (.int x7), .non]) (r := fun a => .sh (.int a)) (e := eA) (E := fun z => [.sh (eL eI p_script), .sh (.int x2), .ow z, .sh (eP (eT eI) (eT eI) r6.1), jk j4_4, jk j4_5, jk j4_6, jk j4_7, jk j4_8, jk j4_9, jk j4_10, jk j4_11, jk j4_12, .sh (.int x7), .non]) rfl rfl (R__law_draw z8 101) (fun _ => trivial) (fun _ => rfl) fun r9 => ?_
      exact ⟨(_, _), rfl, _, rfl, rfl⟩
    intro ys10
    refine k_es_nil ?_
    refine k_opP rfl (op_tupL eI ys10.1) ?_
    refine ⟨[.sh (eL eI p_script), .sh (.int x2), .ow ys10.2, .sh (eP (eT eI) (eT eI) r6.1), .sh (eT eI ys10.1), jk j4_5, jk j4_6, jk j4_7, jk j4_8, jk j4_9, jk j4_10, jk j4_11, jk j4_12, .non, .non], (setR_sh nio_jk rfl), ?_⟩
    refine k_par ?_
    refine k_ep ?_
    refine k_callI rfl ?_
    refine k_es ?_
    refine k_eq p_cst ?_
    refine k_es_nil ?_
    refine k_callIM (ds := [(.int 200)]) (δ2 := [.sh (eL eI p_script), .sh (.int x2), .ow ys10.2, .sh (eP (eT eI) (eT eI) r6.1), .sh (eT eI ys10.1), jk j4_5, jk j4_6, jk j4_7, jk j4_8, jk j4_9, jk j4_10, jk j4_11, jk j4_12, .non, .non]) (r := fun a => .sh (.int a)) (e := eA) (E := fun z => [.sh (eL eI p_script), .sh (.int x2), .ow z, .sh (eP (eT eI) (eT eI) r6.1), .sh (eT eI ys10.1), jk j4_5, jk j4_6, jk j4_7, jk j4_8, jk j4_9, jk j4_10, jk j4_11, jk j4_12, .non, .non]) rfl rfl (R__law_draw ys10.2 200) (fun _ => trivial) (fun _ => rfl) fun r11 => ?_
    refine k_ep ?_
    refine k_op ?_
    refine k_es ?_
    refine k_eq p_cst ?_
    refine k_es ?_
    refine k_callI rfl ?_
    refine k_es ?_
    refine k_eq p_cst ?_
    refine k_es_nil ?_
    refine k_callIM (ds := [(.int 9)]) (δ2 := [.sh (eL eI p_script), .sh (.int x2), .ow r11.2, .sh (eP (eT eI) (eT eI) r6.1), .sh (eT eI ys10.1), jk j4_5, jk j4_6, jk j4_7, jk j4_8, jk j4_9, jk j4_10, jk j4_11, jk j4_12, .non, .non]) (r := fun a => .sh (.int a)) (e := eA) (E := fun z => [.sh (eL eI p_script), .sh (.int x2), .ow z, .sh (eP (eT eI) (eT eI) r6.1), .sh (eT eI ys10.1), jk j4_5, jk j4_6, jk j4_7, jk j4_8, jk j4_9, jk j4_10, jk j4_11, jk j4_12, .non, .non]) rfl rfl (R__law_draw r11.2 9) (fun _ => trivial) (fun _ => rfl) fun r12 => ?_
    refine k_es_nil ?_
    refine k_opP rfl (op_addI 1 r12.1) ?_
    refine k_ep_nil ?_
    refine ⟨[.sh (eL eI p_script), .sh (.int x2), .ow r12.2, .sh (eP (eT eI) (eT eI) r6.1), .sh (eT eI ys10.1), jk j4_5, jk j4_6, jk j4_7, jk j4_8, .sh (.int r11.1), .sh (.int (1 + r12.1)), jk j4_11, jk j4_12, .non, .non], (parS_cons rfl (setR_sh nio_jk rfl) (parS_cons rfl (setR_sh nio_jk rfl) parS_nil)), ?_⟩
    refine k_set ?_
    refine k_op ?_
    refine k_es ?_
    refine k_call ?_
    refine k_es ?_
    refine k_eq (p_sh rfl) ?_
    refine k_es_nil ?_
    refine k_callO (ds := [(eP (eT eI) (eT eI) r6.1)]) (δ2 := [.sh (eL eI p_script), .sh (.int x2), .ow r12.2, .sh (eP (eT eI) (eT eI) r6.1), .sh (eT eI ys10.1), jk j4_5, jk j4_6, jk j4_7, jk j4_8, .sh (.int r11.1), .sh (.int (1 + r12.1)), jk j4_11, jk j4_12, .non, .non]) (r := fun a => .ow (eL eI a)) rfl (R_flows r6.1) (fun _ => rfl) rfl fun r13 => ?_
    refine k_es_nil ?_
    refine k_opP rfl (op_sum r13) ?_
    refine ⟨[.sh (eL eI p_script), .sh (.int x2), .ow r12.2, .sh (eP (eT eI) (eT eI) r6.1), .sh (eT eI ys10.1), .sh (.int (List.sum r13)), jk j4_6, jk j4_7, jk j4_8, .sh (.int r11.1), .sh (.int (1 + r12.1)), jk j4_11, jk j4_12, .non, .non], (setR_sh nio_jk rfl), ?_⟩
    refine k_lt (X := fun passings14 => evSs _ [.sh (eL eI p_script), .sh (.int x2), .ow r12.2, .sh (eP (eT eI) (eT eI) r6.1), .sh (eT eI ys10.1), .sh (.int passings14), jk j4_6, jk j4_7, jk j4_8, .sh (.int r11.1), .sh (.int (1 + r12.1)), jk j4_11, jk j4_12, .non, .non]) (t := (List.sum r13)) fun passings14 => ?_
    refine k_set ?_
    refine k_op ?_
    refine k_es ?_
    refine k_comp ?_
    refine k_seq ?_
    refine k_eq (p_sh rfl) ?_
    refine ⟨_, [.sh (eL eI p_script), .sh (.int x2), .ow r12.2, .sh (eP (eT eI) (eT eI) r6.1), .sh (eT eI ys10.1), .sh (.int passings14), jk j4_6, jk j4_7, jk j4_8, .sh (.int r11.1), .sh (.int (1 + r12.1)), jk j4_11, jk j4_12, .non, .non], ys10.1.map eI, rfl, rfl, ?_⟩
    refine k_compM (e := eI) (e' := eI) (xs := ys10.1) (E1 := fun x15 => [.sh (eL eI p_script), .sh (.int x2), .ow r12.2, .sh (eP (eT eI) (eT eI) r6.1), .sh (eT eI ys10.1), .sh (.int passings14), jk j4_6, jk j4_7, jk j4_8, .sh (.int r11.1), .sh (.int (1 + r12.1)), jk j4_11, jk j4_12, .non, .sh (.int x15)]) (free_cons trivial free_nil) rfl (fun _ => (asg_name trivial rfl)) (fun _ => rfl) ?_ ?_ ?_
    ·
      intro x15
      exact k_notest
    ·
      intro x15
      refine k_eq (p_op (es_cons (p_sh rfl) (es_cons (p_sh rfl) es_nil)) rfl (op_addI x15 r11.1)) ?_
      exact ⟨_, rfl, _, rfl, rfl⟩
    intro ys16
    refine k_es_nil ?_
    refine k_opP rfl (op_tupL eI ys16) ?_
    refine ⟨[.sh (eL eI p_script), .sh (.int x2), .ow r12.2, .sh (eP (eT eI) (eT eI) r6.1), .sh (eT eI ys10.1), .sh (.int passings14), .sh (eT eI ys16), jk j4_7, jk j4_8, .sh (.int r11.1), .sh (.int (1 + r12.1)), jk j4_11, jk j4_12, .non, .non], (setR_sh nio_jk rfl), ?_⟩
    refine k_set ?_
    refine k_op ?_
    refine k_es ?_
    refine k_comp ?_
    refine k_seq ?_
    refine k_eq (p_sh rfl) ?_
    refine ⟨_, [.sh (eL eI p_script), .sh (.int x2), .ow r12.2, .sh (eP (eT eI) (eT eI) r6.1), .sh (eT eI ys10.1), .sh (.int passings14), .sh (eT eI ys16), jk j4_7, jk j4_8, .sh (.int r11.1), .sh (.int (1 + r12.1)), jk j4_11, jk j4_12, .non, .non], ys10.1.map eI, rfl, rfl, ?_⟩
    refine k_compM (e := eI) (e' := eI) (xs := ys10.1) (E1 := fun x17 => [.sh (eL eI p_script), .sh (.int x2), .ow r12.2, .sh (eP (eT eI) (eT eI) r6.1), .sh (eT eI ys10.1), .sh (.int passings14), .sh (eT eI ys16), jk j4_7, jk j4_8, .sh (.int r11.1), .sh (.int (1 + r12.1)), jk j4_11, jk j4_12, .non, .sh (.int x17)]) (free_cons trivial free_nil) rfl (fun _ => (asg_name trivial rfl)) (fun _ => rfl) ?_ ?_ ?_
    ·
      intro x17
      exact k_notest
    ·
      intro x17
      refine k_op ?_
      refine k_es ?_
      refine k_eq (p_sh rfl) ?_
      refine k_es ?_
      refine k_eq (p_sh rfl) ?_
      refine k_es_nil ?_
      refine k_opM rfl (op_mul x17 (1 + r12.1)) fun v18 => ?_
      exact ⟨_, rfl, _, rfl, rfl⟩
    intro ys19
    refine k_es_nil ?_
    refine k_opP rfl (op_tupL eI ys19) ?_
    refine ⟨[.sh (eL eI p_script), .sh (.int x2), .ow r12.2, .sh (eP (eT eI) (eT eI) r6.1), .sh (eT eI ys10.1), .sh (.int passings14), .sh (eT eI ys16), .sh (eT eI ys19), jk j4_8, .sh (.int r11.1), .sh (.int (1 + r12.1)), jk j4_11, jk j4_12, .non, .non], (setR_sh nio_jk rfl), ?_⟩
    refine k_par ?_
    refine k_ep ?_
    refine k_call ?_
    refine k_es ?_
    refine k_eq (p_sh rfl) ?_
    refine k_es ?_
    refine k_eq (p_sh rfl) ?_
    refine k_es_nil ?_
    refine k_callS (ds := [(eP (eT eI) (eT eI) r6.1), (eT eI ys10.1)]) (e := eI) rfl (R_least_loss r6.1 ys10.1) (fun _ => rfl) fun r20 => ?_
    refine k_ep ?_
    refine k_call ?_
    refine k_es ?_
    refine k_eq (p_sh rfl) ?_
    refine k_es ?_
    refine k_eq (p_sh rfl) ?_
    refine k_es_nil ?_
    refine k_callS (ds := [(eP (eT eI) (eT eI) r6.1), (eT eI ys10.1)]) (e := eI) rfl (R_greatest_loss r6.1 ys10.1) (fun _ => rfl) fun r21 => ?_
    refine k_ep_nil ?_
    refine ⟨[.sh (eL eI p_script), .sh (.int x2), .ow r12.2, .sh (eP (eT eI) (eT eI) r6.1), .sh (eT eI ys10.1), .sh (.int passings14), .sh (eT eI ys16), .sh (eT eI ys19), jk j4_8, .sh (.int r11.1), .sh (.int (1 + r12.1)), .sh (.int r20), .sh (.int r21), .non, .non], (parS_cons rfl (setR_sh nio_jk rfl) (parS_cons rfl (setR_sh nio_jk rfl) parS_nil)), ?_⟩
    refine k_ifs ?_
    refine k_op ?_
    refine k_es ?_
    refine k_call ?_
    refine k_es ?_
    refine k_eq (p_sh rfl) ?_
    refine k_es ?_
    refine k_eq (p_sh rfl) ?_
    refine k_es_nil ?_
    refine k_callS (ds := [(eP (eT eI) (eT eI) r6.1), (eT eI ys16)]) (e := eI) rfl (R_least_loss r6.1 ys16) (fun _ => rfl) fun r22 => ?_
    refine k_es ?_
    refine k_op ?_
    refine k_es ?_
    refine k_eq (p_sh rfl) ?_
    refine k_es ?_
    refine k_op ?_
    refine k_es ?_
    refine k_eq (p_sh rfl) ?_
    refine k_es ?_
    refine k_eq (p_sh rfl) ?_
    refine k_es_nil ?_
    refine k_opM rfl (op_mul r11.1 passings14) fun v23 => ?_
    refine k_es_nil ?_
    refine k_opP rfl (op_addI r20 v23) ?_
    refine k_es_nil ?_
    refine k_opP rfl (op_ne eI rfl r22 (r20 + v23)) ?_
    refine ⟨_, rfl, ?_⟩
    refine k_if2 (fun hx => ?_) (fun hx => ?_)
    ·
      refine k_ret ?_
      refine k_eq p_cst ?_
      refine ⟨_, [.sh (eL eI p_script), .sh (.int x2), .ow r12.2, .sh (eP (eT eI) (eT eI) r6.1), .sh (eT eI ys10.1), .sh (.int passings14), .sh (eT eI ys16), .sh (eT eI ys19), jk j4_8, .sh (.int r11.1), .sh (.int (1 + r12.1)), .sh (.int r20), .sh (.int r21), .non, .non], rfl, ?_⟩
      exact ⟨_, rfl, rfl⟩
    ·
      refine k_nilS ?_
      refine k_ifs ?_
      refine k_op ?_
      refine k_es ?_
      refine k_call ?_
      refine k_es ?_
      refine k_eq (p_sh rfl) ?_
      refine k_es ?_
      refine k_eq (p_sh rfl) ?_
      refine k_es_nil ?_
      refine k_callS (ds := [(eP (eT eI) (eT eI) r6.1), (eT eI ys16)]) (e := eI) rfl (R_greatest_loss r6.1 ys16) (fun _ => rfl) fun r24 => ?_
      refine k_es ?_
      refine k_op ?_
      refine k_es ?_
      refine k_eq (p_sh rfl) ?_
      refine k_es ?_
      refine k_op ?_
      refine k_es ?_
      refine k_eq (p_sh rfl) ?_
      refine k_es ?_
      refine k_eq (p_sh rfl) ?_
      refine k_es_nil ?_
      refine k_opM rfl (op_mul r11.1 passings14) fun v25 => ?_
      refine k_es_nil ?_
      refine k_opP rfl (op_addI r21 v25) ?_
      refine k_es_nil ?_
      refine k_opP rfl (op_ne eI rfl r24 (r21 + v25)) ?_
      refine ⟨_, rfl, ?_⟩
      refine k_if2 (fun hx => ?_) (fun hx => ?_)
      ·
        refine k_ret ?_
        refine k_eq p_cst ?_
        refine ⟨_, [.sh (eL eI p_script), .sh (.int x2), .ow r12.2, .sh (eP (eT eI) (eT eI) r6.1), .sh (eT eI ys10.1), .sh (.int passings14), .sh (eT eI ys16), .sh (eT eI ys19), jk j4_8, .sh (.int r11.1), .sh (.int (1 + r12.1)), .sh (.int r20), .sh (.int r21), .non, .non], rfl, ?_⟩
        exact ⟨_, rfl, rfl⟩
      ·
        refine k_nilS ?_
        refine k_ifs ?_
        refine k_op ?_
        refine k_es ?_
        refine k_lst ?_
        refine k_es ?_
        refine k_call ?_
        refine k_es ?_
        refine k_eq (p_sh rfl) ?_
        refine k_es ?_
        refine k_eq (p_sh rfl) ?_
        refine k_es_nil ?_
        refine k_callS (ds := [(eP (eT eI) (eT eI) r6.1), (eT eI ys19)]) (e := eI) rfl (R_least_loss r6.1 ys19) (fun _ => rfl) fun r26 => ?_
        refine k_es ?_
        refine k_call ?_
        refine k_es ?_
        refine k_eq (p_sh rfl) ?_
        refine k_es ?_
        refine k_eq (p_sh rfl) ?_
        refine k_es_nil ?_
        refine k_callS (ds := [(eP (eT eI) (eT eI) r6.1), (eT eI ys19)]) (e := eI) rfl (R_greatest_loss r6.1 ys19) (fun _ => rfl) fun r27 => ?_
        refine k_es_nil ?_
        refine ⟨_, [.sh (eL eI p_script), .sh (.int x2), .ow r12.2, .sh (eP (eT eI) (eT eI) r6.1), .sh (eT eI ys10.1), .sh (.int passings14), .sh (eT eI ys16), .sh (eT eI ys19), jk j4_8, .sh (.int r11.1), .sh (.int (1 + r12.1)), .sh (.int r20), .sh (.int r21), .non, .non], rfl, rfl, ?_⟩
        refine k_es ?_
        refine k_lst ?_
        refine k_es ?_
        refine k_op ?_
        refine k_es ?_
        refine k_eq (p_sh rfl) ?_
        refine k_es ?_
        refine k_eq (p_sh rfl) ?_
        refine k_es_nil ?_
        refine k_opM rfl (op_mul r20 (1 + r12.1)) fun v28 => ?_
        refine k_es ?_
        refine k_op ?_
        refine k_es ?_
        refine k_eq (p_sh rfl) ?_
        refine k_es ?_
        refine k_eq (p_sh rfl) ?_
        refine k_es_nil ?_
        refine k_opM rfl (op_mul r21 (1 + r12.1)) fun v29 => ?_
        refine k_es_nil ?_
        refine ⟨_, [.sh (eL eI p_script), .sh (.int x2), .ow r12.2, .sh (eP (eT eI) (eT eI) r6.1), .sh (eT eI ys10.1), .sh (.int passings14), .sh (eT eI ys16), .sh (eT eI ys19), jk j4_8, .sh (.int r11.1), .sh (.int (1 + r12.1)), .sh (.int r20), .sh (.int r21), .non, .non], rfl, rfl, ?_⟩
        refine k_es_nil ?_
        refine k_opP rfl (op_ne (eL eI) rfl ([r26, r27] : List Int) ([v28, v29] : List Int)) ?_
        refine ⟨_, rfl, ?_⟩
        refine k_if2 (fun hx => ?_) (fun hx => ?_)
        ·
          refine k_ret ?_
          refine k_eq p_cst ?_
          refine ⟨_, [.sh (eL eI p_script), .sh (.int x2), .ow r12.2, .sh (eP (eT eI) (eT eI) r6.1), .sh (eT eI ys10.1), .sh (.int passings14), .sh (eT eI ys16), .sh (eT eI ys19), jk j4_8, .sh (.int r11.1), .sh (.int (1 + r12.1)), .sh (.int r20), .sh (.int r21), .non, .non], rfl, ?_⟩
          exact ⟨_, rfl, rfl⟩
        ·
          refine k_nilS ?_
          refine k_ifs ?_
          refine k_op ?_
          refine k_es ?_
          refine k_call ?_
          refine k_es ?_
          refine k_eq (p_sh rfl) ?_
          refine k_es ?_
          refine k_eq (p_sh rfl) ?_
          refine k_es ?_
          refine k_call ?_
          refine k_es ?_
          refine k_eq (p_sh rfl) ?_
          refine k_es ?_
          refine k_eq (p_sh rfl) ?_
          refine k_es_nil ?_
          refine k_callO (ds := [(eP (eT eI) (eT eI) r6.1), (eT eI ys16)]) (δ2 := [.sh (eL eI p_script), .sh (.int x2), .ow r12.2, .sh (eP (eT eI) (eT eI) r6.1), .sh (eT eI ys10.1), .sh (.int passings14), .sh (eT eI ys16), .sh (eT eI ys19), jk j4_8, .sh (.int r11.1), .sh (.int (1 + r12.1)), .sh (.int r20), .sh (.int r21), .non, .non]) (r := fun a => .sh (eT eI a)) rfl (R_cheapest r6.1 ys16) (fun _ => rfl) rfl fun r30 => ?_
          refine k_es_nil ?_
          refine k_callS (ds := [(eP (eT eI) (eT eI) r6.1), (eT eI ys10.1), (eT eI r30)]) (e := eI) rfl (R__law_loss r6.1 ys10.1 r30) (fun _ => rfl) fun r31 => ?_
          refine k_es ?_
          refine k_eq (p_sh rfl) ?_
          refine k_es_nil ?_
          refine k_opP rfl (op_ne eI rfl r31 r20) ?_
          refine ⟨_, rfl, ?_⟩
          refine k_if2 (fun hx => ?_) (fun hx => ?_)
          ·
            refine k_ret ?_
            refine k_eq p_cst ?_
            refine ⟨_, [.sh (eL eI p_script), .sh (.int x2), .ow r12.2, .sh (eP (eT eI) (eT eI) r6.1), .sh (eT eI ys10.1), .sh (.int passings14), .sh (eT eI ys16), .sh (eT eI ys19), jk j4_8, .sh (.int r11.1), .sh (.int (1 + r12.1)), .sh (.int r20), .sh (.int r21), .non, .non], rfl, ?_⟩
            exact ⟨_, rfl, rfl⟩
          ·
            refine k_nilS ?_
            refine k_ifs ?_
            refine k_op ?_
            refine k_es ?_
            refine k_call ?_
            refine k_es ?_
            refine k_eq (p_sh rfl) ?_
            refine k_es ?_
            refine k_eq (p_sh rfl) ?_
            refine k_es ?_
            refine k_call ?_
            refine k_es ?_
            refine k_eq (p_sh rfl) ?_
            refine k_es ?_
            refine k_eq (p_sh rfl) ?_
            refine k_es_nil ?_
            refine k_callO (ds := [(eP (eT eI) (eT eI) r6.1), (eT eI ys10.1)]) (δ2 := [.sh (eL eI p_script), .sh (.int x2), .ow r12.2, .sh (eP (eT eI) (eT eI) r6.1), .sh (eT eI ys10.1), .sh (.int passings14), .sh (eT eI ys16), .sh (eT eI ys19), jk j4_8, .sh (.int r11.1), .sh (.int (1 + r12.1)), .sh (.int r20), .sh (.int r21), .non, .non]) (r := fun a => .sh (eT eI a)) rfl (R_cheapest r6.1 ys10.1) (fun _ => rfl) rfl fun r32 => ?_
            refine k_es_nil ?_
            refine k_callS (ds := [(eP (eT eI) (eT eI) r6.1), (eT eI ys16), (eT eI r32)]) (e := eI) rfl (R__law_loss r6.1 ys16 r32) (fun _ => rfl) fun r33 => ?_
            refine k_es ?_
            refine k_op ?_
            refine k_es ?_
            refine k_eq (p_sh rfl) ?_
            refine k_es ?_
            refine k_op ?_
            refine k_es ?_
            refine k_eq (p_sh rfl) ?_
            refine k_es ?_
            refine k_eq (p_sh rfl) ?_
            refine k_es_nil ?_
            refine k_opM rfl (op_mul r11.1 passings14) fun v34 => ?_
            refine k_es_nil ?_
            refine k_opP rfl (op_addI r20 v34) ?_
            refine k_es_nil ?_
            refine k_opP rfl (op_ne eI rfl r33 (r20 + v34)) ?_
            refine ⟨_, rfl, ?_⟩
            refine k_if2 (fun hx => ?_) (fun hx => ?_)
            ·
              refine k_ret ?_
              refine k_eq p_cst ?_
              refine ⟨_, [.sh (eL eI p_script), .sh (.int x2), .ow r12.2, .sh (eP (eT eI) (eT eI) r6.1), .sh (eT eI ys10.1), .sh (.int passings14), .sh (eT eI ys16), .sh (eT eI ys19), jk j4_8, .sh (.int r11.1), .sh (.int (1 + r12.1)), .sh (.int r20), .sh (.int r21), .non, .non], rfl, ?_⟩
              exact ⟨_, rfl, rfl⟩
            ·
              refine k_nilS ?_
              refine k_set ?_
              refine k_op ?_
              refine k_es ?_
              refine k_eq (p_re (p_tup (es_cons (p_sh rfl) es_nil) rfl rfl) (show _ = RV.sh (eT eI ([r11.1] : List Int)) from rfl)) ?_
              refine k_es ?_
              refine k_eq (p_op (es_cons (p_sh rfl) es_nil) rfl (op_lenT eI ys10.1)) ?_
              refine k_es_nil ?_
              refine k_opM rfl (op_repT eI ([r11.1] : List Int) (ys10.1.length : Int)) fun v35 => ?_
              refine ⟨[.sh (eL eI p_script), .sh (.int x2), .ow r12.2, .sh (eP (eT eI) (eT eI) r6.1), .sh (eT eI ys10.1), .sh (.int passings14), .sh (eT eI ys16), .sh (eT eI ys19), .sh (eT eI v35), .sh (.int r11.1), .sh (.int (1 + r12.1)), .sh (.int r20), .sh (.int r21), .non, .non], (setR_sh nio_jk rfl), ?_⟩
              refine k_ifs ?_
              refine k_or ?_
              refine k_orc ?_
              refine k_op ?_
              refine k_es ?_
              refine k_call ?_
              refine k_es ?_
              refine k_eq (p_sh rfl) ?_
              refine k_es ?_
              refine k_eq (p_sh rfl) ?_
              refine k_es_nil ?_
              refine k_callS (ds := [(eP (eT eI) (eT eI) r6.1), (eT eI v35)]) (e := eI) rfl (R_least_loss r6.1 v35) (fun _ => rfl) fun r36 => ?_
              refine k_es ?_
              refine k_op ?_
              refine k_es ?_
              refine k_eq (p_sh rfl) ?_
              refine k_es ?_
              refine k_eq (p_sh rfl) ?_
              refine k_es_nil ?_
              refine k_opM rfl (op_mul r11.1 passings14) fun v37 => ?_
              refine k_es_nil ?_
              refine k_opP rfl (op_ne eI rfl r36 v37) ?_
              refine ⟨_, rfl, ?_⟩
              refine k_orM (fun hx => ?_) ?_
              ·
                refine k_or1 ?_
                refine k_op ?_
                refine k_es ?_
                refine k_call ?_
                refine k_es ?_
                refine k_eq (p_sh rfl) ?_
                refine k_es ?_
                refine k_eq (p_sh rfl) ?_
                refine k_es_nil ?_
                refine k_callS (ds := [(eP (eT eI) (eT eI) r6.1), (eT eI v35)]) (e := eI) rfl (R_greatest_loss r6.1 v35) (fun _ => rfl) fun r38 => ?_
                refine k_es ?_
                refine k_op ?_
                refine k_es ?_
                refine k_eq (p_sh rfl) ?_
                refine k_es ?_
                refine k_eq (p_sh rfl) ?_
                refine k_es_nil ?_
                refine k_opM rfl (op_mul r11.1 passings14) fun v39 => ?_
                refine k_es_nil ?_
                refine k_opP rfl (op_ne eI rfl r38 v39) ?_
                exact ⟨_, rfl, rfl, rfl⟩
              intro c40
              refine ⟨_, rfl, ?_⟩
              refine k_if2 (fun hx => ?_) (fun hx => ?_)
              ·
                refine k_ret ?_
                refine k_eq p_cst ?_
                refine ⟨_, [.sh (eL eI p_script), .sh (.int x2), .ow r12.2, .sh (eP (eT eI) (eT eI) r6.1), .sh (eT eI ys10.1), .sh (.int passings14), .sh (eT eI ys16), .sh (eT eI ys19), .sh (eT eI v35), .sh (.int r11.1), .sh (.int (1 + r12.1)), .sh (.int r20), .sh (.int r21), .non, .non], rfl, ?_⟩
                exact ⟨_, rfl, rfl⟩
              ·
                refine k_nilS ?_
                refine k_ifs ?_
                refine k_op ?_
                refine k_es ?_
                refine k_call ?_
                refine k_es ?_
                refine k_eq (p_sh rfl) ?_
                refine k_es ?_
                refine k_op ?_
                refine k_es ?_
                refine k_comp ?_
                refine k_seq ?_
                refine k_eq (p_sh rfl) ?_
                refine ⟨_, [.sh (eL eI p_script), .sh (.int x2), .ow r12.2, .sh (eP (eT eI) (eT eI) r6.1), .sh (eT eI ys10.1), .sh (.int passings14), .sh (eT eI ys16), .sh (eT eI ys19), .sh (eT eI v35), .sh (.int r11.1), .sh (.int (1 + r12.1)), .sh (.int r20), .sh (.int r21), .non, .non], ys10.1.map eI, rfl, rfl, ?_⟩
                refine k_compM (e := eI) (e' := eI) (xs := ys10.1) (E1 := fun x41 => [.sh (eL eI p_script), .sh (.int x2), .ow r12.2, .sh (eP (eT eI) (eT eI) r6.1), .sh (eT eI ys10.1), .sh (.int passings14), .sh (eT eI ys16), .sh (eT eI ys19), .sh (eT eI v35), .sh (.int r11.1), .sh (.int (1 + r12.1)), .sh (.int r20), .sh (.int r21), .non, .sh (.int x41)]) (free_cons trivial free_nil) rfl (fun _ => (asg_name trivial rfl)) (fun _ => rfl) ?_ ?_ ?_
                ·
                  intro x41
                  exact k_notest
                ·
                  intro x41
                  refine k_eq (p_op (es_cons p_cst (es_cons (p_sh rfl) es_nil)) rfl (op_subI 1000 x41)) ?_
                  exact ⟨_, rfl, _, rfl, rfl⟩
                intro ys42
                refine k_es_nil ?_
                refine k_opP rfl (op_tupL eI ys42) ?_
                refine k_es_nil ?_
                refine k_callS (ds := [(eP (eT eI) (eT eI) r6.1), (eT eI ys42)]) (e := eI) rfl (R_least_loss r6.1 ys42) (fun _ => rfl) fun r43 => ?_
                refine k_es ?_
                refine k_op ?_
                refine k_es ?_
                refine k_op ?_
                refine k_es ?_
                refine k_eq p_cst ?_
                refine k_es ?_
                refine k_eq (p_sh rfl) ?_
                refine k_es_nil ?_
                refine k_opM rfl (op_mul 1000 passings14) fun v44 => ?_
                refine k_es ?_
                refine k_eq (p_sh rfl) ?_
                refine k_es_nil ?_
                refine k_opP rfl (op_subI v44 r21) ?_
                refine k_es_nil ?_
                refine k_opP rfl (op_ne eI rfl r43 (v44 - r21)) ?_
                refine ⟨_, rfl, ?_⟩
                refine k_if2 (fun hx => ?_) (fun hx => ?_)
                ·
                  refine k_ret ?_
                  refine k_eq p_cst ?_
                  refine ⟨_, [.sh (eL eI p_script), .sh (.int x2), .ow r12.2, .sh (eP (eT eI) (eT eI) r6.1), .sh (eT eI ys10.1), .sh (.int passings14), .sh (eT eI ys16), .sh (eT eI ys19), .sh (eT eI v35), .sh (.int r11.1), .sh (.int (1 + r12.1)), .sh (.int r20), .sh (.int r21), .non, .non], rfl, ?_⟩
                  exact ⟨_, rfl, rfl⟩
                ·
                  refine k_nilS ?_
                  exact k_nil ⟨_, rfl, ⟨(some (.int x2)), (.ow r12.2), (some (eP (eT eI) (eT eI) r6.1)), (some (eT eI ys10.1)), (some (.int passings14)), (some (eT eI ys16)), (some (eT eI ys19)), (some (eT eI v35)), (some (.int r11.1)), (some (.int (1 + r12.1))), (some (.int r20)), (some (.int r21)), rfl⟩⟩
  ·
    intro s45 δ hI
    obtain ⟨j46_1, j46_2, j46_3, j46_4, j46_5, j46_6, j46_7, j46_8, j46_9, j46_10, j46_11, j46_12, rfl⟩ := hI
    all_goals refine seq_n ?_
    refine k_ret ?_
    refine k_eq p_cst ?_
    refine ⟨_, [.sh (eL eI p_script), jk j46_1, jo j46_2, jk j46_3, jk j46_4, jk j46_5, jk j46_6, jk j46_7, jk j46_8, jk j46_9, jk j46_10, jk j46_11, jk j46_12, .non, .non], rfl, ?_⟩
    exact fin_ret rfl
  · intro r v δ hR; exact fin_ret (δ := δ) hR
end DS
set_option linter.all false
set_option Elab.async false
set_option maxRecDepth 100000
set_option maxHeartbeats 4000000
/-! k21: losses raised alike -/
namespace DS
open DL
open PySem (Str PyData)
structure LsOk (f : List Int × List Int) (l : List Int) : Prop where
  len : l.length = f.2.length
  bd : ∀ x ∈ l, 0 ≤ x ∧ x ≤ 1000
theorem check_losses_sp {f : List Int × List Int} {l : List Int} (h : FlOk f.1 f.2) (hl : LsOk f l) : S_check_losses f l = .ok () := by
  unfold S_check_losses
  rw [check_flight_sp h]
  simp only [M.bind_ok]
  rw [show (!true || !decide ((l.length : Int) = (f.2.length : Int))) = false by rw [hl.len]; simp]
  rw [if_neg Bool.false_ne_true, compM_map (fun _ => true) (by have := h.b9; have := hl.len; omega) (fun x hx => by
    have := hl.bd x hx
    show M.bind (.ok (decide (0 ≤ x) && decide (x ≤ 1000))) _ = _
    rw [decide_eq_true this.1, decide_eq_true this.2]
    simp only [M.bind_ok]; rfl)]
  simp only [M.bind_ok]
  rw [show (!List.all (l.map fun _ => true) id) = false by simp, if_neg Bool.false_ne_true]
abbrev Wk (f : List Int × List Int) (l : List Int) (s : Int) : List (Int × List Int) := Ws f.2 (fun x => s * la l x) (enumN 0 (flo f)) []
theorem least_sp {f : List Int × List Int} {l : List Int} (h : FlOk f.1 f.2) (hl : LsOk f l) : S_least_loss f l = .ok (totW l (Wk f l 1)) := by
  unfold S_least_loss
  rw [check_losses_sp h hl]
  simp only [M.bind_ok]
  rw [passing_sp (by have := h.c5; omega) (by have := h.b9; omega) hl.len (by omega) (fit_flo h)]
  simp only [M.bind_ok]
theorem greatest_sp {f : List Int × List Int} {l : List Int} (h : FlOk f.1 f.2) (hl : LsOk f l) : S_greatest_loss f l = .ok (totW l (Wk f l (-1))) := by
  unfold S_greatest_loss
  rw [check_losses_sp h hl]
  simp only [M.bind_ok]
  rw [passing_sp (by have := h.c5; omega) (by have := h.b9; omega) hl.len (by omega) (fit_flo h)]
  simp only [M.bind_ok]
theorem cheapest_sp {f : List Int × List Int} {l : List Int} (h : FlOk f.1 f.2) (hl : LsOk f l) : S_cheapest f l = .ok (plW f.2 (Wk f l 1)) := by
  unfold S_cheapest
  rw [check_losses_sp h hl]
  simp only [M.bind_ok]
  rw [passing_sp (by have := h.c5; omega) (by have := h.b9; omega) hl.len (by omega) (fit_flo h)]
  simp only [M.bind_ok]
theorem law_loss_sp {f : List Int × List Int} {l ps : List Int} (h : FlOk f.1 f.2) (hl : LsOk f l) : S__law_loss f l ps = .ok (lossSum l ps f.2) := by
  unfold S__law_loss
  rw [compM_map (fun t : Int × Int × Int => t.1 * (t.2.1 - t.2.2)) (by
    have := hl.len; have := h.b9
    rw [List.length_zip]; omega) (fun x hx => by
    have := hl.bd x.1 (List.of_mem_zip hx).1
    rw [mulM_ok (.inl (by omega))]
    simp only [M.bind_ok])]
  simp only [M.bind_ok]; rfl
theorem Wk_sum {f : List Int × List Int} {l : List Int} {s : Int} (h : FlOk f.1 f.2) : ((Wk f l s).map fun p => (p.2.length : Int)).sum = (flo f).sum := by
  rw [Ws_len _ _ (fit_flo h), enumN_snd]
theorem Wk_in {f : List Int × List Int} {l : List Int} {s : Int} : ∀ p ∈ Wk f l s, inR f.2.length p.2 := Ws_in _ _ fun x hx => nomatch hx
theorem la_map {l : List Int} {φ : Int → Int} {x : Int} (h : 0 ≤ x ∧ x < l.length) : la (l.map φ) x = φ (la l x) := by
  unfold la
  rw [List.getD_eq_getElem?_getD, List.getD_eq_getElem?_getD, List.getElem?_map, List.getElem?_eq_getElem (by omega)]; rfl
theorem la_rep {n : Nat} {m x : Int} (h : 0 ≤ x ∧ x < n) : la (List.replicate n m) x = m := by
  unfold la
  rw [List.getD_eq_getElem?_getD, List.getElem?_replicate, if_pos (by omega)]; rfl
theorem LsOk.map {f : List Int × List Int} {l : List Int} (hl : LsOk f l) {φ : Int → Int} (h : ∀ x ∈ l, 0 ≤ φ x ∧ φ x ≤ 1000) : LsOk f (l.map φ) := ⟨by rw [List.length_map]; exact hl.len, fun x hx => by
  obtain ⟨y, hy, rfl⟩ := List.mem_map.mp hx
  exact h y hy⟩
theorem keyLe_cong {k k' : Int → Int} {x y : Int} (h1 : k x < k y ↔ k' x < k' y) (h2 : k x = k y ↔ k' x = k' y) : keyLe k x y = keyLe k' x y := by
  unfold keyLe
  exact decide_eq_decide.mpr (by rw [h1, h2])
theorem law_k21_true (ns : List Int) (hns : ns.length ≤ 63) : S_law_k21 ns = .ok true := by
  unfold S_law_k21
  rw [catM_ok (by simp; omega)]
  simp only [M.bind_ok]
  refine forF_bind (fun _ => True) trivial (fun s3 x2 _ _ => ?_) (fun s' _ => rfl)
  · 
    obtain ⟨s1, e1, h1⟩ := source_sp x2 21 (by omega) (by omega)
    rw [e1]
    simp only [M.bind_ok]
    obtain ⟨f, s2, e2, hf, _, _, h2⟩ := flight_sp (cl := 5) (cu := 9) (by omega) (by omega) h1 (by omega)
    rw [e2]
    simp only [M.bind_ok]
    obtain ⟨l, s3, e3, ll, lb, h3⟩ := compS_inv (g := fun z8 (x7 : Int) => (S__law_draw z8 101).bind fun r9 => .ok (r9.1, r9.2)) (fun k s => SOk (1000 + k) s) (fun y => 0 ≤ y ∧ y ≤ 100) f.2 s2
      (by have := hf.b9; omega) (h2.mono (by have := hf.b9; omega)) fun k s x hx hk => by
        obtain ⟨r, s', e, a, b, c⟩ := draw_sp (size := 101) hk (by omega) (by omega) (by omega)
        exact ⟨r, s', by rw [e]; simp only [M.bind_ok], ⟨a, by omega⟩, c.mono (by omega)⟩
    rw [e3]
    simp only [M.bind_ok]
    obtain ⟨more, s4, e4, m0, m1, h4⟩ := draw_sp (size := 200) h3 (by omega) (by omega) (by omega)
    rw [e4]
    simp only [M.bind_ok]
    obtain ⟨fc, s5, e5, c0, c1, h5⟩ := draw_sp (size := 9) h4 (by omega) (by omega) (by omega)
    rw [e5]
    simp only [M.bind_ok, M.lt_eq]
    rw [flows_sp hf]
    simp only [M.bind_ok]
    have b9 := hf.b9
    have hl : LsOk f l := ⟨ll, fun x hx => by have := lb x hx; omega⟩
    rw [compM_map (fun x => x + more) (by omega) (fun _ _ => rfl)]
    simp only [M.bind_ok]
    rw [compM_map (fun x => x * (1 + fc)) (by omega) (fun x hx => by
      have := lb x hx
      rw [mulM_ok (.inl (by omega))]
      simp only [M.bind_ok])]
    simp only [M.bind_ok]
    have hr : LsOk f (l.map fun x => x + more) := hl.map fun x hx => by have := lb x hx; omega
    have hg : LsOk f (l.map fun x => x * (1 + fc)) := hl.map fun x hx => by
      have := lb x hx
      have h0 : 0 ≤ x * (1 + fc) := Int.mul_nonneg this.1 (by omega)
      have h1 : x * (1 + fc) ≤ 100 * 9 := Int.mul_le_mul this.2 (by omega) (by omega) (by omega)
      omega
    have hw : LsOk f (List.replicate l.length more) := ⟨by rw [List.length_replicate]; exact ll, fun x hx => by rw [(List.mem_replicate.mp hx).2]; omega⟩
    have hv : LsOk f (l.map fun x => 1000 - x) := hl.map fun x hx => by have := lb x hx; omega
    have lar : ∀ x : Int, 0 ≤ x ∧ x < f.2.length → la (l.map fun x => x + more) x = 1 * la l x + more := fun x hx => by rw [la_map (by omega)]; omega
    have lag : ∀ x : Int, 0 ≤ x ∧ x < f.2.length → la (l.map fun x => x * (1 + fc)) x = (1 + fc) * la l x + 0 := fun x hx => by rw [la_map (by omega), Int.mul_comm]; omega
    have law : ∀ x : Int, 0 ≤ x ∧ x < f.2.length → la (List.replicate l.length more) x = 0 * la l x + more := fun x hx => by rw [la_rep (by omega)]; omega
    have lav : ∀ x : Int, 0 ≤ x ∧ x < f.2.length → la (l.map fun x => 1000 - x) x = (-1) * la l x + 1000 := fun x hx => by rw [la_map (by omega)]; omega
    have Wr : ∀ s, s = 1 ∨ s = -1 → Wk f (l.map fun x => x + more) s = Wk f l s := fun s hs => Ws_congr (fun x y hx hy => keyLe_cong (by rw [lar x hx, lar y hy]; rcases hs with rfl | rfl <;> omega) (by rw [lar x hx, lar y hy]; rcases hs with rfl | rfl <;> omega)) _ _ fun x hx => nomatch hx
    have Wg : ∀ s, s = 1 ∨ s = -1 → Wk f (l.map fun x => x * (1 + fc)) s = Wk f l s := fun s hs => Ws_congr (fun x y hx hy => by
      have p1 : (1 + fc) * la l x < (1 + fc) * la l y ↔ la l x < la l y := Int.mul_lt_mul_left (by omega)
      have p3 : (1 + fc) * la l y < (1 + fc) * la l x ↔ la l y < la l x := Int.mul_lt_mul_left (by omega)
      exact keyLe_cong (by rw [lag x hx, lag y hy]; rcases hs with rfl | rfl <;> omega) (by rw [lag x hx, lag y hy]; rcases hs with rfl | rfl <;> omega)) _ _ fun x hx => nomatch hx
    have Wv : Wk f (l.map fun x => 1000 - x) 1 = Wk f l (-1) := Ws_congr (fun x y hx hy => keyLe_cong (by rw [lav x hx, lav y hy]; omega) (by rw [lav x hx, lav y hy]; omega)) _ _ fun x hx => nomatch hx
    have T : ∀ (l' : List Int) (s : Int), ((Wk f l' s).map fun p => (p.2.length : Int)).sum = (flo f).sum := fun l' s => Wk_sum hf
    rw [least_sp hf hl]; simp only [M.bind_ok]
    rw [greatest_sp hf hl]; simp only [M.bind_ok]
    rw [least_sp hf hr]; simp only [M.bind_ok]
    have mb : (-18446744073709551616 < more ∧ more < 18446744073709551616) := by omega
    rw [mulM_ok (.inl mb)]; simp only [M.bind_ok]
    have q1 : totW (l.map fun x => x + more) (Wk f (l.map fun x => x + more) 1) = totW l (Wk f l 1) + more * (flo f).sum := by
      rw [Wr 1 (.inl rfl), totW_lin 1 more Wk_in lar, T]; omega
    rw [q1, decide_eq_true rfl, Bool.not_true, if_neg Bool.false_ne_true]
    rw [greatest_sp hf hr]; simp only [M.bind_ok]
    have q2 : totW (l.map fun x => x + more) (Wk f (l.map fun x => x + more) (-1)) = totW l (Wk f l (-1)) + more * (flo f).sum := by
      rw [Wr (-1) (.inr rfl), totW_lin 1 more Wk_in lar, T]; omega
    rw [q2, decide_eq_true rfl, Bool.not_true, if_neg Bool.false_ne_true]
    rw [least_sp hf hg]; simp only [M.bind_ok]
    rw [greatest_sp hf hg]; simp only [M.bind_ok]
    rw [mulM_ok (.inr (by omega)), mulM_ok (.inr (by omega))]; simp only [M.bind_ok]
    have q3 : totW (l.map fun x => x * (1 + fc)) (Wk f (l.map fun x => x * (1 + fc)) 1) = totW l (Wk f l 1) * (1 + fc) := by
      rw [Wg 1 (.inl rfl), totW_lin (1 + fc) 0 Wk_in lag, Int.mul_comm]; omega
    have q4 : totW (l.map fun x => x * (1 + fc)) (Wk f (l.map fun x => x * (1 + fc)) (-1)) = totW l (Wk f l (-1)) * (1 + fc) := by
      rw [Wg (-1) (.inr rfl), totW_lin (1 + fc) 0 Wk_in lag, Int.mul_comm]; omega
    rw [q3, q4, decide_eq_true rfl, Bool.not_true, if_neg Bool.false_ne_true]
    rw [cheapest_sp hf hr]; simp only [M.bind_ok]
    rw [law_loss_sp hf hl]; simp only [M.bind_ok]
    rw [Wr 1 (.inl rfl), plW_loss ll, decide_eq_true rfl, Bool.not_true, if_neg Bool.false_ne_true]
    rw [cheapest_sp hf hl]; simp only [M.bind_ok]
    rw [law_loss_sp hf hr]; simp only [M.bind_ok]
    rw [plW_loss hr.len, totW_lin 1 more Wk_in lar, T, show 1 * totW l (Wk f l 1) + more * (flo f).sum = totW l (Wk f l 1) + more * (flo f).sum by omega, decide_eq_true rfl, Bool.not_true, if_neg Bool.false_ne_true]
    rw [repM_ok (by simp; omega)]; simp only [M.bind_ok]
    rw [Int.toNat_natCast, rep1, least_sp hf hw]; simp only [M.bind_ok]
    have q5 : ∀ s, totW (List.replicate l.length more) (Wk f (List.replicate l.length more) s) = more * (flo f).sum := fun s => by
      rw [totW_lin 0 more Wk_in law, T]; omega
    rw [q5, decide_eq_true rfl, Bool.not_true, if_neg Bool.false_ne_true]
    rw [greatest_sp hf hw]; simp only [M.bind_ok]
    rw [q5, decide_eq_true rfl, Bool.not_true, if_neg Bool.false_ne_true]
    rw [compM_map (fun x => 1000 - x) (by omega) (fun _ _ => rfl)]
    simp only [M.bind_ok]
    rw [least_sp hf hv]; simp only [M.bind_ok]
    rw [mulM_ok (.inl (by omega))]; simp only [M.bind_ok]
    rw [Wv, totW_lin (-1) 1000 Wk_in lav, T, show -1 * totW l (Wk f l (-1)) + 1000 * (flo f).sum = 1000 * (flo f).sum - totW l (Wk f l (-1)) by omega, decide_eq_true rfl, Bool.not_true, if_neg Bool.false_ne_true]
    exact ⟨(), rfl, trivial⟩
theorem law_k21_data (ns : List Int) (hns : ns.length ≤ 63) : f_law_k21 [.list (ns.map .int)] = .ok (.sh (.bool true)) := by
  have h := (R_law_k21 ns).h
  rw [law_k21_true ns hns] at h
  exact h
end DS
theorem PySem.Challenge.cw_upgradeclasses_k21_whole_losses_raised_a_holds : PySem.Challenge.rw_upgradeclasses_k21_whole_losses_raised_a.Holds := by
  exact K21.holds_of DS.law_k21_data
