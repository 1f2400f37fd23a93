import PyProof.Rows.All
import Wide.All
import OpenK.AllK
import Wide.FinOn
import HandS.ForMost
import HandS.Wide
import KE.SortData
import KE.DataMinMax
import HandS.TupAny
import HandS.TupMul
import HandS.Deep
import HandS.Exc
import HandS.IsInst
import HandS.Style
import HandS.SortInts
import HandS.Strs
import HandS.Conv
import HandS.Zip
import HandS.Iter
import HandS.Comp
import PyProof.LongRange
import HandS.ExcOwn
import HandS.HeadHook1
import PyProof.ListRange
import KE.KDictZip
import HandS.ExcValue
import HandS.Set
import HandS.WordsExc
import HandS.Defaults
import HandS.Head0
import HandS.Head1
import HandS.Head2
import HandS.HeadEnd
import HandS.HeadHook2
import HandS.HeadHook3
import HandS.HeadHook4
import KE.DatumOrd
import PySem.Challenge.RW_liarsfew_k03_whole_worlds_of_great_crowd
set_option Elab.async false
set_option linter.all false
set_option maxRecDepth 100000
set_option autoImplicit false
section
set_option autoImplicit true
namespace Mi
open PySem

abbrev D := PyData
/-- a value: data that stands still; a live cell; a lambda with what it caught -/
inductive Val where
  | d (x : D)
  | ref (n : Nat)
  | clo (k : Nat) (caps : List (Option D))
  deriving Inhabited
inductive Cell where
  | lst (xs : List D)
  deriving Inhabited
abbrev Store := List Cell
abbrev Env := List (Option Val)
structure Exn where
  cls : Str
  arg : Option D
inductive R (α : Type) where
  | ok (a : α) (st : Store)
  | exc (e : Exn) (st : Store)
  | bad
def R.bind {α β : Type} : R α → (α → Store → R β) → R β
  | .ok a st, f => f a st
  | .exc e st, _ => .exc e st
  | .bad, _ => .bad
@[simp] theorem R.bind_ok {α β : Type} (a : α) (st : Store) (f : α → Store → R β) : (R.ok a st).bind f = f a st := rfl
@[simp] theorem R.bind_exc {α β : Type} (e : Exn) (st : Store) (f : α → Store → R β) : (R.exc e st : R α).bind f = .exc e st := rfl
@[simp] theorem R.bind_bad {α β : Type} (f : α → Store → R β) : (R.bad : R α).bind f = .bad := rfl
def R.of {α β : Type} (o : Option α) (f : α → R β) : R β := match o with
  | some a => f a
  | none => .bad
@[simp] theorem R.of_some {α β : Type} (a : α) (f : α → R β) : R.of (some a) f = f a := rfl
@[simp] theorem R.of_none {α β : Type} (f : α → R β) : R.of (none : Option α) f = .bad := rfl

/-- what a value tells now, as data -/
def vw (st : Store) : Val → Option D
  | .d x => some x
  | .ref n => match st[n]? with
    | some (.lst xs) => some (.list xs)
    | none => none
  | .clo _ _ => none
@[simp] theorem vw_d (st : Store) (x : D) : vw st (.d x) = some x := rfl

inductive B2 where
  | add | sub | mul | fdiv | mod | pow | eq | ne | lt | le | gt | ge | inn | notin
  deriving DecidableEq
def iop : B2 → Int → Int → Option D
  | .add, i, j => some (.int (i + j))
  | .sub, i, j => some (.int (i - j))
  | .mul, i, j => if i.natAbs.log2 + j.natAbs.log2 < 1000000 then some (.int (i * j)) else none
  | .fdiv, i, j => if 0 < j ∧ j.natAbs.log2 < 9000 then some (.int (i / j)) else none
  | .mod, i, j => if 0 < j then some (.int (i % j)) else none
  | .pow, i, j => if 0 ≤ j ∧ j ≤ 1000000 ∧ i.natAbs < 2 ^ 64 then some (.int (i ^ j.toNat)) else none
  | .lt, i, j => some (.bool (decide (i < j)))
  | .le, i, j => some (.bool (decide (i ≤ j)))
  | .gt, i, j => some (.bool (decide (j < i)))
  | .ge, i, j => some (.bool (decide (j ≤ i)))
  | _, _, _ => none
def shp (x : D) : Bool := decide (x.depth ≤ 64)
def shpL (xs : List D) : Bool := decide (PyData.depthAll xs ≤ 63)
def items : D → Option (List D)
  | .list xs => some xs
  | .tuple xs => some xs
  | _ => none
def repL {α : Type} (xs : List α) (k : Int) : List α := (List.replicate k.toNat xs).flatten
def b2 (op : B2) (x y : D) : Option D := match op with
  | .eq => if shp x && shp y then some (.bool (PyData.eqv x y)) else none
  | .ne => if shp x && shp y then some (.bool (!PyData.eqv x y)) else none
  | .inn => match items y with
    | some ys => if shp x && shpL ys then some (.bool (ys.any fun z => PyData.eqv z x)) else none
    | none => none
  | .notin => match items y with
    | some ys => if shp x && shpL ys then some (.bool (!ys.any fun z => PyData.eqv z x)) else none
    | none => none
  | .add => match x, y with
    | .int i, .int j => some (.int (i + j))
    | .str s, .str t => if s.length + t.length ≤ sizeLine then some (.str (s ++ t)) else none
    | .tuple s, .tuple t => if s.length + t.length ≤ sizeLine then some (.tuple (s ++ t)) else none
    | .list s, .list t => if s.length + t.length ≤ sizeLine then some (.list (s ++ t)) else none
    | _, _ => none
  | .mul => match x, y with
    | .int i, .int j => iop .mul i j
    | .tuple s, .int k => if s ≠ [] ∧ 2 ≤ k ∧ k ≤ 1000 ∧ s.length ≤ 1000 then some (.tuple (repL s k)) else none
    | _, _ => none
  | op => match x, y with
    | .int i, .int j => iop op i j
    | _, _ => none
def repD (x y : D) : Option D := match x, y with
  | .list s, .int k => if -(2 ^ 63) ≤ k ∧ k < 2 ^ 63 ∧ s.length * k.toNat ≤ sizeLine then some (.list (repL s k)) else none
  | _, _ => none
def idx (x y : D) : Option D := match x, y with
  | .list xs, .int i => L2.atI xs i
  | .tuple xs, .int i => L2.atI xs i
  | _, _ => none
def cut {α : Type} (xs : List α) (lo hi : Option Int) : List α := (xs.drop (_root_.HT.sIx xs.length 0 lo)).take (_root_.HT.sIx xs.length xs.length hi - _root_.HT.sIx xs.length 0 lo)
def slc (x : D) (lo hi : Option Int) : Option D := match x with
  | .list xs => some (.list (cut xs lo hi))
  | .tuple xs => some (.tuple (cut xs lo hi))
  | _ => none
def revD (x : D) : Option D := match x with
  | .list xs => some (.list xs.reverse)
  | .tuple xs => some (.tuple xs.reverse)
  | _ => none
def negD (x : D) : Option D := match x with
  | .int i => some (.int (-i))
  | _ => none
def min2D (x y : D) : Option D := match x, y with
  | .int i, .int j => some (.int (if j < i then j else i))
  | _, _ => none
def bInt : D → Option Int
  | .int i => some i
  | _ => none
def bBool : D → Option Bool
  | .bool b => some b
  | _ => none
def allM {α β : Type} (f : α → Option β) : List α → Option (List β)
  | [] => some []
  | x :: xs => match f x, allM f xs with
    | some y, some ys => some (y :: ys)
    | _, _ => none
/-- kinds that isinstance is asked for -/
inductive Kd where
  | int | bool | str | tuple | list
  deriving DecidableEq
def isK : Kd → D → Bool
  | .int, .int _ => true
  | .int, .bool _ => true
  | .bool, .bool _ => true
  | .str, .str _ => true
  | .tuple, .tuple _ => true
  | .list, .list _ => true
  | _, _ => false
def isinD (ks : List Kd) (x : D) : Option D := some (.bool (ks.any fun k => isK k x))
def insI (x : Int) : List Int → List Int
  | [] => [x]
  | y :: ys => if x ≤ y then x :: y :: ys else y :: insI x ys
def sortI : List Int → List Int
  | [] => []
  | x :: xs => insI x (sortI xs)
/-- sorted, without doubles -/
def insU (x : Int) : List Int → List Int
  | [] => [x]
  | y :: ys => if x < y then x :: y :: ys else if x = y then y :: ys else y :: insU x ys
def sortU : List Int → List Int
  | [] => []
  | x :: xs => insU x (sortU xs)
def minI : Int → List Int → Int
  | x, [] => x
  | x, y :: ys => minI (if y < x then y else x) ys
def maxI : Int → List Int → Int
  | x, [] => x
  | x, y :: ys => maxI (if x < y then y else x) ys
/-- x before y or alike -/
def leD (x y : D) : Bool := !PySem.W.dataLt y x
/-- they can be sorted: alike, tuples with an item at least -/
def sortB (xs : List D) : Bool := xs.all (fun x => xs.all fun y => PySem.W.alike x y) && xs.all (fun x => match x with
  | .tuple (_ :: _) => true
  | _ => false) && decide (PyData.depthAll xs ≤ 60)
inductive B1 where
  | len | abs | int | sum | all | any | min | max | sorted | sortset | tuple | list
  deriving DecidableEq
def b1 : B1 → D → Option D
  | .len, .list xs => some (.int xs.length)
  | .len, .tuple xs => some (.int xs.length)
  | .abs, .int i => some (.int i.natAbs)
  | .int, .int i => some (.int i)
  | .int, .bool b => some (.int (if b then 1 else 0))
  | .sum, .list xs => (allM bInt xs).map fun ns => .int ns.sum
  | .all, .list xs => (allM bBool xs).map fun bs => .bool (bs.all id)
  | .any, .list xs => (allM bBool xs).map fun bs => .bool (bs.any id)
  | .min, .list xs => match allM bInt xs with
    | some (n :: ns) => some (.int (minI n ns))
    | some [] => none
    | none => if sortB xs then (match xs with
      | x :: xs => some (PySem.W.minD x xs)
      | [] => none) else none
  | .max, .list xs => match allM bInt xs with
    | some (n :: ns) => some (.int (maxI n ns))
    | _ => none
  | .sorted, .list xs => match allM bInt xs with
    | some ns => some (.list ((sortI ns).map .int))
    | none => if sortB xs then some (.list (xs.mergeSort leD)) else none
  | .sortset, .list xs => if xs.length ≤ 4000 then (allM bInt xs).map fun ns => .list ((sortU ns).map .int) else none
  | .tuple, .list xs => some (.tuple xs)
  | .tuple, .tuple xs => some (.tuple xs)
  | .list, .list xs => some (.list xs)
  | .list, .tuple xs => some (.list xs)
  | _, _ => none

def rngL (lo hi c : Int) : List D := (List.range (Builtin.Range.rangeSize lo hi c).toNat).map fun k => .int (lo + (k : Nat) * c)
def lrangeD (x y : D) : Option D := match x, y with
  | .int i, .int j => if decide (j - i ≤ 2 ^ 24) then some (.list (rngL i j 1)) else none
  | _, _ => none
def zipD (xs ys : List D) : List D := (xs.zip ys).map fun p => .tuple [p.1, p.2]
/-- list(zip(xs, ys)) -/
def lzipD (x y : D) : Option D := match x, y with
  | .list xs, .list ys => some (.list (zipD xs ys))
  | _, _ => none

/-- a target: a name, or a tuple of names -/
inductive Tg where
  | nm (i : Nat)
  | tp (is : List Nat)
inductive E where
  | cst (c : D)
  | var (i : Nat)
  | glo (x : Str) (c : D)
  | neg (a : E)
  | bin (op : B2) (a b : E)
  | chain (o1 o2 : B2) (a b c : E)
  | isc (neg : Bool) (a : E) (c : D)
  | and (a b : E)
  | or (a b : E)
  | not (a : E)
  | ite (c a b : E)
  | tup (es : List E)
  | lst (es : List E)
  | rep (es : List E) (k : E)
  | idx (a i : E)
  | slc (a : E) (lo hi : Option E)
  | rev (a : E)
  | call (nw : Bool) (f : Str) (es : List E)
  | bi (f : B1) (a : E)
  | min2 (a b : E)
  | lrange (a b : E)
  | lzip (a b : E)
  | isin (a : E) (ks : List Kd)
  | lcE (own : List Nat) (e : E) (t : Tg) (it : E) (c : Option E)
  | lcR (own : List Nat) (e : E) (t : Tg) (args : List E) (c : Option E)
  | lcZ (own : List Nat) (e : E) (t : Tg) (a b : E) (c : Option E)
  | lcN (own : List Nat) (e : E) (t : Tg) (a : E) (c : Option E)
  | lc2 (own own1 : List Nat) (e : E) (t : Tg) (it : E) (t1 : Tg) (it1 : E)
  | nev
/-- what is walked -/
inductive It where
  | ex (a : E)
  | rng (args : List E)
  | zip (a b : E)
  | enum (a : E)
inductive S where
  | asg (t : Tg) (e : E)
  | newl (i : Nat) (e : E)
  | par (i j : Nat) (a b : E)
  | par1 (i j : Nat) (a b : E)
  | aug (i : Nat) (op : B2) (e : E)
  | seti (i : Nat) (k e : E)
  | app (i : Nat) (e : E)
  | ex (e : E)
  | ret (e : E)
  | retv (i : Nat)
  | iff (c : E) (a b : List S)
  | for (t : Tg) (it : It) (b : List S)
  | whl (fuel : Nat) (c : E) (b : List S)
  | pass
  | brk
  | cont
  | raise (cls : Str) (arg : E)
  | nev

abbrev Calls := Str → List Val → Store → R Val
abbrev ME := Env → Store → R Val
abbrev MEs := Env → Store → R (List Val)

def mVar (i : Nat) : ME := fun env st => match env[i]? with
  | some (some v) => .ok v st
  | _ => .bad
def mView (m : ME) (env : Env) (st : Store) {β : Type} (k : D → Store → R β) : R β := (m env st).bind fun v st1 => R.of (vw st1 v) fun x => k x st1
def mBin (f : D → D → Option D) (ma mb : ME) : ME := fun env st => (ma env st).bind fun v st1 => (mb env st1).bind fun w st2 =>
  R.of (vw st2 v) fun x => R.of (vw st2 w) fun y => R.of (f x y) fun z => .ok (.d z) st2
def mUn (f : D → Option D) (ma : ME) : ME := fun env st => (ma env st).bind fun v st1 => R.of (vw st1 v) fun x => R.of (f x) fun z => .ok (.d z) st1
def mTest {β : Type} (m : ME) (env : Env) (st : Store) (k : Bool → Store → R β) : R β := (m env st).bind fun v st1 => match v with
  | .d (.bool b) => k b st1
  | _ => .bad
def mAnd (ma mb : ME) : ME := fun env st => mTest ma env st fun b st1 => if b then mb env st1 else .ok (.d (.bool false)) st1
def mOr (ma mb : ME) : ME := fun env st => mTest ma env st fun b st1 => if b then .ok (.d (.bool true)) st1 else mb env st1
def mNot (ma : ME) : ME := fun env st => mTest ma env st fun b st1 => .ok (.d (.bool (!b))) st1
def mIte (mc ma mb : ME) : ME := fun env st => mTest mc env st fun b st1 => if b then ma env st1 else mb env st1
def mChain (f g : D → D → Option D) (ma mb mc : ME) : ME := fun env st => (ma env st).bind fun v st1 => (mb env st1).bind fun w st2 =>
  R.of (vw st2 v) fun x => R.of (vw st2 w) fun y => R.of (f x y) fun z => match z with
    | .bool true => (mc env st2).bind fun u st3 => R.of (vw st3 w) fun y' => R.of (vw st3 u) fun c => R.of (g y' c) fun z' => match z' with
      | .bool b => .ok (.d (.bool b)) st3
      | _ => .bad
    | .bool false => .ok (.d (.bool false)) st2
    | _ => .bad
def isD (c : D) : D → Option Bool := fun x => match c, x with
  | .none, .none => some true
  | .none, _ => some false
  | .bool a, .bool b => some (a == b)
  | _, _ => none
def mIs (neg : Bool) (c : D) (m : ME) : ME := fun env st => (m env st).bind fun v st1 => match v with
  | .d x => R.of (isD c x) fun b => .ok (.d (.bool (if neg then !b else b))) st1
  | _ => .bad
def mNil : MEs := fun _ st => .ok [] st
def mCons (ma : ME) (ms : MEs) : MEs := fun env st => (ma env st).bind fun v st1 => (ms env st1).bind fun vs st2 => .ok (v :: vs) st2
def dOf : Val → Option D
  | .d x => some x
  | _ => none
def mTup (ms : MEs) : ME := fun env st => (ms env st).bind fun vs st1 => R.of (allM dOf vs) fun xs => if xs.length ≤ 1000 then .ok (.d (.tuple xs)) st1 else .bad
def mLst (ms : MEs) : ME := fun env st => (ms env st).bind fun vs st1 => R.of (allM dOf vs) fun xs => if xs.length ≤ 1000 then .ok (.d (.list xs)) st1 else .bad
def mOptI (m : Option ME) (env : Env) (st : Store) {β : Type} (k : Option Int → Store → R β) : R β := match m with
  | none => k none st
  | some m => (m env st).bind fun v st1 => match v with
    | .d (.int i) => k (some i) st1
    | _ => .bad
def mSlc (ma : ME) (lo hi : Option ME) : ME := fun env st => (ma env st).bind fun v st1 => mOptI lo env st1 fun l st2 => mOptI hi env st2 fun h st3 =>
  R.of (vw st3 v) fun x => R.of (slc x l h) fun z => .ok (.d z) st3
def mCall (F : Calls) (f : Str) (ms : MEs) : ME := fun env st => (ms env st).bind fun vs st1 => F f vs st1
def setAll (env : Env) : List Nat → List D → Option Env
  | [], [] => some env
  | i :: is, x :: xs => setAll (env.set i (some (.d x))) is xs
  | _, _ => none
def tset (t : Tg) (env : Env) (x : D) : Option Env := match t with
  | .nm i => some (env.set i (some (.d x)))
  | .tp is => match x with
    | .tuple xs => setAll env is xs
    | _ => none
def wipeE (env : Env) : List Nat → Env
  | [] => env
  | v :: vs => (wipeE env vs).set v none
/-- the turns of a comprehension -/
def lcGo (t : Tg) (mc : Option ME) (me : ME) (env : Env) : List D → List D → Store → R (List D)
  | [], acc, st => .ok acc st
  | x :: xs, acc, st => R.of (tset t env x) fun env1 => (match mc with
      | none => (R.ok (Val.d (.bool true)) st : R Val)
      | some m => m env1 st).bind fun c st1 => match c with
        | .d (.bool true) => (me env1 st1).bind fun v st2 => match v with
          | .d y => if acc.length < sizeLine then lcGo t mc me env xs (acc ++ [y]) st2 else .bad
          | _ => .bad
        | .d (.bool false) => lcGo t mc me env xs acc st1
        | _ => .bad
def noExc {α : Type} : R α → R α
  | .exc _ _ => .bad
  | r => r
/-- the things walked, and the cell that must stand still meanwhile -/
abbrev MI := Env → Store → R (List D)
def mItE (m : ME) : MI := fun env st => (m env st).bind fun v st1 => match v with
  | .d x => R.of (items x) fun xs => .ok xs st1
  | _ => .bad
def mItR (ms : MEs) : MI := fun env st => (ms env st).bind fun vs st1 => match vs with
  | [.d (.int j)] => .ok (rngL 0 j 1) st1
  | [.d (.int i), .d (.int j)] => .ok (rngL i j 1) st1
  | [.d (.int i), .d (.int j), .d (.int c)] => if 0 < c ∧ c < 1073741824 then .ok (rngL i j c) st1 else .bad
  | _ => .bad
def mItZ (ma mb : ME) : MI := fun env st => (ma env st).bind fun v st1 => (mb env st1).bind fun w st2 => match v, w with
  | .d (.list xs), .d (.list ys) => .ok (zipD xs ys) st2
  | .d (.tuple xs), .d (.tuple ys) => .ok (zipD xs ys) st2
  | _, _ => .bad
def enumL : Nat → List D → List D
  | _, [] => []
  | k, x :: xs => .tuple [.int k, x] :: enumL (k + 1) xs
def mItN (m : ME) : MI := fun env st => (m env st).bind fun v st1 => match v with
  | .d (.list xs) => .ok (enumL 0 xs) st1
  | .d (.tuple xs) => .ok (enumL 0 xs) st1
  | _ => .bad
/-- two clauses -/
def lc2Go (own1 : List Nat) (t : Tg) (mi1 : MI) (t1 : Tg) (me : ME) (env : Env) : List D → List D → Store → R (List D)
  | [], acc, st => .ok acc st
  | x :: xs, acc, st => R.of (tset t env x) fun env1 => (mi1 env1 st).bind fun ys st1 => (lcGo t1 none me (wipeE env1 own1) ys acc st1).bind fun acc st2 => lc2Go own1 t mi1 t1 me env xs acc st2
def mLc2 (own own1 : List Nat) (t : Tg) (mi : MI) (t1 : Tg) (mi1 : MI) (me : ME) : ME := fun env st => noExc ((mi env st).bind fun xs st1 => (lc2Go own1 t mi1 t1 me (wipeE env own) xs [] st1).bind fun ys st2 => .ok (.d (.list ys)) st2)
def mLc (own : List Nat) (t : Tg) (mi : MI) (mc : Option ME) (me : ME) : ME := fun env st => noExc ((mi env st).bind fun xs st1 => (lcGo t mc me (wipeE env own) xs [] st1).bind fun ys st2 => .ok (.d (.list ys)) st2)

mutual
def evE (F : Calls) : E → ME
  | .cst c => fun _ st => .ok (.d c) st
  | .glo _ c => fun _ st => .ok (.d c) st
  | .var i => mVar i
  | .neg a => mUn negD (evE F a)
  | .bin op a b => mBin (b2 op) (evE F a) (evE F b)
  | .chain o1 o2 a b c => mChain (b2 o1) (b2 o2) (evE F a) (evE F b) (evE F c)
  | .isc n a c => mIs n c (evE F a)
  | .and a b => mAnd (evE F a) (evE F b)
  | .or a b => mOr (evE F a) (evE F b)
  | .not a => mNot (evE F a)
  | .ite c a b => mIte (evE F c) (evE F a) (evE F b)
  | .tup es => mTup (evEs F es)
  | .lst es => mLst (evEs F es)
  | .rep es k => mBin repD (mLst (evEs F es)) (evE F k)
  | .idx a i => mBin idx (evE F a) (evE F i)
  | .slc a lo hi => mSlc (evE F a) (evO F lo) (evO F hi)
  | .rev a => mUn revD (evE F a)
  | .call _ f es => mCall F f (evEs F es)
  | .bi f a => mUn (b1 f) (evE F a)
  | .min2 a b => mBin min2D (evE F a) (evE F b)
  | .lrange a b => mBin lrangeD (evE F a) (evE F b)
  | .lzip a b => mBin lzipD (evE F a) (evE F b)
  | .isin a ks => mUn (isinD ks) (evE F a)
  | .lcE own e t it c => mLc own t (mItE (evE F it)) (evO F c) (evE F e)
  | .lcR own e t args c => mLc own t (mItR (evEs F args)) (evO F c) (evE F e)
  | .lcZ own e t a b c => mLc own t (mItZ (evE F a) (evE F b)) (evO F c) (evE F e)
  | .lcN own e t a c => mLc own t (mItN (evE F a)) (evO F c) (evE F e)
  | .lc2 own own1 e t it t1 it1 => mLc2 own own1 t (mItE (evE F it)) t1 (mItE (evE F it1)) (evE F e)
  | .nev => fun _ _ => .bad
def evEs (F : Calls) : List E → MEs
  | [] => mNil
  | e :: es => mCons (evE F e) (evEs F es)
def evO (F : Calls) : Option E → Option ME
  | none => none
  | some e => some (evE F e)
end
def evI (F : Calls) : It → MI
  | .ex a => mItE (evE F a)
  | .rng args => mItR (evEs F args)
  | .zip a b => mItZ (evE F a) (evE F b)
  | .enum a => mItN (evE F a)

inductive Fl where
  | nx (env : Env)
  | rt (v : Val)
  | bk (env : Env)
  | ct (env : Env)
abbrev MS := Env → Store → R Fl
def mSeq (a b : MS) : MS := fun env st => (a env st).bind fun fl st1 => match fl with
  | .nx env1 => b env1 st1
  | fl => .ok fl st1
def mNext : MS := fun env st => .ok (.nx env) st
/-- a name bound to a value (data, or a cell) -/
def mAsg (t : Tg) (m : ME) : MS := fun env st => (m env st).bind fun v st1 => match t with
  | .nm i => .ok (.nx (env.set i (some v))) st1
  | .tp is => match v with
    | .d x => R.of (tset (.tp is) env x) fun env1 => .ok (.nx env1) st1
    | _ => .bad
def mNewl (i : Nat) (m : ME) : MS := fun env st => (m env st).bind fun v st1 => match v with
  | .d (.list xs) => .ok (.nx (env.set i (some (.ref st1.length)))) (st1 ++ [.lst xs])
  | _ => .bad
def mPar (i j : Nat) (ma mb : ME) : MS := fun env st => (ma env st).bind fun v st1 => (mb env st1).bind fun w st2 => .ok (.nx ((env.set i (some v)).set j (some w))) st2
/-- .. the second new -/
def mPar1 (i j : Nat) (ma mb : ME) : MS := fun env st => (ma env st).bind fun v st1 => (mb env st1).bind fun w st2 => match w with
  | .d (.list xs) => .ok (.nx ((env.set i (some v)).set j (some (.ref st2.length)))) (st2 ++ [.lst xs])
  | _ => .bad
def mAug (i : Nat) (op : B2) (m : ME) : MS := fun env st => match env[i]? with
  | some (some (.d (.int x))) => (m env st).bind fun w st1 => match w with
    | .d (.int y) => (match op with
      | .add => .ok (.nx (env.set i (some (.d (.int (x + y)))))) st1
      | .sub => .ok (.nx (env.set i (some (.d (.int (x - y)))))) st1
      | _ => .bad)
    | _ => .bad
  | _ => .bad
def mSeti (i : Nat) (mk me : ME) : MS := fun env st => (me env st).bind fun v st1 => match env[i]? with
  | some (some (.ref n)) => (mk env st1).bind fun k st2 => match v, k, st2[n]? with
    | .d y, .d (.int j), some (.lst xs) => R.of (L2.ixN xs.length j) fun q => .ok (.nx env) (st2.set n (.lst (xs.set q y)))
    | _, _, _ => .bad
  | _ => .bad
def mApp (i : Nat) (me : ME) : MS := fun env st => match env[i]? with
  | some (some (.ref n)) => (me env st).bind fun v st1 => match v, st1[n]? with
    | .d y, some (.lst xs) => if xs.length < sizeLine then .ok (.nx env) (st1.set n (.lst (xs ++ [y]))) else .bad
    | _, _ => .bad
  | _ => .bad
def mEx (m : ME) : MS := fun env st => (m env st).bind fun _ st1 => .ok (.nx env) st1
def mRet (m : ME) : MS := fun env st => (m env st).bind fun v st1 => .ok (.rt v) st1
/-- a cell is handed back -/
def mRetV (i : Nat) : MS := fun env st => match env[i]? with
  | some (some (.ref n)) => .ok (.rt (.ref n)) st
  | _ => .bad
def mIf (mc : ME) (a b : MS) : MS := fun env st => mTest mc env st fun c st1 => if c then a env st1 else b env st1
def forGo (t : Tg) (b : MS) : List D → Env → Store → R Fl
  | [], env, st => .ok (.nx env) st
  | x :: xs, env, st => R.of (tset t env x) fun env1 => (b env1 st).bind fun fl st1 => match fl with
    | .nx env2 => forGo t b xs env2 st1
    | .ct env2 => forGo t b xs env2 st1
    | .bk env2 => .ok (.nx env2) st1
    | .rt v => .ok (.rt v) st1
def mFor (t : Tg) (mi : MI) (b : MS) : MS := fun env st => (mi env st).bind fun xs st1 => forGo t b xs env st1
def whlGo (mc : ME) (b : MS) : Nat → Env → Store → R Fl
  | 0, _, _ => .bad
  | n + 1, env, st => mTest mc env st fun c st1 => if c then (b env st1).bind fun fl st2 => (match fl with
      | .nx env2 => whlGo mc b n env2 st2
      | .ct env2 => whlGo mc b n env2 st2
      | .bk env2 => .ok (.nx env2) st2
      | .rt v => .ok (.rt v) st2) else .ok (.nx env) st1
def mRaise (cls : Str) (m : ME) : MS := fun env st => (m env st).bind fun v st1 => match v with
  | .d x => .exc ⟨cls, some x⟩ st1
  | _ => .bad
mutual
def evS (F : Calls) : S → MS
  | .asg t e => mAsg t (evE F e)
  | .newl i e => mNewl i (evE F e)
  | .par i j a b => mPar i j (evE F a) (evE F b)
  | .par1 i j a b => mPar1 i j (evE F a) (evE F b)
  | .aug i op e => mAug i op (evE F e)
  | .seti i k e => mSeti i (evE F k) (evE F e)
  | .app i e => mApp i (evE F e)
  | .ex e => mEx (evE F e)
  | .ret e => mRet (evE F e)
  | .retv i => mRetV i
  | .iff c a b => mIf (evE F c) (evSs F a) (evSs F b)
  | .for t it b => mFor t (evI F it) (evSs F b)
  | .whl n c b => whlGo (evE F c) (evSs F b) n
  | .pass => mNext
  | .brk => fun env st => .ok (.bk env) st
  | .cont => fun env st => .ok (.ct env) st
  | .raise cls e => mRaise cls (evE F e)
  | .nev => fun _ _ => .bad
def evSs (F : Calls) : List S → MS
  | [] => mNext
  | s :: ss => mSeq (evS F s) (evSs F ss)
end

structure Fn where
  name : Str
  arity : Nat
  slots : Nat
  body : List S
abbrev Prg := List Fn
def Prg.find (p : Prg) (f : Str) : Option Fn := p.find? fun d => d.name == f
/-- what a def hands back: cells of its own are data now -/
def away (st : Store) (n : Nat) : Val → Option Val
  | .ref k => if k < n then some (.ref k) else match st[k]? with
    | some (.lst xs) => some (.d (.list xs))
    | none => none
  | v => some v
def start (d : Fn) (vs : List Val) : Env := vs.map some ++ List.replicate (d.slots - vs.length) none
def runFn (F : Calls) (d : Fn) (vs : List Val) (st : Store) : R Val :=
  if vs.length = d.arity then (match evSs F d.body (start d vs) st with
    | .ok (.nx _) st1 => .ok (.d .none) (st1.take st.length)
    | .ok (.rt v) st1 => R.of (away st1 st.length v) fun w => .ok w (st1.take st.length)
    | .ok (.bk _) _ => .bad
    | .ok (.ct _) _ => .bad
    | .exc e st1 => .exc e (st1.take st.length)
    | .bad => .bad) else .bad
def call (p : Prg) : Nat → Calls
  | 0 => fun _ _ _ => .bad
  | n + 1 => fun f vs st => match p.find f with
    | some d => runFn (call p n) d vs st
    | none => .bad
end Mi
end
section
set_option maxHeartbeats 1000000
namespace Mi
open PySem PySem.Spec PyProof.Rows L2
abbrev Frag := PySem.W.Frag
abbrev St := L2.St
/-- what may be written (by number), and what else no data may name -/
structure Lv where
  i : List Addr
  x : List Addr
def Lv.all (l : Lv) : List Addr := l.i ++ l.x
variable {K : Frag} {H H' H1 H2 : Hp} {ι ι' ι1 ι2 : Lv}

/-- a list of the module's own -/
def KL (K : Frag) (a : Addr) (us : List V) : Prop := ∃ (o : Obj) (its : Array Value) (n : Nat), K.lookup a = some o ∧ o.cls = .type "list" ∧ o.dict = none ∧ o.data = .seq its n ∧ its.size ≤ sizeLine ∧ Vals us its.toList
/-- a list that stands still -/
def LstAt (K : Frag) (H : Hp) (ι : Lv) (a : Addr) (us : List V) : Prop := (Rd H a (.lst us) ∧ a ∉ ι.all) ∨ KL K a us
theorem LstAt.sql {a : Addr} {us : List V} (h : LstAt K H ι a us) : SqL K H a us := h.elim (fun z => .inl z.1) .inr
mutual
inductive Dq (K : Frag) (H : Hp) (ι : Lv) : V → D → Prop
  | non : Dq K H ι .non .none
  | bl (b : Bool) : Dq K H ι (.bl b) (.bool b)
  | int (i : Int) : Dq K H ι (.int i) (.int i)
  | str (x : Str) : PyData.strOk x = true → Dq K H ι (.str x) (.str x)
  | lst {a : Addr} {us : List V} {ds : List D} : LstAt K H ι a us → DqAll K H ι us ds → Dq K H ι (.ref a) (.list ds)
  | tup {a : Addr} {us : List V} {ds : List D} : SqT K H a us → DqAll K H ι us ds → Dq K H ι (.ref a) (.tuple ds)
inductive DqAll (K : Frag) (H : Hp) (ι : Lv) : List V → List D → Prop
  | nil : DqAll K H ι [] []
  | cons {v : V} {vs : List V} {d : D} {ds : List D} : Dq K H ι v d → DqAll K H ι vs ds → DqAll K H ι (v :: vs) (d :: ds)
end

/-- what stands whatever is written -/
structure Ext (ι : Lv) (H H' : Hp) : Prop where
  keep : ∀ a o, H a = some o → (∀ ps, o ≠ .tbl ps) → a ∉ ι.i → H' a = some o
  tup : ∀ a us, H a = some (.tup us) → H' a = some (.tup us)
  frz : ∀ a o u, H a = some (.frz o u) → H' a = some (.frz o u)
  dom : ∀ a, H a ≠ none → H' a ≠ none
theorem Ext.refl (ι : Lv) (H : Hp) : Ext ι H H := ⟨fun _ _ h _ _ => h, fun _ _ h => h, fun _ _ _ h => h, fun _ h => h⟩
theorem Ext.of (h : Same H H') : Ext ι H H' := ⟨fun a o e _ _ => h a o e, fun a us e => h _ _ e, fun _ _ _ e => h _ _ e, fun a n z => by
  cases e : H a with
  | none => exact n e
  | some o => rw [h a o e] at z; cases z⟩
/-- live cells come only new -/
structure Grow (ι : Lv) (H : Hp) (ι' : Lv) : Prop where
  pre : ∃ more, ι'.i = ι.i ++ more
  new : ∀ a, a ∈ ι'.all → a ∈ ι.all ∨ H a = none
  newi : ∀ a, a ∈ ι'.i → a ∈ ι.i ∨ H a = none
  old : ∀ a, a ∈ ι.all → a ∈ ι'.all
theorem Grow.refl (ι : Lv) (H : Hp) : Grow ι H ι := ⟨⟨[], by simp⟩, fun _ h => .inl h, fun _ h => .inl h, fun _ h => h⟩
theorem Grow.out (g : Grow ι H ι') {a : Addr} (h : a ∉ ι.all) (n : H a ≠ none) : a ∉ ι'.all := fun z => (g.new a z).elim h n
theorem Grow.outi (g : Grow ι H ι') {a : Addr} (h : a ∉ ι.i) (n : H a ≠ none) : a ∉ ι'.i := fun z => (g.newi a z).elim h n
theorem Ext.trans (g : Grow ι H ι1) (x : Ext ι H H1) (y : Ext ι1 H1 H2) : Ext ι H H2 :=
  ⟨fun a o e n hn => y.keep a o (x.keep a o e n hn) n (g.outi hn (by rw [e]; simp)), fun a us e => y.tup a us (x.tup a us e), fun a o u e => y.frz a o u (x.frz a o u e), fun a n => y.dom a (x.dom a n)⟩
theorem Ext.trans' (x : Ext ι H H1) (y : Ext ι H1 H2) : Ext ι H H2 := x.trans (Grow.refl _ _) y
theorem Ext.back (x : Ext ι H H1) {a : Addr} (h : H1 a = none) : H a = none := by
  cases e : H a with
  | none => rfl
  | some o => exact absurd h (x.dom a (by rw [e]; simp))
theorem Grow.trans (x : Ext ι H H1) (g : Grow ι H ι1) (g' : Grow ι1 H1 ι2) : Grow ι H ι2 := by
  obtain ⟨⟨m1, e1⟩, h1, k1, o1⟩ := g
  obtain ⟨⟨m2, e2⟩, h2, k2, o2⟩ := g'
  refine ⟨⟨m1 ++ m2, by rw [e2, e1, List.append_assoc]⟩, fun a ha => ?_, fun a ha => ?_, fun a ha => o2 a (o1 a ha)⟩
  · rcases h2 a ha with z | z
    · exact h1 a z
    · exact .inr (x.back z)
  · rcases k2 a ha with z | z
    · exact k1 a z
    · exact .inr (x.back z)
theorem rd_dom {a : Addr} {u : HO} (r : Rd H a u) : H a ≠ none := by
  rcases r with e | ⟨o, e⟩ <;> rw [e] <;> simp
theorem Ext.rd (x : Ext ι H H') {a : Addr} {us : List V} (r : Rd H a (.lst us)) (n : a ∉ ι.i) : Rd H' a (.lst us) := by
  rcases r with e | ⟨o, e⟩
  · exact .inl (x.keep _ _ e (fun ps => by simp) n)
  · exact .inr ⟨o, x.frz _ _ _ e⟩
theorem Ext.sqt (x : Ext ι H H') {a : Addr} {us : List V} (r : SqT K H a us) : SqT K H' a us := by
  rcases r with (e | ⟨o, e⟩) | e
  · exact .inl (.inl (x.tup _ _ e))
  · exact .inl (.inr ⟨o, x.frz _ _ _ e⟩)
  · exact .inr e
theorem LstAt.mono (x : Ext ι H H') (g : Grow ι H ι') {a : Addr} {us : List V} (h : LstAt K H ι a us) : LstAt K H' ι' a us :=
  h.elim (fun z => .inl ⟨x.rd z.1 (fun w => z.2 (List.mem_append_left _ w)), g.out z.2 (rd_dom z.1)⟩) .inr
theorem LstAt.less (hs : ∀ a, a ∈ ι'.all → a ∈ ι.all) {a : Addr} {us : List V} (h : LstAt K H ι a us) : LstAt K H ι' a us :=
  h.elim (fun z => .inl ⟨z.1, fun w => z.2 (hs _ w)⟩) .inr
mutual
theorem Dq.mono (x : Ext ι H H') (g : Grow ι H ι') : ∀ {u : V} {d : D}, Dq K H ι u d → Dq K H' ι' u d
  | _, _, .non => .non
  | _, _, .bl b => .bl b
  | _, _, .int i => .int i
  | _, _, .str z h => .str z h
  | _, _, .lst r h => .lst (r.mono x g) (DqAll.mono x g h)
  | _, _, .tup r h => .tup (x.sqt r) (DqAll.mono x g h)
theorem DqAll.mono (x : Ext ι H H') (g : Grow ι H ι') : ∀ {us : List V} {ds : List D}, DqAll K H ι us ds → DqAll K H' ι' us ds
  | _, _, .nil => .nil
  | _, _, .cons h t => .cons (Dq.mono x g h) (DqAll.mono x g t)
end
def Lv.flat (l : Lv) : Lv := ⟨l.all, []⟩
theorem Ext.flat (x : Ext ι H H') : Ext ι.flat H H' := ⟨fun a o e n hn => x.keep a o e n fun z => hn (List.mem_append_left _ z), x.tup, x.frz, x.dom⟩
theorem LstAt.monoW (x : Ext ι.flat H H') (g : Grow ι H ι') {a : Addr} {us : List V} (h : LstAt K H ι a us) : LstAt K H' ι' a us :=
  h.elim (fun z => .inl ⟨x.rd z.1 (fun w => z.2 w), g.out z.2 (rd_dom z.1)⟩) .inr
mutual
theorem Dq.monoW (x : Ext ι.flat H H') (g : Grow ι H ι') : ∀ {u : V} {d : D}, Dq K H ι u d → Dq K H' ι' u d
  | _, _, .non => .non
  | _, _, .bl b => .bl b
  | _, _, .int i => .int i
  | _, _, .str z h => .str z h
  | _, _, .lst r h => .lst (r.monoW x g) (DqAll.monoW x g h)
  | _, _, .tup r h => .tup (x.sqt r) (DqAll.monoW x g h)
theorem DqAll.monoW (x : Ext ι.flat H H') (g : Grow ι H ι') : ∀ {us : List V} {ds : List D}, DqAll K H ι us ds → DqAll K H' ι' us ds
  | _, _, .nil => .nil
  | _, _, .cons h t => .cons (Dq.monoW x g h) (DqAll.monoW x g t)
end
mutual
theorem Dq.less (hs : ∀ a, a ∈ ι'.all → a ∈ ι.all) : ∀ {u : V} {d : D}, Dq K H ι u d → Dq K H ι' u d
  | _, _, .non => .non
  | _, _, .bl b => .bl b
  | _, _, .int i => .int i
  | _, _, .str z h => .str z h
  | _, _, .lst r h => .lst (r.less hs) (DqAll.less hs h)
  | _, _, .tup r h => .tup r (DqAll.less hs h)
theorem DqAll.less (hs : ∀ a, a ∈ ι'.all → a ∈ ι.all) : ∀ {us : List V} {ds : List D}, DqAll K H ι us ds → DqAll K H ι' us ds
  | _, _, .nil => .nil
  | _, _, .cons h t => .cons (Dq.less hs h) (DqAll.less hs t)
end
theorem DqAll.length : ∀ {us : List V} {ds : List D}, DqAll K H ι us ds → us.length = ds.length
  | _, _, .nil => rfl
  | _, _, .cons _ t => by simp [t.length]
theorem DqAll.append : ∀ {us ws : List V} {ds es : List D}, DqAll K H ι us ds → DqAll K H ι ws es → DqAll K H ι (us ++ ws) (ds ++ es)
  | _, _, _, _, .nil, s => s
  | _, _, _, _, .cons h t, s => .cons h (t.append s)
theorem DqAll.get : ∀ {us : List V} {ds : List D} {i : Nat} {d : D}, DqAll K H ι us ds → ds[i]? = some d → ∃ u, us[i]? = some u ∧ Dq K H ι u d
  | _, _, _, _, .nil, e => by simp at e
  | _, _, 0, _, .cons h t, e => by simp at e; subst e; exact ⟨_, rfl, h⟩
  | _, _, i + 1, d, .cons h t, e => by
    obtain ⟨u, e1, q⟩ := DqAll.get (i := i) (d := d) t (by simpa using e)
    exact ⟨u, by simpa using e1, q⟩
theorem DqAll.set {v : V} {d : D} (h : Dq K H ι v d) : ∀ {us : List V} {ds : List D} (i : Nat), DqAll K H ι us ds → DqAll K H ι (us.set i v) (ds.set i d)
  | _, _, _, .nil => .nil
  | _, _, 0, .cons _ t => .cons h t
  | _, _, i + 1, .cons q t => .cons q (DqAll.set h i t)
theorem DqAll.take : ∀ {us : List V} {ds : List D} (n : Nat), DqAll K H ι us ds → DqAll K H ι (us.take n) (ds.take n)
  | _, _, 0, _ => .nil
  | _, _, _ + 1, .nil => .nil
  | _, _, n + 1, .cons h t => .cons h (DqAll.take n t)
theorem DqAll.drop : ∀ {us : List V} {ds : List D} (n : Nat), DqAll K H ι us ds → DqAll K H ι (us.drop n) (ds.drop n)
  | _, _, 0, r => r
  | _, _, _ + 1, .nil => .nil
  | _, _, n + 1, .cons h t => DqAll.drop n t
theorem DqAll.cut {us : List V} {ds : List D} (h : DqAll K H ι us ds) (lo hi : Option Int) : DqAll K H ι (cutV us lo hi) (Mi.cut ds lo hi) := by
  unfold cutV Mi.cut
  rw [h.length]
  exact (h.drop _).take _
theorem DqAll.reverse : ∀ {us : List V} {ds : List D}, DqAll K H ι us ds → DqAll K H ι us.reverse ds.reverse
  | _, _, .nil => .nil
  | _, _, .cons h t => by
    rw [List.reverse_cons, List.reverse_cons]
    exact t.reverse.append (.cons h .nil)
theorem DqAll.rep {us : List V} {ds : List D} (h : DqAll K H ι us ds) : ∀ n : Nat, DqAll K H ι (List.replicate n us).flatten (List.replicate n ds).flatten
  | 0 => .nil
  | n + 1 => by
    rw [List.replicate_succ, List.replicate_succ, List.flatten_cons, List.flatten_cons]
    exact h.append (h.rep n)
mutual
theorem Dq.dp : ∀ {u : V} {d : D}, Dq K H ι u d → Dp K H u d
  | _, _, .non => .non
  | _, _, .bl b => .bl b
  | _, _, .int i => .int i
  | _, _, .str z h => .str z
  | _, _, .lst r h => .lst r.sql (DqAll.dp h)
  | _, _, .tup r h => .tup r (DqAll.dp h)
theorem DqAll.dp : ∀ {us : List V} {ds : List D}, DqAll K H ι us ds → DpAll K H us ds
  | _, _, .nil => .nil
  | _, _, .cons h t => .cons (Dq.dp h) (DqAll.dp t)
end
mutual
theorem Dq.lay : ∀ {u : V} {d : D}, Dq K H ι u d → d.canLay0 = true
  | _, _, .non => rfl
  | _, _, .bl b => rfl
  | _, _, .int i => rfl
  | _, _, .str z h => h
  | _, _, .lst r h => by
    show PyData.canLayAll0 _ = true
    exact DqAll.lay h
  | _, _, .tup r h => by
    show PyData.canLayAll0 _ = true
    exact DqAll.lay h
theorem DqAll.lay : ∀ {us : List V} {ds : List D}, DqAll K H ι us ds → PyData.canLayAll0 ds = true
  | _, _, .nil => rfl
  | _, _, .cons h t => by
    show (_ && _) = true
    rw [Dq.lay h, DqAll.lay t]
    rfl
end
/-- u tells x now -/
def Dw (K : Frag) (H : Hp) (ι : Lv) (u : V) (x : D) : Prop :=
  Dq K H ι u x ∨ ∃ (a : Addr) (us : List V) (xs : List D), u = .ref a ∧ x = .list xs ∧ H a = some (.lst us) ∧ DqAll K H ι us xs
theorem Dw.dp {u : V} {x : D} (h : Dw K H ι u x) : Dp K H u x := by
  rcases h with h | ⟨a, us, xs, rfl, rfl, e, h⟩
  · exact h.dp
  · exact .lst (.inl (.inl e)) h.dp
theorem Dw.lay {u : V} {x : D} (h : Dw K H ι u x) : x.canLay0 = true := by
  rcases h with h | ⟨a, us, xs, rfl, rfl, e, h⟩
  · exact h.lay
  · exact h.lay
theorem Dw.list {u : V} {xs : List D} (h : Dw K H ι u (.list xs)) : ∃ a us, u = .ref a ∧ SqL K H a us ∧ DqAll K H ι us xs := by
  rcases h with h | ⟨a, us, ys, rfl, e2, e, h⟩
  · cases h with
    | lst r h => exact ⟨_, _, rfl, r.sql, h⟩
  · cases e2
    exact ⟨a, us, rfl, .inl (.inl e), h⟩
theorem Dw.tuple {u : V} {xs : List D} (h : Dw K H ι u (.tuple xs)) : ∃ a us, u = .ref a ∧ SqT K H a us ∧ DqAll K H ι us xs ∧ Dq K H ι u (.tuple xs) := by
  rcases h with h | ⟨a, us, ys, rfl, e2, e, h⟩
  · cases h with
    | tup r h => exact ⟨_, _, rfl, r, h, .tup r h⟩
  · cases e2
theorem Dw.int {u : V} {i : Int} (h : Dw K H ι u (.int i)) : u = .int i := by
  rcases h with h | ⟨a, us, ys, rfl, e2, e, h⟩
  · cases h; rfl
  · cases e2
theorem Dw.bl {u : V} {i : Bool} (h : Dw K H ι u (.bool i)) : u = .bl i := by
  rcases h with h | ⟨a, us, ys, rfl, e2, e, h⟩
  · cases h; rfl
  · cases e2
theorem Dw.non {u : V} (h : Dw K H ι u .none) : u = .non := by
  rcases h with h | ⟨a, us, ys, rfl, e2, e, h⟩
  · cases h; rfl
  · cases e2
theorem Dw.str {u : V} {x : Str} (h : Dw K H ι u (.str x)) : u = .str x ∧ PyData.strOk x = true := by
  rcases h with h | ⟨a, us, ys, rfl, e2, e, h⟩
  · cases h with
    | str _ h => exact ⟨rfl, h⟩
  · cases e2
theorem Dq.dw {u : V} {x : D} (h : Dq K H ι u x) : Dw K H ι u x := .inl h

def RV (K : Frag) (H : Hp) (ι : Lv) : Val → V → Prop
  | .d x, u => Dq K H ι u x
  | .ref n, u => ∃ a, ι.i[n]? = some a ∧ u = .ref a
  | .clo _ _, _ => False
inductive RVs (K : Frag) (H : Hp) (ι : Lv) : List Val → List V → Prop
  | nil : RVs K H ι [] []
  | cons {v : Val} {vs : List Val} {u : V} {us : List V} : RV K H ι v u → RVs K H ι vs us → RVs K H ι (v :: vs) (u :: us)
theorem RV.mono (x : Ext ι H H') (g : Grow ι H ι') {v : Val} {u : V} (h : RV K H ι v u) : RV K H' ι' v u := by
  cases v with
  | d y => exact Dq.mono x g h
  | ref n =>
    obtain ⟨a, e, rfl⟩ := h
    obtain ⟨more, g⟩ := g.pre
    refine ⟨a, ?_, rfl⟩
    rw [g, List.getElem?_append_left (List.getElem?_eq_some_iff.mp e).1]
    exact e
  | clo k c => exact h.elim
theorem RVs.mono (x : Ext ι H H') (g : Grow ι H ι') : ∀ {vs : List Val} {us : List V}, RVs K H ι vs us → RVs K H' ι' vs us
  | _, _, .nil => .nil
  | _, _, .cons h t => .cons (h.mono x g) (t.mono x g)
theorem RVs.length : ∀ {vs : List Val} {us : List V}, RVs K H ι vs us → vs.length = us.length
  | _, _, .nil => rfl
  | _, _, .cons _ t => by simp [t.length]
theorem RVs.get : ∀ {vs : List Val} {us : List V} {i : Nat} {v : Val}, RVs K H ι vs us → vs[i]? = some v → ∃ u, us[i]? = some u ∧ RV K H ι v u
  | _, _, _, _, .nil, e => by simp at e
  | _, _, 0, _, .cons h t, e => by simp at e; subst e; exact ⟨_, rfl, h⟩
  | _, _, i + 1, d, .cons h t, e => by
    obtain ⟨u, e1, q⟩ := RVs.get (i := i) (v := d) t (by simpa using e)
    exact ⟨u, by simpa using e1, q⟩
structure CellR (K : Frag) (H : Hp) (ι : Lv) (st : Store) : Prop where
  len : st.length = ι.i.length
  nd : ι.i.Nodup
  xs : ∀ a ∈ ι.x, H a ≠ none
  ix : ∀ a ∈ ι.x, a ∉ ι.i
  at_ : ∀ (n : Nat) (xs : List D) (a : Addr), st[n]? = some (Cell.lst xs) → ι.i[n]? = some a → ∃ us, H a = some (.lst us) ∧ DqAll K H ι us xs
theorem CellR.same (h : Same H H') {st : Store} (c : CellR K H ι st) : CellR K H' ι st := ⟨c.len, c.nd, fun a ha => (Ext.of (ι := ι) h).dom a (c.xs a ha), c.ix, fun n xs a e1 e2 => by
  obtain ⟨us, e, q⟩ := c.at_ n xs a e1 e2
  exact ⟨us, h _ _ e, q.mono (Ext.of h) (Grow.refl _ _)⟩⟩
structure EnvR (K : Frag) (H : Hp) (ι : Lv) (env : Env) (σ : St) : Prop where
  len : env.length = σ.length
  at_ : ∀ (i : Nat) (v : Val), env[i]? = some (some v) → ∃ u, σ[i]? = some (some u) ∧ RV K H ι v u
theorem EnvR.mono (x : Ext ι H H') (g : Grow ι H ι') {env : Env} {σ : St} (h : EnvR K H ι env σ) : EnvR K H' ι' env σ := ⟨h.len, fun i v e => by
  obtain ⟨u, e1, r⟩ := h.at_ i v e
  exact ⟨u, e1, r.mono x g⟩⟩
theorem EnvR.mono' (x : Ext ι H H') {env : Env} {σ : St} (h : EnvR K H ι env σ) : EnvR K H' ι env σ := h.mono x (Grow.refl _ _)
theorem EnvR.set {env : Env} {σ : St} (h : EnvR K H ι env σ) (i : Nat) {v : Val} {u : V} (r : RV K H ι v u) : EnvR K H ι (env.set i (some v)) (σ.set i (some u)) := by
  refine ⟨by rw [List.length_set, List.length_set]; exact h.len, fun j w e => ?_⟩
  by_cases hj : i = j
  · subst hj
    have hl : i < env.length := by
      have q := (List.getElem?_eq_some_iff.mp e).1
      rwa [List.length_set] at q
    rw [List.getElem?_set_self hl] at e
    cases e
    exact ⟨u, by rw [List.getElem?_set_self (by rw [← h.len]; exact hl)], r⟩
  · rw [List.getElem?_set_ne hj] at e ⊢
    exact h.at_ j w e
theorem EnvR.unset {env : Env} {σ : St} (h : EnvR K H ι env σ) (i : Nat) : EnvR K H ι (env.set i none) (σ.set i none) := by
  refine ⟨by rw [List.length_set, List.length_set]; exact h.len, fun j w e => ?_⟩
  by_cases hj : i = j
  · subst hj
    have hl : i < env.length := by
      have q := (List.getElem?_eq_some_iff.mp e).1
      rwa [List.length_set] at q
    rw [List.getElem?_set_self hl] at e
    cases e
  · rw [List.getElem?_set_ne hj] at e ⊢
    exact h.at_ j w e
theorem EnvR.wipe {env : Env} {σ : St} (h : EnvR K H ι env σ) : ∀ own : List Nat, EnvR K H ι (wipeE env own) (wipe σ own)
  | [] => h
  | v :: vs => (h.wipe vs).unset v
theorem vw_dw {st : Store} {v : Val} {u : V} {x : D} (c : CellR K H ι st) (r : RV K H ι v u) (h : vw st v = some x) : Dw K H ι u x := by
  cases v with
  | d y => cases h; exact .inl r
  | ref n =>
    obtain ⟨a, e, rfl⟩ := r
    unfold vw at h
    dsimp only at h
    cases q : st[n]? with
    | none => rw [q] at h; cases h
    | some c' =>
      rw [q] at h
      cases c' with
      | lst xs =>
        cases h
        obtain ⟨us, e1, q1⟩ := c.at_ n xs a q e
        exact .inr ⟨a, us, xs, rfl, rfl, e1, q1⟩
  | clo k cs => exact r.elim

/-- how an exception lies (by its class's name, its field) -/
abbrev XR := Exn → Value → Option Addr → Hp → Prop
theorem same_upd {H : Hp} {p : Addr} {o : HO} (h : H p = none) : Same H (upd H p o) := fun b u e => by
  rw [upd_ne (ne_of_none e h)]
  exact e
theorem CellR.dom {K : Frag} {H : Hp} {ι : Lv} {st : Store} (c : CellR K H ι st) : ∀ a ∈ ι.all, H a ≠ none := fun a ha => by
  rcases List.mem_append.mp ha with ha | ha
  case inr => exact c.xs a ha
  obtain ⟨n, hn, e⟩ := List.mem_iff_getElem.mp ha
  have hs : n < st.length := by rw [c.len]; exact hn
  obtain ⟨us, q, _⟩ := c.at_ n _ a (by rw [List.getElem?_eq_getElem hs]) (by rw [List.getElem?_eq_getElem hn, e])
  rw [q]
  simp
theorem cell_new {K : Frag} {H : Hp} {ι : Lv} {st : Store} {p : Addr} {o : HO} (c : CellR K H ι st) (hp : H p = none) : CellR K (upd H p o) ⟨ι.i, p :: ι.x⟩ st ∧ Grow ι H ⟨ι.i, p :: ι.x⟩ := by
  have g : Grow ι H ⟨ι.i, p :: ι.x⟩ := ⟨⟨[], by simp⟩, fun a ha => by
    rcases List.mem_append.mp ha with z | z
    · exact .inl (List.mem_append_left _ z)
    · rcases List.mem_cons.mp z with z | z
      · exact .inr (z ▸ hp)
      · exact .inl (List.mem_append_right _ z), fun a ha => .inl ha, fun a ha => by
    rcases List.mem_append.mp ha with z | z
    · exact List.mem_append_left _ z
    · exact List.mem_append_right _ (List.mem_cons_of_mem _ z)⟩
  refine ⟨⟨c.len, c.nd, fun a ha => ?_, fun a ha => ?_, fun n xs a e1 e2 => ?_⟩, g⟩
  · rcases List.mem_cons.mp ha with z | z
    · rw [z, upd_same]; simp
    · have q := c.xs a z
      rw [upd_ne (fun w : a = p => q (by rw [w]; exact hp))]
      exact q
  · rcases List.mem_cons.mp ha with z | z
    · intro w
      exact c.dom p (z ▸ List.mem_append_left _ w) hp
    · exact c.ix a z
  · obtain ⟨us, e3, d⟩ := c.at_ n xs a e1 e2
    exact ⟨us, same_upd hp _ _ e3, d.mono (Ext.of (same_upd hp)) g⟩
/-- a new list that nothing names, if it is said -/
def FreshN (K : Frag) (ι : Lv) (fr : Bool) (z : D) (u : V) (H H' : Hp) : Prop := fr = true → ∀ (a : Addr) (xs : List D), z = .list xs → u = .ref a → H a = none ∧ ∃ us, H' = upd H a (.lst us) ∧ DqAll K H ι us xs
def FreshP (K : Frag) (ι : Lv) (st : Store) (fr : Bool) (v : Val) (u : V) (H H' : Hp) : Prop := fr = true → ∀ (a : Addr) (xs : List D), v = .d (.list xs) → u = .ref a → H a = none ∧ ∃ us, H' a = some (.lst us) ∧ CellR K H' ⟨ι.i, a :: ι.x⟩ st ∧ DqAll K H' ⟨ι.i, a :: ι.x⟩ us xs
theorem fresh_no {fr : Bool} {z : D} {u : V} (h : ∀ xs, z ≠ .list xs) : FreshN K ι fr z u H H' := fun _ _ xs e _ => absurd e (h xs)
theorem freshP_no {st : Store} {fr : Bool} {z : D} {u : V} (h : ∀ xs, z ≠ .list xs) : FreshP K ι st fr (.d z) u H H' := fun _ _ xs e _ => by
  injection e with e; exact absurd e (h xs)
theorem fresh_new {fr : Bool} {p : Addr} {us : List V} {ds : List D} (d : DqAll K H ι us ds) (hp : H p = none) : FreshN K ι fr (.list ds) (.ref p) H (upd H p (.lst us)) := fun _ a xs e1 e2 => by
  cases e1
  cases e2
  exact ⟨hp, _, rfl, d⟩
theorem freshP_of {st : Store} {fr : Bool} {z : D} {u : V} (c : CellR K H1 ι st) (x : Ext ι H H1) (h : FreshN K ι fr z u H1 H') : FreshP K ι st fr (.d z) u H H' := fun f a xs e1 e2 => by
  injection e1 with e1
  obtain ⟨h1, us, rfl, d⟩ := h f a xs e1 e2
  obtain ⟨c', g⟩ := cell_new (o := .lst us) c h1
  exact ⟨x.back h1, us, upd_same, c', d.mono (Ext.of (same_upd h1)) g⟩
/-- what is wanted of an expression's outcome -/
def outE (K : Frag) (XX : XR) (W : WX) (ι : Lv) (σ : St) (H : Hp) (fr : Bool) (Q : VK) : R Val → Prop
  | .ok v st' => ∀ u H', RV K H' ι v u → CellR K H' ι st' → Ext ι H H' → FreshP K ι st' fr v u H H' → Q u H'
  | .exc e st' => ∀ cls d H', XX e cls d H' → CellR K H' ι st' → Ext ι H H' → W cls d σ H'
  | .bad => False
def rdE (K : Frag) (XX : XR) (W : WX) (fr : Bool) (m : ME) : TE := fun σ H Q => ∃ ι env st, EnvR K H ι env σ ∧ CellR K H ι st ∧ outE K XX W ι σ H fr Q (m env st)
def outT (K : Frag) (XX : XR) (W : WX) (ι : Lv) (σ : St) (H : Hp) (Q : Bool → Hp → Prop) : R Val → Prop
  | .ok (.d (.bool b)) st' => ∀ H', CellR K H' ι st' → Ext ι H H' → Q b H'
  | .ok _ _ => False
  | .exc e st' => ∀ cls d H', XX e cls d H' → CellR K H' ι st' → Ext ι H H' → W cls d σ H'
  | .bad => False
def rdT (K : Frag) (XX : XR) (W : WX) (m : ME) : TT := fun σ H Q => ∃ ι env st, EnvR K H ι env σ ∧ CellR K H ι st ∧ outT K XX W ι σ H Q (m env st)
def outA (K : Frag) (XX : XR) (W : WX) (ι : Lv) (σ : St) (H : Hp) (Q : List V → Hp → Prop) : R (List Val) → Prop
  | .ok vs st' => ∀ us H', RVs K H' ι vs us → CellR K H' ι st' → Ext ι H H' → Q us H'
  | .exc e st' => ∀ cls d H', XX e cls d H' → CellR K H' ι st' → Ext ι H H' → W cls d σ H'
  | .bad => False
def rdA (K : Frag) (XX : XR) (W : WX) (m : MEs) : TA := fun σ H Q => ∃ ι env st, EnvR K H ι env σ ∧ CellR K H ι st ∧ outA K XX W ι σ H Q (m env st)
theorem PE.imp {X : Cx} {e : Expr} {t t' : TE} (h : PE X e t) (i : ∀ σ H Q, t' σ H Q → t σ H Q) : PE X e t' := ⟨fun pins s σ H Q I q => h.run pins s σ H Q I (i σ H Q q)⟩
theorem PT.imp {X : Cx} {e : Expr} {t t' : TT} (h : PT X e t) (i : ∀ σ H Q, t' σ H Q → t σ H Q) : PT X e t' := ⟨fun pins s σ H Q I q => h.run pins s σ H Q I (i σ H Q q)⟩
theorem PA.imp {X : Cx} {e : List Expr} {t t' : TA} (h : PA X e t) (i : ∀ σ H Q, t' σ H Q → t σ H Q) : PA X e t' := ⟨fun pos pins s σ H Q I q => h.run pos pins s σ H Q I (i σ H Q q)⟩
theorem PS.imp {X : Cx} {e : Stmt} {t t' : TS} (h : PS X e t) (i : ∀ D σ H, t' D σ H → t D σ H) : PS X e t' := ⟨fun pins s σ H D I q => h.run pins s σ H D I (i D σ H q)⟩
theorem PSs.imp {X : Cx} {e : List Stmt} {t t' : TS} (h : PSs X e t) (i : ∀ D σ H, t' D σ H → t D σ H) : PSs X e t' := ⟨fun pins s σ H D I q => h.run pins s σ H D I (i D σ H q)⟩
section
variable {XX : XR} {W : WX} {σ : St} {fr : Bool} {Q : VK}
/-- not fresh is less -/
theorem rdE.frs {m : ME} {Q : VK} (h : rdE K XX W false m σ H Q) : rdE K XX W fr m σ H Q := by
  obtain ⟨ι, env, st, he, hc, ho⟩ := h
  refine ⟨ι, env, st, he, hc, ?_⟩
  generalize m env st = r at ho
  cases r with
  | ok v st' => exact fun u H' rv cr ex _ => ho u H' rv cr ex (fun z => nomatch z)
  | exc e st' => exact ho
  | bad => exact ho
/-- carry on behind a part -/
theorem outE.bind {env : Env} {st : Store} {m : ME} {f : Val → Store → R Val} {Q Q' : VK} {fr' : Bool} (ho : outE K XX W ι σ H fr Q ((m env st).bind f))
    (h : ∀ v st' u H', m env st = .ok v st' → RV K H' ι v u → CellR K H' ι st' → Ext ι H H' → FreshP K ι st' fr' v u H H' → outE K XX W ι σ H fr Q (f v st') → Q' u H') : outE K XX W ι σ H fr' Q' (m env st) := by
  generalize e : m env st = r at ho
  cases r with
  | ok v st' => exact fun u H' rv cr ex hf => h v st' u H' e rv cr ex hf ho
  | exc e st' => exact ho
  | bad => exact ho
/-- from here, the same outcome looked at from a later heap -/
theorem outE.later {r : R Val} (x : Ext ι H H1) (ho : outE K XX W ι σ H fr Q r) : outE K XX W ι σ H1 fr Q r := by
  cases r with
  | ok v st' => exact fun u H' rv cr ex hf => ho u H' rv cr (x.trans' ex) (fun z a xs e1 e => ⟨x.back (hf z a xs e1 e).1, (hf z a xs e1 e).2⟩)
  | exc e st' => exact fun cls d H' q cr ex => ho cls d H' q cr (x.trans' ex)
  | bad => exact ho
theorem outT.later {r : R Val} {Q : Bool → Hp → Prop} (x : Ext ι H H1) (ho : outT K XX W ι σ H Q r) : outT K XX W ι σ H1 Q r := by
  cases r with
  | ok v st' =>
    cases v with
    | d y =>
      cases y with
      | bool b => exact fun H' cr ex => ho H' cr (x.trans' ex)
      | _ => exact ho
    | _ => exact ho
  | exc e st' => exact fun cls d H' q cr ex => ho cls d H' q cr (x.trans' ex)
  | bad => exact ho
theorem outA.later {r : R (List Val)} {Q : List V → Hp → Prop} (x : Ext ι H H1) (ho : outA K XX W ι σ H Q r) : outA K XX W ι σ H1 Q r := by
  cases r with
  | ok v st' => exact fun u H' rv cr ex => ho u H' rv cr (x.trans' ex)
  | exc e st' => exact fun cls d H' q cr ex => ho cls d H' q cr (x.trans' ex)
  | bad => exact ho
end
end Mi
end
section
set_option maxHeartbeats 1000000
namespace Mi
open PySem PySem.Spec PyProof.Rows L2
variable {X : Cx}
/-- an operator that goes by data -/
def rM (K : Frag) (fr : Bool) (f : D → D → Option D) : R2 := fun ux uy H Q => ∃ ι x y z, (∀ a ∈ ι.all, H a ≠ none) ∧ Dw K H ι ux x ∧ Dw K H ι uy y ∧ f x y = some z ∧ ∀ uz H', Dq K H' ι uz z → Same H H' → FreshN K ι fr z uz H H' → Q uz H'
def rM1 (K : Frag) (fr : Bool) (f : D → Option D) : V → Hp → VK → Prop := fun ux H Q => ∃ ι x z, (∀ a ∈ ι.all, H a ≠ none) ∧ Dw K H ι ux x ∧ f x = some z ∧ ∀ uz H', Dq K H' ι uz z → Same H H' → FreshN K ι fr z uz H H' → Q uz H'
theorem OpR.ors {f : Value → Value → Sem Value} {r r' : R2} (h : OpR X f r) (h' : OpR X f r') : OpR X f (fun x y H Q => r x y H Q ∨ r' x y H Q) :=
  fun pins s σ H x y v u Q I rx ry q => q.elim (h pins s σ H x y v u Q I rx ry) (h' pins s σ H x y v u Q I rx ry)
theorem OpR.imp {f : Value → Value → Sem Value} {r r' : R2} (h : OpR X f r) (i : ∀ x y H Q, r' x y H Q → r x y H Q) : OpR X f r' :=
  fun pins s σ H x y v u Q I rx ry q => h pins s σ H x y v u Q I rx ry (i _ _ _ _ q)
theorem same_refl (H : Hp) : Same H H := fun _ _ e => e
/-- a new tuple, a new list -/
theorem new_tup {K : Frag} {H : Hp} {ι : Lv} {p : Addr} {us : List V} {ds : List D} (h : DqAll K H ι us ds) (hp : H p = none) : Dq K (upd H p (.tup us)) ι (.ref p) (.tuple ds) :=
  .tup (.inl (.inl upd_same)) (h.mono (Ext.of (same_upd hp)) (Grow.refl _ _))
theorem new_lst {K : Frag} {H : Hp} {ι : Lv} {p : Addr} {us : List V} {ds : List D} (h : DqAll K H ι us ds) (hp : H p = none) (hn : p ∉ ι.all) : Dq K (upd H p (.lst us)) ι (.ref p) (.list ds) :=
  .lst (.inl ⟨.inl upd_same, hn⟩) (h.mono (Ext.of (same_upd hp)) (Grow.refl _ _))

theorem op_intM {f : Value → Value → Sem Value} {C : Int → Int → Prop} {g : Int → Int → V} {F : D → D → Option D} (h : OpR X f (rI C g))
    (hF : ∀ x y z, F x y = some z → ∃ i j, x = .int i ∧ y = .int j ∧ C i j ∧ (∀ K H ι, Dq K H ι (g i j) z) ∧ ∀ xs, z ≠ .list xs) : OpR X f (rM X.K true F) :=
  OpR.imp h fun ux uy H Q ⟨ι, x, y, z, hι, hx, hy, e, q⟩ => by
    obtain ⟨i, j, rfl, rfl, c, d, nl⟩ := hF x y z e
    exact ⟨i, j, hx.int, hy.int, c, q _ _ (d _ _ _) (same_refl _) (fresh_no nl)⟩
theorem op_int0M {f : Value → Value → Sem Value} {g : Int → Int → V} {F : D → D → Option D} (h : OpR X f (rI0 g))
    (hF : ∀ x y z, F x y = some z → ∃ i j, x = .int i ∧ y = .int j ∧ (∀ K H ι, Dq K H ι (g i j) z) ∧ ∀ xs, z ≠ .list xs) : OpR X f (rM X.K true F) :=
  OpR.imp h fun ux uy H Q ⟨ι, x, y, z, hι, hx, hy, e, q⟩ => by
    obtain ⟨i, j, rfl, rfl, d, nl⟩ := hF x y z e
    exact ⟨i, j, hx.int, hy.int, q _ _ (d _ _ _) (same_refl _) (fresh_no nl)⟩
theorem int_inv {op : B2} (h1 : op = .sub ∨ op = .fdiv ∨ op = .mod ∨ op = .pow ∨ op = .lt ∨ op = .le ∨ op = .gt ∨ op = .ge) {x y z : D} (e : b2 op x y = some z) : ∃ i j, x = .int i ∧ y = .int j ∧ iop op i j = some z := by
  rcases h1 with rfl | rfl | rfl | rfl | rfl | rfl | rfl | rfl <;>
  · unfold b2 at e
    dsimp only at e
    split at e
    · exact ⟨_, _, rfl, rfl, e⟩
    · cases e
theorem m_sub : OpR X (binaryOp .Sub) (rM X.K true (b2 .sub)) := op_int0M op_sub fun x y z e => by
  obtain ⟨i, j, rfl, rfl, e⟩ := int_inv (by simp) e
  cases e
  exact ⟨i, j, rfl, rfl, fun _ _ _ => .int _, by simp⟩
theorem m_fdiv : OpR X (binaryOp .FloorDiv) (rM X.K true (b2 .fdiv)) := op_intM op_fdivW fun x y z e => by
  obtain ⟨i, j, rfl, rfl, e⟩ := int_inv (by simp) e
  dsimp only [b2, iop] at e
  split at e
  · cases e
    exact ⟨i, j, rfl, rfl, by assumption, fun _ _ _ => .int _, by simp⟩
  · cases e
theorem m_mod : OpR X (binaryOp .Mod) (rM X.K true (b2 .mod)) := op_intM op_mod fun x y z e => by
  obtain ⟨i, j, rfl, rfl, e⟩ := int_inv (by simp) e
  dsimp only [b2, iop] at e
  split at e
  · cases e
    exact ⟨i, j, rfl, rfl, by assumption, fun _ _ _ => .int _, by simp⟩
  · cases e
theorem m_pow : OpR X (binaryOp .Pow) (rM X.K true (b2 .pow)) := op_intM op_pow fun x y z e => by
  obtain ⟨i, j, rfl, rfl, e⟩ := int_inv (by simp) e
  dsimp only [b2, iop] at e
  split at e
  · cases e
    exact ⟨i, j, rfl, rfl, by assumption, fun _ _ _ => .int _, by simp⟩
  · cases e
theorem m_lt : OpR X (compareOp .Lt) (rM X.K true (b2 .lt)) := op_int0M op_lt fun x y z e => by
  obtain ⟨i, j, rfl, rfl, e⟩ := int_inv (by simp) e
  cases e
  exact ⟨i, j, rfl, rfl, fun _ _ _ => .bl _, by simp⟩
theorem m_le : OpR X (compareOp .LtE) (rM X.K true (b2 .le)) := op_int0M op_le fun x y z e => by
  obtain ⟨i, j, rfl, rfl, e⟩ := int_inv (by simp) e
  cases e
  exact ⟨i, j, rfl, rfl, fun _ _ _ => .bl _, by simp⟩
theorem m_gt : OpR X (compareOp .Gt) (rM X.K true (b2 .gt)) := op_int0M op_gt fun x y z e => by
  obtain ⟨i, j, rfl, rfl, e⟩ := int_inv (by simp) e
  cases e
  exact ⟨i, j, rfl, rfl, fun _ _ _ => .bl _, by simp⟩
theorem m_ge : OpR X (compareOp .GtE) (rM X.K true (b2 .ge)) := op_int0M op_ge fun x y z e => by
  obtain ⟨i, j, rfl, rfl, e⟩ := int_inv (by simp) e
  cases e
  exact ⟨i, j, rfl, rfl, fun _ _ _ => .bl _, by simp⟩
def rCatR (K : Frag) : R2 := fun x y H Q => ∃ l b xs zs, x = .ref l ∧ y = .ref b ∧ SqL K H l xs ∧ SqL K H b zs ∧ xs.length + zs.length ≤ sizeLine ∧ ∀ p, H p = none → Q (.ref p) (upd H p (.lst (xs ++ zs)))
theorem op_catR : OpR X (binaryOp .Add) (rCatR X.K) := fun pins s σ H x y v u Q I rx ry h => by
  obtain ⟨l, b, xs, zs, e1, e2, hH, hB, hz, q⟩ := h
  subst e1 e2
  cases rx
  cases ry
  obtain ⟨its, r, ⟨⟨cls, dd, data, sl⟩, n, ho, hc, hd1, hd⟩, hl⟩ := I.list hH
  obtain ⟨its2, r2, ⟨⟨cls2, dd2, data2, sl2⟩, n2, ho2, hc2, hd3, hd2⟩, hl2⟩ := I.list hB
  simp only at hc hd hc2 hd2
  subst hc hd hc2 hd2
  have done : EP X pins σ Q (.ref s.heap.objs.size) _ := ⟨.ref _, _, I.lnew (t' := s.toks) (r.append r2) (by rw [List.length_append]; exact hz), rfl, q _ I.fresh⟩
  rw [show (its ++ its2).toArray = its.toArray ++ its2.toArray by simp] at done
  exact concat_meets ⟨_, ho, rfl⟩ ⟨_, ho2, rfl⟩ noFill_list_add seq_list_add PySem.F.slot_list_add PySem.F.entry_list_add (PySem.F.args_list_add_2 _ _)
    (list_addW l b its.toArray its2.toArray n n2 dd dd2 sl sl2 (by rw [List.size_toArray, List.size_toArray, ← r.length, ← r2.length]; exact hz)) ⟨ho, ho2, done⟩
theorem strOk_append {s t : Str} (h : PyData.strOk s = true) (h' : PyData.strOk t = true) : PyData.strOk (s ++ t) = true := by
  unfold PyData.strOk at *
  show (s.cps ++ t.cps).all _ = true
  rw [Array.all_append, h, h']
  rfl
theorem m_add : OpR X (binaryOp .Add) (rM X.K true (b2 .add)) := by
  refine OpR.imp (OpR.ors (OpR.ors op_add op_add_str) (OpR.ors op_catA op_catR)) fun ux uy H Q ⟨ι, x, y, z, hι, hx, hy, e, q⟩ => ?_
  unfold b2 at e
  dsimp only at e
  split at e
  · cases e
    exact .inl (.inl ⟨_, _, hx.int, hy.int, q _ _ (.int _) (same_refl _) (fresh_no (by simp))⟩)
  · split at e
    · cases e
      obtain ⟨e1, k1⟩ := hx.str
      obtain ⟨e2, k2⟩ := hy.str
      exact .inl (.inr ⟨_, _, e1, e2, by assumption, q _ _ (.str _ (strOk_append k1 k2)) (same_refl _) (fresh_no (by simp))⟩)
    · cases e
  · split at e
    · cases e
      obtain ⟨a, us, rfl, r1, d1, t1⟩ := hx.tuple
      obtain ⟨b, ws, rfl, r2, d2, t2⟩ := hy.tuple
      have l1 := d1.length
      have l2 := d2.length
      refine .inr (.inl ⟨a, b, us, ws, rfl, rfl, r1, r2, by omega, fun h0 => ?_, fun h0 h1 => ?_, fun h0 h1 p hp => ?_⟩)
      · subst h0
        cases d1
        exact q _ _ t2 (same_refl _) (fresh_no (by simp))
      · subst h1
        cases d2
        rw [List.append_nil] at q
        exact q _ _ t1 (same_refl _) (fresh_no (by simp))
      · exact q _ _ (new_tup (d1.append d2) hp) (same_upd hp) (fresh_no (by simp))
    · cases e
  · split at e
    · cases e
      obtain ⟨a, us, rfl, r1, d1⟩ := hx.list
      obtain ⟨b, ws, rfl, r2, d2⟩ := hy.list
      have l1 := d1.length
      have l2 := d2.length
      refine .inr (.inr ⟨a, b, us, ws, rfl, rfl, r1, r2, by omega, fun p hp => ?_⟩)
      exact q _ _ (new_lst (d1.append d2) hp (fun z => hι p z hp)) (same_upd hp) (fresh_new (d1.append d2) hp)
    · cases e
  · cases e
theorem m_mul : OpR X (binaryOp .Mult) (rM X.K true (b2 .mul)) := by
  refine OpR.imp (OpR.ors op_mulW op_repT) fun ux uy H Q ⟨ι, x, y, z, hι, hx, hy, e, q⟩ => ?_
  unfold b2 at e
  dsimp only at e
  split at e
  · dsimp only [iop] at e
    split at e
    · cases e
      exact .inl ⟨_, _, hx.int, hy.int, by assumption, q _ _ (.int _) (same_refl _) (fresh_no (by simp))⟩
    · cases e
  · split at e
    · rename_i h
      cases e
      obtain ⟨a, us, rfl, r1, d1, t1⟩ := hx.tuple
      have l1 := d1.length
      refine .inr ⟨a, _, us, rfl, hy.int, r1, fun z => h.1 ?_, h.2.1, h.2.2.1, by omega, fun p hp => ?_⟩
      · subst z
        cases d1
        rfl
      · exact q _ _ (new_tup (d1.rep _) hp) (same_upd hp) (fresh_no (by simp))
    · cases e
  · cases e
theorem shaped_of {K : Frag} {H : Hp} {ι : Lv} {u : V} {x : D} (h : Dw K H ι u x) (s : shp x = true) : SeqAt.shaped x = true := by
  unfold SeqAt.shaped
  rw [h.lay]
  exact s
theorem m_eq (hu : X.A.units + 64 < cLine) : OpR X (compareOp .Eq) (rM X.K true (b2 .eq)) := OpR.imp (op_eqD hu) fun ux uy H Q ⟨ι, x, y, z, hι, hx, hy, e, q⟩ => by
  dsimp only [b2] at e
  split at e
  · rename_i h
    cases e
    rw [Bool.and_eq_true] at h
    exact ⟨x, y, hx.dp, hy.dp, shaped_of hx h.1, shaped_of hy h.2, q _ _ (.bl _) (same_refl _) (fresh_no (by simp))⟩
  · cases e
theorem m_ne (hu : X.A.units + 64 < cLine) : OpR X (compareOp .NotEq) (rM X.K true (b2 .ne)) := OpR.imp (op_neD hu) fun ux uy H Q ⟨ι, x, y, z, hι, hx, hy, e, q⟩ => by
  dsimp only [b2] at e
  split at e
  · rename_i h
    cases e
    rw [Bool.and_eq_true] at h
    exact ⟨x, y, hx.dp, hy.dp, shaped_of hx h.1, shaped_of hy h.2, q _ _ (.bl _) (same_refl _) (fresh_no (by simp))⟩
  · cases e
def rInTD (K : Frag) : R2 := fun x y H Q => ∃ d ds, Dp K H x d ∧ Dp K H y (.tuple ds) ∧ SeqAt.shaped d = true ∧ SeqAt.shaped (.tuple ds) = true ∧ Q (.bl (ds.any fun z => PyData.eqv z d)) H
def rNotInTD (K : Frag) : R2 := fun x y H Q => ∃ d ds, Dp K H x d ∧ Dp K H y (.tuple ds) ∧ SeqAt.shaped d = true ∧ SeqAt.shaped (.tuple ds) = true ∧ Q (.bl (!ds.any fun z => PyData.eqv z d)) H
theorem op_inTD (hu : X.A.units + 65 < cLine) : OpR X (compareOp .In) (rInTD X.K) := by
  intro pins s σ H x y v u Q I rx ry h
  obtain ⟨d, ds, hd, he, sd, se, q⟩ := h
  obtain ⟨as, r1⟩ := Dp.reads I d x v hd rx
  obtain ⟨bs, r2⟩ := Dp.reads I (.tuple ds) y u he ry
  exact SeqAt.in_tuple_reads r2 r1 (SeqAt.canLay_of_shaped se) (SeqAt.canLay_of_shaped sd) (room_in_shaped sd hu) ⟨.bl _, H, I, rfl, q⟩
theorem op_notInTD (hu : X.A.units + 65 < cLine) : OpR X (compareOp .NotIn) (rNotInTD X.K) := by
  intro pins s σ H x y v u Q I rx ry h
  obtain ⟨d, ds, hd, he, sd, se, q⟩ := h
  obtain ⟨as, r1⟩ := Dp.reads I d x v hd rx
  obtain ⟨bs, r2⟩ := Dp.reads I (.tuple ds) y u he ry
  exact SeqAt.notIn_tuple_reads r2 r1 (SeqAt.canLay_of_shaped se) (SeqAt.canLay_of_shaped sd) (room_in_shaped sd hu) ⟨.bl _, H, I, rfl, q⟩
theorem shapedL {K : Frag} {H : Hp} {ι : Lv} {u : V} {y : D} {ys : List D} (h : Dw K H ι u y) (e : items y = some ys) (s : shpL ys = true) : SeqAt.shaped y = true := by
  refine shaped_of h ?_
  have s' : PyData.depthAll ys ≤ 63 := of_decide_eq_true s
  unfold shp
  refine decide_eq_true ?_
  unfold items at e
  split at e
  · cases e
    show PyData.depthAll _ + 1 ≤ 64
    omega
  · cases e
    show PyData.depthAll _ + 1 ≤ 64
    omega
  · cases e
theorem items_inv {y : D} {ys : List D} (e : items y = some ys) : y = .list ys ∨ y = .tuple ys := by
  unfold items at e
  split at e
  · cases e; exact .inl rfl
  · cases e; exact .inr rfl
  · cases e
theorem m_in (hu : X.A.units + 65 < cLine) : OpR X (compareOp .In) (rM X.K true (b2 .inn)) := OpR.imp (OpR.ors (op_inD hu) (op_inTD hu)) fun ux uy H Q ⟨ι, x, y, z, hι, hx, hy, e, q⟩ => by
  dsimp only [b2] at e
  split at e
  · rename_i ys hi
    split at e
    · rename_i h
      cases e
      rw [Bool.and_eq_true] at h
      rcases items_inv hi with rfl | rfl
      · exact .inl ⟨x, ys, hx.dp, hy.dp, shaped_of hx h.1, shapedL hy hi h.2, q _ _ (.bl _) (same_refl _) (fresh_no (by simp))⟩
      · exact .inr ⟨x, ys, hx.dp, hy.dp, shaped_of hx h.1, shapedL hy hi h.2, q _ _ (.bl _) (same_refl _) (fresh_no (by simp))⟩
    · cases e
  · cases e
theorem m_notin (hu : X.A.units + 65 < cLine) : OpR X (compareOp .NotIn) (rM X.K true (b2 .notin)) := OpR.imp (OpR.ors (op_notInD hu) (op_notInTD hu)) fun ux uy H Q ⟨ι, x, y, z, hι, hx, hy, e, q⟩ => by
  dsimp only [b2] at e
  split at e
  · rename_i ys hi
    split at e
    · rename_i h
      cases e
      rw [Bool.and_eq_true] at h
      rcases items_inv hi with rfl | rfl
      · exact .inl ⟨x, ys, hx.dp, hy.dp, shaped_of hx h.1, shapedL hy hi h.2, q _ _ (.bl _) (same_refl _) (fresh_no (by simp))⟩
      · exact .inr ⟨x, ys, hx.dp, hy.dp, shaped_of hx h.1, shapedL hy hi h.2, q _ _ (.bl _) (same_refl _) (fresh_no (by simp))⟩
    · cases e
  · cases e
end Mi
end
section
set_option maxHeartbeats 1000000
namespace Mi
open PySem PySem.Spec PyProof.Rows L2
theorem FreshP.weak {K : Frag} {ι : Lv} {st : Store} {fr fr' : Bool} {v : Val} {u : V} {H H' : Hp} (h : FreshP K ι st fr v u H H') (i : fr' = true → fr = true) : FreshP K ι st fr' v u H H' := fun z => h (i z)
theorem FreshN.weak {K : Frag} {ι : Lv} {fr fr' : Bool} {v : D} {u : V} {H H' : Hp} (h : FreshN K ι fr v u H H') (i : fr' = true → fr = true) : FreshN K ι fr' v u H H' := fun z => h (i z)
theorem FreshP.back {K : Frag} {ι : Lv} {st : Store} {fr : Bool} {v : Val} {u : V} {H H1 H' : Hp} {ι1 : Lv} (x : Ext ι1 H H1) (h : FreshP K ι st fr v u H1 H') : FreshP K ι st fr v u H H' := fun z a xs e1 e2 => ⟨x.back (h z a xs e1 e2).1, (h z a xs e1 e2).2⟩
theorem FreshP.no {K : Frag} {ι : Lv} {st : Store} {v : Val} {u : V} {H H' : Hp} : FreshP K ι st false v u H H' := fun z => nomatch z
theorem FreshN.no {K : Frag} {ι : Lv} {v : D} {u : V} {H H' : Hp} : FreshN K ι false v u H H' := fun z => nomatch z
section
variable {K : Frag} {XX : XR} {W : WX} {σ : St} {H : Hp} {ι : Lv} {fr fr' : Bool} {Q Q' : VK}
theorem outE.test {env : Env} {st : Store} {m : ME} {f : Bool → Store → R Val} (ho : outE K XX W ι σ H fr Q (mTest m env st f))
    (h : ∀ b st' H', CellR K H' ι st' → Ext ι H H' → outE K XX W ι σ H fr Q (f b st') → Q' (.bl b) H') : outE K XX W ι σ H fr' Q' (m env st) := by
  unfold mTest at ho
  refine outE.bind ho fun v st' u H' e rv cr ex _ ho1 => ?_
  cases v with
  | d y =>
    cases y with
    | bool b =>
      have q : Dq K H' ι u (.bool b) := rv
      cases q
      exact h b st' H' cr ex ho1
    | _ => exact False.elim ho1
  | _ => exact False.elim ho1
theorem outT.test {env : Env} {st : Store} {m : ME} {f : Bool → Store → R Val} {Q Q' : Bool → Hp → Prop} (ho : outT K XX W ι σ H Q (mTest m env st f))
    (h : ∀ b st' H', CellR K H' ι st' → Ext ι H H' → outT K XX W ι σ H Q (f b st') → Q' b H') : outT K XX W ι σ H Q' (m env st) := by
  unfold mTest at ho
  generalize e : m env st = r at ho
  cases r with
  | ok v st' =>
    cases v with
    | d y =>
      cases y with
      | bool b => exact fun H' cr ex => h b st' H' cr ex ho
      | _ => exact ho
    | _ => exact ho
  | exc e st' => exact ho
  | bad => exact ho
theorem rd_op {f : D → D → Option D} {ma mb : ME} {fo fa fb : Bool} (hf : fr = true → fo = true) (h : rdE K XX W fr (mBin f ma mb) σ H Q) : tOp (rM K fo f) (rdE K XX W fa ma) (rdE K XX W fb mb) σ H Q := by
  obtain ⟨ι, env, st, he, hc, ho⟩ := h
  refine ⟨ι, env, st, he, hc, outE.bind ho fun v st1 u H1 e rv cr ex _ ho1 => ?_⟩
  refine ⟨ι, env, st1, he.mono' ex, cr, outE.bind (outE.later ex ho1) fun w st2 u2 H2 e2 rv2 cr2 ex2 _ ho2 => ?_⟩
  have rv' := rv.mono ex2 (Grow.refl _ _)
  cases hx : vw st2 v with
  | none => rw [hx] at ho2; exact False.elim ho2
  | some x =>
    rw [hx, R.of_some] at ho2
    cases hy : vw st2 w with
    | none => rw [hy] at ho2; exact False.elim ho2
    | some y =>
      rw [hy, R.of_some] at ho2
      cases hz : f x y with
      | none => rw [hz] at ho2; exact False.elim ho2
      | some z =>
        rw [hz, R.of_some] at ho2
        exact ⟨ι, x, y, z, cr2.dom, vw_dw cr2 rv' hx, vw_dw cr2 rv2 hy, hz, fun uz H3 dq sm fh => ho2 uz H3 dq (cr2.same sm) (ex2.trans' (Ext.of sm)) (freshP_of cr2 ex2 (fh.weak hf))⟩
theorem rd_un {f : D → Option D} {ma : ME} {fo fa : Bool} (hf : fr = true → fo = true) (h : rdE K XX W fr (mUn f ma) σ H Q) : rdE K XX W fa ma σ H (fun x H1 => rM1 K fo f x H1 Q) := by
  obtain ⟨ι, env, st, he, hc, ho⟩ := h
  refine ⟨ι, env, st, he, hc, outE.bind ho fun v st1 u H1 e rv cr ex _ ho1 => ?_⟩
  cases hx : vw st1 v with
  | none => rw [hx] at ho1; exact False.elim ho1
  | some x =>
    rw [hx, R.of_some] at ho1
    cases hz : f x with
    | none => rw [hz] at ho1; exact False.elim ho1
    | some z =>
      rw [hz, R.of_some] at ho1
      exact ⟨ι, x, z, cr.dom, vw_dw cr rv hx, hz, fun uz H3 dq sm fh => ho1 uz H3 dq (cr.same sm) (ex.trans' (Ext.of sm)) (freshP_of cr ex (fh.weak hf))⟩
theorem rd_test {m : ME} {Q : Bool → Hp → Prop} (h : rdT K XX W m σ H Q) : tB (rdE K XX W false m) σ H Q := by
  obtain ⟨ι, env, st, he, hc, ho⟩ := h
  refine ⟨ι, env, st, he, hc, ?_⟩
  generalize m env st = r at ho
  cases r with
  | ok v st' =>
    cases v with
    | d y =>
      cases y with
      | bool b => exact fun u H' rv cr ex _ => ⟨b, by have q : Dq K H' ι u (.bool b) := rv; cases q; rfl, ho H' cr ex⟩
      | _ => exact False.elim ho
    | _ => exact False.elim ho
  | exc e st' => exact ho
  | bad => exact ho
end

section
variable {X : Cx} {XX : XR} {W : WX} {fr : Bool} {a b c : Expr} {pos p : Pos} {ma mb mc : ME}
/-- the expression e tells m -/
abbrev SE (X : Cx) (XX : XR) (W : WX) (fr : Bool) (e : Expr) (m : ME) : Prop := PE X e (rdE X.K XX W fr m)
abbrev ST (X : Cx) (XX : XR) (W : WX) (e : Expr) (m : ME) : Prop := PT X e (rdT X.K XX W m)
abbrev SA (X : Cx) (XX : XR) (W : WX) (es : List Expr) (m : MEs) : Prop := PA X es (rdA X.K XX W m)
theorem SE.weak {e : Expr} {m : ME} (h : SE X XX W fr e m) : SE X XX W false e m := PE.imp h fun _ _ _ q => q.frs
theorem se_var {i : Nat} {x : Str} (h : PE X (.Name x pos) (tVar i)) : SE X XX W false (.Name x pos) (mVar i) := PE.imp h fun σ H Q ⟨ι, env, st, he, hc, ho⟩ => by
  unfold mVar at ho
  cases e : env[i]? with
  | none => rw [e] at ho; exact False.elim ho
  | some o =>
    cases o with
    | none => rw [e] at ho; exact False.elim ho
    | some v =>
      rw [e] at ho
      obtain ⟨u, e1, r⟩ := he.at_ i v e
      exact ⟨u, e1, ho u H r hc (Ext.refl _ _) FreshP.no⟩
theorem se_cst {e : Expr} {v : V} {d : D} (h : PE X e (tC v)) (hd : ∀ H ι, Dq X.K H ι v d) : SE X XX W false e (fun _ st => .ok (.d d) st) := PE.imp h fun σ H Q ⟨ι, env, st, he, hc, ho⟩ =>
  ho v H (hd H ι) hc (Ext.refl _ _) FreshP.no
theorem se_bin {op : Operator} {f : D → D → Option D} (h : OpR X (binaryOp op) (rM X.K true f)) {fa fb : Bool} (ha : SE X XX W fa a ma) (hb : SE X XX W fb b mb) : SE X XX W fr (.BinOp a op b pos) (mBin f ma mb) :=
  PE.imp (pe_op h ha hb) fun _ _ _ q => rd_op (fun _ => rfl) q
theorem se_cmp {op : CmpOp} {f : D → D → Option D} (h : OpR X (compareOp op) (rM X.K true f)) {fa fb : Bool} (ha : SE X XX W fa a ma) (hb : SE X XX W fb b mb) (hm : behindInMarks op b = false) : SE X XX W fr (.Compare a [op] [b] pos) (mBin f ma mb) :=
  PE.imp (pe_cmpR h ha hb hm) fun _ _ _ q => rd_op (fun _ => rfl) q
theorem test_of {m : ME} {σ : St} {H : Hp} {Q : Bool → Hp → Prop} (h : rdT X.K XX W m σ H Q) : rdE X.K XX W false m σ H (fun x H' => ∃ k, x = .bl k ∧ Q k H') := rd_test h
theorem st_cmp {op : CmpOp} {f : D → D → Option D} (h : OpR X (compareOp op) (rM X.K true f)) {fa fb : Bool} (ha : SE X XX W fa a ma) (hb : SE X XX W fb b mb) (hm : behindInMarks op b = false) : ST X XX W (.Compare a [op] [b] pos) (mBin f ma mb) :=
  PT.imp (pt_cmpR h ha hb hm) fun _ _ _ q => rd_op (fr := false) (fun _ => rfl) (test_of q)
/-- a test of an expression that is none of and, or, not, a comparison -/
theorem st_of {m : ME} (h : SE X XX W false a m) (he : ∀ whole, isTrue a X.env whole = (do let v ← whole; standAt a.pos; holding [v] (truthy v))) : ST X XX W a m :=
  PT.imp (pt_val h he) fun _ _ _ q => rd_test q
theorem se_and {r : List Expr} {b : Expr} {p : Pos} (ha : SE X XX W false a ma) (hb : SE X XX W fr (.BoolOp .And (b :: r) p) mb) : SE X XX W fr (.BoolOp .And (a :: b :: r) p) (mAnd ma mb) :=
  PE.imp (pe_and ha hb) fun σ H Q ⟨ι, env, st, he, hc, ho⟩ => ⟨ι, env, st, he, hc, outE.test ho fun b' st' H' cr ex ho1 => ⟨b', rfl, by
    cases b' with
    | true => exact ⟨ι, env, st', he.mono' ex, cr, outE.later ex ho1⟩
    | false =>
      rw [if_neg Bool.false_ne_true]
      exact ho1 (.bl false) H' (.bl _) cr ex (by first | exact fresh_no (by simp) | exact freshP_no (by simp))⟩⟩
theorem se_or {r : List Expr} {b : Expr} {p : Pos} (ha : SE X XX W false a ma) (hb : SE X XX W fr (.BoolOp .Or (b :: r) p) mb) : SE X XX W fr (.BoolOp .Or (a :: b :: r) p) (mOr ma mb) :=
  PE.imp (pe_or ha hb) fun σ H Q ⟨ι, env, st, he, hc, ho⟩ => ⟨ι, env, st, he, hc, outE.test ho fun b' st' H' cr ex ho1 => ⟨b', rfl, by
    cases b' with
    | false =>
      rw [if_neg Bool.false_ne_true]
      exact ⟨ι, env, st', he.mono' ex, cr, outE.later ex ho1⟩
    | true => exact ho1 (.bl true) H' (.bl _) cr ex (by first | exact fresh_no (by simp) | exact freshP_no (by simp))⟩⟩
theorem se_one {op : BoolOp} {p : Pos} (ha : SE X XX W fr a ma) : SE X XX W fr (.BoolOp op [a] p) ma := pe_one ha
theorem st_and {r : List Expr} {b : Expr} {p : Pos} (ha : ST X XX W a ma) (hb : ST X XX W (.BoolOp .And (b :: r) p) mb) : ST X XX W (.BoolOp .And (a :: b :: r) p) (mAnd ma mb) :=
  PT.imp (PW.pt (pw_and ha ⟨fun _ => hb.run⟩)) fun σ H Q ⟨ι, env, st, he, hc, ho⟩ => ⟨ι, env, st, he, hc, outT.test ho fun b' st' H' cr ex ho1 => by
    cases b' with
    | true => exact ⟨ι, env, st', he.mono' ex, cr, outT.later ex ho1⟩
    | false =>
      rw [if_neg Bool.false_ne_true]
      exact ho1 H' cr ex⟩
theorem st_or {r : List Expr} {b : Expr} {p : Pos} (ha : ST X XX W a ma) (hb : ST X XX W (.BoolOp .Or (b :: r) p) mb) : ST X XX W (.BoolOp .Or (a :: b :: r) p) (mOr ma mb) :=
  PT.imp (PW.pt (pw_or ha ⟨fun _ => hb.run⟩)) fun σ H Q ⟨ι, env, st, he, hc, ho⟩ => ⟨ι, env, st, he, hc, outT.test ho fun b' st' H' cr ex ho1 => by
    cases b' with
    | false =>
      rw [if_neg Bool.false_ne_true]
      exact ⟨ι, env, st', he.mono' ex, cr, outT.later ex ho1⟩
    | true => exact ho1 H' cr ex⟩
theorem st_one1 {p : Pos} (ha : ST X XX W a ma) : ST X XX W (.BoolOp .And [a] p) ma := PW.pt (pw_and1 ha)
theorem st_one2 {p : Pos} (ha : ST X XX W a ma) : ST X XX W (.BoolOp .Or [a] p) ma := PW.pt (pw_or1 ha)
theorem se_not (ha : SE X XX W false a ma) : SE X XX W fr (.UnaryOp .Not a pos) (mNot ma) :=
  PE.imp (pe_not ha) fun σ H Q ⟨ι, env, st, he, hc, ho⟩ => ⟨ι, env, st, he, hc, outE.test ho fun b' st' H' cr ex ho1 => ⟨b', rfl, ho1 _ H' (.bl _) cr ex (by first | exact fresh_no (by simp) | exact freshP_no (by simp))⟩⟩
theorem st_not (ha : ST X XX W a ma) : ST X XX W (.UnaryOp .Not a pos) (mNot ma) :=
  PT.imp (pt_not ha) fun σ H Q ⟨ι, env, st, he, hc, ho⟩ => ⟨ι, env, st, he, hc, outT.test ho fun b' st' H' cr ex ho1 => ho1 H' cr ex⟩
theorem outE.test2 {K : Frag} {σ : St} {H : Hp} {ι : Lv} {Q : VK} {Q' : Bool → Hp → Prop} {env : Env} {st : Store} {m : ME} {f : Bool → Store → R Val} (ho : outE K XX W ι σ H fr Q (mTest m env st f))
    (h : ∀ b st' H', CellR K H' ι st' → Ext ι H H' → outE K XX W ι σ H fr Q (f b st') → Q' b H') : outT K XX W ι σ H Q' (m env st) := by
  unfold mTest at ho
  generalize e : m env st = r at ho
  cases r with
  | ok v st' =>
    cases v with
    | d y =>
      cases y with
      | bool b => exact fun H' cr ex => h b st' H' cr ex ho
      | _ => exact ho
    | _ => exact ho
  | exc e st' => exact ho
  | bad => exact ho
theorem se_ite (hc : ST X XX W c mc) (ha : SE X XX W fr a ma) (hb : SE X XX W fr b mb) : SE X XX W fr (.IfExp c a b pos) (mIte mc ma mb) :=
  PE.imp (pe_ifExp hc ha hb) fun σ H Q ⟨ι, env, st, he, hc, ho⟩ => ⟨ι, env, st, he, hc, outE.test2 ho fun b' st' H' cr ex ho1 => by
    cases b' with
    | true => exact ⟨ι, env, st', he.mono' ex, cr, outE.later ex ho1⟩
    | false =>
      rw [if_neg Bool.false_ne_true]
      exact ⟨ι, env, st', he.mono' ex, cr, outE.later ex ho1⟩⟩
def isNon : D → Bool
  | .none => true
  | _ => false
theorem isD_inv {c x : D} {b : Bool} (h : isD c x = some b) : (c = .none ∧ b = isNon x) ∨ ∃ p q, c = .bool p ∧ x = .bool q ∧ b = (p == q) := by
  cases c with
  | none => cases x <;> (cases h; exact .inl ⟨rfl, rfl⟩)
  | bool p => cases x with
    | bool q => cases h; exact .inr ⟨_, _, rfl, rfl, rfl⟩
    | _ => cases h
  | _ => cases x <;> cases h
theorem dq_non {K : Frag} {H : Hp} {ι : Lv} {u : V} {x : D} (h : Dq K H ι u x) : decide (u = .non) = isNon x := by
  cases h <;> rfl
theorem se_isN (ng : Bool) (e : Expr) (t : TE → TE) (hp : ∀ ta, PE X a ta → PE X e (t ta)) (ht : t = if ng then tNotN else tIsN) (ha : SE X XX W false a ma) : SE X XX W fr e (mIs ng .none ma) :=
  PE.imp (hp _ ha) fun σ H Q ⟨ι, env, st, he, hc, ho⟩ => by
    have q : rdE X.K XX W false ma σ H (fun x H1 => Q (.bl (if ng then !decide (x = .non) else decide (x = .non))) H1) := ⟨ι, env, st, he, hc, by
      unfold mIs at ho
      refine outE.bind ho fun v st' u H' e rv cr ex _ ho1 => ?_
      cases v with
      | d x =>
        dsimp only at ho1
        have dq : Dq X.K H' ι u x := rv
        cases hb : isD .none x with
        | none => rw [hb] at ho1; exact False.elim ho1
        | some b =>
          rw [hb, R.of_some] at ho1
          rcases isD_inv hb with ⟨_, e1⟩ | ⟨_, _, z, _⟩
          · rw [dq_non dq, ← e1]
            exact ho1 _ H' (.bl _) cr ex (by first | exact fresh_no (by simp) | exact freshP_no (by simp))
          · cases z
      | _ => exact False.elim ho1⟩
    subst ht
    cases ng with
    | true => exact q
    | false => exact q
theorem st_isN (ng : Bool) (e : Expr) (t : TE → TE) (hp : ∀ ta, PE X a ta → PT X e (tB (t ta))) (ht : t = if ng then tNotN else tIsN) (ha : SE X XX W false a ma) : ST X XX W e (mIs ng .none ma) :=
  PT.imp (hp _ ha) fun σ H Q h => by
    obtain ⟨ι, env, st, he, hc, ho⟩ := rd_test h
    have q : rdE X.K XX W false ma σ H (fun x H1 => ∃ c, V.bl (if ng then !decide (x = .non) else decide (x = .non)) = .bl c ∧ Q c H1) := ⟨ι, env, st, he, hc, by
      unfold mIs at ho
      refine outE.bind ho fun v st' u H' e rv cr ex _ ho1 => ?_
      cases v with
      | d x =>
        dsimp only at ho1
        have dq : Dq X.K H' ι u x := rv
        cases hb : isD .none x with
        | none => rw [hb] at ho1; exact False.elim ho1
        | some b =>
          rw [hb, R.of_some] at ho1
          rcases isD_inv hb with ⟨_, e1⟩ | ⟨_, _, z, _⟩
          · rw [dq_non dq, ← e1]
            exact ho1 _ H' (.bl _) cr ex FreshP.no
          · cases z
      | _ => exact False.elim ho1⟩
    subst ht
    cases ng with
    | true => exact q
    | false => exact q
def isBf (ng p : Bool) : D → D → Option D := fun x _ => match x with
  | .bool q => some (.bool (if ng then !(p == q) else (p == q)))
  | _ => none
theorem m_isB (p : Bool) : OpR X (compareOp .Is) (rM X.K true (fun x y => match x, y with | .bool q, .bool r => some (.bool (q == r)) | _, _ => none)) := OpR.imp op_isBl fun ux uy H Q ⟨ι, x, y, z, hι, hx, hy, e, q⟩ => by
  dsimp only at e
  split at e
  · cases e
    rename_i a b
    have e1 : decide (a = b) = (a == b) := by cases a <;> cases b <;> rfl
    exact ⟨_, _, hx.bl, hy.bl, by rw [e1]; exact q _ _ (.bl _) (same_refl _) (by first | exact fresh_no (by simp) | exact freshP_no (by simp))⟩
  · cases e
theorem m_isnB (p : Bool) : OpR X (compareOp .IsNot) (rM X.K true (fun x y => match x, y with | .bool q, .bool r => some (.bool (!(q == r))) | _, _ => none)) := OpR.imp op_notBl fun ux uy H Q ⟨ι, x, y, z, hι, hx, hy, e, q⟩ => by
  dsimp only at e
  split at e
  · cases e
    rename_i a b
    have e1 : decide (a = b) = (a == b) := by cases a <;> cases b <;> rfl
    exact ⟨_, _, hx.bl, hy.bl, by rw [e1]; exact q _ _ (.bl _) (same_refl _) (by first | exact fresh_no (by simp) | exact freshP_no (by simp))⟩
  · cases e
theorem mIs_bool (ng p : Bool) (m : ME) (env : Env) (st : Store) : mIs ng (.bool p) m env st = mBin (fun x y => match x, y with | .bool q, .bool r => some (.bool (if ng then !(q == r) else (q == r))) | _, _ => none) m (fun _ st => .ok (.d (.bool p)) st) env st ∨ ∃ n st', m env st = .ok (.ref n) st' := by
  unfold mIs mBin
  cases m env st with
  | ok v st' =>
    cases v with
    | d x =>
      refine .inl ?_
      cases x <;> simp [isD] <;> cases ng <;> cases p <;> rename_i b <;> cases b <;> rfl
    | ref n => exact .inr ⟨n, st', rfl⟩
    | clo k cs => exact .inl rfl
  | exc e st' => exact .inl rfl
  | bad => exact .inl rfl
theorem rd_isB {ng p : Bool} {K : Frag} {σ : St} {H : Hp} {Q : VK} (h : rdE K XX W fr (mIs ng (.bool p) ma) σ H Q) :
    rdE K XX W fr (mBin (fun x y => match x, y with | .bool q, .bool r => some (.bool (if ng then !(q == r) else (q == r))) | _, _ => none) ma (fun _ st => .ok (.d (.bool p)) st)) σ H Q := by
  obtain ⟨ι, env, st, he, hc, ho⟩ := h
  rcases mIs_bool ng p ma env st with e | ⟨n, st', e⟩
  · rw [e] at ho
    exact ⟨ι, env, st, he, hc, ho⟩
  · unfold mIs at ho
    rw [e] at ho
    exact False.elim ho
theorem rdT_isB {ng p : Bool} {K : Frag} {σ : St} {H : Hp} {Q : Bool → Hp → Prop} (h : rdT K XX W (mIs ng (.bool p) ma) σ H Q) :
    rdT K XX W (mBin (fun x y => match x, y with | .bool q, .bool r => some (.bool (if ng then !(q == r) else (q == r))) | _, _ => none) ma (fun _ st => .ok (.d (.bool p)) st)) σ H Q := by
  obtain ⟨ι, env, st, he, hc, ho⟩ := h
  rcases mIs_bool ng p ma env st with e | ⟨n, st', e⟩
  · rw [e] at ho
    exact ⟨ι, env, st, he, hc, ho⟩
  · unfold mIs at ho
    rw [e] at ho
    exact False.elim ho
theorem rd_chain {K : Frag} {f g : D → D → Option D} {σ : St} {H : Hp} {Q : VK} (h : rdE K XX W fr (mChain f g ma mb mc) σ H Q) : tChain (rM K true f) (rM K true g) (rdE K XX W false ma) (rdE K XX W false mb) (rdE K XX W false mc) σ H Q := by
  obtain ⟨ι, env, st, he, hcc, hoo⟩ := h
  unfold mChain at hoo
  refine ⟨ι, env, st, he, hcc, outE.bind hoo fun v st1 u H1 e1 rv cr ex _ ho1 => ?_⟩
  refine ⟨ι, env, st1, he.mono' ex, cr, outE.bind (outE.later ex ho1) fun w st2 u2 H2 e2 rv2 cr2 ex2 _ ho2 => ?_⟩
  have rv' := rv.mono ex2 (Grow.refl _ _)
  cases hx : vw st2 v with
  | none => rw [hx] at ho2; exact False.elim ho2
  | some x =>
  rw [hx, R.of_some] at ho2
  cases hy : vw st2 w with
  | none => rw [hy] at ho2; exact False.elim ho2
  | some y =>
  rw [hy, R.of_some] at ho2
  cases hz : f x y with
  | none => rw [hz] at ho2; exact False.elim ho2
  | some z =>
  rw [hz, R.of_some] at ho2
  refine ⟨ι, x, y, z, cr2.dom, vw_dw cr2 rv' hx, vw_dw cr2 rv2 hy, hz, fun uz H3 dq sm fh => ?_⟩
  have ex3 := ex2.trans' (Ext.of (ι := ι) sm)
  have ho3 := outE.later ex3 ho2
  cases z with
  | bool k =>
    cases dq
    refine ⟨k, rfl, ?_⟩
    cases k with
    | false =>
      rw [if_neg Bool.false_ne_true]
      dsimp only at ho3
      exact ho3 _ H3 (.bl _) (cr2.same sm) (Ext.refl _ _) (by first | exact fresh_no (by simp) | exact freshP_no (by simp))
    | true =>
      rw [if_pos rfl]
      dsimp only at ho3
      refine ⟨ι, env, st2, (he.mono' ex).mono' ex3, cr2.same sm, outE.bind ho3 fun v3 st3 u3 H4 e3 rv3 cr3 ex4 _ ho4 => ?_⟩
      have rv2' := (rv2.mono (Ext.of (ι := ι) sm) (Grow.refl _ _)).mono ex4 (Grow.refl _ _)
      cases hy' : vw st3 w with
      | none => rw [hy'] at ho4; exact False.elim ho4
      | some y' =>
      rw [hy', R.of_some] at ho4
      cases hx' : vw st3 v3 with
      | none => rw [hx'] at ho4; exact False.elim ho4
      | some x' =>
      rw [hx', R.of_some] at ho4
      cases hz' : g y' x' with
      | none => rw [hz'] at ho4; exact False.elim ho4
      | some z' =>
      rw [hz', R.of_some] at ho4
      refine ⟨ι, y', x', z', cr3.dom, vw_dw cr3 rv2' hy', vw_dw cr3 rv3 hx', hz', fun uz' H5 dq' sm' fh' => ?_⟩
      cases z' with
      | bool k' => exact ho4 uz' H5 dq' (cr3.same sm') (ex4.trans' (Ext.of sm')) (by first | exact fresh_no (by simp) | exact freshP_no (by simp))
      | _ => exact False.elim ho4
  | _ => exact False.elim ho3
theorem se_chain {op op' : CmpOp} {f g : D → D → Option D} (ho : OpR X (compareOp op) (rM X.K true f)) (ho' : OpR X (compareOp op') (rM X.K true g)) (ha : SE X XX W false a ma) (hb : SE X XX W false b mb) (hc : SE X XX W false c mc)
    (hm : lastMarks [op, op'] [b, c] = false) : SE X XX W fr (.Compare a [op, op'] [b, c] pos) (mChain f g ma mb mc) :=
  PE.imp (pe_chain ho ho' ha hb hc hm) fun _ _ _ h => rd_chain h
end
end Mi
end
section
set_option maxHeartbeats 2000000
namespace Mi
open PySem PySem.Spec PyProof.Rows L2
section
variable {X : Cx}
theorem each_of {K : Frag} {H : Hp} {ι : Lv} : ∀ {us : List V} {ds : List D} {vs : List Value}, DqAll K H ι us ds → Vals us vs → PySem.W.EachIs (fun v d => ∃ u, RelV u v ∧ Dq K H ι u d) vs ds
  | _, _, _, .nil, .nil => .nil
  | _, _, _, .cons h t, .cons r rr => .cons ⟨_, r, h⟩ (each_of t rr)
theorem of_each {K : Frag} {H : Hp} {ι : Lv} : ∀ {vs : List Value} {ds : List D}, PySem.W.EachIs (fun v d => ∃ u, RelV u v ∧ Dq K H ι u d) vs ds → ∃ us, DqAll K H ι us ds ∧ Vals us vs
  | _, _, .nil => ⟨[], .nil, .nil⟩
  | _, _, .cons h t => by
    obtain ⟨us, d, v⟩ := of_each t
    obtain ⟨u, r, q⟩ := h
    exact ⟨u :: us, .cons q d, .cons r v⟩
theorem sortB_alike {xs : List D} (h : sortB xs = true) : (∀ x ∈ xs, ∀ y ∈ xs, PySem.W.alike x y = true) ∧ (∀ x ∈ xs, ∃ a r, x = .tuple (a :: r)) ∧ PyData.depthAll xs ≤ 60 := by
  unfold sortB at h
  rw [Bool.and_eq_true, Bool.and_eq_true] at h
  obtain ⟨⟨h1, h2⟩, h3⟩ := h
  refine ⟨fun x hx y hy => List.all_eq_true.mp (List.all_eq_true.mp h1 x hx) y hy, fun x hx => ?_, of_decide_eq_true h3⟩
  have q := List.all_eq_true.mp h2 x hx
  split at q
  · exact ⟨_, _, rfl⟩
  · cases q
theorem depth_mem : ∀ {xs : List D} {x : D}, x ∈ xs → x.depth ≤ PyData.depthAll xs
  | y :: ys, x, h => by
    rcases List.mem_cons.mp h with e | h
    · subst e; exact Nat.le_max_left _ _
    · exact Nat.le_trans (depth_mem h) (Nat.le_max_right _ _)
theorem run_sortedD (hu : X.A.units + 64 < cLine) {pins : List (Addr × Obj)} {s : Shared} {σ : St} {H : Hp} {ι : Lv} {Q : VK} {a : Addr} {us : List V} {ds : List D} (I : Inv X pins σ H s) (hs : SqL X.K H a us) (hd : DqAll X.K H ι us ds) (hb : sortB ds = true)
    (h : ∀ us' p, DqAll X.K H ι us' (ds.mergeSort leD) → H p = none → Q (.ref p) (upd H p (.lst us'))) : wpAny (model X.prog X.w) X.A (PySem.call (.builtin "sorted") [.ref a]) (EP X pins σ Q) X.xe s := by
  obtain ⟨its, rv, hl, hz⟩ := I.list hs
  obtain ⟨h1, h2, h3⟩ := sortB_alike hb
  have er : PySem.W.EachIs (fun v d => ∃ as, Reads s.heap v d as) its ds := (each_of hd rv).mono fun v d ⟨u, r, q⟩ => Dp.reads I d u v q.dp r
  have e1 : ds.map (fun d : D => d) = ds := List.map_id ds
  refine PySem.W.sorted_data (enc := fun d => d) (vs := its) (bs := ds) hl.isList (each_of hd rv) er (by rw [e1]; exact fun d hd d' hd' => h1 d hd d' hd') (by rw [e1]; exact .inl h2) (by rw [← hd.length]; exact hz)
    (fun b hb => by have := depth_mem hb; omega) fun out ho hE => ?_
  obtain ⟨us', d', v'⟩ := of_each hE
  obtain ⟨ep, he'⟩ := PyProof.Rows.sortedAll_at s.heap its (List.toArray out)
  have hlen : us'.length ≤ sizeLine := by
    rw [v'.length, ho, ← hd.length]
    exact hz
  exact ⟨.ref _, upd H (s.heap.objs.size + 1) (.lst us'), I.laid (t' := s.toks) (fun _ _ => PyProof.Rows.sortedAll_old) (Nat.le_succ _) ⟨hlen, out, ep, v', he'⟩, rfl, h us' _ d' (I.hok.fresh (Nat.le_succ _))⟩
theorem reads_at {h : Heap} : ∀ {vs : List Value} {ds : List D} {as : List Addr}, ReadsAll h vs ds as → ∀ (i : Nat) (v : Value), vs[i]? = some v → ∃ d bs, ds[i]? = some d ∧ Reads h v d bs
  | _, _, _, .nil, _, _, hv => by simp at hv
  | _, _, _, .cons r rs, 0, v, hv => by
    have e := Option.some.inj (show some _ = some v from hv)
    subst e
    exact ⟨_, _, rfl, r⟩
  | _, _, _, .cons r rs, i + 1, v, hv => by
    obtain ⟨d, bs, e, q⟩ := reads_at rs i v (by simpa using hv)
    exact ⟨d, bs, by simpa using e, q⟩
theorem minD_mem : ∀ (xs : List D) (x : D), PySem.W.minD x xs ∈ x :: xs
  | [], x => by simp [PySem.W.minD]
  | y :: ys, x => by
    have e : PySem.W.minD x (y :: ys) = PySem.W.minD (if PySem.W.dataLt y x then y else x) ys := rfl
    rw [e]
    have q := minD_mem ys (if PySem.W.dataLt y x then y else x)
    rcases List.mem_cons.mp q with z | z
    · rw [z]; split <;> simp
    · exact List.mem_cons_of_mem _ (List.mem_cons_of_mem _ z)
theorem run_minD (hc : X.calm = true) (hu : X.A.units + 64 < cLine) {pins : List (Addr × Obj)} {s : Shared} {σ : St} {H : Hp} {ι : Lv} {Q : VK} {a : Addr} {us : List V} {d0 : D} {ds : List D} (I : Inv X pins σ H s) (hs : SqL X.K H a us) (hd : DqAll X.K H ι us (d0 :: ds)) (hb : sortB (d0 :: ds) = true)
    (h : ∀ u, Dq X.K H ι u (PySem.W.minD d0 ds) → Q u H) : wpAny (model X.prog X.w) X.A (PySem.call (.builtin "min") [.ref a]) (EP X pins σ Q) X.xe s := by
  obtain ⟨its, rv, hl, hz⟩ := I.list hs
  obtain ⟨h1, h2, h3⟩ := sortB_alike hb
  obtain ⟨as, hr⟩ := Dp.readsAll I (d0 :: ds) us its hd.dp rv
  have hal : PySem.W.AlikeAll (d0 :: ds) := ⟨h1, fun x hx => by
    obtain ⟨b, r, e⟩ := h2 x hx
    rw [e]
    simp⟩
  refine PySem.W.min_list_data (I.ok.hd hc) hl.isList hr hal (by omega) fun i v h' tk bs hv hr2 hk => ?_
  have hr3 : ReadsAll s.heap its (d0 :: ds) as := by simpa using hr
  have hv3 : its[i]? = some v := by simpa using hv
  obtain ⟨d, bs', e, r1⟩ := reads_at hr3 i v hv3
  have hm := minD_mem ds d0
  have e2 : d = PySem.W.minD d0 ds := PySem.W.alike_unique _ _ _ _ _ (h1 d (List.mem_of_getElem? e) _ hm) (PyProof.Rows.Reads.keeps hk r1) hr2
  have hi : i < us.length := by rw [rv.length]; exact (List.getElem?_eq_some_iff.mp (by simpa using hv)).1
  obtain ⟨u, e3, q⟩ := hd.get (i := i) e
  obtain ⟨u', e4, ru⟩ := rv.get (i := i) e3
  have e5 : u' = v := by
    have e4' : its[i]? = some u' := e4
    rw [show its[i]? = some v by simpa using hv] at e4'
    exact (Option.some.inj e4').symm
  subst e5
  exact ⟨u, H, I.kept hk, ru, h u (e2 ▸ q)⟩
def rSort2 (K : Frag) : List V → Hp → VK → Prop := fun vs H Q => rSortedI K vs H Q ∨ ∃ ι a us ds, vs = [V.ref a] ∧ SqL K H a us ∧ DqAll K H ι us ds ∧ sortB ds = true ∧ ∀ us' p, DqAll K H ι us' (ds.mergeSort leD) → H p = none → Q (.ref p) (upd H p (.lst us'))
theorem cr_sort2 (hu : X.A.units + 64 < cLine) : CallR X (.builtin "sorted") (rSort2 X.K) := by
  intro pins s σ H vs us Q I r h
  rcases h with h | ⟨ι, a, us', ds, rfl, hs, hd, hb, q⟩
  · exact cr_sortedI pins s σ H vs us Q I r h
  · rw [Vals.ref1 r]
    exact run_sortedD hu I hs hd hb q
def rMin2 (K : Frag) : List V → Hp → VK → Prop := fun vs H Q => rMin K vs H Q ∨ ∃ ι a us d0 ds, vs = [V.ref a] ∧ SqL K H a us ∧ DqAll K H ι us (d0 :: ds) ∧ sortB (d0 :: ds) = true ∧ ∀ u, Dq K H ι u (PySem.W.minD d0 ds) → Q u H
theorem cr_minD2 (hc : X.calm = true) (hu : X.A.units + 64 < cLine) : CallR X (.builtin "min") (rMin2 X.K) := by
  intro pins s σ H vs us Q I r h
  rcases h with h | ⟨ι, a, us', d0, ds, rfl, hs, hd, hb, q⟩
  · exact cr_min hc pins s σ H vs us Q I r h
  · rw [Vals.ref1 r]
    exact run_minD hc hu I hs hd hb q
end
end Mi
end
section
set_option maxHeartbeats 1000000
namespace Mi
open PySem PySem.Spec PyProof.Rows L2
section
variable {K : Frag} {XX : XR} {W : WX} {σ : St} {H : Hp} {ι : Lv} {fr fr' : Bool}
theorem outA.bind {env : Env} {st : Store} {m : MEs} {f : List Val → Store → R Val} {Q : VK} {Q' : List V → Hp → Prop} (ho : outE K XX W ι σ H fr Q ((m env st).bind f))
    (h : ∀ vs st' us H', RVs K H' ι vs us → CellR K H' ι st' → Ext ι H H' → outE K XX W ι σ H fr Q (f vs st') → Q' us H') : outA K XX W ι σ H Q' (m env st) := by
  generalize m env st = r at ho
  cases r with
  | ok v st' => exact fun u H' rv cr ex => h v st' u H' rv cr ex ho
  | exc e st' => exact ho
  | bad => exact ho
theorem allM_dq : ∀ {vs : List Val} {us : List V} {xs : List D}, RVs K H ι vs us → allM dOf vs = some xs → DqAll K H ι us xs
  | [], _, _, .nil, e => by cases e; exact .nil
  | v :: vs, u :: us, xs, .cons h t, e => by
    unfold allM at e
    cases h1 : dOf v with
    | none => rw [h1] at e; simp at e
    | some y =>
      cases h2 : allM dOf vs with
      | none => rw [h1, h2] at e; cases e
      | some ys =>
        rw [h1, h2] at e
        cases e
        cases v with
        | d x => cases h1; exact .cons h (allM_dq t h2)
        | _ => cases h1
end
section
variable {X : Cx} {XX : XR} {W : WX} {fr : Bool} {a b c : Expr} {es : List Expr} {pos p : Pos} {ma mb mc : ME} {ms : MEs}
theorem sa_nil : SA X XX W [] mNil := PA.imp pa_nil fun σ H Q ⟨ι, env, st, he, hc, ho⟩ => ho [] H .nil hc (Ext.refl _ _)
theorem sa_cons (ha : SE X XX W false a ma) (hr : SA X XX W es ms) (hs : starEach (a :: es) X.env = (false, eval a X.env) :: starEach es X.env) : SA X XX W (a :: es) (mCons ma ms) :=
  PA.imp (pa_cons ha hr hs) fun σ H Q ⟨ι, env, st, he, hc, ho⟩ => by
    unfold mCons at ho
    refine ⟨ι, env, st, he, hc, ?_⟩
    generalize e : ma env st = r at ho
    cases r with
    | bad => exact ho
    | exc x st' => exact ho
    | ok v st1 =>
      intro u H1 rv cr ex _
      refine ⟨ι, env, st1, he.mono' ex, cr, ?_⟩
      have ho1 := outA.later ex ho
      dsimp only [R.bind] at ho1
      generalize e2 : ms env st1 = r2 at ho1
      cases r2 with
      | bad => exact ho1
      | exc x st' => exact ho1
      | ok vs st2 => exact fun us H2 rvs cr2 ex2 => ho1 (u :: us) H2 (.cons (rv.mono ex2 (Grow.refl _ _)) rvs) cr2 ex2
theorem le1000 {n : Nat} (h : n ≤ 1000) : n ≤ sizeLine := Nat.le_trans h (by decide)
theorem se_tup {k : Nat} (h : SA X XX W es ms) : SE X XX W fr (.Tuple es k pos) (mTup ms) :=
  PE.imp (pe_tup h) fun σ H Q ⟨ι, env, st, he, hc, ho⟩ => ⟨ι, env, st, he, hc, outA.bind ho fun vs st' us H' rv cr ex ho1 => by
    cases hx : allM dOf vs with
    | none => rw [hx] at ho1; exact False.elim ho1
    | some xs =>
      rw [hx, R.of_some] at ho1
      have dq := allM_dq rv hx
      split at ho1
      · exact ⟨by rw [dq.length]; exact le1000 (by assumption), fun q hq => ho1 _ _ (new_tup dq hq) (cr.same (same_upd hq)) (ex.trans' (Ext.of (same_upd hq))) (by first | exact fresh_no (by simp) | exact freshP_no (by simp))⟩
      · exact False.elim ho1⟩
theorem se_lst (h : SA X XX W es ms) : SE X XX W fr (.List es pos) (mLst ms) :=
  PE.imp (pe_lst h) fun σ H Q ⟨ι, env, st, he, hc, ho⟩ => ⟨ι, env, st, he, hc, outA.bind ho fun vs st' us H' rv cr ex ho1 => by
    cases hx : allM dOf vs with
    | none => rw [hx] at ho1; exact False.elim ho1
    | some xs =>
      rw [hx, R.of_some] at ho1
      have dq := allM_dq rv hx
      split at ho1
      · exact ⟨by rw [dq.length]; exact le1000 (by assumption), fun q hq => ho1 _ _ (new_lst dq hq (fun z => cr.dom q z hq)) (cr.same (same_upd hq)) (ex.trans' (Ext.of (same_upd hq))) (freshP_of cr ex (fresh_new dq hq))⟩
      · exact False.elim ho1⟩
/-- [..] * k -/
theorem se_rep {mk : ME} {p2 : Pos} (h : SA X XX W es ms) (hk : SE X XX W false b mk) : SE X XX W fr (.BinOp (.List es p2) .Mult b pos) (mBin repD (mLst ms) mk) :=
  PE.imp (pe_op op_rep (pe_lst h) hk) fun σ H Q ⟨ι, env, st, he, hc, ho⟩ => by
    unfold mBin mLst at ho
    refine ⟨ι, env, st, he, hc, ?_⟩
    generalize ms env st = r at ho
    cases r with
    | bad => exact ho
    | exc x st' => exact ho
    | ok vs st' =>
    intro us H1 rv cr ex
    dsimp only [R.bind] at ho
    cases hx : allM dOf vs with
    | none => rw [hx] at ho; exact False.elim ho
    | some xs =>
    rw [hx, R.of_some] at ho
    have dq := allM_dq rv hx
    by_cases hl : xs.length ≤ 1000
    case neg => rw [if_neg hl] at ho; exact False.elim ho
    rw [if_pos hl] at ho
    dsimp only at ho
    refine ⟨by rw [dq.length]; exact le1000 hl, fun q hq => ?_⟩
    have sm := same_upd (o := .lst us) hq
    have cr' := cr.same sm
    have ex' := ex.trans' (Ext.of (ι := ι) sm)
    have hqa : q ∉ ι.all := fun z => cr.dom q z hq
    refine ⟨ι, env, st', he.mono' ex', cr', outE.bind (outE.later ex' ho) fun w st2 u2 H2 e2 rv2 cr2 ex2 _ ho2 => ?_⟩
    rw [vw_d, R.of_some] at ho2
    cases hy : vw st2 w with
    | none => rw [hy] at ho2; exact False.elim ho2
    | some y =>
    rw [hy, R.of_some] at ho2
    have hL : H2 q = some (.lst us) := ex2.keep _ _ upd_same (fun ps => by simp) fun z => hqa (List.mem_append_left _ z)
    have d2 := (dq.mono (Ext.of (ι := ι) sm) (Grow.refl _ _)).mono ex2 (Grow.refl _ _)
    unfold repD at ho2
    split at ho2
    · rename_i s k e1
      cases e1
      split at ho2
      · rename_i hh
        rw [R.of_some] at ho2
        refine ⟨q, k, us, rfl, (vw_dw cr2 rv2 hy).int, hL, hh.1, hh.2.1, by rw [d2.length]; exact hh.2.2, fun p hp => ?_⟩
        exact ho2 _ _ (new_lst (d2.rep _) hp (fun z => cr2.dom p z hp)) (cr2.same (same_upd hp)) (ex2.trans' (Ext.of (same_upd hp))) (freshP_of cr2 ex2 (fresh_new (d2.rep _) hp))
      · exact False.elim ho2
    · exact False.elim ho2
theorem atI_dq {K : Frag} {H : Hp} {ι : Lv} {us : List V} {xs : List D} {i : Int} {z : D} (h : DqAll K H ι us xs) (e : atI xs i = some z) : ∃ u, atI us i = some u ∧ Dq K H ι u z := by
  unfold atI at e ⊢
  rw [h.length]
  cases q : ixN xs.length i with
  | none => rw [q] at e; cases e
  | some j =>
    rw [q] at e
    exact h.get e
theorem m_idx : IxR X (rM X.K false Mi.idx) := by
  intro va sl pins s σ H x y v u Q I rx ry h hs
  refine ix_seq va sl pins s σ H x y v u Q I rx ry ?_ hs
  obtain ⟨ι, dx, dy, z, hι, hx, hy, e, q⟩ := h
  unfold Mi.idx at e
  split at e
  · obtain ⟨a, us, rfl, r, d⟩ := hx.list
    obtain ⟨w, e1, dq⟩ := atI_dq d e
    exact .inl ⟨a, us, _, w, rfl, hy.int, r, e1, q w H dq (same_refl _) FreshN.no⟩
  · obtain ⟨a, us, rfl, r, d, _⟩ := hx.tuple
    obtain ⟨w, e1, dq⟩ := atI_dq d e
    exact .inr (.inl ⟨a, us, _, w, rfl, hy.int, r, e1, q w H dq (same_refl _) FreshN.no⟩)
  · cases e
theorem se_idx (ha : SE X XX W false a ma) (hb : SE X XX W false b mb) (hs : PlainIx b) : SE X XX W false (.Subscript a b pos) (mBin Mi.idx ma mb) :=
  PE.imp (pe_ix m_idx ha hb hs) fun _ _ _ q => rd_op (fun z => z) q
theorem m_slc : SlR X (fun ux lo hi H Q => ∃ ι x z, (∀ a ∈ ι.all, H a ≠ none) ∧ Dw X.K H ι ux x ∧ slc x lo hi = some z ∧ ∀ uz H', Dq X.K H' ι uz z → Same H H' → FreshN X.K ι true z uz H H' → Q uz H') := by
  intro pins s σ H x v vl vu lo hi sl Q I rx hs pl pu h
  refine (sl_list.or sl_tupA) pins s σ H x v vl vu lo hi sl Q I rx hs pl pu ?_
  obtain ⟨ι, dx, z, hι, hx, e, q⟩ := h
  unfold slc at e
  split at e
  · cases e
    obtain ⟨a, us, rfl, r, d⟩ := hx.list
    exact .inl ⟨a, us, rfl, r, fun p hp => q _ _ (new_lst (d.cut lo hi) hp (fun z => hι p z hp)) (same_upd hp) (fresh_new (d.cut lo hi) hp)⟩
  · cases e
    obtain ⟨a, us, rfl, r, d, t⟩ := hx.tuple
    refine .inr ⟨a, us, rfl, r, fun hw => ?_, fun _ p hp => q _ _ (new_tup (d.cut lo hi) hp) (same_upd hp) (by first | exact fresh_no (by simp) | exact freshP_no (by simp))⟩
    have e1 : ∀ ys : List D, _root_.HT.sIx ys.length 0 lo = 0 → _root_.HT.sIx ys.length ys.length hi = ys.length → Mi.cut ys lo hi = ys := fun ys h1 h2 => by
      unfold Mi.cut
      rw [h1, h2]
      simp
    rw [d.length] at hw
    rw [e1 _ hw.1 hw.2] at q
    exact q _ _ t (same_refl _) (by first | exact fresh_no (by simp) | exact freshP_no (by simp))
  · cases e
/-- a part of a slice -/
abbrev SO (X : Cx) (XX : XR) (W : WX) (e : Option Expr) (m : Option ME) : Prop := match e, m with
  | none, none => True
  | some e, some m => SE X XX W false e m
  | _, _ => False
theorem slc_go {K : Frag} {σ : St} {H : Hp} {ι : Lv} {Q : VK} {v : Val} {u : V} {st : Store} {l h : Option Int} (rv : RV K H ι v u) (cr : CellR K H ι st) (ho : outE K XX W ι σ H fr Q (R.of (vw st v) fun x => R.of (slc x l h) fun z => .ok (.d z) st)) :
    ∃ ι x z, (∀ a ∈ ι.all, H a ≠ none) ∧ Dw K H ι u x ∧ slc x l h = some z ∧ ∀ uz H', Dq K H' ι uz z → Same H H' → FreshN K ι true z uz H H' → Q uz H' := by
  cases hx : vw st v with
  | none => rw [hx] at ho; exact False.elim ho
  | some x =>
    rw [hx, R.of_some] at ho
    cases hz : slc x l h with
    | none => rw [hz] at ho; exact False.elim ho
    | some z =>
      rw [hz, R.of_some] at ho
      exact ⟨ι, x, z, cr.dom, vw_dw cr rv hx, hz, fun uz H3 dq sm fh => ho uz H3 dq (cr.same sm) (Ext.of sm) (freshP_of cr (Ext.refl _ _) (fh.weak fun _ => rfl))⟩
theorem optI {K : Frag} {σ : St} {H : Hp} {ι : Lv} {Q : VK} {m : ME} {env : Env} {st : Store} {k : Option Int → Store → R Val} {Q' : VK} (ho : outE K XX W ι σ H fr Q (mOptI (some m) env st k))
    (h : ∀ i st' H', CellR K H' ι st' → Ext ι H H' → outE K XX W ι σ H' fr Q (k (some i) st') → Q' (.int i) H') : outE K XX W ι σ H false Q' (m env st) := by
  unfold mOptI at ho
  dsimp only at ho
  refine outE.bind ho fun v st' u H' e rv cr ex _ ho1 => ?_
  cases v with
  | d y =>
    cases y with
    | int i =>
      have q : Dq K H' ι u (.int i) := rv
      cases q
      exact h i st' H' cr ex (outE.later ex ho1)
    | _ => exact False.elim ho1
  | _ => exact False.elim ho1
theorem se_slc {lo hi : Option Expr} {ml mh : Option ME} {p2 : Pos} (ha : SE X XX W false a ma) (hl : SO X XX W lo ml) (hh : SO X XX W hi mh) : SE X XX W fr (.Subscript a (.Slice lo hi none p2) pos) (mSlc ma ml mh) := by
  cases lo with
  | none =>
    cases ml with
    | some _ => exact False.elim hl
    | none =>
    cases hi with
    | none =>
      cases mh with
      | some _ => exact False.elim hh
      | none =>
        refine PE.imp (pe_slice m_slc ha po_none po_none) fun σ H Q ⟨ι, env, st, he, hc, ho⟩ => ⟨ι, env, st, he, hc, outE.bind ho fun v st' u H' e rv cr ex _ ho1 => ?_⟩
        exact slc_go rv cr (outE.later ex ho1)
    | some e2 =>
      cases mh with
      | none => exact False.elim hh
      | some m2 =>
        refine PE.imp (pe_slice m_slc ha po_none (po_some hh)) fun σ H Q ⟨ι, env, st, he, hc, ho⟩ => ⟨ι, env, st, he, hc, outE.bind ho fun v st' u H' e rv cr ex _ ho1 => ?_⟩
        have ho1 : outE X.K XX W ι σ H fr Q (mOptI (some m2) env st' fun h st3 => R.of (vw st3 v) fun x => R.of (slc x none h) fun z => .ok (.d z) st3) := ho1
        refine ⟨ι, env, st', he.mono' ex, cr, optI (outE.later ex ho1) fun i st2 H2 cr2 ex2 ho2 => ⟨i, rfl, ?_⟩⟩
        exact slc_go (rv.mono ex2 (Grow.refl _ _)) cr2 ho2
  | some e1 =>
    cases ml with
    | none => exact False.elim hl
    | some m1 =>
    cases hi with
    | none =>
      cases mh with
      | some _ => exact False.elim hh
      | none =>
        refine PE.imp (pe_slice m_slc ha (po_some hl) po_none) fun σ H Q ⟨ι, env, st, he, hc, ho⟩ => ⟨ι, env, st, he, hc, outE.bind ho fun v st' u H' e rv cr ex _ ho1 => ?_⟩
        refine ⟨ι, env, st', he.mono' ex, cr, optI (outE.later ex ho1) fun i st2 H2 cr2 ex2 ho2 => ⟨i, rfl, ?_⟩⟩
        exact slc_go (rv.mono ex2 (Grow.refl _ _)) cr2 ho2
    | some e2 =>
      cases mh with
      | none => exact False.elim hh
      | some m2 =>
        refine PE.imp (pe_slice m_slc ha (po_some hl) (po_some hh)) fun σ H Q ⟨ι, env, st, he, hc, ho⟩ => ⟨ι, env, st, he, hc, outE.bind ho fun v st' u H' e rv cr ex _ ho1 => ?_⟩
        refine ⟨ι, env, st', he.mono' ex, cr, optI (outE.later ex ho1) fun i st2 H2 cr2 ex2 ho2 => ⟨i, rfl, ?_⟩⟩
        refine ⟨ι, env, st2, (he.mono' ex).mono' ex2, cr2, optI ho2 fun j st3 H3 cr3 ex3 ho3 => ⟨j, rfl, ?_⟩⟩
        exact slc_go ((rv.mono ex2 (Grow.refl _ _)).mono ex3 (Grow.refl _ _)) cr3 ho3
/-- a call of a built-in with one argument -/
theorem se_bi {f : D → Option D} {x : Str} {r : List V → Hp → VK → Prop} (hp : ∀ t, PA X [a] t → PE X (.Call (.Name x p) [a] [] pos) (tCB r t)) (hr : ∀ u H Q, rM1 X.K true f u H Q → r [u] H Q) (ha : SE X XX W false a ma) (hs : starEach [a] X.env = (false, eval a X.env) :: starEach [] X.env) :
    SE X XX W fr (.Call (.Name x p) [a] [] pos) (mUn f ma) :=
  PE.imp (hp _ (pa_cons ha pa_nil hs)) fun σ H Q h => by
    have q := rd_un (fa := false) (fo := true) (fun _ => rfl) h
    obtain ⟨ι, env, st, he, hc, ho⟩ := q
    refine ⟨ι, env, st, he, hc, ?_⟩
    generalize ma env st = rr at ho
    cases rr with
    | ok v st' => exact fun u H' rv cr ex fh => hr _ _ _ (ho u H' rv cr ex fh)
    | exc e st' => exact ho
    | bad => exact ho
theorem ints_dq {K : Frag} {H : Hp} {ι : Lv} : ∀ {xs : List D} {us : List V} {ns : List Int}, DqAll K H ι us xs → allM bInt xs = some ns → us = ns.map V.int ∧ xs = ns.map PyData.int
  | [], _, _, .nil, e => by cases e; exact ⟨rfl, rfl⟩
  | x :: xs, u :: us, ns, .cons h t, e => by
    unfold allM at e
    cases h1 : bInt x with
    | none => rw [h1] at e; simp at e
    | some i =>
      cases h2 : allM bInt xs with
      | none => rw [h1, h2] at e; cases e
      | some js =>
        rw [h1, h2] at e
        cases e
        cases x with
        | int i' =>
          cases h1
          cases h
          obtain ⟨e1, e2⟩ := ints_dq t h2
          rw [e1, e2]
          exact ⟨rfl, rfl⟩
        | _ => cases h1
theorem bools_dq {K : Frag} {H : Hp} {ι : Lv} : ∀ {xs : List D} {us : List V} {ns : List Bool}, DqAll K H ι us xs → allM bBool xs = some ns → us = ns.map V.bl
  | [], _, _, .nil, e => by cases e; rfl
  | x :: xs, u :: us, ns, .cons h t, e => by
    unfold allM at e
    cases h1 : bBool x with
    | none => rw [h1] at e; simp at e
    | some i =>
      cases h2 : allM bBool xs with
      | none => rw [h1, h2] at e; cases e
      | some js =>
        rw [h1, h2] at e
        cases e
        cases x with
        | bool i' =>
          cases h1
          cases h
          rw [bools_dq t h2]
          rfl
        | _ => cases h1
theorem map_some {α β : Type} {f : α → β} {o : Option α} {z : β} (h : o.map f = some z) : ∃ y, o = some y ∧ z = f y := by
  cases o with
  | none => cases h
  | some y => cases h; exact ⟨y, rfl, rfl⟩
theorem dq_ints {K : Frag} {H : Hp} {ι : Lv} : ∀ ns : List Int, DqAll K H ι (ns.map V.int) (ns.map PyData.int)
  | [] => .nil
  | n :: ns => .cons (.int n) (dq_ints ns)
section
variable {u : V} {H : Hp} {Q : VK}
theorem r_len (h : rM1 X.K true (b1 .len) u H Q) : ∃ p ys, [u] = [V.ref p] ∧ (SqL X.K H p ys ∨ SqT X.K H p ys) ∧ Q (.int ys.length) H := by
  obtain ⟨ι, x, z, hι, hx, e, q⟩ := h
  unfold b1 at e
  split at e <;> first
    | (cases e
       obtain ⟨a, us, rfl, r, d⟩ := hx.list
       exact ⟨a, us, rfl, .inl r, by rw [d.length]; exact q _ H (.int _) (same_refl _) (by first | exact fresh_no (by simp) | exact freshP_no (by simp))⟩)
    | (cases e
       obtain ⟨a, us, rfl, r, d, _⟩ := hx.tuple
       exact ⟨a, us, rfl, .inr r, by rw [d.length]; exact q _ H (.int _) (same_refl _) (by first | exact fresh_no (by simp) | exact freshP_no (by simp))⟩)
    | (rename_i h1; cases h1)
    | cases e
theorem r_all (h : rM1 X.K true (b1 .all) u H Q) : rAll X.K [u] H Q := by
  obtain ⟨ι, x, z, hι, hx, e, q⟩ := h
  unfold b1 at e
  split at e <;> first
    | (obtain ⟨bs, e1, rfl⟩ := map_some e
       obtain ⟨a, us, rfl, r, d⟩ := hx.list
       have e2 := bools_dq d e1
       subst e2
       exact ⟨a, bs, rfl, r, q _ H (.bl _) (same_refl _) (by first | exact fresh_no (by simp) | exact freshP_no (by simp))⟩)
    | (rename_i h1; cases h1)
    | cases e
theorem r_any (h : rM1 X.K true (b1 .any) u H Q) : rAny X.K [u] H Q := by
  obtain ⟨ι, x, z, hι, hx, e, q⟩ := h
  unfold b1 at e
  split at e <;> first
    | (obtain ⟨bs, e1, rfl⟩ := map_some e
       obtain ⟨a, us, rfl, r, d⟩ := hx.list
       have e2 := bools_dq d e1
       subst e2
       exact ⟨a, bs, rfl, r, q _ H (.bl _) (same_refl _) (by first | exact fresh_no (by simp) | exact freshP_no (by simp))⟩)
    | (rename_i h1; cases h1)
    | cases e
theorem r_sum (h : rM1 X.K true (b1 .sum) u H Q) : rSum X.K [u] H Q := by
  obtain ⟨ι, x, z, hι, hx, e, q⟩ := h
  unfold b1 at e
  split at e <;> first
    | (obtain ⟨ns, e1, rfl⟩ := map_some e
       obtain ⟨a, us, rfl, r, d⟩ := hx.list
       obtain ⟨e2, _⟩ := ints_dq d e1
       subst e2
       exact ⟨a, ns, rfl, r, q _ H (.int _) (same_refl _) (by first | exact fresh_no (by simp) | exact freshP_no (by simp))⟩)
    | (rename_i h1; cases h1)
    | cases e
theorem r_int (h : rM1 X.K true (b1 .int) u H Q) : (∃ i, [u] = [.int i] ∧ Q (.int i) H) ∨ ∃ k, [u] = [.bl k] ∧ Q (.int (if k then 1 else 0)) H := by
  obtain ⟨ι, x, z, hι, hx, e, q⟩ := h
  unfold b1 at e
  split at e <;> first
    | (rename_i h1; cases h1; done)
    | (cases e
       exact .inl ⟨_, by rw [hx.int], q _ H (.int _) (same_refl _) (by first | exact fresh_no (by simp) | exact freshP_no (by simp))⟩)
    | (cases e
       exact .inr ⟨_, by rw [hx.bl], q _ H (.int _) (same_refl _) (by first | exact fresh_no (by simp) | exact freshP_no (by simp))⟩)
    | (rename_i h1; cases h1)
    | cases e
theorem abs_eq (i : Int) : (if i < 0 then -i else i) = (i.natAbs : Int) := by split <;> omega
theorem r_abs (h : rM1 X.K true (b1 .abs) u H Q) : ∃ i, [u] = [.int i] ∧ Q (.int (if i < 0 then -i else i)) H := by
  obtain ⟨ι, x, z, hι, hx, e, q⟩ := h
  unfold b1 at e
  split at e <;> first
    | (rename_i h1; cases h1; done)
    | (injection e with e
       subst e
       exact ⟨_, by rw [hx.int], by rw [abs_eq]; exact q _ H (.int _) (same_refl _) (by first | exact fresh_no (by simp) | exact freshP_no (by simp))⟩)
    | cases e
theorem r_tuple (h : rM1 X.K true (b1 .tuple) u H Q) : ∃ p ys, [u] = [V.ref p] ∧ ((SqL X.K H p ys ∧ ∀ l, H l = none → Q (.ref l) (upd H l (.tup ys))) ∨ (SqT X.K H p ys ∧ Q (.ref p) H)) := by
  obtain ⟨ι, x, z, hι, hx, e, q⟩ := h
  unfold b1 at e
  split at e <;> first
    | (cases e
       obtain ⟨a, us, rfl, r, d⟩ := hx.list
       exact ⟨a, us, rfl, .inl ⟨r, fun l hl => q _ _ (new_tup d hl) (same_upd hl) (by first | exact fresh_no (by simp) | exact freshP_no (by simp))⟩⟩)
    | (cases e
       obtain ⟨a, us, rfl, r, d, t⟩ := hx.tuple
       exact ⟨a, us, rfl, .inr ⟨r, q _ _ t (same_refl _) (by first | exact fresh_no (by simp) | exact freshP_no (by simp))⟩⟩)
    | (rename_i h1; cases h1)
    | cases e
theorem r_list (h : rM1 X.K true (b1 .list) u H Q) : ∃ p ys, [u] = [V.ref p] ∧ (SqL X.K H p ys ∨ SqT X.K H p ys) ∧ ∀ l, H l = none → Q (.ref l) (upd H l (.lst ys)) := by
  obtain ⟨ι, x, z, hι, hx, e, q⟩ := h
  have fin : ∀ {us : List V} {xs : List D}, DqAll X.K H ι us xs → z = .list xs → ∀ l, H l = none → Q (.ref l) (upd H l (.lst us)) := fun d e l hl => by
    subst e
    exact q _ _ (new_lst d hl (fun z => hι l z hl)) (same_upd hl) (fresh_new d hl)
  unfold b1 at e
  split at e <;> first
    | (cases e
       obtain ⟨a, us, rfl, r, d⟩ := hx.list
       exact ⟨a, us, rfl, .inl r, fin d rfl⟩)
    | (cases e
       obtain ⟨a, us, rfl, r, d, t⟩ := hx.tuple
       exact ⟨a, us, rfl, .inr r, fin d rfl⟩)
    | (rename_i h1; cases h1)
    | cases e
theorem insI_perm (x : Int) : ∀ l : List Int, (insI x l).Perm (x :: l)
  | [] => .refl _
  | y :: ys => by
    unfold insI
    split
    · exact .refl _
    · exact ((insI_perm x ys).cons y).trans (.swap x y ys)
theorem sortI_perm : ∀ l : List Int, (sortI l).Perm l
  | [] => .refl _
  | x :: xs => (insI_perm x _).trans ((sortI_perm xs).cons x)
theorem insI_le {x : Int} : ∀ {l : List Int}, l.Pairwise (· ≤ ·) → (insI x l).Pairwise (· ≤ ·)
  | [], _ => by simp [insI]
  | y :: ys, h => by
    obtain ⟨h1, h2⟩ := List.pairwise_cons.mp h
    unfold insI
    split
    · rename_i c
      refine List.pairwise_cons.mpr ⟨fun z hz => ?_, h⟩
      rcases List.mem_cons.mp hz with e | hz
      · omega
      · have := h1 z hz; omega
    · rename_i c
      refine List.pairwise_cons.mpr ⟨fun z hz => ?_, insI_le h2⟩
      rcases List.mem_cons.mp ((insI_perm x ys).mem_iff.mp hz) with e | hz
      · omega
      · exact h1 z hz
theorem sortI_le : ∀ l : List Int, (sortI l).Pairwise (· ≤ ·)
  | [] => .nil
  | x :: xs => insI_le (sortI_le xs)
theorem le_perm_eq : ∀ {l l' : List Int}, l.Perm l' → l.Pairwise (· ≤ ·) → l'.Pairwise (· ≤ ·) → l = l'
  | [], l', p, _, _ => by rw [List.nil_perm.mp p]
  | x :: xs, [], p, _, _ => by cases List.perm_nil.mp p
  | x :: xs, y :: ys, p, h, h' => by
    obtain ⟨h1, h2⟩ := List.pairwise_cons.mp h
    obtain ⟨k1, k2⟩ := List.pairwise_cons.mp h'
    have e : x = y := by
      have a : x ∈ y :: ys := p.mem_iff.mp List.mem_cons_self
      have b : y ∈ x :: xs := p.mem_iff.mpr List.mem_cons_self
      rcases List.mem_cons.mp a with a | a
      · exact a
      · rcases List.mem_cons.mp b with b | b
        · exact b.symm
        · have := h1 y b; have := k1 x a; omega
    subst e
    rw [le_perm_eq ((List.perm_cons x).mp p) h2 k2]
theorem r_sorted (h : rM1 X.K true (b1 .sorted) u H Q) : rSort2 X.K [u] H Q := by
  obtain ⟨ι, x, z, hι, hx, e, q⟩ := h
  unfold b1 at e
  split at e <;> first
    | (split at e
       · rename_i ns e1
         cases e
         obtain ⟨a, us, rfl, r, d⟩ := hx.list
         obtain ⟨e2, _⟩ := ints_dq d e1
         subst e2
         refine .inl ⟨a, ns, rfl, r, fun ns' p pm pw hp => ?_⟩
         have e3 : ns' = sortI ns := le_perm_eq (pm.trans (sortI_perm ns).symm) pw (sortI_le ns)
         subst e3
         exact q _ _ (new_lst (dq_ints _) hp (fun z => hι p z hp)) (same_upd hp) (fresh_new (dq_ints _) hp)
       · split at e
         · rename_i hb
           cases e
           obtain ⟨a, us, rfl, r, d⟩ := hx.list
           exact .inr ⟨ι, a, us, _, rfl, r, d, hb, fun us' p d' hp => q _ _ (new_lst d' hp (fun z => hι p z hp)) (same_upd hp) (fresh_new d' hp)⟩
         · cases e)
    | (rename_i h1; cases h1)
    | cases e
theorem minI_is : ∀ (ns : List Int) (n : Int), minI n ns ∈ n :: ns ∧ ∀ y ∈ n :: ns, minI n ns ≤ y
  | [], n => ⟨by simp [minI], fun y hy => by rcases List.mem_cons.mp hy with e | hy; (· rw [e]; exact Int.le_refl _); cases hy⟩
  | m :: ns, n => by
    have e : minI n (m :: ns) = minI (if m < n then m else n) ns := rfl
    have hw : ((if m < n then m else n) = m ∨ (if m < n then m else n) = n) ∧ (if m < n then m else n) ≤ m ∧ (if m < n then m else n) ≤ n := by split <;> omega
    rw [e]
    generalize (if m < n then m else n) = w at hw
    obtain ⟨h1, h2⟩ := minI_is ns w
    have hh := h2 w List.mem_cons_self
    refine ⟨?_, fun y hy => ?_⟩
    · rcases List.mem_cons.mp h1 with z | z
      · rw [z]; rcases hw.1 with q | q <;> simp [q]
      · simp [z]
    · rcases List.mem_cons.mp hy with z | hy
      · omega
      · rcases List.mem_cons.mp hy with z | hy
        · omega
        · exact h2 y (List.mem_cons_of_mem _ hy)
theorem maxI_is : ∀ (ns : List Int) (n : Int), maxI n ns ∈ n :: ns ∧ ∀ y ∈ n :: ns, y ≤ maxI n ns
  | [], n => ⟨by simp [maxI], fun y hy => by rcases List.mem_cons.mp hy with e | hy; (· rw [e]; exact Int.le_refl _); cases hy⟩
  | m :: ns, n => by
    have e : maxI n (m :: ns) = maxI (if n < m then m else n) ns := rfl
    have hw : ((if n < m then m else n) = m ∨ (if n < m then m else n) = n) ∧ m ≤ (if n < m then m else n) ∧ n ≤ (if n < m then m else n) := by split <;> omega
    rw [e]
    generalize (if n < m then m else n) = w at hw
    obtain ⟨h1, h2⟩ := maxI_is ns w
    have hh := h2 w List.mem_cons_self
    refine ⟨?_, fun y hy => ?_⟩
    · rcases List.mem_cons.mp h1 with z | z
      · rw [z]; rcases hw.1 with q | q <;> simp [q]
      · simp [z]
    · rcases List.mem_cons.mp hy with z | hy
      · omega
      · rcases List.mem_cons.mp hy with z | hy
        · omega
        · exact h2 y (List.mem_cons_of_mem _ hy)
theorem r_min (h : rM1 X.K true (b1 .min) u H Q) : rMin2 X.K [u] H Q := by
  obtain ⟨ι, x, z, hι, hx, e, q⟩ := h
  cases x with
  | list xs =>
    obtain ⟨a, us, rfl, r, d⟩ := hx.list
    dsimp only [b1] at e
    split at e
    · rename_i n ns e1
      cases e
      obtain ⟨e2, _⟩ := ints_dq d e1
      subst e2
      refine .inl ⟨a, n :: ns, rfl, r, by simp, fun m hm hle => ?_⟩
      obtain ⟨h1, h2⟩ := minI_is ns n
      have e3 : m = minI n ns := Int.le_antisymm (hle _ h1) (h2 _ hm)
      rw [e3]
      exact q _ H (.int _) (same_refl _) (fresh_no (by simp))
    · cases e
    · split at e
      · rename_i hb
        cases xs with
        | nil => cases e
        | cons x0 xs0 =>
          cases e
          refine .inr ⟨ι, a, us, x0, xs0, rfl, r, d, hb, fun u d' => q _ H d' (same_refl _) (fresh_no fun ys e2 => ?_)⟩
          obtain ⟨y, r, e3⟩ := (sortB_alike hb).2.1 _ (minD_mem xs0 x0)
          rw [e2] at e3
          cases e3
      · cases e
  | _ => cases e
theorem r_max (h : rM1 X.K true (b1 .max) u H Q) : rMax X.K [u] H Q := by
  obtain ⟨ι, x, z, hι, hx, e, q⟩ := h
  unfold b1 at e
  split at e <;> first
    | (split at e
       · rename_i n ns e1
         cases e
         obtain ⟨a, us, rfl, r, d⟩ := hx.list
         obtain ⟨e2, _⟩ := ints_dq d e1
         subst e2
         refine ⟨a, n :: ns, rfl, r, by simp, fun m hm hle => ?_⟩
         obtain ⟨h1, h2⟩ := maxI_is ns n
         have e3 : m = maxI n ns := Int.le_antisymm (h2 _ hm) (hle _ h1)
         rw [e3]
         exact q _ H (.int _) (same_refl _) (by first | exact fresh_no (by simp) | exact freshP_no (by simp))
       · cases e)
    | (rename_i h1; cases h1)
    | cases e
def kdS : Kd → String
  | .int => "int"
  | .bool => "bool"
  | .str => "str"
  | .tuple => "tuple"
  | .list => "list"
def kdN : Kd → Str
  | .int => "int"
  | .bool => "bool"
  | .str => "str"
  | .tuple => "tuple"
  | .list => "list"
theorem boot_kd (k : Kd) : bootBuiltins (kdN k) = some (.type (kdS k)) := by
  cases k
  · exact boot_int
  all_goals (unfold kdN kdS; decide +kernel)
theorem kdN_ne (k : Kd) : kdN k ≠ "__name__" := by cases k <;> decide
theorem kdN_dbg (k : Kd) : (kdN k == ("__debug__" : Str)) = false := by cases k <;> decide
def tyS : D → String
  | .none => "NoneType"
  | .bool _ => "bool"
  | .int _ => "int"
  | .str _ => "str"
  | .list _ => "list"
  | .tuple _ => "tuple"
  | .dict _ => "dict"
theorem tyX_of {K : Frag} {ι : Lv} {x : D} (h : Dw K H ι u x) : TyX K H u (.type (tyS x)) := by
  rcases h with h | ⟨a, us, xs, rfl, rfl, e, h⟩
  · cases h with
    | non => exact .base .non
    | bl b => exact .base (.bl b)
    | int i => exact .base (.int i)
    | str z _ => exact .base (.str z)
    | lst r h =>
      rcases r with ⟨r | ⟨o, r⟩, _⟩ | ⟨o, its, n, h1, h2, _⟩
      · exact .base (.lst r)
      · exact .base (.frz r)
      · exact .kList h1 h2
    | tup r h =>
      rcases r with (r | ⟨o, r⟩) | ⟨o, its, n, h1, h2, _⟩
      · exact .base (.tup r)
      · exact .fTuple r
      · exact .kTuple h1 h2
  · exact .base (.lst e)
theorem dw_nodict {K : Frag} {ι : Lv} {x : D} (h : Dw K H ι u x) : ∀ kvs, x ≠ .dict kvs := by
  rcases h with h | ⟨a, us, xs, rfl, rfl, e, h⟩
  · cases h <;> intro k z <;> cases z
  · intro k z; cases z
theorem kit_kd {K : Frag} (k : Kd) {x : D} (hx : ∀ kvs, x ≠ .dict kvs) : PySem.W.kitOne K (.type (tyS x)) (.type (kdS k)) = some (isK k x) := by
  cases x with
  | dict kvs => exact absurd rfl (hx kvs)
  | none => cases k <;> first | exact kit_ty (a := "NoneType") (r := true) (by decide +kernel) | exact kit_ty (a := "NoneType") (r := false) (by decide +kernel)
  | bool b => cases k <;> first | exact kit_ty (a := "bool") (r := true) (by decide +kernel) | exact kit_ty (a := "bool") (r := false) (by decide +kernel)
  | int b => cases k <;> first | exact kit_ty (a := "int") (r := true) (by decide +kernel) | exact kit_ty (a := "int") (r := false) (by decide +kernel)
  | str b => cases k <;> first | exact kit_ty (a := "str") (r := true) (by decide +kernel) | exact kit_ty (a := "str") (r := false) (by decide +kernel)
  | list b => cases k <;> first | exact kit_ty (a := "list") (r := true) (by decide +kernel) | exact kit_ty (a := "list") (r := false) (by decide +kernel)
  | tuple b => cases k <;> first | exact kit_ty (a := "tuple") (r := true) (by decide +kernel) | exact kit_ty (a := "tuple") (r := false) (by decide +kernel)
end
/-- isinstance(x, c) -/
theorem se_isin1 {k : Kd} {e2 : Expr} (hp : ∀ t, PA X [a, e2] t → PE X (.Call (.Name "isinstance" p) [a, e2] [] pos) (tCB (rIsi X.K) t)) (hk : PE X e2 (tC (.ty (kdS k)))) (ha : SE X XX W false a ma)
    (hs : starEach [a, e2] X.env = (false, eval a X.env) :: starEach [e2] X.env) (hs2 : starEach [e2] X.env = (false, eval e2 X.env) :: starEach [] X.env) : SE X XX W fr (.Call (.Name "isinstance" p) [a, e2] [] pos) (mUn (isinD [k]) ma) :=
  PE.imp (hp _ (pa_cons ha (pa_cons hk pa_nil hs2) hs)) fun σ H Q h => by
    obtain ⟨ι, env, st, he, hc, ho⟩ := rd_un (fa := false) (fo := true) (fun _ => rfl) h
    refine ⟨ι, env, st, he, hc, ?_⟩
    generalize ma env st = rr at ho
    cases rr with
    | bad => exact ho
    | exc e st' => exact ho
    | ok v st' =>
      intro u H' rv cr ex fh
      obtain ⟨ι', x, z, hι, hx, e, q⟩ := ho u H' rv cr ex fh
      cases e
      refine ⟨u, .ty (kdS k), .type (tyS x), .type (kdS k), isK k x, rfl, .ty _, tyX_of hx, kit_kd k (dw_nodict hx), ?_⟩
      have e1 : ([k].any fun k => isK k x) = isK k x := by simp
      rw [e1] at q
      exact q _ H' (.bl _) (same_refl _) (by first | exact fresh_no (by simp) | exact freshP_no (by simp))
/-- isinstance(x, (c, d)) -/
theorem se_isin2 {k k' : Kd} {e2 e3 : Expr} {kk : Nat} {p2 : Pos} (hp : ∀ t, PA X [a, .Tuple [e2, e3] kk p2] t → PE X (.Call (.Name "isinstance" p) [a, .Tuple [e2, e3] kk p2] [] pos) (tCB (rIsiT X.K) t)) (hk : PE X e2 (tC (.ty (kdS k)))) (hk' : PE X e3 (tC (.ty (kdS k')))) (ha : SE X XX W false a ma)
    (hs : starEach [a, .Tuple [e2, e3] kk p2] X.env = (false, eval a X.env) :: starEach [.Tuple [e2, e3] kk p2] X.env) (hs2 : starEach [e2, e3] X.env = (false, eval e2 X.env) :: starEach [e3] X.env) (hs3 : starEach [e3] X.env = (false, eval e3 X.env) :: starEach [] X.env) :
    SE X XX W fr (.Call (.Name "isinstance" p) [a, .Tuple [e2, e3] kk p2] [] pos) (mUn (isinD [k, k']) ma) :=
  PE.imp (hp _ (pa_cons ha (pa_cons (pe_tup (pa_cons hk (pa_cons hk' pa_nil hs3) hs2)) pa_nil rfl) hs)) fun σ H Q h => by
    obtain ⟨ι, env, st, he, hc, ho⟩ := rd_un (fa := false) (fo := true) (fun _ => rfl) h
    refine ⟨ι, env, st, he, hc, ?_⟩
    generalize ma env st = rr at ho
    cases rr with
    | bad => exact ho
    | exc e st' => exact ho
    | ok v st' =>
      intro u H' rv cr ex fh
      obtain ⟨ι', x, z, hι, hx, e, q⟩ := ho u H' rv cr ex fh
      cases e
      refine ⟨(by show 2 ≤ sizeLine; decide), fun t ht => ?_⟩
      have sm := same_upd (o := .tup [.ty (kdS k), .ty (kdS k')]) ht
      have hx' : Dw X.K (upd H' t (.tup [.ty (kdS k), .ty (kdS k')])) ι' u x := by
        rcases hx with hx | ⟨a, us, xs, e1, e2, e3, h⟩
        · exact .inl (hx.mono (Ext.of sm) (Grow.refl _ _))
        · exact .inr ⟨a, us, xs, e1, e2, sm _ _ e3, h.mono (Ext.of sm) (Grow.refl _ _)⟩
      refine ⟨u, t, [.ty (kdS k), .ty (kdS k')], .type (tyS x), [.type (kdS k), .type (kdS k')], isK k x || isK k' x, rfl, upd_same, .cons (.ty _) (.cons (.ty _) .nil), tyX_of hx', ?_, ?_⟩
      · unfold PySem.W.kitAny
        rw [kit_kd k (dw_nodict hx)]
        cases isK k x with
        | true => rfl
        | false =>
          show PySem.W.kitAny X.K _ [_] = some (isK k' x)
          unfold PySem.W.kitAny
          rw [kit_kd k' (dw_nodict hx)]
          cases isK k' x <;> rfl
      · have e1 : ([k, k'].any fun k => isK k x) = (isK k x || isK k' x) := by simp
        rw [e1] at q
        exact q _ _ (.bl _) sm (by first | exact fresh_no (by simp) | exact freshP_no (by simp))
theorem se_min2 {e2 : Expr} (hp : ∀ t, PA X [a, e2] t → PE X (.Call (.Name "min" p) [a, e2] [] pos) (tCB (fun xs H Q => ∃ i j, xs = [.int i, .int j] ∧ Q (.int (if j < i then j else i)) H) t)) (ha : SE X XX W false a ma) (hb : SE X XX W false e2 mb)
    (hs : starEach [a, e2] X.env = (false, eval a X.env) :: starEach [e2] X.env) (hs2 : starEach [e2] X.env = (false, eval e2 X.env) :: starEach [] X.env) : SE X XX W fr (.Call (.Name "min" p) [a, e2] [] pos) (mBin min2D ma mb) :=
  PE.imp (hp _ (pa_cons ha (pa_cons hb pa_nil hs2) hs)) fun σ H Q h => by
    obtain ⟨ι, env, st, he, hc, ho⟩ := rd_op (fa := false) (fb := false) (fo := true) (fun _ => rfl) h
    refine ⟨ι, env, st, he, hc, ?_⟩
    generalize ma env st = rr at ho
    cases rr with
    | bad => exact ho
    | exc e st' => exact ho
    | ok v st' =>
      intro u H' rv cr ex fh
      obtain ⟨ι2, env2, st2, he2, hc2, ho2⟩ := ho u H' rv cr ex fh
      refine ⟨ι2, env2, st2, he2, hc2, ?_⟩
      generalize mb env2 st2 = rr2 at ho2
      cases rr2 with
      | bad => exact ho2
      | exc e st' => exact ho2
      | ok w st3 =>
        intro u2 H2 rv2 cr2 ex2 fh2
        obtain ⟨ι', x, y, z, hι, hx, hy, e, q⟩ := ho2 u2 H2 rv2 cr2 ex2 fh2
        unfold min2D at e
        split at e
        · cases e
          exact ⟨_, _, by rw [hx.int, hy.int], q _ H2 (.int _) (same_refl _) (by first | exact fresh_no (by simp) | exact freshP_no (by simp))⟩
        · cases e
end
end Mi
end
section
set_option maxHeartbeats 2000000
namespace Mi
open RZ
open PySem PySem.Spec PyProof.Rows L2
open AutoSeq1 (wpAny_loadPart')
section
variable {prog : Program} {w : World} {A : Around} {E : Value → Shared → Prop} {s : Shared}
theorem enumT_next {e it l : Addr} {i : Nat} {items : Array Value} {x old : Value} {Q : Value → Shared → Prop}
    (he : IsEnum s.heap e it i old) (hit : s.heap.IsTupleIter it l i) (hl : s.heap.IsTuple l items) (hx : items[i]? = some x) (hne : e ≠ it)
    (hQ : ∀ h', IsEnumOut h' e it ((i : Int) + 1) x s.heap.objs.size → h'.IsTupleIter it l (i + 1) →
      h'.get? s.heap.objs.size = some { cls := .type "tuple", data := .seq #[.int i s.toks, x] } → h'.objs.size = s.heap.objs.size + 1 →
      (∀ b o, b ≠ e → b ≠ it → s.heap.get? b = some o → h'.get? b = some o) → Q (.ref s.heap.objs.size) { s with heap := h', toks := s.toks + 1 }) :
    wpAny (model prog w) A (Builtin.«enumerate.__next__» ⟨[.ref e], []⟩) (fun fin s' => ∃ v, fin = .done (.ret v) ∧ Q v s') E s := by
  obtain ⟨hp, g, d, tk, os⟩ := s
  show wpAny _ _ (field (.ref e) 2 >>= _) _ _ _
  refine wpAny_bind (wpAny_field he rfl (x := .ref it) rfl ?_)
  refine wpAny_bind (nextOf_tuple_item hit hl hx fun h₁ hit₁ hs₁ => ?_)
  replace hs₁ : Heap.SameBut it hp h₁ := hs₁
  have he₁ : IsEnum h₁ e it i old := (hs₁.2 e hne).trans he
  show wpAny _ _ (field (.ref e) 3 >>= _) _ _ ⟨h₁, g, d, tk, os⟩
  refine wpAny_bind (wpAny_field he₁ rfl (x := rawInt i) rfl ?_)
  show wpAny _ _ (field (.ref e) 4 >>= _) _ _ ⟨h₁, g, d, tk, os⟩
  refine wpAny_bind (wpAny_field he₁ rfl (x := .none) rfl ?_)
  show wpAny _ _ (mkInt i >>= _) _ _ ⟨h₁, g, d, tk, os⟩
  refine wpAny_bind (wpAny_mkInt ?_)
  show wpAny _ _ (setField (.ref e) 3 (rawInt ((i : Int) + 1)) >>= _) _ _ ⟨h₁, g, d, tk + 1, os⟩
  refine wpAny_bind (wpAny_setField_rec he₁ (by simp) fun h₂ he₂ hs₂ => ?_)
  replace hs₂ : Heap.SameBut e h₁ h₂ := hs₂
  replace he₂ : IsEnum h₂ e it ((i : Int) + 1) old := he₂
  show wpAny _ _ (setField (.ref e) 4 .none >>= _) _ _ ⟨h₂, g, d, tk + 1, os⟩
  refine wpAny_bind (wpAny_setField_rec he₂ (by simp) fun h₃ he₃ hs₃ => ?_)
  replace hs₃ : Heap.SameBut e h₂ h₃ := hs₃
  replace he₃ : IsEnum h₃ e it ((i : Int) + 1) old := he₃
  show wpAny _ _ (newTuple [.int i tk, x] >>= _) _ _ ⟨h₃, g, d, tk + 1, os⟩
  refine wpAny_bind (wpAny_newTuple ?_)
  have he₄ : IsEnum (h₃.push { cls := .type "tuple", data := .seq #[.int i tk, x] }) e it ((i : Int) + 1) old := Heap.get?_push_of_some _ he₃
  generalize hh₄ : h₃.push { cls := .type "tuple", data := .seq #[.int i tk, x] } = h₄ at he₄
  have hsz : h₃.objs.size = hp.objs.size := by rw [hs₃.1, hs₂.1, hs₁.1]
  have hel : e < hp.objs.size := Heap.lt_size he
  have ht₄ : h₄.get? hp.objs.size = some { cls := .type "tuple", data := .seq #[.int i tk, x] } := by rw [← hh₄, ← hsz]; exact Heap.get?_push_size _ rfl
  have hz₄ : h₄.objs.size = hp.objs.size + 1 := by rw [← hh₄, Heap.size_push, hsz]
  have hk₄ : ∀ b o, b ≠ e → b ≠ it → hp.get? b = some o → h₄.get? b = some o := fun b o hbe hbi hb => by
    rw [← hh₄]; exact Heap.get?_push_of_some _ (hs₃.extBut b o hbe (hs₂.extBut b o hbe (hs₁.extBut b o hbi hb)))
  have hit₄ : h₄.IsTupleIter it l (i + 1) := by
    rw [← hh₄]; obtain ⟨o, ho, r⟩ := (hit₁.extBut hs₂.extBut (Ne.symm hne)).extBut hs₃.extBut (Ne.symm hne); exact ⟨o, Heap.get?_push_of_some _ ho, r⟩
  show wpAny _ _ (Builtin.SmallTypes.ownedTupleIsFree (.ref e) >>= _) _ _ ⟨h₄, g, d, tk + 1, os⟩
  rw [hsz]
  clear hh₄ he₃ hs₃ he₂ hs₂ he₁ hs₁ hit₁ hsz h₃ h₂ h₁
  refine wpAny_bind ?_
  · unfold Builtin.SmallTypes.ownedTupleIsFree
    refine wpAny_bind (wpAny_field he₄ rfl (x := .none) rfl (wpAny_pure ?_))
    simp only [if_true]
    refine wpAny_bind (wpAny_rule ?_)
    refine wpAny_bind (wpAny_field he₄ rfl (x := old) rfl ?_)
    refine wpAny_bind (wpAny_setField_rec he₄ (by simp) fun h₅ he₅ hs₅ => ?_)
    replace hs₅ : Heap.SameBut e h₄ h₅ := hs₅
    replace he₅ : IsEnum h₅ e it ((i : Int) + 1) x := he₅
    show wpAny _ _ (Builtin.SmallTypes.ownedTupleHandOut (.ref e) (.ref hp.objs.size) >>= _) _ _ ⟨h₅, g, d, tk + 1, os⟩
    refine wpAny_bind ?_
    · unfold Builtin.SmallTypes.ownedTupleHandOut
      refine wpAny_bind (wpAny_setField_rec he₅ (by simp) fun h₆ he₆ hs₆ => ?_)
      replace hs₆ : Heap.SameBut e h₅ h₆ := hs₆
      replace he₆ : IsEnumOut h₆ e it ((i : Int) + 1) x hp.objs.size := he₆
      refine wpAny_setField_rec he₆ (by simp) fun h₇ he₇ hs₇ => ?_
      replace hs₇ : Heap.SameBut e h₆ h₇ := hs₇
      replace he₇ : IsEnumOut h₇ e it ((i : Int) + 1) x hp.objs.size := he₇
      refine wpAny_bind (wpAny_letGo (wpAny_pure ⟨_, rfl, hQ h₇ he₇ ?_ ?_ ?_ ?_⟩))
      · exact ((hit₄.extBut hs₅.extBut (Ne.symm hne)).extBut hs₆.extBut (Ne.symm hne)).extBut hs₇.extBut (Ne.symm hne)
      · exact hs₇.extBut _ _ (Nat.ne_of_gt hel) (hs₆.extBut _ _ (Nat.ne_of_gt hel) (hs₅.extBut _ _ (Nat.ne_of_gt hel) ht₄))
      · rw [hs₇.1, hs₆.1, hs₅.1, hz₄]
      · exact fun b o hbe hbi hb => hs₇.extBut b o hbe (hs₆.extBut b o hbe (hs₅.extBut b o hbe (hk₄ b o hbe hbi hb)))

theorem enumT_item {e it l : Addr} {i : Nat} {items : Array Value} {x old : Value} {Q : Option Value → Shared → Prop}
    (he : IsEnum s.heap e it i old) (hit : s.heap.IsTupleIter it l i) (hl : s.heap.IsTuple l items) (hx : items[i]? = some x) (hne : e ≠ it)
    (hQ : ∀ h', IsEnumOut h' e it ((i : Int) + 1) x s.heap.objs.size → h'.IsTupleIter it l (i + 1) →
      h'.get? s.heap.objs.size = some { cls := .type "tuple", data := .seq #[.int i s.toks, x] } → h'.objs.size = s.heap.objs.size + 1 →
      (∀ b o, b ≠ e → b ≠ it → s.heap.get? b = some o → h'.get? b = some o) → Q (some (.ref s.heap.objs.size)) { s with heap := h', toks := s.toks + 1 }) :
    wpAny (model prog w) A (pyNext (.ref e)) Q E s := by
  have hT : s.TypeIs (.ref e) "enumerate" := ⟨_, he, rfl⟩
  unfold pyNext
  exact wpAny_bind (wpAny_attempt (wpAny_callSpecial?_slot (name := Str.ofString "__next__") hT F.slot_enumerate_next
    (wpAny_call_entry F.slot_enumerate_next hT F.entry_enumerate_next
      (enumT_next he hit hl hx hne fun h' a b c d k => wpAny_pure (hQ h' a b c d k)) (F.args_enumerate_next_1 _))))

theorem enumT_end {e it l : Addr} {i : Nat} {items : Array Value} {old : Value} {Q : Option Value → Shared → Prop} (hh : A.handled = none)
    (he : IsEnum s.heap e it i old) (hit : s.heap.IsTupleIter it l i) (hl : s.heap.IsTuple l items) (hx : items[i]? = none)
    (hQ : ∀ h', Heap.ExtBut it s.heap h' → Q none { s with heap := h' }) : wpAny (model prog w) A (pyNext (.ref e)) Q E s := by
  have hT : s.TypeIs (.ref e) "enumerate" := ⟨_, he, rfl⟩
  unfold pyNext
  refine wpAny_bind (wpAny_attempt (wpAny_callSpecial?_slot (name := Str.ofString "__next__") hT F.slot_enumerate_next
    (wpAny_call_entry F.slot_enumerate_next hT F.entry_enumerate_next ?_ (F.args_enumerate_next_1 _))))
  show wpAny _ _ (field (.ref e) 2 >>= _) _ _ _
  refine wpAny_bind (wpAny_field he rfl (x := .ref it) rfl ?_)
  refine wpAny_bind (nextOf_tuple_end hh hit hl hx fun h' x he' hx' => ?_)
  obtain ⟨o, ho, hc⟩ := hx'
  refine wpAny_bind (wpAny_isInstance (T := "StopIteration") (b := true) ⟨o, ho, hc⟩ isSubtype_stop ?_)
  exact wpAny_pure (hQ _ he')
theorem meets_enumT (l : Addr) (items : Array Value) (n : Nat) (dct : Option Addr) (sl : Array (Option Value)) :
    Meets (Builtin.«enumerate.__new__» ⟨[.type "enumerate", .ref l], []⟩) (fun _ R s => s.heap.get? l = some { cls := .type "tuple", dict := dct, data := .seq items n, slots := sl } ∧
      R (.ok (.ret (.ref (s.heap.push { cls := .type "tuple_iterator", data := .fields #[.ref l, .int 0 0] }).objs.size)))
        { s with heap := (s.heap.push { cls := .type "tuple_iterator", data := .fields #[.ref l, .int 0 0] }).push { cls := .type "enumerate", data := .fields #[.none, .bool false, .ref s.heap.objs.size, rawInt 0, .none, .none] } }) :=
  .of_wp fun prog w A R s h => by
    obtain ⟨hp, g, d, tk, os⟩ := s; obtain ⟨hl, h⟩ := h
    have hsub := sub_enumerate
    have hL : Heap.IsTuple (Shared.heap ⟨hp, g, d, tk, os⟩) l items := ⟨_, hl, rfl, n, rfl⟩
    wp_walk using wpAny_loadPart' hl
    refine wpAny_stack_any fun st => wpAny_pure ?_
    split
    · rename_i c _ _ _ _ _
      cases (c == Value.type "enumerate")
      · wp_walk using wpAny_loadPart' hl, wpAny_pyIter_tuple hL
        exact ⟨_, rfl, h⟩
      · wp_walk using wpAny_loadPart' hl, wpAny_pyIter_tuple hL
        exact ⟨_, rfl, h⟩
    · wp_walk using wpAny_loadPart' hl, wpAny_pyIter_tuple hL
      exact ⟨_, rfl, h⟩

theorem call_enumT {l : Addr} {items : Array Value} {Q : Value → Shared → Prop} (hL : s.heap.IsTuple l items)
    (h : ∀ h', IsEnum h' (s.heap.objs.size + 1) s.heap.objs.size 0 .none → h'.IsTupleIter s.heap.objs.size l 0 → h'.objs.size = s.heap.objs.size + 2 →
      (∀ b o, s.heap.get? b = some o → h'.get? b = some o) → Q (.ref (s.heap.objs.size + 1)) { s with heap := h' }) :
    wpAny (model prog w) A (PySem.call (.type "enumerate") [.ref l]) Q E s := by
  obtain ⟨⟨c, dct, dt, sl⟩, hl, hc, n, hd⟩ := hL
  replace hc : c = .type "tuple" := hc
  replace hd : dt = .seq items n := hd
  subst hc hd
  refine callType_new F.called_enumerate (by decide) (F.typeCall_enumerate_1 _) (F.newCall_enumerate_1 _) (fun obj => F.args_object_init_2 obj _) F.entry_enumerate_new
    (meets_enumT l items n dct sl) ⟨hl, ?_⟩
  have hz : (s.heap.push { cls := .type "tuple_iterator", data := .fields #[.ref l, .int 0 0] }).objs.size = s.heap.objs.size + 1 := Heap.size_push ..
  show _ ∧ _
  rw [hz]
  have he : IsEnum ((s.heap.push { cls := .type "tuple_iterator", data := .fields #[.ref l, .int 0 0] }).push
      { cls := .type "enumerate", data := .fields #[.none, .bool false, .ref s.heap.objs.size, rawInt 0, .none, .none] }) (s.heap.objs.size + 1) s.heap.objs.size 0 .none := by
    have := Heap.get?_push_size (s.heap.push { cls := .type "tuple_iterator", data := .fields #[.ref l, .int 0 0] })
      (o := { cls := .type "enumerate", data := .fields #[.none, .bool false, .ref s.heap.objs.size, rawInt 0, .none, .none] }) rfl
    rw [hz] at this; exact this
  refine ⟨⟨_, he, rfl⟩, h _ he ⟨_, Heap.get?_push_of_some _ (Heap.get?_push_size _ rfl), rfl, rfl⟩ (by rw [Heap.size_push, hz]) fun b o x => Heap.get?_push_of_some _ (Heap.get?_push_of_some _ x)⟩

end
/-- the tuple at a, each item in a new pair -/
def IteT (K : PySem.W.Frag) (a : Addr) : L2.It :=
  ⟨fun i H => ∃ (xs : List V) (x : V), SqT K H a xs ∧ xs[i]? = some x, fun i H v H' => ∃ T x, v = .ref T ∧ H T = none ∧ H' = upd H T (.tup [.int (i : Nat), x]) ∧ ∀ xs, SqT K H a xs → xs[i]? = some x, fun i H => ∃ xs : List V, SqT K H a xs ∧ xs.length ≤ i⟩
theorem turn_enumT {P : Program} {w : World} {K : PySem.W.Frag} {elts : List Expr} {kk : Nat} {tpos : Pos} (a e it : Addr) :
    Turn P w K (.Tuple elts kk tpos) (IteT K a) [e, it] e (fun i h => (∃ old, IsEnum h e it ((i : Nat) : Int) old) ∧ h.IsTupleIter it a i ∧ e ≠ it) where
  mem := by simp
  obj := fun i h st b hb => by
    obtain ⟨⟨old, he⟩, ⟨o, ho, hc, hd⟩, _⟩ := st
    have e' : b = e ∨ b = it := by simpa using hb
    rcases e' with z | z
    · rw [z]; exact ⟨_, he, fun v q => nomatch q⟩
    · rw [z]; exact ⟨o, ho, fun v q => by rw [hd] at q; cases q⟩
  keep := fun i h h' st k => let ⟨⟨old, he⟩, hi, hne⟩ := st; ⟨⟨old, k e (by simp) _ he⟩, hi.at fun o q => k it (by simp) o q, hne⟩
  item := by
    intro X hP hw hK hc i pins s σ H E I hf st hg
    subst hP hw hK
    obtain ⟨⟨old, he⟩, hit, hne⟩ := st
    obtain ⟨xs, x, hq, hx⟩ := hg
    obtain ⟨its, rv, p, hz⟩ := I.tuple hq
    obtain ⟨u, hu, ru⟩ := rv.get hx
    have hel : e < s.heap.objs.size := Heap.lt_size he
    have hil : it < s.heap.objs.size := by obtain ⟨_, q, _⟩ := hit; exact Heap.lt_size q
    refine enumT_item he hit p (x := u) (by simpa using hu) hne fun h' ho hit' hT hsz hk => ?_
    refine ⟨_, rfl, wpAny_letOwnedTupleGo_enum (s := { s with heap := h', toks := s.toks + 1 }) ho fun h'' he' sb => ?_⟩
    have hT2 : h''.get? s.heap.objs.size = some { cls := .type "tuple", data := .seq #[.int i s.toks, u] } := (sb.2 _ (Nat.ne_of_gt hel)).trans hT
    have new : ObjOk X.prog X.w (upd H s.heap.objs.size (.tup [.int (i : Nat), x])) h'' s.heap.objs.size (.tup [.int (i : Nat), x]) :=
      ⟨by show 2 ≤ sizeLine; decide, [.int i s.toks, u], .cons ⟨_, rfl⟩ (.cons ru .nil), ⟨_, hT2, rfl, _, rfl⟩⟩
    have I1 : Inv X pins σ (upd H s.heap.objs.size (.tup [.int (i : Nat), x])) { s with heap := h'', toks := s.toks + 1 } :=
      I.turnedNew (ch := [e, it]) (fun b ob hb q => (sb.2 b (fun z => hb (by simp [z]))).trans (hk b ob (fun z => hb (by simp [z])) (fun z => hb (by simp [z])) q)) hf (Nat.le_refl _) new
    refine ⟨.ref s.heap.objs.size, _, I1, rfl, ⟨_, x, rfl, I.hok.fresh (Nat.le_refl _), rfl, fun ys hy => by rw [I.tuple_inj hy hq]; exact hx⟩, ⟨⟨u, ?_⟩, hit'.at fun o q => (sb.2 it (Ne.symm hne)).trans q, hne⟩, fun b hb => ?_⟩
    · have e1 : ((i + 1 : Nat) : Int) = (i : Int) + 1 := by omega
      rw [e1]; exact he'
    · have hb' : b < s.heap.objs.size := by
        have e' : b = e ∨ b = it := by simpa using hb
        rcases e' with z | z
        · rw [z]; exact hel
        · rw [z]; exact hil
      rw [upd_ne (Nat.ne_of_lt hb')]
      exact (hf b hb).1
  done := by
    intro X hP hw hK hc i pins s σ H E I hf st hg
    subst hP hw hK
    obtain ⟨⟨old, he⟩, hit, hne⟩ := st
    obtain ⟨xs, hq, hx⟩ := hg
    obtain ⟨its, rv, p, hz⟩ := I.tuple hq
    obtain ⟨f0, f1, f2, f3, f4, f5⟩ := hf it (by simp)
    have hl := rv.length
    exact enumT_end (I.ok.hd hc) he hit p (by simp; omega) fun h' eb => ⟨rfl, I.turned (t' := s.toks) (fun b o hb q => eb b o hb q) f0 f1 f3 f4 f5⟩
  self := fun A i s Q E st h => let ⟨⟨_, he⟩, _⟩ := st; wpAny_pyIter_enum he h
def iEnum2 (K : PySem.W.Frag) (ta : TA) : TI := fun σ H R => ta σ H fun vs H1 => ∃ a xs, vs = [.ref a] ∧ ((SqL K H1 a xs ∧ R (Ite K a) H1) ∨ (SqT K H1 a xs ∧ R (IteT K a) H1))
theorem pi_enum2 {X : Cx} {e : Expr} {ta : TA} {p pos tpos : Pos} {elts : List Expr} {kk : Nat} (hg : Gl X "enumerate") (hm : X.mg "enumerate" = none) (ha : PA X [e] ta) (hs : starEach [e] X.env = [(false, eval e X.env)]) :
    PI X (.Tuple elts kk tpos) (.Call (.Name "enumerate" p) [e] [] pos) (iEnum2 X.K ta) := by
  refine ⟨fun pins s σ H R I h => ?_⟩
  refine Call_ (ld_blt I hg hm boot_enumerate (PyProof.Rows.callWith_type1 (thn (ha.run pos pins s σ H _ I h) fun us s1 ⟨vs, H1, I1, r1, q1⟩ => ?_) hs rfl))
  obtain ⟨a, xs, rfl, q⟩ := q1
  rcases r1 with _ | ⟨r, rr⟩
  cases rr
  cases r
  have fp : ∀ (h' : Heap), Inv X pins σ H1 { s1 with heap := h' } → ∀ b ∈ [s1.heap.objs.size + 1, s1.heap.objs.size], FpOk X pins H1 b := fun h' I2 b hb => by
    have e' : b = s1.heap.objs.size + 1 ∨ b = s1.heap.objs.size := by simpa using hb
    have hle : s1.heap.objs.size ≤ b := by
      rcases e' with z | z
      · rw [z]; exact Nat.le_add_right _ _
      · rw [z]; exact Nat.le_refl _
    exact I1.fpOk hle (I1.hok.fresh hle)
  rcases q with ⟨hq, q⟩ | ⟨hq, q⟩
  · obtain ⟨its, rv, p', hz⟩ := I1.list hq
    refine call_enumerate_list p'.isList fun h' he hit hsz hk => wpAny_pyIter_enum he ?_
    have I2 : Inv X pins σ H1 { s1 with heap := h' } := I1.kept (t' := s1.toks) hk
    exact ⟨s1.heap.objs.size + 1, [s1.heap.objs.size + 1, s1.heap.objs.size], _, _, H1, rfl, I2, turn_enum a (s1.heap.objs.size + 1) s1.heap.objs.size, ⟨⟨.none, he⟩, hit, Nat.succ_ne_self _⟩, fp h' I2, q⟩
  · obtain ⟨its, rv, p', hz⟩ := I1.tuple hq
    refine call_enumT p' fun h' he hit hsz hk => wpAny_pyIter_enum he ?_
    have I2 : Inv X pins σ H1 { s1 with heap := h' } := I1.kept (t' := s1.toks) hk
    exact ⟨s1.heap.objs.size + 1, [s1.heap.objs.size + 1, s1.heap.objs.size], _, _, H1, rfl, I2, turn_enumT a (s1.heap.objs.size + 1) s1.heap.objs.size, ⟨⟨.none, he⟩, hit, Nat.succ_ne_self _⟩, fp h' I2, q⟩
end Mi
end
section
set_option maxHeartbeats 1000000
namespace Mi
open RZ
open PySem PySem.Spec PyProof.Rows L2
theorem turn_long {P : Program} {w : World} {K : Frag} {tg : Expr} (it : Addr) (lo c : Int) (n : Nat) : Turn P w K tg (Itc lo c n) [it] it (fun i h => IsLongIter h it (lo + (i : Nat) * c) ((n : Int) - (i : Nat)) c) where
  mem := by simp
  obj := fun i h st b hb => by
    obtain rfl : b = it := by simpa using hb
    exact ⟨_, st, fun v z => nomatch z⟩
  keep := fun i h h' st k => k it (by simp) _ st
  item := fun X hP hw hK hc i pins s σ H E I hf st hg => by
    subst hP hw hK
    obtain ⟨f0, f1, f2, f3, f4, f5⟩ := hf it (by simp)
    refine (Walks.longrange (prog := X.prog) (w := X.w) (I.ok.hd hc) it lo c n).item i s _ _ hg st fun v h' tk ⟨t, hv⟩ st' kk => ?_
    subst hv
    have I1 : Inv X pins σ H { s with heap := h', toks := tk } := I.turned (fun b o hb e => kk b o (by simpa using hb) e) f0 f1 f3 f4 f5
    exact ⟨_, rfl, go_of (s := { s with heap := h', toks := tk }) (n := "longrange_iterator") st' rfl rfl (by decide) ⟨.int (lo + (i : Nat) * c), H, I1, ⟨t, rfl⟩, ⟨rfl, rfl⟩, st', fun b hb => (hf b hb).1⟩⟩
  done := fun X hP hw hK hc i pins s σ H E I hf st hg => by
    subst hP hw hK
    obtain ⟨f0, f1, f2, f3, f4, f5⟩ := hf it (by simp)
    exact wpAny_pyNext_long_end (I.ok.hd hc) st (by have : n ≤ i := hg; omega) fun h' eb => ⟨rfl, I.turned (t' := s.toks) (fun b o hb e => eb b o hb e) f0 f1 f3 f4 f5⟩
  self := fun A i s Q E st h => wpAny_pyIter_longiter st h
section
variable {X : Cx} {tg : Expr} {pins : List (Addr × Obj)} {σ : St} {H : Hp} {s : Shared}
/-- a range just made is walked -/
theorem range_any {R : L2.It → Hp → Prop} {E : Value → Shared → Prop} {lo hi c : Int} {t u v : Tok} {tk : Nat} (I : Inv X pins σ H s) (q : R (Itc lo c (Builtin.Range.rangeSize lo hi c).toNat) H) :
    wpAny (model X.prog X.w) X.A (pyIter (.ref s.heap.objs.size)) (PIE X pins σ tg R) E { s with heap := s.heap.push { cls := .type "range", data := .fields #[.int lo t, .int hi u, .int c v] }, toks := tk } := by
  have I2 : Inv X pins σ H { s with heap := s.heap.push { cls := .type "range", data := .fields #[.int lo t, .int hi u, .int c v] }, toks := tk } := I.kept (t' := tk) fun b o e => Heap.get?_push_of_some _ e
  have e0 : lo + ((0 : Nat) : Int) * c = lo := by simp
  have e1 : ((Builtin.Range.rangeSize lo hi c).toNat : Int) - ((0 : Nat) : Int) = Builtin.Range.rangeSize lo hi c := by
    have := rangeSize_toNat lo hi c
    omega
  cases sm : Builtin.Range.small lo hi c with
  | true =>
    refine wpAny_pyIter_range (IsRange.new ..) sm (pi_one (tk := tk) I2 _ (turn_rangeC _ lo c _) ?_ q)
    show IsRangeIter _ _ (lo + ((0 : Nat) : Int) * c) (((Builtin.Range.rangeSize lo hi c).toNat : Int) - ((0 : Nat) : Int)) c
    rw [e0, e1]
    exact Heap.get?_push_size _ rfl
  | false =>
    refine wpAny_pyIter_longrange (IsRange.new ..) sm (pi_one (tk := tk) I2 _ (turn_long _ lo c _) ?_ q)
    show IsLongIter _ _ (lo + ((0 : Nat) : Int) * c) (((Builtin.Range.rangeSize lo hi c).toNat : Int) - ((0 : Nat) : Int)) c
    rw [e0, e1]
    exact Heap.get?_push_size _ rfl
def iR1 (ta : TA) : TI := fun σ H R => ta σ H fun vs H1 => ∃ j : Int, vs = [.int j] ∧ R (Itc 0 1 (Builtin.Range.rangeSize 0 j 1).toNat) H1
def iR2 (ta : TA) : TI := fun σ H R => ta σ H fun vs H1 => ∃ i j : Int, vs = [.int i, .int j] ∧ R (Itc i 1 (Builtin.Range.rangeSize i j 1).toNat) H1
def iR3 (ta : TA) : TI := fun σ H R => ta σ H fun vs H1 => ∃ i j c : Int, vs = [.int i, .int j, .int c] ∧ 0 < c ∧ c < 1073741824 ∧ R (Itc i c (Builtin.Range.rangeSize i j c).toNat) H1
theorem pi_r1 {a : Expr} {ta : TA} {p pos : Pos} (hg : Gl X "range") (hm : X.mg "range" = none) (ha : PA X [a] ta) (hs : starEach [a] X.env = [(false, eval a X.env)]) : PI X tg (.Call (.Name "range" p) [a] [] pos) (iR1 ta) := by
  refine ⟨fun pins s σ H R I h => Call_ (ld_blt I hg hm boot_range (PyProof.Rows.callWith_type1 (thn (ha.run pos pins s σ H _ I h) fun us s1 ⟨vs, H1, I1, r1, j, e, q⟩ => ?_) hs rfl))⟩
  subst e
  rcases r1 with _ | ⟨⟨t, rfl⟩, rr⟩
  cases rr
  exact call_range_1 (range_any I1 q)
theorem pi_r2 {a b : Expr} {ta : TA} {p pos : Pos} (hg : Gl X "range") (hm : X.mg "range" = none) (ha : PA X [a, b] ta) (hs : starEach [a, b] X.env = [(false, eval a X.env), (false, eval b X.env)]) (hs2 : starEach [b] X.env = [(false, eval b X.env)]) :
    PI X tg (.Call (.Name "range" p) [a, b] [] pos) (iR2 ta) := by
  refine ⟨fun pins s σ H R I h => Call_ (ld_blt I hg hm boot_range (PyProof.Rows.callWith_type1 (thn (ha.run pos pins s σ H _ I h) fun us s1 ⟨vs, H1, I1, r1, i, j, e, q⟩ => ?_) (by rw [hs, hs2]) (by rw [hs2]; rfl)))⟩
  subst e
  rcases r1 with _ | ⟨⟨t, rfl⟩, rr⟩
  rcases rr with _ | ⟨⟨t', rfl⟩, rr⟩
  cases rr
  exact call_range_2 (range_any I1 q)
theorem pi_r3 {a b c : Expr} {ta : TA} {p pos : Pos} (hg : Gl X "range") (hm : X.mg "range" = none) (ha : PA X [a, b, c] ta)
    (hs : starEach [a, b, c] X.env = (false, eval a X.env) :: starEach [b, c] X.env) (hpl : (backTo pos (starEach [b, c] X.env)).any (·.1) = false) : PI X tg (.Call (.Name "range" p) [a, b, c] [] pos) (iR3 ta) := by
  refine ⟨fun pins s σ H R I h => Call_ (ld_blt I hg hm boot_range (PyProof.Rows.callWith_type1 (thn (ha.run pos pins s σ H _ I h) fun us s1 ⟨vs, H1, I1, r1, i, j, k, e, h1, h2, q⟩ => ?_) hs hpl))⟩
  subst e
  rcases r1 with _ | ⟨⟨t, rfl⟩, rr⟩
  rcases rr with _ | ⟨⟨t', rfl⟩, rr⟩
  rcases rr with _ | ⟨⟨t'', rfl⟩, rr⟩
  cases rr
  exact call_range_3 (by omega) (range_any (tk := s1.toks) I1 q) (.inl (PyProof.noPylong_small (by omega)))
end
structure Feeds (K : Frag) (ι : Lv) (H1 : Hp) (J : L2.It) (xs : List D) : Prop where
  go : ∀ H2 i, Ext ι.flat H1 H2 → i < xs.length → J.go i H2
  stop : ∀ H2 i, Ext ι.flat H1 H2 → xs.length ≤ i → J.stop i H2
  yld : ∀ H2 ι2 i u H3, i < xs.length → Ext ι.flat H1 H2 → Grow ι H1 ι2 → J.yld i H2 u H3 → Same H2 H3 ∧ ∃ x, xs[i]? = some x ∧ Dq K H3 ι2 u x
def outI (K : Frag) (XX : XR) (W : WX) (ι : Lv) (σ : St) (H : Hp) (R' : L2.It → Hp → Prop) : R (List D) → Prop
  | .ok xs st' => ∀ J H', CellR K H' ι st' → Ext ι H H' → Feeds K ι H' J xs → R' J H'
  | .exc e st' => ∀ cls d H', XX e cls d H' → CellR K H' ι st' → Ext ι H H' → W cls d σ H'
  | .bad => False
def rdI (K : Frag) (XX : XR) (W : WX) (mi : MI) : TI := fun σ H R' => ∃ ι env st, EnvR K H ι env σ ∧ CellR K H ι st ∧ outI K XX W ι σ H R' (mi env st)
abbrev SI (X : Cx) (XX : XR) (W : WX) (tg e : Expr) (mi : MI) : Prop := PI X tg e (rdI X.K XX W mi)
theorem feeds_list {K : Frag} {ι : Lv} {H : Hp} {a : Addr} {us : List V} {xs : List D} (r : LstAt K H ι a us) (d : DqAll K H ι us xs) : Feeds K ι H (Itl K a) xs := by
  refine ⟨fun H2 i ex hi => ?_, fun H2 i ex hi => ?_, fun H2 ι2 i u H3 hi ex g h => ?_⟩
  · have hi' : i < us.length := by rw [d.length]; exact hi
    exact ⟨us, us[i], (r.monoW ex (Grow.refl _ _)).sql, by simp [hi']⟩
  · exact ⟨us, (r.monoW ex (Grow.refl _ _)).sql, by rw [d.length]; exact hi⟩
  · obtain ⟨rfl, h⟩ := h
    have e := h us ((r.monoW ex (Grow.refl _ _)).sql)
    obtain ⟨u', e1, q⟩ := (d.monoW ex g).get (i := i) (d := xs[i]) (by simp [hi])
    rw [e] at e1
    cases e1
    exact ⟨same_refl _, xs[i], by simp [hi], q⟩
theorem feeds_tup {K : Frag} {ι : Lv} {H : Hp} {a : Addr} {us : List V} {xs : List D} (r : SqT K H a us) (d : DqAll K H ι us xs) : Feeds K ι H (Itt K a) xs := by
  refine ⟨fun H2 i ex hi => ?_, fun H2 i ex hi => ?_, fun H2 ι2 i u H3 hi ex g h => ?_⟩
  · have hi' : i < us.length := by rw [d.length]; exact hi
    exact ⟨us, us[i], ex.sqt r, by simp [hi']⟩
  · exact ⟨us, ex.sqt r, by rw [d.length]; exact hi⟩
  · obtain ⟨rfl, h⟩ := h
    have e := h us (ex.sqt r)
    obtain ⟨u', e1, q⟩ := (d.monoW ex g).get (i := i) (d := xs[i]) (by simp [hi])
    rw [e] at e1
    cases e1
    exact ⟨same_refl _, xs[i], by simp [hi], q⟩
theorem feeds_rng {K : Frag} {ι : Lv} {H : Hp} (lo hi c : Int) : Feeds K ι H (Itc lo c (Builtin.Range.rangeSize lo hi c).toNat) (rngL lo hi c) := by
  have hl : (rngL lo hi c).length = (Builtin.Range.rangeSize lo hi c).toNat := by unfold rngL; rw [List.length_map, List.length_range]
  refine ⟨fun H2 i ex hi => ?_, fun H2 i ex hi => ?_, fun H2 ι2 i u H3 hi ex g h => ?_⟩
  · rw [hl] at hi; exact hi
  · rw [hl] at hi; exact hi
  · obtain ⟨rfl, rfl⟩ := h
    refine ⟨same_refl _, .int (lo + (i : Nat) * c), ?_, .int _⟩
    rw [hl] at hi
    unfold rngL
    rw [List.getElem?_map, List.getElem?_range hi]
    rfl
theorem zip_get : ∀ (xs ys : List D) (i : Nat), (zipD xs ys)[i]? = (xs[i]?).bind fun x => (ys[i]?).map fun y => .tuple [x, y]
  | [], ys, i => by simp [zipD]
  | x :: xs, [], i => by simp [zipD]
  | x :: xs, y :: ys, 0 => by simp [zipD]
  | x :: xs, y :: ys, i + 1 => by
    have h := zip_get xs ys i
    simpa [zipD] using h
theorem zip_len (xs ys : List D) : (zipD xs ys).length = min xs.length ys.length := by simp [zipD]
theorem feeds_zip {K : Frag} {ι : Lv} {H : Hp} {a b : Addr} {us ws : List V} {xs ys : List D} (r : LstAt K H ι a us) (d : DqAll K H ι us xs) (r' : LstAt K H ι b ws) (d' : DqAll K H ι ws ys) : Feeds K ι H (Itz K a b) (zipD xs ys) := by
  have hl := zip_len xs ys
  have l1 := d.length
  have l2 := d'.length
  have q1 : ∀ {H2 : Hp}, Ext ι.flat H H2 → SqL K H2 a us := fun ex => (r.monoW ex (Grow.refl _ _)).sql
  have q2 : ∀ {H2 : Hp}, Ext ι.flat H H2 → SqL K H2 b ws := fun ex => (r'.monoW ex (Grow.refl _ _)).sql
  refine ⟨fun H2 i ex hi => ?_, fun H2 i ex hi => ?_, fun H2 ι2 i u H3 hi ex g h => ?_⟩
  · have h1 : i < us.length := by omega
    have h2 : i < ws.length := by omega
    exact ⟨us, ws, us[i], ws[i], q1 ex, q2 ex, by simp [h1], by simp [h2]⟩
  · exact ⟨us, ws, q1 ex, q2 ex, by omega⟩
  · obtain ⟨T, x, y, rfl, hT, rfl, h1, h2⟩ := h
    have e1 := h1 us (q1 ex)
    have e2 := h2 ws (q2 ex)
    have i1 : i < xs.length := by omega
    have i2 : i < ys.length := by omega
    obtain ⟨u1, k1, m1⟩ := (d.monoW ex g).get (i := i) (d := xs[i]) (by simp [i1])
    obtain ⟨u2, k2, m2⟩ := (d'.monoW ex g).get (i := i) (d := ys[i]) (by simp [i2])
    rw [e1] at k1
    rw [e2] at k2
    cases k1
    cases k2
    refine ⟨same_upd hT, .tuple [xs[i], ys[i]], ?_, new_tup (.cons m1 (.cons m2 .nil)) hT⟩
    rw [zip_get]
    simp [i1, i2]
theorem feeds_zipT {K : Frag} {ι : Lv} {H : Hp} {a b : Addr} {us ws : List V} {xs ys : List D} (r : SqT K H a us) (d : DqAll K H ι us xs) (r' : SqT K H b ws) (d' : DqAll K H ι ws ys) : Feeds K ι H (ItzT K a b) (zipD xs ys) := by
  have hl := zip_len xs ys
  have l1 := d.length
  have l2 := d'.length
  refine ⟨fun H2 i ex hi => ?_, fun H2 i ex hi => ?_, fun H2 ι2 i u H3 hi ex g h => ?_⟩
  · have h1 : i < us.length := by omega
    have h2 : i < ws.length := by omega
    exact ⟨us, ws, us[i], ws[i], ex.sqt r, ex.sqt r', by simp [h1], by simp [h2]⟩
  · exact ⟨us, ws, ex.sqt r, ex.sqt r', by omega⟩
  · obtain ⟨T, x, y, rfl, hT, rfl, h1, h2⟩ := h
    have e1 := h1 us (ex.sqt r)
    have e2 := h2 ws (ex.sqt r')
    have i1 : i < xs.length := by omega
    have i2 : i < ys.length := by omega
    obtain ⟨u1, k1, m1⟩ := (d.monoW ex g).get (i := i) (d := xs[i]) (by simp [i1])
    obtain ⟨u2, k2, m2⟩ := (d'.monoW ex g).get (i := i) (d := ys[i]) (by simp [i2])
    rw [e1] at k1
    rw [e2] at k2
    cases k1
    cases k2
    refine ⟨same_upd hT, .tuple [xs[i], ys[i]], ?_, new_tup (.cons m1 (.cons m2 .nil)) hT⟩
    rw [zip_get]
    simp [i1, i2]
theorem enum_get : ∀ (xs : List D) (k i : Nat), (enumL k xs)[i]? = xs[i]?.map fun x => .tuple [.int ((k + i : Nat) : Int), x]
  | [], k, i => by simp [enumL]
  | x :: xs, k, 0 => by simp [enumL]
  | x :: xs, k, i + 1 => by
    have h := enum_get xs (k + 1) i
    have e : k + 1 + i = k + (i + 1) := by omega
    rw [e] at h
    simpa [enumL] using h
theorem enum_len : ∀ (xs : List D) (k : Nat), (enumL k xs).length = xs.length
  | [], k => rfl
  | x :: xs, k => by simp [enumL, enum_len xs]
theorem feeds_enum {K : Frag} {ι : Lv} {H : Hp} {a : Addr} {us : List V} {xs : List D} (r : LstAt K H ι a us) (d : DqAll K H ι us xs) : Feeds K ι H (Ite K a) (enumL 0 xs) := by
  have l1 := d.length
  have hl := enum_len xs 0
  have q1 : ∀ {H2 : Hp}, Ext ι.flat H H2 → SqL K H2 a us := fun ex => (r.monoW ex (Grow.refl _ _)).sql
  refine ⟨fun H2 i ex hi => ?_, fun H2 i ex hi => ?_, fun H2 ι2 i u H3 hi ex g h => ?_⟩
  · have h1 : i < us.length := by omega
    exact ⟨us, us[i], q1 ex, by simp [h1]⟩
  · exact ⟨us, q1 ex, by omega⟩
  · obtain ⟨T, x, rfl, hT, rfl, h1⟩ := h
    have e1 := h1 us (q1 ex)
    have i1 : i < xs.length := by omega
    obtain ⟨u1, k1, m1⟩ := (d.monoW ex g).get (i := i) (d := xs[i]) (by simp [i1])
    rw [e1] at k1
    cases k1
    refine ⟨same_upd hT, .tuple [.int (i : Nat), xs[i]], ?_, new_tup (.cons (.int _) (.cons m1 .nil)) hT⟩
    rw [enum_get]
    simp [i1]
theorem feeds_enumT {K : Frag} {ι : Lv} {H : Hp} {a : Addr} {us : List V} {xs : List D} (r : SqT K H a us) (d : DqAll K H ι us xs) : Feeds K ι H (IteT K a) (enumL 0 xs) := by
  have l1 := d.length
  have hl := enum_len xs 0
  have q1 : ∀ {H2 : Hp}, Ext ι.flat H H2 → SqT K H2 a us := fun ex => ex.sqt r
  refine ⟨fun H2 i ex hi => ?_, fun H2 i ex hi => ?_, fun H2 ι2 i u H3 hi ex g h => ?_⟩
  · have h1 : i < us.length := by omega
    exact ⟨us, us[i], q1 ex, by simp [h1]⟩
  · exact ⟨us, q1 ex, by omega⟩
  · obtain ⟨T, x, rfl, hT, rfl, h1⟩ := h
    have e1 := h1 us (q1 ex)
    have i1 : i < xs.length := by omega
    obtain ⟨u1, k1, m1⟩ := (d.monoW ex g).get (i := i) (d := xs[i]) (by simp [i1])
    rw [e1] at k1
    cases k1
    refine ⟨same_upd hT, .tuple [.int (i : Nat), xs[i]], ?_, new_tup (.cons (.int _) (.cons m1 .nil)) hT⟩
    rw [enum_get]
    simp [i1]
section
variable {X : Cx} {XX : XR} {W : WX} {tg a b c : Expr} {es : List Expr} {pos p : Pos} {ma mb : ME} {ms : MEs}
theorem si_ex (ha : SE X XX W false a ma) : SI X XX W tg a (mItE ma) := by
  refine ⟨fun pins s σ H R' I h => ?_⟩
  obtain ⟨ι, env, st, he, hc, ho⟩ := h
  unfold mItE at ho
  generalize e : ma env st = r at ho
  have go : ∀ Q : VK, outE X.K XX W ι σ H false Q r → rdE X.K XX W false ma σ H Q := fun Q q => ⟨ι, env, st, he, hc, by rw [e]; exact q⟩
  cases r with
  | bad => exact False.elim ho
  | exc x st' => exact (pi_list ha).run pins s σ H R' I (go _ ho)
  | ok v st' =>
    cases v with
    | ref n => exact False.elim ho
    | clo k cs => exact False.elim ho
    | d x =>
      dsimp only [R.bind] at ho
      cases hx : items x with
      | none => rw [hx] at ho; exact False.elim ho
      | some xs =>
        rw [hx, R.of_some] at ho
        rcases items_inv hx with rfl | rfl
        · refine (pi_list ha).run pins s σ H R' I (go _ fun u H' rv cr ex _ => ?_)
          cases (show Dq X.K H' ι u (.list xs) from rv) with
          | lst r d => exact ⟨_, rfl, ⟨_, r.sql⟩, ho _ H' cr ex (feeds_list r d)⟩
        · refine (pi_tup ha).run pins s σ H R' I (go _ fun u H' rv cr ex _ => ?_)
          cases (show Dq X.K H' ι u (.tuple xs) from rv) with
          | tup r d => exact ⟨_, rfl, ⟨_, r⟩, ho _ H' cr ex (feeds_tup r d)⟩
theorem outA.bindI {K : Frag} {σ : St} {H : Hp} {ι : Lv} {env : Env} {st : Store} {m : MEs} {f : List Val → Store → R (List D)} {R' : L2.It → Hp → Prop} {Q' : List V → Hp → Prop} (ho : outI K XX W ι σ H R' ((m env st).bind f))
    (h : ∀ vs st' us H', RVs K H' ι vs us → CellR K H' ι st' → Ext ι H H' → outI K XX W ι σ H R' (f vs st') → Q' us H') : outA K XX W ι σ H Q' (m env st) := by
  generalize m env st = r at ho
  cases r with
  | ok v st' => exact fun u H' rv cr ex => h v st' u H' rv cr ex ho
  | exc e st' => exact ho
  | bad => exact ho
theorem PI.imp {e : Expr} {t t' : TI} (h : PI X tg e t) (i : ∀ σ H R', t' σ H R' → t σ H R') : PI X tg e t' := ⟨fun pins s σ H R' I q => h.run pins s σ H R' I (i _ _ _ q)⟩
theorem int_of {K : Frag} {H : Hp} {ι : Lv} {v : Val} {u : V} {i : Int} (e : v = .d (.int i)) (rv : RV K H ι v u) : u = .int i := by
  subst e
  have q : Dq K H ι u (.int i) := rv
  cases q
  rfl
theorem si_r1 (hg : Gl X "range") (hm : X.mg "range" = none) (ha : SA X XX W [a] ms) (hs : starEach [a] X.env = [(false, eval a X.env)]) (hone : ∀ env st vs st', ms env st = .ok vs st' → vs.length = 1) : SI X XX W tg (.Call (.Name "range" p) [a] [] pos) (mItR ms) :=
  PI.imp (pi_r1 hg hm ha hs) fun σ H R' ⟨ι, env, st, he, hc, ho⟩ => ⟨ι, env, st, he, hc, by
    unfold mItR at ho
    generalize e : ms env st = r at ho
    cases r with
    | bad => exact ho
    | exc x st' => exact ho
    | ok vs st' =>
      intro us H' rvs cr ex
      have h1 := hone _ _ _ _ e
      match vs, h1, rvs, ho with
      | [v], _, .cons rv .nil, ho =>
        dsimp only [R.bind] at ho
        split at ho
        · rename_i j e2
          injection e2 with e2 _
          exact ⟨j, by rw [int_of e2 rv], ho _ H' cr ex (feeds_rng _ _ _)⟩
        · rename_i e2; cases e2
        · rename_i e2; cases e2
        · exact False.elim ho⟩
theorem si_r2 (hg : Gl X "range") (hm : X.mg "range" = none) (ha : SA X XX W [a, b] ms) (hs : starEach [a, b] X.env = [(false, eval a X.env), (false, eval b X.env)]) (hs2 : starEach [b] X.env = [(false, eval b X.env)]) (hone : ∀ env st vs st', ms env st = .ok vs st' → vs.length = 2) : SI X XX W tg (.Call (.Name "range" p) [a, b] [] pos) (mItR ms) :=
  PI.imp (pi_r2 hg hm ha hs hs2) fun σ H R' ⟨ι, env, st, he, hc, ho⟩ => ⟨ι, env, st, he, hc, by
    unfold mItR at ho
    generalize e : ms env st = r at ho
    cases r with
    | bad => exact ho
    | exc x st' => exact ho
    | ok vs st' =>
      intro us H' rvs cr ex
      have h1 := hone _ _ _ _ e
      match vs, h1, rvs, ho with
      | [v, w], _, .cons rv (.cons rw .nil), ho =>
        dsimp only [R.bind] at ho
        split at ho
        · rename_i e2; cases e2
        · rename_i i j e2
          injection e2 with e2 e3
          injection e3 with e3 _
          exact ⟨i, j, by rw [int_of e2 rv, int_of e3 rw], ho _ H' cr ex (feeds_rng _ _ _)⟩
        · rename_i e2; cases e2
        · exact False.elim ho⟩
theorem si_r3 (hg : Gl X "range") (hm : X.mg "range" = none) (ha : SA X XX W [a, b, c] ms) (hs : starEach [a, b, c] X.env = (false, eval a X.env) :: starEach [b, c] X.env) (hpl : (backTo pos (starEach [b, c] X.env)).any (·.1) = false) (hone : ∀ env st vs st', ms env st = .ok vs st' → vs.length = 3) : SI X XX W tg (.Call (.Name "range" p) [a, b, c] [] pos) (mItR ms) :=
  PI.imp (pi_r3 hg hm ha hs hpl) fun σ H R' ⟨ι, env, st, he, hc, ho⟩ => ⟨ι, env, st, he, hc, by
    unfold mItR at ho
    generalize e : ms env st = r at ho
    cases r with
    | bad => exact ho
    | exc x st' => exact ho
    | ok vs st' =>
      intro us H' rvs cr ex
      have h1 := hone _ _ _ _ e
      match vs, h1, rvs, ho with
      | [v, w, z], _, .cons rv (.cons rw (.cons rz .nil)), ho =>
        dsimp only [R.bind] at ho
        split at ho
        · rename_i e2; cases e2
        · rename_i e2; cases e2
        · rename_i i j k e2
          injection e2 with e2 e3
          injection e3 with e3 e4
          injection e4 with e4 _
          split at ho
          · rename_i hk
            exact ⟨i, j, k, by rw [int_of e2 rv, int_of e3 rw, int_of e4 rz], hk.1, hk.2, ho _ H' cr ex (feeds_rng _ _ _)⟩
          · exact False.elim ho
        · exact False.elim ho⟩
theorem si_zip {elts : List Expr} {kk : Nat} {tpos : Pos} (hg : Gl X "zip") (hm : X.mg "zip" = none) (ha : SE X XX W false a ma) (hb : SE X XX W false b mb) (hs : starEach [a, b] X.env = (false, eval a X.env) :: starEach [b] X.env) (hs2 : starEach [b] X.env = (false, eval b X.env) :: starEach [] X.env)
    (hpl : (backTo pos (starEach [b] X.env)).any (·.1) = false) : SI X XX W (.Tuple elts kk tpos) (.Call (.Name "zip" p) [a, b] [] pos) (mItZ ma mb) :=
  PI.imp (pi_zipA hg hm (pa_cons ha (pa_cons hb pa_nil hs2) hs) hs hpl) fun σ H R' ⟨ι, env, st, he, hc, ho⟩ => ⟨ι, env, st, he, hc, by
    unfold mItZ at ho
    generalize e : ma env st = r at ho
    cases r with
    | bad => exact ho
    | exc x st' => exact ho
    | ok v st1 =>
      intro u H1 rv cr ex _
      refine ⟨ι, env, st1, he.mono' ex, cr, ?_⟩
      dsimp only [R.bind] at ho
      generalize e : mb env st1 = r2 at ho
      cases r2 with
      | bad => exact ho
      | exc x st' => exact fun cls d H' q c2 ex2 => ho cls d H' q c2 (ex.trans' ex2)
      | ok w st2 =>
        intro u2 H2 rv2 cr2 ex2 _
        have rv' := rv.mono ex2 (Grow.refl _ _)
        dsimp only at ho
        split at ho
        · cases (show Dq X.K H2 ι u (.list _) from rv') with
          | lst r d => cases (show Dq X.K H2 ι u2 (.list _) from rv2) with
            | lst r' d' => exact ⟨_, _, _, _, rfl, .inl ⟨r.sql, r'.sql, ho _ H2 cr2 (ex.trans' ex2) (feeds_zip r d r' d')⟩⟩
        · cases (show Dq X.K H2 ι u (.tuple _) from rv') with
          | tup r d => cases (show Dq X.K H2 ι u2 (.tuple _) from rv2) with
            | tup r' d' => exact ⟨_, _, _, _, rfl, .inr ⟨r, r', ho _ H2 cr2 (ex.trans' ex2) (feeds_zipT r d r' d')⟩⟩
        · exact False.elim ho⟩
theorem si_enum {elts : List Expr} {kk : Nat} {tpos : Pos} (hg : Gl X "enumerate") (hm : X.mg "enumerate" = none) (ha : SE X XX W false a ma) (hs : starEach [a] X.env = [(false, eval a X.env)]) : SI X XX W (.Tuple elts kk tpos) (.Call (.Name "enumerate" p) [a] [] pos) (mItN ma) :=
  PI.imp (pi_enum2 hg hm (pa_cons ha pa_nil hs) hs) fun σ H R' ⟨ι, env, st, he, hc, ho⟩ => ⟨ι, env, st, he, hc, by
    unfold mItN at ho
    generalize e : ma env st = r at ho
    cases r with
    | bad => exact ho
    | exc x st' => exact ho
    | ok v st1 =>
      intro u H1 rv cr ex _
      dsimp only [R.bind] at ho
      split at ho
      · cases (show Dq X.K H1 ι u (.list _) from rv) with
        | lst r d => exact ⟨_, _, rfl, .inl ⟨r.sql, ho _ H1 cr ex (feeds_enum r d)⟩⟩
      · cases (show Dq X.K H1 ι u (.tuple _) from rv) with
        | tup r d => exact ⟨_, _, rfl, .inr ⟨r, ho _ H1 cr ex (feeds_enumT r d)⟩⟩
      · exact False.elim ho⟩
end
end Mi
end
section
set_option maxHeartbeats 1000000
namespace Mi
open PySem PySem.Spec PyProof.Rows L2
theorem wipe_out : ∀ (own : List Nat) (σ : St) (i : Nat) (x : Option V), i ∉ own → wipe (σ.set i x) own = (wipe σ own).set i x
  | [], σ, i, x, _ => rfl
  | v :: vs, σ, i, x, h => by
    have h1 : i ≠ v := fun z => h (z ▸ List.mem_cons_self)
    show (wipe (σ.set i x) vs).set v none = ((wipe σ vs).set v none).set i x
    rw [wipe_out vs σ i x fun z => h (List.mem_cons_of_mem _ z), List.set_comm _ _ h1]
theorem wipe_in : ∀ (own : List Nat) (σ : St) (i : Nat) (x : Option V), i ∈ own → wipe (σ.set i x) own = wipe σ own
  | [], _, _, _, h => by cases h
  | v :: vs, σ, i, x, h => by
    show (wipe (σ.set i x) vs).set v none = (wipe σ vs).set v none
    by_cases hi : i ∈ vs
    · rw [wipe_in vs σ i x hi]
    · have e : i = v := (List.mem_cons.mp h).resolve_right hi
      subst e
      rw [wipe_out vs σ i x hi, List.set_set]
theorem wipe_idem (σ : St) (own : List Nat) : wipe (wipe σ own) own = wipe σ own := by
  have h : ∀ (vs : List Nat), (∀ v ∈ vs, v ∈ own) → ∀ τ : St, wipe (wipe τ vs) own = wipe τ own := by
    intro vs
    induction vs with
    | nil => intro _ _; rfl
    | cons v vs ih =>
      intro hv τ
      show wipe ((wipe τ vs).set v none) own = _
      rw [wipe_in own _ v none (hv v List.mem_cons_self)]
      exact ih (fun w hw => hv w (List.mem_cons_of_mem _ hw)) τ
  exact h own (fun _ z => z) σ
def Tg.slots : Tg → List Nat
  | .nm i => [i]
  | .tp is => is
def gNs : List Nat → TGs
  | [] => gNil
  | i :: is => gCons (gName i) (gNs is)
def gT (K : Frag) : Tg → TG
  | .nm i => gName i
  | .tp is => gTup K is.length (gNs is)
section
variable {K : Frag} {H : Hp} {ι : Lv}
theorem gNs_ok {Q : St → Hp → Prop} : ∀ {is : List Nat} {xs : List D} {us : List V} {σ : St} {env env1 : Env}, EnvR K H ι env σ → DqAll K H ι us xs → setAll env is xs = some env1 →
    (∀ σ1, EnvR K H ι env1 σ1 → (∀ own : List Nat, (∀ i ∈ is, i ∈ own) → wipe σ1 own = wipe σ own) → Q σ1 H) → gNs is us σ H Q
  | [], [], [], σ, env, env1, he, .nil, e, h => by
    cases e
    exact ⟨rfl, h σ he fun _ _ => rfl⟩
  | i :: is, x :: xs, u :: us, σ, env, env1, he, .cons d t, e, h => by
    refine ⟨u, us, rfl, ?_⟩
    refine gNs_ok (he.set i (v := .d x) d) t e fun σ1 h1 h2 => h σ1 h1 fun own ho => ?_
    rw [h2 own fun j hj => ho j (List.mem_cons_of_mem _ hj), wipe_in own σ i _ (ho i List.mem_cons_self)]
  | [], _ :: _, _ :: _, _, _, _, _, _, e, _ => by cases e
  | _ :: _, [], [], _, _, _, _, _, e, _ => by cases e
theorem setAll_len : ∀ {is : List Nat} {xs : List D} {env env1 : Env}, setAll env is xs = some env1 → xs.length = is.length
  | [], [], _, _, _ => rfl
  | i :: is, x :: xs, env, env1, e => by
    have := setAll_len (is := is) (xs := xs) e
    simp [this]
  | [], _ :: _, _, _, e => by cases e
  | _ :: _, [], _, _, e => by cases e
theorem gT_ok {Q : St → Hp → Prop} {t : Tg} {x : D} {u : V} {σ : St} {env env1 : Env} (he : EnvR K H ι env σ) (d : Dq K H ι u x) (e : tset t env x = some env1)
    (h : ∀ σ1, EnvR K H ι env1 σ1 → (∀ own : List Nat, (∀ i ∈ t.slots, i ∈ own) → wipe σ1 own = wipe σ own) → Q σ1 H) : gT K t u σ H Q := by
  cases t with
  | nm i =>
    cases e
    refine h _ (he.set i (v := .d x) d) fun own ho => wipe_in own σ i _ (ho i (by simp [Tg.slots]))
  | tp is =>
    cases x with
    | tuple xs =>
      cases d with
      | tup r d => exact ⟨_, _, rfl, r, by rw [d.length]; exact setAll_len e, gNs_ok he d e h⟩
    | _ => cases e
end
theorem dq_write {K : Frag} {H : Hp} {ι : Lv} {a : Addr} {us us' : List V} (ha : a ∈ ι.all) (e : H a = some (.lst us)) {u : V} {x : D} (d : Dq K H ι u x) : Dq K (upd H a (.lst us')) ι u x := by
  have hl : ∀ b, b ∈ (Lv.mk (ι.i ++ ι.x) []).all → b ∈ ι.all := fun b hb => by simpa [Lv.all] using hb
  have hl' : ∀ b, b ∈ ι.all → b ∈ (Lv.mk (ι.i ++ ι.x) []).all := fun b hb => by simpa [Lv.all] using hb
  have ex : Ext (Lv.mk (ι.i ++ ι.x) []) H (upd H a (.lst us')) := by
    refine ⟨fun b o q _ hn => ?_, fun b ws q => ?_, fun b o w q => ?_, fun b n => ?_⟩
    · rw [upd_ne (fun z : b = a => hn (by rw [z]; exact ha))]; exact q
    · rw [upd_ne (fun z => by rw [z, e] at q; cases q)]; exact q
    · rw [upd_ne (fun z => by rw [z, e] at q; cases q)]; exact q
    · by_cases hb : b = a
      · rw [hb, upd_same]; simp
      · rw [upd_ne hb]; exact n
  exact ((d.less hl).mono ex (Grow.refl _ _)).less hl'
theorem dqs_write {K : Frag} {H : Hp} {ι : Lv} {a : Addr} {us us' : List V} (ha : a ∈ ι.all) (e : H a = some (.lst us)) : ∀ {ws : List V} {xs : List D}, DqAll K H ι ws xs → DqAll K (upd H a (.lst us')) ι ws xs
  | _, _, .nil => .nil
  | _, _, .cons d t => .cons (dq_write ha e d) (dqs_write ha e t)
/-- what a comprehension's conditions ask -/
def rdC (K : Frag) (XX : XR) : Option ME → TT
  | none => tYes
  | some m => rdT K XX (fun _ _ _ _ => False) m
abbrev WF : WX := fun _ _ _ _ => False
section
variable {X : Cx} {XX : XR} {W : WX}
theorem R.bind_ok_inv {α β : Type} {r : R α} {f : α → Store → R β} {b : β} {st : Store} (h : r.bind f = .ok b st) : ∃ a st1, r = .ok a st1 ∧ f a st1 = .ok b st := by
  cases r with
  | ok a st1 => exact ⟨a, st1, rfl, h⟩
  | exc e st1 => cases h
  | bad => cases h
theorem R.of_inv {α β : Type} {o : Option α} {f : α → R β} {b : β} {st : Store} (h : R.of o f = .ok b st) : ∃ a, o = some a ∧ f a = .ok b st := by
  cases o with
  | none => cases h
  | some a => exact ⟨a, rfl, h⟩
theorem cell_less {K : Frag} {H : Hp} {i : List Addr} {x : List Addr} {p : Addr} {st : Store} (c : CellR K H ⟨i, p :: x⟩ st) : CellR K H ⟨i, x⟩ st :=
  ⟨c.len, c.nd, fun a ha => c.xs a (List.mem_cons_of_mem _ ha), fun a ha => c.ix a (List.mem_cons_of_mem _ ha), fun n xs a e1 e2 => by
    obtain ⟨us, e, d⟩ := c.at_ n xs a e1 e2
    refine ⟨us, e, d.less fun b hb => ?_⟩
    rcases List.mem_append.mp hb with z | z
    · exact List.mem_append_left _ z
    · exact List.mem_append_right _ (List.mem_cons_of_mem _ z)⟩
/-- the new list of a comprehension is written: the cells are as they were -/
theorem cell_wr {K : Frag} {H : Hp} {ι : Lv} {st : Store} {p : Addr} {us us' : List V} (c : CellR K H ι st) (hp : p ∈ ι.x) (e : H p = some (.lst us)) : CellR K (upd H p (.lst us')) ι st := by
  have hpi := c.ix p hp
  refine ⟨c.len, c.nd, fun a ha => ?_, c.ix, fun n xs a e1 e2 => ?_⟩
  · by_cases h : a = p
    · rw [h, upd_same]; simp
    · rw [upd_ne h]; exact c.xs a ha
  · obtain ⟨ws, e3, d⟩ := c.at_ n xs a e1 e2
    have ha : a ≠ p := fun z => hpi (z ▸ List.mem_of_getElem? e2)
    exact ⟨ws, by rw [upd_ne ha]; exact e3, dqs_write (List.mem_append_right _ hp) e d⟩
theorem rd_lc {K : Frag} {own : List Nat} {t : Tg} {mi : MI} {mc : Option ME} {me : ME} {fr : Bool} {σ : St} {H : Hp} {Q : VK} (hsl : ∀ i ∈ t.slots, i ∈ own) (h : rdE K XX W fr (mLc own t mi mc me) σ H Q) :
    tLc (rdI K XX W mi) (gT K t) (rdC K XX mc) (rdE K XX WF false me) own σ H Q := by
  obtain ⟨ι, env, st, hen, hce, ho⟩ := h
  refine ⟨ι, env, st, hen, hce, ?_⟩
  unfold mLc at ho
  generalize e0 : mi env st = r at ho
  cases r with
  | bad => exact ho
  | exc e st' => exact False.elim ho
  | ok xs st1 =>
  intro J H1 cr ex fd D hD
  dsimp only [R.bind] at ho
  generalize e1 : lcGo t mc me (wipeE env own) xs [] st1 = r2 at ho
  cases r2 with
  | bad => exact False.elim ho
  | exc e st' => exact False.elim ho
  | ok ys st2 =>
  dsimp only [noExc] at ho
  obtain ⟨c0, g0⟩ := cell_new (o := .lst []) cr hD
  have hDi : D ∉ ι.i := fun z => cr.dom D (List.mem_append_left _ z) hD
  have hDa : D ∉ ι.all := fun z => cr.dom D z hD
  have hDx : D ∈ (Lv.mk ι.i (D :: ι.x)).x := List.mem_cons_self
  have he1 : EnvR K H1 ι env σ := hen.mono' ex
  refine ⟨fun i m Hc => m = xs.length - i ∧ i ≤ xs.length ∧ ∃ us ds sti, Hc D = some (.lst us) ∧ DqAll K Hc ⟨ι.i, D :: ι.x⟩ us ds ∧ CellR K Hc ⟨ι.i, D :: ι.x⟩ sti ∧ Ext ι H1 Hc ∧ lcGo t mc me (wipeE env own) (xs.drop i) ds sti = .ok ys st2,
    ⟨xs.length, by simp, Nat.zero_le _, [], [], st1, upd_same, .nil, c0, Ext.of (same_upd hD), by simpa using e1⟩, ?_⟩
  rintro i m Hc ⟨rfl, hi, us, ds, sti, hL, dq, cc, ec, e2⟩
  by_cases hlt : i < xs.length
  · refine .inr ⟨fd.go Hc i ec.flat hlt, fun H' => ∃ m', m' < xs.length - i ∧ (m' = xs.length - (i + 1) ∧ i + 1 ≤ xs.length ∧ ∃ us ds sti, H' D = some (.lst us) ∧ DqAll K H' ⟨ι.i, D :: ι.x⟩ us ds ∧ CellR K H' ⟨ι.i, D :: ι.x⟩ sti ∧ Ext ι H1 H' ∧ lcGo t mc me (wipeE env own) (xs.drop (i + 1)) ds sti = .ok ys st2), fun H' q => q, fun u H' hy => ?_⟩
    obtain ⟨sm, x, ex1, dx⟩ := fd.yld Hc ⟨ι.i, D :: ι.x⟩ i u H' hlt ec.flat g0 hy
    have ed : xs.drop i = x :: xs.drop (i + 1) := by
      rw [List.drop_eq_getElem_cons hlt]
      rw [List.getElem?_eq_getElem hlt] at ex1
      rw [Option.some.inj ex1]
    rw [ed] at e2
    unfold lcGo at e2
    obtain ⟨env1, et, e2⟩ := R.of_inv e2
    have ec' : Ext ι H1 H' := ec.trans' (Ext.of sm)
    have hw : EnvR K H' ⟨ι.i, D :: ι.x⟩ (wipeE env own) (wipe σ own) := (he1.mono ec' g0).wipe _
    refine gT_ok hw dx et fun σ1 hs1 hw1 => ⟨by rw [hw1 _ hsl, wipe_idem], ?_⟩
    have cc' := cc.same sm
    have hL' := sm _ _ hL
    have dq' := dq.mono (Ext.of (ι := ⟨ι.i, D :: ι.x⟩) sm) (Grow.refl _ _)
    have goal : ∀ (b : Bool) (H3 : Hp) (st3 : Store), CellR K H3 ⟨ι.i, D :: ι.x⟩ st3 → Ext ⟨ι.i, D :: ι.x⟩ H' H3 →
        (match (Val.d (.bool b)) with
        | .d (.bool true) => (me env1 st3).bind fun v st2 => match v with
          | .d y => if ds.length < sizeLine then lcGo t mc me (wipeE env own) (xs.drop (i + 1)) (ds ++ [y]) st2 else .bad
          | _ => .bad
        | .d (.bool false) => lcGo t mc me (wipeE env own) (xs.drop (i + 1)) ds st3
        | _ => .bad) = .ok ys st2 →
        (if b = true then rdE K XX WF false me σ1 H3 (fun y H4 => ∃ acc, H4 D = some (.lst acc) ∧ acc.length < sizeLine ∧ ∃ m', m' < xs.length - i ∧ (m' = xs.length - (i + 1) ∧ i + 1 ≤ xs.length ∧ ∃ us ds sti, (upd H4 D (.lst (acc ++ [y]))) D = some (.lst us) ∧ DqAll K (upd H4 D (.lst (acc ++ [y]))) ⟨ι.i, D :: ι.x⟩ us ds ∧ CellR K (upd H4 D (.lst (acc ++ [y]))) ⟨ι.i, D :: ι.x⟩ sti ∧ Ext ι H1 (upd H4 D (.lst (acc ++ [y]))) ∧ lcGo t mc me (wipeE env own) (xs.drop (i + 1)) ds sti = .ok ys st2))
        else ∃ m', m' < xs.length - i ∧ (m' = xs.length - (i + 1) ∧ i + 1 ≤ xs.length ∧ ∃ us ds sti, H3 D = some (.lst us) ∧ DqAll K H3 ⟨ι.i, D :: ι.x⟩ us ds ∧ CellR K H3 ⟨ι.i, D :: ι.x⟩ sti ∧ Ext ι H1 H3 ∧ lcGo t mc me (wipeE env own) (xs.drop (i + 1)) ds sti = .ok ys st2)) := by
      intro b H3 st3 c3 ex3 e3
      have hL3 : H3 D = some (.lst us) := ex3.keep _ _ hL' (fun ps => by simp) hDi
      have dq3 := dq'.mono ex3 (Grow.refl _ _)
      have ec3 : Ext ι H1 H3 := Ext.trans g0 ec' ex3
      cases b with
      | false =>
        rw [if_neg Bool.false_ne_true]
        exact ⟨_, by omega, rfl, by omega, us, ds, st3, hL3, dq3, c3, ec3, e3⟩
      | true =>
        rw [if_pos rfl]
        dsimp only at e3
        obtain ⟨v, st4, e4, e5⟩ := R.bind_ok_inv e3
        refine ⟨⟨ι.i, D :: ι.x⟩, env1, st3, hs1.mono' ex3, c3, ?_⟩
        rw [e4]
        intro y H4 rv c4 ex4 _
        cases v with
        | ref n => cases e5
        | clo k cs => cases e5
        | d z =>
        dsimp only at e5
        split at e5
        case isFalse => cases e5
        rename_i hz
        have hL4 : H4 D = some (.lst us) := ex4.keep _ _ hL3 (fun ps => by simp) hDi
        have dq4 := dq3.mono ex4 (Grow.refl _ _)
        have hall : D ∈ (Lv.mk ι.i (D :: ι.x)).all := List.mem_append_right _ hDx
        have ec4 : Ext ι H1 H4 := Ext.trans g0 ec3 ex4
        have nD : ∀ b, H1 b ≠ none → b ≠ D := fun b h z => h (z ▸ hD)
        refine ⟨us, hL4, by rw [dq.length]; exact hz, _, by omega, rfl, by omega, us ++ [y], ds ++ [z], st4, upd_same, ?_, cell_wr c4 hDx hL4, ?_, e5⟩
        · exact (dqs_write hall hL4 dq4).append (.cons (dq_write hall hL4 rv) .nil)
        · refine ⟨fun b o q np hn => ?_, fun b ws q => ?_, fun b o w q => ?_, fun b n => ?_⟩
          · rw [upd_ne (nD b (by rw [q]; simp))]; exact ec4.keep b o q np hn
          · rw [upd_ne (nD b (by rw [q]; simp))]; exact ec4.tup b ws q
          · rw [upd_ne (nD b (by rw [q]; simp))]; exact ec4.frz b o w q
          · rw [upd_ne (nD b n)]; exact ec4.dom b n
    cases mc with
    | none =>
      exact goal true H' sti cc' (Ext.refl _ _) e2
    | some mcc =>
      obtain ⟨v, st3, e4, e5⟩ := R.bind_ok_inv e2
      have e4 : mcc env1 sti = .ok v st3 := e4
      refine ⟨⟨ι.i, D :: ι.x⟩, env1, sti, hs1, cc', ?_⟩
      rw [e4]
      cases v with
      | ref n => cases e5
      | clo k cs => cases e5
      | d z =>
        cases z with
        | bool b => exact fun H3 c3 ex3 => goal b H3 st3 c3 ex3 (by cases b <;> exact e5)
        | _ => cases e5
  · have ei : i = xs.length := by omega
    subst ei
    rw [List.drop_length] at e2
    unfold lcGo at e2
    cases e2
    refine .inl ⟨fd.stop Hc _ ec.flat (Nat.le_refl _), ?_⟩
    refine ho (.ref D) Hc (.lst (.inl ⟨.inl hL, hDa⟩) (dq.less fun b hb => ?_)) (cell_less cc) (ex.trans' ec) fun _ a xs e1 e => ?_
    · rcases List.mem_append.mp hb with z | z
      · exact List.mem_append_left _ z
      · exact List.mem_append_right _ (List.mem_cons_of_mem _ z)
    · cases e
      injection e1 with e1
      injection e1 with e1
      subst e1
      exact ⟨ex.back hD, _, hL, cc, dq⟩
theorem se_lc {elt tg iter : Expr} {ifs : List Expr} {scope : Scope} {own : List (Str × Nat)} {pos : Pos} {t : Tg} {mi : MI} {mc : Option ME} {me : ME} (hc : X.calm = true) (hN : X.N.Nodup) (hi : SI X XX W tg iter mi) (ok : BlkOk X.N X.env.scope scope own)
    (hg : ∀ (s : Shared) (H : Hp) (C : Addr) (cl : List (Str × Addr)) (fp : List Addr), PG (X.blk s H scope (PySem.compEnvC scope cl C X.env) fp) tg (gT X.K t))
    (ht : ∀ (s : Shared) (H : Hp) (C : Addr) (cl : List (Str × Addr)) (fp : List Addr), PTs (X.blk s H scope (PySem.compEnvC scope cl C X.env) fp) ifs (rdC X.K XX mc))
    (he : ∀ (s : Shared) (H : Hp) (C : Addr) (cl : List (Str × Addr)) (fp : List Addr), PE (X.blk s H scope (PySem.compEnvC scope cl C X.env) fp) elt (rdE X.K XX WF false me))
    (hs : ∀ x, foldedSetIterable iter X.env x = pure x) (hsl : ∀ i ∈ t.slots, i ∈ own.map (·.2)) {fr : Bool} :
    SE X XX W fr (.ListComp elt [⟨tg, iter, ifs, 0⟩] scope pos) (mLc (own.map (·.2)) t mi mc me) :=
  PE.imp (pe_lc hc hN hi ok hg ht he hs) fun _ _ _ h => rd_lc hsl h
theorem RV.wr {K : Frag} {H : Hp} {ι : Lv} {D : Addr} {us us' : List V} (hD : D ∈ ι.x) (e : H D = some (.lst us)) {v : Val} {u : V} (h : RV K H ι v u) : RV K (upd H D (.lst us')) ι v u := by
  cases v with
  | d y => exact dq_write (List.mem_append_right _ hD) e h
  | ref n => exact h
  | clo k c => exact h
theorem EnvR.wr {K : Frag} {H : Hp} {ι : Lv} {D : Addr} {us us' : List V} (hD : D ∈ ι.x) (e : H D = some (.lst us)) {env : Env} {σ : St} (h : EnvR K H ι env σ) : EnvR K (upd H D (.lst us')) ι env σ := ⟨h.len, fun i v q => by
  obtain ⟨u, e1, r⟩ := h.at_ i v q
  exact ⟨u, e1, r.wr hD e⟩⟩
theorem ext_wr {H : Hp} {ι : Lv} {D : Addr} {us us' : List V} (hD : D ∈ ι.x) (e : H D = some (.lst us)) : Ext ι.flat H (upd H D (.lst us')) := by
  refine ⟨fun b o q _ hn => ?_, fun b ws q => ?_, fun b o w q => ?_, fun b n => ?_⟩
  · rw [upd_ne (fun z : b = D => hn (by rw [z]; exact List.mem_append_right _ hD))]; exact q
  · rw [upd_ne (fun z => by rw [z, e] at q; cases q)]; exact q
  · rw [upd_ne (fun z => by rw [z, e] at q; cases q)]; exact q
  · by_cases hb : b = D
    · rw [hb, upd_same]; simp
    · rw [upd_ne hb]; exact n
/-- the new list D as it stands between two turns -/
structure Half (K : Frag) (ι : Lv) (H1 : Hp) (D : Addr) (H : Hp) (ds : List Mi.D) (st : Store) : Prop where
  lst : ∃ us, H D = some (.lst us) ∧ DqAll K H ⟨ι.i, D :: ι.x⟩ us ds
  cel : CellR K H ⟨ι.i, D :: ι.x⟩ st
  ext : Ext ι H1 H
theorem Half.more {K : Frag} {ι : Lv} {H1 : Hp} {D : Addr} {H H' : Hp} {ds : List Mi.D} {st st' : Store} (h : Half K ι H1 D H ds st) (g : Grow ι H1 ⟨ι.i, D :: ι.x⟩) (hDi : D ∉ ι.i) (c : CellR K H' ⟨ι.i, D :: ι.x⟩ st') (x : Ext ⟨ι.i, D :: ι.x⟩ H H') : Half K ι H1 D H' ds st' := by
  obtain ⟨us, e, d⟩ := h.lst
  exact ⟨⟨us, x.keep _ _ e (fun ps => by simp) hDi, d.mono x (Grow.refl _ _)⟩, c, Ext.trans g h.ext x⟩
theorem Half.app {K : Frag} {ι : Lv} {H1 : Hp} {D : Addr} {H : Hp} {ds : List Mi.D} {st : Store} {y : V} {z : Mi.D} (h : Half K ι H1 D H ds st) (hD : H1 D = none) (hDi : D ∉ ι.i) (d : Dq K H ⟨ι.i, D :: ι.x⟩ y z) (hz : ds.length < sizeLine) :
    ∃ acc, H D = some (.lst acc) ∧ acc.length < sizeLine ∧ Half K ι H1 D (upd H D (.lst (acc ++ [y]))) (ds ++ [z]) st := by
  obtain ⟨us, e, dq⟩ := h.lst
  have hDx : D ∈ (Lv.mk ι.i (D :: ι.x)).x := List.mem_cons_self
  have hall : D ∈ (Lv.mk ι.i (D :: ι.x)).all := List.mem_append_right _ hDx
  have nD : ∀ b, H1 b ≠ none → b ≠ D := fun b h z => h (z ▸ hD)
  refine ⟨us, e, by rw [dq.length]; exact hz, ⟨⟨us ++ [y], upd_same, (dqs_write hall e dq).append (.cons (dq_write hall e d) .nil)⟩, cell_wr h.cel hDx e, ?_⟩⟩
  refine ⟨fun b o q np hn => ?_, fun b ws q => ?_, fun b o w q => ?_, fun b n => ?_⟩
  · rw [upd_ne (nD b (by rw [q]; simp))]; exact h.ext.keep b o q np hn
  · rw [upd_ne (nD b (by rw [q]; simp))]; exact h.ext.tup b ws q
  · rw [upd_ne (nD b (by rw [q]; simp))]; exact h.ext.frz b o w q
  · rw [upd_ne (nD b n)]; exact h.ext.dom b n
theorem rd_lc2 {K : Frag} {own own1 : List Nat} {t t1 : Tg} {mi mi1 : MI} {me : ME} {σ : St} {H : Hp} {Q : VK} (hsl : ∀ i ∈ t.slots, i ∈ own) (hsl1 : ∀ i ∈ t1.slots, i ∈ own1) (h : rdE K XX W false (mLc2 own own1 t mi t1 mi1 me) σ H Q) :
    tLc2 (rdI K XX W mi) (gT K t) tYes (rdI K XX WF mi1) (gT K t1) tYes (rdE K XX WF false me) own own1 σ H Q := by
  obtain ⟨ι, env, st, hen, hce, ho⟩ := h
  refine ⟨ι, env, st, hen, hce, ?_⟩
  unfold mLc2 at ho
  generalize e0 : mi env st = r at ho
  cases r with
  | bad => exact ho
  | exc e st' => exact False.elim ho
  | ok xs st1 =>
  intro J H1 cr ex fd D hD
  dsimp only [R.bind] at ho
  generalize e1 : lc2Go own1 t mi1 t1 me (wipeE env own) xs [] st1 = r2 at ho
  cases r2 with
  | bad => exact False.elim ho
  | exc e st' => exact False.elim ho
  | ok ys st2 =>
  dsimp only [noExc] at ho
  obtain ⟨c0, g0⟩ := cell_new (o := .lst []) cr hD
  have hDi : D ∉ ι.i := fun z => cr.dom D (List.mem_append_left _ z) hD
  have hDa : D ∉ ι.all := fun z => cr.dom D z hD
  have hDx : D ∈ (Lv.mk ι.i (D :: ι.x)).x := List.mem_cons_self
  have he1 : EnvR K H1 ι env σ := hen.mono' ex
  refine ⟨fun i m Hc => m = xs.length - i ∧ i ≤ xs.length ∧ ∃ ds sti, Half K ι H1 D Hc ds sti ∧ lc2Go own1 t mi1 t1 me (wipeE env own) (xs.drop i) ds sti = .ok ys st2,
    ⟨xs.length, by simp, Nat.zero_le _, [], st1, ⟨⟨[], upd_same, .nil⟩, c0, Ext.of (same_upd hD)⟩, by simpa using e1⟩, ?_⟩
  rintro i m Hc ⟨rfl, hi, ds, sti, hf, e2⟩
  by_cases hlt : i < xs.length
  · refine .inr ⟨fd.go Hc i hf.ext.flat hlt, fun H' => ∃ m', m' < xs.length - i ∧ (m' = xs.length - (i + 1) ∧ i + 1 ≤ xs.length ∧ ∃ ds sti, Half K ι H1 D H' ds sti ∧ lc2Go own1 t mi1 t1 me (wipeE env own) (xs.drop (i + 1)) ds sti = .ok ys st2), fun H' q => q, fun u H' hy => ?_⟩
    obtain ⟨sm, x, ex1, dx⟩ := fd.yld Hc ⟨ι.i, D :: ι.x⟩ i u H' hlt hf.ext.flat g0 hy
    have ed : xs.drop i = x :: xs.drop (i + 1) := by
      rw [List.drop_eq_getElem_cons hlt]
      rw [List.getElem?_eq_getElem hlt] at ex1
      rw [Option.some.inj ex1]
    rw [ed] at e2
    unfold lc2Go at e2
    obtain ⟨env1, et, e2⟩ := R.of_inv e2
    obtain ⟨zs, st3, e3, e2⟩ := R.bind_ok_inv e2
    obtain ⟨acc, st4, e4, e5⟩ := R.bind_ok_inv e2
    have hf' : Half K ι H1 D H' ds sti := hf.more g0 hDi (hf.cel.same sm) (Ext.of sm)
    have hw : EnvR K H' ⟨ι.i, D :: ι.x⟩ (wipeE env own) (wipe σ own) := (he1.mono hf'.ext g0).wipe _
    refine gT_ok hw dx et fun σ2 hs2 hw2 => ⟨by rw [hw2 _ hsl, wipe_idem], ?_⟩
    unfold tYes
    refine (if_pos rfl).mpr ?_
    refine ⟨⟨ι.i, D :: ι.x⟩, env1, sti, hs2, hf'.cel, ?_⟩
    rw [e3]
    intro J1 H4 c4 ex4 fd1
    have hf4 : Half K ι H1 D H4 ds st3 := hf'.more g0 hDi c4 ex4
    refine ⟨fun j k Hi => k = zs.length - j ∧ j ≤ zs.length ∧ ∃ ds1 stj, Half K ι H1 D Hi ds1 stj ∧ Ext (Lv.mk ι.i (D :: ι.x)).flat H4 Hi ∧ EnvR K Hi ⟨ι.i, D :: ι.x⟩ env1 σ2 ∧ lcGo t1 none me (wipeE env1 own1) (zs.drop j) ds1 stj = .ok acc st4,
      ⟨zs.length, by simp, Nat.zero_le _, ds, st3, hf4, Ext.refl _ _, hs2.mono' ex4, by simpa using e4⟩, ?_⟩
    rintro j k Hi ⟨rfl, hj, ds1, stj, hfi, exi, hsi, e6⟩
    by_cases hjt : j < zs.length
    · refine .inr ⟨fd1.go Hi j exi hjt, fun H' => ∃ m', m' < zs.length - j ∧ (m' = zs.length - (j + 1) ∧ j + 1 ≤ zs.length ∧ ∃ ds1 stj, Half K ι H1 D H' ds1 stj ∧ Ext (Lv.mk ι.i (D :: ι.x)).flat H4 H' ∧ EnvR K H' ⟨ι.i, D :: ι.x⟩ env1 σ2 ∧ lcGo t1 none me (wipeE env1 own1) (zs.drop (j + 1)) ds1 stj = .ok acc st4), fun H' q => q, fun u1 H5 hy1 => ?_⟩
      obtain ⟨sm1, x1, ex2, dx1⟩ := fd1.yld Hi ⟨ι.i, D :: ι.x⟩ j u1 H5 hjt exi (Grow.refl _ _) hy1
      have ed1 : zs.drop j = x1 :: zs.drop (j + 1) := by
        rw [List.drop_eq_getElem_cons hjt]
        rw [List.getElem?_eq_getElem hjt] at ex2
        rw [Option.some.inj ex2]
      rw [ed1] at e6
      unfold lcGo at e6
      obtain ⟨env2, et2, e6⟩ := R.of_inv e6
      have hf5 : Half K ι H1 D H5 ds1 stj := hfi.more g0 hDi (hfi.cel.same sm1) (Ext.of sm1)
      have hs5 : EnvR K H5 ⟨ι.i, D :: ι.x⟩ env1 σ2 := hsi.mono' (Ext.of sm1)
      refine gT_ok (hs5.wipe own1) dx1 et2 fun σ3 hs3 hw3 => ⟨by rw [hw3 _ hsl1, wipe_idem], ?_⟩
      refine (if_pos rfl).mpr ?_
      dsimp only [R.bind] at e6
      obtain ⟨v, st7, e7, e8⟩ := R.bind_ok_inv e6
      refine ⟨⟨ι.i, D :: ι.x⟩, env2, stj, hs3, hf5.cel, ?_⟩
      rw [e7]
      intro y H7 rv c7 ex7 _
      cases v with
      | ref n => cases e8
      | clo k cs => cases e8
      | d z =>
      dsimp only at e8
      split at e8
      case isFalse => cases e8
      rename_i hz
      have hf7 := hf5.more g0 hDi c7 ex7
      obtain ⟨ac, ea, hl, hf8⟩ := hf7.app hD hDi rv hz
      have x7 : Ext (Lv.mk ι.i (D :: ι.x)).flat H4 H7 := (exi.trans' (Ext.of sm1)).trans' ex7.flat
      exact ⟨ac, ea, hl, _, by omega, rfl, by omega, ds1 ++ [z], st7, hf8, x7.trans' (ext_wr hDx ea), (hs5.mono' ex7).wr hDx ea, e8⟩
    · have ej : j = zs.length := by omega
      subst ej
      rw [List.drop_length] at e6
      unfold lcGo at e6
      cases e6
      exact .inl ⟨fd1.stop Hi _ exi (Nat.le_refl _), _, by omega, rfl, by omega, _, _, hfi, e5⟩
  · have ei : i = xs.length := by omega
    subst ei
    rw [List.drop_length] at e2
    unfold lc2Go at e2
    cases e2
    refine .inl ⟨fd.stop Hc _ hf.ext.flat (Nat.le_refl _), ?_⟩
    obtain ⟨us, hL, dq⟩ := hf.lst
    refine ho (.ref D) Hc (.lst (.inl ⟨.inl hL, hDa⟩) (dq.less fun b hb => ?_)) (cell_less hf.cel) (ex.trans' hf.ext) fun z => by cases z
    rcases List.mem_append.mp hb with z | z
    · exact List.mem_append_left _ z
    · exact List.mem_append_right _ (List.mem_cons_of_mem _ z)
theorem se_lc2 {elt tg iter tg1 iter1 : Expr} {scope : Scope} {own : List (Str × Nat)} {own1 : List Nat} {pos : Pos} {t t1 : Tg} {mi mi1 : MI} {me : ME} (hc : X.calm = true) (hN : X.N.Nodup) (hi : SI X XX W tg iter mi) (ok : BlkOk X.N X.env.scope scope own) (hv : ∀ i ∈ own1, i ∈ own.map (·.2))
    (hg : ∀ (s : Shared) (H : Hp) (C : Addr) (cl : List (Str × Addr)) (fp : List Addr), PG (X.blk s H scope (PySem.compEnvC scope cl C X.env) fp) tg (gT X.K t))
    (hi1 : ∀ (s : Shared) (H : Hp) (C : Addr) (cl : List (Str × Addr)) (fp : List Addr), PI (X.blk s H scope (PySem.compEnvC scope cl C X.env) fp) tg1 iter1 (rdI X.K XX WF mi1))
    (hg1 : ∀ (s : Shared) (H : Hp) (C : Addr) (cl : List (Str × Addr)) (fp : List Addr), PG (X.blk s H scope (PySem.compEnvC scope cl C X.env) fp) tg1 (gT X.K t1))
    (he : ∀ (s : Shared) (H : Hp) (C : Addr) (cl : List (Str × Addr)) (fp : List Addr), PE (X.blk s H scope (PySem.compEnvC scope cl C X.env) fp) elt (rdE X.K XX WF false me))
    (hs : ∀ x, foldedSetIterable iter X.env x = pure x) (hs1 : ∀ env x, foldedSetIterable iter1 env x = pure x) (hsl : ∀ i ∈ t.slots, i ∈ own.map (·.2)) (hsl1 : ∀ i ∈ t1.slots, i ∈ own1) :
    SE X XX W false (.ListComp elt [⟨tg, iter, [], 0⟩, ⟨tg1, iter1, [], 0⟩] scope pos) (mLc2 (own.map (·.2)) own1 t mi t1 mi1 me) :=
  PE.imp (pe_lc2 hc hN hi ok hv hg (fun _ _ _ _ _ => pts_nil) hi1 hg1 (fun _ _ _ _ _ => pts_nil) he hs hs1) fun _ _ _ h => rd_lc2 hsl hsl1 h
end
end Mi
end
section
set_option maxHeartbeats 1000000
namespace Mi
open PySem PySem.Spec PyProof.Rows L2
def outS (K : Frag) (XX : XR) (W : WX) (ι : Lv) (H : Hp) (fr : Bool) (D : Ends) : R Fl → Prop
  | .ok (.nx env') st' => ∀ ι' σ' H', EnvR K H' ι' env' σ' → CellR K H' ι' st' → Ext ι H H' → Grow ι H ι' → D.nx σ' H'
  | .ok (.bk env') st' => ∀ ι' σ' H', EnvR K H' ι' env' σ' → CellR K H' ι' st' → Ext ι H H' → Grow ι H ι' → D.bk σ' H'
  | .ok (.ct env') st' => ∀ ι' σ' H', EnvR K H' ι' env' σ' → CellR K H' ι' st' → Ext ι H H' → Grow ι H ι' → D.ct σ' H'
  | .ok (.rt v) st' => ∀ ι' u H', RV K H' ι' v u → CellR K H' ι' st' → Ext ι H H' → Grow ι H ι' → FreshP K ι' st' fr v u H H' → D.rt u H'
  | .exc e st' => ∀ ι' cls d σ' H', XX e cls d H' → CellR K H' ι' st' → Ext ι H H' → Grow ι H ι' → W cls d σ' H'
  | .bad => False
def rdS (K : Frag) (XX : XR) (W : WX) (fr : Bool) (m : MS) : TS := fun D σ H => ∃ ι env st, EnvR K H ι env σ ∧ CellR K H ι st ∧ outS K XX W ι H fr D (m env st)
section
variable {K : Frag} {XX : XR} {W : WX} {σ σ1 : St} {H H1 : Hp} {ι ι1 : Lv} {fr : Bool} {D D' : Ends}
theorem outS.later {r : R Fl} (x : Ext ι H H1) (g : Grow ι H ι1) (ho : outS K XX W ι H fr D r) : outS K XX W ι1 H1 fr D r := by
  cases r with
  | bad => exact ho
  | exc e st' => exact fun ι' cls d σ' H' q cr ex g' => ho ι' cls d σ' H' q cr (x.trans g ex) (Grow.trans x g g')
  | ok fl st' =>
    cases fl with
    | nx env' => exact fun ι' σ' H' he cr ex g' => ho ι' σ' H' he cr (x.trans g ex) (Grow.trans x g g')
    | bk env' => exact fun ι' σ' H' he cr ex g' => ho ι' σ' H' he cr (x.trans g ex) (Grow.trans x g g')
    | ct env' => exact fun ι' σ' H' he cr ex g' => ho ι' σ' H' he cr (x.trans g ex) (Grow.trans x g g')
    | rt v => exact fun ι' u H' rv cr ex g' f => ho ι' u H' rv cr (x.trans g ex) (Grow.trans x g g') (f.back x)
/-- an expression ahead of the rest of a statement -/
theorem outS.expr {env : Env} {st : Store} {m : ME} {f : Val → Store → R Fl} {Q' : VK} {fr' : Bool} (ho : outS K XX W ι H fr D ((m env st).bind f))
    (h : ∀ v st' u H', RV K H' ι v u → CellR K H' ι st' → Ext ι H H' → FreshP K ι st' fr' v u H H' → outS K XX W ι H fr D (f v st') → Q' u H') : outE K XX W ι σ H fr' Q' (m env st) := by
  generalize m env st = r at ho
  cases r with
  | ok v st' => exact fun u H' rv cr ex hf => h v st' u H' rv cr ex hf ho
  | exc e st' => exact fun cls d H' q cr ex => ho ι cls d σ H' q cr ex (Grow.refl _ _)
  | bad => exact ho
theorem outS.test {env : Env} {st : Store} {m : ME} {f : Bool → Store → R Fl} {Q' : Bool → Hp → Prop} (ho : outS K XX W ι H fr D (mTest m env st f))
    (h : ∀ b st' H', CellR K H' ι st' → Ext ι H H' → outS K XX W ι H' fr D (f b st') → Q' b H') : outT K XX W ι σ H Q' (m env st) := by
  unfold mTest at ho
  generalize m env st = r at ho
  cases r with
  | ok v st' =>
    cases v with
    | d y =>
      cases y with
      | bool b => exact fun H' cr ex => h b st' H' cr ex (outS.later ex (Grow.refl _ _) ho)
      | _ => exact ho
    | _ => exact ho
  | exc e st' => exact fun cls d H' q cr ex => ho ι cls d σ H' q cr ex (Grow.refl _ _)
  | bad => exact ho
end
section
variable {X : Cx} {XX : XR} {W : WX} {fr : Bool} {a b c e : Expr} {pos p : Pos} {ma mb mc m : ME} {s1 s2 : MS}
abbrev SS (X : Cx) (XX : XR) (W : WX) (fr : Bool) (st : Stmt) (m : MS) : Prop := PS X st (rdS X.K XX W fr m)
abbrev SSs (X : Cx) (XX : XR) (W : WX) (fr : Bool) (st : List Stmt) (m : MS) : Prop := PSs X st (rdS X.K XX W fr m)
theorem sss_nil : SSs X XX W fr [] mNext := PSs.imp pss_nil fun D σ H ⟨ι, env, st, he, hc, ho⟩ => ho ι σ H he hc (Ext.refl _ _) (Grow.refl _ _)
theorem sss_cons {st : Stmt} {rest : List Stmt} (h1 : SS X XX W fr st s1) (h2 : SSs X XX W fr rest s2) : SSs X XX W fr (st :: rest) (mSeq s1 s2) :=
  PSs.imp (pss_cons h1 h2) fun D σ H ⟨ι, env, st, he, hc, ho⟩ => ⟨ι, env, st, he, hc, by
    unfold mSeq at ho
    generalize s1 env st = r at ho
    cases r with
    | bad => exact ho
    | exc x st' => exact ho
    | ok fl st' =>
      cases fl with
      | nx env' => exact fun ι' σ' H' he' cr ex g => ⟨ι', env', st', he', cr, outS.later ex g ho⟩
      | bk env' => exact ho
      | ct env' => exact ho
      | rt v => exact ho⟩
theorem ss_pass : SS X XX W fr (.Pass pos) mNext := PS.imp ps_pass fun D σ H ⟨ι, env, st, he, hc, ho⟩ => ho ι σ H he hc (Ext.refl _ _) (Grow.refl _ _)
theorem ss_brk : SS X XX W fr (.Break pos) (fun env st => .ok (.bk env) st) := PS.imp ps_break fun D σ H ⟨ι, env, st, he, hc, ho⟩ => ho ι σ H he hc (Ext.refl _ _) (Grow.refl _ _)
theorem ss_cont : SS X XX W fr (.Continue pos) (fun env st => .ok (.ct env) st) := PS.imp ps_continue fun D σ H ⟨ι, env, st, he, hc, ho⟩ => ho ι σ H he hc (Ext.refl _ _) (Grow.refl _ _)
theorem ss_nev {st : Stmt} : SS X XX W fr st (fun _ _ => .bad) := PS.imp ps_never fun D σ H ⟨ι, env, st, he, hc, ho⟩ => ho
theorem ss_ret (h : SE X XX W fr e m) : SS X XX W fr (.Return (some e) pos) (mRet m) :=
  PS.imp (ps_ret h) fun D σ H ⟨ι, env, st, he, hc, ho⟩ => ⟨ι, env, st, he, hc, outS.expr ho fun v st' u H' rv cr ex hf ho1 => ho1 ι u H' rv cr ex (Grow.refl _ _) hf⟩
theorem ss_retv {i : Nat} (h : SE X XX W false e (mVar i)) : SS X XX W fr (.Return (some e) pos) (mRetV i) :=
  PS.imp (ps_ret h) fun D σ H ⟨ι, env, st, he, hc, ho⟩ => ⟨ι, env, st, he, hc, by
    unfold mRetV at ho
    unfold mVar
    split at ho
    · rename_i n e1
      rw [e1]
      exact fun u H' rv cr ex hf => ho ι u H' rv cr ex (Grow.refl _ _) fun _ a xs z => by cases z
    · exact False.elim ho⟩
theorem ss_retN : SS X XX W fr (.Return none pos) (fun _ st => .ok (.rt (.d .none)) st) := PS.imp ps_retN fun D σ H ⟨ι, env, st, he, hc, ho⟩ => ho ι .non H .non hc (Ext.refl _ _) (Grow.refl _ _) (freshP_no (by simp))
theorem ss_ex (h : SE X XX W false e m) (hs : swapsWith e none pos.line X.env = pure false) : SS X XX W fr (.Expr e pos) (mEx m) :=
  PS.imp (ps_expr h hs) fun D σ H ⟨ι, env, st, he, hc, ho⟩ => ⟨ι, env, st, he, hc, outS.expr ho fun v st' u H' rv cr ex hf ho1 => ho1 ι σ H' (he.mono' ex) cr ex (Grow.refl _ _)⟩
theorem ss_if {sa sb : List Stmt} (hc : ST X XX W c mc) (ha : SSs X XX W fr sa s1) (hb : SSs X XX W fr sb s2) : SS X XX W fr (.If c sa sb pos) (mIf mc s1 s2) :=
  PS.imp (ps_if hc ha hb) fun D σ H ⟨ι, env, st, he, hce, ho⟩ => ⟨ι, env, st, he, hce, outS.test ho fun b' st' H' cr ex ho1 => by
    cases b' with
    | true => exact ⟨ι, env, st', he.mono' ex, cr, ho1⟩
    | false =>
      rw [if_neg Bool.false_ne_true]
      exact ⟨ι, env, st', he.mono' ex, cr, ho1⟩⟩
/-- x = e -/
theorem ss_set {i : Nat} {x : Str} {pos' : Pos} (hN : X.N.Nodup) (hi : X.N[i]? = some x) (hx : Loc X.env.scope x) (h : SE X XX W false e m) (hs : swapsWith e (some (.Name x pos')) pos.line X.env = pure false) (hf : X.fn x = true ∨ X.env.scope.names.lookup x = some .local) :
    SS X XX W fr (.Assign [.Name x pos'] e pos) (mAsg (.nm i) m) :=
  PS.imp (ps_set hN hi hx h hs hf) fun D σ H ⟨ι, env, st, he, hc, ho⟩ => ⟨ι, env, st, he, hc, outS.expr ho fun v st' u H' rv cr ex hf ho1 => ho1 ι _ H' ((he.mono' ex).set i rv) cr ex (Grow.refl _ _)⟩
/-- the new list becomes a cell -/
theorem cell_push {K : Frag} {H : Hp} {ι : Lv} {st : Store} {a : Addr} {us : List V} {xs : List D} (c : CellR K H ⟨ι.i, a :: ι.x⟩ st) (e : H a = some (.lst us)) (d : DqAll K H ⟨ι.i, a :: ι.x⟩ us xs) (hx : a ∉ ι.x) : CellR K H ⟨ι.i ++ [a], ι.x⟩ (st ++ [.lst xs]) := by
  have sub : ∀ b, b ∈ (Lv.mk (ι.i ++ [a]) ι.x).all → b ∈ (Lv.mk ι.i (a :: ι.x)).all := fun b hb => by
    simp only [Lv.all, List.mem_append, List.mem_cons, List.mem_nil_iff, or_false] at hb ⊢
    rcases hb with (z | z) | z
    · exact .inl z
    · exact .inr (.inl z)
    · exact .inr (.inr z)
  have ha : a ∉ ι.i := c.ix a List.mem_cons_self
  have hl : st.length = ι.i.length := c.len
  refine ⟨by rw [List.length_append, List.length_append, hl]; rfl, ?_, fun b hb => c.xs b (List.mem_cons_of_mem _ hb), fun b hb z => ?_, fun n ys b e1 e2 => ?_⟩
  · show (ι.i ++ [a]).Nodup
    rw [List.nodup_append]
    refine ⟨c.nd, by simp, fun b hb c' hc' z => ha ?_⟩
    have : c' = a := by simpa using hc'
    rw [← this, ← z]
    exact hb
  · rcases List.mem_append.mp z with z | z
    · exact c.ix b (List.mem_cons_of_mem _ hb) z
    · have : b = a := by simpa using z
      exact hx (this ▸ hb)
  · by_cases hn : n < st.length
    · rw [List.getElem?_append_left hn] at e1
      have e2 : (ι.i ++ [a])[n]? = some b := e2
      rw [List.getElem?_append_left (by rw [← hl]; exact hn)] at e2
      obtain ⟨ws, e3, dw⟩ := c.at_ n ys b e1 e2
      exact ⟨ws, e3, dw.less sub⟩
    · have hn' : n = st.length := by
        have := (List.getElem?_eq_some_iff.mp e1).1
        rw [List.length_append] at this
        have h1 : n < st.length + 1 := this
        omega
      subst hn'
      rw [List.getElem?_append_right (Nat.le_refl _)] at e1
      have e2 : (ι.i ++ [a])[st.length]? = some b := e2
      rw [List.getElem?_append_right (by rw [hl]; exact Nat.le_refl _), hl] at e2
      simp at e1 e2
      subst e1 e2
      exact ⟨us, e, d.less sub⟩
/-- x = [..], new -/
theorem newl_rd {K : Frag} {i : Nat} {D : Ends} {σ : St} {H : Hp} (h : rdS K XX W fr (mNewl i m) D σ H) : tAsg (rdE K XX W true m) (gName i) D σ H := by
  obtain ⟨ι, env, st, he, hc, ho⟩ := h
  refine ⟨ι, env, st, he, hc, outS.expr ho fun v st' u H' rv cr ex hf ho1 => ?_⟩
  cases v with
  | ref n => exact False.elim ho1
  | clo k cs => exact False.elim ho1
  | d y =>
    cases y with
    | list xs =>
      cases (show Dq K H' ι u (.list xs) from rv) with
      | @lst a us _ r d =>
        obtain ⟨hn, ws, e1, c1, d1⟩ := hf rfl a xs rfl rfl
        have hxi : a ∉ ι.x := fun z => hc.xs a z hn
        have g : Grow ι H ⟨ι.i ++ [a], ι.x⟩ := ⟨⟨[a], rfl⟩, fun b hb => by
          simp only [Lv.all, List.mem_append, List.mem_cons, List.mem_nil_iff, or_false] at hb ⊢
          rcases hb with (z | z) | z
          · exact .inl (.inl z)
          · exact .inr (z ▸ hn)
          · exact .inl (.inr z), fun b hb => by
          rcases List.mem_append.mp hb with z | z
          · exact .inl z
          · have : b = a := by simpa using z
            exact .inr (this ▸ hn), fun b hb => by
          rcases List.mem_append.mp hb with z | z
          · exact List.mem_append_left _ (List.mem_append_left _ z)
          · exact List.mem_append_right _ z⟩
        refine ho1 _ _ H' ((he.mono ex g).set i (v := .ref st'.length) ⟨a, ?_, rfl⟩) (cell_push c1 e1 d1 hxi) ex g
        show (ι.i ++ [a])[st'.length]? = some a
        rw [cr.len, List.getElem?_append_right (Nat.le_refl _)]
        simp
    | _ => exact False.elim ho1
theorem ss_newl {i : Nat} {x : Str} {pos' : Pos} (hN : X.N.Nodup) (hi : X.N[i]? = some x) (hx : Loc X.env.scope x) (h : SE X XX W true e m) (hs : swapsWith e (some (.Name x pos')) pos.line X.env = pure false) (hf : X.fn x = true ∨ X.env.scope.names.lookup x = some .local) :
    SS X XX W fr (.Assign [.Name x pos'] e pos) (mNewl i m) := PS.imp (ps_set hN hi hx h hs hf) fun D σ H q => newl_rd q
/-- a, b = e -/
theorem ss_tup {is : List Nat} {elts : List Expr} {kk : Nat} {tpos : Pos} (h : SE X XX W false e m) (hg : PG X (.Tuple elts kk tpos) (gT X.K (.tp is))) (hs : swapsWithSole [.Tuple elts kk tpos] e pos.line X.env = pure false) (hw : swappedStores [.Tuple elts kk tpos] e X.env = pure none) :
    SS X XX W fr (.Assign [.Tuple elts kk tpos] e pos) (mAsg (.tp is) m) :=
  PS.imp (ps_asg h hg hs hw) fun D σ H ⟨ι, env, st, he, hc, ho⟩ => ⟨ι, env, st, he, hc, outS.expr ho fun v st' u H' rv cr ex hf ho1 => by
    cases v with
    | ref n => exact False.elim ho1
    | clo k cs => exact False.elim ho1
    | d y =>
      dsimp only at ho1
      cases ht : tset (.tp is) env y with
      | none => rw [ht] at ho1; exact False.elim ho1
      | some env1 =>
        rw [ht, R.of_some] at ho1
        exact gT_ok (he.mono' ex) rv ht fun σ1 hs1 _ => ho1 ι σ1 H' hs1 cr ex (Grow.refl _ _)⟩
/-- a, b = e1, e2 -/
theorem ss_par {i j : Nat} {x y : Str} {px py pt : Pos} {kt k2 : Nat} {pt2 : Pos} (hc : X.calm = true) (hN : X.N.Nodup) (hi : X.N[i]? = some x) (hj : X.N[j]? = some y) (hij : i ≠ j) (hx : X.env.scope.names.lookup x = some .local) (hy : X.env.scope.names.lookup y = some .local)
    (ha : SE X XX W false a ma) (hb : SE X XX W false b mb) (hs : starEach [a, b] X.env = (false, eval a X.env) :: starEach [b] X.env) (hs2 : starEach [b] X.env = (false, eval b X.env) :: starEach [] X.env)
    (hw : swappedStores [.Tuple [.Name x px, .Name y py] kt pt] (.Tuple [a, b] k2 pt2) X.env = pure (some [x, y])) : SS X XX W fr (.Assign [.Tuple [.Name x px, .Name y py] kt pt] (.Tuple [a, b] k2 pt2) pos) (mPar i j ma mb) :=
  PS.imp (ps_par hc hN hi hj hij hx hy (pa_cons ha (pa_cons hb pa_nil hs2) hs) hw) fun D σ H ⟨ι, env, st, he, hce, ho⟩ => ⟨ι, env, st, he, hce, outS.expr ho fun v st' u H' rv cr ex hf ho1 => by
    refine ⟨ι, env, st', he.mono' ex, cr, outS.expr (ho1.later ex (Grow.refl _ _)) fun w st2 u2 H2 rv2 cr2 ex2 hf2 ho2 => ?_⟩
    exact ⟨u, u2, rfl, ho2 ι _ H2 ((((he.mono' ex).mono' ex2).set i (rv.mono ex2 (Grow.refl _ _))).set j rv2) cr2 ex2 (Grow.refl _ _)⟩⟩
/-- a, b = e1, [..] -/
theorem ss_par1 {i j : Nat} {x y : Str} {px py pt : Pos} {kt k2 : Nat} {pt2 : Pos} (hc : X.calm = true) (hN : X.N.Nodup) (hi : X.N[i]? = some x) (hj : X.N[j]? = some y) (hij : i ≠ j) (hx : X.env.scope.names.lookup x = some .local) (hy : X.env.scope.names.lookup y = some .local)
    (ha : SE X XX W false a ma) (hb : SE X XX W true b mb) (hs : starEach [a, b] X.env = (false, eval a X.env) :: starEach [b] X.env) (hs2 : starEach [b] X.env = (false, eval b X.env) :: starEach [] X.env)
    (hw : swappedStores [.Tuple [.Name x px, .Name y py] kt pt] (.Tuple [a, b] k2 pt2) X.env = pure (some [x, y])) : SS X XX W fr (.Assign [.Tuple [.Name x px, .Name y py] kt pt] (.Tuple [a, b] k2 pt2) pos) (mPar1 i j ma mb) :=
  PS.imp (ps_par hc hN hi hj hij hx hy (pa_cons ha (pa_cons hb pa_nil hs2) hs) hw) fun D σ H ⟨ι, env, st, he, hce, ho⟩ => ⟨ι, env, st, he, hce, outS.expr ho fun v st' u H' rv cr ex hf ho1 => by
    refine ⟨ι, env, st', he.mono' ex, cr, outS.expr (ho1.later ex (Grow.refl _ _)) fun w st2 u2 H2 rv2 cr2 ex2 hf2 ho2 => ?_⟩
    cases w with
    | ref n => exact False.elim ho2
    | clo k cs => exact False.elim ho2
    | d y0 =>
      cases y0 with
      | list xs =>
        cases (show Dq X.K H2 ι u2 (.list xs) from rv2) with
        | @lst a us _ r d =>
          obtain ⟨hn, ws, e1, c1, d1⟩ := hf2 rfl a xs rfl rfl
          have hxi : a ∉ ι.x := fun z => cr.xs a z hn
          have g : Grow ι H' ⟨ι.i ++ [a], ι.x⟩ := ⟨⟨[a], rfl⟩, fun b hb => by
            simp only [Lv.all, List.mem_append, List.mem_cons, List.mem_nil_iff, or_false] at hb ⊢
            rcases hb with (z | z) | z
            · exact .inl (.inl z)
            · exact .inr (z ▸ hn)
            · exact .inl (.inr z), fun b hb => by
            rcases List.mem_append.mp hb with z | z
            · exact .inl z
            · have : b = a := by simpa using z
              exact .inr (this ▸ hn), fun b hb => by
            rcases List.mem_append.mp hb with z | z
            · exact List.mem_append_left _ (List.mem_append_left _ z)
            · exact List.mem_append_right _ z⟩
          have rg : RV X.K H2 ⟨ι.i ++ [a], ι.x⟩ (.ref st2.length) (.ref a) := ⟨a, by
            show (ι.i ++ [a])[st2.length]? = some a
            rw [cr2.len, List.getElem?_append_right (Nat.le_refl _)]
            simp, rfl⟩
          refine ⟨u, .ref a, rfl, ho2 _ _ H2 ((((he.mono' ex).mono ex2 g).set i (rv.mono ex2 g)).set j (v := .ref st2.length) rg) (cell_push c1 e1 d1 hxi) ex2 g⟩
      | _ => exact False.elim ho2⟩
/-- x += e -/
theorem ss_aug {i : Nat} {x : Str} {op : Operator} {o : B2} {f : Int → Int → Int} {pos' : Pos} (hN : X.N.Nodup) (hi : X.N[i]? = some x) (hx : Loc X.env.scope x) (h : SE X XX W false e m) (ho : PIp X op (ipI f)) (hf : X.fn x = true ∨ X.env.scope.names.lookup x = some .local)
    (ho2 : (o = .add ∧ f = fun i j => i + j) ∨ (o = .sub ∧ f = fun i j => i - j)) : SS X XX W fr (.AugAssign (.Name x pos') op e pos) (mAug i o m) :=
  PS.imp (ps_aug hN hi hx h ho hf) fun D σ H ⟨ι, env, st, he, hce, ho⟩ => by
    unfold mAug at ho
    split at ho
    · rename_i x e1
      obtain ⟨u, e2, r⟩ := he.at_ i _ e1
      cases (show Dq X.K H ι u (.int x) from r)
      refine ⟨_, e2, ι, env, st, he, hce, outS.expr ho fun v st' u H' rv cr ex hf ho1 => ?_⟩
      split at ho1
      · rename_i y
        cases (show Dq X.K H' ι u (.int y) from rv)
        refine ⟨x, y, rfl, rfl, ?_⟩
        rcases ho2 with ⟨rfl, rfl⟩ | ⟨rfl, rfl⟩
        · exact ho1 ι _ H' ((he.mono' ex).set i (v := .d (.int (x + y))) (.int _)) cr ex (Grow.refl _ _)
        · exact ho1 ι _ H' ((he.mono' ex).set i (v := .d (.int (x - y))) (.int _)) cr ex (Grow.refl _ _)
      · exact False.elim ho1
    · exact False.elim ho
theorem cell_set {K : Frag} {H : Hp} {ι : Lv} {st : Store} {n : Nat} {a : Addr} {us us' : List V} {xs' : List D} (c : CellR K H ι st) (hn : ι.i[n]? = some a) (e : H a = some (.lst us)) (d : DqAll K H ι us' xs') : CellR K (upd H a (.lst us')) ι (st.set n (.lst xs')) := by
  have hm : a ∈ ι.i := List.mem_of_getElem? hn
  have hall : a ∈ ι.all := List.mem_append_left _ hm
  refine ⟨by rw [List.length_set]; exact c.len, c.nd, fun b hb => ?_, c.ix, fun k ys b e1 e2 => ?_⟩
  · have q := c.xs b hb
    have hne : b ≠ a := fun z => c.ix b hb (z ▸ hm)
    rw [upd_ne hne]
    exact q
  · by_cases hk : n = k
    · subst hk
      have hl : n < st.length := by
        have := (List.getElem?_eq_some_iff.mp e1).1
        rwa [List.length_set] at this
      rw [List.getElem?_set_self hl] at e1
      rw [hn] at e2
      cases e1
      cases e2
      exact ⟨us', upd_same, dqs_write hall e d⟩
    · rw [List.getElem?_set_ne hk] at e1
      obtain ⟨ws, e3, dw⟩ := c.at_ k ys b e1 e2
      have hne : b ≠ a := fun z => by
        subst z
        obtain ⟨h1, q1⟩ := List.getElem?_eq_some_iff.mp hn
        obtain ⟨h2, q2⟩ := List.getElem?_eq_some_iff.mp e2
        exact hk ((List.getElem_inj c.nd).mp (q1.trans q2.symm))
      exact ⟨ws, by rw [upd_ne hne]; exact e3, dqs_write hall e dw⟩
theorem ext_set {H : Hp} {ι : Lv} {a : Addr} {us us' : List V} (hm : a ∈ ι.i) (e : H a = some (.lst us)) : Ext ι H (upd H a (.lst us')) := by
  refine ⟨fun b o q _ hn => ?_, fun b ws q => ?_, fun b o w q => ?_, fun b n => ?_⟩
  · rw [upd_ne (fun z : b = a => hn (z ▸ hm))]; exact q
  · rw [upd_ne (fun z => by rw [z, e] at q; cases q)]; exact q
  · rw [upd_ne (fun z => by rw [z, e] at q; cases q)]; exact q
  · by_cases hb : b = a
    · rw [hb, upd_same]; simp
    · rw [upd_ne hb]; exact n
theorem env_set {K : Frag} {H : Hp} {ι : Lv} {a : Addr} {us us' : List V} {env : Env} {σ : St} (h : EnvR K H ι env σ) (hm : a ∈ ι.i) (e : H a = some (.lst us)) : EnvR K (upd H a (.lst us')) ι env σ := h.mono' (ext_set hm e)
theorem ref_at {K : Frag} {H : Hp} {ι : Lv} {env : Env} {st : Store} {σ : St} {i n : Nat} {xs : List D} (he : EnvR K H ι env σ) (hc : CellR K H ι st) (e : env[i]? = some (some (.ref n))) (e2 : st[n]? = some (.lst xs)) :
    ∃ a us, σ[i]? = some (some (.ref a)) ∧ ι.i[n]? = some a ∧ H a = some (.lst us) ∧ DqAll K H ι us xs := by
  obtain ⟨u, e1, a, e3, rfl⟩ := he.at_ i _ e
  obtain ⟨us, e4, d⟩ := hc.at_ n xs a e2 e3
  exact ⟨a, us, e1, e3, e4, d⟩
/-- xs[k] = e, xs a cell -/
theorem ss_seti {i : Nat} {k o : Expr} {mk : ME} {tpos : Pos} (ho : PE X o (tVar i)) (hk : SE X XX W false k mk) (he : SE X XX W false e m) (hg : PG X (.Subscript o k tpos) (gSub (tVar i) (rdE X.K XX W false mk) rSetL)) (hs : swapsWithSole [.Subscript o k tpos] e pos.line X.env = pure false)
    (hw : swappedStores [.Subscript o k tpos] e X.env = pure none) : SS X XX W fr (.Assign [.Subscript o k tpos] e pos) (mSeti i mk m) :=
  PS.imp (ps_asg he hg hs hw) fun D σ H ⟨ι, env, st, hen, hce, ho⟩ => ⟨ι, env, st, hen, hce, outS.expr ho fun v st' u H' rv cr ex hf ho1 => by
    split at ho1
    · rename_i n e1
      obtain ⟨w, e2, a, e3, rfl⟩ := hen.at_ i _ e1
      refine ⟨_, e2, ι, env, st', hen.mono' ex, cr, outS.expr (ho1.later ex (Grow.refl _ _)) fun kv st2 ku H2 krv cr2 ex2 hf2 ho2 => ?_⟩
      split at ho2
      · rename_i y j xs e4
        cases (show Dq X.K H2 ι ku (.int j) from krv)
        obtain ⟨us, e5, d⟩ := cr2.at_ n xs a e4 e3
        cases hq : ixN xs.length j with
        | none => rw [hq] at ho2; exact False.elim ho2
        | some q =>
          rw [hq, R.of_some] at ho2
          refine ⟨a, us, j, q, rfl, rfl, e5, by rw [d.length]; exact hq, ?_⟩
          have hm : a ∈ ι.i := List.mem_of_getElem? e3
          have rv2 : Dq X.K H2 ι u y := rv.mono ex2 (Grow.refl _ _)
          exact ho2 ι σ _ (((hen.mono' ex).mono' ex2).mono' (ext_set hm e5)) (cell_set cr2 e3 e5 (d.set rv2 q)) (ex2.trans' (ext_set hm e5)) (Grow.refl _ _)
      · exact False.elim ho2
    · exact False.elim ho1⟩
/-- xs.append(e), xs a cell -/
theorem ss_app {i : Nat} {o : Expr} {apos cpos : Pos} (hp : ∀ t, PA X [e] t → PE X (.Call (.Attribute o "append" apos) [e] [] cpos) (tBM X.K "list" rAppend (tVar i) t)) (he : SE X XX W false e m) (hs : starEach [e] X.env = (false, eval e X.env) :: starEach [] X.env) :
    SS X XX W fr (.Expr (.Call (.Attribute o "append" apos) [e] [] cpos) pos) (mApp i m) :=
  PS.imp (ps_expr (hp _ (pa_cons he pa_nil hs)) rfl) fun D σ H ⟨ι, env, st, hen, hce, ho⟩ => by
    unfold mApp at ho
    split at ho
    · rename_i n e1
      obtain ⟨w, e2, a, e3, rfl⟩ := hen.at_ i _ e1
      have hl : n < st.length := by rw [hce.len]; exact (List.getElem?_eq_some_iff.mp e3).1
      cases hst : st[n]? with
      | none => rw [List.getElem?_eq_getElem hl] at hst; cases hst
      | some cell =>
      cases cell with
      | lst ys =>
      obtain ⟨us0, e40, d0⟩ := hce.at_ n ys a hst e3
      refine ⟨_, e2, .inl ⟨rfl, us0, .inl (.inl e40)⟩, ι, env, st, hen, hce, outS.expr ho fun v st' u H' rv cr ex hf ho1 => ?_⟩
      split at ho1
      · rename_i y xs e4
        obtain ⟨us, e5, d⟩ := cr.at_ n xs a e4 e3
        split at ho1
        · rename_i hz
          have hm : a ∈ ι.i := List.mem_of_getElem? e3
          refine ⟨a, us, u, rfl, rfl, e5, by rw [d.length]; exact hz, ?_⟩
          exact ho1 ι σ _ ((hen.mono' ex).mono' (ext_set hm e5)) (cell_set cr e3 e5 (d.append (.cons rv .nil))) (ex.trans' (ext_set hm e5)) (Grow.refl _ _)
        · exact False.elim ho1
      · exact False.elim ho1
    · exact False.elim ho
end
end Mi
end
section
set_option maxHeartbeats 1000000
namespace Mi
open PySem PySem.Spec PyProof.Rows L2
section
variable {K : Frag} {XX : XR} {W : WX} {fr : Bool}
theorem outS.body {ι ι' : Lv} {H H' : Hp} {D : Ends} {N : St → Hp → Prop} {r : R Fl} {k : Env → Store → R Fl} (x : Ext ι H H') (g : Grow ι H ι')
    (ho : outS K XX W ι' H' fr D (r.bind fun fl st1 => match fl with
      | .nx env2 => k env2 st1
      | .ct env2 => k env2 st1
      | .bk env2 => .ok (.nx env2) st1
      | .rt v => .ok (.rt v) st1))
    (h : ∀ env2 st1 ι2 σ2 H2, EnvR K H2 ι2 env2 σ2 → CellR K H2 ι2 st1 → Ext ι' H' H2 → Grow ι' H' ι2 → outS K XX W ι2 H2 fr D (k env2 st1) → N σ2 H2) :
    outS K XX W ι' H' fr { D with nx := N, ct := N, bk := D.nx } r := by
  cases r with
  | bad => exact ho
  | exc e st' => exact ho
  | ok fl st' =>
    cases fl with
    | nx env2 => exact fun ι2 σ2 H2 he cr ex g2 => h env2 st' ι2 σ2 H2 he cr ex g2 (outS.later ex g2 ho)
    | ct env2 => exact fun ι2 σ2 H2 he cr ex g2 => h env2 st' ι2 σ2 H2 he cr ex g2 (outS.later ex g2 ho)
    | bk env2 => exact ho
    | rt v => exact ho
theorem rd_for {t : Tg} {mi : MI} {b : MS} {D : Ends} {σ : St} {H : Hp} (h : rdS K XX W fr (mFor t mi b) D σ H) : tFor (rdI K XX W mi) (gT K t) (rdS K XX W fr b) D σ H := by
  obtain ⟨ι, env, st, he, hc, ho⟩ := h
  refine ⟨ι, env, st, he, hc, ?_⟩
  unfold mFor at ho
  generalize mi env st = r at ho
  cases r with
  | bad => exact ho
  | exc e st' => exact fun cls d H' q cr ex => ho ι cls d σ H' q cr ex (Grow.refl _ _)
  | ok xs st1 =>
  intro J H1 cr ex fd
  dsimp only [R.bind] at ho
  refine ⟨fun i m σc Hc => m = xs.length - i ∧ i ≤ xs.length ∧ ∃ ι' envc stc, EnvR K Hc ι' envc σc ∧ CellR K Hc ι' stc ∧ Ext ι H1 Hc ∧ Grow ι H1 ι' ∧ outS K XX W ι' Hc fr D (forGo t b (xs.drop i) envc stc),
    ⟨xs.length, by simp, Nat.zero_le _, ι, env, st1, he.mono' ex, cr, Ext.refl _ _, Grow.refl _ _, by simpa using outS.later ex (Grow.refl _ _) ho⟩, ?_⟩
  rintro i m σc Hc ⟨rfl, hi, ι', envc, stc, hen, hce, ec, gc, oc⟩
  by_cases hlt : i < xs.length
  · refine .inr ⟨fd.go Hc i ec.flat hlt, fun σ' H' => ∃ m', m' < xs.length - i ∧ (m' = xs.length - (i + 1) ∧ i + 1 ≤ xs.length ∧ ∃ ι' envc stc, EnvR K H' ι' envc σ' ∧ CellR K H' ι' stc ∧ Ext ι H1 H' ∧ Grow ι H1 ι' ∧ outS K XX W ι' H' fr D (forGo t b (xs.drop (i + 1)) envc stc)), fun _ _ q => q, fun u H' hy => ?_⟩
    obtain ⟨sm, x, ex1, dx⟩ := fd.yld Hc ι' i u H' hlt ec.flat gc hy
    have ed : xs.drop i = x :: xs.drop (i + 1) := by
      rw [List.drop_eq_getElem_cons hlt]
      rw [List.getElem?_eq_getElem hlt] at ex1
      rw [Option.some.inj ex1]
    rw [ed] at oc
    unfold forGo at oc
    cases ht : tset t envc x with
    | none => rw [ht] at oc; exact False.elim oc
    | some env1 =>
    rw [ht, R.of_some] at oc
    have es : Ext ι' Hc H' := Ext.of sm
    refine gT_ok (hen.mono' es) dx ht fun σ1 hs1 _ => ⟨ι', env1, stc, hs1, hce.same sm, ?_⟩
    refine outS.body es (Grow.refl _ _) (outS.later es (Grow.refl _ _) oc) fun env2 st2 ι2 σ2 H2 he2 cr2 ex2 g2 o2 => ?_
    have e12 : Ext ι H1 H' := Ext.trans gc ec es
    exact ⟨_, by omega, rfl, by omega, ι2, env2, st2, he2, cr2, Ext.trans gc e12 ex2, Grow.trans e12 gc g2, o2⟩
  · have ei : i = xs.length := by omega
    subst ei
    rw [List.drop_length] at oc
    exact .inl ⟨fd.stop Hc _ ec.flat (Nat.le_refl _), oc ι' σc Hc hen hce (Ext.refl _ _) (Grow.refl _ _)⟩
theorem rd_whl {mc : ME} {b : MS} {n : Nat} {D : Ends} {σ : St} {H : Hp} (h : rdS K XX W fr (whlGo mc b n) D σ H) : tWhile (rdT K XX W mc) (rdS K XX W fr b) D σ H := by
  refine ⟨fun m σ H => rdS K XX W fr (whlGo mc b m) D σ H, ⟨n, h⟩, fun m σ H ⟨ι, env, st, he, hc, ho⟩ => ?_⟩
  cases m with
  | zero => exact False.elim ho
  | succ m =>
    unfold whlGo at ho
    refine ⟨ι, env, st, he, hc, outS.test ho fun c st' H' cr ex ho1 => ?_⟩
    cases c with
    | false =>
      rw [if_neg Bool.false_ne_true]
      exact ho1 ι σ H' (he.mono' ex) cr (Ext.refl _ _) (Grow.refl _ _)
    | true =>
      rw [if_pos rfl]
      refine ⟨fun σ' H' => rdS K XX W fr (whlGo mc b m) D σ' H', fun σ' H' q => ⟨m, Nat.lt_succ_self m, q⟩, ι, env, st', he.mono' ex, cr, ?_⟩
      exact outS.body (Ext.refl ι H') (Grow.refl _ _) ho1 fun env2 st2 ι2 σ2 H2 he2 cr2 ex2 g2 o2 => ⟨ι2, env2, st2, he2, cr2, o2⟩
end
section
variable {X : Cx} {XX : XR} {W : WX} {fr : Bool} {c tg it : Expr} {pos : Pos}
theorem ss_for {t : Tg} {mi : MI} {b : MS} {body : List Stmt} (hp : PassesOwn (model X.prog X.w) X.A X.env X.xe) (hc : X.calm = true) (hi : SI X XX W tg it mi) (hg : PG X tg (gT X.K t)) (hb : SSs X XX W fr body b) (hs : ∀ x, foldedSetIterable it X.env x = pure x) : SS X XX W fr (.For tg it body [] pos) (mFor t mi b) :=
  PS.imp (ps_for hp hc hi hg hb hs) fun _ _ _ h => rd_for h
theorem ss_whl {mc : ME} {b : MS} {n : Nat} {body : List Stmt} (hp : PassesOwn (model X.prog X.w) X.A X.env X.xe) (hc : ST X XX W c mc) (hb : SSs X XX W fr body b) : SS X XX W fr (.While c body [] pos) (whlGo mc b n) :=
  PS.imp (ps_while hp hc hb) fun _ _ _ h => rd_whl h
end
end Mi
end
section
set_option maxHeartbeats 2000000
namespace Mi
open PySem PySem.Spec PyProof.Rows L2
mutual
def sameD : D → D → Bool
  | .none, .none => true
  | .bool a, .bool b => a == b
  | .int a, .int b => a == b
  | .str a, .str b => decide (a = b)
  | .list xs, .list ys => sameDs xs ys
  | .tuple xs, .tuple ys => sameDs xs ys
  | _, _ => false
def sameDs : List D → List D → Bool
  | [], [] => true
  | x :: xs, y :: ys => sameD x y && sameDs xs ys
  | _, _ => false
end
mutual
theorem sameD_ok : ∀ {x y : D}, sameD x y = true → x = y
  | .none, .none, _ => rfl
  | .bool a, .bool b, h => by rw [eq_of_beq (show (a == b) = true from h)]
  | .int a, .int b, h => by rw [eq_of_beq (show (a == b) = true from h)]
  | .str a, .str b, h => by rw [of_decide_eq_true (show decide (a = b) = true from h)]
  | .list xs, .list ys, h => by rw [sameDs_ok (show sameDs xs ys = true from h)]
  | .tuple xs, .tuple ys, h => by rw [sameDs_ok (show sameDs xs ys = true from h)]
  | .none, .bool _, h | .none, .int _, h | .none, .str _, h | .none, .list _, h | .none, .tuple _, h | .none, .dict _, h => by cases h
  | .bool _, .none, h | .bool _, .int _, h | .bool _, .str _, h | .bool _, .list _, h | .bool _, .tuple _, h | .bool _, .dict _, h => by cases h
  | .int _, .none, h | .int _, .bool _, h | .int _, .str _, h | .int _, .list _, h | .int _, .tuple _, h | .int _, .dict _, h => by cases h
  | .str _, .none, h | .str _, .bool _, h | .str _, .int _, h | .str _, .list _, h | .str _, .tuple _, h | .str _, .dict _, h => by cases h
  | .list _, .none, h | .list _, .bool _, h | .list _, .int _, h | .list _, .str _, h | .list _, .tuple _, h | .list _, .dict _, h => by cases h
  | .tuple _, .none, h | .tuple _, .bool _, h | .tuple _, .int _, h | .tuple _, .str _, h | .tuple _, .list _, h | .tuple _, .dict _, h => by cases h
  | .dict _, y, h => by cases y <;> cases h
theorem sameDs_ok : ∀ {xs ys : List D}, sameDs xs ys = true → xs = ys
  | [], [], _ => rfl
  | x :: xs, y :: ys, h => by
    have h' := Bool.and_eq_true_iff.mp (show (sameD x y && sameDs xs ys) = true from h)
    rw [sameD_ok h'.1, sameDs_ok h'.2]
  | [], _ :: _, h => by cases h
  | _ :: _, [], h => by cases h
end
structure SC where
  N : List Str
  sc : Scope
  blk : Option Scope
def SC.fn (c : SC) (x : Str) : Bool := match c.blk with
  | none => true
  | some s => s.names.lookup x == some .cell
def SC.sub (c : SC) (s : Scope) : SC := ⟨c.N, relS s c.sc, some s⟩
def visB (c : SC) (x : Str) : Bool := match c.sc.names.lookup x with
  | some .local => true
  | some .cell => true
  | some .free => true
  | _ => false
def locB (c : SC) (x : Str) : Bool := match c.sc.names.lookup x with
  | some .local => true
  | some .cell => c.fn x
  | _ => false
def dbg (x : Str) : Bool := decide (x = ("__debug__" : Str)) || decide (x = ("__classdict__" : Str)) || decide (x = ("__name__" : Str))
def varB (c : SC) (i : Nat) (x : Str) : Bool := decide (c.N[i]? = some x) && visB c x && !dbg x
def tgB (c : SC) (i : Nat) (x : Str) : Bool := decide (c.N[i]? = some x) && locB c x
def gloB (c : SC) (x : Str) : Bool := decide (c.sc.names.lookup x = some .globalImplicit) && !dbg x
def cstB : D → Const → Bool
  | .none, .none => true
  | .bool a, .bool b => a == b
  | .int a, .int b => a == b
  | .str a, .str b => decide (a = b) && PyData.strOk a
  | _, _ => false
def opB : B2 → Operator → Bool
  | .add, .Add | .sub, .Sub | .mul, .Mult | .fdiv, .FloorDiv | .mod, .Mod | .pow, .Pow => true
  | _, _ => false
def opC : B2 → CmpOp → Bool
  | .eq, .Eq | .ne, .NotEq | .lt, .Lt | .le, .LtE | .gt, .Gt | .ge, .GtE | .inn, .In | .notin, .NotIn => true
  | _, _ => false
def notStar : Expr → Bool
  | .Starred .. => false
  | _ => true
def notSet : Expr → Bool
  | .Set .. => false
  | _ => true
def notLc : Expr → Bool
  | .ListComp .. | .SetComp .. | .DictComp .. => false
  | _ => true
def plainT : Expr → Bool
  | .UnaryOp .Not _ _ | .BoolOp .. | .IfExp .. | .Compare .. => false
  | _ => true
def plainI : Expr → Bool
  | .Slice .. => false
  | _ => true
def biN : B1 → Str
  | .len => "len"
  | .abs => "abs"
  | .int => "int"
  | .sum => "sum"
  | .all => "all"
  | .any => "any"
  | .min => "min"
  | .max => "max"
  | .sorted => "sorted"
  | .sortset => "sorted"
  | .tuple => "tuple"
  | .list => "list"
def kdB (c : SC) (k : Kd) : Expr → Bool
  | .Name x _ => decide (x = kdN k) && gloB c x
  | _ => false
def ownP (c : SC) (own : List Nat) : List (Str × Nat) := own.map fun i => (c.N.getD i default, i)
def tgtB (c : SC) : Tg → Expr → Bool
  | .nm i, .Name x _ => tgB c i x
  | .tp is, .Tuple es _ _ => go is es
  | _, _ => false
where go : List Nat → List Expr → Bool
  | [], [] => true
  | i :: is, .Name x _ :: es => tgB c i x && go is es
  | _, _ => false
/-- the defs that may be called, with how many arguments; the module's constants; which hand back a new list -/
structure Tb where
  ar : Str → Option Nat
  cs : List (Str × D)
  nw : Str → Bool
def Tb.has (T : Tb) (x : Str) (d : D) : Bool := T.cs.any fun q => decide (q.1 = x) && sameD q.2 d
/-- a new list comes of it -/
def isNew : E → Bool
  | .lst _ | .rep .. | .lrange .. | .bi .. | .bin .. | .slc .. | .lcE .. | .lcR .. | .lcZ .. | .lcN .. | .min2 .. | .isin .. | .tup _ | .not _ | .isc .. | .chain .. => true
  | .call b _ _ => b
  | .and _ b => isNew b
  | .or _ b => isNew b
  | .ite _ a b => isNew a && isNew b
  | _ => false
mutual
/-- e is written so (as a value; as a test) -/
def ok (T : Tb) : Bool → E → SC → Expr → Bool
  | t, .cst d, c, ex => match ex with
    | .Constant k _ _ => cstB d k
    | _ => false
  | t, .var i, c, ex => match ex with
    | .Name x _ => varB c i x
    | _ => false
  | t, .glo x d, c, ex => match ex with
    | .Name y _ => decide (x = y) && gloB c y && T.has x d
    | _ => false
  | t, .neg a, c, ex => match ex with
    | .UnaryOp .USub a' _ => ok T false a c a'
    | _ => false
  | t, .bin op a b, c, ex => match ex with
    | .BinOp a' o b' _ => opB op o && ok T false a c a' && ok T false b c b'
    | .Compare a' [o] [b'] _ => opC op o && ok T false a c a' && ok T false b c b' && !behindInMarks o b'
    | _ => false
  | t, .chain o1 o2 a b d, c, ex => match ex with
    | .Compare a' [p1, p2] [b', d'] _ => opC o1 p1 && opC o2 p2 && ok T false a c a' && ok T false b c b' && ok T false d c d' && !lastMarks [p1, p2] [b', d']
    | _ => false
  | t, .isc ng a d, c, ex => match ex with
    | .Compare a' [o] [.Constant k _ _] _ => (if ng then o == .IsNot else o == .Is) && ok T false a c a' && (match d, k with
      | .none, .none => true
      | .bool p, .bool q => p == q
      | _, _ => false)
    | _ => false
  | t, .and a b, c, ex => match ex with
    | .BoolOp .And [a', b'] p => ok T t a c a' && ok T t b c b'
    | .BoolOp .And (a' :: b' :: d' :: r) p => ok T t a c a' && ok T t b c (.BoolOp .And (b' :: d' :: r) p)
    | _ => false
  | t, .or a b, c, ex => match ex with
    | .BoolOp .Or [a', b'] p => ok T t a c a' && ok T t b c b'
    | .BoolOp .Or (a' :: b' :: d' :: r) p => ok T t a c a' && ok T t b c (.BoolOp .Or (b' :: d' :: r) p)
    | _ => false
  | t, .not a, c, ex => match ex with
    | .UnaryOp .Not a' _ => ok T t a c a'
    | _ => false
  | t, .ite d a b, c, ex => match ex with
    | .IfExp d' a' b' _ => !t && ok T true d c d' && ok T false a c a' && ok T false b c b'
    | _ => false
  | t, .tup es, c, ex => match ex with
    | .Tuple es' _ _ => oks T es c es'
    | _ => false
  | t, .lst es, c, ex => match ex with
    | .List es' _ => oks T es c es'
    | _ => false
  | t, .rep es k, c, ex => match ex with
    | .BinOp (.List es' _) .Mult k' _ => oks T es c es' && ok T false k c k'
    | _ => false
  | t, .idx a i, c, ex => match ex with
    | .Subscript a' i' _ => plainI i' && ok T false a c a' && ok T false i c i'
    | _ => false
  | t, .slc a lo hi, c, ex => match ex with
    | .Subscript a' (.Slice lo' hi' none _) _ => ok T false a c a' && oko T lo c lo' && oko T hi c hi'
    | _ => false
  | t, .rev a, c, ex => false
  | t, .call nw f es, c, ex => match ex with
    | .Call (.Name g _) (e' :: es') [] _ => (!nw || T.nw f) && decide (f = g) && gloB c g && decide (T.ar f = some (es'.length + 1)) && oks T es c (e' :: es')
    | .Call (.Name g _) [] [] _ => (!nw || T.nw f) && decide (f = g) && gloB c g && decide (T.ar f = some 0) && oks T es c []
    | _ => false
  | t, .bi f a, c, ex => match f with
    | .sortset => match ex with
      | .Call (.Name g _) [.Call (.Name g2 _) [a'] [] _] [] _ => decide (g = "sorted") && gloB c g && decide (g2 = "set") && gloB c g2 && notStar a' && ok T false a c a'
      | _ => false
    | f => match ex with
      | .Call (.Name g _) [a'] [] _ => decide (g = biN f) && gloB c g && notStar a' && ok T false a c a'
      | _ => false
  | t, .min2 a b, c, ex => match ex with
    | .Call (.Name g _) [a', b'] [] _ => decide (g = "min") && gloB c g && notStar a' && notStar b' && ok T false a c a' && ok T false b c b'
    | _ => false
  | t, .lrange a b, c, ex => match ex with
    | .Call (.Name g _) [.Call (.Name g2 _) [a', b'] [] _] [] _ => decide (g = "list") && gloB c g && decide (g2 = "range") && gloB c g2 && notStar a' && notStar b' && ok T false a c a' && ok T false b c b'
    | _ => false
  | t, .lzip a b, c, ex => match ex with
    | .Call (.Name g _) [.Call (.Name g2 _) [a', b'] [] _] [] _ => decide (g = "list") && gloB c g && decide (g2 = "zip") && gloB c g2 && notStar a' && notStar b' && ok T false a c a' && ok T false b c b'
    | _ => false
  | t, .isin a ks, c, ex => match ex with
    | .Call (.Name g _) [a', k'] [] _ => decide (g = "isinstance") && gloB c g && notStar a' && ok T false a c a' && (match ks, k' with
      | [k], e => kdB c k e
      | [k, k2], .Tuple [e, e2] _ _ => kdB c k e && kdB c k2 e2
      | _, _ => false)
    | _ => false
  | t, .lcE own e tg it cd, c, ex => match ex with
    | .ListComp e' [⟨tg', it', ifs, 0⟩] scope _ => blkC c.N c.sc scope (ownP c own) && notSet it' && ok T false it c it' && tgtB (c.sub scope) tg tg' && tg.slots.all (fun i => decide (i ∈ own)) && okc T cd (c.sub scope) ifs && ok T false e (c.sub scope) e'
    | _ => false
  | t, .lcR own e tg args cd, c, ex => match ex with
    | .ListComp e' [⟨tg', .Call (.Name g _) args' [] _, ifs, 0⟩] scope _ => blkC c.N c.sc scope (ownP c own) && decide (g = "range") && gloB c g && oks T args c args' && decide (1 ≤ args'.length ∧ args'.length ≤ 3) && tgtB (c.sub scope) tg tg' && tg.slots.all (fun i => decide (i ∈ own)) && okc T cd (c.sub scope) ifs && ok T false e (c.sub scope) e'
    | _ => false
  | t, .lcZ own e tg a b cd, c, ex => match ex with
    | .ListComp e' [⟨.Tuple tes tk tp, .Call (.Name g _) [a', b'] [] _, ifs, 0⟩] scope _ => blkC c.N c.sc scope (ownP c own) && decide (g = "zip") && gloB c g && notStar a' && notStar b' && ok T false a c a' && ok T false b c b' && tgtB (c.sub scope) tg (.Tuple tes tk tp) && tg.slots.all (fun i => decide (i ∈ own)) && okc T cd (c.sub scope) ifs && ok T false e (c.sub scope) e'
    | _ => false
  | t, .lcN own e tg a cd, c, ex => match ex with
    | .ListComp e' [⟨.Tuple tes tk tp, .Call (.Name g _) [a'] [] _, ifs, 0⟩] scope _ => blkC c.N c.sc scope (ownP c own) && decide (g = "enumerate") && gloB c g && notStar a' && ok T false a c a' && tgtB (c.sub scope) tg (.Tuple tes tk tp) && tg.slots.all (fun i => decide (i ∈ own)) && okc T cd (c.sub scope) ifs && ok T false e (c.sub scope) e'
    | _ => false
  | t, .lc2 own own1 e tg it tg1 it1, c, ex => match ex with
    | .ListComp e' [⟨tg', it', [], 0⟩, ⟨tg1', it1', [], 0⟩] scope _ => blkC c.N c.sc scope (ownP c own) && notSet it' && notSet it1' && ok T false it c it' && tgtB (c.sub scope) tg tg' && tg.slots.all (fun i => decide (i ∈ own)) && ok T false it1 (c.sub scope) it1' && tgtB (c.sub scope) tg1 tg1' && tg1.slots.all (fun i => decide (i ∈ own1)) && own1.all (fun i => decide (i ∈ own)) && ok T false e (c.sub scope) e'
    | _ => false
  | t, .nev, c, ex => true
def oks (T : Tb) : List E → SC → List Expr → Bool
  | [], c, exs => match exs with
    | [] => true
    | _ => false
  | e :: es, c, exs => match exs with
    | ex :: exs => notStar ex && ok T false e c ex && oks T es c exs
    | [] => false
def oko (T : Tb) : Option E → SC → Option Expr → Bool
  | none, c, ex => match ex with
    | none => true
    | _ => false
  | some e, c, ex => match ex with
    | some ex => ok T false e c ex
    | none => false
def okc (T : Tb) : Option E → SC → List Expr → Bool
  | none, c, exs => match exs with
    | [] => true
    | _ => false
  | some e, c, exs => match exs with
    | [ex] => ok T true e c ex
    | _ => false
end
end Mi
end
section
set_option maxHeartbeats 2000000
namespace Mi
open PySem PySem.Spec PyProof.Rows L2
section
variable {prog : Program} {w : World} {A : Around} {E : Value → Shared → Prop} {s : Shared}
abbrev emptyL (c : Nat) : Obj := { cls := .type "list", data := .seq #[] c }
/-- the list S is filled from what r makes; J: what the iterator I needs -/
theorem extend_gen {B : Around} {R : Result → Shared → Prop} {r S : Addr} {T : String} {J : Addr → Shared → Prop} {c0 : Nat} (hne : S ≠ r) (hS : s.heap.get? S = some (emptyL c0)) (hT : s.TypeIs (.ref r) T) (hT1 : (Value.type T == Value.type "list") = false) (hT2 : (Value.type T == Value.type "tuple") = false)
    (hit : ∀ E', wpAny (model prog w) A (pyIter (.ref r)) (fun v s2 => ∃ I, v = .ref I ∧ wpAny (model prog w) A (Builtin.List.listLengthHint (.ref r)) (fun b s3 => (∃ c, s3.heap.get? S = some (emptyL c)) ∧ J I s3) E' s2) E' s)
    (hJ : ∀ I s h, J I s → Heap.SameBut S s.heap h → J I { s with heap := h })
    (hloop : ∀ I s c, J I s → s.heap.get? S = some (emptyL c) → codeAny (model prog w) B (.builtin "list.extend.loop" ⟨[.ref S, .ref I, .none], []⟩) R s) :
    wpAny (model prog w) A (Builtin.List.listExtendWith (.ref S) (.ref r) .none)
      (fun fin s' => match fin with | .done f => R (.ok f) s' | .again c' => c'.quiet = true ∧ codeAny (model prog w) B c' R s') E s := by
  unfold Builtin.List.listExtendWith
  refine wpAny_bind (wpAny_typeOf hT ?_)
  have h1 : Builtin.List.listSameRef (.ref S) (.ref r) = false := by simp [Builtin.List.listSameRef, hne]
  simp only [h1, hT1, hT2, Bool.or_false, Bool.false_eq_true, if_false]
  refine wpAny_bind (wpAny_mono (hit E) (fun v s2 ⟨I, e, q⟩ => ?_) fun _ _ q => q)
  subst e
  refine wpAny_bind (wpAny_holding (wpAny_mono q (fun b s3 ⟨⟨c, hS3⟩, j⟩ => ?_) fun _ _ q => q))
  refine wpAny_ite_split (fun _ => ?_) (fun _ => wpAny_pure ⟨plainId_quiet F.plain_extend_loop _, hloop I _ c j hS3⟩)
  refine wpAny_bind (wpAny_rule ?_)
  refine wpAny_bind ?_
  show wpAny _ _ (updateSeq S (·.push .none) >>= fun _ => updateSeq S (·.pop)) _ _ _
  refine wpAny_bind (wpAny_updateSeq hS3 rfl ?_)
  have hS₂ := Heap.get?_update_self (Obj.mapSeq (·.push Value.none)) hS3 rfl
  refine wpAny_updateSeq (hz := by seq_fits) hS₂ rfl ?_
  have hS₃ := Heap.get?_update_self (Obj.mapSeq (·.pop)) hS₂ rfl
  refine wpAny_pure ⟨plainId_quiet F.plain_extend_loop _, hloop I _ _ ?_ hS₃⟩
  exact hJ I s3 _ j ((Heap.SameBut.update ..).trans (Heap.SameBut.update ..))
/-- list(r) -/
theorem list_gen {Q : Value → Shared → Prop} {r : Addr} {T : String} {J : Addr → Shared → Prop} (hr : r < s.heap.objs.size) (hT : s.TypeIs (.ref r) T) (hT1 : (Value.type T == Value.type "list") = false) (hT2 : (Value.type T == Value.type "tuple") = false)
    (hit : ∀ A' E' h c, A'.handled = A.handled → (∀ b o, s.heap.get? b = some o → h.get? b = some o) → h.get? s.heap.objs.size = some (emptyL c) →
      wpAny (model prog w) A' (pyIter (.ref r)) (fun v s2 => ∃ I, v = .ref I ∧ wpAny (model prog w) A' (Builtin.List.listLengthHint (.ref r)) (fun b s3 => (∃ c, s3.heap.get? s.heap.objs.size = some (emptyL c)) ∧ J I s3) E' s2) E' { s with heap := h })
    (hJ : ∀ I s1 h, J I s1 → Heap.SameBut s.heap.objs.size s1.heap h → J I { s1 with heap := h })
    (hloop : ∀ A' R I s1 c, A'.handled = A.handled → J I s1 → s1.heap.get? s.heap.objs.size = some (emptyL c) →
      (∀ s', Q (.ref s.heap.objs.size) s' → R (.ok (.ret .none)) s') → codeAny (model prog w) A' (.builtin "list.extend.loop" ⟨[.ref s.heap.objs.size, .ref I, .none], []⟩) R s1) :
    wpAny (model prog w) A (PySem.call (.type "list") [.ref r]) Q E s := by
  refine callType_codes (Q₁ := fun obj s₁ => obj = .ref s.heap.objs.size ∧ s₁ = { s with heap := s.heap.push { cls := .type "list", data := .seq #[] } }) F.called_list (F.typeCall_list_1 _) F.entry_list_init
    (code_list_new _ ⟨rfl, rfl⟩) fun obj s₁ h₁ => ?_
  obtain ⟨rfl, rfl⟩ := h₁
  have hS : (s.heap.push { cls := .type "list", data := .seq #[] }).get? s.heap.objs.size = some { cls := .type "list", data := .seq #[] } := Heap.get?_push_size _ rfl
  have hne : s.heap.objs.size ≠ r := Nat.ne_of_gt hr
  refine ⟨⟨_, hS, rfl⟩, F.args_list_init_2 _ _, ?_⟩
  show wpAny _ _ (do let old ← Builtin.List.listItems (.ref s.heap.objs.size); Builtin.List.listUpdate (.ref s.heap.objs.size) (fun _ => #[]); letGo old.toList.reverse; Builtin.List.listExtendWith (.ref s.heap.objs.size) (.ref r) .none) _ _ _
  refine wpAny_bind ?_
  unfold Builtin.List.listItems
  refine wpAny_bind (wpAny_seqItems hS rfl (wpAny_pure ?_))
  show wpAny _ _ (updateSeq s.heap.objs.size (fun _ => #[]) >>= fun _ => letGo (#[] : Array Value).toList.reverse >>= fun _ => Builtin.List.listExtendWith (.ref s.heap.objs.size) (.ref r) .none) _ _ _
  refine wpAny_bind (wpAny_updateSeq hS rfl ?_)
  have hS₂ := Heap.get?_update_self (Obj.mapSeq (fun _ => (#[] : Array Value))) hS rfl
  have oth : ∀ b o, s.heap.get? b = some o → ((s.heap.push { cls := .type "list", data := .seq #[] }).update s.heap.objs.size (Obj.mapSeq (fun _ => (#[] : Array Value)))).get? b = some o :=
    fun b o e => (Heap.get?_update_other _ _ (Nat.ne_of_gt (Heap.lt_size e))).trans (Heap.get?_push_of_some _ e)
  refine wpAny_bind (wpAny_letGo ?_)
  obtain ⟨o, ho, hc⟩ := hT
  refine extend_gen (J := J) hne hS₂ ⟨o, oth _ _ ho, hc⟩ hT1 hT2 (fun E' => hit _ E' _ _ rfl oth hS₂) hJ fun I s1 c j h1 => ?_
  exact hloop _ _ I s1 c rfl j h1 fun s' q => ⟨rfl, q⟩

def RJ (s : Shared) (it : Heap → Addr → Prop) (I : Addr) (s1 : Shared) : Prop := (∃ h tk, s1 = { s with heap := h, toks := tk }) ∧ (∀ b o, s.heap.get? b = some o → b ≠ I ∧ s1.heap.get? b = some o) ∧ s.heap.objs.size ≠ I ∧ it s1.heap I
theorem call_list_rng {Q : Value → Shared → Prop} {r : Addr} {a b : Int} {t u v : Tok} (hh : A.handled = none) (hr : IsRange s.heap r a b 1 t u v) (hlen : b - a ≤ 2 ^ 24)
    (hQ : ∀ h' tk acc' c', (∀ b o, s.heap.get? b = some o → h'.get? b = some o) → h'.get? s.heap.objs.size = some { cls := .type "list", dict := none, data := .seq acc' c', slots := #[] } →
      ItemsOf (fun i v => ∃ t, v = .int (a + (i : Nat) * 1) t) acc' (Builtin.Range.rangeSize a b 1).toNat → Q (.ref s.heap.objs.size) { s with heap := h', toks := tk }) :
    wpAny (model prog w) A (PySem.call (.type "list") [.ref r]) Q E s := by
  have hn : Builtin.Range.rangeSize a b 1 = ((Builtin.Range.rangeSize a b 1).toNat : Nat) := rangeSize_toNat a b 1
  have hl : (Builtin.Range.rangeSize a b 1).toNat ≤ 2 ^ 24 := by
    unfold Builtin.Range.rangeSize
    split <;> (try split) <;> omega
  generalize hN : (Builtin.Range.rangeSize a b 1).toNat = n at hn hl hQ
  have main : ∀ (it : Heap → Addr → Prop) (St : Nat → Addr → Heap → Prop), (∀ h I, it h I → St 0 I h) → (∀ (A' : Around) I, A'.handled = none → Walks prog w A' I [I] [I] n (fun i v => ∃ t, v = .int (a + (i : Nat) * 1) t) (fun i h => St i I h)) →
      (∀ h I h', it h I → (∀ o, h.get? I = some o → h'.get? I = some o) → it h' I) →
      (∀ (A' : Around) (E' : Value → Shared → Prop) (s1 : Shared) (Q' : Value → Shared → Prop), IsRange s1.heap r a b 1 t u v → (∀ h', (∀ b o, s1.heap.get? b = some o → h'.get? b = some o) → it h' s1.heap.objs.size → Q' (.ref s1.heap.objs.size) { s1 with heap := h' }) → wpAny (model prog w) A' (pyIter (.ref r)) Q' E' s1) →
      wpAny (model prog w) A (PySem.call (.type "list") [.ref r]) Q E s := by
    intro it St h0 hW hk hp
    refine list_gen (T := "range") (J := RJ s it) (Heap.lt_size hr) ⟨_, hr, rfl⟩ (by decide) (by decide) (fun A' E' h c hA kp hS => ?_) (fun I s1 h j sb => ?_) fun A' R I s1 c hA j hS fin => ?_
    · refine hp A' E' _ _ (kp _ _ hr) fun h' kp2 hi => ⟨_, rfl, ?_⟩
      exact wpAny_hint_range (s := { s with heap := h' }) (kp2 _ _ (kp _ _ hr)) hn hl ⟨⟨c, kp2 _ _ hS⟩, ⟨_, _, rfl⟩, fun b o e => ⟨Nat.ne_of_lt (Heap.lt_size (kp _ _ e)), kp2 _ _ (kp _ _ e)⟩, Nat.ne_of_lt (Heap.lt_size hS), hi⟩
    · obtain ⟨⟨h1, tk1, rfl⟩, k1, n1, i1⟩ := j
      have hSb : ∀ b o, b ≠ s.heap.objs.size → h1.get? b = some o → h.get? b = some o := fun b o hb e => (sb.2 b hb).trans e
      refine ⟨⟨_, _, rfl⟩, fun b o e => ?_, n1, hk _ _ _ i1 fun o e => hSb I o (Ne.symm n1) e⟩
      have q := k1 b o e
      exact ⟨q.1, hSb b o (Nat.ne_of_lt (Heap.lt_size e)) q.2⟩
    · obtain ⟨⟨h1, tk1, rfl⟩, k1, n1, i1⟩ := j
      have hh' : A'.in1.handled = none := by
        show A'.handled = none
        rw [hA]; exact hh
      refine codeAny_extend_loopS ((hW A'.in1 I hh').toS) (by rw [sizeLine_eq]; omega) _ (by simpa using n1) .none n 0 _ #[] c rfl (Nat.zero_le _) (h0 _ _ i1) hS (ItemsOf.nil _) fun s' acc' c' hm hS' hacc => fin _ ?_
      rw [Moved.eq_with hm]
      refine hQ s'.heap s'.toks acc' c' (fun b o e => ?_) hS' hacc
      have q := k1 b o e
      refine hm.heap b o (fun hmem => ?_) q.2
      rcases List.mem_cons.mp hmem with e' | hmem
      · exact absurd e' (Nat.ne_of_lt (Heap.lt_size e))
      · exact q.1 (List.mem_singleton.mp hmem)
  have e0 : a + ((0 : Nat) : Int) * 1 = a := by simp
  cases sm : Builtin.Range.small a b 1 with
  | true =>
    refine main (fun h I => IsRangeIter h I a n 1) (fun i I h => IsRangeIter h I (a + (i : Nat) * 1) ((n : Int) - (i : Nat)) 1) (fun h I x => by rw [e0]; simpa using x) (fun A' I hA => Walks.range hA I a 1 n) (fun h I h' x k => k _ x) fun A' E' s1 Q' h1 h2 => ?_
    refine wpAny_pyIter_range h1 sm (h2 _ (fun b o e => Heap.get?_push_of_some _ e) ?_)
    have q : IsRangeIter (s1.heap.push { cls := .type "range_iterator", data := .fields #[rawInt a, rawInt (Builtin.Range.rangeSize a b 1), rawInt 1] }) s1.heap.objs.size a (Builtin.Range.rangeSize a b 1) 1 := Heap.get?_push_size _ rfl
    rw [hn] at q
    rw [hn]
    exact q
  | false =>
    refine main (fun h I => IsLongIter h I a n 1) (fun i I h => IsLongIter h I (a + (i : Nat) * 1) ((n : Int) - (i : Nat)) 1) (fun h I x => by rw [e0]; simpa using x) (fun A' I hA => Walks.longrange hA I a 1 n) (fun h I h' x k => k _ x) fun A' E' s1 Q' h1 h2 => ?_
    refine wpAny_pyIter_longrange h1 sm (h2 _ (fun b o e => Heap.get?_push_of_some _ e) ?_)
    have q : IsLongIter (s1.heap.push { cls := .type "longrange_iterator", data := .fields #[rawInt a, rawInt (Builtin.Range.rangeSize a b 1), rawInt 1] }) s1.heap.objs.size a (Builtin.Range.rangeSize a b 1) 1 := Heap.get?_push_size _ rfl
    rw [hn] at q
    rw [hn]
    exact q
end
end Mi
end
section
set_option maxHeartbeats 2000000
namespace Mi
open PySem PySem.Spec PyProof.Rows L2
theorem zip_no_len : typeLookup (.type "zip") "__len__" = pure none := am_miss_of_fast (by decide +kernel)
theorem zip_no_hint : typeLookup (.type "zip") "__length_hint__" = pure none := am_miss_of_fast (by decide +kernel)
theorem cls_no {h : Heap} {b : Addr} {o o' : Obj} {S T : String} (e : h.get? b = some o) (e' : h.get? b = some o') (c : o.cls = .type S) (c' : o'.cls = .type T) (n : S ≠ T) : False := by
  rw [e] at e'
  cases e'
  rw [c] at c'
  exact n (Value.type.inj c')
section
variable {prog : Program} {w : World} {A : Around} {E : Value → Shared → Prop} {s : Shared}
theorem hint_zip {r : Addr} {Q : Bool → Shared → Prop} (hT : s.TypeIs (.ref r) "zip") (h : Q true s) : wpAny (model prog w) A (Builtin.List.listLengthHint (.ref r)) Q E s := by
  unfold Builtin.List.listLengthHint
  refine wpAny_bind (wpAny_specialOf hT zip_no_len ?_)
  show wpAny _ A (specialOf (Value.ref r) (Str.ofString "__length_hint__") >>= _) _ _ _
  exact wpAny_bind (wpAny_specialOf hT zip_no_hint (wpAny_pure h))
structure ZS (s0 : Shared) (S z TI TO i1 i2 l1 l2 : Addr) (xs ys : Array Value) (i : Nat) (acc : Array Value) (h : Heap) : Prop where
  zip : (IsZip h z TI TO .none ∨ ∃ T f x y, IsZipHeld h z TI TO T f ∧ IsPair h T x y)
  ti : IsPair h TI (.ref i1) (.ref i2)
  to : ∃ a b, IsPair h TO a b
  w1 : h.IsListIter i1 l1 i
  w2 : h.IsListIter i2 l2 i
  e1 : h.IsList l1 xs
  e2 : h.IsList l2 ys
  lst : ∃ c, h.get? S = some { cls := .type "list", dict := none, data := .seq acc c, slots := #[] }
  len : acc.size = i
  its : ∀ j, j < i → ∃ T x y, acc[j]? = some (.ref T) ∧ xs[j]? = some x ∧ ys[j]? = some y ∧ s0.heap.objs.size ≤ T ∧ T ≠ TO ∧ IsPair h T x y
  inj : ∀ j k, j < k → k < i → acc[j]? ≠ acc[k]?
  kp : ∀ b o, s0.heap.get? b = some o → h.get? b = some o
structure ZA (s0 : Shared) (S z TI TO i1 i2 l1 l2 : Addr) : Prop where
  D : ZipApart z TI TO i1 i2 l1 l2
  ne : S ≠ z ∧ S ≠ TI ∧ S ≠ TO ∧ S ≠ i1 ∧ S ≠ i2 ∧ S ≠ l1 ∧ S ≠ l2
  ge : s0.heap.objs.size ≤ S ∧ s0.heap.objs.size ≤ z ∧ s0.heap.objs.size ≤ TO ∧ s0.heap.objs.size ≤ i1 ∧ s0.heap.objs.size ≤ i2 ∧ s0.heap.objs.size ≤ TI
/-- a step of zip: the new pair, then the list is longer -/
theorem ZS.step {s0 : Shared} {S z TI TO i1 i2 l1 l2 : Addr} {xs ys acc : Array Value} {i : Nat} {h h' h2 : Heap} {T : Addr} {x y : Value} (a : ZA s0 S z TI TO i1 i2 l1 l2) (Z : ZS s0 S z TI TO i1 i2 l1 l2 xs ys i acc h) (hx : xs[i]? = some x) (hy : ys[i]? = some y)
    (hT : h.objs.size = T) (zp : IsZipHeld h' z TI TO T false ∨ ∃ T0 f x y, IsZipHeld h' z TI TO T0 f ∧ IsPair h T0 x y) (tO : ∃ a b, IsPair h' TO a b) (k1 : h'.IsListIter i1 l1 (i + 1)) (k2 : h'.IsListIter i2 l2 (i + 1)) (pT : IsPair h' T x y)
    (kp : ∀ c o, c ≠ z → c ≠ TO → c ≠ i1 → c ≠ i2 → h.get? c = some o → h'.get? c = some o) (sb : Heap.SameBut S h' h2) (hS : ∃ c, h2.get? S = some { cls := .type "list", dict := none, data := .seq (acc.push (.ref T)) c, slots := #[] }) :
    ZS s0 S z TI TO i1 i2 l1 l2 xs ys (i + 1) (acc.push (.ref T)) h2 := by
  obtain ⟨D, ⟨n1, n2, n3, n4, n5, n6, n7⟩, g1, g2, g3, g4, g5, g6⟩ := a
  have up : ∀ b o, b ≠ S → h'.get? b = some o → h2.get? b = some o := fun b o hb e => (sb.2 b hb).trans e
  have ol : ∀ b o, b ≠ z → b ≠ TO → b ≠ i1 → b ≠ i2 → b ≠ S → h.get? b = some o → h2.get? b = some o := fun b o c1 c2 c3 c4 c5 e => up b o c5 (kp b o c1 c2 c3 c4 e)
  -- a pair is no zip, no iterator, no list
  obtain ⟨cS, eS⟩ := Z.lst
  have pr : ∀ (b : Addr) (u v : Value), IsPair h b u v → b ≠ z ∧ b ≠ i1 ∧ b ≠ i2 ∧ b ≠ S := fun b u v e => by
    have e' : h.get? b = some { cls := .type "tuple", data := .seq #[u, v] } := e
    refine ⟨fun q => ?_, fun q => ?_, fun q => ?_, fun q => ?_⟩
    · subst q
      rcases Z.zip with z1 | ⟨T1, f1, x1, y1, z1, _⟩
      · exact cls_no e' z1 rfl rfl (by decide)
      · exact cls_no e' z1 rfl rfl (by decide)
    · subst q
      obtain ⟨o, ho, hc, _⟩ := Z.w1
      exact cls_no e' ho rfl hc (by decide)
    · subst q
      obtain ⟨o, ho, hc, _⟩ := Z.w2
      exact cls_no e' ho rfl hc (by decide)
    · subst q
      exact cls_no e' eS rfl rfl (by decide)
  have lt : ∀ {b o}, h.get? b = some o → b ≠ T := fun e q => by
    have h1 := Heap.lt_size e
    rw [hT, q] at h1
    exact Nat.lt_irrefl _ h1
  have TS : T ≠ S := fun q => (lt eS) q.symm
  have pT2 : IsPair h2 T x y := up _ _ TS pT
  refine ⟨.inr ?_, ?_, ?_, ?_, ?_, ?_, ?_, hS, ?_, fun j hj => ?_, fun j k hj hk => ?_, fun b o e => ?_⟩
  · rcases zp with q | ⟨T0, f, x0, y0, q, p0⟩
    · exact ⟨T, false, x, y, up _ _ (Ne.symm n1) q, pT2⟩
    · obtain ⟨c1, c2, c3, c4⟩ := pr _ _ _ p0
      by_cases hO : T0 = TO
      · subst hO
        obtain ⟨x1, y1, e1⟩ := tO
        exact ⟨T0, f, x1, y1, up _ _ (Ne.symm n1) q, up _ _ c4 e1⟩
      · exact ⟨T0, f, x0, y0, up _ _ (Ne.symm n1) q, ol _ _ c1 hO c2 c3 c4 p0⟩
  · exact ol _ _ D.TIz D.TITO D.TIi1 D.TIi2 (Ne.symm n2) Z.ti
  · obtain ⟨x1, y1, e1⟩ := tO
    exact ⟨x1, y1, up _ _ (Ne.symm n3) e1⟩
  · exact k1.at fun o e => up _ _ (Ne.symm n4) e
  · exact k2.at fun o e => up _ _ (Ne.symm n5) e
  · exact Z.e1.at fun o e => ol _ _ D.l1z D.l1TO D.l1i1 D.l1i2 (Ne.symm n6) e
  · exact Z.e2.at fun o e => ol _ _ D.l2z D.l2TO D.l2i1 D.l2i2 (Ne.symm n7) e
  · rw [Array.size_push, Z.len]
  · by_cases hj2 : j = i
    · subst hj2
      refine ⟨T, x, y, ?_, hx, hy, ?_, ?_, pT2⟩
      · rw [Array.getElem?_push, if_pos Z.len.symm]
      · rw [← hT]
        have q := Z.kp
        exact Nat.le_of_lt (Nat.lt_of_le_of_lt g1 (Heap.lt_size eS))
      · obtain ⟨x1, y1, e1⟩ := Z.to
        exact fun q => (lt e1) q.symm
    · obtain ⟨T1, x1, y1, e1, e2, e3, e4, hO, e5⟩ := Z.its j (by omega)
      refine ⟨T1, x1, y1, ?_, e2, e3, e4, hO, ?_⟩
      · rw [Array.getElem?_push, if_neg (by rw [Z.len]; omega)]
        exact e1
      · obtain ⟨c1, c2, c3, c4⟩ := pr _ _ _ e5
        exact ol _ _ c1 hO c2 c3 c4 e5
  · obtain ⟨T1, x1, y1, e1, e2, e3, e4, hO, e5⟩ := Z.its j (by omega)
    rw [Array.getElem?_push, if_neg (by rw [Z.len]; omega)]
    by_cases hk2 : k = i
    · rw [Array.getElem?_push, if_pos (by rw [Z.len]; exact hk2), e1]
      intro q
      cases q
      exact lt e5 rfl
    · rw [Array.getElem?_push, if_neg (by rw [Z.len]; exact hk2)]
      exact Z.inj j k hj (by omega)
  · have hb := Heap.lt_size e
    exact ol b o (Nat.ne_of_lt (Nat.lt_of_lt_of_le hb g2)) (Nat.ne_of_lt (Nat.lt_of_lt_of_le hb g3)) (Nat.ne_of_lt (Nat.lt_of_lt_of_le hb g4)) (Nat.ne_of_lt (Nat.lt_of_lt_of_le hb g5)) (Nat.ne_of_lt (Nat.lt_of_lt_of_le hb g1)) (Z.kp b o e)

theorem zip_loop {R : Result → Shared → Prop} {s0 : Shared} {S z TI TO i1 i2 l1 l2 : Addr} {xs ys : Array Value} (hh : A.handled = none) (a : ZA s0 S z TI TO i1 i2 l1 l2) (hn : min xs.size ys.size ≤ sizeLine)
    (hR : ∀ h' acc, (∀ b o, s0.heap.get? b = some o → h'.get? b = some o) → (∃ c, h'.get? S = some { cls := .type "list", dict := none, data := .seq acc c, slots := #[] }) → acc.size = min xs.size ys.size →
      (∀ j, j < min xs.size ys.size → ∃ T x y, acc[j]? = some (.ref T) ∧ xs[j]? = some x ∧ ys[j]? = some y ∧ s0.heap.objs.size ≤ T ∧ IsPair h' T x y) → (∀ j k, j < k → k < min xs.size ys.size → acc[j]? ≠ acc[k]?) → R (.ok (.ret .none)) { s0 with heap := h' }) :
    ∀ (k i : Nat) (h : Heap) (acc : Array Value), min xs.size ys.size - i = k → i ≤ min xs.size ys.size → ZS s0 S z TI TO i1 i2 l1 l2 xs ys i acc h → codeAny (model prog w) A (.builtin "list.extend.loop" ⟨[.ref S, .ref z, .none], []⟩) R { s0 with heap := h } := by
  intro k
  induction k with
  | zero =>
    intro i h acc hk hi Z
    have hin : i = min xs.size ys.size := by omega
    have hend : xs[i]? = none ∨ ys[i]? = none := by
      rcases Nat.le_total xs.size ys.size with q | q
      · exact .inl (Array.getElem?_eq_none (by omega))
      · exact .inr (Array.getElem?_eq_none (by omega))
    refine codeAny_builtin F.entry_extend_loop ?_
    rw [Around.under_plainId F.plain_extend_loop _]
    show wpAny _ A.in1 (pyNext (.ref z) >>= _) _ _ _
    have hh' : A.in1.handled = none := hh
    have fin : ∀ h', (∀ c o, c ≠ z → c ≠ TO → c ≠ i1 → c ≠ i2 → h.get? c = some o → h'.get? c = some o) → R (.ok (.ret .none)) { s0 with heap := h' } := fun h' kp => by
      obtain ⟨cS, eS⟩ := Z.lst
      obtain ⟨n1, n2, n3, n4, n5, n6, n7⟩ := a.ne
      obtain ⟨g1, g2, g3, g4, g5, g6⟩ := a.ge
      refine hR h' acc (fun b o e => ?_) ⟨cS, kp _ _ n1 n3 n4 n5 eS⟩ (by rw [Z.len]; exact hin) (fun j hj => ?_) fun j k hj hk => Z.inj j k hj (by omega)
      · have hb := Heap.lt_size e
        exact kp b o (Nat.ne_of_lt (Nat.lt_of_lt_of_le hb g2)) (Nat.ne_of_lt (Nat.lt_of_lt_of_le hb g3)) (Nat.ne_of_lt (Nat.lt_of_lt_of_le hb g4)) (Nat.ne_of_lt (Nat.lt_of_lt_of_le hb g5)) (Z.kp b o e)
      · obtain ⟨T1, x1, y1, e1, e2, e3, e4, hO, e5⟩ := Z.its j (by omega)
        refine ⟨T1, x1, y1, e1, e2, e3, e4, kp _ _ (fun q => ?_) hO (fun q => ?_) (fun q => ?_) e5⟩
        · subst q
          have e' : h.get? T1 = some { cls := .type "tuple", data := .seq #[x1, y1] } := e5
          rcases Z.zip with z1 | ⟨T2, f2, x2, y2, z1, _⟩
          · exact cls_no e' z1 rfl rfl (by decide)
          · exact cls_no e' z1 rfl rfl (by decide)
        · subst q
          have e' : h.get? T1 = some { cls := .type "tuple", data := .seq #[x1, y1] } := e5
          obtain ⟨o, ho, hc, _⟩ := Z.w1
          exact cls_no e' ho rfl hc (by decide)
        · subst q
          have e' : h.get? T1 = some { cls := .type "tuple", data := .seq #[x1, y1] } := e5
          obtain ⟨o, ho, hc, _⟩ := Z.w2
          exact cls_no e' ho rfl hc (by decide)
    rcases Z.zip with z1 | ⟨T2, f2, x2, y2, z1, p2⟩
    · obtain ⟨x0, y0, t0⟩ := Z.to
      exact wpAny_bind (wpAny_pyNext_zip_end (s := { s0 with heap := h }) hh' a.D z1 Z.ti t0 Z.w1 Z.w2 Z.e1 Z.e2 hend fun h' kp => wpAny_pure (fin h' kp))
    · exact wpAny_bind (wpAny_pyNext_zip_end_held (s := { s0 with heap := h }) hh' a.D z1 p2 Z.ti Z.w1 Z.w2 Z.e1 Z.e2 hend fun h' kp => wpAny_pure (fin h' fun c o c1 _ c3 c4 e => kp c o c1 c3 c4 e))
  | succ k ih =>
    intro i h acc hk hi Z
    have hlt : i < min xs.size ys.size := by omega
    have hx : xs[i]? = some xs[i] := Array.getElem?_eq_getElem (by omega)
    have hy : ys[i]? = some ys[i] := Array.getElem?_eq_getElem (by omega)
    refine codeAny_builtin F.entry_extend_loop ?_
    rw [Around.under_plainId F.plain_extend_loop _]
    show wpAny _ A.in1 (pyNext (.ref z) >>= _) _ _ _
    obtain ⟨cS, eS⟩ := Z.lst
    obtain ⟨n1, n2, n3, n4, n5, n6, n7⟩ := a.ne
    have go : ∀ h', (IsZipHeld h' z TI TO h.objs.size false ∨ ∃ T0 f x y, IsZipHeld h' z TI TO T0 f ∧ IsPair h T0 x y) → (∃ a b, IsPair h' TO a b) → h'.IsListIter i1 l1 (i + 1) → h'.IsListIter i2 l2 (i + 1) → IsPair h' h.objs.size xs[i] ys[i] →
        (∀ c o, c ≠ z → c ≠ TO → c ≠ i1 → c ≠ i2 → h.get? c = some o → h'.get? c = some o) →
        wpAny (model prog w) A.in1 (updateSeq S (·.push (Value.ref h.objs.size)) >>= fun _ => again (.builtin "list.extend.loop" ⟨[.ref S, .ref z, .none], []⟩)) (fun fin s' => match fin with | .done f => R (.ok f) s' | .again c' => c'.quiet = true ∧ codeAny (model prog w) A c' R s') (fun e s' => R (.error e) s') { s0 with heap := h' } := by
      intro h' q1 q2 q3 q4 q5 kp
      have eS' : h'.get? S = some { cls := .type "list", dict := none, data := .seq acc cS, slots := #[] } := kp _ _ n1 n3 n4 n5 eS
      refine wpAny_bind ?_
      refine wpAny_updateSeq (s := { s0 with heap := h' }) eS' rfl (wpAny_pure ⟨plainId_quiet F.plain_extend_loop _, ?_⟩) (by rw [Z.len]; omega) (by show (acc.push _).size ≤ sizeLine + 1; rw [Array.size_push, Z.len]; omega)
      exact ih (i + 1) _ (acc.push (.ref h.objs.size)) (by omega) hlt (Z.step a hx hy rfl q1 q2 q3 q4 q5 kp (Heap.SameBut.update ..) ⟨_, Heap.get?_update_self _ eS' rfl⟩)
    rcases Z.zip with z1 | ⟨T2, f2, x2, y2, z1, p2⟩
    · obtain ⟨x0, y0, t0⟩ := Z.to
      exact wpAny_bind (wpAny_pyNext_zip_item (s := { s0 with heap := h }) a.D z1 Z.ti t0 Z.w1 Z.w2 Z.e1 Z.e2 hx hy fun h' a1 a2 a3 a4 a5 a6 kp => go h' (.inl a1) ⟨_, _, a2⟩ a3 a4 a5 kp)
    · refine wpAny_bind (wpAny_pyNext_zip_item_held (s := { s0 with heap := h }) a.D z1 p2 Z.ti Z.w1 Z.w2 Z.e1 Z.e2 hx hy fun h' a1 a3 a4 a5 a6 kp => go h' (.inr ⟨T2, true, x2, y2, a1, p2⟩) ?_ a3 a4 a5 fun c o c1 _ c3 c4 e => kp c o c1 c3 c4 e)
      obtain ⟨x0, y0, t0⟩ := Z.to
      exact ⟨x0, y0, kp _ _ a.D.TOz a.D.TOi1 a.D.TOi2 t0⟩
end
end Mi
end
section
set_option maxHeartbeats 2000000
namespace Mi
open RZ
open PySem PySem.Spec PyProof.Rows L2
section
variable {X : Cx} {XX : XR} {W : WX}
/-- new pairs, tracked one by one -/
theorem lay_pairs {pins : List (Addr × Obj)} {σ : St} {H : Hp} {ι : Lv} {s : Shared} {h' : Heap} (I : Inv X pins σ H s) (kp : ∀ b o, s.heap.get? b = some o → h'.get? b = some o) :
    ∀ (us ws : List V) (xs ys : List D) (vs1 vs2 : List Value) (Ts : List Addr), DqAll X.K H ι us xs → DqAll X.K H ι ws ys → Vals us vs1 → Vals ws vs2 → Ts.length = min us.length ws.length → Ts.Nodup → (∀ T ∈ Ts, s.heap.objs.size ≤ T) →
      (∀ (j : Nat) (T : Addr) x y, Ts[j]? = some T → vs1[j]? = some x → vs2[j]? = some y → IsPair h' T x y) →
      ∀ (G : Heap) (H0 : Hp) (tk : Nat), Inv X pins σ H0 { s with heap := G, toks := tk } → Same H H0 → (∀ b, b ∉ Ts → G.get? b = h'.get? b) → (∀ b ∈ Ts, G.get? b = none ∧ H0 b = none) →
      ∃ H2 us', Inv X pins σ H2 { s with heap := h', toks := tk } ∧ Same H0 H2 ∧ (∀ b, b ∉ Ts → H2 b = H0 b) ∧ Vals us' (Ts.map Value.ref) ∧ DqAll X.K H2 ι us' (zipD xs ys)
  | [], ws, [], ys, [], vs2, Ts, .nil, d2, .nil, r2, hl, nd, hge, hp, G, H0, tk, I0, sm, g1, g2 => by
    have e : Ts = [] := List.length_eq_zero_iff.mp (by rw [hl]; simp)
    subst e
    exact ⟨H0, [], I0.kept (t' := tk) fun b o e => by rw [← g1 b (by simp)]; exact e, same_refl _, fun _ _ => rfl, .nil, by simp only [zipD, List.zip_nil_left, List.map_nil]; exact .nil⟩
  | u :: us, [], xs, [], vs1, [], Ts, d1, .nil, r1, .nil, hl, nd, hge, hp, G, H0, tk, I0, sm, g1, g2 => by
    have e : Ts = [] := List.length_eq_zero_iff.mp (by rw [hl]; simp)
    subst e
    refine ⟨H0, [], I0.kept (t' := tk) fun b o e => by rw [← g1 b (by simp)]; exact e, same_refl _, fun _ _ => rfl, .nil, ?_⟩
    unfold zipD
    rw [List.zip_nil_right]
    exact .nil
  | u :: us, w :: ws, x :: xs, y :: ys, v1 :: vs1, v2 :: vs2, Ts, .cons d1 e1, .cons d2 e2, .cons r1 q1, .cons r2 q2, hl, nd, hge, hp, G, H0, tk, I0, sm, g1, g2 => by
    match Ts, hl with
    | [], hl => simp at hl
    | T :: Ts, hl =>
    have pT : IsPair h' T v1 v2 := hp 0 T v1 v2 rfl rfl rfl
    obtain ⟨nT, nd'⟩ := List.nodup_cons.mp nd
    obtain ⟨gT, hT⟩ := g2 T List.mem_cons_self
    obtain ⟨G2, a1, a2⟩ := restrict h' fun b => decide (b ∉ Ts)
    have kG : ∀ b o, G.get? b = some o → G2.get? b = some o := fun b o e => by
      have hb : b ∉ T :: Ts := fun z => by rw [(g2 b z).1] at e; cases e
      rw [a1 b (decide_eq_true fun z => hb (List.mem_cons_of_mem _ z)), ← g1 b hb]
      exact e
    have p2 : IsPair G2 T v1 v2 := by
      show G2.get? T = _
      rw [a1 T (decide_eq_true nT)]
      exact pT
    have new : ObjOk X.prog X.w (upd H0 T (.tup [u, w])) G2 T (.tup [u, w]) := ⟨by show 2 ≤ sizeLine; decide, [v1, v2], .cons r1 (.cons r2 .nil), ⟨_, p2, rfl, _, rfl⟩⟩
    have I1 : Inv X pins σ (upd H0 T (.tup [u, w])) { s with heap := G2, toks := tk } := Inv.laidN (s := { s with heap := G, toks := tk }) (t' := tk) I0 kG gT hT new
    obtain ⟨H2, us', I2, sm2, ot, rv, dd⟩ := lay_pairs I kp us ws xs ys vs1 vs2 Ts e1 e2 q1 q2 (by simp at hl ⊢; omega) nd' (fun T' h => hge T' (List.mem_cons_of_mem _ h)) (fun j T' x y b1 b2 b3 => hp (j + 1) T' x y (by simpa using b1) (by simpa using b2) (by simpa using b3))
      G2 (upd H0 T (.tup [u, w])) tk I1 (fun b o e => same_upd hT b o (sm b o e)) (fun b hb => a1 b (decide_eq_true hb)) fun b hb => ⟨a2 b (by simpa using hb), by
        have hne : b ≠ T := fun z => nT (by rw [← z]; exact hb)
        rw [upd_ne hne]
        exact (g2 b (List.mem_cons_of_mem _ hb)).2⟩
    have sm3 : Same H0 H2 := fun b o e => sm2 b o (same_upd hT b o e)
    refine ⟨H2, .ref T :: us', I2, sm3, fun b hb => ?_, .cons rfl rv, ?_⟩
    · have hne : b ≠ T := fun z => hb (by rw [z]; exact List.mem_cons_self)
      rw [ot b fun z => hb (List.mem_cons_of_mem _ z), upd_ne hne]
    have exx : Ext ι H H2 := Ext.of fun b o e => sm3 b o (sm b o e)
    exact .cons (.tup (.inl (.inl (sm2 _ _ upd_same))) (.cons (d1.mono exx (Grow.refl _ _)) (.cons (d2.mono exx (Grow.refl _ _)) .nil))) dd
def tLz (K : Frag) (ta : TA) : TE := fun σ H Q => ta σ H fun vs H1 => ∃ ι a b us ws xs ys, vs = [.ref a, .ref b] ∧ SqL K H1 a us ∧ SqL K H1 b ws ∧ DqAll K H1 ι us xs ∧ DqAll K H1 ι ws ys ∧
  ∀ H2 us' p, Same H1 H2 → DqAll K H2 ι us' (zipD xs ys) → H2 p = none → Q (.ref p) (upd H2 p (.lst us'))
theorem pe_lzip {a b : Expr} {ta : TA} {p p2 q pos : Pos} (hg : Gl X "list") (hm : X.mg "list" = none) (hg2 : Gl X "zip") (hm2 : X.mg "zip" = none) (ha : PA X [a, b] ta) (hc : X.calm = true)
    (hs : starEach [a, b] X.env = (false, eval a X.env) :: starEach [b] X.env) (hpl : (backTo q (starEach [b] X.env)).any (·.1) = false) : PE X (.Call (.Name "list" p) [.Call (.Name "zip" p2) [a, b] [] q] [] pos) (tLz X.K ta) := by
  refine ⟨fun pins s σ H Q I h => ?_⟩
  refine Call_ (ld_blt I hg hm boot_list ?_)
  refine PyProof.Rows.callWith_type1 (PyProof.Rows.args_cons ?_ rfl) rfl rfl
  refine Call_ (ld_blt I hg2 hm2 boot_zip ?_)
  refine PyProof.Rows.callWith_type1 (thn (ha.run q pins s σ H _ I h) fun vs s1 ⟨us0, H1, I1, r1, q1⟩ => ?_) hs hpl
  obtain ⟨ι, l1, l2, us, ws, xs, ys, rfl, t1, t2, d1, d2, q1⟩ := q1
  rcases r1 with _ | ⟨r1, rr⟩
  rcases rr with _ | ⟨r2, rr⟩
  cases rr
  cases r1
  cases r2
  obtain ⟨its1, rv1, pl1, hz1⟩ := I1.list t1
  obtain ⟨its2, rv2, pl2, hz2⟩ := I1.list t2
  have hl1 : l1 < s1.heap.objs.size := by obtain ⟨o, e, _⟩ := pl1.isList; exact Heap.lt_size e
  have hl2 : l2 < s1.heap.objs.size := by obtain ⟨o, e, _⟩ := pl2.isList; exact Heap.lt_size e
  refine call_zip_2 pl1.isList pl2.isList fun h' hz hTI hTO hi1 hi2 hsz kp => ?_
  refine PyProof.Rows.args_nil ?_
  have D := PySem.W.ktu_apart s1.heap.objs.size l1 l2 hl1 hl2
  have hsz' : ({ s1 with heap := h' } : Shared).heap.objs.size = s1.heap.objs.size + 5 := hsz
  have zlt : s1.heap.objs.size + 4 < h'.objs.size := by rw [hsz]; exact Nat.lt_succ_self _
  have ns : ∀ k : Nat, k < 5 → s1.heap.objs.size + 5 ≠ s1.heap.objs.size + k := fun k hk z => by
    have := Nat.add_left_cancel z
    omega
  have nl : ∀ l : Addr, l < s1.heap.objs.size → s1.heap.objs.size + 5 ≠ l := fun l hl z => by
    rw [← z] at hl
    exact absurd hl (Nat.not_lt.mpr (Nat.le_add_right _ _))
  have za : ZA s1 (s1.heap.objs.size + 5) (s1.heap.objs.size + 4) (s1.heap.objs.size + 2) (s1.heap.objs.size + 3) s1.heap.objs.size (s1.heap.objs.size + 1) l1 l2 :=
    ⟨D, ⟨ns 4 (by decide), ns 2 (by decide), ns 3 (by decide), ns 0 (by decide), ns 1 (by decide), nl _ hl1, nl _ hl2⟩, ⟨Nat.le_add_right _ _, Nat.le_add_right _ _, Nat.le_add_right _ _, Nat.le_refl _, Nat.le_add_right _ _, Nat.le_add_right _ _⟩⟩
  refine list_gen (s := { s1 with heap := h' }) (T := "zip") (J := fun I s2 => I = s1.heap.objs.size + 4 ∧ ∃ h2, s2 = { s1 with heap := h2 } ∧ IsZip h2 (s1.heap.objs.size + 4) (s1.heap.objs.size + 2) (s1.heap.objs.size + 3) .none ∧ IsPair h2 (s1.heap.objs.size + 2) (.ref s1.heap.objs.size) (.ref (s1.heap.objs.size + 1)) ∧
    IsPair h2 (s1.heap.objs.size + 3) .none .none ∧ h2.IsListIter s1.heap.objs.size l1 0 ∧ h2.IsListIter (s1.heap.objs.size + 1) l2 0 ∧ h2.IsList l1 its1.toArray ∧ h2.IsList l2 its2.toArray ∧ ∀ b o, s1.heap.get? b = some o → h2.get? b = some o)
    zlt ⟨_, hz, rfl⟩ (by decide) (by decide) (fun A' E' h2 c hA kp2 hS => ?_) (fun I s2 h2 j sb => ?_) fun A' R I s2 c hA j hS fin => ?_
  · rw [hsz'] at hS ⊢
    refine wpAny_pyIter_zip (s := { s1 with heap := h2 }) (kp2 _ _ hz) ⟨_, rfl, hint_zip ⟨_, kp2 _ _ hz, rfl⟩ ⟨⟨c, hS⟩, rfl, h2, rfl, kp2 _ _ hz, kp2 _ _ hTI, kp2 _ _ hTO, hi1.at fun o e => kp2 _ _ e, hi2.at fun o e => kp2 _ _ e, pl1.isList.at fun o e => kp2 _ _ (kp _ _ e), pl2.isList.at fun o e => kp2 _ _ (kp _ _ e), fun b o e => kp2 _ _ (kp _ _ e)⟩⟩
  · rw [hsz'] at sb
    obtain ⟨e, h3, rfl, b1, b2, b3, b4, b5, b6, b7, b8⟩ := j
    obtain ⟨n1, n2, n3, n4, n5, n6, n7⟩ := za.ne
    have up : ∀ b o, s1.heap.objs.size + 5 ≠ b → h3.get? b = some o → h2.get? b = some o := fun b o hb e => (sb.2 b (Ne.symm hb)).trans e
    exact ⟨e, h2, rfl, up _ _ n1 b1, up _ _ n2 b2, up _ _ n3 b3, b4.at fun o e => up _ _ n4 e, b5.at fun o e => up _ _ n5 e, b6.at fun o e => up _ _ n6 e, b7.at fun o e => up _ _ n7 e, fun b o e => up _ _ (nl b (Heap.lt_size e)) (b8 b o e)⟩
  · rw [hsz'] at hS fin ⊢
    obtain ⟨rfl, h3, rfl, b1, b2, b3, b4, b5, b6, b7, b8⟩ := j
    have hA' : A'.handled = none := by rw [hA]; exact I1.ok.hd hc
    refine zip_loop (s0 := s1) hA' za (by rw [List.size_toArray, List.size_toArray]; have := rv1.length; omega) (fun h4 acc kp4 hacc hlen hits hinj => fin _ ?_) _ 0 h3 #[] rfl (Nat.zero_le _) ⟨.inl b1, b2, ⟨_, _, b3⟩, b4, b5, b6, b7, ⟨c, hS⟩, rfl, fun j hj => absurd hj (Nat.not_lt_zero _), fun j k _ hk => absurd hk (Nat.not_lt_zero _), b8⟩
    have hmin : min its1.toArray.size its2.toArray.size = min us.length ws.length := by rw [List.size_toArray, List.size_toArray, rv1.length, rv2.length]
    rw [hmin] at hlen hits hinj
    -- the addresses
    let adr : Value → Addr := fun v => match v with
      | .ref a => a
      | _ => 0
    have hacc2 : acc.toList = (acc.toList.map adr).map Value.ref := by
      rw [List.map_map]
      refine (List.map_id _).symm.trans (List.map_congr_left fun v hv => ?_)
      obtain ⟨j, hj, e⟩ := List.mem_iff_getElem.mp hv
      obtain ⟨T, x, y, e1, _⟩ := hits j (by rw [← hlen, ← Array.length_toList]; exact hj)
      have e2 : acc.toList[j]? = some (Value.ref T) := by rw [Array.getElem?_toList]; exact e1
      rw [List.getElem?_eq_getElem hj, e] at e2
      rw [Option.some.inj e2]
      rfl
    have hat : ∀ j T, (acc.toList.map adr)[j]? = some T → j < min us.length ws.length ∧ acc[j]? = some (.ref T) := fun j T e => by
      have hj : j < acc.toList.length := by
        have := (List.getElem?_eq_some_iff.mp e).1
        rwa [List.length_map] at this
      have hj' : j < min us.length ws.length := by rw [← hlen, ← Array.length_toList]; exact hj
      obtain ⟨T', x, y, e1, _⟩ := hits j hj'
      refine ⟨hj', ?_⟩
      rw [List.getElem?_map, Array.getElem?_toList, e1] at e
      cases e
      exact e1
    have hge : ∀ T ∈ acc.toList.map adr, s1.heap.objs.size ≤ T := fun T hT => by
      obtain ⟨j, hj⟩ := List.mem_iff_getElem?.mp hT
      obtain ⟨a1, a2⟩ := hat j T hj
      obtain ⟨T', x, y, e1, _, _, e4, _⟩ := hits j a1
      rw [e1] at a2
      cases a2
      exact e4
    obtain ⟨cS, eS⟩ := hacc
    have hTS : ∀ T ∈ acc.toList.map adr, T ≠ s1.heap.objs.size + 5 := fun T hT z => by
      obtain ⟨j, hj⟩ := List.mem_iff_getElem?.mp hT
      obtain ⟨a1, a2⟩ := hat j T hj
      obtain ⟨T', x, y, e1, _, _, e4, e5⟩ := hits j a1
      rw [e1] at a2
      cases a2
      exact cls_no (z ▸ e5 : h4.get? (s1.heap.objs.size + 5) = some _) eS rfl rfl (by decide)
    obtain ⟨h5, k1, k2⟩ := restrict h4 fun b => decide (b ≠ s1.heap.objs.size + 5)
    obtain ⟨G, g1, g2⟩ := restrict h5 fun b => decide (b ∉ acc.toList.map adr)
    have kp5 : ∀ b o, s1.heap.get? b = some o → h5.get? b = some o := fun b o e => by
      rw [k1 b (decide_eq_true fun z => nl b (Heap.lt_size e) z.symm)]
      exact kp4 b o e
    have kG : ∀ b o, s1.heap.get? b = some o → G.get? b = some o := fun b o e => by
      rw [g1 b (decide_eq_true fun z => absurd (Heap.lt_size e) (Nat.not_lt.mpr (hge b z)))]
      exact kp5 b o e
    obtain ⟨H2, us', I2, sm2, ot, rv, dd⟩ := lay_pairs (h' := h5) I1 kp5 us ws xs ys its1 its2 (acc.toList.map adr) d1 d2 rv1 rv2 (by rw [List.length_map, Array.length_toList, hlen]) (by
        rw [List.nodup_iff_pairwise_ne, List.pairwise_iff_getElem]
        intro j k hj hk hjk z
        have a1 := hat j _ (List.getElem?_eq_getElem hj)
        have a2 := hat k _ (List.getElem?_eq_getElem hk)
        exact hinj j k hjk a2.1 (by rw [a1.2, a2.2, z])) hge (fun j T x y e1 e2 e3 => by
        obtain ⟨a1, a2⟩ := hat j T e1
        obtain ⟨T', x', y', f1, f2, f3, f4, f5⟩ := hits j a1
        rw [f1] at a2
        cases a2
        have f2' : its1[j]? = some x' := by simpa using f2
        have f3' : its2[j]? = some y' := by simpa using f3
        rw [f2'] at e2
        rw [f3'] at e3
        cases e2
        cases e3
        show h5.get? T = _
        rw [k1 T (decide_eq_true (hTS T (List.mem_iff_getElem?.mpr ⟨j, e1⟩)))]
        exact f5) G H1 s1.toks (I1.kept kG) (same_refl _) (fun b hb => g1 b (decide_eq_true hb)) fun b hb => ⟨g2 b (by simpa using hb), I1.hok.fresh (hge b hb)⟩
    have fr : H2 (s1.heap.objs.size + 5) = none := by
      rw [ot _ fun z => hTS _ z rfl]
      exact I1.hok.fresh (Nat.le_add_right _ _)
    have hul : us'.length ≤ sizeLine := by
      rw [rv.length, List.length_map, List.length_map, Array.length_toList, hlen]
      omega
    refine ⟨.ref _, upd H2 (s1.heap.objs.size + 5) (.lst us'), Inv.laidN (s := { s1 with heap := h5 }) (t' := s1.toks) (h' := h4) I2 (fun b o e => ?_) (k2 _ (by simp)) fr ⟨hul, acc.toList, cS, by rw [hacc2]; exact rv, by rw [Array.toArray_toList]; exact eS⟩, rfl, q1 H2 us' _ sm2 dd fr⟩
    by_cases hb : b = s1.heap.objs.size + 5
    · rw [hb, k2 _ (by simp)] at e; cases e
    · rw [← k1 b (decide_eq_true hb)]; exact e
theorem se_lzip {a b : Expr} {ma mb : ME} {p p2 q pos : Pos} (hg : Gl X "list") (hm : X.mg "list" = none) (hg2 : Gl X "zip") (hm2 : X.mg "zip" = none) (ha : SE X XX W false a ma) (hb : SE X XX W false b mb) (hc : X.calm = true)
    (hs : starEach [a, b] X.env = (false, eval a X.env) :: starEach [b] X.env) (hs2 : starEach [b] X.env = (false, eval b X.env) :: starEach [] X.env) : SE X XX W false (.Call (.Name "list" p) [.Call (.Name "zip" p2) [a, b] [] q] [] pos) (mBin lzipD ma mb) :=
  PE.imp (pe_lzip hg hm hg2 hm2 (pa_cons ha (pa_cons hb pa_nil hs2) hs) hc hs (by rw [hs2]; rfl)) fun σ H Q h => by
    obtain ⟨ι, env, st, he, hc, ho⟩ := rd_op (fa := false) (fb := false) (fo := false) id h
    refine ⟨ι, env, st, he, hc, ?_⟩
    generalize ma env st = rr at ho
    cases rr with
    | bad => exact ho
    | exc e st' => exact ho
    | ok v st' =>
      intro u H' rv cr ex fh
      obtain ⟨ι2, env2, st2, he2, hc2, ho2⟩ := ho u H' rv cr ex fh
      refine ⟨ι2, env2, st2, he2, hc2, ?_⟩
      generalize mb env2 st2 = rr2 at ho2
      cases rr2 with
      | bad => exact ho2
      | exc e st' => exact ho2
      | ok w st3 =>
        intro u2 H2 rv2 cr2 ex2 fh2
        obtain ⟨ι3, x, y, z, hι, hx, hy, e, q⟩ := ho2 u2 H2 rv2 cr2 ex2 fh2
        unfold lzipD at e
        split at e
        · cases e
          obtain ⟨l1, us, rfl, t1, d1⟩ := hx.list
          obtain ⟨l2, ws, rfl, t2, d2⟩ := hy.list
          refine ⟨ι3, l1, l2, us, ws, _, _, rfl, t1, t2, d1, d2, fun H3 us' p sm dd hp => ?_⟩
          refine q _ _ (new_lst dd hp fun z => ?_) (fun b o e => same_upd hp b o (sm b o e)) fun z => by cases z
          cases e1 : H2 p with
          | none => exact hι p z e1
          | some o => rw [sm p o e1] at hp; cases hp
        · cases e
def rngV (i j : Int) : List V := (List.range (Builtin.Range.rangeSize i j 1).toNat).map fun k => .int (i + (k : Nat) * 1)
def tLr (ta : TA) : TE := fun σ H Q => ta σ H fun vs H1 => ∃ i j : Int, vs = [.int i, .int j] ∧ j - i ≤ 2 ^ 24 ∧ ∀ p, H1 p = none → Q (.ref p) (upd H1 p (.lst (rngV i j)))
theorem items_vals {a : Int} {acc : Array Value} {n : Nat} (h : ItemsOf (fun i v => ∃ t, v = .int (a + (i : Nat) * 1) t) acc n) : Vals ((List.range n).map fun k => V.int (a + (k : Nat) * 1)) acc.toList := by
  have g : ∀ (l : List Value) (k : Nat), (∀ (i : Nat) (v : Value), l[i]? = some v → ∃ t, v = Value.int (a + ((k + i : Nat) : Int) * 1) t) → Vals ((List.range' k l.length).map fun k => V.int (a + (k : Nat) * 1)) l := by
    intro l
    induction l with
    | nil => intro k _; exact .nil
    | cons v l ih =>
      intro k hl
      obtain ⟨t, e⟩ := hl 0 v rfl
      refine .cons ⟨t, by simpa using e⟩ (ih (k + 1) fun i v q => ?_)
      obtain ⟨t, e⟩ := hl (i + 1) v (by simpa using q)
      refine ⟨t, ?_⟩
      rw [show k + 1 + i = k + (i + 1) by omega]
      exact e
  have hl : acc.toList.length = n := by rw [Array.length_toList]; exact h.1
  have q := g acc.toList 0 fun i v e => by
    obtain ⟨t, e⟩ := h.2 i v (by rw [← Array.getElem?_toList]; exact e)
    exact ⟨t, by rw [Nat.zero_add]; exact e⟩
  rw [hl, ← List.range_eq_range'] at q
  exact q
theorem pe_lrange {a b : Expr} {ta : TA} {p p2 q pos : Pos} (hg : Gl X "list") (hm : X.mg "list" = none) (hg2 : Gl X "range") (hm2 : X.mg "range" = none) (ha : PA X [a, b] ta) (hc : X.calm = true)
    (hs : starEach [a, b] X.env = (false, eval a X.env) :: starEach [b] X.env) (hpl : (backTo q (starEach [b] X.env)).any (·.1) = false) : PE X (.Call (.Name "list" p) [.Call (.Name "range" p2) [a, b] [] q] [] pos) (tLr ta) := by
  refine ⟨fun pins s σ H Q I h => ?_⟩
  refine Call_ (ld_blt I hg hm boot_list ?_)
  refine PyProof.Rows.callWith_type1 (PyProof.Rows.args_cons ?_ rfl) rfl rfl
  refine Call_ (ld_blt I hg2 hm2 boot_range ?_)
  refine PyProof.Rows.callWith_type1 (thn (ha.run q pins s σ H _ I h) fun vs s1 ⟨us0, H1, I1, r1, i, j, e0, hl, q1⟩ => ?_) hs hpl
  subst e0
  rcases r1 with _ | ⟨⟨t, rfl⟩, rr⟩
  rcases rr with _ | ⟨⟨t', rfl⟩, rr⟩
  cases rr
  refine call_range_2 ?_
  refine PyProof.Rows.args_nil ?_
  have kp : ∀ (o' : Obj) b o, s1.heap.get? b = some o → (s1.heap.push o').get? b = some o := fun o' b o e => Heap.get?_push_of_some _ e
  refine call_list_rng (I1.ok.hd hc) (IsRange.new ..) hl fun h' tk acc' c' k1 k2 hi => ?_
  have hv := items_vals hi
  have hz : (rngV i j).length ≤ sizeLine := by
    unfold rngV
    rw [List.length_map, List.length_range, sizeLine_eq]
    unfold Builtin.Range.rangeSize
    split <;> (try split) <;> omega
  have hle : s1.heap.objs.size ≤ (s1.heap.push { cls := .type "range", data := .fields #[.int i t, .int j t', .int 1 s1.toks] }).objs.size := by
    rw [Heap.size_push]; exact Nat.le_succ _
  exact ⟨.ref _, upd H1 _ (.lst (rngV i j)), I1.laid (t' := tk) (fun b o e => k1 b o (Heap.get?_push_of_some _ e)) hle ⟨hz, acc'.toList, c', hv, by rw [Array.toArray_toList]; exact k2⟩, rfl, q1 _ (I1.hok.fresh hle)⟩
theorem dq_rng {K : Frag} {H : Hp} {ι : Lv} (i j : Int) : DqAll K H ι (rngV i j) (rngL i j 1) := by
  unfold rngV rngL
  generalize List.range (Builtin.Range.rangeSize i j 1).toNat = l
  induction l with
  | nil => exact .nil
  | cons k l ih => exact .cons (.int _) ih
theorem se_lrange {a b : Expr} {ma mb : ME} {p p2 q pos : Pos} {fr : Bool} (hg : Gl X "list") (hm : X.mg "list" = none) (hg2 : Gl X "range") (hm2 : X.mg "range" = none) (ha : SE X XX W false a ma) (hb : SE X XX W false b mb) (hc : X.calm = true)
    (hs : starEach [a, b] X.env = (false, eval a X.env) :: starEach [b] X.env) (hs2 : starEach [b] X.env = (false, eval b X.env) :: starEach [] X.env) : SE X XX W fr (.Call (.Name "list" p) [.Call (.Name "range" p2) [a, b] [] q] [] pos) (mBin lrangeD ma mb) :=
  PE.imp (pe_lrange hg hm hg2 hm2 (pa_cons ha (pa_cons hb pa_nil hs2) hs) hc hs (by rw [hs2]; rfl)) fun σ H Q h => by
    obtain ⟨ι, env, st, he, hc, ho⟩ := rd_op (fa := false) (fb := false) (fo := true) (fun _ => rfl) h
    refine ⟨ι, env, st, he, hc, ?_⟩
    generalize ma env st = rr at ho
    cases rr with
    | bad => exact ho
    | exc e st' => exact ho
    | ok v st' =>
      intro u H' rv cr ex fh
      obtain ⟨ι2, env2, st2, he2, hc2, ho2⟩ := ho u H' rv cr ex fh
      refine ⟨ι2, env2, st2, he2, hc2, ?_⟩
      generalize mb env2 st2 = rr2 at ho2
      cases rr2 with
      | bad => exact ho2
      | exc e st' => exact ho2
      | ok w st3 =>
        intro u2 H2 rv2 cr2 ex2 fh2
        obtain ⟨ι3, x, y, z, hι, hx, hy, e, q⟩ := ho2 u2 H2 rv2 cr2 ex2 fh2
        unfold lrangeD at e
        split at e
        · split at e
          · rename_i i j hl
            cases e
            refine ⟨i, j, by rw [hx.int, hy.int], of_decide_eq_true hl, fun p hp => ?_⟩
            exact q _ _ (new_lst (dq_rng i j) hp (fun z => hι p z hp)) (same_upd hp) (fresh_new (dq_rng i j) hp)
          · cases e
        · cases e
end
end Mi
end
section
set_option maxHeartbeats 4000000
namespace Mi
open RZ
open PySem PySem.Spec PyProof.Rows L2
section
variable {prog : Program} {w : World} {A : Around} {R : Result → Shared → Prop} {I : Addr} {fp wr : List Addr} {G : Array GenState → Array GenState → Prop} {n : Nat} {P : Nat → Value → Prop} {St : Nat → Shared → Prop}
theorem setR_congr2 {h : Heap} {a : Addr} {S S' : Int → Bool} {n n' : Nat} (R : SetR w h a S n) (e : ∀ k, S k = S' k) (en : n = n') : SetR w h a S' n' := by
  subst en
  exact R.congr fun k => (e k).symm
theorem update_loopR (W : WalksS prog w A.in1 I fp wr G n P St) (S : Addr) (hSf : S ∉ fp)
    (val : Nat → Int) (hval : ∀ i v, P i v → ∃ t, v = .int (val i) t) (hb : n + 1 < scanBound) :
    ∀ (k i : Nat) (s : Shared), n - i = k → i ≤ n → St i s →
      SetR w s.heap S (fun k' => (firstMet val i).any (· == k')) (firstMet val i).length →
      (∀ s', Moved (S :: wr) G s s' → SetR w s'.heap S (fun k' => (firstMet val n).any (· == k')) (firstMet val n).length → R (.ok (.ret .none)) s') →
      codeAny (model prog w) A (.builtin "set.update.loop" ⟨[.ref S, .ref I], []⟩) R s := by
  have hSw : S ∉ wr := fun h => hSf (W.sub _ h)
  have hsub : ∀ b ∈ wr, b ∈ S :: wr := fun b hb => List.mem_cons_of_mem _ hb
  intro k
  induction k with
  | zero =>
    intro i s hk hi hst hS hR
    have hin : i = n := by omega
    subst hin
    refine codeAny_builtin PyProof.Rows.F.entry_set_update_loop ?_
    rw [Around.under_plainId PyProof.Rows.F.plain_set_update_loop _]
    show wpAny _ A.in1 (pyNext (.ref I) >>= _) _ _ s
    refine wpAny_bind (W.done s _ _ hst fun s' hm => ?_)
    show wpAny _ A.in1 (ret Value.none) _ _ s'
    exact wpAny_pure (hR s' (hm.mono hsub) (by
      obtain ⟨o, es, ep, t, ho, rest⟩ := hS
      exact ⟨o, es, ep, t, hm.heap S _ hSw ho, rest⟩))
  | succ k ih =>
    intro i s hk hi hst hS hR
    have hlt : i < n := by omega
    refine codeAny_builtin PyProof.Rows.F.entry_set_update_loop ?_
    rw [Around.under_plainId PyProof.Rows.F.plain_set_update_loop _]
    show wpAny _ A.in1 (pyNext (.ref I) >>= _) _ _ s
    refine wpAny_bind (W.item i s _ _ hlt hst fun v s' hP hst' hm => ?_)
    obtain ⟨t, rfl⟩ := hval i v hP
    have hS' : SetR w s'.heap S (fun k' => (firstMet val i).any (· == k')) (firstMet val i).length := by
      obtain ⟨o, es, ep, tb, ho, rest⟩ := hS
      exact ⟨o, es, ep, tb, hm.heap S _ hSw ho, rest⟩
    show wpAny _ A.in1 (holding [Value.int (val i) t] (setAdd S (.int (val i) t)) >>= _) _ _ s'
    refine wpAny_bind (wpAny_holding ?_)
    unfold setAdd
    refine wpAny_holding ?_
    refine wpAny_bind ((intKind prog w).pyHash (k := val i) (intKind_is _ _ _ _) ?_)
    have hroom : (firstMet val i).length + 1 < scanBound := by have := firstMet_length_le val i; omega
    refine setR_add_hashed (s := { s' with toks := s'.toks + 1 }) hS' hroom fun h' hsb hS2 => ?_

    have hSi : SetR w h' S (fun k' => (firstMet val (i + 1)).any (· == k')) (firstMet val (i + 1)).length :=
      setR_congr2 hS2 (fun k' => by rw [firstMet_succ, step_any]) (by rw [firstMet_succ, step_length])
    refine wpAny_pure ⟨plainId_quiet PyProof.Rows.F.plain_set_update_loop _, ih (i + 1) _ (by omega) hlt (W.frame _ s' _ _ hst' (Nat.le_succ _) fun b hb o e => ?_) hSi fun s'' hm'' hS'' => ?_⟩
    · rw [hsb.2 b (fun h : b = S => hSf (by rw [← h]; exact hb))]; exact e
    · refine hR s'' (Moved.trans W.gtrans ((hm.mono hsub).then_heap (Nat.le_succ _) fun b o hb e => ?_) hm'') hS''
      rw [hsb.2 b (fun h : b = S => hb (by rw [h]; exact List.mem_cons_self))]; exact e
end
section
variable {prog : Program} {w : World} {A : Around} {E : Value → Shared → Prop} {s : Shared}
theorem code_set_led1 (a : Value) {Q₁ : Value → Shared → Prop}
    (h : Q₁ (.ref s.heap.objs.size) { s with heap := s.heap.push { cls := .type "set", dict := none, data := .set #[] 0 (.fresh 0 0 (!w.params.followText "set-order")) } }) :
    codeAny (model prog w) A (.call (.builtin "set.__new__") ⟨[.type "set", a], []⟩) (wants Q₁ E) s := by
  refine codeAny_of_tree ?_
  show wpAny _ A.in1 (do checkBuiltinCall "set.__new__" ⟨[.type "set", a], []⟩; again (.builtin "set.__new__" ⟨[.type "set", a], []⟩)) _ _ s
  refine wpAny_bind (wpAny_of_eq (F.newCall_set_1 a) (wpAny_pure ⟨plainId_quiet F.plain_set_new _, codeAny_builtin F.entry_set_new ?_⟩))
  rw [Around.under_plainId F.plain_set_new _]
  unfold Builtin.«set.__new__» Builtin.Frozenset.newClass
  have hsub := sub_set_self
  obtain ⟨hp, g, d, tk, os⟩ := s
  dsimp only
  wp_walk
  refine wpAny_askSetting (wpAny_pure ?_)
  dsimp only
  simp only [newObj]
  refine wpAny_bind (wpAny_alloc (wpAny_pure ?_))
  exact wpAny_pure h

set_option maxRecDepth 100000 in
set_option maxHeartbeats 3200000 in
theorem call_setR {l : Addr} {items : Array Value} {ns : List Int} {Q : Value → Shared → Prop}
    (hh : A.handled = none) (hl : s.heap.IsList l items) (hi : PyProof.Rows.IntsAre items.toList ns) (hb : items.size + 1 < scanBound)
    (h : ∀ (h' : Heap) (tk : Nat), SetR w h' s.heap.objs.size (fun k' => (PyProof.Rows.firstMet (fun i => ns.getD i 0) items.size).any (· == k')) (PyProof.Rows.firstMet (fun i => ns.getD i 0) items.size).length →
      (∀ b o, b < s.heap.objs.size → s.heap.get? b = some o → h'.get? b = some o) → Q (.ref s.heap.objs.size) { s with heap := h', toks := tk }) :
    wpAny (model prog w) A (PySem.call (.type "set") [.ref l]) Q E s := by
  obtain ⟨c, tl, hmro⟩ := F.called_set.mro
  have hmade := F.called_set.made
  have hsub := F.called_set.sub
  refine wpAny_call (codeAny_of_tree ?_)
  show wpAny _ _ (callAny (.type "set") _) _ _ _
  refine wpAny_pure ⟨Code.quiet_builtin _ (by decide +kernel), codeAny_builtin F.entry_type_call ?_⟩
  rw [Around.under_plain (weight_type_call_type "set" [.ref l] []) rfl]
  have h1 := F.called_set.notType
  have h2 := F.called_set.canCreate
  have hct := PySem.F.typeCall_set_1 (.ref l)
  repeat (any_goals (first | assumption | wp_step))

  refine codeAny_mono (code_set_led1 (.ref l) (E := E) (Q₁ := fun obj s₁ => obj = .ref s.heap.objs.size ∧ s₁ = { s with heap := s.heap.push { cls := .type "set", dict := none, data := .set #[] 0 (.fresh 0 0 (!w.params.followText "set-order")) } }) ⟨rfl, rfl⟩) fun r s₁ hr => ?_
  cases r with
  | error e => exact hr
  | ok fl =>
    cases fl with
    | ret obj =>
      obtain ⟨rfl, rfl⟩ := hr
      have hS : (s.heap.push { cls := .type "set", dict := none, data := .set #[] 0 (.fresh 0 0 (!w.params.followText "set-order")) }).get? s.heap.objs.size = some { cls := .type "set", dict := none, data := .set #[] 0 (.fresh 0 0 (!w.params.followText "set-order")) } := Heap.get?_push_size _ rfl
      have hT : Shared.TypeIs { s with heap := s.heap.push { cls := .type "set", dict := none, data := .set #[] 0 (.fresh 0 0 (!w.params.followText "set-order")) } } (.ref s.heap.objs.size) "set" := ⟨_, hS, rfl⟩
      have hli := F.called_set.init.lookup
      have hbi := F.called_set.init.bind (.ref s.heap.objs.size)
      repeat (any_goals (first | assumption | wp_step))

      refine codeAny_mono (codeAny_call_builtin (R := wants (fun r s₂ => r = .none ∧ ∃ h' tk, s₂ = { s with heap := h', toks := tk } ∧
          SetR w h' s.heap.objs.size (fun k' => (PyProof.Rows.firstMet (fun i => ns.getD i 0) items.size).any (· == k')) (PyProof.Rows.firstMet (fun i => ns.getD i 0) items.size).length ∧
          (∀ b o, b < s.heap.objs.size → s.heap.get? b = some o → h'.get? b = some o)) E) F.called_set.init.plain F.entry_set_init (check_set_init_1 hT ?_)) fun r₂ s₂ hr₂ => ?_
      · obtain ⟨ol, hol, hcl, nl, hdl⟩ := hl
        obtain ⟨ocls, odict, odata, oslots⟩ := ol
        simp only at hcl hdl
        subst hcl; subst hdl
        have hol' : (s.heap.push { cls := .type "set", dict := none, data := .set #[] 0 (.fresh 0 0 (!w.params.followText "set-order")) }).get? l = some { cls := .type "list", dict := odict, data := .seq items nl, slots := oslots } := Heap.get?_push_of_some _ hol
        have hsls := PySem.F.sub_list_set
        have hslf := PySem.F.sub_list_frozenset
        have hne : (Value.type "list" == Value.type "dict") = false := by decide
        have hl1 : (s.heap.push { cls := .type "set", dict := none, data := .set #[] 0 (.fresh 0 0 (!w.params.followText "set-order")) }).IsList l items := ⟨_, hol', rfl, nl, rfl⟩
        unfold Builtin.«set.__init__» noKeywords Builtin.Frozenset.updateFrom
        generalize hPI : pyIter = PI
        wp_walk
        subst hPI

        refine wpAny_pyIter_list hl1 ?_
        refine wpAny_bind (wpAny_runValue ?_)
        have hlS : l < s.heap.objs.size := Heap.lt_size hol
        have hh3 : A.in1.in1.in1.handled = none := by simp [hh]
        have hneI : l ≠ (s.heap.push { cls := .type "set", dict := none, data := .set #[] 0 (.fresh 0 0 (!w.params.followText "set-order")) }).objs.size := by
          rw [Heap.size_push]; exact Nat.ne_of_lt (Nat.lt_succ_of_lt hlS)
        have hSf : s.heap.objs.size ∉ [(s.heap.push { cls := .type "set", dict := none, data := .set #[] 0 (.fresh 0 0 (!w.params.followText "set-order")) }).objs.size, l] := by
          rw [Heap.size_push]; simp only [List.mem_cons, List.mem_singleton, List.not_mem_nil, or_false, not_or]
          exact ⟨Nat.ne_of_lt (Nat.lt_succ_self _), Nat.ne_of_gt hlS⟩
        have hval : ∀ (i : Nat) (v : Value), items[i]? = some v → ∃ t, v = .int ((fun i => ns.getD i 0) i) t := fun i v hv =>
          PyProof.Rows.IntsAre.int_at hi i v (by rw [Array.getElem?_toList]; exact hv)
        refine update_loopR ((Walks.list hh3 _ l hneI items).toS) s.heap.objs.size
          hSf (fun i => ns.getD i 0) hval hb (items.size - 0) 0 _ (by omega) (Nat.zero_le _)
          ⟨⟨_, Heap.get?_push_size _ rfl, rfl, rfl⟩, (hl1.push _)⟩ ?hS0 ?hR
        case hS0 =>
          have hget : ((s.heap.push { cls := .type "set", dict := none, data := .set #[] 0 (.fresh 0 0 (!w.params.followText "set-order")) }).push { cls := .type "list_iterator", data := .fields #[.ref l, .int 0 0] }).get? s.heap.objs.size
              = some { cls := .type "set", dict := none, data := .set #[] 0 (.fresh 0 0 (!w.params.followText "set-order")) } := Heap.get?_push_of_some _ hS
          exact setR_congr2 ((setR_fresh (h := s.heap) w).at fun o e => Heap.get?_push_of_some _ e) (fun _ => rfl) rfl
        case hR =>
          intro s' hm hS'
          obtain ⟨h', g', d', tk', os'⟩ := s'
          have eg : g' = s.gens := hm.gens
          have ed : d' = s.drawn := hm.drawn
          have eo : os' = s.os := hm.os
          subst eg; subst ed; subst eo
          show wpAny _ _ _ _ _ _
          refine wpAny_pure ?_
          show wpAny _ _ (ret Value.none) _ _ _
          refine wpAny_pure ⟨rfl, h', tk', rfl, hS', fun b o hb e => ?_⟩
          have hb1 : b ≠ s.heap.objs.size := Nat.ne_of_lt hb
          have hb2 : b ≠ (s.heap.push { cls := .type "set", dict := none, data := .set #[] 0 (.fresh 0 0 (!w.params.followText "set-order")) }).objs.size := by
            rw [Heap.size_push]; exact Nat.ne_of_lt (Nat.lt_succ_of_lt hb)
          exact hm.heap b o (by simp only [List.mem_cons, List.mem_singleton, List.not_mem_nil, or_false, not_or]; exact ⟨hb1, hb2⟩) (Heap.get?_push_of_some _ (Heap.get?_push_of_some _ e))

      · cases r₂ with
        | error e => exact hr₂
        | ok fl₂ =>
          cases fl₂ with
          | ret r =>
            obtain ⟨rfl, h', tk, rfl, hS', hk'⟩ := hr₂
            repeat (any_goals (first | assumption | wp_step))
            exact h _ _ hS' hk'
          | _ => exact hr₂.elim
    | _ => exact hr.elim
theorem sorted_setR {a : Addr} {S : Int → Bool} {n : Nat} {Q : Value → Shared → Prop} (R : SetR w s.heap a S n) (hh : A.handled = none)
    (hQ : ∀ s' p (out : Array Value) (c : Nat) (ns : List Int), (∀ b o, s.heap.get? b = some o → s'.heap.get? b = some o) → s'.gens = s.gens → s'.os = s.os → s.heap.objs.size ≤ p →
      s'.heap.get? p = some (seqObj "list" out c) → IntsAre out.toList ns → ns.Pairwise (· < ·) → (∀ k, k ∈ ns ↔ S k = true) → ns.length = n → Q (.ref p) s') :
    wpAny (model prog w) A (PySem.call (.builtin "sorted") [.ref a]) Q E s := by
  obtain ⟨o, es, ep, t, ho, hex, hd, g, nd, hm, hb, hf, hn, hr, hl⟩ := R
  refine Calls.call_function_entry kind_sorted plain_sorted entry_sorted (args_sorted1 _) ?_
  unfold Builtin.«sorted»
  refine wpAny_bind (m := checkCount "sorted" 1 1 _) (wpAny_pure ?_)
  refine wpAny_bind (collect_set (A := A.in1) hh ⟨o, ho, hex.1, hd⟩ hf hb hr hl fun s1 vs k1 hz g1 o1 pm => ?_)
  have hvl : vs.length = n := by rw [pm.length_eq, List.length_map, Array.length_toList]; exact hn
  have hI : IntsAre vs (vs.map Builtin.Re.reRawOf) := ints_of vs fun v hv => by
    obtain ⟨e, he, q⟩ := List.mem_map.mp (pm.mem_iff.mp hv)
    obtain ⟨k, tk, h1, _⟩ := g e he
    exact ⟨k, tk, by rw [← q]; exact h1⟩
  have pk : (vs.map Builtin.Re.reRawOf).Perm (es.toList.map keyOf) := by
    have q := pm.map Builtin.Re.reRawOf
    rw [List.map_map] at q
    exact q
  have hvz : vs.length ≤ sizeLine := by
    have h1 : n < scanBound := by rw [← hn]; exact hb
    rw [hvl, sizeLine_eq]
    unfold scanBound at h1
    omega
  refine wpAny_bind (wpAny_newList ?_ hvz)
  have hoL : (s1.heap.push (seqObj "list" vs.toArray 0)).get? s1.heap.objs.size = some (seqObj "list" vs.toArray 0) := Heap.get?_push_size _ rfl
  refine wpAny_bind (wpAny_holding (wpAny_call_entry slot_list_sort ⟨_, hoL, rfl⟩ entry_list_sort (SrtO.list_sort_ord SrtO.swo_int hoL hvz (fun h2 => SrtO.ints_sortable hI h2) fun outl s1' s2' => ⟨_, rfl, ?_⟩) (args_list_sort _)))
  obtain ⟨a1, a2, a3⟩ := SrtO.ints_out hI s1' s2'
  obtain ⟨c, hc⟩ := sortedHeap_at (vs := vs) (out := outl.toArray) hoL
  have hb' : n < scanBound := by rw [← hn]; exact hb
  have pn : (outl.map SrtO.iv).Perm (es.toList.map keyOf) := a2.trans pk
  refine wpAny_pure ⟨_, rfl, hQ _ s1.heap.objs.size outl.toArray c (outl.map SrtO.iv) (fun b u e => ?_) g1 o1 hz hc (by simpa using a1) (lt_of_le_nodup _ a3 (pn.nodup_iff.mpr nd)) (fun k => by rw [pn.mem_iff, ← hm k]) ?_⟩
  · have q := k1 b u e
    have hlt := Heap.lt_size q
    show (sortedHeap (s1.heap.push (seqObj "list" vs.toArray 0)) s1.heap.objs.size vs outl.toArray).get? b = some u
    rw [sortedHeap_old (Nat.ne_of_lt hlt) (by rw [size_push']; exact Nat.lt_succ_of_lt hlt)]
    exact Heap.get?_push_of_some _ q
  · rw [pn.length_eq, List.length_map, Array.length_toList]; exact hn
end
end Mi
end
section
set_option maxHeartbeats 2000000
namespace Mi
open RZ
open PySem PySem.Spec PyProof.Rows L2
theorem insU_mem (x : Int) : ∀ (l : List Int) (k : Int), k ∈ insU x l ↔ k = x ∨ k ∈ l
  | [], k => by simp [insU]
  | y :: ys, k => by
    unfold insU
    split
    · simp
    · split
      · rename_i h; subst h; simp
      · rw [List.mem_cons, insU_mem x ys k, List.mem_cons]
        constructor
        · rintro (h | h | h)
          · exact .inr (.inl h)
          · exact .inl h
          · exact .inr (.inr h)
        · rintro (h | h | h)
          · exact .inr (.inl h)
          · exact .inl h
          · exact .inr (.inr h)
theorem sortU_mem : ∀ (l : List Int) (k : Int), k ∈ sortU l ↔ k ∈ l
  | [], k => by simp [sortU]
  | x :: xs, k => by
    show k ∈ insU x (sortU xs) ↔ _
    rw [insU_mem, sortU_mem xs k, List.mem_cons]
theorem insU_lt {x : Int} : ∀ {l : List Int}, l.Pairwise (· < ·) → (insU x l).Pairwise (· < ·)
  | [], _ => by simp [insU]
  | y :: ys, h => by
    obtain ⟨h1, h2⟩ := List.pairwise_cons.mp h
    unfold insU
    split
    · rename_i c
      refine List.pairwise_cons.mpr ⟨fun z hz => ?_, h⟩
      rcases List.mem_cons.mp hz with e | hz
      · omega
      · have := h1 z hz; omega
    · split
      · exact h
      · refine List.pairwise_cons.mpr ⟨fun z hz => ?_, insU_lt h2⟩
        rcases (insU_mem x ys z).mp hz with e | hz
        · omega
        · exact h1 z hz
theorem sortU_lt : ∀ l : List Int, (sortU l).Pairwise (· < ·)
  | [] => .nil
  | x :: xs => insU_lt (sortU_lt xs)
theorem lt_eq : ∀ {l m : List Int}, l.Pairwise (· < ·) → m.Pairwise (· < ·) → (∀ k, k ∈ l ↔ k ∈ m) → l = m
  | [], [], _, _, _ => rfl
  | [], y :: m, _, _, h => absurd ((h y).mpr List.mem_cons_self) (by simp)
  | x :: l, [], _, _, h => absurd ((h x).mp List.mem_cons_self) (by simp)
  | x :: l, y :: m, h1, h2, h => by
    obtain ⟨a1, a2⟩ := List.pairwise_cons.mp h1
    obtain ⟨b1, b2⟩ := List.pairwise_cons.mp h2
    have e : x = y := by
      rcases List.mem_cons.mp ((h x).mp List.mem_cons_self) with z | z
      · exact z
      · rcases List.mem_cons.mp ((h y).mpr List.mem_cons_self) with w | w
        · exact w.symm
        · have := a1 y w; have := b1 x z; omega
    subst e
    rw [lt_eq a2 b2 fun k => ?_]
    have q := h k
    rw [List.mem_cons, List.mem_cons] at q
    constructor
    · intro z
      rcases q.mp (.inr z) with w | w
      · have := a1 k z; omega
      · exact w
    · intro z
      rcases q.mpr (.inr z) with w | w
      · have := b1 k z; omega
      · exact w
theorem vals_ints : ∀ {l : List Value} {ns : List Int}, IntsAre l ns → Vals (ns.map V.int) l
  | _, _, .nil => .nil
  | _, _, .cons n t r => .cons ⟨t, rfl⟩ (vals_ints r)
section
variable {X : Cx} {XX : XR} {W : WX}
def tSs (K : Frag) (ta : TE) : TE := fun σ H Q => ta σ H fun x H1 => ∃ (l : Addr) (ns : List Int), x = .ref l ∧ SqL K H1 l (ns.map V.int) ∧ ns.length ≤ 4000 ∧ ∀ p, H1 p = none → Q (.ref p) (upd H1 p (.lst ((sortU ns).map V.int)))
theorem pe_sortset {a : Expr} {ta : TE} {p p2 q pos : Pos} (hg : Gl X "sorted") (hm : X.mg "sorted" = none) (hg2 : Gl X "set") (hm2 : X.mg "set" = none) (ha : PE X a ta) (hc : X.calm = true)
    (na : starEach [a] X.env = (false, eval a X.env) :: starEach [] X.env) : PE X (.Call (.Name "sorted" p) [.Call (.Name "set" p2) [a] [] q] [] pos) (tSs X.K ta) := by
  refine ⟨fun pins s σ H Q I h => ?_⟩
  refine Call_ (ld_blt I hg hm (by decide +kernel : bootBuiltins "sorted" = some (.builtin "sorted")) ?_)
  refine PyProof.Rows.callWith_builtin1 (PyProof.Rows.args_cons ?_ rfl) rfl rfl
  refine Call_ (ld_blt I hg2 hm2 boot_set ?_)
  refine PyProof.Rows.callWith_type1 (PyProof.Rows.args_cons (thn (ha.run pins s σ H _ I h) fun v s1 ⟨x, H1, I1, r1, q1⟩ => PyProof.Rows.args_nil ?_) na) na rfl
  obtain ⟨l, ns, rfl, hq, hl, q1⟩ := q1
  cases r1
  obtain ⟨its, r, pl, hz⟩ := I1.list hq
  have hlen : its.toArray.size = ns.length := by rw [List.size_toArray, ← r.length, List.length_map]
  refine call_setR (I1.ok.hd hc) pl.isList (by simpa using intsAre_vals r) (by rw [hlen]; unfold scanBound; omega) fun h' tk hS hk => ?_
  refine PyProof.Rows.args_nil ?_
  have I2 : Inv X pins σ H1 { s1 with heap := h', toks := tk } := I1.kept fun b o e => hk b o (Heap.lt_size e) e
  refine sorted_setR hS (I1.ok.hd hc) fun s' p' out c ns' k g o hp hg' hi hpw hmem hn => ?_
  have e1 : ns' = sortU ns := by
    refine lt_eq hpw (sortU_lt ns) fun k => ?_
    rw [hmem k, sortU_mem, PyProof.Rows.firstMet_any, hlen, List.any_eq_true]
    constructor
    · rintro ⟨z, hz1, hz2⟩
      obtain ⟨i, hi1, rfl⟩ := List.mem_map.mp hz1
      have hi2 : i < ns.length := List.mem_range.mp hi1
      rw [← eq_of_beq hz2]
      show ns.getD i 0 ∈ ns
      rw [List.getD_eq_getElem?_getD, List.getElem?_eq_getElem hi2, Option.getD_some]
      exact List.getElem_mem hi2
    · intro hk2
      obtain ⟨i, hi1, e⟩ := List.mem_iff_getElem.mp hk2
      refine ⟨k, List.mem_map.mpr ⟨i, List.mem_range.mpr hi1, ?_⟩, by simp⟩
      show ns.getD i 0 = k
      rw [List.getD_eq_getElem?_getD, List.getElem?_eq_getElem hi1, Option.getD_some]
      exact e
  subst e1
  have hfm := PyProof.Rows.firstMet_length_le (fun i => ns.getD i 0) its.toArray.size
  have hlen2 : ((sortU ns).map V.int).length ≤ sizeLine := by rw [List.length_map, sizeLine_eq]; omega
  have hn' : H1 p' = none := I2.hok.fresh hp
  have hv : Vals ((sortU ns).map V.int) out.toList := vals_ints hi
  have J : Inv X pins σ (upd H1 p' (.lst ((sortU ns).map V.int))) { ({ s1 with heap := h', toks := tk } : Shared) with heap := s'.heap, gens := s'.gens, drawn := s'.drawn, toks := s'.toks } :=
    I2.call (ch := []) (Un.laid k hp hn') (I2.hok.laid k hp ⟨hlen2, out.toList, c, hv, by rw [Array.toArray_toList]; exact hg'⟩) (by rw [g]; exact I2.bare) (fun _ z => nomatch z)
  have e : s' = { ({ s1 with heap := h', toks := tk } : Shared) with heap := s'.heap, gens := s'.gens, drawn := s'.drawn, toks := s'.toks } := by
    cases s'
    cases s1
    cases o
    rfl
  rw [e]
  exact ⟨.ref p', _, J, rfl, q1 p' hn'⟩
theorem se_sortset {a : Expr} {ma : ME} {p p2 q pos : Pos} {fr : Bool} (hg : Gl X "sorted") (hm : X.mg "sorted" = none) (hg2 : Gl X "set") (hm2 : X.mg "set" = none) (ha : SE X XX W false a ma) (hc : X.calm = true)
    (na : starEach [a] X.env = (false, eval a X.env) :: starEach [] X.env) : SE X XX W fr (.Call (.Name "sorted" p) [.Call (.Name "set" p2) [a] [] q] [] pos) (mUn (b1 .sortset) ma) :=
  PE.imp (pe_sortset hg hm hg2 hm2 ha hc na) fun σ H Q h => by
    obtain ⟨ι, env, st, he, hc, ho⟩ := rd_un (fa := false) (fo := true) (fun _ => rfl) h
    refine ⟨ι, env, st, he, hc, ?_⟩
    generalize ma env st = rr at ho
    cases rr with
    | bad => exact ho
    | exc e st' => exact ho
    | ok v st' =>
      intro u H' rv cr ex fh
      obtain ⟨ι', x, z, hι, hx, e, q⟩ := ho u H' rv cr ex fh
      cases x with
      | list xs =>
        dsimp only [b1] at e
        split at e
        · rename_i hl
          obtain ⟨ns, e1, rfl⟩ := map_some e
          obtain ⟨a, us, rfl, r, d⟩ := hx.list
          obtain ⟨e2, e3⟩ := ints_dq d e1
          subst e2 e3
          rw [List.length_map] at hl
          exact ⟨a, ns, rfl, r, hl, fun p hp => q _ _ (new_lst (dq_ints _) hp (fun z => hι p z hp)) (same_upd hp) (fresh_new (dq_ints _) hp)⟩
        · cases e
      | _ => cases e
end
end Mi
end
section
set_option maxHeartbeats 2000000
namespace Mi
open PySem PySem.Spec PyProof.Rows L2
def outF (K : Frag) (XX : XR) (ι : Lv) (H : Hp) (fr : Bool) (Q : VK) (E : XK) : R Val → Prop
  | .ok v st' => ∀ u H', RV K H' ι v u → CellR K H' ι st' → Ext ι H H' → FreshP K ι st' fr v u H H' → Q u H'
  | .exc e st' => ∀ cls d H', XX e cls d H' → CellR K H' ι st' → Ext ι H H' → E cls d H'
  | .bad => False
/-- what a def promises: what its own trees tell -/
def spM (K : Frag) (XX : XR) (F : Calls) (f : Str) (k : Nat) (fr : Bool) : Sp := fun us H Q E => us.length = k ∧ ∃ ι st vs, RVs K H ι vs us ∧ CellR K H ι st ∧ outF K XX ι H fr Q E (F f vs st)
theorem FreshP.wk {K : Frag} {ι : Lv} {st : Store} {fr fr' : Bool} {v : Val} {u : V} {H H' : Hp} (h : FreshP K ι st fr v u H H') (i : fr' = true → fr = true) : FreshP K ι st fr' v u H H' := fun z => h (i z)
def bnames : List Str := ["len", "abs", "int", "sum", "all", "any", "min", "max", "sorted", "tuple", "list", "isinstance", "range", "zip", "enumerate", "bool", "str", "set"]
structure MOK (T : Tb) (XX : XR) (F : Calls) (prog : Program) (w : World) (K : Frag) (mg : Str → Option Value) (base : Heap) (n : Nat) : Prop where
  bl : ∀ x ∈ bnames, mg x = none
  cs : ∀ x d, T.has x d = true → ∃ v u, mg x = some u ∧ RelV v u ∧ ∀ H ι, Dq K H ι v d
  fn : ∀ f k, T.ar f = some k → ∃ a fd ps, mg f = some (.ref a) ∧ PySem.W.keepIn K (.ref a) = true ∧ ps.length = k ∧ Binds K fd ps [] ∧ FnOk prog w K mg base (L2.CX prog w) n a fd ps (spM K XX F f k (T.nw f))
structure XOk (T : Tb) (XX : XR) (F : Calls) (n : Nat) (X : Cx) (W : WX) (c : SC) : Prop where
  N : X.N = c.N
  nd : X.N.Nodup
  sc : X.env.scope = c.sc
  kind : X.env.scope.kind = .function
  fn : ∀ x, c.fn x = true → X.fn x = true
  calm : X.calm = true
  room : Room n X.A
  tk : Takes X W
  pow : PassesOwn (model X.prog X.w) X.A X.env X.xe
  m : MOK T XX F X.prog X.w X.K X.mg X.base n
section
variable {T : Tb} {XX : XR} {F : Calls} {n : Nat} {X : Cx} {W : WX} {c : SC} {fr : Bool}
theorem dbg_no {x : Str} (h : (!dbg x) = true) : (x == ("__debug__" : Str)) = false ∧ (x == ("__classdict__" : Str)) = false ∧ x ≠ "__name__" := by
  unfold dbg at h
  simp only [Bool.not_eq_true', Bool.or_eq_false_iff, decide_eq_false_iff_not] at h
  exact ⟨beq_eq_false_iff_ne.mpr h.1.1, beq_eq_false_iff_ne.mpr h.1.2, h.2⟩
theorem glo_of (K : XOk T XX F n X W c) {x : Str} (h : gloB c x = true) : Gl X x ∧ (x == ("__debug__" : Str)) = false ∧ x ≠ "__name__" := by
  unfold gloB at h
  rw [Bool.and_eq_true, decide_eq_true_eq] at h
  have d := dbg_no h.2
  refine ⟨?_, d.1, d.2.2⟩
  show X.env.scope.names.lookup x = some .globalImplicit
  rw [K.sc]
  exact h.1
theorem vis_of (K : XOk T XX F n X W c) {x : Str} (h : visB c x = true) : Vis X.env.scope x := by
  unfold visB at h
  unfold Vis
  rw [K.sc]
  split at h
  · exact .inl (by assumption)
  · exact .inr (.inl (by assumption))
  · exact .inr (.inr (by assumption))
  · cases h
theorem loc_of (K : XOk T XX F n X W c) {x : Str} (h : locB c x = true) : L2.Loc X.env.scope x ∧ (X.fn x = true ∨ X.env.scope.names.lookup x = some .local) := by
  unfold locB at h
  unfold L2.Loc
  rw [K.sc]
  split at h
  · exact ⟨.inl (by assumption), .inr (by assumption)⟩
  · exact ⟨.inr (by assumption), .inl (K.fn x h)⟩
  · cases h
theorem tg_of (K : XOk T XX F n X W c) {x : Str} {i : Nat} (h : tgB c i x = true) : X.N[i]? = some x ∧ L2.Loc X.env.scope x ∧ (X.fn x = true ∨ X.env.scope.names.lookup x = some .local) := by
  unfold tgB at h
  rw [Bool.and_eq_true, decide_eq_true_eq] at h
  rw [K.N]
  exact ⟨h.1, loc_of K h.2⟩
theorem pg_of (K : XOk T XX F n X W c) {t : Tg} {ex : Expr} (h : tgtB c t ex = true) : PG X ex (gT X.K t) := by
  have gos : ∀ (is : List Nat) (es : List Expr), tgtB.go c is es = true → ((assignEach es X.env).length = is.length ∧ (assignEach es X.env).findIdx? (·.1) = none) ∧ PGs X es (gNs is) := by
    intro is
    induction is with
    | nil =>
      intro es h
      cases es with
      | nil => exact ⟨⟨rfl, rfl⟩, pgs_nil⟩
      | cons e es => cases h
    | cons i is ih =>
      intro es h
      cases es with
      | nil => cases h
      | cons e es =>
        cases e <;> try (cases h; done)
        rename_i x p
        have h' := Bool.and_eq_true_iff.mp (show (tgB c i x && tgtB.go c is es) = true from h)
        obtain ⟨h1, h2, h3⟩ := tg_of K h'.1
        obtain ⟨l, q⟩ := ih es h'.2
        refine ⟨⟨?_, ?_⟩, pgs_cons (pg_name K.nd h1 h2 h3) q⟩
        · show ((false, assign (.Name x p) X.env) :: assignEach es X.env).length = _
          simp [l.1]
        · show ((false, assign (.Name x p) X.env) :: assignEach es X.env).findIdx? (·.1) = none
          rw [List.findIdx?_cons]
          simp [l.2]
  unfold tgtB at h
  split at h
  · obtain ⟨h1, h2, h3⟩ := tg_of K h
    exact pg_name K.nd h1 h2 h3
  · rename_i is es kk p
    obtain ⟨l, q⟩ := gos is es h
    exact pg_tup K.calm q l.1 l.2
  · cases h
theorem opB_ok {o : B2} {op : Operator} (h : opB o op = true) : OpR X (binaryOp op) (rM X.K true (b2 o)) := by
  cases o <;> cases op <;> first
    | exact absurd h Bool.false_ne_true
    | skip
  · exact m_add
  · exact m_sub
  · exact m_mul
  · exact m_fdiv
  · exact m_mod
  · exact m_pow
theorem opC_ok (hr : Room n X.A) {o : B2} {op : CmpOp} (h : opC o op = true) : OpR X (compareOp op) (rM X.K true (b2 o)) := by
  have hu : X.A.units + 65 < cLine := by have := hr.un; omega
  have hu' : X.A.units + 64 < cLine := by omega
  cases o <;> cases op <;> first
    | exact absurd h Bool.false_ne_true
    | skip
  · exact m_eq hu'
  · exact m_ne hu'
  · exact m_lt
  · exact m_le
  · exact m_gt
  · exact m_ge
  · exact m_in hu
  · exact m_notin hu
theorem star_of {e : Expr} {es : List Expr} {env : PySem.Env} (h : notStar e = true) : starEach (e :: es) env = (false, eval e env) :: starEach es env := by
  cases e <;> first
    | rfl
    | cases h
theorem bn_of (K : XOk T XX F n X W c) {x : Str} (h : x ∈ bnames) : X.mg x = none := K.m.bl x h
theorem bi_ok (K : XOk T XX F n X W c) {f : B1} (hf : f ≠ .sortset) {a : Expr} {p pos : Pos} {m : ME} (hg : gloB c (biN f) = true) (hs : notStar a = true) (ha : SE X XX W false a m) : SE X XX W fr (.Call (.Name (biN f) p) [a] [] pos) (mUn (b1 f) m) := by
  obtain ⟨g1, g2, g3⟩ := glo_of K hg
  have st := star_of (es := []) (env := X.env) hs
  cases f with
  | len => exact se_bi (fun t ht => pe_callB call_len_seq g1 (bn_of K (by decide)) PySem.boot_len ht g3 g2 st rfl) (fun u H Q h => r_len h) ha st
  | abs => exact se_bi (fun t ht => pe_callB call_abs g1 (bn_of K (by decide)) (by decide +kernel) ht g3 g2 st rfl) (fun u H Q h => r_abs h) ha st
  | int => exact se_bi (fun t ht => pe_callTy call_int1 g1 (bn_of K (by decide)) boot_int ht g3 g2 st rfl) (fun u H Q h => r_int h) ha st
  | sum => exact se_bi (fun t ht => pe_callB (cr_sum K.calm) g1 (bn_of K (by decide)) boot_sum ht g3 g2 st rfl) (fun u H Q h => r_sum h) ha st
  | all => exact se_bi (fun t ht => pe_callB (cr_all K.calm) g1 (bn_of K (by decide)) boot_all ht g3 g2 st rfl) (fun u H Q h => r_all h) ha st
  | any => exact se_bi (fun t ht => pe_callB (cr_any K.calm) g1 (bn_of K (by decide)) (by decide +kernel) ht g3 g2 st rfl) (fun u H Q h => r_any h) ha st
  | min => exact se_bi (fun t ht => pe_callB (cr_minD2 K.calm (by have := K.room.un; omega)) g1 (bn_of K (by decide)) (by decide +kernel) ht g3 g2 st rfl) (fun u H Q h => r_min h) ha st
  | max => exact se_bi (fun t ht => pe_callB (cr_max K.calm) g1 (bn_of K (by decide)) (by decide +kernel) ht g3 g2 st rfl) (fun u H Q h => r_max h) ha st
  | sorted => exact se_bi (fun t ht => pe_callB (cr_sort2 (by have := K.room.un; omega)) g1 (bn_of K (by decide)) (by decide +kernel) ht g3 g2 st rfl) (fun u H Q h => r_sorted h) ha st
  | sortset => exact absurd rfl hf
  | tuple => exact se_bi (fun t ht => pe_callTy call_tuple_of g1 (bn_of K (by decide)) boot_tuple ht g3 g2 st rfl) (fun u H Q h => r_tuple h) ha st
  | list => exact se_bi (fun t ht => pe_callTy call_list_of g1 (bn_of K (by decide)) (by decide +kernel) ht g3 g2 st rfl) (fun u H Q h => r_list h) ha st
theorem kd_ok (K : XOk T XX F n X W c) {k : Kd} {e : Expr} (h : kdB c k e = true) : PE X e (tC (.ty (kdS k))) ∧ notStar e = true ∧ (∀ es, starEach (e :: es) X.env = (false, eval e X.env) :: starEach es X.env) := by
  cases e <;> first
    | exact absurd h Bool.false_ne_true
    | skip
  rename_i x p
  have h' : decide (x = kdN k) = true ∧ gloB c x = true := Bool.and_eq_true_iff.mp h
  have e1 := of_decide_eq_true h'.1
  subst e1
  obtain ⟨g1, g2, g3⟩ := glo_of K h'.2
  exact ⟨pe_bltn g1 (bn_of K (by cases k <;> decide)) (boot_kd k) rfl g3 g2, rfl, fun _ => rfl⟩
/-- in the block of a comprehension -/
theorem xok_blk (K : XOk T XX F n X W c) {scope : Scope} {own : List (Str × Nat)} (hb : BlkOk X.N X.env.scope scope own) (s : Shared) (H : Hp) (C : Addr) (cl : List (Str × Addr)) (fp : List Addr) :
    XOk T XX F n (X.blk s H scope (PySem.compEnvC scope cl C X.env) fp) WF (c.sub scope) where
  N := K.N
  nd := K.nd
  sc := by
    show relS scope X.env.scope = relS scope c.sc
    rw [K.sc]
  kind := hb.kind
  fn := fun x h => h
  calm := K.calm
  room := K.room
  tk := takes0
  pow := PassesOwn.never
  m := K.m
theorem blk_of (K : XOk T XX F n X W c) {scope : Scope} {own : List Nat} (h : blkC c.N c.sc scope (ownP c own) = true) : BlkOk X.N X.env.scope scope (ownP c own) := by
  rw [K.N, K.sc]
  exact blkOk_by h
theorem own_snd (c : SC) (own : List Nat) : (ownP c own).map (·.2) = own := by
  unfold ownP
  rw [List.map_map]
  exact List.map_id own
theorem noset {e : Expr} (h : notSet e = true) (env : PySem.Env) : ∀ x, foldedSetIterable e env x = pure x := by
  cases e <;> first
    | exact absurd h Bool.false_ne_true
    | exact fun x => rfl
abbrev Snd (X : Cx) (XX : XR) (W : WX) (t : Bool) (fr : Bool) (ex : Expr) (m : ME) : Prop := if t = true then ST X XX W ex m else SE X XX W fr ex m
theorem Snd.mk {t : Bool} {ex : Expr} {m : ME} (h : SE X XX W fr ex m) (he : ∀ whole, isTrue ex X.env whole = (do let v ← whole; standAt ex.pos; holding [v] (truthy v))) : Snd X XX W t fr ex m := by
  cases t with
  | true => exact st_of h.weak he
  | false => exact h
theorem plain_of {env : PySem.Env} (pos : Pos) : ∀ {es : List Expr}, es.all notStar = true → (backTo pos (starEach es env)).any (·.1) = false
  | [], _ => rfl
  | e :: es, h => by
    rw [List.all_cons, Bool.and_eq_true] at h
    rw [star_of h.1]
    show (false || (backTo pos (starEach es env)).any (·.1)) = false
    rw [plain_of pos h.2]
    rfl
theorem call_ok (K : XOk T XX F n X W c) {nw : Bool} {f : Str} {e : Expr} {es : List Expr} {p pos : Pos} {ms : MEs} (hnw : nw = true → T.nw f = true) (hg : gloB c f = true) (har : T.ar f = some (es.length + 1)) (hs : notStar e = true) (hs2 : es.all notStar = true) (ha : SA X XX W (e :: es) ms)
    (hlen : ∀ env st vs st', ms env st = .ok vs st' → vs.length = es.length + 1) : SE X XX W nw (.Call (.Name f p) (e :: es) [] pos) (mCall F f ms) := by
  obtain ⟨g1, g2, g3⟩ := glo_of K hg
  obtain ⟨a, fd, ps, hm, hk, hl, hb, hF⟩ := K.m.fn f _ har
  have hpl := plain_of (env := X.env) pos hs2
  refine PE.imp (pe_callS hF K.room g1 hm hk hb (fun σ => passAt K.tk σ) ha g2 (star_of hs) hpl) fun σ H Q ⟨ι, env, st, he, hc, ho⟩ => ⟨ι, env, st, he, hc, ?_⟩
  unfold mCall at ho
  generalize e0 : ms env st = r at ho
  cases r with
  | bad => exact ho
  | exc x st' => exact ho
  | ok vs st' =>
    intro us H' rvs cr ex
    dsimp only [R.bind] at ho
    refine ⟨by rw [← rvs.length]; exact hlen _ _ _ _ e0, ι, st', vs, rvs, cr, ?_⟩
    generalize F f vs st' = r2 at ho
    cases r2 with
    | bad => exact ho
    | exc x st2 => exact fun cls d H2 q c2 ex2 => ho cls d H2 q c2 (ex.trans' ex2)
    | ok v st2 => exact fun u H2 rv c2 ex2 hf => ho u H2 rv c2 (ex.trans' ex2) ((hf.wk hnw).back ex)
theorem pe_callS0 {CX : CXT} {k : Nat} {f : Addr} {fd : FuncData} {ps : List Str} {sp : Sp} {E : L2.St → XK} {x : Str} {p pos : Pos} (F : FnOk X.prog X.w X.K X.mg X.base CX k f fd ps sp) (hr : Room k X.A) (hg : Gl X x) (hm : X.mg x = some (.ref f)) (hk : PySem.W.keepIn X.K (.ref f) = true) (hb : Binds X.K fd ps []) (hx : ∀ σ, PassesAt CX X σ (E σ))
    (hdb : (x == ("__debug__" : Str)) = false) : PE X (.Call (.Name x p) [] [] pos) (tCallS sp E tNil) := by
  refine ⟨fun pins s σ H Q I h => ?_⟩
  refine wpAny_Call_Name_kw (ld_glob I hg hm ?_ hdb)
  exact PySem.W.callWith_K0 I.kIn hk (run_fnS (us := []) F hr hb (hx σ) I .nil h)
theorem call_ok0 (K : XOk T XX F n X W c) {nw : Bool} {f : Str} {p pos : Pos} (hnw : nw = true → T.nw f = true) (hg : gloB c f = true) (har : T.ar f = some 0) : SE X XX W nw (.Call (.Name f p) [] [] pos) (mCall F f mNil) := by
  obtain ⟨g1, g2, g3⟩ := glo_of K hg
  obtain ⟨a, fd, ps, hm, hk, hl, hb, hF⟩ := K.m.fn f _ har
  refine PE.imp (pe_callS0 hF K.room g1 hm hk hb (fun σ => passAt K.tk σ) g2) fun σ H Q ⟨ι, env, st, he, hc, ho⟩ => ?_
  have ho : outE X.K XX W ι σ H nw Q (F f [] st) := ho
  refine ⟨rfl, ι, st, [], .nil, hc, ?_⟩
  generalize F f [] st = r2 at ho
  cases r2 with
  | bad => exact ho
  | exc x st2 => exact fun cls d H2 q c2 ex2 => ho cls d H2 q c2 ex2
  | ok v st2 => exact fun u H2 rv c2 ex2 hf => ho u H2 rv c2 ex2 (hf.wk hnw)
end
end Mi
end
section
set_option maxHeartbeats 4000000
namespace Mi
open PySem PySem.Spec PyProof.Rows L2
section
variable {T : Tb} {XX : XR} {F : Calls} {n : Nat}
theorem and2 {a b : Bool} (h : (a && b) = true) : a = true ∧ b = true := Bool.and_eq_true_iff.mp h
theorem rdT_chain {X : Cx} {W : WX} {f g : D → D → Option D} {ma mb mc : ME} {op op' : CmpOp} {a b d : Expr} {pos : Pos} (ho : OpR X (compareOp op) (rM X.K true f)) (ho' : OpR X (compareOp op') (rM X.K true g)) (ha : SE X XX W false a ma) (hb : SE X XX W false b mb) (hc : SE X XX W false d mc)
    (hm : lastMarks [op, op'] [b, d] = false) : ST X XX W (.Compare a [op, op'] [b, d] pos) (mChain f g ma mb mc) := by
  refine PT.imp (pt_chain ho ho' ha hb hc hm) fun σ H Q h => ?_
  exact rd_chain (fr := false) (test_of h)
theorem oks_len : ∀ {es : List E} {c : SC} {exs : List Expr}, oks T es c exs = true → exs.length = es.length ∧ exs.all notStar = true
  | [], _, [], _ => ⟨rfl, rfl⟩
  | e :: es, c, ex :: exs, h => by
    obtain ⟨h1, h2⟩ := and2 (show (notStar ex && ok T false e c ex && oks T es c exs) = true from h)
    obtain ⟨l, s⟩ := oks_len h2
    exact ⟨by simp [l], by rw [List.all_cons, (and2 h1).1, s]; rfl⟩
  | [], _, _ :: _, h => by cases h
  | _ :: _, _, [], h => by cases h
theorem evEs_len : ∀ {es : List E} {env : Env} {st : Store} {vs : List Val} {st' : Store}, evEs F es env st = .ok vs st' → vs.length = es.length
  | [], _, _, _, _, h => by cases h; rfl
  | e :: es, env, st, vs, st', h => by
    obtain ⟨v, st1, h1, h2⟩ := R.bind_ok_inv (show (evE F e env st).bind (fun v st1 => (evEs F es env st1).bind fun vs st2 => .ok (v :: vs) st2) = .ok vs st' from h)
    obtain ⟨ws, st2, h3, h4⟩ := R.bind_ok_inv h2
    cases h4
    simp [evEs_len h3]
theorem SE.less {X : Cx} {W : WX} {fr fr' : Bool} {ex : Expr} {m : ME} (h : SE X XX W fr ex m) (i : fr' = true → fr = true) : SE X XX W fr' ex m := by
  cases fr' with
  | false => exact h.weak
  | true => rw [i rfl] at h; exact h
theorem se_of {X : Cx} {W : WX} {fr : Bool} {ex : Expr} {m : ME} (h : Snd X XX W false fr ex m) : SE X XX W fr ex m := h
theorem st_of' {X : Cx} {W : WX} {fr : Bool} {ex : Expr} {m : ME} (h : Snd X XX W true fr ex m) : ST X XX W ex m := h
theorem sa_of {X : Cx} {W : WX} {c : SC} (K : XOk T XX F n X W c) : ∀ {es : List E} {exs : List Expr}, oks T es c exs = true → (∀ e ∈ es, ∀ ex, ok T false e c ex = true → SE X XX W (isNew e) ex (evE F e)) → SA X XX W exs (evEs F es)
  | [], [], _, _ => sa_nil
  | e :: es, ex :: exs, h, ih => by
    obtain ⟨h1, h2⟩ := and2 (show (notStar ex && ok T false e c ex && oks T es c exs) = true from h)
    exact sa_cons (ih e List.mem_cons_self ex (and2 h1).2).weak (sa_of K h2 fun e' he => ih e' (List.mem_cons_of_mem _ he)) (star_of (and2 h1).1)
  | [], _ :: _, h, _ => by cases h
  | _ :: _, [], h, _ => by cases h
theorem plainIx_of {e : Expr} (h : plainI e = true) : PlainIx e := by
  cases e <;> first
    | exact absurd h Bool.false_ne_true
    | exact fun _ _ => rfl
/-- the conditions of a comprehension -/
theorem pts_of {X : Cx} {c : SC} {cd : Option E} {ifs : List Expr} (K : XOk T XX F n X WF c) (h : okc T cd c ifs = true) (ih : ∀ e, cd = some e → ∀ ex, ok T true e c ex = true → ST X XX WF ex (evE F e)) : PTs X ifs (rdC X.K XX (evO F cd)) := by
  cases cd with
  | none =>
    cases ifs with
    | nil => exact pts_nil
    | cons _ _ => cases h
  | some e =>
    cases ifs with
    | nil => cases h
    | cons ex r =>
      cases r with
      | nil => exact pts_one (ih e rfl ex h)
      | cons _ _ => cases h
/-- range(..) of one, two or three -/
theorem rng_of {X : Cx} {W : WX} {c : SC} {tg : Expr} {args : List E} {exs : List Expr} {p pos : Pos} (K : XOk T XX F n X W c) (hg : gloB c "range" = true) (hl : 1 ≤ exs.length ∧ exs.length ≤ 3) (h : oks T args c exs = true) (ha : SA X XX W exs (evEs F args)) :
    SI X XX W tg (.Call (.Name "range" p) exs [] pos) (mItR (evEs F args)) := by
  obtain ⟨g1, g2, g3⟩ := glo_of K hg
  obtain ⟨l, s⟩ := oks_len h
  have hone : ∀ k, exs.length = k → ∀ env st vs st', evEs F args env st = .ok vs st' → vs.length = k := fun k hk env st vs st' q => by rw [evEs_len q, ← l, hk]
  match exs, hl, ha, s, hone with
  | [a], _, ha, s, hone =>
    rw [List.all_cons] at s
    exact si_r1 g1 (bn_of K (by decide)) ha (star_of (and2 s).1) (hone 1 rfl)
  | [a, b], _, ha, s, hone =>
    rw [List.all_cons, List.all_cons] at s
    have s2 := star_of (es := []) (env := X.env) (and2 (and2 s).2).1
    exact si_r2 g1 (bn_of K (by decide)) ha (by rw [star_of (and2 s).1, s2]; rfl) s2 (hone 2 rfl)
  | [a, b, d], _, ha, s, hone =>
    rw [List.all_cons] at s
    exact si_r3 g1 (bn_of K (by decide)) ha (star_of (and2 s).1) (plain_of pos (and2 s).2) (hone 3 rfl)
  | [], hl, _, _, _ => exact absurd hl.1 (by decide)
  | _ :: _ :: _ :: _ :: _, hl, _, _, _ => simp at hl
theorem slots_of {tg : Tg} {own : List Nat} {c : SC} (h : (tg.slots.all fun i => decide (i ∈ own)) = true) : ∀ i ∈ tg.slots, i ∈ (ownP c own).map (·.2) := fun i hi => by
  rw [own_snd]
  exact of_decide_eq_true (List.all_eq_true.mp h i hi)
theorem lc_of {X : Cx} {W : WX} {c : SC} {own : List Nat} {fr : Bool} {tg : Tg} {tg' it e' : Expr} {ifs : List Expr} {scope : Scope} {pos : Pos} {mi : MI} {cd : Option E} {e : E} (K : XOk T XX F n X W c) (hb : blkC c.N c.sc scope (ownP c own) = true) (hset : notSet it = true) (hi : SI X XX W tg' it mi)
    (ht : tgtB (c.sub scope) tg tg' = true) (hsl : (tg.slots.all fun i => decide (i ∈ own)) = true) (hcd : okc T cd (c.sub scope) ifs = true) (he : ok T false e (c.sub scope) e' = true)
    (ih1 : ∀ (X : Cx), XOk T XX F n X WF (c.sub scope) → PTs X ifs (rdC X.K XX (evO F cd))) (ih2 : ∀ (X : Cx) (ex : Expr), XOk T XX F n X WF (c.sub scope) → ok T false e (c.sub scope) ex = true → SE X XX WF (isNew e) ex (evE F e)) :
    SE X XX W fr (.ListComp e' [⟨tg', it, ifs, 0⟩] scope pos) (mLc own tg mi (evO F cd) (evE F e)) := by
  have B := blk_of K hb
  have q := se_lc (own := ownP c own) (fr := fr) (pos := pos) K.calm K.nd hi B (fun s H C cl fp => pg_of (xok_blk K B s H C cl fp) ht) (fun s H C cl fp => ih1 _ (xok_blk K B s H C cl fp)) (fun s H C cl fp => (ih2 _ e' (xok_blk K B s H C cl fp) he).weak) (noset hset _) (slots_of hsl)
  rw [own_snd] at q
  exact q
mutual
theorem snd : ∀ (e : E) {t : Bool} {X : Cx} {W : WX} {c : SC} {ex : Expr}, XOk T XX F n X W c → ok T t e c ex = true → Snd X XX W t (isNew e) ex (evE F e)
  | .cst d, t, X, W, c, ex, K, h => by
    unfold ok at h
    split at h
    · rename_i k j p
      unfold cstB at h
      split at h
      · exact Snd.mk (se_cst pe_non fun _ _ => .non) fun _ => rfl
      · rw [← eq_of_beq h]; exact Snd.mk (se_cst pe_bl fun _ _ => .bl _) fun _ => rfl
      · rw [← eq_of_beq h]; exact Snd.mk (se_cst pe_int fun _ _ => .int _) fun _ => rfl
      · obtain ⟨h1, h2⟩ := and2 h
        rw [← of_decide_eq_true h1]; exact Snd.mk (se_cst pe_str fun _ _ => .str _ h2) fun _ => rfl
      · cases h
    · cases h
  | .var i, t, X, W, c, ex, K, h => by
    unfold ok at h
    split at h
    · obtain ⟨h1, h2⟩ := and2 h
      obtain ⟨h1, h3⟩ := and2 h1
      obtain ⟨d1, d2, _⟩ := dbg_no h2
      exact Snd.mk (se_var (pe_var (by rw [K.N]; exact of_decide_eq_true h1) (vis_of K h3) d1 d2)) fun _ => rfl
    · cases h
  | .glo x d, t, X, W, c, ex, K, h => by
    unfold ok at h
    split at h
    · obtain ⟨h1, h2⟩ := and2 h
      obtain ⟨h1, h3⟩ := and2 h1
      have e := of_decide_eq_true h1
      subst e
      obtain ⟨v, u, hm, r, hd⟩ := K.m.cs x d h2
      obtain ⟨g1, g2, _⟩ := glo_of K h3
      exact Snd.mk (se_cst (pe_glob g1 hm r g2) hd) fun _ => rfl
    · cases h
  | .neg a, t, X, W, c, ex, K, h => by
    unfold ok at h
    split at h
    · have q := snd a K h
      refine Snd.mk (fr := isNew (.neg a)) (PE.imp (pe_un (un_neg) q) fun σ H Q r => ?_) fun _ => rfl
      obtain ⟨ι, env, st, he, hc, ho⟩ := rd_un (fa := isNew a) (fo := true) (fun _ => rfl) r
      refine ⟨ι, env, st, he, hc, ?_⟩
      generalize evE F a env st = rr at ho
      cases rr with
      | bad => exact ho
      | exc e st' => exact ho
      | ok v st' =>
        intro u H' rv cr ex fh
        obtain ⟨ι', x, z, hι, hx, e, q⟩ := ho u H' rv cr ex fh
        unfold negD at e
        split at e
        · cases e
          exact ⟨_, hx.int, q _ H' (.int _) (same_refl _) (fresh_no (by simp))⟩
        · cases e
    · cases h
  | .bin op a b, t, X, W, c, ex, K, h => by
    unfold ok at h
    split at h
    · obtain ⟨h1, h2⟩ := and2 h
      obtain ⟨h1, h3⟩ := and2 h1
      exact Snd.mk (se_bin (opB_ok h1) (snd a K h3) (snd b K h2)) fun _ => rfl
    · obtain ⟨h1, h2⟩ := and2 h
      obtain ⟨h1, h3⟩ := and2 h1
      obtain ⟨h1, h4⟩ := and2 h1
      have hm := Bool.not_eq_true' _ |>.mp h2
      cases t with
      | true => exact st_cmp (opC_ok K.room h1) (snd a K h4) (snd b K h3) hm
      | false => exact se_cmp (opC_ok K.room h1) (snd a K h4) (snd b K h3) hm
    · cases h
  | .chain o1 o2 a b d, t, X, W, c, ex, K, h => by
    unfold ok at h
    split at h
    · obtain ⟨h1, h2⟩ := and2 h
      obtain ⟨h1, h3⟩ := and2 h1
      obtain ⟨h1, h4⟩ := and2 h1
      obtain ⟨h1, h5⟩ := and2 h1
      obtain ⟨h1, h6⟩ := and2 h1
      have hm := Bool.not_eq_true' _ |>.mp h2
      cases t with
      | true => exact rdT_chain (opC_ok K.room h1) (opC_ok K.room h6) (SE.weak (snd a K h5)) (SE.weak (snd b K h4)) (SE.weak (snd d K h3)) hm
      | false => exact se_chain (opC_ok K.room h1) (opC_ok K.room h6) (SE.weak (snd a K h5)) (SE.weak (snd b K h4)) (SE.weak (snd d K h3)) hm
    · cases h
  | .isc ng a d, t, X, W, c, ex, K, h => by
    unfold ok at h
    split at h
    · rename_i a' o k j p1 p
      obtain ⟨h1, h2⟩ := and2 h
      obtain ⟨h1, h3⟩ := and2 h1
      have qa : SE X XX W false a' (evE F a) := SE.weak (snd a K h3)
      split at h2
      · cases ng with
        | true =>
          have e := eq_of_beq (show (o == .IsNot) = true from h1)
          subst e
          cases t with
          | true => exact st_isN true _ tNotN (fun ta q => pt_cmp (pc_notN q)) rfl qa
          | false => exact se_isN true _ tNotN (fun ta q => pe_cmp (pc_notN q)) rfl qa
        | false =>
          have e := eq_of_beq (show (o == .Is) = true from h1)
          subst e
          cases t with
          | true => exact st_isN false _ tIsN (fun ta q => pt_cmp (pc_isN q)) rfl qa
          | false => exact se_isN false _ tIsN (fun ta q => pe_cmp (pc_isN q)) rfl qa
      · rename_i pb qb
        have e2 := eq_of_beq h2
        subst e2
        have qc : SE X XX W false (.Constant (.bool pb) j p1) (fun _ st => .ok (.d (.bool pb)) st) := se_cst pe_bl fun _ _ => .bl _
        cases ng with
        | true =>
          have e := eq_of_beq (show (o == .IsNot) = true from h1)
          subst e
          cases t with
          | true => exact PT.imp (st_cmp (m_isnB pb) qa qc (nomark _)) fun _ _ _ r => rdT_isB (ng := true) r
          | false => exact PE.imp (se_cmp (m_isnB pb) qa qc (nomark _)) fun _ _ _ r => rd_isB (ng := true) r
        | false =>
          have e := eq_of_beq (show (o == .Is) = true from h1)
          subst e
          cases t with
          | true => exact PT.imp (st_cmp (m_isB pb) qa qc (nomark _)) fun _ _ _ r => rdT_isB (ng := false) r
          | false => exact PE.imp (se_cmp (m_isB pb) qa qc (nomark _)) fun _ _ _ r => rd_isB (ng := false) r
      · cases h2
    · cases h
  | .and a b, t, X, W, c, ex, K, h => by
    unfold ok at h
    split at h
    · obtain ⟨h1, h2⟩ := and2 h
      cases t with
      | true => exact st_and (snd a K h1) (st_one1 (snd b K h2))
      | false => exact se_and (SE.weak (snd a K h1)) (se_one (snd b K h2))
    · obtain ⟨h1, h2⟩ := and2 h
      cases t with
      | true => exact st_and (snd a K h1) (snd b K h2)
      | false => exact se_and (SE.weak (snd a K h1)) (snd b K h2)
    · cases h
  | .or a b, t, X, W, c, ex, K, h => by
    unfold ok at h
    split at h
    · obtain ⟨h1, h2⟩ := and2 h
      cases t with
      | true => exact st_or (snd a K h1) (st_one2 (snd b K h2))
      | false => exact se_or (SE.weak (snd a K h1)) (se_one (snd b K h2))
    · obtain ⟨h1, h2⟩ := and2 h
      cases t with
      | true => exact st_or (snd a K h1) (snd b K h2)
      | false => exact se_or (SE.weak (snd a K h1)) (snd b K h2)
    · cases h
  | .not a, t, X, W, c, ex, K, h => by
    unfold ok at h
    split at h
    · cases t with
      | true => exact st_not (snd a K h)
      | false => exact se_not (SE.weak (snd a K h))
    · cases h
  | .ite d a b, t, X, W, c, ex, K, h => by
    unfold ok at h
    split at h
    · rename_i d' a' b' p
      obtain ⟨h1, h2⟩ := and2 h
      obtain ⟨h1, h3⟩ := and2 h1
      obtain ⟨h1, h4⟩ := and2 h1
      cases t with
      | true => cases h1
      | false =>
        have qa : SE X XX W (isNew a) _ _ := snd a K h3
        have qb : SE X XX W (isNew b) _ _ := snd b K h2
        show SE X XX W (isNew a && isNew b) (.IfExp d' a' b' p) _
        have ha : SE X XX W (isNew a && isNew b) a' (evE F a) := SE.less qa fun z => (and2 z).1
        have hb : SE X XX W (isNew a && isNew b) b' (evE F b) := SE.less qb fun z => (and2 z).2
        exact se_ite (snd d K h4) ha hb
    · cases h
  | .tup es, t, X, W, c, ex, K, h => by
    unfold ok at h
    split at h
    · exact Snd.mk (se_tup (sa_of K h fun e he ex hx => snds es K e he ex hx)) fun _ => rfl
    · cases h
  | .lst es, t, X, W, c, ex, K, h => by
    unfold ok at h
    split at h
    · exact Snd.mk (se_lst (sa_of K h fun e he ex hx => snds es K e he ex hx)) fun _ => rfl
    · cases h
  | .rep es k, t, X, W, c, ex, K, h => by
    unfold ok at h
    split at h
    · obtain ⟨h1, h2⟩ := and2 h
      exact Snd.mk (se_rep (sa_of K h1 fun e he ex hx => snds es K e he ex hx) (SE.weak (snd k K h2))) fun _ => rfl
    · cases h
  | .idx a i, t, X, W, c, ex, K, h => by
    unfold ok at h
    split at h
    · obtain ⟨h1, h2⟩ := and2 h
      obtain ⟨h1, h3⟩ := and2 h1
      exact Snd.mk (se_idx (SE.weak (snd a K h3)) (SE.weak (snd i K h2)) (plainIx_of h1)) fun _ => rfl
    · cases h
  | .slc a lo hi, t, X, W, c, ex, K, h => by
    unfold ok at h
    split at h
    · obtain ⟨h1, h2⟩ := and2 h
      obtain ⟨h1, h3⟩ := and2 h1
      exact Snd.mk (se_slc (SE.weak (snd a K h1)) (sndo lo K h3) (sndo hi K h2)) fun _ => rfl
    · cases h
  | .rev a, t, X, W, c, ex, K, h => by unfold ok at h; cases h
  | .call nw f es, t, X, W, c, ex, K, h => by
    unfold ok at h
    split at h
    · obtain ⟨h1, h2⟩ := and2 h
      obtain ⟨h1, h3⟩ := and2 h1
      obtain ⟨h1, h4⟩ := and2 h1
      obtain ⟨h0, h1⟩ := and2 h1
      have hnw : nw = true → T.nw f = true := fun z => by rw [z] at h0; exact h0
      have e := of_decide_eq_true h1
      subst e
      obtain ⟨l, s⟩ := oks_len h2
      rw [List.all_cons] at s
      refine Snd.mk (call_ok K hnw h4 (of_decide_eq_true h3) (and2 s).1 (and2 s).2 (sa_of K h2 fun e he ex hx => snds es K e he ex hx) fun env st vs st' q => ?_) fun _ => rfl
      rw [evEs_len q, ← l]
      rfl
    · obtain ⟨h1, h2⟩ := and2 h
      obtain ⟨h1, h3⟩ := and2 h1
      obtain ⟨h1, h4⟩ := and2 h1
      obtain ⟨h0, h1⟩ := and2 h1
      have hnw : nw = true → T.nw f = true := fun z => by rw [z] at h0; exact h0
      have e := of_decide_eq_true h1
      subst e
      cases es with
      | cons _ _ => cases h2
      | nil => exact Snd.mk (call_ok0 K hnw h4 (of_decide_eq_true h3)) fun _ => rfl
    · cases h
  | .bi f a, t, X, W, c, ex, K, h => by
    unfold ok at h
    split at h
    · split at h
      · obtain ⟨h1, h2⟩ := and2 h
        obtain ⟨h1, h3⟩ := and2 h1
        obtain ⟨h1, h4⟩ := and2 h1
        obtain ⟨h1, h5⟩ := and2 h1
        obtain ⟨h1, h6⟩ := and2 h1
        have e := of_decide_eq_true h1
        subst e
        have e2 := of_decide_eq_true h5
        subst e2
        exact Snd.mk (se_sortset (glo_of K h6).1 (bn_of K (by decide)) (glo_of K h4).1 (bn_of K (by decide)) (SE.weak (snd a K h2)) K.calm (star_of h3)) fun _ => rfl
      · cases h
    · rename_i hf
      split at h
      · obtain ⟨h1, h2⟩ := and2 h
        obtain ⟨h1, h3⟩ := and2 h1
        obtain ⟨h1, h4⟩ := and2 h1
        have e := of_decide_eq_true h1
        subst e
        exact Snd.mk (bi_ok K hf h4 h3 (SE.weak (snd a K h2))) fun _ => rfl
      · cases h
  | .min2 a b, t, X, W, c, ex, K, h => by
    unfold ok at h
    split at h
    · obtain ⟨h1, h2⟩ := and2 h
      obtain ⟨h1, h3⟩ := and2 h1
      obtain ⟨h1, h4⟩ := and2 h1
      obtain ⟨h1, h5⟩ := and2 h1
      obtain ⟨h1, h6⟩ := and2 h1
      have e := of_decide_eq_true h1
      subst e
      obtain ⟨g1, g2, g3⟩ := glo_of K h6
      have s2 := star_of (es := []) (env := X.env) h4
      exact Snd.mk (se_min2 (fun t ht => pe_callB (call_min2 K.calm) g1 (bn_of K (by decide)) (by decide +kernel) ht g3 g2 (star_of h5) (by rw [s2]; rfl)) (SE.weak (snd a K h3)) (SE.weak (snd b K h2)) (star_of h5) s2) fun _ => rfl
    · cases h
  | .lrange a b, t, X, W, c, ex, K, h => by
    unfold ok at h
    split at h
    · obtain ⟨h1, h2⟩ := and2 h
      obtain ⟨h1, h3⟩ := and2 h1
      obtain ⟨h1, h4⟩ := and2 h1
      obtain ⟨h1, h5⟩ := and2 h1
      obtain ⟨h1, h6⟩ := and2 h1
      obtain ⟨h1, h7⟩ := and2 h1
      obtain ⟨h1, h8⟩ := and2 h1
      have e := of_decide_eq_true h1
      subst e
      have e2 := of_decide_eq_true h7
      subst e2
      exact Snd.mk (se_lrange (glo_of K h8).1 (bn_of K (by decide)) (glo_of K h6).1 (bn_of K (by decide)) (SE.weak (snd a K h3)) (SE.weak (snd b K h2)) K.calm (star_of h5) (star_of h4)) fun _ => rfl
    · cases h
  | .lzip a b, t, X, W, c, ex, K, h => by
    unfold ok at h
    split at h
    · obtain ⟨h1, h2⟩ := and2 h
      obtain ⟨h1, h3⟩ := and2 h1
      obtain ⟨h1, h4⟩ := and2 h1
      obtain ⟨h1, h5⟩ := and2 h1
      obtain ⟨h1, h6⟩ := and2 h1
      obtain ⟨h1, h7⟩ := and2 h1
      obtain ⟨h1, h8⟩ := and2 h1
      have e := of_decide_eq_true h1
      subst e
      have e2 := of_decide_eq_true h7
      subst e2
      exact Snd.mk (se_lzip (glo_of K h8).1 (bn_of K (by decide)) (glo_of K h6).1 (bn_of K (by decide)) (SE.weak (snd a K h3)) (SE.weak (snd b K h2)) K.calm (star_of h5) (star_of h4)) fun _ => rfl
    · cases h
  | .isin a ks, t, X, W, c, ex, K, h => by
    unfold ok at h
    split at h
    · obtain ⟨h1, h2⟩ := and2 h
      obtain ⟨h1, h3⟩ := and2 h1
      obtain ⟨h1, h4⟩ := and2 h1
      obtain ⟨h1, h5⟩ := and2 h1
      have e := of_decide_eq_true h1
      subst e
      obtain ⟨g1, g2, g3⟩ := glo_of K h5
      split at h2
      · obtain ⟨k1, k2, k3⟩ := kd_ok K h2
        exact Snd.mk (se_isin1 (fun t ht => pe_callB call_isi g1 (bn_of K (by decide)) boot_isinstance ht g3 g2 (star_of h4) (by rw [k3]; rfl)) k1 (SE.weak (snd a K h3)) (star_of h4) (k3 _)) fun _ => rfl
      · obtain ⟨h6, h7⟩ := and2 h2
        obtain ⟨k1, k2, k3⟩ := kd_ok K h6
        obtain ⟨m1, m2, m3⟩ := kd_ok K h7
        exact Snd.mk (se_isin2 (fun t ht => pe_callB call_isiT g1 (bn_of K (by decide)) boot_isinstance ht g3 g2 (star_of h4) rfl) k1 m1 (SE.weak (snd a K h3)) (star_of h4) (k3 _) (m3 _)) fun _ => rfl
      · cases h2
    · cases h
  | .lcE own e tg it cd, t, X, W, c, ex, K, h => by
    unfold ok at h
    split at h
    · obtain ⟨h1, h2⟩ := and2 h
      obtain ⟨h1, h3⟩ := and2 h1
      obtain ⟨h1, h4⟩ := and2 h1
      obtain ⟨h1, h5⟩ := and2 h1
      obtain ⟨h1, h6⟩ := and2 h1
      obtain ⟨h1, h7⟩ := and2 h1
      exact Snd.mk (lc_of K h1 h7 (si_ex (SE.weak (snd it K h6))) h5 h4 h3 h2 (fun X K' => sndc cd K' h3) fun X ex K' hx => snd e K' hx) fun _ => rfl
    · cases h
  | .lcR own e tg args cd, t, X, W, c, ex, K, h => by
    unfold ok at h
    split at h
    · obtain ⟨h1, h2⟩ := and2 h
      obtain ⟨h1, h3⟩ := and2 h1
      obtain ⟨h1, h4⟩ := and2 h1
      obtain ⟨h1, h5⟩ := and2 h1
      obtain ⟨h1, h6⟩ := and2 h1
      obtain ⟨h1, h7⟩ := and2 h1
      obtain ⟨h1, h8⟩ := and2 h1
      obtain ⟨hb, h9⟩ := and2 h1
      have e := of_decide_eq_true h9
      subst e
      exact Snd.mk (lc_of K hb rfl (rng_of K h8 (of_decide_eq_true h6) h7 (sa_of K h7 fun e he ex hx => snds args K e he ex hx)) h5 h4 h3 h2 (fun X K' => sndc cd K' h3) fun X ex K' hx => snd e K' hx) fun _ => rfl
    · cases h
  | .lcZ own e tg a b cd, t, X, W, c, ex, K, h => by
    unfold ok at h
    split at h
    · obtain ⟨h1, h2⟩ := and2 h
      obtain ⟨h1, h3⟩ := and2 h1
      obtain ⟨h1, h4⟩ := and2 h1
      obtain ⟨h1, h5⟩ := and2 h1
      obtain ⟨h1, h6⟩ := and2 h1
      obtain ⟨h1, h7⟩ := and2 h1
      obtain ⟨h1, h8⟩ := and2 h1
      obtain ⟨h1, h9⟩ := and2 h1
      obtain ⟨h1, h10⟩ := and2 h1
      obtain ⟨hb, h11⟩ := and2 h1
      have e := of_decide_eq_true h11
      subst e
      obtain ⟨g1, g2, g3⟩ := glo_of K h10
      have s2 := star_of (es := []) (env := X.env) h8
      exact Snd.mk (lc_of K hb rfl (si_zip g1 (bn_of K (by decide)) (SE.weak (snd a K h7)) (SE.weak (snd b K h6)) (star_of h9) s2 (by rw [s2]; rfl)) h5 h4 h3 h2 (fun X K' => sndc cd K' h3) fun X ex K' hx => snd e K' hx) fun _ => rfl
    · cases h
  | .lcN own e tg a cd, t, X, W, c, ex, K, h => by
    unfold ok at h
    split at h
    · obtain ⟨h1, h2⟩ := and2 h
      obtain ⟨h1, h3⟩ := and2 h1
      obtain ⟨h1, h4⟩ := and2 h1
      obtain ⟨h1, h5⟩ := and2 h1
      obtain ⟨h1, h6⟩ := and2 h1
      obtain ⟨h1, h7⟩ := and2 h1
      obtain ⟨h1, h8⟩ := and2 h1
      obtain ⟨hb, h9⟩ := and2 h1
      have e := of_decide_eq_true h9
      subst e
      obtain ⟨g1, g2, g3⟩ := glo_of K h8
      exact Snd.mk (lc_of K hb rfl (si_enum g1 (bn_of K (by decide)) (SE.weak (snd a K h6)) (star_of h7)) h5 h4 h3 h2 (fun X K' => sndc cd K' h3) fun X ex K' hx => snd e K' hx) fun _ => rfl
    · cases h
  | .lc2 own own1 e tg it tg1 it1, t, X, W, c, ex, K, h => by
    unfold ok at h
    split at h
    · rename_i e' tg' it' tg1' it1' scope ppos
      obtain ⟨h1, h2⟩ := and2 h
      obtain ⟨h1, h3⟩ := and2 h1
      obtain ⟨h1, h4⟩ := and2 h1
      obtain ⟨h1, h5⟩ := and2 h1
      obtain ⟨h1, h6⟩ := and2 h1
      obtain ⟨h1, h7⟩ := and2 h1
      obtain ⟨h1, h8⟩ := and2 h1
      obtain ⟨h1, h9⟩ := and2 h1
      obtain ⟨h1, h10⟩ := and2 h1
      obtain ⟨hb, h11⟩ := and2 h1
      have B := blk_of K hb
      have q := se_lc2 (own := ownP c own) (own1 := own1) (pos := ppos) K.calm K.nd (si_ex (SE.weak (snd it K h9))) B (by rw [own_snd]; exact fun i hi => of_decide_eq_true (List.all_eq_true.mp h3 i hi))
        (fun s H C cl fp => pg_of (xok_blk K B s H C cl fp) h8) (fun s H C cl fp => si_ex (SE.weak (snd it1 (xok_blk K B s H C cl fp) h6))) (fun s H C cl fp => pg_of (xok_blk K B s H C cl fp) h5)
        (fun s H C cl fp => SE.weak (snd e (xok_blk K B s H C cl fp) h2)) (noset h11 _) (fun env => noset h10 env) (slots_of h7) (fun i hi => of_decide_eq_true (List.all_eq_true.mp h4 i hi))
      rw [own_snd] at q
      exact Snd.mk q fun _ => rfl
    · cases h
  | .nev, t, X, W, c, ex, K, h => by
    cases t with
    | true => exact PT.imp (t := fun _ _ _ => False) ⟨fun _ _ _ _ _ _ q => q.elim⟩ fun σ H Q ⟨ι, env, st, he, hc, ho⟩ => ho
    | false => exact PE.imp (t := fun _ _ _ => False) ⟨fun _ _ _ _ _ _ q => q.elim⟩ fun σ H Q ⟨ι, env, st, he, hc, ho⟩ => ho
theorem snds : ∀ (es : List E) {X : Cx} {W : WX} {c : SC}, XOk T XX F n X W c → ∀ e ∈ es, ∀ ex, ok T false e c ex = true → SE X XX W (isNew e) ex (evE F e)
  | [], _, _, _, _, e, he, _, _ => by cases he
  | e :: es, X, W, c, K, e', he, ex, h => by
    rcases List.mem_cons.mp he with z | z
    · have q := snd e (t := false) K (z ▸ h)
      rw [z]
      exact q
    · exact snds es K e' z ex h
theorem sndo : ∀ (o : Option E) {X : Cx} {W : WX} {c : SC} {ex : Option Expr}, XOk T XX F n X W c → oko T o c ex = true → SO X XX W ex (evO F o)
  | none, X, W, c, none, K, h => trivial
  | none, X, W, c, some _, K, h => by cases h
  | some e, X, W, c, none, K, h => by cases h
  | some e, X, W, c, some ex, K, h => SE.weak (snd e K h)
theorem sndc : ∀ (o : Option E) {X : Cx} {c : SC} {ifs : List Expr}, XOk T XX F n X WF c → okc T o c ifs = true → PTs X ifs (rdC X.K XX (evO F o))
  | none, X, c, [], K, h => pts_nil
  | none, X, c, _ :: _, K, h => by cases h
  | some e, X, c, [], K, h => by cases h
  | some e, X, c, [ex], K, h => pts_one (st_of' (snd e K (show ok T true e c ex = true from h)))
  | some e, X, c, _ :: _ :: _, K, h => by cases h
end
end
end Mi
end
section
set_option maxHeartbeats 4000000
namespace Mi
open PySem PySem.Spec PyProof.Rows L2
def isLc : Expr → Bool
  | .ListComp .. => true
  | _ => false
/-- whether the name is stored within the comprehension's frame -/
def swV (c : SC) (x : Str) (px : Pos) (ex : Expr) : Bool := match ex with
  | .ListComp _ _ s p => decide (c.sc.names.lookup x = some .local) && (px.line == p.line) && !(s.names.any fun (n, k) => n == x && (k == .local || k == .cell))
  | _ => false
def foldB : List Expr → Bool := fun es => es.all (foldedForSure 8)
def foldA : List Expr → Bool := fun es => es.all (constantsAlone 8)
/-- a tuple's stores are plain -/
def plainSt (c : SC) (es : List Expr) : Expr → Bool
  | .Tuple vs _ _ => foldB vs || es.any (fun e => match e with
    | .Name id _ => !decide (c.sc.names.lookup id = some .local)
    | _ => true)
  | _ => true
def parB (c : SC) (i j : Nat) (x y : Str) (px py : Pos) (a b : Expr) : Bool := tgB c i x && tgB c j y && decide (i ≠ j) && decide (x ≠ y) && decide (c.sc.names.lookup x = some .local) && decide (c.sc.names.lookup y = some .local) && (py.line == px.line) && notStar a && notStar b && !foldB [a, b] && !foldA [a, b]
def okI (T : Tb) (c : SC) : It → Expr → Expr → Bool
  | .ex a, tg, it => notSet it && ok T false a c it
  | .rng args, tg, it => match it with
    | .Call (.Name g _) exs [] _ => decide (g = "range") && gloB c g && decide (1 ≤ exs.length ∧ exs.length ≤ 3) && oks T args c exs
    | _ => false
  | .zip a b, tg, it => match tg, it with
    | .Tuple _ _ _, .Call (.Name g _) [a', b'] [] _ => decide (g = "zip") && gloB c g && notStar a' && notStar b' && ok T false a c a' && ok T false b c b'
    | _, _ => false
  | .enum a, tg, it => match tg, it with
    | .Tuple _ _ _, .Call (.Name g _) [a'] [] _ => decide (g = "enumerate") && gloB c g && notStar a' && ok T false a c a'
    | _, _ => false
mutual
def okS (T : Tb) (c : SC) (fr : Bool) : S → Stmt → Bool
  | .asg t e, st => match t, st with
    | .nm i, .Assign [.Name x px] ex p => tgB c i x && ok T false e c ex && (isLc ex || notLc ex)
    | .tp is, .Assign [.Tuple es kk tp] ex p => tgtB c (.tp is) (.Tuple es kk tp) && ok T false e c ex && notLc ex && plainSt c es ex
    | _, _ => false
  | .newl i e, st => match st with
    | .Assign [.Name x px] ex p => tgB c i x && ok T false e c ex && (isLc ex || notLc ex) && isNew e
    | _ => false
  | .par i j a b, st => match st with
    | .Assign [.Tuple [.Name x px, .Name y py] kk tp] (.Tuple [a', b'] k2 p2) p => parB c i j x y px py a' b' && ok T false a c a' && ok T false b c b'
    | _ => false
  | .par1 i j a b, st => match st with
    | .Assign [.Tuple [.Name x px, .Name y py] kk tp] (.Tuple [a', b'] k2 p2) p => parB c i j x y px py a' b' && ok T false a c a' && ok T false b c b' && isNew b
    | _ => false
  | .aug i op e, st => match st with
    | .AugAssign (.Name x px) o ex p => tgB c i x && ok T false e c ex && (match op, o with
      | .add, .Add => true
      | .sub, .Sub => true
      | _, _ => false)
    | _ => false
  | .seti i k e, st => match st with
    | .Assign [.Subscript (.Name x px) k' tp] ex p => varB c i x && plainI k' && ok T false k c k' && ok T false e c ex && notLc ex
    | _ => false
  | .app i e, st => match st with
    | .Expr (.Call (.Attribute (.Name x px) m apos) [ex] [] cpos) p => decide (m = "append") && varB c i x && notStar ex && ok T false e c ex && (apos.endLine == cpos.line)
    | _ => false
  | .ex e, st => match st with
    | .Expr ex p => ok T false e c ex && notLc ex
    | _ => false
  | .ret e, st => match st with
    | .Return (some ex) p => ok T false e c ex && (!fr || isNew e)
    | _ => false
  | .retv i, st => match st with
    | .Return (some (.Name x px)) p => varB c i x
    | _ => false
  | .iff d a b, st => match st with
    | .If d' a' b' p => ok T true d c d' && okSs T c fr a a' && okSs T c fr b b'
    | _ => false
  | .for t it b, st => match st with
    | .For tg it' b' [] p => tgtB c t tg && okI T c it tg it' && okSs T c fr b b' && notSet it'
    | _ => false
  | .whl n d b, st => match st with
    | .While d' b' [] p => ok T true d c d' && okSs T c fr b b'
    | _ => false
  | .pass, st => match st with
    | .Pass _ => true
    | _ => false
  | .brk, st => match st with
    | .Break _ => true
    | _ => false
  | .cont, st => match st with
    | .Continue _ => true
    | _ => false
  | .raise _ _, st => false
  | .nev, st => true
def okSs (T : Tb) (c : SC) (fr : Bool) : List S → List Stmt → Bool
  | [], sts => match sts with
    | [] => true
    | _ => false
  | s :: ss, sts => match sts with
    | st :: sts => okS T c fr s st && okSs T c fr ss sts
    | [] => false
end
section
variable {T : Tb} {XX : XR} {F : Calls} {n : Nat} {X : Cx} {W : WX} {c : SC} {fr : Bool}
theorem swaps_no {e : Expr} (h : notLc e = true) (t : Option Expr) (l : Nat) (env : PySem.Env) : swapsWith e t l env = pure false := by
  cases e <;> first
    | exact absurd h Bool.false_ne_true
    | rfl
theorem swaps_lc (K : XOk T XX F n X W c) {x : Str} {px : Pos} {elt : Expr} {gs : List Comprehension} {scope : Scope} {p : Pos} {l : Nat} : swapsWith (.ListComp elt gs scope p) (some (.Name x px)) l X.env = pure (swV c x px (.ListComp elt gs scope p)) := by
  have hb : X.env.blockKind = .function := by
    unfold PySem.Env.blockKind
    rw [K.kind]
    rfl
  show (pure (X.env.blockKind == .function && X.env.kindOf x == some .local && px.line == p.line && !(scope.names.any fun (n, k) => n == x && (k == .local || k == .cell))) : Sem Bool) = _
  rw [hb]
  unfold swV PySem.Env.kindOf
  rw [K.sc]
  congr 1
  have e : (c.sc.names.lookup x == some NameKind.local) = decide (c.sc.names.lookup x = some .local) := by
    cases hq : c.sc.names.lookup x == some NameKind.local with
    | true => rw [eq_of_beq hq]; rfl
    | false => rw [decide_eq_false]; intro z; rw [z] at hq; cases hq
  rw [e]
  rfl
theorem asg_rd {K : Frag} {i : Nat} {m : ME} {D : Ends} {σ : St} {H : Hp} (h : rdS K XX W fr (mAsg (.nm i) m) D σ H) : rdE K XX W false m σ H (fun x H1 => gName i x σ H1 D.nx) := by
  obtain ⟨ι, env, st, he, hc, ho⟩ := h
  exact ⟨ι, env, st, he, hc, outS.expr ho fun v st' u H' rv cr ex hf ho1 => ho1 ι _ H' ((he.mono' ex).set i rv) cr ex (Grow.refl _ _)⟩
/-- a comprehension bound to a name on one line -/
theorem lc_parts (K : XOk T XX F n X W c) {e : E} {elt : Expr} {gs : List Comprehension} {scope : Scope} {pos : Pos} (h : ok T false e c (.ListComp elt gs scope pos) = true) (hn : e ≠ .nev) (hn2 : ∀ o o1 el t it t1 it1, e ≠ .lc2 o o1 el t it t1 it1) :
    ∃ tg' it ifs own tg mi cd el, gs = [⟨tg', it, ifs, 0⟩] ∧ evE F e = mLc own tg mi (evO F cd) (evE F el) ∧ SI X XX W tg' it mi ∧ blkC c.N c.sc scope (ownP c own) = true ∧ notSet it = true ∧ tgtB (c.sub scope) tg tg' = true ∧
      (tg.slots.all fun i => decide (i ∈ own)) = true ∧ okc T cd (c.sub scope) ifs = true ∧ ok T false el (c.sub scope) elt = true := by
  cases e with
  | nev => exact absurd rfl hn
  | lc2 o o1 el t it t1 it1 => exact absurd rfl (hn2 o o1 el t it t1 it1)
  | lcE own e tg it cd =>
    unfold ok at h
    split at h
    · rename_i hq
      injection hq with q1 q2 q3 q4
      subst q1 q2 q3 q4
      obtain ⟨h1, h2⟩ := and2 h
      obtain ⟨h1, h3⟩ := and2 h1
      obtain ⟨h1, h4⟩ := and2 h1
      obtain ⟨h1, h5⟩ := and2 h1
      obtain ⟨h1, h6⟩ := and2 h1
      obtain ⟨h1, h7⟩ := and2 h1
      exact ⟨_, _, _, own, tg, _, cd, e, rfl, rfl, si_ex (SE.weak (snd it K h6)), h1, h7, h5, h4, h3, h2⟩
    · cases h
  | lcR own e tg args cd =>
    unfold ok at h
    split at h
    · rename_i hq
      injection hq with q1 q2 q3 q4
      subst q1 q2 q3 q4
      obtain ⟨h1, h2⟩ := and2 h
      obtain ⟨h1, h3⟩ := and2 h1
      obtain ⟨h1, h4⟩ := and2 h1
      obtain ⟨h1, h5⟩ := and2 h1
      obtain ⟨h1, h6⟩ := and2 h1
      obtain ⟨h1, h7⟩ := and2 h1
      obtain ⟨h1, h8⟩ := and2 h1
      obtain ⟨hb, h9⟩ := and2 h1
      have e := of_decide_eq_true h9
      subst e
      exact ⟨_, _, _, own, tg, _, cd, _, rfl, rfl, rng_of K h8 (of_decide_eq_true h6) h7 (sa_of K h7 fun e he ex hx => snds args K e he ex hx), hb, rfl, h5, h4, h3, h2⟩
    · cases h
  | lcZ own e tg a b cd =>
    unfold ok at h
    split at h
    · rename_i hq
      injection hq with q1 q2 q3 q4
      subst q1 q2 q3 q4
      obtain ⟨h1, h2⟩ := and2 h
      obtain ⟨h1, h3⟩ := and2 h1
      obtain ⟨h1, h4⟩ := and2 h1
      obtain ⟨h1, h5⟩ := and2 h1
      obtain ⟨h1, h6⟩ := and2 h1
      obtain ⟨h1, h7⟩ := and2 h1
      obtain ⟨h1, h8⟩ := and2 h1
      obtain ⟨h1, h9⟩ := and2 h1
      obtain ⟨h1, h10⟩ := and2 h1
      obtain ⟨hb, h11⟩ := and2 h1
      have e := of_decide_eq_true h11
      subst e
      obtain ⟨g1, g2, g3⟩ := glo_of K h10
      have s2 := star_of (es := []) (env := X.env) h8
      exact ⟨_, _, _, own, tg, _, cd, _, rfl, rfl, si_zip g1 (bn_of K (by decide)) (SE.weak (snd a K h7)) (SE.weak (snd b K h6)) (star_of h9) s2 (by rw [s2]; rfl), hb, rfl, h5, h4, h3, h2⟩
    · cases h
  | lcN own e tg a cd =>
    unfold ok at h
    split at h
    · rename_i hq
      injection hq with q1 q2 q3 q4
      subst q1 q2 q3 q4
      obtain ⟨h1, h2⟩ := and2 h
      obtain ⟨h1, h3⟩ := and2 h1
      obtain ⟨h1, h4⟩ := and2 h1
      obtain ⟨h1, h5⟩ := and2 h1
      obtain ⟨h1, h6⟩ := and2 h1
      obtain ⟨h1, h7⟩ := and2 h1
      obtain ⟨h1, h8⟩ := and2 h1
      obtain ⟨hb, h9⟩ := and2 h1
      have e := of_decide_eq_true h9
      subst e
      obtain ⟨g1, g2, g3⟩ := glo_of K h8
      exact ⟨_, _, _, own, tg, _, cd, _, rfl, rfl, si_enum g1 (bn_of K (by decide)) (SE.weak (snd a K h6)) (star_of h7), hb, rfl, h5, h4, h3, h2⟩
    · cases h
  | bi f a =>
    unfold ok at h
    split at h
    · split at h
      · rename_i hq; cases hq
      · cases h
    · cases h
  | _ =>
    unfold ok at h
    repeat (first | cases h; done | split at h)
theorem lc_set (K : XOk T XX F n X W c) {e : E} {elt : Expr} {gs : List Comprehension} {scope : Scope} {pos : Pos} (h : ok T false e c (.ListComp elt gs scope pos) = true) (hn : e ≠ .nev) {i : Nat} {x : Str} {px p : Pos} (hi : X.N[i]? = some x) (hsw : swV c x px (.ListComp elt gs scope pos) = true) :
    ∃ t : TE, PS X (.Assign [.Name x px] (.ListComp elt gs scope pos) p) (tAsg t (gName i)) ∧ ∀ (fr : Bool) σ H Q, (fr = true → isNew e = true) → rdE X.K XX W fr (evE F e) σ H Q → t σ H Q := by
  have hl : X.env.scope.names.lookup x = some .local := by
    unfold swV at hsw
    rw [K.sc]
    exact of_decide_eq_true (and2 (and2 hsw).1).1
  have hs1 := swaps_lc K (x := x) (px := px) (elt := elt) (gs := gs) (scope := scope) (p := pos) (l := p.line)
  have hsw' : swV c x px (.ListComp elt gs scope pos) = true := hsw
  rw [show swV c x px (.ListComp elt gs scope pos) = true from hsw] at hs1
  by_cases h2 : ∃ o o1 el t it t1 it1, e = .lc2 o o1 el t it t1 it1
  · obtain ⟨own, own1, el, tg, it, tg1, it1, rfl⟩ := h2
    unfold ok at h
    split at h
    · rename_i e' tg' it' tg1' it1' scope' pos' hq
      injection hq with q1 q2 q3 q4
      subst q1 q2 q3 q4
      obtain ⟨h1, h2⟩ := and2 h
      obtain ⟨h1, h3⟩ := and2 h1
      obtain ⟨h1, h4⟩ := and2 h1
      obtain ⟨h1, h5⟩ := and2 h1
      obtain ⟨h1, h6⟩ := and2 h1
      obtain ⟨h1, h7⟩ := and2 h1
      obtain ⟨h1, h8⟩ := and2 h1
      obtain ⟨h1, h9⟩ := and2 h1
      obtain ⟨h1, h10⟩ := and2 h1
      obtain ⟨hb, h11⟩ := and2 h1
      have B := blk_of K hb
      refine ⟨_, ps_setLc2 (own := ownP c own) (vs1 := own1) (g := gT X.K tg) (g1 := gT X.K tg1) (tt := tYes) (tt1 := tYes) (wi1 := rdI X.K XX WF (mItE (evE F it1))) (te := rdE X.K XX WF false (evE F el)) K.calm K.nd hi hl hs1 (si_ex (SE.weak (snd it K h9))) B (by rw [own_snd]; exact fun i hi => of_decide_eq_true (List.all_eq_true.mp h3 i hi))
        (fun s H C cl fp => pg_of (xok_blk K B s H C cl fp) h8) (fun _ _ _ _ _ => pts_nil) (fun s H C cl fp => si_ex (SE.weak (snd it1 (xok_blk K B s H C cl fp) h6))) (fun s H C cl fp => pg_of (xok_blk K B s H C cl fp) h5) (fun _ _ _ _ _ => pts_nil)
        (fun s H C cl fp => SE.weak (snd el (xok_blk K B s H C cl fp) h2)) (noset h11 _) (fun env => noset h10 env), fun fr σ H Q hfr q => ?_⟩
      cases fr with
      | true => exact absurd (hfr rfl) (by simp [isNew])
      | false =>
        rw [own_snd]
        exact rd_lc2 (fun i hi => of_decide_eq_true (List.all_eq_true.mp h7 i hi)) (fun i hi => of_decide_eq_true (List.all_eq_true.mp h4 i hi)) q
    · cases h
  · obtain ⟨tg', it, ifs, own, tg, mi, cd, el, rfl, he, hsi, hb, hset, ht, hsl, hcd, hel⟩ := lc_parts K h hn fun o o1 el t it t1 it1 z => h2 ⟨o, o1, el, t, it, t1, it1, z⟩
    have B := blk_of K hb
    refine ⟨_, ps_setLc (own := ownP c own) (g := gT X.K tg) (tt := rdC X.K XX (evO F cd)) (te := rdE X.K XX WF false (evE F el)) K.calm K.nd hi hl hs1 hsi B (fun s H C cl fp => pg_of (xok_blk K B s H C cl fp) ht) (fun s H C cl fp => sndc cd (xok_blk K B s H C cl fp) hcd) (fun s H C cl fp => SE.weak (snd el (xok_blk K B s H C cl fp) hel)) (noset hset _), fun fr σ H Q _ q => ?_⟩
    rw [he] at q
    rw [own_snd]
    exact rd_lc (fun i hi => of_decide_eq_true (List.all_eq_true.mp hsl i hi)) q
theorem si_of (K : XOk T XX F n X W c) {it : It} {tg e : Expr} (h : okI T c it tg e = true) : SI X XX W tg e (evI F it) := by
  cases it with
  | ex a =>
    obtain ⟨h1, h2⟩ := and2 h
    exact si_ex (SE.weak (snd a K h2))
  | rng args =>
    dsimp only [okI] at h
    split at h
    · obtain ⟨h1, h2⟩ := and2 h
      obtain ⟨h1, h3⟩ := and2 h1
      obtain ⟨h1, h4⟩ := and2 h1
      have e := of_decide_eq_true h1
      subst e
      exact rng_of K h4 (of_decide_eq_true h3) h2 (sa_of K h2 fun e he ex hx => snds args K e he ex hx)
    · cases h
  | zip a b =>
    dsimp only [okI] at h
    split at h
    · obtain ⟨h1, h2⟩ := and2 h
      obtain ⟨h1, h3⟩ := and2 h1
      obtain ⟨h1, h4⟩ := and2 h1
      obtain ⟨h1, h5⟩ := and2 h1
      obtain ⟨h1, h6⟩ := and2 h1
      have e := of_decide_eq_true h1
      subst e
      obtain ⟨g1, g2, g3⟩ := glo_of K h6
      have s2 := star_of (es := []) (env := X.env) h4
      exact si_zip g1 (bn_of K (by decide)) (SE.weak (snd a K h3)) (SE.weak (snd b K h2)) (star_of h5) s2 (by rw [s2]; rfl)
    · cases h
  | enum a =>
    dsimp only [okI] at h
    split at h
    · obtain ⟨h1, h2⟩ := and2 h
      obtain ⟨h1, h3⟩ := and2 h1
      obtain ⟨h1, h4⟩ := and2 h1
      have e := of_decide_eq_true h1
      subst e
      obtain ⟨g1, g2, g3⟩ := glo_of K h4
      exact si_enum g1 (bn_of K (by decide)) (SE.weak (snd a K h2)) (star_of h3)
    · cases h
theorem filterMap_short {α β : Type} {f : α → Option β} : ∀ {l : List α} {x : α}, x ∈ l → f x = none → (l.filterMap f).length < l.length
  | y :: ys, x, h, e => by
    rcases List.mem_cons.mp h with z | z
    · subst z
      rw [List.filterMap_cons, e]
      exact Nat.lt_succ_of_le (List.length_filterMap_le f ys)
    · have q := filterMap_short z e
      rw [List.filterMap_cons]
      split
      · exact Nat.lt_succ_of_lt q
      · exact Nat.succ_lt_succ q
theorem stores_none (K : XOk T XX F n X W c) {es : List Expr} {kk : Nat} {tp : Pos} {e : Expr} (h : plainSt c es e = true) : swappedStores [.Tuple es kk tp] e X.env = pure none := by
  cases e <;> first
    | rfl
    | skip
  rename_i vs k2 p2
  have h' : (vs.all (foldedForSure 8) || es.any (fun e => match e with
    | .Name id _ => !decide (c.sc.names.lookup id = some .local)
    | _ => true)) = true := h
  unfold swappedStores
  dsimp only
  split
  · rfl
  · split
    · rfl
    · split
      · rfl
      · rename_i hl
        split
        · rfl
        · rename_i hf
          rcases Bool.or_eq_true_iff.mp h' with z | z
          · exact absurd z hf
          · obtain ⟨x, hx, q⟩ := List.any_eq_true.mp z
            exfalso
            apply hl
            rw [Bool.or_eq_true]
            left
            have q2 := filterMap_short (f := fun e => match e with
              | .Name id pos => if X.env.kindOf id == some .local && pos.line == (es.head?.map (·.pos.line)).getD 0 then some id else none
              | _ => none) hx (by
                cases x <;> first
                  | rfl
                  | skip
                rename_i id pos
                dsimp only
                rw [if_neg]
                intro w
                obtain ⟨w1, _⟩ := and2 w
                have w2 : X.env.scope.names.lookup id = some .local := eq_of_beq w1
                rw [K.sc] at w2
                dsimp only at q
                rw [w2] at q
                simp at q)
            rw [bne_iff_ne]
            exact Nat.ne_of_lt q2
theorem stores_par (K : XOk T XX F n X W c) {i j : Nat} {x y : Str} {px py tp p2 : Pos} {a b : Expr} {kk k2 : Nat} (h : parB c i j x y px py a b = true) : swappedStores [.Tuple [.Name x px, .Name y py] kk tp] (.Tuple [a, b] k2 p2) X.env = pure (some [x, y]) := by
  unfold parB at h
  obtain ⟨h1, h2⟩ := and2 h
  obtain ⟨h1, h3⟩ := and2 h1
  obtain ⟨h1, h4⟩ := and2 h1
  obtain ⟨h1, h5⟩ := and2 h1
  obtain ⟨h1, h6⟩ := and2 h1
  obtain ⟨h1, h7⟩ := and2 h1
  obtain ⟨h1, h8⟩ := and2 h1
  obtain ⟨h1, h9⟩ := and2 h1
  have hb : X.env.blockKind = .function := by
    unfold PySem.Env.blockKind
    rw [K.kind]
    rfl
  have kx : (X.env.kindOf x == some NameKind.local) = true := by
    unfold PySem.Env.kindOf
    rw [K.sc, of_decide_eq_true h8]
    rfl
  have ky : (X.env.kindOf y == some NameKind.local) = true := by
    unfold PySem.Env.kindOf
    rw [K.sc, of_decide_eq_true h7]
    rfl
  have hxy : (x == y) = false := beq_eq_false_iff_ne.mpr (of_decide_eq_true h9)
  have hyx : (y == x) = false := beq_eq_false_iff_ne.mpr fun z => of_decide_eq_true h9 z.symm
  have h3' : ([a, b].all (foldedForSure 8)) = false := (Bool.not_eq_true' _).mp h3
  have h2' : ([a, b].all (constantsAlone 8)) = false := (Bool.not_eq_true' _).mp h2
  have he : ([x, y] : List Str).eraseDups = [x, y] := by
    simp [List.eraseDups, List.eraseDupsBy, List.eraseDupsBy.loop, hxy, hyx]
  have h6' : (py.line == px.line) = true := h6
  have p1 : (Expr.Name x px).pos.line = px.line := rfl
  unfold swappedStores
  dsimp only
  rw [if_neg (by rw [hb]; simp)]
  rw [if_neg (by
    intro hc
    simp only [List.any_cons, List.any_nil, Bool.or_false, Bool.or_eq_true] at hc
    rcases hc with hc | hc
    · cases a <;> first
        | exact absurd h5 Bool.false_ne_true
        | exact absurd hc Bool.false_ne_true
    · cases b <;> first
        | exact absurd h4 Bool.false_ne_true
        | exact absurd hc Bool.false_ne_true)]
  simp only [List.filterMap_cons, List.filterMap_nil, List.head?_cons, Option.map_some, Option.getD_some, p1, kx, ky, h6', beq_self_eq_true, Bool.and_self, if_true]
  rw [he, h3', h2']
  rfl
end
end Mi
end
section
set_option maxHeartbeats 4000000
namespace Mi
open PySem PySem.Spec PyProof.Rows L2
section
variable {T : Tb} {XX : XR} {F : Calls} {n : Nat} {X : Cx} {W : WX} {c : SC} {fr : Bool}
theorem nev_asg {i : Nat} {st : Stmt} : SS X XX W fr st (mAsg (.nm i) (fun _ _ => .bad)) := PS.imp ps_never fun D σ H ⟨ι, env, st, he, hc, ho⟩ => ho
theorem asg_ok (K : XOk T XX F n X W c) {i : Nat} {e : E} {x : Str} {px p : Pos} {ex : Expr} (h1 : tgB c i x = true) (h2 : ok T false e c ex = true) (h3 : (isLc ex || notLc ex) = true) : SS X XX W fr (.Assign [.Name x px] ex p) (mAsg (.nm i) (evE F e)) := by
  obtain ⟨t1, t2, t3⟩ := tg_of K h1
  by_cases hl : notLc ex = true
  · exact ss_set K.nd t1 t2 (SE.weak (snd e K h2)) (swaps_no hl _ _ _) t3
  · cases ex <;> first
      | exact absurd rfl hl
      | exact absurd h3 Bool.false_ne_true
      | skip
    rename_i elt gs scope pos
    by_cases hn : e = .nev
    · subst hn
      exact nev_asg
    · cases hsw : swV c x px (.ListComp elt gs scope pos) with
      | true =>
        obtain ⟨t, ht, hq⟩ := lc_set K (p := p) h2 hn t1 hsw
        exact PS.imp ht fun D σ H q => hq false σ H _ (fun z => by cases z) (asg_rd q)
      | false => exact ss_set K.nd t1 t2 (SE.weak (snd e K h2)) (by rw [swaps_lc K, hsw]) t3
theorem newl_ok (K : XOk T XX F n X W c) {i : Nat} {e : E} {x : Str} {px p : Pos} {ex : Expr} (h1 : tgB c i x = true) (h2 : ok T false e c ex = true) (h3 : (isLc ex || notLc ex) = true) (h4 : isNew e = true) : SS X XX W fr (.Assign [.Name x px] ex p) (mNewl i (evE F e)) := by
  obtain ⟨t1, t2, t3⟩ := tg_of K h1
  have q0 : SE X XX W true ex (evE F e) := by
    have q : SE X XX W (isNew e) ex (evE F e) := snd e K h2
    rw [h4] at q
    exact q
  by_cases hl : notLc ex = true
  · exact ss_newl K.nd t1 t2 q0 (swaps_no hl _ _ _) t3
  · cases ex <;> first
      | exact absurd rfl hl
      | exact absurd h3 Bool.false_ne_true
      | skip
    rename_i elt gs scope pos
    by_cases hn : e = .nev
    · subst hn
      cases h4
    · cases hsw : swV c x px (.ListComp elt gs scope pos) with
      | true =>
        obtain ⟨t, ht, hq⟩ := lc_set K (p := p) h2 hn t1 hsw
        exact PS.imp ht fun D σ H q => hq true σ H _ (fun _ => h4) (newl_rd q)
      | false => exact ss_newl K.nd t1 t2 q0 (by rw [swaps_lc K, hsw]) t3
theorem var_ok (K : XOk T XX F n X W c) {i : Nat} {x : Str} {p : Pos} (h : varB c i x = true) : PE X (.Name x p) (tVar i) := by
  obtain ⟨h1, h2⟩ := and2 h
  obtain ⟨h1, h3⟩ := and2 h1
  obtain ⟨d1, d2, _⟩ := dbg_no h2
  exact pe_var (by rw [K.N]; exact of_decide_eq_true h1) (vis_of K h3) d1 d2
theorem store_sub {x : Str} {px tp : Pos} {k e : Expr} (env : PySem.Env) : swappedStores [.Subscript (.Name x px) k tp] e env = pure none := by cases e <;> rfl
theorem sole_no {e : Expr} (h : notLc e = true) (t : Expr) (l : Nat) (env : PySem.Env) : swapsWithSole [t] e l env = pure false := by
  unfold swapsWithSole
  exact swaps_no h _ _ _
theorem few_of {e : Expr} {cpos : Pos} {env : PySem.Env} (h : notStar e = true) : ((backTo cpos (starEach (e :: []) env)).all (fun x => !x.1) && (backToKw cpos (keywordEach [] env)).all (fun x => x.1.isSome)
      && decide ((e :: []).length + ([] : List Keyword).length + (if ([] : List Keyword).isEmpty then 0 else 1) < 30)) = true := by
  rw [star_of h]
  rfl
mutual
theorem sndS (K : XOk T XX F n X W c) : ∀ (s : S) {st : Stmt}, okS T c fr s st = true → SS X XX W fr st (evS F s)
  | .asg (.nm i) e, st, h => by
    dsimp only [okS] at h
    split at h
    · rename_i e1
      obtain ⟨h1, h2⟩ := and2 h
      obtain ⟨h1, h3⟩ := and2 h1
      cases e1
      exact asg_ok K h1 h3 h2
    · rename_i e1
      cases e1
    · cases h
  | .asg (.tp is) e, st, h => by
    dsimp only [okS] at h
    split at h
    · rename_i e1
      cases e1
    · rename_i e1
      obtain ⟨h1, h2⟩ := and2 h
      obtain ⟨h1, h3⟩ := and2 h1
      obtain ⟨h1, h4⟩ := and2 h1
      cases e1
      exact ss_tup (SE.weak (snd e K h4)) (pg_of K h1) (sole_no h3 _ _ _) (stores_none K h2)
    · cases h
  | .newl i e, st, h => by
    dsimp only [okS] at h
    split at h
    · obtain ⟨h1, h2⟩ := and2 h
      obtain ⟨h1, h3⟩ := and2 h1
      obtain ⟨h1, h4⟩ := and2 h1
      exact newl_ok K h1 h4 h3 h2
    · cases h
  | .par i j a b, st, h => by
    dsimp only [okS] at h
    split at h
    · obtain ⟨h1, h2⟩ := and2 h
      obtain ⟨h1, h3⟩ := and2 h1
      have hq := h1
      unfold parB at h1
      obtain ⟨h1, _⟩ := and2 h1
      obtain ⟨h1, _⟩ := and2 h1
      obtain ⟨h1, k1⟩ := and2 h1
      obtain ⟨h1, k2⟩ := and2 h1
      obtain ⟨h1, _⟩ := and2 h1
      obtain ⟨h1, k3⟩ := and2 h1
      obtain ⟨h1, k4⟩ := and2 h1
      obtain ⟨h1, _⟩ := and2 h1
      obtain ⟨h1, k5⟩ := and2 h1
      obtain ⟨h1, k6⟩ := and2 h1
      obtain ⟨t1, _, _⟩ := tg_of K h1
      obtain ⟨t2, _, _⟩ := tg_of K k6
      exact ss_par K.calm K.nd t1 t2 (of_decide_eq_true k5) (by rw [K.sc]; exact of_decide_eq_true k4) (by rw [K.sc]; exact of_decide_eq_true k3) (SE.weak (snd a K h3)) (SE.weak (snd b K h2)) (star_of k2) (star_of k1) (stores_par K hq)
    · cases h
  | .par1 i j a b, st, h => by
    dsimp only [okS] at h
    split at h
    · obtain ⟨h1, h0⟩ := and2 h
      obtain ⟨h1, h2⟩ := and2 h1
      obtain ⟨h1, h3⟩ := and2 h1
      have qb : SE X XX W (isNew b) _ (evE F b) := snd b K h2
      rw [h0] at qb
      have hq := h1
      unfold parB at h1
      obtain ⟨h1, _⟩ := and2 h1
      obtain ⟨h1, _⟩ := and2 h1
      obtain ⟨h1, k1⟩ := and2 h1
      obtain ⟨h1, k2⟩ := and2 h1
      obtain ⟨h1, _⟩ := and2 h1
      obtain ⟨h1, k3⟩ := and2 h1
      obtain ⟨h1, k4⟩ := and2 h1
      obtain ⟨h1, _⟩ := and2 h1
      obtain ⟨h1, k5⟩ := and2 h1
      obtain ⟨h1, k6⟩ := and2 h1
      obtain ⟨t1, _, _⟩ := tg_of K h1
      obtain ⟨t2, _, _⟩ := tg_of K k6
      exact ss_par1 K.calm K.nd t1 t2 (of_decide_eq_true k5) (by rw [K.sc]; exact of_decide_eq_true k4) (by rw [K.sc]; exact of_decide_eq_true k3) (SE.weak (snd a K h3)) qb (star_of k2) (star_of k1) (stores_par K hq)
    · cases h
  | .aug i op e, st, h => by
    dsimp only [okS] at h
    split at h
    · obtain ⟨h1, h2⟩ := and2 h
      obtain ⟨h1, h3⟩ := and2 h1
      obtain ⟨t1, t2, t3⟩ := tg_of K h1
      split at h2
      · exact ss_aug K.nd t1 t2 (SE.weak (snd e K h3)) ip_add t3 (.inl ⟨rfl, rfl⟩)
      · exact ss_aug K.nd t1 t2 (SE.weak (snd e K h3)) ip_sub t3 (.inr ⟨rfl, rfl⟩)
      · cases h2
    · cases h
  | .seti i k e, st, h => by
    dsimp only [okS] at h
    split at h
    · rename_i x px k' tp ex p
      obtain ⟨h1, h2⟩ := and2 h
      obtain ⟨h1, h3⟩ := and2 h1
      obtain ⟨h1, h4⟩ := and2 h1
      obtain ⟨h1, h5⟩ := and2 h1
      have hk : SE X XX W false k' (evE F k) := SE.weak (snd k K h4)
      refine ss_seti (var_ok K h1) hk (SE.weak (snd e K h3)) (pg_sub (var_ok K h1) hk set_list ?_) (sole_no h2 _ _ _) (store_sub _)
      cases k' <;> first
        | exact absurd h5 Bool.false_ne_true
        | exact fun _ => rfl
    · cases h
  | .app i e, st, h => by
    dsimp only [okS] at h
    split at h
    · obtain ⟨h1, h2⟩ := and2 h
      obtain ⟨h1, h3⟩ := and2 h1
      obtain ⟨h1, h4⟩ := and2 h1
      obtain ⟨h1, h5⟩ := and2 h1
      have em := of_decide_eq_true h1
      subst em
      exact ss_app (fun t ht => pe_bm PySem.F.plainAttrs_list PySem.F.slot_list_append PySem.F.type_list_append mt_append (var_ok K h5) ht rfl (few_of h4) h2 (star_of h4) rfl) (SE.weak (snd e K h3)) (star_of h4)
    · cases h
  | .ex e, st, h => by
    dsimp only [okS] at h
    split at h
    · obtain ⟨h1, h2⟩ := and2 h
      exact ss_ex (SE.weak (snd e K h1)) (swaps_no h2 _ _ _)
    · cases h
  | .ret e, st, h => by
    dsimp only [okS] at h
    split at h
    · obtain ⟨h1, h2⟩ := and2 h
      refine ss_ret (SE.less (snd e K h1) fun z => ?_)
      rw [z] at h2
      exact h2
    · cases h
  | .retv i, st, h => by
    dsimp only [okS] at h
    split at h
    · exact ss_retv (se_var (var_ok K h))
    · cases h
  | .iff d a b, st, h => by
    dsimp only [okS] at h
    split at h
    · obtain ⟨h1, h2⟩ := and2 h
      obtain ⟨h1, h3⟩ := and2 h1
      exact ss_if (st_of' (snd d K h1)) (sndSs K a h3) (sndSs K b h2)
    · cases h
  | .for t it b, st, h => by
    dsimp only [okS] at h
    split at h
    · obtain ⟨h1, h2⟩ := and2 h
      obtain ⟨h1, h3⟩ := and2 h1
      obtain ⟨h1, h4⟩ := and2 h1
      exact ss_for K.pow K.calm (si_of K h4) (pg_of K h1) (sndSs K b h3) (noset h2 _)
    · cases h
  | .whl m d b, st, h => by
    dsimp only [okS] at h
    split at h
    · obtain ⟨h1, h2⟩ := and2 h
      exact ss_whl K.pow (st_of' (snd d K h1)) (sndSs K b h2)
    · cases h
  | .pass, st, h => by
    dsimp only [okS] at h
    split at h
    · exact ss_pass
    · cases h
  | .brk, st, h => by
    dsimp only [okS] at h
    split at h
    · exact ss_brk
    · cases h
  | .cont, st, h => by
    dsimp only [okS] at h
    split at h
    · exact ss_cont
    · cases h
  | .raise _ _, st, h => by cases h
  | .nev, st, h => ss_nev
theorem sndSs (K : XOk T XX F n X W c) : ∀ (ss : List S) {sts : List Stmt}, okSs T c fr ss sts = true → SSs X XX W fr sts (evSs F ss)
  | [], [], h => sss_nil
  | [], _ :: _, h => by cases h
  | s :: ss, [], h => by cases h
  | s :: ss, st :: sts, h => by
    obtain ⟨h1, h2⟩ := and2 (show (okS T c fr s st && okSs T c fr ss sts) = true from h)
    exact sss_cons (sndS K s h1) (sndSs K ss h2)
end
end
end Mi
end
section
set_option maxHeartbeats 4000000
namespace Mi
open PySem PySem.Spec PyProof.Rows L2
/-- the def's frame is left: the cells of the caller -/
theorem cell_leave {K : Frag} {H H' : Hp} {ι ι' : Lv} {st st1 : Store} (c : CellR K H ι st) (c1 : CellR K H' ι' st1) (x : Ext ι H H') (g : Grow ι H ι') : CellR K H' ι (st1.take st.length) := by
  obtain ⟨more, e⟩ := g.pre
  have hl : st1.length = ι.i.length + more.length := by rw [c1.len, e, List.length_append]
  have sub : ∀ a, a ∈ ι.all → a ∈ ι'.all := g.old
  refine ⟨?_, c.nd, fun a ha => x.dom a (c.xs a ha), c.ix, fun n xs a e1 e2 => ?_⟩
  · rw [List.length_take, hl, c.len]
    omega
  · have hn : n < ι.i.length := (List.getElem?_eq_some_iff.mp e2).1
    rw [List.getElem?_take_of_lt (by rw [c.len]; exact hn)] at e1
    have e3 : ι'.i[n]? = some a := by rw [e, List.getElem?_append_left hn]; exact e2
    obtain ⟨us, e4, d⟩ := c1.at_ n xs a e1 e3
    exact ⟨us, e4, d.less sub⟩
/-- what is handed back -/
theorem rv_leave {K : Frag} {H H' : Hp} {ι ι' : Lv} {st st1 : Store} {v w : Val} {u : V} (c : CellR K H ι st) (c1 : CellR K H' ι' st1) (g : Grow ι H ι') (r : RV K H' ι' v u) (h : away st1 st.length v = some w) : RV K H' ι w u := by
  obtain ⟨more, e⟩ := g.pre
  cases v with
  | d x => cases h; exact Dq.less g.old r
  | clo k cs => exact r.elim
  | ref n =>
    obtain ⟨a, ea, rfl⟩ := r
    unfold away at h
    dsimp only at h
    split at h
    · rename_i hn
      cases h
      rw [c.len] at hn
      rw [e, List.getElem?_append_left hn] at ea
      exact ⟨a, ea, rfl⟩
    · rename_i hn
      cases hc : st1[n]? with
      | none => rw [hc] at h; cases h
      | some cell =>
        rw [hc] at h
        cases cell with
        | lst xs =>
          cases h
          obtain ⟨us, e4, d⟩ := c1.at_ n xs a hc ea
          refine Dq.lst (.inl ⟨.inl e4, fun hz => ?_⟩) (d.less g.old)
          have ha' : a ∈ ι'.i := List.mem_of_getElem? ea
          have hi : a ∉ ι.i := fun q => by
            obtain ⟨k, hk, ek⟩ := List.mem_iff_getElem.mp q
            have ek' : ι'.i[k]? = some a := by rw [e, List.getElem?_append_left hk, List.getElem?_eq_getElem hk, ek]
            obtain ⟨h1, q1⟩ := List.getElem?_eq_some_iff.mp ea
            obtain ⟨h2, q2⟩ := List.getElem?_eq_some_iff.mp ek'
            have : n = k := (List.getElem_inj c1.nd).mp (q1.trans q2.symm)
            rw [c.len] at hn
            omega
          have hnew : H a = none := (g.newi a ha').resolve_left hi
          exact c.dom a hz hnew
theorem fresh_leave {K : Frag} {H H' : Hp} {ι ι' : Lv} {st st1 : Store} {v w : Val} {u : V} {fr : Bool} (c : CellR K H ι st) (c1 : CellR K H' ι' st1) (x : Ext ι H H') (g : Grow ι H ι') (r : RV K H' ι' v u) (f : FreshP K ι' st1 fr v u H H') (h : away st1 st.length v = some w) : FreshP K ι (st1.take st.length) fr w u H H' := fun z a xs e1 e2 => by
  subst e2
  obtain ⟨more, e⟩ := g.pre
  have c0 := cell_leave c c1 x g
  have fin : H a = none → ∀ us, H' a = some (.lst us) → DqAll K H' ⟨ι.i, a :: ι.x⟩ us xs → (∀ (n : Nat) (ys : List D) (b : Addr), st1[n]? = some (Cell.lst ys) → ι'.i[n]? = some b → b ∈ ι.i → ∃ ws, H' b = some (.lst ws) ∧ DqAll K H' ⟨ι.i, a :: ι.x⟩ ws ys) →
      H a = none ∧ ∃ us, H' a = some (.lst us) ∧ CellR K H' ⟨ι.i, a :: ι.x⟩ (st1.take st.length) ∧ DqAll K H' ⟨ι.i, a :: ι.x⟩ us xs := fun hn us hu d ce => by
    have hai : a ∉ ι.i := fun q => c.dom a (List.mem_append_left _ q) hn
    refine ⟨hn, us, hu, ⟨c0.len, c.nd, fun b hb => ?_, fun b hb => ?_, fun n ys b e3 e4 => ?_⟩, d⟩
    · rcases List.mem_cons.mp hb with q | q
      · rw [q, hu]; simp
      · exact c0.xs b q
    · rcases List.mem_cons.mp hb with q | q
      · rw [q]; exact hai
      · exact c0.ix b q
    · have hn : n < ι.i.length := (List.getElem?_eq_some_iff.mp e4).1
      rw [List.getElem?_take_of_lt (by rw [c.len]; exact hn)] at e3
      refine ce n ys b e3 ?_ (List.mem_of_getElem? e4)
      rw [e, List.getElem?_append_left hn]
      exact e4
  cases v with
  | d y =>
    cases h
    obtain ⟨hn, us, hu, c2, d⟩ := f z a xs e1 rfl
    have sub : ∀ b, b ∈ (Lv.mk ι.i (a :: ι.x)).all → b ∈ (Lv.mk ι'.i (a :: ι'.x)).all := fun b hb => by
      have hb' : b ∈ ι.i ∨ b = a ∨ b ∈ ι.x := by simpa [Lv.all] using hb
      have ho : ∀ b, b ∈ ι.all → b ∈ (Lv.mk ι'.i (a :: ι'.x)).all := fun b q => by
        have q' := g.old b q
        rcases List.mem_append.mp q' with q' | q'
        · exact List.mem_append_left _ q'
        · exact List.mem_append_right _ (List.mem_cons_of_mem _ q')
      rcases hb' with q | q | q
      · exact ho b (List.mem_append_left _ q)
      · rw [q]; exact List.mem_append_right _ List.mem_cons_self
      · exact ho b (List.mem_append_right _ q)
    refine fin hn us hu (d.less sub) fun n ys b e3 e4 _ => ?_
    obtain ⟨ws, e5, d5⟩ := c2.at_ n ys b e3 e4
    exact ⟨ws, e5, d5.less sub⟩
  | clo k cs => exact r.elim
  | ref n =>
    obtain ⟨a', ea, e3⟩ := r
    cases e3
    unfold away at h
    dsimp only at h
    split at h
    · cases h; cases e1
    · rename_i hn
      cases hc : st1[n]? with
      | none => rw [hc] at h; cases h
      | some cell =>
        rw [hc] at h
        cases cell with
        | lst xs' =>
          cases h
          cases e1
          obtain ⟨us, e4, d⟩ := c1.at_ n xs a hc ea
          have ha' : a ∈ ι'.i := List.mem_of_getElem? ea
          have hi : a ∉ ι.i := fun q => by
            obtain ⟨k, hk, ek⟩ := List.mem_iff_getElem.mp q
            have ek' : ι'.i[k]? = some a := by rw [e, List.getElem?_append_left hk, List.getElem?_eq_getElem hk, ek]
            obtain ⟨h1, q1⟩ := List.getElem?_eq_some_iff.mp ea
            obtain ⟨h2, q2⟩ := List.getElem?_eq_some_iff.mp ek'
            have : n = k := (List.getElem_inj c1.nd).mp (q1.trans q2.symm)
            rw [c.len] at hn
            omega
          have hnew : H a = none := (g.newi a ha').resolve_left hi
          have sub : ∀ b, b ∈ (Lv.mk ι.i (a :: ι.x)).all → b ∈ ι'.all := fun b hb => by
            have hb' : b ∈ ι.i ∨ b = a ∨ b ∈ ι.x := by simpa [Lv.all] using hb
            rcases hb' with q | q | q
            · exact g.old b (List.mem_append_left _ q)
            · rw [q]; exact List.mem_append_left _ ha'
            · exact g.old b (List.mem_append_right _ q)
          refine fin hnew us e4 (d.less sub) fun n ys b e5 e6 _ => ?_
          obtain ⟨ws, e7, d7⟩ := c1.at_ n ys b e5 e6
          exact ⟨ws, e7, d7.less sub⟩
theorem start_r {K : Frag} {H : Hp} {ι : Lv} {d : Fn} {N : List Str} {vs : List Val} {us : List V} (hN : d.slots = N.length) (hl : us.length ≤ N.length) (r : RVs K H ι vs us) : EnvR K H ι (Mi.start d vs) (L2.start N us) := by
  have hlen := r.length
  refine ⟨?_, fun i v e => ?_⟩
  · unfold Mi.start L2.start
    rw [List.length_append, List.length_append, List.length_map, List.length_map, List.length_replicate, List.length_replicate, hN, hlen]
  · unfold Mi.start at e
    have hi : i < vs.length := by
      by_cases h : i < vs.length
      · exact h
      · rw [List.getElem?_append_right (by simpa using h), List.getElem?_replicate] at e
        split at e <;> cases e
    rw [List.getElem?_append_left (by simpa using hi), List.getElem?_map] at e
    cases ev : vs[i]? with
    | none => rw [ev] at e; cases e
    | some v' =>
      rw [ev] at e
      cases e
      obtain ⟨u, eu, ru⟩ := r.get ev
      refine ⟨u, ?_, ru⟩
      unfold L2.start
      rw [List.getElem?_append_left (by rw [List.length_map, ← hlen]; exact hi), List.getElem?_map, eu]
      rfl
/-- one def of the table -/
structure RowOk (T : Tb) (K : Frag) (mg : Str → Option Value) (d : Fn) : Prop where
  ex : ∃ (a : Addr) (fd : FuncData) (N ps : List Str) (params : Arguments) (body : List Stmt) (scope : Scope), mg d.name = some (.ref a) ∧ FunD K d.name d.name params body scope [] [] a fd ∧ FnScope N ps scope ∧ d.slots = N.length ∧ ps.length = d.arity ∧ ps.length ≤ N.length ∧ Binds K fd ps [] ∧ okSs T ⟨N, scope, none⟩ (T.nw d.name) d.body body = true
section
variable {T : Tb} {XX : XR} {P : Prg} {prog : Program} {w : World} {K : Frag} {mg : Str → Option Value} {base : Heap}
theorem fn_next {n : Nat} {d : Fn} {a : Addr} {fd : FuncData} {N ps : List Str} {params : Arguments} {body : List Stmt} {scope : Scope} (hf : P.find d.name = some d) (F : FunD K d.name d.name params body scope [] [] a fd) (S : FnScope N ps scope) (hs : d.slots = N.length) (hp : ps.length = d.arity) (hpl : ps.length ≤ N.length)
    (hb : okSs T ⟨N, scope, none⟩ (T.nw d.name) d.body body = true) (M : MOK T XX (call P n) prog w K mg base n) : FnOk prog w K mg base (L2.CX prog w) (n + 1) a fd ps (spM K XX (call P (n + 1)) d.name d.arity (T.nw d.name)) := by
  refine F.ok S (fun vs H Q E h => h.1.trans hp.symm) fun cdv A outer s H us Q E hr h => ?_
  obtain ⟨hul, ι, st, vs, rvs, cr, ho⟩ := h
  have X : XOk T XX (call P n) n (cxOf (L2.CX prog w) prog w K mg base N d.name scope a cdv A outer s H E) (fun cls d _ H => E cls d H) ⟨N, scope, none⟩ :=
    ⟨rfl, S.nd, rfl, S.kind, fun _ _ => rfl, rfl, hr, takes_of rfl rfl rfl rfl, passes_of rfl, M⟩
  refine ⟨_, sndSs X d.body hb, ι, Mi.start d vs, st, start_r hs (by rw [hul, ← hp]; exact hpl) rvs, cr, ?_⟩
  have e1 : call P (n + 1) d.name vs st = runFn (call P n) d vs st := by
    show (match P.find d.name with | some d => runFn (call P n) d vs st | none => .bad) = _
    rw [hf]
  rw [e1] at ho
  unfold runFn at ho
  rw [if_pos (rvs.length.trans hul)] at ho
  generalize evSs (call P n) d.body (Mi.start d vs) st = r at ho
  cases r with
  | bad => exact ho
  | exc e st1 => exact fun ι' cls dd σ' H' q c1 ex g => ho cls dd H' q (cell_leave cr c1 ex g) ex
  | ok fl st1 =>
    cases fl with
    | nx env' => exact fun ι' σ' H' he c1 ex g => ho .non H' .non (cell_leave cr c1 ex g) ex (freshP_no (by simp))
    | bk env' => exact False.elim ho
    | ct env' => exact False.elim ho
    | rt v =>
      intro ι' u H' rv c1 ex g hfr
      dsimp only at ho
      cases ha : away st1 st.length v with
      | none => rw [ha] at ho; exact False.elim ho
      | some wv =>
        rw [ha, R.of_some] at ho
        exact ho u H' (rv_leave cr c1 g rv ha) (cell_leave cr c1 ex g) ex (fresh_leave cr c1 ex g rv hfr ha)
theorem prog_ok (hbl : ∀ x ∈ bnames, mg x = none) (hcs : ∀ x d, T.has x d = true → ∃ v u, mg x = some u ∧ RelV v u ∧ ∀ H ι, Dq K H ι v d)
    (hT : ∀ f k, T.ar f = some k → ∃ d, P.find f = some d ∧ d.name = f ∧ d.arity = k ∧ RowOk T K mg d) : ∀ n, MOK T XX (call P n) prog w K mg base n
  | 0 => ⟨hbl, hcs, fun f k h => by
    obtain ⟨d, h1, rfl, rfl, ⟨a, fd, N, ps, params, body, scope, g1, g2, g3, g4, g5, g6, g7, g8⟩⟩ := hT f k h
    refine ⟨a, fd, ps, g1, g2.kp, g5, g7, ⟨fun vs H Q E q => q.1.trans g5.symm, fun A outer s H args us vs Q E hr he hb hv hs => ?_⟩⟩
    obtain ⟨_, ι, st, vs', _, _, ho⟩ := hs
    exact False.elim ho⟩
  | n + 1 => ⟨hbl, hcs, fun f k h => by
    obtain ⟨d, h1, rfl, rfl, ⟨a, fd, N, ps, params, body, scope, g1, g2, g3, g4, g5, g6, g7, g8⟩⟩ := hT f k h
    exact ⟨a, fd, ps, g1, g2.kp, g5, g7, fn_next h1 g2 g3 g4 g5 g6 g8 (prog_ok hbl hcs hT n)⟩⟩
/-- the law: its own trees tell True of every script -/
theorem law_sp {n : Nat} {H : Hp} {a : Addr} {ns : List Int} (hS : SqL K H a (ns.map V.int)) (h : ∃ st, call P n "law" [.d (.list (ns.map PyData.int))] [] = .ok (.d (.bool true)) st) :
    spM K XX (call P n) "law" 1 false [.ref a] H (fun v _ => v = .bl true) fun _ _ _ => False := by
  obtain ⟨st', e⟩ := h
  have hq : LstAt K H ⟨[], []⟩ a (ns.map V.int) := hS.elim (fun z => .inl ⟨z, by simp [Lv.all]⟩) .inr
  refine ⟨rfl, ⟨[], []⟩, [], [.d (.list (ns.map .int))], .cons (Dq.lst hq (dq_ints ns)) .nil, ⟨rfl, List.nodup_nil, fun a ha => (by cases ha), fun a ha => (by cases ha), fun n xs a e1 e2 => (by cases e1)⟩, ?_⟩
  rw [e]
  intro u H' rv cr ex _
  cases (show Dq K H' ⟨[], []⟩ u (.bool true) from rv)
  rfl
theorem cx_no {H : Hp} {s : Shared} {e : Value} {s' : Shared} (h : L2.CX prog w [] H s (fun _ _ _ => False) e s') : False := by
  obtain ⟨_, _, _, _, _, _, _, _, _, _, _, _, z⟩ := h
  exact z
end
end Mi
end
section
set_option maxHeartbeats 4000000
namespace Mi
open PySem PySem.Spec PyProof.Rows L2
mutual
/-- the value reads as d in what the head tells -/
def dvB (K : Frag) : D → Value → Bool
  | .none, .none => true
  | .bool b, .bool c => b == c
  | .int i, .int j _ => decide (i = j)
  | .str x, .str y _ => decide (x = y) && PyData.strOk x
  | .tuple ds, .ref a => (match K.lookup a with
    | some ⟨.type c, _, .seq its _, _⟩ => decide (c = "tuple") && decide (its.size ≤ sizeLine) && dvsB K ds its.toList
    | _ => false)
  | .list ds, .ref a => (match K.lookup a with
    | some ⟨.type c, none, .seq its _, _⟩ => decide (c = "list") && decide (its.size ≤ sizeLine) && dvsB K ds its.toList
    | _ => false)
  | _, _ => false
def dvsB (K : Frag) : List D → List Value → Bool
  | [], [] => true
  | d :: ds, u :: us => dvB K d u && dvsB K ds us
  | _, _ => false
end
mutual
theorem dvB_ok {K : Frag} : ∀ (d : D) (u : Value), dvB K d u = true → ∃ v, RelV v u ∧ ∀ H ι, Dq K H ι v d
  | .none, u, h => by
    cases u with
    | none => exact ⟨.non, rfl, fun _ _ => .non⟩
    | _ => cases h
  | .bool b, u, h => by
    cases u with
    | bool c => exact ⟨.bl b, by rw [eq_of_beq (show (b == c) = true from h)]; rfl, fun _ _ => .bl b⟩
    | _ => cases h
  | .int i, u, h => by
    cases u with
    | int j t => exact ⟨.int i, ⟨t, by rw [of_decide_eq_true (show decide (i = j) = true from h)]⟩, fun _ _ => .int i⟩
    | _ => cases h
  | .str x, u, h => by
    cases u with
    | str y t =>
      obtain ⟨h1, h2⟩ := and2 (show (decide (x = y) && PyData.strOk x) = true from h)
      exact ⟨.str x, ⟨t, by rw [of_decide_eq_true h1]⟩, fun _ _ => .str x h2⟩
    | _ => cases h
  | .tuple ds, u, h => by
    cases u with
    | ref a =>
      unfold dvB at h
      split at h
      · rename_i c od its n sl q
        obtain ⟨h1, h2⟩ := and2 h
        obtain ⟨h1, h3⟩ := and2 h1
        obtain ⟨us, r, dd⟩ := dvsB_ok ds its.toList h2
        exact ⟨.ref a, rfl, fun H ι => .tup (.inr ⟨_, its, n, q, congrArg Value.type (of_decide_eq_true h1), rfl, of_decide_eq_true h3, r⟩) (dd H ι)⟩
      · cases h
    | _ => cases h
  | .list ds, u, h => by
    cases u with
    | ref a =>
      unfold dvB at h
      split at h
      · rename_i c its n sl q
        obtain ⟨h1, h2⟩ := and2 h
        obtain ⟨h1, h3⟩ := and2 h1
        obtain ⟨us, r, dd⟩ := dvsB_ok ds its.toList h2
        exact ⟨.ref a, rfl, fun H ι => .lst (.inr ⟨_, its, n, q, congrArg Value.type (of_decide_eq_true h1), rfl, rfl, of_decide_eq_true h3, r⟩) (dd H ι)⟩
      · cases h
    | _ => cases h
  | .dict _, u, h => by cases u <;> cases h
theorem dvsB_ok {K : Frag} : ∀ (ds : List D) (us : List Value), dvsB K ds us = true → ∃ vs, Vals vs us ∧ ∀ H ι, DqAll K H ι vs ds
  | [], [], _ => ⟨[], .nil, fun _ _ => .nil⟩
  | [], _ :: _, h => by cases h
  | _ :: _, [], h => by cases h
  | d :: ds, u :: us, h => by
    obtain ⟨h1, h2⟩ := and2 (show (dvB K d u && dvsB K ds us) = true from h)
    obtain ⟨v, r, q⟩ := dvB_ok d u h1
    obtain ⟨vs, rr, qq⟩ := dvsB_ok ds us h2
    exact ⟨v :: vs, .cons r rr, fun H ι => .cons (q H ι) (qq H ι)⟩
end
/-- the module's names are what the table says -/
def conB (cs : List (Str × D)) (K : Frag) : Bool := cs.all fun q => match PySem.W.nsIn K mainGlobals q.1 with
  | some (some u) => dvB K q.2 u
  | _ => false
theorem con_ok {T : Tb} {K : Frag} {h : Heap} {mg : Str → Option Value} (X : K.In h) (G : h.Ns mainGlobals mg) (c : conB T.cs K = true) : ∀ x d, T.has x d = true → ∃ v u, mg x = some u ∧ RelV v u ∧ ∀ H ι, Dq K H ι v d := fun x d hh => by
  unfold Tb.has at hh
  obtain ⟨q, hq, h2⟩ := List.any_eq_true.mp hh
  obtain ⟨h3, h4⟩ := and2 h2
  have e1 : q.1 = x := of_decide_eq_true h3
  have e2 := sameD_ok h4
  have q2 := List.all_eq_true.mp c q hq
  split at q2
  · rename_i u e
    rw [e1] at e
    rw [e2] at q2
    obtain ⟨v, r, dd⟩ := dvB_ok d u q2
    exact ⟨v, u, PySem.W.mg_of X G e, r, dd⟩
  · cases q2
theorem bl_ok {fa : List He.Fa} {fn : List He.DefD} {ts : List He.Tab} {tf : List He.Defn} {ex : Frag → Bool} {w : World} {h h0 : Heap} {K : Frag} {mg : Str → Option Value} (X : K.In h) (G : h.Ns mainGlobals mg) (c : He.SaysX fa fn ts tf ex w h0 K) (hf : ∀ x ∈ bnames, He.Fa.free x ∈ fa) : ∀ x ∈ bnames, mg x = none :=
  fun x hx => He.free_ok X G (c.t.d.facts (hf x hx))
/-- all defs of a table -/
def Prg.tb (P : Prg) (cs : List (Str × D)) (nw : List Str) : Tb := ⟨fun f => (P.find f).map (·.arity), cs, fun f => nw.any fun g => g == f⟩
theorem rows_ok {P : Prg} {cs : List (Str × D)} {nw : List Str} {K : Frag} {mg : Str → Option Value} (h : ∀ d ∈ P, RowOk (P.tb cs nw) K mg d) : ∀ f k, (P.tb cs nw).ar f = some k → ∃ d, P.find f = some d ∧ d.name = f ∧ d.arity = k ∧ RowOk (P.tb cs nw) K mg d := fun f k e => by
  have e : (P.find f).map (·.arity) = some k := e
  cases q : P.find f with
  | none => rw [q] at e; cases e
  | some d =>
    rw [q] at e
    exact ⟨d, rfl, eq_of_beq (show (d.name == f) = true from List.find?_some (p := fun d : Fn => d.name == f) q), Option.some.inj e, h d (List.mem_of_find?_eq_some q)⟩
theorem walk_M {l : PySem.W.OpenLaw} {n k : Nat} {q : Program} {loose : List Str} {XP : (Str → Option Value) → Heap → Prop} {YP : World → Heap → Prop} {d : DefRec} {x : Str}
    (hn : l.most = some n) (hn2 : n ≤ sizeLine) (hdf : d.params.defaults = []) (hr : Room k callerA)
    (F : ∀ (w : World) (mg : Str → Option Value) (fa : Addr) (h : Heap), YP w h → h.Ns mainGlobals mg → mg d.name = some (.ref fa) →
      ∃ (K : PySem.W.Frag) (fd : FuncData) (sp : Sp), K.In h ∧ (∀ (s : Shared) (u : Value), BindsTo s fd ⟨[u], []⟩ [(x, u)]) ∧
        (∀ (H : Hp) (a : Addr) (ns : List Int), ns.length ≤ n → Only H → SqL K H a (ns.map V.int) → sp [.ref a] H (fun v _ => v = .bl true) fun _ _ _ => False) ∧
        ∀ base : Heap, K.In base → base.Ns mainGlobals mg → FnOk l.prog w K mg base (L2.CX l.prog w) k fa fd [x] sp) :
    PySem.W.WalkO q loose XP YP l.row.toRowW d [] (fun f vs => PySem.call f vs) := by
  refine Att.attach_call hn hdf fun w s₀ s₁ mg mb fa o pm cd doc a vs ns G Y ho hd hcd hmg hobj hints hlen hg => ?_
  obtain ⟨K, fd, sp, KX, hb, hsp, hF⟩ := F w mg fa _ Y G.T.g hmg
  exact law_call KX G.T.g G.T.b G.T.builtins G.T.nolimit hg hobj hints (Nat.le_trans hlen hn2) hr hF hb (fun H hO hS => hsp H a ns hlen hO hS) fun H e s' => cx_no
end Mi
end
section
namespace Mi
def f_is_within : Fn := ⟨"is_within", 3, 3,
   [.ret (.and (.isin (.var 0) [.int]) (.and (.not (.isin (.var 0) [.bool])) (.chain .le .le (.var 1) (.var 0) (.var 2))))]⟩
def f_has_items : Fn := ⟨"has_items", 3, 3,
   [.ret (.and (.isin (.var 0) [.tuple]) (.chain .le .le (.var 1) (.bi .len (.var 0)) (.var 2)))]⟩
def f_is_atom : Fn := ⟨"is_atom", 3, 5,
   [.asg (.nm 3) (.idx (.var 2) (.cst (.int 0))),
    .iff (.bin .eq (.var 3) (.cst (.str "odd"))) [.ret (.bin .eq (.bi .len (.var 2)) (.cst (.int 1)))] [],
    .iff (.bin .eq (.var 3) (.cst (.str "share"))) [.ret (.and (.bin .eq (.bi .len (.var 2)) (.cst (.int 3))) (.and (.bi .all (.lcE [4] (.call false "is_within" [(.var 4), (.cst (.int 1)), (.cst (.int 3))]) (.nm 4) (.slc (.var 2) (some (.cst (.int 1))) none) none)) (.bin .inn (.slc (.var 2) (some (.cst (.int 1))) none) (.glo "SHARES" (.tuple [(.tuple [(.int 1), (.int 2)]), (.tuple [(.int 1), (.int 3)]), (.tuple [(.int 2), (.int 3)])])))))] [],
    .iff (.bin .ne (.bi .len (.var 2)) (.cst (.int 2))) [.ret (.cst (.bool false))] [],
    .iff (.bin .eq (.var 3) (.cst (.str "fact"))) [.ret (.call false "is_within" [(.idx (.var 2) (.cst (.int 1))), (.cst (.int 0)), (.bin .sub (.var 0) (.cst (.int 1)))])] [],
    .iff (.bin .eq (.var 3) (.cst (.str "lies"))) [.ret (.call false "is_within" [(.idx (.var 2) (.cst (.int 1))), (.cst (.int 0)), (.bin .sub (.var 1) (.cst (.int 1)))])] [],
    .ret (.and (.bin .inn (.var 3) (.tup [(.cst (.str "liars")), (.cst (.str "honest"))])) (.call false "is_within" [(.idx (.var 2) (.cst (.int 1))), (.cst (.int 1)), (.cst (.int 4))]))]⟩
def f_is_formula_value : Fn := ⟨"is_formula_value", 4, 5,
   [.iff (.or (.bin .eq (.var 3) (.cst (.int 0))) (.or (.not (.call false "has_items" [(.var 2), (.cst (.int 1)), (.cst (.int 3))])) (.not (.isin (.idx (.var 2) (.cst (.int 0))) [.str])))) [.ret (.cst (.bool false))] [],
    .iff (.bin .eq (.idx (.var 2) (.cst (.int 0))) (.cst (.str "not"))) [.ret (.and (.bin .eq (.bi .len (.var 2)) (.cst (.int 2))) (.call false "is_formula_value" [(.var 0), (.var 1), (.idx (.var 2) (.cst (.int 1))), (.bin .sub (.var 3) (.cst (.int 1)))]))] [],
    .iff (.bin .inn (.idx (.var 2) (.cst (.int 0))) (.tup [(.cst (.str "and")), (.cst (.str "or"))])) [.ret (.and (.bin .eq (.bi .len (.var 2)) (.cst (.int 3))) (.bi .all (.lcE [4] (.call false "is_formula_value" [(.var 0), (.var 1), (.var 4), (.bin .sub (.var 3) (.cst (.int 1)))]) (.nm 4) (.slc (.var 2) (some (.cst (.int 1))) none) none)))] [],
    .ret (.call false "is_atom" [(.var 0), (.var 1), (.var 2)])]⟩
def f_is_said : Fn := ⟨"is_said", 3, 3,
   [.ret (.or (.isc false (.var 2) .none) (.call false "is_formula_value" [(.var 0), (.var 1), (.var 2), (.glo "DEEPEST" (.int 3))]))]⟩
def f_is_parish_value : Fn := ⟨"is_parish_value", 1, 6,
   [.iff (.or (.not (.call false "has_items" [(.var 0), (.cst (.int 4)), (.cst (.int 4))])) (.or (.not (.call false "is_within" [(.idx (.var 0) (.cst (.int 0))), (.cst (.int 0)), (.cst (.int 2))])) (.not (.call false "has_items" [(.idx (.var 0) (.cst (.int 1))), (.cst (.int 0)), (.cst (.int 3))])))) [.ret (.cst (.bool false))] [],
    .asg (.tp [1, 2, 3, 4]) (.var 0),
    .iff (.or (.not (.bi .all (.lcE [5] (.call false "is_said" [(.var 1), (.bi .len (.var 2)), (.var 5)]) (.nm 5) (.var 2) none))) (.not (.call false "is_said" [(.var 1), (.bi .len (.var 2)), (.var 3)]))) [.ret (.cst (.bool false))] [],
    .ret (.or (.isc false (.var 4) .none) (.call false "is_within" [(.var 4), (.cst (.int 0)), (.cst (.int 9))]))]⟩
def f_is_claim : Fn := ⟨"is_claim", 2, 2,
   [.ret (.call false "is_formula_value" [(.idx (.var 0) (.cst (.int 0))), (.bi .len (.idx (.var 0) (.cst (.int 1)))), (.var 1), (.glo "DEEPEST" (.int 3))])]⟩
def f_need_parish : Fn := ⟨"need_parish", 1, 1,
   [.iff (.not (.call false "is_parish_value" [(.var 0)])) [.nev] []]⟩
def f_is_parish : Fn := ⟨"is_parish", 1, 1,
   [.ret (.call false "is_parish_value" [(.var 0)])]⟩
def f_is_formula : Fn := ⟨"is_formula", 2, 2,
   [.ex (.call false "need_parish" [(.var 0)]),
    .ret (.call false "is_claim" [(.var 0), (.var 1)])]⟩
def f_law_deck : Fn := ⟨"_law_deck", 2, 2,
   [.iff (.bin .ge (.var 0) (.bin .pow (.cst (.int 10)) (.cst (.int 18)))) [.ret (.lst [(.bin .sub (.var 0) (.bin .pow (.cst (.int 10)) (.cst (.int 18)))), (.bin .mod (.var 0) (.cst (.int 2147483579))), (.var 1)])] [],
    .ret (.lst [(.cst (.int 0)), (.bin .mod (.var 0) (.cst (.int 2147483579))), (.var 1)])]⟩
def f_law_pick : Fn := ⟨"_law_pick", 2, 4,
   [.iff (.bin .gt (.idx (.var 0) (.cst (.int 0))) (.cst (.int 1))) [.asg (.nm 3) (.bin .mod (.bi .int (.idx (.var 0) (.cst (.int 0)))) (.var 1)),
    .seti 0 (.cst (.int 0)) (.bin .fdiv (.idx (.var 0) (.cst (.int 0))) (.var 1)),
    .ret (.var 3)] [],
    .seti 0 (.cst (.int 2)) (.bin .add (.idx (.var 0) (.cst (.int 2))) (.cst (.int 1))),
    .asg (.nm 2) (.bin .mod (.bin .pow (.bin .add (.idx (.var 0) (.cst (.int 1))) (.bin .mul (.cst (.int 15485867)) (.idx (.var 0) (.cst (.int 2))))) (.cst (.int 5))) (.cst (.int 2147483647))),
    .asg (.nm 3) (.bin .fdiv (.bin .mod (.bin .pow (.bin .add (.var 2) (.bin .mul (.cst (.int 7919)) (.idx (.var 0) (.cst (.int 2))))) (.cst (.int 3))) (.cst (.int 2147483629))) (.cst (.int 32))),
    .ret (.bin .mod (.bi .int (.var 3)) (.var 1))]⟩
def f_law_whole : Fn := ⟨"_law_whole", 1, 1,
   [.ret (.and (.isin (.var 0) [.int]) (.not (.isin (.var 0) [.bool])))]⟩
def f_law_one : Fn := ⟨"_law_one", 2, 2,
   [.ret (.idx (.var 1) (.call false "_law_pick" [(.var 0), (.bi .len (.var 1))]))]⟩
def f_law_sort : Fn := ⟨"_law_sort", 1, 1,
   [.iff (.isin (.var 0) [.bool]) [.ret (.cst (.int 1))] [],
    .iff (.isin (.var 0) [.int]) [.ret (.cst (.int 2))] [],
    .iff (.isin (.var 0) [.str]) [.ret (.cst (.int 3))] [],
    .iff (.isin (.var 0) [.list]) [.ret (.cst (.int 4))] [],
    .ret (.ite (.isin (.var 0) [.tuple]) (.cst (.int 5)) (.cst (.int 6)))]⟩
def f_law_same : Fn := ⟨"_law_same", 2, 4,
   [.iff (.bin .ne (.call false "_law_sort" [(.var 0)]) (.call false "_law_sort" [(.var 1)])) [.ret (.cst (.bool false))] [],
    .iff (.and (.bin .gt (.call false "_law_sort" [(.var 0)]) (.cst (.int 3))) (.bin .lt (.call false "_law_sort" [(.var 0)]) (.cst (.int 6)))) [.iff (.bin .ne (.bi .len (.var 0)) (.bi .len (.var 1))) [.ret (.cst (.bool false))] [],
    .ret (.bin .eq (.lcN [2, 3] (.var 2) (.tp [2, 3]) (.var 0) (some (.not (.call false "_law_same" [(.var 3), (.idx (.var 1) (.var 2))])))) (.lst []))] [],
    .ret (.bin .eq (.var 0) (.var 1))]⟩
def f_law_kin : Fn := ⟨"_law_kin", 1, 5,
   [.asg (.nm 1) (.lst [.nev, .nev, .nev]),
    .asg (.nm 1) (.bin .add (.var 1) (.lst [.nev, .nev, .nev])),
    .asg (.nm 1) (.bin .add (.var 1) (.lst [.nev, .nev, .nev])),
    .asg (.nm 1) (.bin .add (.var 1) (.lst [.nev, .nev, .nev])),
    .asg (.nm 1) (.bin .add (.var 1) (.lst [.nev, .nev])),
    .asg (.nm 2) (.cst (.str "parish number formula world word plan menu index unlike noworld undo many text +")),
    .ret .nev]⟩
def f_law_try : Fn := ⟨"_law_try", 1, 3,
   [.asg (.nm 1) (.cst .none),
    .nev,
    .ret (.var 1)]⟩
def f_law_atom : Fn := ⟨"_law_atom", 3, 4,
   [.newl 3 (.lst [(.tup [(.cst (.str "odd"))]), (.tup [(.cst (.str "liars")), (.bin .add (.cst (.int 1)) (.call false "_law_pick" [(.var 0), (.cst (.int 4))]))]), (.tup [(.cst (.str "honest")), (.bin .add (.cst (.int 1)) (.call false "_law_pick" [(.var 0), (.cst (.int 4))]))])]),
    .app 3 (.call false "_law_one" [(.var 0), (.lst [(.tup [(.cst (.str "share")), (.cst (.int 1)), (.cst (.int 2))]), (.tup [(.cst (.str "share")), (.cst (.int 1)), (.cst (.int 3))]), (.tup [(.cst (.str "share")), (.cst (.int 2)), (.cst (.int 3))])])]),
    .iff (.bin .gt (.var 1) (.cst (.int 0))) [.app 3 (.tup [(.cst (.str "fact")), (.call false "_law_pick" [(.var 0), (.var 1)])])] [],
    .iff (.bin .gt (.var 2) (.cst (.int 0))) [.newl 3 (.bin .add (.var 3) (.rep [(.tup [(.cst (.str "lies")), (.call false "_law_pick" [(.var 0), (.var 2)])])] (.cst (.int 2))))] [],
    .ret (.call false "_law_one" [(.var 0), (.var 3)])]⟩
def f_law_formula : Fn := ⟨"_law_formula", 4, 6,
   [.asg (.nm 4) (.ite (.bin .gt (.var 3) (.cst (.int 1))) (.call false "_law_pick" [(.var 0), (.cst (.int 6))]) (.cst (.int 0))),
    .iff (.bin .lt (.var 4) (.cst (.int 3))) [.ret (.call false "_law_atom" [(.var 0), (.var 1), (.var 2)])] [],
    .iff (.bin .eq (.var 4) (.cst (.int 3))) [.ret (.tup [(.cst (.str "not")), (.call false "_law_formula" [(.var 0), (.var 1), (.var 2), (.bin .sub (.var 3) (.cst (.int 1)))])])] [],
    .asg (.nm 5) (.call false "_law_formula" [(.var 0), (.var 1), (.var 2), (.bin .sub (.var 3) (.cst (.int 1)))]),
    .ret (.tup [(.ite (.bin .eq (.var 4) (.cst (.int 4))) (.cst (.str "and")) (.cst (.str "or"))), (.var 5), (.call false "_law_formula" [(.var 0), (.var 1), (.var 2), (.bin .sub (.var 3) (.cst (.int 1)))])])]⟩
def f_law_said : Fn := ⟨"_law_said", 4, 4,
   [.iff (.bin .eq (.call false "_law_pick" [(.var 0), (.cst (.int 5))]) (.cst (.int 0))) [.ret (.cst .none)] [],
    .ret (.call false "_law_formula" [(.var 0), (.var 1), (.var 2), (.var 3)])]⟩
def f_law_parish : Fn := ⟨"_law_parish", 4, 9,
   [.asg (.tp [6, 7]) (.tup [(.call false "_law_pick" [(.var 0), (.bin .add (.var 1) (.cst (.int 1)))]), (.call false "_law_pick" [(.var 0), (.bin .add (.var 2) (.cst (.int 1)))])]),
    .asg (.nm 4) (.bi .tuple (.lcR [8] (.call false "_law_said" [(.var 0), (.var 6), (.var 7), (.var 3)]) (.nm 8) [(.var 7)] none)),
    .asg (.nm 5) (.ite (.bin .eq (.call false "_law_pick" [(.var 0), (.cst (.int 4))]) (.cst (.int 0))) (.call false "_law_pick" [(.var 0), (.cst (.int 10))]) (.cst .none)),
    .ret (.tup [(.var 6), (.var 4), (.call false "_law_said" [(.var 0), (.var 6), (.var 7), (.var 3)]), (.var 5)])]⟩
def f_law_known : Fn := ⟨"_law_known", 0, 5,
   [.asg (.tp [1, 2]) (.tup [(.tup [(.cst (.int 0)), (.tup []), (.tup [(.cst (.str "liars")), (.cst (.int 1))]), (.cst .none)]), (.tup [(.cst (.int 0)), (.tup []), (.tup [(.cst (.str "share")), (.cst (.int 1)), (.cst (.int 2))]), (.cst .none)])]),
    .asg (.tp [3, 4]) (.tup [(.tup [(.cst (.int 1)), (.tup [(.tup [(.cst (.str "lies")), (.cst (.int 1))]), (.tup [(.cst (.str "fact")), (.cst (.int 0))])]), (.cst .none), (.cst .none)]), (.tup [(.cst (.str "or")), (.tup [(.cst (.str "lies")), (.cst (.int 0))]), (.tup [(.cst (.str "lies")), (.cst (.int 1))])])]),
    .asg (.nm 0) (.tup [(.cst (.int 1)), (.tup [(.tup [(.cst (.str "and")), (.tup [(.cst (.str "fact")), (.cst (.int 0))]), (.tup [(.cst (.str "honest")), (.cst (.int 1))])])]), (.tup [(.cst (.str "odd"))]), (.cst .none)]),
    .ret (.tup [(.var 1), (.var 2), (.var 3), (.bin .add (.slc (.var 3) none (some (.cst (.int 3)))) (.tup [(.cst (.int 1))])), (.var 0), (.tup [(.cst (.int 0)), (.tup [(.tup [(.cst (.str "lies")), (.cst (.int 0))])]), (.cst .none), (.cst .none)]), (.var 4)])]⟩
def f_is_true : Fn := ⟨"is_true", 5, 6,
   [.asg (.nm 5) (.idx (.var 0) (.cst (.int 0))),
    .iff (.bin .eq (.var 5) (.cst (.str "not"))) [.ret (.not (.call false "is_true" [(.idx (.var 0) (.cst (.int 1))), (.var 1), (.var 2), (.var 3), (.var 4)]))] [],
    .iff (.bin .eq (.var 5) (.cst (.str "and"))) [.ret (.and (.call false "is_true" [(.idx (.var 0) (.cst (.int 1))), (.var 1), (.var 2), (.var 3), (.var 4)]) (.call false "is_true" [(.idx (.var 0) (.cst (.int 2))), (.var 1), (.var 2), (.var 3), (.var 4)]))] [],
    .iff (.bin .eq (.var 5) (.cst (.str "or"))) [.ret (.or (.call false "is_true" [(.idx (.var 0) (.cst (.int 1))), (.var 1), (.var 2), (.var 3), (.var 4)]) (.call false "is_true" [(.idx (.var 0) (.cst (.int 2))), (.var 1), (.var 2), (.var 3), (.var 4)]))] [],
    .iff (.bin .eq (.var 5) (.cst (.str "fact"))) [.ret (.idx (.var 1) (.idx (.var 0) (.cst (.int 1))))] [],
    .iff (.bin .eq (.var 5) (.cst (.str "lies"))) [.ret (.idx (.var 2) (.idx (.var 0) (.cst (.int 1))))] [],
    .iff (.bin .eq (.var 5) (.cst (.str "liars"))) [.ret (.bin .ge (.var 3) (.idx (.var 0) (.cst (.int 1))))] [],
    .iff (.bin .eq (.var 5) (.cst (.str "honest"))) [.ret (.bin .ge (.bin .sub (.var 4) (.var 3)) (.idx (.var 0) (.cst (.int 1))))] [],
    .iff (.bin .eq (.var 5) (.cst (.str "odd"))) [.ret (.bin .eq (.bin .mod (.var 3) (.cst (.int 2))) (.cst (.int 1)))] [],
    .ret (.bin .ge (.bin .mul (.idx (.var 0) (.cst (.int 2))) (.var 3)) (.bin .mul (.idx (.var 0) (.cst (.int 1))) (.var 4)))]⟩
def f_atoms_of : Fn := ⟨"atoms_of", 1, 3,
   [.iff (.bin .inn (.idx (.var 0) (.cst (.int 0))) (.tup [(.cst (.str "not")), (.cst (.str "and")), (.cst (.str "or"))])) [.ret (.lc2 [1, 2] [2] (.var 2) (.nm 1) (.slc (.var 0) (some (.cst (.int 1))) none) (.nm 2) (.call false "atoms_of" [(.var 1)]))] [],
    .ret (.lst [(.var 0)])]⟩
def f_turns_of : Fn := ⟨"turns_of", 2, 2,
   [.iff (.bin .eq (.idx (.var 0) (.cst (.int 0))) (.cst (.str "liars"))) [.ret (.lst [(.idx (.var 0) (.cst (.int 1)))])] [],
    .iff (.bin .eq (.idx (.var 0) (.cst (.int 0))) (.cst (.str "honest"))) [.ret (.lst [(.bin .add (.bin .sub (.var 1) (.idx (.var 0) (.cst (.int 1)))) (.cst (.int 1)))])] [],
    .iff (.bin .eq (.idx (.var 0) (.cst (.int 0))) (.cst (.str "share"))) [.ret (.lst [(.neg (.bin .fdiv (.bin .mul (.neg (.idx (.var 0) (.cst (.int 1)))) (.var 1)) (.idx (.var 0) (.cst (.int 2)))))])] [],
    .ret (.lst [])]⟩
def f_need_number : Fn := ⟨"need_number", 3, 3,
   [.iff (.not (.call false "is_within" [(.var 0), (.var 1), (.var 2)])) [.nev] []]⟩
def f_rows_of : Fn := ⟨"rows_of", 1, 5,
   [.asg (.nm 1) (.lst [(.tup [])]),
    .for (.nm 2) (.rng [(.var 0)]) [.asg (.nm 1) (.lc2 [3, 4] [4] (.bin .add (.var 3) (.tup [(.var 4)])) (.nm 3) (.var 1) (.nm 4) (.tup [(.cst (.bool false)), (.cst (.bool true))]))],
    .ret (.var 1)]⟩
def f_singles_fit : Fn := ⟨"singles_fit", 5, 7,
   [.for (.tp [5, 6]) (.zip (.idx (.var 0) (.cst (.int 1))) (.var 2)) [.iff (.and (.isc true (.var 5) .none) (.bin .eq (.call false "is_true" [(.var 5), (.var 1), (.var 2), (.var 3), (.var 4)]) (.var 6))) [.ret (.cst (.bool false))] []],
    .ret (.cst (.bool true))]⟩
def f_crowd_fits : Fn := ⟨"crowd_fits", 5, 6,
   [.asg (.nm 5) (.idx (.var 0) (.cst (.int 2))),
    .iff (.isc false (.var 5) .none) [.ret (.cst (.bool true))] [],
    .iff (.and (.bin .lt (.var 3) (.var 4)) (.not (.call false "is_true" [(.var 5), (.var 1), (.var 2), (.var 3), (.bin .sub (.var 4) (.cst (.int 1)))]))) [.ret (.cst (.bool false))] [],
    .ret (.or (.bin .eq (.var 3) (.cst (.int 0))) (.not (.call false "is_true" [(.var 5), (.var 1), (.var 2), (.bin .sub (.var 3) (.cst (.int 1))), (.bin .sub (.var 4) (.cst (.int 1)))])))]⟩
def f_can_be : Fn := ⟨"can_be", 5, 6,
   [.iff (.and (.isc true (.idx (.var 0) (.cst (.int 3))) .none) (.bin .gt (.bin .add (.bi .sum (.lcE [5] (.bi .int (.var 5)) (.nm 5) (.var 2) none)) (.var 3)) (.idx (.var 0) (.cst (.int 3))))) [.ret (.cst (.bool false))] [],
    .ret (.and (.call false "singles_fit" [(.var 0), (.var 1), (.var 2), (.var 3), (.var 4)]) (.call false "crowd_fits" [(.var 0), (.var 1), (.var 2), (.var 3), (.var 4)]))]⟩
def f_marks_of : Fn := ⟨"marks_of", 3, 10,
   [.asg (.nm 3) (.lst [(.cst (.int 0)), (.cst (.int 1)), (.var 2)]),
    .for (.nm 4) (.ex (.bin .add (.bi .list (.idx (.var 0) (.cst (.int 1)))) (.bi .list (.var 1)))) [.iff (.isc true (.var 4) .none) [.for (.nm 5) (.ex (.call false "atoms_of" [(.var 4)])) [.asg (.nm 3) (.bin .add (.var 3) (.call true "turns_of" [(.var 5), (.var 2)]))]] []],
    .iff (.isc true (.idx (.var 0) (.cst (.int 2))) .none) [.for (.nm 5) (.ex (.call false "atoms_of" [(.idx (.var 0) (.cst (.int 2)))])) [.asg (.nm 3) (.bin .add (.var 3) (.lc2 [8, 9] [9] (.bin .add (.var 8) (.var 9)) (.nm 8) (.call true "turns_of" [(.var 5), (.bin .sub (.var 2) (.cst (.int 1)))]) (.nm 9) (.tup [(.cst (.int 0)), (.cst (.int 1))])))]] [],
    .iff (.isc true (.idx (.var 0) (.cst (.int 3))) .none) [.asg (.nm 3) (.bin .add (.var 3) (.lcR [6] (.bin .sub (.bin .add (.idx (.var 0) (.cst (.int 3))) (.cst (.int 1))) (.var 6)) (.nm 6) [(.bin .add (.bi .len (.idx (.var 0) (.cst (.int 1)))) (.cst (.int 1)))] none))] [],
    .ret (.bi .sortset (.lcE [7] (.var 7) (.nm 7) (.var 3) (some (.chain .le .le (.cst (.int 0)) (.var 7) (.var 2)))))]⟩
def f_stretches : Fn := ⟨"stretches", 3, 11,
   [.par1 5 6 (.call true "marks_of" [(.var 0), (.var 1), (.var 2)]) (.lst []),
    .asg (.nm 3) (.lzip (.var 5) (.bin .add (.slc (.var 5) (some (.cst (.int 1))) none) (.lst [(.bin .add (.var 2) (.cst (.int 1)))]))),
    .for (.nm 4) (.ex (.call false "rows_of" [(.idx (.var 0) (.cst (.int 0)))])) [.for (.nm 7) (.ex (.call false "rows_of" [(.bi .len (.idx (.var 0) (.cst (.int 1))))])) [.for (.tp [8, 9]) (.ex (.var 3)) [.for (.nm 10) (.ex (.tup [(.var 8), (.bin .add (.var 8) (.cst (.int 1)))])) [.iff (.and (.bin .lt (.var 10) (.var 9)) (.call false "can_be" [(.var 0), (.var 4), (.var 7), (.var 10), (.var 2)])) [.app 6 (.tup [(.var 4), (.var 7), (.var 10), (.bin .sub (.bin .sub (.var 9) (.cst (.int 1))) (.bin .mod (.bin .sub (.bin .sub (.var 9) (.cst (.int 1))) (.var 10)) (.cst (.int 2))))])] []]]]],
    .retv 6]⟩
def f_is_world_value : Fn := ⟨"is_world_value", 3, 4,
   [.iff (.or (.not (.call false "has_items" [(.var 2), (.cst (.int 3)), (.cst (.int 3))])) (.not (.call false "has_items" [(.idx (.var 2) (.cst (.int 0))), (.idx (.var 0) (.cst (.int 0))), (.idx (.var 0) (.cst (.int 0)))]))) [.ret (.cst (.bool false))] [],
    .iff (.or (.not (.call false "has_items" [(.idx (.var 2) (.cst (.int 1))), (.bi .len (.idx (.var 0) (.cst (.int 1)))), (.bi .len (.idx (.var 0) (.cst (.int 1))))])) (.not (.call false "is_within" [(.idx (.var 2) (.cst (.int 2))), (.cst (.int 0)), (.var 1)]))) [.ret (.cst (.bool false))] [],
    .ret (.bi .all (.lcE [3] (.isin (.var 3) [.bool]) (.nm 3) (.bin .add (.idx (.var 2) (.cst (.int 0))) (.idx (.var 2) (.cst (.int 1)))) none))]⟩
def f_need_world : Fn := ⟨"need_world", 3, 3,
   [.iff (.not (.call false "is_world_value" [(.var 0), (.var 1), (.var 2)])) [.nev] []]⟩
def f_number_of : Fn := ⟨"number_of", 2, 6,
   [.ret (.bi .sum (.lcE [2, 3, 4, 5] (.bin .add (.bin .fdiv (.bin .sub (.var 5) (.var 4)) (.cst (.int 2))) (.cst (.int 1))) (.tp [2, 3, 4, 5]) (.call true "stretches" [(.var 0), (.tup []), (.var 1)]) none))]⟩
def f_first_world : Fn := ⟨"first_world", 2, 7,
   [.asg (.nm 2) (.bi .sorted (.lcE [3, 4, 5, 6] (.tup [(.var 3), (.var 4), (.var 5)]) (.tp [3, 4, 5, 6]) (.call true "stretches" [(.var 0), (.tup []), (.var 1)]) none)),
    .ret (.ite (.bin .ne (.var 2) (.lst [])) (.idx (.var 2) (.cst (.int 0))) (.cst .none))]⟩
def f_is_world : Fn := ⟨"is_world", 3, 3,
   [.ex (.call false "need_parish" [(.var 0)]),
    .ex (.call false "need_number" [(.var 1), (.cst (.int 0)), (.glo "GREAT" (.int 1000000000000000000000000000000))]),
    .ret (.call false "is_world_value" [(.var 0), (.var 1), (.var 2)])]⟩
def f_is_possible : Fn := ⟨"is_possible", 3, 3,
   [.ex (.call false "need_parish" [(.var 0)]),
    .ex (.call false "need_number" [(.var 1), (.cst (.int 0)), (.glo "GREAT" (.int 1000000000000000000000000000000))]),
    .ex (.call false "need_world" [(.var 0), (.var 1), (.var 2)]),
    .ret (.call false "can_be" [(.var 0), (.idx (.var 2) (.cst (.int 0))), (.idx (.var 2) (.cst (.int 1))), (.idx (.var 2) (.cst (.int 2))), (.var 1)])]⟩
def f_worlds : Fn := ⟨"worlds", 2, 8,
   [.ex (.call false "need_parish" [(.var 0)]),
    .ex (.call false "need_number" [(.var 1), (.cst (.int 0)), (.glo "MOST_LISTED" (.int 60))]),
    .asg (.nm 2) (.lst []),
    .for (.tp [3, 4, 5, 6]) (.ex (.call true "stretches" [(.var 0), (.tup []), (.var 1)])) [.asg (.nm 2) (.bin .add (.var 2) (.lcR [7] (.tup [(.var 3), (.var 4), (.var 7)]) (.nm 7) [(.var 5), (.bin .add (.var 6) (.cst (.int 1))), (.cst (.int 2))] none))],
    .ret (.bi .sorted (.var 2))]⟩
def f_count_worlds : Fn := ⟨"count_worlds", 2, 2,
   [.ex (.call false "need_parish" [(.var 0)]),
    .ex (.call false "need_number" [(.var 1), (.cst (.int 0)), (.glo "GREAT" (.int 1000000000000000000000000000000))]),
    .ret (.call false "number_of" [(.var 0), (.var 1)])]⟩
def f_some_world : Fn := ⟨"some_world", 2, 2,
   [.ex (.call false "need_parish" [(.var 0)]),
    .ex (.call false "need_number" [(.var 1), (.cst (.int 0)), (.glo "GREAT" (.int 1000000000000000000000000000000))]),
    .ret (.call false "first_world" [(.var 0), (.var 1)])]⟩
def f_law_seen : Fn := ⟨"_law_seen", 4, 9,
   [.asg (.nm 4) (.idx (.var 0) (.cst (.int 0))),
    .iff (.bin .eq (.var 4) (.cst (.str "not"))) [.ret (.not (.call false "_law_seen" [(.idx (.var 0) (.cst (.int 1))), (.var 1), (.var 2), (.var 3)]))] [],
    .iff (.or (.bin .eq (.var 4) (.cst (.str "and"))) (.bin .eq (.var 4) (.cst (.str "or")))) [.asg (.nm 5) (.lcE [8] (.call false "_law_seen" [(.var 8), (.var 1), (.var 2), (.var 3)]) (.nm 8) (.slc (.var 0) (some (.cst (.int 1))) none) none),
    .ret (.ite (.bin .eq (.var 4) (.cst (.str "and"))) (.bin .notin (.cst (.bool false)) (.var 5)) (.bin .inn (.cst (.bool true)) (.var 5)))] [],
    .iff (.or (.bin .eq (.var 4) (.cst (.str "fact"))) (.bin .eq (.var 4) (.cst (.str "lies")))) [.ret (.idx (.ite (.bin .eq (.var 4) (.cst (.str "fact"))) (.var 1) (.var 2)) (.idx (.var 0) (.cst (.int 1))))] [],
    .asg (.tp [6, 7]) (.var 3),
    .iff (.or (.bin .eq (.var 4) (.cst (.str "liars"))) (.bin .eq (.var 4) (.cst (.str "honest")))) [.ret (.bin .ge (.ite (.bin .eq (.var 4) (.cst (.str "liars"))) (.var 6) (.bin .sub (.var 7) (.var 6))) (.idx (.var 0) (.cst (.int 1))))] [],
    .ret (.ite (.bin .eq (.var 4) (.cst (.str "odd"))) (.bin .eq (.bin .mod (.var 6) (.cst (.int 2))) (.cst (.int 1))) (.bin .ge (.bin .mul (.var 6) (.idx (.var 0) (.cst (.int 2)))) (.bin .mul (.var 7) (.idx (.var 0) (.cst (.int 1))))))]⟩
def f_law_can : Fn := ⟨"_law_can", 5, 8,
   [.iff (.and (.isc true (.idx (.var 0) (.cst (.int 3))) .none) (.bin .gt (.bin .add (.bi .len (.lcE [7] (.cst (.int 1)) (.nm 7) (.var 3) (some (.var 7)))) (.var 4)) (.idx (.var 0) (.cst (.int 3))))) [.ret (.cst (.bool false))] [],
    .for (.nm 5) (.rng [(.bi .len (.idx (.var 0) (.cst (.int 1))))]) [.asg (.nm 6) (.idx (.idx (.var 0) (.cst (.int 1))) (.var 5)),
    .iff (.and (.isc true (.var 6) .none) (.bin .eq (.call false "_law_seen" [(.var 6), (.var 2), (.var 3), (.tup [(.var 4), (.var 1)])]) (.idx (.var 3) (.var 5)))) [.ret (.cst (.bool false))] []],
    .iff (.isc true (.idx (.var 0) (.cst (.int 2))) .none) [.iff (.and (.bin .lt (.var 4) (.var 1)) (.not (.call false "_law_seen" [(.idx (.var 0) (.cst (.int 2))), (.var 2), (.var 3), (.tup [(.var 4), (.bin .sub (.var 1) (.cst (.int 1)))])]))) [.ret (.cst (.bool false))] [],
    .iff (.and (.bin .gt (.var 4) (.cst (.int 0))) (.call false "_law_seen" [(.idx (.var 0) (.cst (.int 2))), (.var 2), (.var 3), (.tup [(.bin .sub (.var 4) (.cst (.int 1))), (.bin .sub (.var 1) (.cst (.int 1)))])])) [.ret (.cst (.bool false))] []] [],
    .ret (.cst (.bool true))]⟩
def f_law_rows : Fn := ⟨"_law_rows", 1, 5,
   [.asg (.nm 1) (.lst [(.tup [])]),
    .for (.nm 2) (.rng [(.var 0)]) [.asg (.nm 3) (.lst []),
    .for (.nm 4) (.ex (.var 1)) [.asg (.nm 3) (.bin .add (.var 3) (.lst [(.bin .add (.var 4) (.tup [(.cst (.bool false))])), (.bin .add (.var 4) (.tup [(.cst (.bool true))]))]))],
    .asg (.nm 1) (.var 3)],
    .ret (.var 1)]⟩
def f_law_worlds : Fn := ⟨"_law_worlds", 2, 6,
   [.newl 2 (.lst []),
    .for (.nm 3) (.ex (.call false "_law_rows" [(.idx (.var 0) (.cst (.int 0)))])) [.for (.nm 4) (.ex (.call false "_law_rows" [(.bi .len (.idx (.var 0) (.cst (.int 1))))])) [.for (.nm 5) (.rng [(.bin .add (.var 1) (.cst (.int 1)))]) [.iff (.call false "_law_can" [(.var 0), (.var 1), (.var 3), (.var 4), (.var 5)]) [.app 2 (.tup [(.var 3), (.var 4), (.var 5)])] []]]],
    .retv 2]⟩
def f_law_spots : Fn := ⟨"_law_spots", 2, 5,
   [.asg (.nm 2) (.lst []),
    .for (.nm 3) (.ex (.lst [(.cst (.int 0)), (.bin .fdiv (.var 1) (.cst (.int 3))), (.bin .fdiv (.var 1) (.cst (.int 2))), (.bin .fdiv (.bin .mul (.var 1) (.cst (.int 2))) (.cst (.int 3))), (.var 1)])) [.asg (.nm 2) (.bin .add (.var 2) (.lrange (.bin .sub (.var 3) (.cst (.int 14))) (.bin .add (.var 3) (.cst (.int 15)))))],
    .ret (.lcE [4] (.var 4) (.nm 4) (.bi .sortset (.var 2)) (some (.chain .le .le (.cst (.int 0)) (.var 4) (.var 1))))]⟩
def f_law_parts : Fn := ⟨"_law_parts", 2, 10,
   [.par1 3 4 (.call true "_law_spots" [(.var 0), (.var 1)]) (.lst []),
    .for (.nm 2) (.ex (.call false "_law_rows" [(.idx (.var 0) (.cst (.int 0)))])) [.for (.nm 5) (.ex (.call false "_law_rows" [(.bi .len (.idx (.var 0) (.cst (.int 1))))])) [.for (.tp [6, 7]) (.zip (.var 3) (.bin .add (.slc (.var 3) (some (.cst (.int 1))) none) (.lst [(.bin .add (.var 1) (.cst (.int 1)))]))) [.for (.nm 8) (.rng [(.var 6), (.min2 (.var 7) (.bin .add (.var 6) (.cst (.int 3))))]) [.asg (.nm 9) (.ite (.bin .eq (.var 8) (.var 6)) (.cst (.int 1)) (.bin .fdiv (.bin .add (.bin .sub (.var 7) (.var 8)) (.cst (.int 1))) (.cst (.int 2)))),
    .iff (.call false "_law_can" [(.var 0), (.var 1), (.var 2), (.var 5), (.var 8)]) [.app 4 (.tup [(.var 2), (.var 5), (.var 8), (.var 9)])] []]]]],
    .retv 4]⟩
def f_answers_of : Fn := ⟨"answers_of", 1, 2,
   [.ret (.lcR [1] .nev (.nm 1) [(.bin .add (.glo "FIRST" (.int 72)) (.bin .mul (.cst (.int 2)) (.glo "ROUND" (.int 12))))] none)]⟩
def f_shortest : Fn := ⟨"shortest", 2, 3,
   [.for (.nm 2) (.rng [(.cst (.int 1)), (.bin .add (.bi .len (.var 1)) (.cst (.int 1)))]) [.iff (.and (.bin .eq (.bin .mod (.bi .len (.var 1)) (.var 2)) (.cst (.int 0))) (.bin .eq (.var 1) (.bin .mul (.slc (.var 1) none (some (.var 2))) (.bin .fdiv (.bi .len (.var 1)) (.var 2))))) [.asg (.nm 1) (.slc (.var 1) none (some (.var 2))),
    .brk] []],
    .whl 100 (.and (.bin .ne (.var 0) (.tup [])) (.bin .eq (.idx (.var 0) (.neg (.cst (.int 1)))) (.idx (.var 1) (.neg (.cst (.int 1)))))) [.par 0 1 (.slc (.var 0) none (some (.neg (.cst (.int 1))))) (.bin .add (.slc (.var 1) (some (.neg (.cst (.int 1)))) none) (.slc (.var 1) none (some (.neg (.cst (.int 1))))))],
    .ret (.tup [(.var 0), (.var 1)])]⟩
def f_calendar_of : Fn := ⟨"calendar_of", 1, 2,
   [.asg (.nm 1) (.call true "answers_of" [(.var 0)]),
    .ret (.call false "shortest" [(.bi .tuple (.slc (.var 1) none (some (.glo "FIRST" (.int 72))))), (.bi .tuple (.slc (.var 1) (some (.glo "FIRST" (.int 72))) (some (.bin .add (.glo "FIRST" (.int 72)) (.glo "ROUND" (.int 12))))))])]⟩
def f_need_claim : Fn := ⟨"need_claim", 2, 2,
   [.iff (.not (.call false "is_claim" [(.var 0), (.var 1)])) [.nev] []]⟩
def f_told_how : Fn := ⟨"told_how", 1, 1,
   [.iff (.bin .eq (.var 0) (.lst [])) [.ret (.cst (.str "none"))] [],
    .iff (.bin .notin (.cst (.bool false)) (.var 0)) [.ret (.cst (.str "always"))] [],
    .ret (.ite (.bin .inn (.cst (.bool true)) (.var 0)) (.cst (.str "sometimes")) (.cst (.str "never")))]⟩
def f_how_of : Fn := ⟨"how_of", 3, 8,
   [.asg (.nm 3) (.call true "stretches" [(.var 0), (.tup [(.var 2)]), (.var 1)]),
    .ret (.call false "told_how" [(.lcE [4, 5, 6, 7] (.call false "is_true" [(.var 2), (.var 4), (.var 5), (.var 6), (.var 1)]) (.tp [4, 5, 6, 7]) (.var 3) none)])]⟩
def f_need_word : Fn := ⟨"need_word", 1, 1,
   [.iff (.or (.not (.isin (.var 0) [.str])) (.bin .notin (.var 0) (.glo "WORDS" (.tuple [(.str "always"), (.str "never"), (.str "none"), (.str "sometimes")])))) [.nev] []]⟩
def f_how : Fn := ⟨"how", 3, 3,
   [.ex (.call false "need_parish" [(.var 0)]),
    .ex (.call false "need_number" [(.var 1), (.cst (.int 0)), (.glo "GREAT" (.int 1000000000000000000000000000000))]),
    .ex (.call false "need_claim" [(.var 0), (.var 2)]),
    .ret (.call false "how_of" [(.var 0), (.var 1), (.var 2)])]⟩
def f_calendar : Fn := ⟨"calendar", 2, 2,
   [.ex (.call false "need_parish" [(.var 0)]),
    .ex (.call false "need_claim" [(.var 0), (.var 1)]),
    .ret (.call false "calendar_of" [.nev])]⟩
def f_first_number : Fn := ⟨"first_number", 3, 4,
   [.ex (.call false "need_parish" [(.var 0)]),
    .ex (.call false "need_claim" [(.var 0), (.var 1)]),
    .ex (.call false "need_word" [(.var 2)]),
    .asg (.nm 3) (.call true "answers_of" [.nev]),
    .ret (.ite (.bin .inn (.var 2) (.var 3)) .nev (.cst .none))]⟩
def f_law_true : Fn := ⟨"_law_true", 3, 3,
   [.ret (.call false "_law_seen" [(.var 0), (.idx (.var 2) (.cst (.int 0))), (.idx (.var 2) (.cst (.int 1))), (.tup [(.idx (.var 2) (.cst (.int 2))), (.var 1)])])]⟩
def f_law_word : Fn := ⟨"_law_word", 1, 1,
   [.iff (.bin .eq (.var 0) (.lst [])) [.ret (.cst (.str "none"))] [],
    .ret (.ite (.bin .notin (.cst (.bool false)) (.var 0)) (.cst (.str "always")) (.ite (.bin .inn (.cst (.bool true)) (.var 0)) (.cst (.str "sometimes")) (.cst (.str "never"))))]⟩
def f_law_how : Fn := ⟨"_law_how", 3, 4,
   [.ret (.call false "_law_word" [(.lcE [3] (.call false "_law_true" [(.var 2), (.var 1), (.var 3)]) (.nm 3) (.call true "_law_worlds" [(.var 0), (.var 1)]) none)])]⟩
def f_law_told : Fn := ⟨"_law_told", 2, 4,
   [.asg (.tp [2, 3]) (.var 0),
    .ret (.ite (.bin .lt (.var 1) (.bi .len (.var 2))) (.idx (.var 2) (.var 1)) (.idx (.var 3) (.bin .mod (.bin .sub (.var 1) (.bi .len (.var 2))) (.bi .len (.var 3)))))]⟩
def f_law_shortest : Fn := ⟨"_law_shortest", 1, 4,
   [.iff (.or (.not (.isin (.var 0) [.tuple])) (.bin .ne (.bi .len (.var 0)) (.cst (.int 2)))) [.ret (.cst (.bool false))] [],
    .asg (.tp [2, 3]) (.var 0),
    .iff (.or (.not (.isin (.var 2) [.tuple])) (.or (.not (.isin (.var 3) [.tuple])) (.not (.chain .lt .lt (.cst (.int 0)) (.bi .len (.var 3)) (.cst (.int 40)))))) [.ret (.cst (.bool false))] [],
    .for (.nm 1) (.rng [(.cst (.int 1)), (.bi .len (.var 3))]) [.iff (.and (.bin .eq (.bin .mod (.bi .len (.var 3)) (.var 1)) (.cst (.int 0))) (.bin .eq (.var 3) (.bin .mul (.slc (.var 3) none (some (.var 1))) (.bin .fdiv (.bi .len (.var 3)) (.var 1))))) [.ret (.cst (.bool false))] []],
    .ret (.bin .lt (.bi .len (.var 2)) (.cst (.int 90)))]⟩
def f_common : Fn := ⟨"common", 2, 2,
   [.par 0 1 (.bi .abs (.var 0)) (.bi .abs (.var 1)),
    .whl 100 (.bin .ne (.var 1) (.cst (.int 0))) [.par 0 1 (.var 1) (.bin .mod (.var 0) (.var 1))],
    .ret (.var 0)]⟩
def f_line_of : Fn := ⟨"line_of", 3, 7,
   [.iff (.isc false (.var 1) .none) [.ret (.cst .none)] [],
    .par 5 6 (.bin .sub (.var 2) (.var 1)) (.glo "ROUND" (.int 12)),
    .asg (.nm 3) (.bin .sub (.bin .mul (.var 6) (.var 1)) (.bin .mul (.var 5) (.var 0))),
    .asg (.nm 4) (.call false "common" [(.call false "common" [(.var 5), (.var 3)]), (.var 6)]),
    .ret (.tup [(.bin .fdiv (.var 5) (.var 4)), (.bin .fdiv (.var 3) (.var 4)), (.bin .fdiv (.var 6) (.var 4))])]⟩
def f_is_on : Fn := ⟨"is_on", 3, 3,
   [.iff (.or (.isc false (.var 0) .none) (.isc false (.var 2) .none)) [.ret (.and (.isc false (.var 0) .none) (.isc false (.var 2) .none))] [],
    .ret (.bin .eq (.bin .add (.bin .mul (.idx (.var 0) (.cst (.int 0))) (.var 1)) (.idx (.var 0) (.cst (.int 1)))) (.bin .mul (.var 2) (.idx (.var 0) (.cst (.int 2)))))]⟩
def f_numbers_of : Fn := ⟨"numbers_of", 1, 7,
   [.asg (.nm 1) (.call true "answers_of" [(.var 0)]),
    .asg (.nm 2) (.lcR [6] (.call false "line_of" [(.var 6), (.idx (.var 1) (.var 6)), (.idx (.var 1) (.bin .add (.var 6) (.glo "ROUND" (.int 12))))]) (.nm 6) [(.glo "FIRST" (.int 72)), (.bin .add (.glo "FIRST" (.int 72)) (.glo "ROUND" (.int 12)))] none),
    .asg (.nm 3) (.bi .min (.lcR [3] (.var 3) (.nm 3) [(.cst (.int 1)), (.bin .add (.glo "ROUND" (.int 12)) (.cst (.int 1)))] (some (.and (.bin .eq (.bin .mod (.glo "ROUND" (.int 12)) (.var 3)) (.cst (.int 0))) (.bin .eq (.var 2) (.bin .mul (.slc (.var 2) none (some (.var 3))) (.bin .fdiv (.glo "ROUND" (.int 12)) (.var 3)))))))),
    .asg (.nm 4) (.glo "FIRST" (.int 72)),
    .whl 100 (.and (.bin .gt (.var 4) (.cst (.int 0))) (.call false "is_on" [(.idx (.var 2) (.bin .mod (.bin .sub (.bin .sub (.var 4) (.cst (.int 1))) (.glo "FIRST" (.int 72))) (.var 3))), (.bin .sub (.var 4) (.cst (.int 1))), (.idx (.var 1) (.bin .sub (.var 4) (.cst (.int 1))))])) [.aug 4 .sub (.cst (.int 1))],
    .asg (.nm 5) (.bin .mod (.bin .sub (.var 4) (.glo "FIRST" (.int 72))) (.var 3)),
    .ret (.tup [(.bi .tuple (.slc (.var 1) none (some (.var 4)))), (.bi .tuple (.bin .add (.slc (.var 2) (some (.var 5)) (some (.var 3))) (.slc (.var 2) none (some (.var 5)))))])]⟩
def f_least_of : Fn := ⟨"least_of", 2, 7,
   [.asg (.nm 2) (.lcE [3, 4, 5, 6] (.var 5) (.tp [3, 4, 5, 6]) (.call true "stretches" [(.var 0), (.tup []), (.var 1)]) none),
    .ret (.ite (.bin .ne (.var 2) (.lst [])) (.bi .min (.var 2)) (.cst .none))]⟩
def f_greatest_of : Fn := ⟨"greatest_of", 2, 7,
   [.asg (.nm 2) (.lcE [3, 4, 5, 6] (.var 6) (.tp [3, 4, 5, 6]) (.call true "stretches" [(.var 0), (.tup []), (.var 1)]) none),
    .ret (.ite (.bin .ne (.var 2) (.lst [])) (.bi .max (.var 2)) (.cst .none))]⟩
def f_liars_range : Fn := ⟨"liars_range", 2, 3,
   [.ex (.call false "need_parish" [(.var 0)]),
    .ex (.call false "need_number" [(.var 1), (.cst (.int 0)), (.glo "GREAT" (.int 1000000000000000000000000000000))]),
    .asg (.nm 2) (.call false "least_of" [(.var 0), (.var 1)]),
    .ret (.ite (.isc true (.var 2) .none) (.tup [(.var 2), (.call false "greatest_of" [(.var 0), (.var 1)])]) (.cst .none))]⟩
def f_least_liars : Fn := ⟨"least_liars", 1, 1,
   [.ex (.call false "need_parish" [(.var 0)]),
    .ret (.call false "numbers_of" [.nev])]⟩
def f_greatest_liars : Fn := ⟨"greatest_liars", 1, 1,
   [.ex (.call false "need_parish" [(.var 0)]),
    .ret (.call false "numbers_of" [.nev])]⟩
def f_world_counts : Fn := ⟨"world_counts", 1, 1,
   [.ex (.call false "need_parish" [(.var 0)]),
    .ret (.call false "numbers_of" [.nev])]⟩
def f_speakers_of : Fn := ⟨"speakers_of", 1, 3,
   [.asg (.nm 1) (.bin .add (.bi .list (.idx (.var 0) (.cst (.int 1)))) (.lst [(.idx (.var 0) (.cst (.int 2)))])),
    .ret (.lcR [2] (.var 2) (.nm 2) [(.bi .len (.var 1))] (some (.isc true (.idx (.var 1) (.var 2)) .none)))]⟩
def f_alone_with : Fn := ⟨"alone_with", 2, 9,
   [.asg (.tp [3, 4, 5, 6]) (.var 0),
    .asg (.nm 2) (.bi .tuple (.lcN [7, 8] (.ite (.bin .inn (.var 7) (.var 1)) (.var 8) (.cst .none)) (.tp [7, 8]) (.var 4) none)),
    .ret (.tup [(.var 3), (.var 2), (.ite (.bin .inn (.bi .len (.var 4)) (.var 1)) (.var 5) (.cst .none)), (.var 6)])]⟩
def f_is_sure : Fn := ⟨"is_sure", 2, 4,
   [.ret (.and (.bi .all (.lcE [2] (.bin .inn (.call false "how_of" [(.var 0), (.var 2), (.var 1)]) (.tup [(.cst (.str "always")), (.cst (.str "none"))])) (.nm 2) (.tup [(.cst (.int 0)), (.cst (.int 1)), (.cst (.int 2)), (.cst (.int 3)), (.cst (.int 7))]) none)) (.bi .all (.lcE [3] (.bin .inn (.var 3) (.tup [(.cst (.str "always")), (.cst (.str "none"))])) (.nm 3) (.call true "answers_of" [.nev]) none)))]⟩
def f_lots_of : Fn := ⟨"lots_of", 1, 5,
   [.asg (.nm 1) (.lst [(.tup [])]),
    .for (.nm 2) (.ex (.var 0)) [.asg (.nm 1) (.bin .add (.var 1) (.lcE [4] (.bin .add (.var 4) (.tup [(.var 2)])) (.nm 4) (.var 1) none))],
    .ret .nev]⟩
def f_least_lots : Fn := ⟨"least_lots", 2, 6,
   [.ex (.call false "need_parish" [(.var 0)]),
    .ex (.call false "need_claim" [(.var 0), (.var 1)]),
    .newl 2 (.lst []),
    .for (.nm 3) (.ex (.call false "lots_of" [(.call true "speakers_of" [(.var 0)])])) [.iff (.and (.not (.bi .any (.lcE [4] (.bi .all (.lcE [5] (.bin .inn (.var 5) (.var 3)) (.nm 5) (.var 4) none)) (.nm 4) (.var 2) none))) (.call false "is_sure" [(.call false "alone_with" [(.var 0), (.var 3)]), (.var 1)])) [.app 2 (.var 3)] []],
    .ret (.bi .sorted (.var 2))]⟩
def f_law_alone : Fn := ⟨"_law_alone", 2, 8,
   [.asg (.tp [3, 4, 5, 6]) (.var 0),
    .asg (.nm 2) (.bi .tuple (.lcR [7] (.ite (.bin .inn (.var 7) (.var 1)) (.idx (.var 4) (.var 7)) (.cst .none)) (.nm 7) [(.bi .len (.var 4))] none)),
    .ret (.tup [(.var 3), (.var 2), (.ite (.bin .inn (.bi .len (.var 4)) (.var 1)) (.var 5) (.cst .none)), (.var 6)])]⟩
def f_law_speakers : Fn := ⟨"_law_speakers", 1, 3,
   [.asg (.nm 1) (.bin .add (.idx (.var 0) (.cst (.int 1))) (.tup [(.idx (.var 0) (.cst (.int 2)))])),
    .ret (.lcR [2] (.var 2) (.nm 2) [(.bi .len (.var 1))] (some (.isc true (.idx (.var 1) (.var 2)) .none)))]⟩
def f_law_all_lots : Fn := ⟨"_law_all_lots", 1, 5,
   [.asg (.nm 1) (.lst [(.tup [])]),
    .for (.nm 2) (.ex (.var 0)) [.asg (.nm 1) (.bin .add (.var 1) (.lcE [4] (.bin .add (.var 4) (.tup [(.var 2)])) (.nm 4) (.var 1) none))],
    .ret (.lcE [3, 4] (.var 4) (.tp [3, 4]) (.bi .sorted (.lcE [4] (.tup [(.bi .len (.var 4)), (.var 4)]) (.nm 4) (.var 1) none)) none)]⟩
def f_law_inside : Fn := ⟨"_law_inside", 2, 3,
   [.ret (.bin .eq (.lcE [2] (.var 2) (.nm 2) (.var 0) (some (.bin .notin (.var 2) (.var 1)))) (.lst []))]⟩
def f_idle_speakers : Fn := ⟨"idle_speakers", 1, 8,
   [.ex (.call false "need_parish" [(.var 0)]),
    .asg (.nm 1) (.call true "answers_of" [.nev]),
    .newl 2 (.lst []),
    .for (.nm 3) (.ex (.call true "speakers_of" [(.var 0)])) [.asg (.nm 4) (.call false "alone_with" [(.var 0), (.lcE [5] (.var 5) (.nm 5) (.call true "speakers_of" [(.var 0)]) (some (.bin .ne (.var 5) (.var 3))))]),
    .iff (.bi .all (.lcN [6, 7] (.bin .eq (.call false "number_of" [(.var 4), (.var 6)]) (.var 7)) (.tp [6, 7]) (.var 1) none)) [.app 2 (.var 3)] []],
    .retv 2]⟩
def f_quarrels : Fn := ⟨"quarrels", 2, 6,
   [.ex (.call false "need_parish" [(.var 0)]),
    .ex (.call false "need_number" [(.var 1), (.cst (.int 0)), (.glo "GREAT" (.int 1000000000000000000000000000000))]),
    .newl 2 (.lst []),
    .for (.nm 3) (.ex (.call false "lots_of" [(.call true "speakers_of" [(.var 0)])])) [.iff (.and (.not (.bi .any (.lcE [4] (.bi .all (.lcE [5] (.bin .inn (.var 5) (.var 3)) (.nm 5) (.var 4) none)) (.nm 4) (.var 2) none))) (.bin .eq (.call false "number_of" [(.call false "alone_with" [(.var 0), (.var 3)]), (.var 1)]) (.cst (.int 0)))) [.app 2 (.var 3)] []],
    .ret (.bi .sorted (.var 2))]⟩
def f_are_mates : Fn := ⟨"are_mates", 2, 2,
   [.ret (.bin .eq (.tup [(.idx (.var 0) (.cst (.int 0))), (.bi .len (.idx (.var 0) (.cst (.int 1))))]) (.tup [(.idx (.var 1) (.cst (.int 0))), (.bi .len (.idx (.var 1) (.cst (.int 1))))]))]⟩
def f_need_mates : Fn := ⟨"need_mates", 2, 2,
   [.ex (.call false "need_parish" [(.var 0)]),
    .ex (.call false "need_parish" [(.var 1)]),
    .iff (.not (.call false "are_mates" [(.var 0), (.var 1)])) [.nev] []]⟩
def f_parted_at : Fn := ⟨"parted_at", 3, 9,
   [.asg (.nm 3) (.bi .sortset (.bin .add (.call true "marks_of" [(.var 0), (.tup []), (.var 2)]) (.call true "marks_of" [(.var 1), (.tup []), (.var 2)]))),
    .newl 4 (.lst []),
    .for (.nm 5) (.ex (.call false "rows_of" [(.idx (.var 0) (.cst (.int 0)))])) [.for (.nm 6) (.ex (.call false "rows_of" [(.bi .len (.idx (.var 0) (.cst (.int 1))))])) [.for (.nm 7) (.ex (.var 3)) [.for (.nm 8) (.ex (.tup [(.var 7), (.bin .add (.var 7) (.cst (.int 1)))])) [.iff (.and (.bin .le (.var 8) (.var 2)) (.bin .ne (.call false "can_be" [(.var 0), (.var 5), (.var 6), (.var 8), (.var 2)]) (.call false "can_be" [(.var 1), (.var 5), (.var 6), (.var 8), (.var 2)]))) [.app 4 (.tup [(.var 5), (.var 6), (.var 8)])] []]]]],
    .ret (.ite (.bin .ne (.var 4) (.lst [])) (.bi .min (.var 4)) (.cst .none))]⟩
def f_parted : Fn := ⟨"parted", 2, 4,
   [.for (.nm 2) (.rng [(.bin .add (.glo "FIRST" (.int 72)) (.bin .mul (.cst (.int 2)) (.glo "ROUND" (.int 12))))]) [.asg (.nm 3) (.call false "parted_at" [(.var 0), (.var 1), (.var 2)]),
    .iff (.isc true (.var 3) .none) [.ret (.tup [(.var 2), (.var 3)])] []],
    .ret (.cst .none)]⟩
def f_alike : Fn := ⟨"alike", 2, 2,
   [.ex (.call false "need_mates" [(.var 0), (.var 1)]),
    .ret (.isc false (.call false "parted" [(.var 0), (.var 1)]) .none)]⟩
def f_parting : Fn := ⟨"parting", 2, 2,
   [.ex (.call false "need_mates" [(.var 0), (.var 1)]),
    .ret (.call false "parted" [(.var 0), (.var 1)])]⟩
def f_is_question : Fn := ⟨"is_question", 2, 2,
   [.ret (.and (.call false "has_items" [(.var 1), (.cst (.int 2)), (.cst (.int 2))]) (.and (.call false "is_within" [(.idx (.var 1) (.cst (.int 0))), (.cst (.int 0)), (.bin .sub (.bi .len (.idx (.var 0) (.cst (.int 1)))) (.cst (.int 1)))]) (.call false "is_claim" [(.var 0), (.idx (.var 1) (.cst (.int 1)))])))]⟩
def f_is_plan_value : Fn := ⟨"is_plan_value", 3, 3,
   [.iff (.isin (.var 1) [.bool]) [.ret (.cst (.bool true))] [],
    .iff (.or (.bin .eq (.var 2) (.cst (.int 0))) (.or (.not (.call false "has_items" [(.var 1), (.cst (.int 5)), (.cst (.int 5))])) (.or (.not (.isin (.idx (.var 1) (.cst (.int 0))) [.str])) (.bin .ne (.idx (.var 1) (.cst (.int 0))) (.cst (.str "ask")))))) [.ret (.cst (.bool false))] [],
    .iff (.not (.call false "is_question" [(.var 0), (.slc (.var 1) (some (.cst (.int 1))) (some (.cst (.int 3))))])) [.ret (.cst (.bool false))] [],
    .ret (.and (.call false "is_plan_value" [(.var 0), (.idx (.var 1) (.cst (.int 3))), (.bin .sub (.var 2) (.cst (.int 1)))]) (.call false "is_plan_value" [(.var 0), (.idx (.var 1) (.cst (.int 4))), (.bin .sub (.var 2) (.cst (.int 1)))]))]⟩
def f_formulas_in : Fn := ⟨"formulas_in", 1, 1,
   [.ret (.ite (.isin (.var 0) [.bool]) (.lst []) (.bin .add (.bin .add (.lst [(.idx (.var 0) (.cst (.int 2)))]) (.call false "formulas_in" [(.idx (.var 0) (.cst (.int 3)))])) (.call false "formulas_in" [(.idx (.var 0) (.cst (.int 4)))])))]⟩
def f_says_yes : Fn := ⟨"says_yes", 3, 6,
   [.asg (.tp [3, 4, 5]) (.var 1),
    .ret (.bin .ne (.call false "is_true" [(.idx (.var 0) (.cst (.int 1))), (.var 3), (.var 4), (.var 5), (.var 2)]) (.idx (.var 4) (.idx (.var 0) (.cst (.int 0)))))]⟩
def f_told_by : Fn := ⟨"told_by", 3, 3,
   [.whl 100 (.not (.isin (.var 0) [.bool])) [.asg (.nm 0) (.ite (.call false "says_yes" [(.slc (.var 0) (some (.cst (.int 1))) (some (.cst (.int 3)))), (.var 1), (.var 2)]) (.idx (.var 0) (.cst (.int 3))) (.idx (.var 0) (.cst (.int 4))))],
    .ret (.var 0)]⟩
def f_samples : Fn := ⟨"samples", 3, 7,
   [.ret (.lcE [3, 4, 5, 6] (.tup [(.var 3), (.var 4), (.var 5)]) (.tp [3, 4, 5, 6]) (.call true "stretches" [(.var 0), (.var 1), (.var 2)]) none)]⟩
def f_does_settle : Fn := ⟨"does_settle", 4, 6,
   [.asg (.nm 4) (.call true "samples" [(.var 0), (.bin .add (.lst [(.var 2)]) (.call false "formulas_in" [(.var 3)])), (.var 1)]),
    .ret (.bi .all (.lcE [5] (.bin .eq (.call false "told_by" [(.var 3), (.var 5), (.var 1)]) (.call false "is_true" [(.var 2), (.idx (.var 5) (.cst (.int 0))), (.idx (.var 5) (.cst (.int 1))), (.idx (.var 5) (.cst (.int 2))), (.var 1)])) (.nm 5) (.var 4) none))]⟩
def f_need_plan : Fn := ⟨"need_plan", 2, 2,
   [.iff (.not (.call false "is_plan_value" [(.var 0), (.var 1), (.glo "MOST_QUESTIONS" (.int 3))])) [.nev] []]⟩
def f_answer : Fn := ⟨"answer", 4, 4,
   [.ex (.call false "need_parish" [(.var 0)]),
    .ex (.call false "need_number" [(.var 1), (.cst (.int 0)), (.glo "GREAT" (.int 1000000000000000000000000000000))]),
    .ex (.call false "need_plan" [(.var 0), (.var 2)]),
    .ex (.call false "need_world" [(.var 0), (.var 1), (.var 3)]),
    .ret (.call false "told_by" [(.var 2), (.var 3), (.var 1)])]⟩
def f_settles : Fn := ⟨"settles", 4, 4,
   [.ex (.call false "need_parish" [(.var 0)]),
    .ex (.call false "need_number" [(.var 1), (.cst (.int 0)), (.glo "GREAT" (.int 1000000000000000000000000000000))]),
    .ex (.call false "need_claim" [(.var 0), (.var 2)]),
    .ex (.call false "need_plan" [(.var 0), (.var 3)]),
    .ret (.call false "does_settle" [(.var 0), (.var 1), (.var 2), (.var 3)])]⟩
def f_fails_at : Fn := ⟨"fails_at", 3, 5,
   [.ex (.call false "need_parish" [(.var 0)]),
    .ex (.call false "need_claim" [(.var 0), (.var 1)]),
    .ex (.call false "need_plan" [(.var 0), (.var 2)]),
    .asg (.nm 3) (.lcR [4] (.var 4) (.nm 4) [(.bin .add (.glo "FIRST" (.int 72)) (.glo "ROUND" (.int 12)))] (some (.not (.call false "does_settle" [(.var 0), (.var 4), (.var 1), (.var 2)])))),
    .ret (.ite (.bin .ne (.var 3) (.lst [])) (.idx (.var 3) (.cst (.int 0))) (.cst .none))]⟩
def f_law_yes : Fn := ⟨"_law_yes", 4, 5,
   [.asg (.nm 4) (.call false "_law_true" [(.var 1), (.var 2), (.var 3)]),
    .ret (.ite (.idx (.idx (.var 3) (.cst (.int 1))) (.var 0)) (.not (.var 4)) (.var 4))]⟩
def f_law_led : Fn := ⟨"_law_led", 3, 4,
   [.asg (.nm 3) (.var 0),
    .whl 100 (.not (.isin (.var 3) [.bool])) [.asg (.nm 3) (.ite (.call false "_law_yes" [(.idx (.var 3) (.cst (.int 1))), (.idx (.var 3) (.cst (.int 2))), (.var 1), (.var 2)]) (.idx (.var 3) (.cst (.int 3))) (.idx (.var 3) (.cst (.int 4))))],
    .ret (.var 3)]⟩
def f_best_plan : Fn := ⟨"best_plan", 4, 12,
   [.asg (.nm 4) (.lcE [9, 10] (.var 10) (.tp [9, 10]) (.var 0) none),
    .iff (.or (.bin .notin (.cst (.bool true)) (.var 4)) (.bin .notin (.cst (.bool false)) (.var 4))) [.ret (.bin .inn (.cst (.bool true)) (.var 4))] [],
    .iff (.bin .eq (.var 3) (.cst (.int 0))) [.ret (.cst .none)] [],
    .for (.nm 5) (.ex (.var 1)) [.asg (.nm 6) (.lcE [11] (.var 11) (.nm 11) (.var 0) (some (.call false "says_yes" [(.var 5), (.idx (.var 11) (.cst (.int 0))), (.var 2)]))),
    .asg (.nm 7) (.call false "best_plan" [(.var 6), (.var 1), (.var 2), (.bin .sub (.var 3) (.cst (.int 1)))]),
    .asg (.nm 8) (.ite (.isc true (.var 7) .none) (.call false "best_plan" [(.lcE [11] (.var 11) (.nm 11) (.var 0) (some (.bin .notin (.var 11) (.var 6)))), (.var 1), (.var 2), (.bin .sub (.var 3) (.cst (.int 1)))]) (.cst .none)),
    .iff (.isc true (.var 8) .none) [.ret (.bin .add (.bin .add (.tup [(.cst (.str "ask"))]) (.var 5)) (.tup [(.var 7), (.var 8)]))] []],
    .ret (.cst .none)]⟩
def f_fewest_of : Fn := ⟨"fewest_of", 4, 11,
   [.asg (.nm 4) (.call true "samples" [(.var 0), (.bin .add (.lst [(.var 2)]) (.lcE [9, 10] (.var 10) (.tp [9, 10]) (.var 3) none)), (.var 1)]),
    .asg (.nm 5) (.lcE [8] (.tup [(.var 8), (.call false "is_true" [(.var 2), (.idx (.var 8) (.cst (.int 0))), (.idx (.var 8) (.cst (.int 1))), (.idx (.var 8) (.cst (.int 2))), (.var 1)])]) (.nm 8) (.var 4) none),
    .for (.nm 6) (.rng [(.bin .add (.glo "MOST_FEWEST" (.int 2)) (.cst (.int 1)))]) [.asg (.nm 7) (.call false "best_plan" [(.var 5), (.var 3), (.var 1), (.var 6)]),
    .iff (.isc true (.var 7) .none) [.ret (.tup [(.var 6), (.var 7)])] []],
    .ret (.cst .none)]⟩
def f_need_menu : Fn := ⟨"need_menu", 2, 3,
   [.iff (.or (.not (.call false "has_items" [(.var 1), (.cst (.int 1)), (.cst (.int 4))])) (.not (.bi .all (.lcE [2] (.call false "is_question" [(.var 0), (.var 2)]) (.nm 2) (.var 1) none)))) [.nev] []]⟩
def f_fewest_questions : Fn := ⟨"fewest_questions", 4, 5,
   [.ex (.call false "need_parish" [(.var 0)]),
    .ex (.call false "need_number" [(.var 1), (.cst (.int 0)), (.glo "GREAT" (.int 1000000000000000000000000000000))]),
    .ex (.call false "need_claim" [(.var 0), (.var 2)]),
    .ex (.call false "need_menu" [(.var 0), (.var 3)]),
    .asg (.nm 4) (.call false "fewest_of" [(.var 0), (.var 1), (.var 2), (.var 3)]),
    .ret (.ite (.isc true (.var 4) .none) (.idx (.var 4) (.cst (.int 0))) (.cst .none))]⟩
def f_plan_for : Fn := ⟨"plan_for", 4, 5,
   [.ex (.call false "need_parish" [(.var 0)]),
    .ex (.call false "need_number" [(.var 1), (.cst (.int 0)), (.glo "GREAT" (.int 1000000000000000000000000000000))]),
    .ex (.call false "need_claim" [(.var 0), (.var 2)]),
    .ex (.call false "need_menu" [(.var 0), (.var 3)]),
    .asg (.nm 4) (.call false "fewest_of" [(.var 0), (.var 1), (.var 2), (.var 3)]),
    .ret (.ite (.isc true (.var 4) .none) (.idx (.var 4) (.cst (.int 1))) (.cst .none))]⟩
def f_need_known : Fn := ⟨"need_known", 2, 3,
   [.iff (.or (.not (.call false "has_items" [(.var 1), (.cst (.int 0)), (.glo "MOST_KNOWN" (.int 4))])) (.not (.bi .all (.lcE [2] (.call false "is_claim" [(.var 0), (.var 2)]) (.nm 2) (.var 1) none)))) [.nev] []]⟩
def f_worlds_with : Fn := ⟨"worlds_with", 3, 6,
   [.asg (.nm 3) (.call true "stretches" [(.var 0), (.var 2), (.var 1)]),
    .ret (.lcE [4] (.var 4) (.nm 4) (.var 3) (some (.bi .all (.lcE [5] (.call false "is_true" [(.var 5), (.idx (.var 4) (.cst (.int 0))), (.idx (.var 4) (.cst (.int 1))), (.idx (.var 4) (.cst (.int 2))), (.var 1)]) (.nm 5) (.var 2) none))))]⟩
def f_world_with : Fn := ⟨"world_with", 3, 8,
   [.ex (.call false "need_parish" [(.var 0)]),
    .ex (.call false "need_number" [(.var 1), (.cst (.int 0)), (.glo "GREAT" (.int 1000000000000000000000000000000))]),
    .ex (.call false "need_known" [(.var 0), (.var 2)]),
    .asg (.nm 3) (.lcE [4, 5, 6, 7] (.tup [(.var 4), (.var 5), (.var 6)]) (.tp [4, 5, 6, 7]) (.call true "worlds_with" [(.var 0), (.var 1), (.var 2)]) none),
    .ret (.ite (.bin .ne (.var 3) (.lst [])) (.bi .min (.var 3)) (.cst .none))]⟩
def f_numbers_told : Fn := ⟨"numbers_told", 2, 2,
   [.ex (.call false "need_parish" [(.var 0)]),
    .ex (.call false "need_known" [(.var 0), (.var 1)]),
    .ret (.call false "calendar_of" [.nev])]⟩
def f_words_of : Fn := ⟨"words_of", 1, 4,
   [.iff (.isc false (.var 0) .none) [.ret (.lst [(.cst (.str "-"))])] [],
    .iff (.bin .inn (.idx (.var 0) (.cst (.int 0))) .nev) [.ret (.bin .add (.lst [(.idx (.var 0) (.cst (.int 0)))]) (.lc2 [2, 3] [3] (.var 3) (.nm 2) (.slc (.var 0) (some (.cst (.int 1))) none) (.nm 3) (.call false "words_of" [(.var 2)])))] [],
    .ret (.lcE [1] .nev (.nm 1) (.var 0) none)]⟩
def f_parish_rows : Fn := ⟨"parish_rows", 1, 7,
   [.asg (.tp [2, 3, 4, 5]) (.var 0),
    .asg (.nm 1) (.bin .add (.lst [.nev]) (.lcE [6] .nev (.nm 6) (.var 3) none)),
    .ret (.bin .add (.var 1) (.lst [.nev, (.ite (.isc false (.var 5) .none) (.cst (.str "most -")) .nev)]))]⟩
def f_taken : Fn := ⟨"taken", 2, 9,
   [.iff (.or (.bin .eq (.var 0) (.lst [])) (.bin .eq (.var 1) (.cst (.int 0)))) [.ret (.cst .none)] [],
    .nev,
    .iff (.bin .inn (.var 3) .nev) [.asg (.nm 6) (.slc (.var 4) none (some (.idx .nev (.var 3)))),
    .iff (.or (.bin .lt (.bi .len (.var 6)) (.idx .nev (.var 3))) (.not (.bi .all (.lcE [8] (.bin .inn (.var 8) (.tup [(.cst (.str "0")), (.cst (.str "1")), (.cst (.str "2")), (.cst (.str "3")), (.cst (.str "4"))])) (.nm 8) (.var 6) none)))) [.ret (.cst .none)] [],
    .ret (.tup [(.bin .add (.tup [(.var 3)]) (.bi .tuple (.lcE [8] (.bi .int (.var 8)) (.nm 8) (.var 6) none))), (.slc (.var 4) (some (.idx .nev (.var 3))) none)])] [],
    .for (.nm 2) (.rng [.nev]) [.asg (.nm 7) (.call false "taken" [(.var 4), (.bin .sub (.var 1) (.cst (.int 1)))]),
    .iff (.isc false (.var 7) .none) [.ret (.cst .none)] [],
    .par 5 4 (.bin .add (.var 5) (.tup [(.idx (.var 7) (.cst (.int 0)))])) (.idx (.var 7) (.cst (.int 1)))],
    .ret (.ite (.bin .ne (.var 5) (.tup [])) (.tup [(.bin .add (.tup [(.var 3)]) (.var 5)), (.var 4)]) (.cst .none))]⟩
def f_said_in : Fn := ⟨"said_in", 1, 2,
   [.iff (.bin .eq (.var 0) (.lst [(.cst (.str "-"))])) [.ret (.lst [(.cst .none)])] [],
    .asg (.nm 1) (.call false "taken" [(.var 0), (.cst (.int 3))]),
    .iff (.or (.isc false (.var 1) .none) (.or (.bin .ne (.idx (.var 1) (.cst (.int 1))) (.lst [])) (.not (.call false "is_formula_value" [(.cst (.int 2)), (.cst (.int 3)), (.idx (.var 1) (.cst (.int 0))), (.cst (.int 3))])))) [.ret (.lst [])] [],
    .ret (.lst [(.idx (.var 1) (.cst (.int 0)))])]⟩
def f_part_of : Fn := ⟨"part_of", 1, 3,
   [.asg (.nm 1) .nev,
    .iff (.bin .inn (.idx (.var 1) (.cst (.int 0))) (.tup [(.cst (.str "single")), (.cst (.str "crowd"))])) [.asg (.nm 2) (.call true "said_in" [(.slc (.var 1) (some (.cst (.int 1))) none)]),
    .ret (.ite (.bin .ne (.var 2) (.lst [])) (.tup [(.idx (.var 1) (.cst (.int 0))), (.idx (.var 2) (.cst (.int 0)))]) (.cst .none))] [],
    .iff (.bin .ne (.bi .len (.var 1)) (.cst (.int 2))) [.ret (.cst .none)] [],
    .iff (.bin .eq (.idx (.var 1) (.cst (.int 0))) (.cst (.str "facts"))) [.ret (.ite (.bin .inn (.idx (.var 1) (.cst (.int 1))) (.tup [(.cst (.str "0")), (.cst (.str "1")), (.cst (.str "2"))])) (.tup [(.cst (.str "facts")), (.bi .int (.idx (.var 1) (.cst (.int 1))))]) (.cst .none))] [],
    .iff (.or (.bin .ne (.idx (.var 1) (.cst (.int 0))) (.cst (.str "most"))) (.and (.bin .ne (.idx (.var 1) (.cst (.int 1))) (.cst (.str "-"))) (.or (.bin .ne (.bi .len (.idx (.var 1) (.cst (.int 1)))) (.cst (.int 1))) (.bin .notin (.idx (.var 1) (.cst (.int 1))) (.cst (.str "0123456789")))))) [.ret (.cst .none)] [],
    .ret (.tup [(.cst (.str "most")), (.ite (.bin .eq (.idx (.var 1) (.cst (.int 1))) (.cst (.str "-"))) (.cst .none) (.bi .int (.idx (.var 1) (.cst (.int 1)))))])]⟩
def f_parts_of : Fn := ⟨"parts_of", 1, 5,
   [.newl 1 (.lst []),
    .for (.tp [2, 3]) (.enum (.var 0)) [.asg (.nm 4) (.call false "part_of" [(.var 3)]),
    .iff (.isc false (.var 4) .none) [.nev] [],
    .app 1 (.var 4)],
    .retv 1]⟩
def f_parish_of : Fn := ⟨"parish_of", 1, 6,
   [.iff (.not (.isin (.var 0) [.str])) [.nev] [],
    .asg (.nm 1) (.call true "parts_of" [.nev]),
    .asg (.nm 2) (.lcE [4, 5] (.var 4) (.tp [4, 5]) (.var 1) none),
    .iff (.bin .ne (.var 2) (.bin .add (.bin .add (.lst [(.cst (.str "facts"))]) (.rep [(.cst (.str "single"))] (.bin .sub (.bi .len (.var 1)) (.cst (.int 3))))) (.lst [(.cst (.str "crowd")), (.cst (.str "most"))]))) [.nev] [],
    .asg (.nm 3) (.tup [(.idx (.idx (.var 1) (.cst (.int 0))) (.cst (.int 1))), (.bi .tuple (.lcE [4, 5] (.var 5) (.tp [4, 5]) (.slc (.var 1) (some (.cst (.int 1))) (some (.neg (.cst (.int 2))))) none)), (.idx (.idx (.var 1) (.neg (.cst (.int 2)))) (.cst (.int 1))), (.idx (.idx (.var 1) (.neg (.cst (.int 1)))) (.cst (.int 1)))]),
    .iff (.not (.call false "is_parish_value" [(.var 3)])) [.nev] [],
    .ret (.var 3)]⟩
def f_parish_text : Fn := ⟨"parish_text", 1, 1,
   [.ex (.call false "need_parish" [(.var 0)]),
    .ret .nev]⟩
def f_read_parish : Fn := ⟨"read_parish", 1, 1,
   [.ret (.call false "parish_of" [(.var 0)])]⟩
def f_law_say : Fn := ⟨"_law_say", 1, 4,
   [.iff (.isc false (.var 0) .none) [.ret (.cst (.str "-"))] [],
    .iff (.bin .inn (.idx (.var 0) (.cst (.int 0))) (.lst [(.cst (.str "not")), (.cst (.str "and")), (.cst (.str "or"))])) [.asg (.nm 1) (.idx (.var 0) (.cst (.int 0))),
    .for (.nm 3) (.ex (.slc (.var 0) (some (.cst (.int 1))) none)) [.asg (.nm 1) (.bin .add (.bin .add (.var 1) (.cst (.str " "))) (.call false "_law_say" [(.var 3)]))],
    .ret (.var 1)] [],
    .asg (.nm 1) (.idx (.var 0) (.cst (.int 0))),
    .for (.nm 2) (.ex (.slc (.var 0) (some (.cst (.int 1))) none)) [.asg (.nm 1) (.bin .add (.bin .add (.var 1) (.cst (.str " "))) .nev)],
    .ret (.var 1)]⟩
def f_law_writing : Fn := ⟨"_law_writing", 1, 3,
   [.newl 1 (.lst [(.bin .add (.cst (.str "facts ")) .nev)]),
    .for (.nm 2) (.ex (.idx (.var 0) (.cst (.int 1)))) [.app 1 (.bin .add (.cst (.str "single ")) (.call false "_law_say" [(.var 2)]))],
    .app 1 (.bin .add (.cst (.str "crowd ")) (.call false "_law_say" [(.idx (.var 0) (.cst (.int 2)))])),
    .app 1 (.bin .add (.cst (.str "most ")) (.ite (.isc false (.idx (.var 0) (.cst (.int 3))) .none) (.cst (.str "-")) .nev)),
    .ret .nev]⟩
def f_wall : Fn := ⟨"_wall", 1, 1,
   [.whl 100 (.cst (.bool true)) [.pass]]⟩
def f_left_with : Fn := ⟨"left_with", 4, 9,
   [.asg (.nm 4) (.call true "stretches" [(.var 0), (.bin .add (.lcE [6, 7] (.var 7) (.tp [6, 7]) (.var 2) none) (.bi .list (.var 3))), (.var 1)]),
    .ret (.lcE [5] (.var 5) (.nm 5) (.var 4) (some (.bi .all (.lcE [8] (.call false "says_yes" [(.var 8), (.slc (.var 5) none (some (.cst (.int 3)))), (.var 1)]) (.nm 8) (.var 2) none))))]⟩
def f_size_of : Fn := ⟨"size_of", 1, 5,
   [.ret (.bi .sum (.lcE [1, 2, 3, 4] (.bin .add (.bin .fdiv (.bin .sub (.var 4) (.var 3)) (.cst (.int 2))) (.cst (.int 1))) (.tp [1, 2, 3, 4]) (.var 0) none))]⟩
def f_law_put : Fn := ⟨"_law_put", 2, 3,
   [.asg (.nm 2) (.var 0),
    .aug 2 .add (.var 1),
    .ret (.bin .eq (.var 2) (.var 0))]⟩
end Mi
end
section
namespace Mi.K03
open PySem
def f_law_some_right : Fn := ⟨"_law_some_right", 3, 11,
   [.asg (.nm 3) (.call true "_law_spots" [(.var 1), (.var 2)]),
    .for (.nm 4) (.rng [(.cst (.int 10))]) [.asg (.nm 5) (.bi .tuple (.lcR [9] (.bin .eq (.call false "_law_pick" [(.var 0), (.cst (.int 2))]) (.cst (.int 0))) (.nm 9) [(.idx (.var 1) (.cst (.int 0)))] none)),
    .asg (.nm 6) (.bi .tuple (.lcE [10] (.bin .eq (.call false "_law_pick" [(.var 0), (.cst (.int 2))]) (.cst (.int 0))) (.nm 10) (.idx (.var 1) (.cst (.int 1))) none)),
    .asg (.nm 7) (.ite (.bin .gt (.bin .mod (.var 4) (.cst (.int 3))) (.cst (.int 0))) (.call false "_law_one" [(.var 0), (.var 3)]) (.call false "_law_pick" [(.var 0), (.bin .add (.var 2) (.cst (.int 1)))])),
    .asg (.nm 8) (.call false "_law_can" [(.var 1), (.var 2), (.var 5), (.var 6), (.var 7)]),
    .iff (.not (.call false "_law_same" [(.call false "is_possible" [(.var 1), (.var 2), (.tup [(.var 5), (.var 6), (.var 7)])]), (.var 8)])) [.ret (.cst (.bool false))] []],
    .ret (.cst (.bool true))]⟩
def f_law_right : Fn := ⟨"_law_right", 3, 6,
   [.asg (.nm 3) (.call true "_law_parts" [(.var 1), (.var 2)]),
    .iff (.bin .ne (.call false "count_worlds" [(.var 1), (.var 2)]) (.bi .sum (.lcE [5] (.idx (.var 5) (.cst (.int 3))) (.nm 5) (.var 3) none))) [.ret (.cst (.bool false))] [],
    .asg (.nm 4) (.ite (.bin .ne (.var 3) (.lst [])) (.bi .min (.lcE [5] (.slc (.var 5) none (some (.cst (.int 3)))) (.nm 5) (.var 3) none)) (.cst .none)),
    .ret (.and (.call false "_law_same" [(.call false "some_world" [(.var 1), (.var 2)]), (.var 4)]) (.call false "_law_some_right" [(.var 0), (.var 1), (.var 2)]))]⟩
def f_law : Fn := ⟨"law", 1, 16,
   [.for (.nm 1) (.ex (.slc (.bin .add (.lst [(.cst (.int 0))]) (.var 0)) none (some (.cst (.int 9))))) [.newl 4 (.call true "_law_deck" [(.var 1), (.cst (.int 3))]),
    .asg (.nm 5) (.call false "_law_parish" [(.var 4), (.cst (.int 2)), (.cst (.int 3)), (.cst (.int 3))]),
    .for (.nm 6) (.ex (.lst [(.bin .add (.cst (.int 40)) (.call false "_law_pick" [(.var 4), (.cst (.int 60))])), (.bin .add (.bin .pow (.cst (.int 10)) (.cst (.int 9))) (.call false "_law_pick" [(.var 4), (.bin .pow (.cst (.int 10)) (.cst (.int 6)))])), (.bin .sub (.bin .pow (.cst (.int 10)) (.cst (.int 30))) (.call false "_law_pick" [(.var 4), (.cst (.int 24))]))])) [.iff (.not (.call false "_law_right" [(.var 4), (.var 5), (.var 6)])) [.ret (.cst (.bool false))] []]],
    .asg (.tp [7, 8, 9, 10, 11, 12, 13]) (.call false "_law_known" []),
    .iff (.or (.bin .ne (.call false "count_worlds" [(.var 9), (.bin .pow (.cst (.int 10)) (.cst (.int 30)))]) (.bin .add (.bin .mul (.cst (.int 2)) (.bin .pow (.cst (.int 10)) (.cst (.int 30)))) (.cst (.int 2)))) (.bin .ne (.call false "count_worlds" [(.var 10), (.bin .pow (.cst (.int 10)) (.cst (.int 30)))]) (.cst (.int 2)))) [.ret (.cst (.bool false))] [],
    .iff (.or (.bin .ne (.call false "some_world" [(.var 8), (.bin .pow (.cst (.int 10)) (.cst (.int 30)))]) (.tup [(.tup []), (.tup []), (.bin .mul (.cst (.int 5)) (.bin .pow (.cst (.int 10)) (.cst (.int 29))))])) (.isc true (.call false "some_world" [(.var 12), (.bin .pow (.cst (.int 10)) (.cst (.int 30)))]) .none)) [.ret (.cst (.bool false))] [],
    .asg (.nm 2) (.tup [(.cst (.int 0)), (.tup [(.tup [(.cst (.str "share")), (.cst (.int 1)), (.cst (.int 3))])]), (.cst .none), (.cst .none)]),
    .iff (.bin .ne (.lcE [6] (.call false "count_worlds" [(.var 2), (.var 6)]) (.nm 6) (.tup [(.cst (.int 0)), (.cst (.int 7)), (.bin .pow (.cst (.int 10)) (.cst (.int 30)))]) none) (.lst [(.cst (.int 1)), (.cst (.int 8)), (.bin .add (.bin .pow (.cst (.int 10)) (.cst (.int 30))) (.cst (.int 1)))])) [.ret (.cst (.bool false))] [],
    .asg (.tp [14, 15]) (.tup [(.tup [(.cst (.int 0)), (.tup []), (.tup [(.cst (.str "share")), (.cst (.int 2)), (.cst (.int 3))]), (.cst .none)]), (.tup [(.cst (.int 0)), (.tup []), (.tup [(.cst (.str "and")), (.tup [(.cst (.str "share")), (.cst (.int 1)), (.cst (.int 3))]), (.tup [(.cst (.str "odd"))])]), (.cst .none)])]),
    .asg (.nm 3) (.bin .mul (.cst (.int 3)) (.bin .pow (.cst (.int 10)) (.cst (.int 20)))),
    .iff (.bin .ne (.lcE [6] (.idx (.call false "some_world" [(.var 14), (.var 6)]) (.cst (.int 2))) (.nm 6) (.tup [(.var 3), (.bin .add (.var 3) (.cst (.int 1))), (.cst (.int 30))]) none) (.lst [(.bin .mul (.cst (.int 2)) (.bin .pow (.cst (.int 10)) (.cst (.int 20)))), (.bin .mul (.cst (.int 2)) (.bin .pow (.cst (.int 10)) (.cst (.int 20)))), (.cst (.int 20))])) [.ret (.cst (.bool false))] [],
    .iff (.or (.bin .ne (.call false "some_world" [(.var 14), (.bin .add (.var 3) (.cst (.int 2)))]) (.tup [(.tup []), (.tup []), (.bin .add (.bin .mul (.cst (.int 2)) (.bin .pow (.cst (.int 10)) (.cst (.int 20)))) (.cst (.int 1)))])) (.bin .ne (.call false "count_worlds" [(.var 11), (.bin .pow (.cst (.int 10)) (.cst (.int 30)))]) (.bin .pow (.cst (.int 10)) (.cst (.int 30))))) [.ret (.cst (.bool false))] [],
    .ret (.bin .eq (.call true "worlds" [(.var 15), (.cst (.int 30))]) (.call true "_law_worlds" [(.var 15), (.cst (.int 30))]))]⟩
def P : Prg := [f_is_within, f_has_items, f_is_atom, f_is_formula_value, f_is_true, f_atoms_of, f_turns_of, f_is_said, f_is_parish_value, f_need_parish, f_need_number, f_rows_of, f_singles_fit, f_crowd_fits, f_can_be, f_marks_of, f_stretches, f_is_world_value, f_need_world, f_number_of, f_first_world, f_is_possible, f_worlds, f_count_worlds, f_some_world, f_law_deck, f_law_pick, f_law_one, f_law_sort, f_law_same, f_law_atom, f_law_formula, f_law_said, f_law_parish, f_law_seen, f_law_can, f_law_rows, f_law_worlds, f_law_known, f_law_spots, f_law_parts, f_law_some_right, f_law_right, f_law]
theorem find_is_within : P.find "is_within" = some f_is_within := by rfl
theorem find_has_items : P.find "has_items" = some f_has_items := by rfl
theorem find_is_atom : P.find "is_atom" = some f_is_atom := by rfl
theorem find_is_formula_value : P.find "is_formula_value" = some f_is_formula_value := by rfl
theorem find_is_true : P.find "is_true" = some f_is_true := by rfl
theorem find_atoms_of : P.find "atoms_of" = some f_atoms_of := by rfl
theorem find_turns_of : P.find "turns_of" = some f_turns_of := by rfl
theorem find_is_said : P.find "is_said" = some f_is_said := by rfl
theorem find_is_parish_value : P.find "is_parish_value" = some f_is_parish_value := by rfl
theorem find_need_parish : P.find "need_parish" = some f_need_parish := by rfl
theorem find_need_number : P.find "need_number" = some f_need_number := by rfl
theorem find_rows_of : P.find "rows_of" = some f_rows_of := by rfl
theorem find_singles_fit : P.find "singles_fit" = some f_singles_fit := by rfl
theorem find_crowd_fits : P.find "crowd_fits" = some f_crowd_fits := by rfl
theorem find_can_be : P.find "can_be" = some f_can_be := by rfl
theorem find_marks_of : P.find "marks_of" = some f_marks_of := by rfl
theorem find_stretches : P.find "stretches" = some f_stretches := by rfl
theorem find_is_world_value : P.find "is_world_value" = some f_is_world_value := by rfl
theorem find_need_world : P.find "need_world" = some f_need_world := by rfl
theorem find_number_of : P.find "number_of" = some f_number_of := by rfl
theorem find_first_world : P.find "first_world" = some f_first_world := by rfl
theorem find_is_possible : P.find "is_possible" = some f_is_possible := by rfl
theorem find_worlds : P.find "worlds" = some f_worlds := by rfl
theorem find_count_worlds : P.find "count_worlds" = some f_count_worlds := by rfl
theorem find_some_world : P.find "some_world" = some f_some_world := by rfl
theorem find_law_deck : P.find "_law_deck" = some f_law_deck := by rfl
theorem find_law_pick : P.find "_law_pick" = some f_law_pick := by rfl
theorem find_law_one : P.find "_law_one" = some f_law_one := by rfl
theorem find_law_sort : P.find "_law_sort" = some f_law_sort := by rfl
theorem find_law_same : P.find "_law_same" = some f_law_same := by rfl
theorem find_law_atom : P.find "_law_atom" = some f_law_atom := by rfl
theorem find_law_formula : P.find "_law_formula" = some f_law_formula := by rfl
theorem find_law_said : P.find "_law_said" = some f_law_said := by rfl
theorem find_law_parish : P.find "_law_parish" = some f_law_parish := by rfl
theorem find_law_seen : P.find "_law_seen" = some f_law_seen := by rfl
theorem find_law_can : P.find "_law_can" = some f_law_can := by rfl
theorem find_law_rows : P.find "_law_rows" = some f_law_rows := by rfl
theorem find_law_worlds : P.find "_law_worlds" = some f_law_worlds := by rfl
theorem find_law_known : P.find "_law_known" = some f_law_known := by rfl
theorem find_law_spots : P.find "_law_spots" = some f_law_spots := by rfl
theorem find_law_parts : P.find "_law_parts" = some f_law_parts := by rfl
theorem find_law_some_right : P.find "_law_some_right" = some f_law_some_right := by rfl
theorem find_law_right : P.find "_law_right" = some f_law_right := by rfl
theorem find_law : P.find "law" = some f_law := by rfl
end Mi.K03
end
section
set_option maxHeartbeats 0
namespace Mi.K03
open PySem PySem.Spec PyProof.Rows L2
def cs : List (Str × D) := [("SHARES", (.tuple [(.tuple [(.int 1), (.int 2)]), (.tuple [(.int 1), (.int 3)]), (.tuple [(.int 2), (.int 3)])])), ("DEEPEST", (.int 3)), ("GREAT", (.int 1000000000000000000000000000000)), ("MOST_LISTED", (.int 60))]
def nws : List Str := ["turns_of", "marks_of", "stretches", "worlds", "_law_deck", "_law_worlds", "_law_spots", "_law_parts"]
abbrev T : Tb := P.tb cs nws
def top (i : Nat) : Stmt := PySem.Challenge.pw_liarsfew_k03_whole_worlds_of_great_crowd.main.body.getD i (.Pass ⟨0, 0, 0, 0⟩)
def dd (x : Str) (i : Nat) : He.DefD := ⟨(x, none), x, x, defArgs (top i), defBody (top i), defScope (top i), [], []⟩
def fn : List He.DefD := [dd "is_within" 8, dd "has_items" 9, dd "is_atom" 10, dd "is_formula_value" 11, dd "is_true" 12, dd "atoms_of" 13, dd "turns_of" 14, dd "is_said" 17, dd "is_parish_value" 18, dd "need_parish" 19, dd "need_number" 20, dd "rows_of" 23, dd "singles_fit" 24, dd "crowd_fits" 25, dd "can_be" 26, dd "marks_of" 27, dd "stretches" 28, dd "is_world_value" 29, dd "need_world" 30, dd "number_of" 31, dd "first_world" 32, dd "is_possible" 33, dd "worlds" 34, dd "count_worlds" 35, dd "some_world" 36, dd "_law_deck" 38, dd "_law_pick" 39, dd "_law_one" 40, dd "_law_sort" 41, dd "_law_same" 42, dd "_law_atom" 43, dd "_law_formula" 44, dd "_law_said" 45, dd "_law_parish" 46, dd "_law_seen" 47, dd "_law_can" 48, dd "_law_rows" 49, dd "_law_worlds" 50, dd "_law_known" 51, dd "_law_spots" 52, dd "_law_parts" 53, dd "_law_some_right" 54, dd "_law_right" 55, dd "law" 56]
def fa : List He.Fa := [.glo "is_within", .glo "has_items", .glo "is_atom", .glo "is_formula_value", .glo "is_true", .glo "atoms_of", .glo "turns_of", .glo "is_said", .glo "is_parish_value", .glo "need_parish", .glo "need_number", .glo "rows_of", .glo "singles_fit", .glo "crowd_fits", .glo "can_be", .glo "marks_of", .glo "stretches", .glo "is_world_value", .glo "need_world", .glo "number_of", .glo "first_world", .glo "is_possible", .glo "worlds", .glo "count_worlds", .glo "some_world", .glo "_law_deck", .glo "_law_pick", .glo "_law_one", .glo "_law_sort", .glo "_law_same", .glo "_law_atom", .glo "_law_formula", .glo "_law_said", .glo "_law_parish", .glo "_law_seen", .glo "_law_can", .glo "_law_rows", .glo "_law_worlds", .glo "_law_known", .glo "_law_spots", .glo "_law_parts", .glo "_law_some_right", .glo "_law_right", .glo "law"] ++ bnames.map He.Fa.free
section
variable {K : Frag} {mg : Str → Option Value} {w : World} {h h0 : Heap}
theorem row_f_is_within (X : K.In h) (G : h.Ns mainGlobals mg) (c : He.SaysX fa fn [] [] (conB cs) w h0 K) : RowOk T K mg f_is_within := by
  obtain ⟨fd, F⟩ := c.t.d.def_ 0 (d := dd "is_within" 8) rfl
  exact ⟨_, fd, ["value", "low", "high"], ["value", "low", "high"], _, _, _, He.glo_ok X G (c.t.d.fact 0 (f := .glo "is_within") rfl), F, ⟨rfl, rfl, rfl, by decide +kernel, rfl, by decide +kernel, by decide +kernel⟩, rfl, rfl, by decide, F.bindsN (fun _ _ _ _ _ _ us hl => match us, hl with | [_, _, _], _ => rfl), by decide +kernel⟩
theorem row_f_has_items (X : K.In h) (G : h.Ns mainGlobals mg) (c : He.SaysX fa fn [] [] (conB cs) w h0 K) : RowOk T K mg f_has_items := by
  obtain ⟨fd, F⟩ := c.t.d.def_ 1 (d := dd "has_items" 9) rfl
  exact ⟨_, fd, ["value", "low", "high"], ["value", "low", "high"], _, _, _, He.glo_ok X G (c.t.d.fact 1 (f := .glo "has_items") rfl), F, ⟨rfl, rfl, rfl, by decide +kernel, rfl, by decide +kernel, by decide +kernel⟩, rfl, rfl, by decide, F.bindsN (fun _ _ _ _ _ _ us hl => match us, hl with | [_, _, _], _ => rfl), by decide +kernel⟩
theorem row_f_is_atom (X : K.In h) (G : h.Ns mainGlobals mg) (c : He.SaysX fa fn [] [] (conB cs) w h0 K) : RowOk T K mg f_is_atom := by
  obtain ⟨fd, F⟩ := c.t.d.def_ 2 (d := dd "is_atom" 10) rfl
  exact ⟨_, fd, ["facts", "singles", "value", "word", "one"], ["facts", "singles", "value"], _, _, _, He.glo_ok X G (c.t.d.fact 2 (f := .glo "is_atom") rfl), F, ⟨rfl, rfl, rfl, by decide +kernel, rfl, by decide +kernel, by decide +kernel⟩, rfl, rfl, by decide, F.bindsN (fun _ _ _ _ _ _ us hl => match us, hl with | [_, _, _], _ => rfl), by decide +kernel⟩
theorem row_f_is_formula_value (X : K.In h) (G : h.Ns mainGlobals mg) (c : He.SaysX fa fn [] [] (conB cs) w h0 K) : RowOk T K mg f_is_formula_value := by
  obtain ⟨fd, F⟩ := c.t.d.def_ 3 (d := dd "is_formula_value" 11) rfl
  exact ⟨_, fd, ["facts", "singles", "value", "depth", "one"], ["facts", "singles", "value", "depth"], _, _, _, He.glo_ok X G (c.t.d.fact 3 (f := .glo "is_formula_value") rfl), F, ⟨rfl, rfl, rfl, by decide +kernel, rfl, by decide +kernel, by decide +kernel⟩, rfl, rfl, by decide, F.bindsN (fun _ _ _ _ _ _ us hl => match us, hl with | [_, _, _, _], _ => rfl), by decide +kernel⟩
theorem row_f_is_true (X : K.In h) (G : h.Ns mainGlobals mg) (c : He.SaysX fa fn [] [] (conB cs) w h0 K) : RowOk T K mg f_is_true := by
  obtain ⟨fd, F⟩ := c.t.d.def_ 4 (d := dd "is_true" 12) rfl
  exact ⟨_, fd, ["formula", "facts", "liars", "many", "size", "word"], ["formula", "facts", "liars", "many", "size"], _, _, _, He.glo_ok X G (c.t.d.fact 4 (f := .glo "is_true") rfl), F, ⟨rfl, rfl, rfl, by decide +kernel, rfl, by decide +kernel, by decide +kernel⟩, rfl, rfl, by decide, F.bindsN (fun _ _ _ _ _ _ us hl => match us, hl with | [_, _, _, _, _], _ => rfl), by decide +kernel⟩
theorem row_f_atoms_of (X : K.In h) (G : h.Ns mainGlobals mg) (c : He.SaysX fa fn [] [] (conB cs) w h0 K) : RowOk T K mg f_atoms_of := by
  obtain ⟨fd, F⟩ := c.t.d.def_ 5 (d := dd "atoms_of" 13) rfl
  exact ⟨_, fd, ["formula", "part", "atom"], ["formula"], _, _, _, He.glo_ok X G (c.t.d.fact 5 (f := .glo "atoms_of") rfl), F, ⟨rfl, rfl, rfl, by decide +kernel, rfl, by decide +kernel, by decide +kernel⟩, rfl, rfl, by decide, F.bindsN (fun _ _ _ _ _ _ us hl => match us, hl with | [_], _ => rfl), by decide +kernel⟩
theorem row_f_turns_of (X : K.In h) (G : h.Ns mainGlobals mg) (c : He.SaysX fa fn [] [] (conB cs) w h0 K) : RowOk T K mg f_turns_of := by
  obtain ⟨fd, F⟩ := c.t.d.def_ 6 (d := dd "turns_of" 14) rfl
  exact ⟨_, fd, ["atom", "size"], ["atom", "size"], _, _, _, He.glo_ok X G (c.t.d.fact 6 (f := .glo "turns_of") rfl), F, ⟨rfl, rfl, rfl, by decide +kernel, rfl, by decide +kernel, by decide +kernel⟩, rfl, rfl, by decide, F.bindsN (fun _ _ _ _ _ _ us hl => match us, hl with | [_, _], _ => rfl), by decide +kernel⟩
theorem row_f_is_said (X : K.In h) (G : h.Ns mainGlobals mg) (c : He.SaysX fa fn [] [] (conB cs) w h0 K) : RowOk T K mg f_is_said := by
  obtain ⟨fd, F⟩ := c.t.d.def_ 7 (d := dd "is_said" 17) rfl
  exact ⟨_, fd, ["facts", "singles", "value"], ["facts", "singles", "value"], _, _, _, He.glo_ok X G (c.t.d.fact 7 (f := .glo "is_said") rfl), F, ⟨rfl, rfl, rfl, by decide +kernel, rfl, by decide +kernel, by decide +kernel⟩, rfl, rfl, by decide, F.bindsN (fun _ _ _ _ _ _ us hl => match us, hl with | [_, _, _], _ => rfl), by decide +kernel⟩
theorem row_f_is_parish_value (X : K.In h) (G : h.Ns mainGlobals mg) (c : He.SaysX fa fn [] [] (conB cs) w h0 K) : RowOk T K mg f_is_parish_value := by
  obtain ⟨fd, F⟩ := c.t.d.def_ 8 (d := dd "is_parish_value" 18) rfl
  exact ⟨_, fd, ["value", "facts", "singles", "crowd", "most", "one"], ["value"], _, _, _, He.glo_ok X G (c.t.d.fact 8 (f := .glo "is_parish_value") rfl), F, ⟨rfl, rfl, rfl, by decide +kernel, rfl, by decide +kernel, by decide +kernel⟩, rfl, rfl, by decide, F.bindsN (fun _ _ _ _ _ _ us hl => match us, hl with | [_], _ => rfl), by decide +kernel⟩
theorem row_f_need_parish (X : K.In h) (G : h.Ns mainGlobals mg) (c : He.SaysX fa fn [] [] (conB cs) w h0 K) : RowOk T K mg f_need_parish := by
  obtain ⟨fd, F⟩ := c.t.d.def_ 9 (d := dd "need_parish" 19) rfl
  exact ⟨_, fd, ["value"], ["value"], _, _, _, He.glo_ok X G (c.t.d.fact 9 (f := .glo "need_parish") rfl), F, ⟨rfl, rfl, rfl, by decide +kernel, rfl, by decide +kernel, by decide +kernel⟩, rfl, rfl, by decide, F.bindsN (fun _ _ _ _ _ _ us hl => match us, hl with | [_], _ => rfl), by decide +kernel⟩
theorem row_f_need_number (X : K.In h) (G : h.Ns mainGlobals mg) (c : He.SaysX fa fn [] [] (conB cs) w h0 K) : RowOk T K mg f_need_number := by
  obtain ⟨fd, F⟩ := c.t.d.def_ 10 (d := dd "need_number" 20) rfl
  exact ⟨_, fd, ["value", "low", "high"], ["value", "low", "high"], _, _, _, He.glo_ok X G (c.t.d.fact 10 (f := .glo "need_number") rfl), F, ⟨rfl, rfl, rfl, by decide +kernel, rfl, by decide +kernel, by decide +kernel⟩, rfl, rfl, by decide, F.bindsN (fun _ _ _ _ _ _ us hl => match us, hl with | [_, _, _], _ => rfl), by decide +kernel⟩
theorem row_f_rows_of (X : K.In h) (G : h.Ns mainGlobals mg) (c : He.SaysX fa fn [] [] (conB cs) w h0 K) : RowOk T K mg f_rows_of := by
  obtain ⟨fd, F⟩ := c.t.d.def_ 11 (d := dd "rows_of" 23) rfl
  exact ⟨_, fd, ["size", "found", "turn", "row", "truth"], ["size"], _, _, _, He.glo_ok X G (c.t.d.fact 11 (f := .glo "rows_of") rfl), F, ⟨rfl, rfl, rfl, by decide +kernel, rfl, by decide +kernel, by decide +kernel⟩, rfl, rfl, by decide, F.bindsN (fun _ _ _ _ _ _ us hl => match us, hl with | [_], _ => rfl), by decide +kernel⟩
theorem row_f_singles_fit (X : K.In h) (G : h.Ns mainGlobals mg) (c : He.SaysX fa fn [] [] (conB cs) w h0 K) : RowOk T K mg f_singles_fit := by
  obtain ⟨fd, F⟩ := c.t.d.def_ 12 (d := dd "singles_fit" 24) rfl
  exact ⟨_, fd, ["parish", "facts", "liars", "many", "n", "said", "lies"], ["parish", "facts", "liars", "many", "n"], _, _, _, He.glo_ok X G (c.t.d.fact 12 (f := .glo "singles_fit") rfl), F, ⟨rfl, rfl, rfl, by decide +kernel, rfl, by decide +kernel, by decide +kernel⟩, rfl, rfl, by decide, F.bindsN (fun _ _ _ _ _ _ us hl => match us, hl with | [_, _, _, _, _], _ => rfl), by decide +kernel⟩
theorem row_f_crowd_fits (X : K.In h) (G : h.Ns mainGlobals mg) (c : He.SaysX fa fn [] [] (conB cs) w h0 K) : RowOk T K mg f_crowd_fits := by
  obtain ⟨fd, F⟩ := c.t.d.def_ 13 (d := dd "crowd_fits" 25) rfl
  exact ⟨_, fd, ["parish", "facts", "liars", "many", "n", "said"], ["parish", "facts", "liars", "many", "n"], _, _, _, He.glo_ok X G (c.t.d.fact 13 (f := .glo "crowd_fits") rfl), F, ⟨rfl, rfl, rfl, by decide +kernel, rfl, by decide +kernel, by decide +kernel⟩, rfl, rfl, by decide, F.bindsN (fun _ _ _ _ _ _ us hl => match us, hl with | [_, _, _, _, _], _ => rfl), by decide +kernel⟩
theorem row_f_can_be (X : K.In h) (G : h.Ns mainGlobals mg) (c : He.SaysX fa fn [] [] (conB cs) w h0 K) : RowOk T K mg f_can_be := by
  obtain ⟨fd, F⟩ := c.t.d.def_ 14 (d := dd "can_be" 26) rfl
  exact ⟨_, fd, ["parish", "facts", "liars", "many", "n", "lies"], ["parish", "facts", "liars", "many", "n"], _, _, _, He.glo_ok X G (c.t.d.fact 14 (f := .glo "can_be") rfl), F, ⟨rfl, rfl, rfl, by decide +kernel, rfl, by decide +kernel, by decide +kernel⟩, rfl, rfl, by decide, F.bindsN (fun _ _ _ _ _ _ us hl => match us, hl with | [_, _, _, _, _], _ => rfl), by decide +kernel⟩
theorem row_f_marks_of (X : K.In h) (G : h.Ns mainGlobals mg) (c : He.SaysX fa fn [] [] (conB cs) w h0 K) : RowOk T K mg f_marks_of := by
  obtain ⟨fd, F⟩ := c.t.d.def_ 15 (d := dd "marks_of" 27) rfl
  exact ⟨_, fd, ["parish", "claims", "n", "found", "said", "atom", "some", "mark", "turn", "more"], ["parish", "claims", "n"], _, _, _, He.glo_ok X G (c.t.d.fact 15 (f := .glo "marks_of") rfl), F, ⟨rfl, rfl, rfl, by decide +kernel, rfl, by decide +kernel, by decide +kernel⟩, rfl, rfl, by decide, F.bindsN (fun _ _ _ _ _ _ us hl => match us, hl with | [_, _, _], _ => rfl), by decide +kernel⟩
theorem row_f_stretches (X : K.In h) (G : h.Ns mainGlobals mg) (c : He.SaysX fa fn [] [] (conB cs) w h0 K) : RowOk T K mg f_stretches := by
  obtain ⟨fd, F⟩ := c.t.d.def_ 16 (d := dd "stretches" 28) rfl
  exact ⟨_, fd, ["parish", "claims", "n", "rows", "facts", "marks", "found", "liars", "low", "high", "first"], ["parish", "claims", "n"], _, _, _, He.glo_ok X G (c.t.d.fact 16 (f := .glo "stretches") rfl), F, ⟨rfl, rfl, rfl, by decide +kernel, rfl, by decide +kernel, by decide +kernel⟩, rfl, rfl, by decide, F.bindsN (fun _ _ _ _ _ _ us hl => match us, hl with | [_, _, _], _ => rfl), by decide +kernel⟩
theorem row_f_is_world_value (X : K.In h) (G : h.Ns mainGlobals mg) (c : He.SaysX fa fn [] [] (conB cs) w h0 K) : RowOk T K mg f_is_world_value := by
  obtain ⟨fd, F⟩ := c.t.d.def_ 17 (d := dd "is_world_value" 29) rfl
  exact ⟨_, fd, ["parish", "n", "value", "one"], ["parish", "n", "value"], _, _, _, He.glo_ok X G (c.t.d.fact 17 (f := .glo "is_world_value") rfl), F, ⟨rfl, rfl, rfl, by decide +kernel, rfl, by decide +kernel, by decide +kernel⟩, rfl, rfl, by decide, F.bindsN (fun _ _ _ _ _ _ us hl => match us, hl with | [_, _, _], _ => rfl), by decide +kernel⟩
theorem row_f_need_world (X : K.In h) (G : h.Ns mainGlobals mg) (c : He.SaysX fa fn [] [] (conB cs) w h0 K) : RowOk T K mg f_need_world := by
  obtain ⟨fd, F⟩ := c.t.d.def_ 18 (d := dd "need_world" 30) rfl
  exact ⟨_, fd, ["parish", "n", "value"], ["parish", "n", "value"], _, _, _, He.glo_ok X G (c.t.d.fact 18 (f := .glo "need_world") rfl), F, ⟨rfl, rfl, rfl, by decide +kernel, rfl, by decide +kernel, by decide +kernel⟩, rfl, rfl, by decide, F.bindsN (fun _ _ _ _ _ _ us hl => match us, hl with | [_, _, _], _ => rfl), by decide +kernel⟩
theorem row_f_number_of (X : K.In h) (G : h.Ns mainGlobals mg) (c : He.SaysX fa fn [] [] (conB cs) w h0 K) : RowOk T K mg f_number_of := by
  obtain ⟨fd, F⟩ := c.t.d.def_ 19 (d := dd "number_of" 31) rfl
  exact ⟨_, fd, ["parish", "n", "facts", "liars", "first", "last"], ["parish", "n"], _, _, _, He.glo_ok X G (c.t.d.fact 19 (f := .glo "number_of") rfl), F, ⟨rfl, rfl, rfl, by decide +kernel, rfl, by decide +kernel, by decide +kernel⟩, rfl, rfl, by decide, F.bindsN (fun _ _ _ _ _ _ us hl => match us, hl with | [_, _], _ => rfl), by decide +kernel⟩
theorem row_f_first_world (X : K.In h) (G : h.Ns mainGlobals mg) (c : He.SaysX fa fn [] [] (conB cs) w h0 K) : RowOk T K mg f_first_world := by
  obtain ⟨fd, F⟩ := c.t.d.def_ 20 (d := dd "first_world" 32) rfl
  exact ⟨_, fd, ["parish", "n", "rows", "facts", "liars", "first", "last"], ["parish", "n"], _, _, _, He.glo_ok X G (c.t.d.fact 20 (f := .glo "first_world") rfl), F, ⟨rfl, rfl, rfl, by decide +kernel, rfl, by decide +kernel, by decide +kernel⟩, rfl, rfl, by decide, F.bindsN (fun _ _ _ _ _ _ us hl => match us, hl with | [_, _], _ => rfl), by decide +kernel⟩
theorem row_f_is_possible (X : K.In h) (G : h.Ns mainGlobals mg) (c : He.SaysX fa fn [] [] (conB cs) w h0 K) : RowOk T K mg f_is_possible := by
  obtain ⟨fd, F⟩ := c.t.d.def_ 21 (d := dd "is_possible" 33) rfl
  exact ⟨_, fd, ["parish", "n", "world"], ["parish", "n", "world"], _, _, _, He.glo_ok X G (c.t.d.fact 21 (f := .glo "is_possible") rfl), F, ⟨rfl, rfl, rfl, by decide +kernel, rfl, by decide +kernel, by decide +kernel⟩, rfl, rfl, by decide, F.bindsN (fun _ _ _ _ _ _ us hl => match us, hl with | [_, _, _], _ => rfl), by decide +kernel⟩
theorem row_f_worlds (X : K.In h) (G : h.Ns mainGlobals mg) (c : He.SaysX fa fn [] [] (conB cs) w h0 K) : RowOk T K mg f_worlds := by
  obtain ⟨fd, F⟩ := c.t.d.def_ 22 (d := dd "worlds" 34) rfl
  exact ⟨_, fd, ["parish", "n", "found", "facts", "liars", "first", "last", "many"], ["parish", "n"], _, _, _, He.glo_ok X G (c.t.d.fact 22 (f := .glo "worlds") rfl), F, ⟨rfl, rfl, rfl, by decide +kernel, rfl, by decide +kernel, by decide +kernel⟩, rfl, rfl, by decide, F.bindsN (fun _ _ _ _ _ _ us hl => match us, hl with | [_, _], _ => rfl), by decide +kernel⟩
theorem row_f_count_worlds (X : K.In h) (G : h.Ns mainGlobals mg) (c : He.SaysX fa fn [] [] (conB cs) w h0 K) : RowOk T K mg f_count_worlds := by
  obtain ⟨fd, F⟩ := c.t.d.def_ 23 (d := dd "count_worlds" 35) rfl
  exact ⟨_, fd, ["parish", "n"], ["parish", "n"], _, _, _, He.glo_ok X G (c.t.d.fact 23 (f := .glo "count_worlds") rfl), F, ⟨rfl, rfl, rfl, by decide +kernel, rfl, by decide +kernel, by decide +kernel⟩, rfl, rfl, by decide, F.bindsN (fun _ _ _ _ _ _ us hl => match us, hl with | [_, _], _ => rfl), by decide +kernel⟩
theorem row_f_some_world (X : K.In h) (G : h.Ns mainGlobals mg) (c : He.SaysX fa fn [] [] (conB cs) w h0 K) : RowOk T K mg f_some_world := by
  obtain ⟨fd, F⟩ := c.t.d.def_ 24 (d := dd "some_world" 36) rfl
  exact ⟨_, fd, ["parish", "n"], ["parish", "n"], _, _, _, He.glo_ok X G (c.t.d.fact 24 (f := .glo "some_world") rfl), F, ⟨rfl, rfl, rfl, by decide +kernel, rfl, by decide +kernel, by decide +kernel⟩, rfl, rfl, by decide, F.bindsN (fun _ _ _ _ _ _ us hl => match us, hl with | [_, _], _ => rfl), by decide +kernel⟩
theorem row_f_law_deck (X : K.In h) (G : h.Ns mainGlobals mg) (c : He.SaysX fa fn [] [] (conB cs) w h0 K) : RowOk T K mg f_law_deck := by
  obtain ⟨fd, F⟩ := c.t.d.def_ 25 (d := dd "_law_deck" 38) rfl
  exact ⟨_, fd, ["cell", "turn"], ["cell", "turn"], _, _, _, He.glo_ok X G (c.t.d.fact 25 (f := .glo "_law_deck") rfl), F, ⟨rfl, rfl, rfl, by decide +kernel, rfl, by decide +kernel, by decide +kernel⟩, rfl, rfl, by decide, F.bindsN (fun _ _ _ _ _ _ us hl => match us, hl with | [_, _], _ => rfl), by decide +kernel⟩
theorem row_f_law_pick (X : K.In h) (G : h.Ns mainGlobals mg) (c : He.SaysX fa fn [] [] (conB cs) w h0 K) : RowOk T K mg f_law_pick := by
  obtain ⟨fd, F⟩ := c.t.d.def_ 26 (d := dd "_law_pick" 39) rfl
  exact ⟨_, fd, ["deck", "size", "number", "found"], ["deck", "size"], _, _, _, He.glo_ok X G (c.t.d.fact 26 (f := .glo "_law_pick") rfl), F, ⟨rfl, rfl, rfl, by decide +kernel, rfl, by decide +kernel, by decide +kernel⟩, rfl, rfl, by decide, F.bindsN (fun _ _ _ _ _ _ us hl => match us, hl with | [_, _], _ => rfl), by decide +kernel⟩
theorem row_f_law_one (X : K.In h) (G : h.Ns mainGlobals mg) (c : He.SaysX fa fn [] [] (conB cs) w h0 K) : RowOk T K mg f_law_one := by
  obtain ⟨fd, F⟩ := c.t.d.def_ 27 (d := dd "_law_one" 40) rfl
  exact ⟨_, fd, ["deck", "some"], ["deck", "some"], _, _, _, He.glo_ok X G (c.t.d.fact 27 (f := .glo "_law_one") rfl), F, ⟨rfl, rfl, rfl, by decide +kernel, rfl, by decide +kernel, by decide +kernel⟩, rfl, rfl, by decide, F.bindsN (fun _ _ _ _ _ _ us hl => match us, hl with | [_, _], _ => rfl), by decide +kernel⟩
theorem row_f_law_sort (X : K.In h) (G : h.Ns mainGlobals mg) (c : He.SaysX fa fn [] [] (conB cs) w h0 K) : RowOk T K mg f_law_sort := by
  obtain ⟨fd, F⟩ := c.t.d.def_ 28 (d := dd "_law_sort" 41) rfl
  exact ⟨_, fd, ["thing"], ["thing"], _, _, _, He.glo_ok X G (c.t.d.fact 28 (f := .glo "_law_sort") rfl), F, ⟨rfl, rfl, rfl, by decide +kernel, rfl, by decide +kernel, by decide +kernel⟩, rfl, rfl, by decide, F.bindsN (fun _ _ _ _ _ _ us hl => match us, hl with | [_], _ => rfl), by decide +kernel⟩
theorem row_f_law_same (X : K.In h) (G : h.Ns mainGlobals mg) (c : He.SaysX fa fn [] [] (conB cs) w h0 K) : RowOk T K mg f_law_same := by
  obtain ⟨fd, F⟩ := c.t.d.def_ 29 (d := dd "_law_same" 42) rfl
  exact ⟨_, fd, ["told", "due", "k", "part"], ["told", "due"], _, _, _, He.glo_ok X G (c.t.d.fact 29 (f := .glo "_law_same") rfl), F, ⟨rfl, rfl, rfl, by decide +kernel, rfl, by decide +kernel, by decide +kernel⟩, rfl, rfl, by decide, F.bindsN (fun _ _ _ _ _ _ us hl => match us, hl with | [_, _], _ => rfl), by decide +kernel⟩
theorem row_f_law_atom (X : K.In h) (G : h.Ns mainGlobals mg) (c : He.SaysX fa fn [] [] (conB cs) w h0 K) : RowOk T K mg f_law_atom := by
  obtain ⟨fd, F⟩ := c.t.d.def_ 30 (d := dd "_law_atom" 43) rfl
  exact ⟨_, fd, ["deck", "facts", "singles", "some"], ["deck", "facts", "singles"], _, _, _, He.glo_ok X G (c.t.d.fact 30 (f := .glo "_law_atom") rfl), F, ⟨rfl, rfl, rfl, by decide +kernel, rfl, by decide +kernel, by decide +kernel⟩, rfl, rfl, by decide, F.bindsN (fun _ _ _ _ _ _ us hl => match us, hl with | [_, _, _], _ => rfl), by decide +kernel⟩
theorem row_f_law_formula (X : K.In h) (G : h.Ns mainGlobals mg) (c : He.SaysX fa fn [] [] (conB cs) w h0 K) : RowOk T K mg f_law_formula := by
  obtain ⟨fd, F⟩ := c.t.d.def_ 31 (d := dd "_law_formula" 44) rfl
  exact ⟨_, fd, ["deck", "facts", "singles", "deep", "way", "one"], ["deck", "facts", "singles", "deep"], _, _, _, He.glo_ok X G (c.t.d.fact 31 (f := .glo "_law_formula") rfl), F, ⟨rfl, rfl, rfl, by decide +kernel, rfl, by decide +kernel, by decide +kernel⟩, rfl, rfl, by decide, F.bindsN (fun _ _ _ _ _ _ us hl => match us, hl with | [_, _, _, _], _ => rfl), by decide +kernel⟩
theorem row_f_law_said (X : K.In h) (G : h.Ns mainGlobals mg) (c : He.SaysX fa fn [] [] (conB cs) w h0 K) : RowOk T K mg f_law_said := by
  obtain ⟨fd, F⟩ := c.t.d.def_ 32 (d := dd "_law_said" 45) rfl
  exact ⟨_, fd, ["deck", "facts", "singles", "deep"], ["deck", "facts", "singles", "deep"], _, _, _, He.glo_ok X G (c.t.d.fact 32 (f := .glo "_law_said") rfl), F, ⟨rfl, rfl, rfl, by decide +kernel, rfl, by decide +kernel, by decide +kernel⟩, rfl, rfl, by decide, F.bindsN (fun _ _ _ _ _ _ us hl => match us, hl with | [_, _, _, _], _ => rfl), by decide +kernel⟩
theorem row_f_law_parish (X : K.In h) (G : h.Ns mainGlobals mg) (c : He.SaysX fa fn [] [] (conB cs) w h0 K) : RowOk T K mg f_law_parish := by
  obtain ⟨fd, F⟩ := c.t.d.def_ 33 (d := dd "_law_parish" 46) rfl
  exact ⟨_, fd, ["deck", "most_facts", "most_singles", "deep", "said", "most", "facts", "singles", "single"], ["deck", "most_facts", "most_singles", "deep"], _, _, _, He.glo_ok X G (c.t.d.fact 33 (f := .glo "_law_parish") rfl), F, ⟨rfl, rfl, rfl, by decide +kernel, rfl, by decide +kernel, by decide +kernel⟩, rfl, rfl, by decide, F.bindsN (fun _ _ _ _ _ _ us hl => match us, hl with | [_, _, _, _], _ => rfl), by decide +kernel⟩
theorem row_f_law_seen (X : K.In h) (G : h.Ns mainGlobals mg) (c : He.SaysX fa fn [] [] (conB cs) w h0 K) : RowOk T K mg f_law_seen := by
  obtain ⟨fd, F⟩ := c.t.d.def_ 34 (d := dd "_law_seen" 47) rfl
  exact ⟨_, fd, ["formula", "facts", "liars", "flock", "word", "both", "many", "size", "part"], ["formula", "facts", "liars", "flock"], _, _, _, He.glo_ok X G (c.t.d.fact 34 (f := .glo "_law_seen") rfl), F, ⟨rfl, rfl, rfl, by decide +kernel, rfl, by decide +kernel, by decide +kernel⟩, rfl, rfl, by decide, F.bindsN (fun _ _ _ _ _ _ us hl => match us, hl with | [_, _, _, _], _ => rfl), by decide +kernel⟩
theorem row_f_law_can (X : K.In h) (G : h.Ns mainGlobals mg) (c : He.SaysX fa fn [] [] (conB cs) w h0 K) : RowOk T K mg f_law_can := by
  obtain ⟨fd, F⟩ := c.t.d.def_ 35 (d := dd "_law_can" 48) rfl
  exact ⟨_, fd, ["parish", "n", "facts", "liars", "many", "single", "said", "lies"], ["parish", "n", "facts", "liars", "many"], _, _, _, He.glo_ok X G (c.t.d.fact 35 (f := .glo "_law_can") rfl), F, ⟨rfl, rfl, rfl, by decide +kernel, rfl, by decide +kernel, by decide +kernel⟩, rfl, rfl, by decide, F.bindsN (fun _ _ _ _ _ _ us hl => match us, hl with | [_, _, _, _, _], _ => rfl), by decide +kernel⟩
theorem row_f_law_rows (X : K.In h) (G : h.Ns mainGlobals mg) (c : He.SaysX fa fn [] [] (conB cs) w h0 K) : RowOk T K mg f_law_rows := by
  obtain ⟨fd, F⟩ := c.t.d.def_ 36 (d := dd "_law_rows" 49) rfl
  exact ⟨_, fd, ["size", "found", "turn", "longer", "row"], ["size"], _, _, _, He.glo_ok X G (c.t.d.fact 36 (f := .glo "_law_rows") rfl), F, ⟨rfl, rfl, rfl, by decide +kernel, rfl, by decide +kernel, by decide +kernel⟩, rfl, rfl, by decide, F.bindsN (fun _ _ _ _ _ _ us hl => match us, hl with | [_], _ => rfl), by decide +kernel⟩
theorem row_f_law_worlds (X : K.In h) (G : h.Ns mainGlobals mg) (c : He.SaysX fa fn [] [] (conB cs) w h0 K) : RowOk T K mg f_law_worlds := by
  obtain ⟨fd, F⟩ := c.t.d.def_ 37 (d := dd "_law_worlds" 50) rfl
  exact ⟨_, fd, ["parish", "n", "found", "facts", "liars", "many"], ["parish", "n"], _, _, _, He.glo_ok X G (c.t.d.fact 37 (f := .glo "_law_worlds") rfl), F, ⟨rfl, rfl, rfl, by decide +kernel, rfl, by decide +kernel, by decide +kernel⟩, rfl, rfl, by decide, F.bindsN (fun _ _ _ _ _ _ us hl => match us, hl with | [_, _], _ => rfl), by decide +kernel⟩
theorem row_f_law_known (X : K.In h) (G : h.Ns mainGlobals mg) (c : He.SaysX fa fn [] [] (conB cs) w h0 K) : RowOk T K mg f_law_known := by
  obtain ⟨fd, F⟩ := c.t.d.def_ 38 (d := dd "_law_known" 51) rfl
  exact ⟨_, fd, ["five", "one", "two", "three", "z"], [], _, _, _, He.glo_ok X G (c.t.d.fact 38 (f := .glo "_law_known") rfl), F, ⟨rfl, rfl, rfl, by decide +kernel, rfl, by decide +kernel, by decide +kernel⟩, rfl, rfl, by decide, F.bindsN (fun _ _ _ _ _ _ us hl => match us, hl with | [], _ => rfl), by decide +kernel⟩
theorem row_f_law_spots (X : K.In h) (G : h.Ns mainGlobals mg) (c : He.SaysX fa fn [] [] (conB cs) w h0 K) : RowOk T K mg f_law_spots := by
  obtain ⟨fd, F⟩ := c.t.d.def_ 39 (d := dd "_law_spots" 52) rfl
  exact ⟨_, fd, ["parish", "n", "found", "near", "many"], ["parish", "n"], _, _, _, He.glo_ok X G (c.t.d.fact 39 (f := .glo "_law_spots") rfl), F, ⟨rfl, rfl, rfl, by decide +kernel, rfl, by decide +kernel, by decide +kernel⟩, rfl, rfl, by decide, F.bindsN (fun _ _ _ _ _ _ us hl => match us, hl with | [_, _], _ => rfl), by decide +kernel⟩
theorem row_f_law_parts (X : K.In h) (G : h.Ns mainGlobals mg) (c : He.SaysX fa fn [] [] (conB cs) w h0 K) : RowOk T K mg f_law_parts := by
  obtain ⟨fd, F⟩ := c.t.d.def_ 40 (d := dd "_law_parts" 53) rfl
  exact ⟨_, fd, ["parish", "n", "facts", "spots", "found", "liars", "low", "high", "many", "size"], ["parish", "n"], _, _, _, He.glo_ok X G (c.t.d.fact 40 (f := .glo "_law_parts") rfl), F, ⟨rfl, rfl, rfl, by decide +kernel, rfl, by decide +kernel, by decide +kernel⟩, rfl, rfl, by decide, F.bindsN (fun _ _ _ _ _ _ us hl => match us, hl with | [_, _], _ => rfl), by decide +kernel⟩
theorem row_f_law_some_right (X : K.In h) (G : h.Ns mainGlobals mg) (c : He.SaysX fa fn [] [] (conB cs) w h0 K) : RowOk T K mg f_law_some_right := by
  obtain ⟨fd, F⟩ := c.t.d.def_ 41 (d := dd "_law_some_right" 54) rfl
  exact ⟨_, fd, ["deck", "parish", "n", "spots", "turn", "facts", "liars", "many", "due", "fact", "single"], ["deck", "parish", "n"], _, _, _, He.glo_ok X G (c.t.d.fact 41 (f := .glo "_law_some_right") rfl), F, ⟨rfl, rfl, rfl, by decide +kernel, rfl, by decide +kernel, by decide +kernel⟩, rfl, rfl, by decide, F.bindsN (fun _ _ _ _ _ _ us hl => match us, hl with | [_, _, _], _ => rfl), by decide +kernel⟩
theorem row_f_law_right (X : K.In h) (G : h.Ns mainGlobals mg) (c : He.SaysX fa fn [] [] (conB cs) w h0 K) : RowOk T K mg f_law_right := by
  obtain ⟨fd, F⟩ := c.t.d.def_ 42 (d := dd "_law_right" 55) rfl
  exact ⟨_, fd, ["deck", "parish", "n", "parts_so", "due", "row"], ["deck", "parish", "n"], _, _, _, He.glo_ok X G (c.t.d.fact 42 (f := .glo "_law_right") rfl), F, ⟨rfl, rfl, rfl, by decide +kernel, rfl, by decide +kernel, by decide +kernel⟩, rfl, rfl, by decide, F.bindsN (fun _ _ _ _ _ _ us hl => match us, hl with | [_, _, _], _ => rfl), by decide +kernel⟩
theorem row_f_law (X : K.In h) (G : h.Ns mainGlobals mg) (c : He.SaysX fa fn [] [] (conB cs) w h0 K) : RowOk T K mg f_law := by
  obtain ⟨fd, F⟩ := c.t.d.def_ 43 (d := dd "law" 56) rfl
  exact ⟨_, fd, ["script", "cell", "third", "far", "deck", "parish", "n", "one", "two", "three", "four", "five", "six", "z", "least", "both"], ["script"], _, _, _, He.glo_ok X G (c.t.d.fact 43 (f := .glo "law") rfl), F, ⟨rfl, rfl, rfl, by decide +kernel, rfl, by decide +kernel, by decide +kernel⟩, rfl, rfl, by decide, F.bindsN (fun _ _ _ _ _ _ us hl => match us, hl with | [_], _ => rfl), by decide +kernel⟩
theorem rows (X : K.In h) (G : h.Ns mainGlobals mg) (c : He.SaysX fa fn [] [] (conB cs) w h0 K) : ∀ d ∈ P, RowOk T K mg d :=
  (List.forall_mem_cons.mpr ⟨row_f_is_within X G c, (List.forall_mem_cons.mpr ⟨row_f_has_items X G c, (List.forall_mem_cons.mpr ⟨row_f_is_atom X G c, (List.forall_mem_cons.mpr ⟨row_f_is_formula_value X G c, (List.forall_mem_cons.mpr ⟨row_f_is_true X G c, (List.forall_mem_cons.mpr ⟨row_f_atoms_of X G c, (List.forall_mem_cons.mpr ⟨row_f_turns_of X G c, (List.forall_mem_cons.mpr ⟨row_f_is_said X G c, (List.forall_mem_cons.mpr ⟨row_f_is_parish_value X G c, (List.forall_mem_cons.mpr ⟨row_f_need_parish X G c, (List.forall_mem_cons.mpr ⟨row_f_need_number X G c, (List.forall_mem_cons.mpr ⟨row_f_rows_of X G c, (List.forall_mem_cons.mpr ⟨row_f_singles_fit X G c, (List.forall_mem_cons.mpr ⟨row_f_crowd_fits X G c, (List.forall_mem_cons.mpr ⟨row_f_can_be X G c, (List.forall_mem_cons.mpr ⟨row_f_marks_of X G c, (List.forall_mem_cons.mpr ⟨row_f_stretches X G c, (List.forall_mem_cons.mpr ⟨row_f_is_world_value X G c, (List.forall_mem_cons.mpr ⟨row_f_need_world X G c, (List.forall_mem_cons.mpr ⟨row_f_number_of X G c, (List.forall_mem_cons.mpr ⟨row_f_first_world X G c, (List.forall_mem_cons.mpr ⟨row_f_is_possible X G c, (List.forall_mem_cons.mpr ⟨row_f_worlds X G c, (List.forall_mem_cons.mpr ⟨row_f_count_worlds X G c, (List.forall_mem_cons.mpr ⟨row_f_some_world X G c, (List.forall_mem_cons.mpr ⟨row_f_law_deck X G c, (List.forall_mem_cons.mpr ⟨row_f_law_pick X G c, (List.forall_mem_cons.mpr ⟨row_f_law_one X G c, (List.forall_mem_cons.mpr ⟨row_f_law_sort X G c, (List.forall_mem_cons.mpr ⟨row_f_law_same X G c, (List.forall_mem_cons.mpr ⟨row_f_law_atom X G c, (List.forall_mem_cons.mpr ⟨row_f_law_formula X G c, (List.forall_mem_cons.mpr ⟨row_f_law_said X G c, (List.forall_mem_cons.mpr ⟨row_f_law_parish X G c, (List.forall_mem_cons.mpr ⟨row_f_law_seen X G c, (List.forall_mem_cons.mpr ⟨row_f_law_can X G c, (List.forall_mem_cons.mpr ⟨row_f_law_rows X G c, (List.forall_mem_cons.mpr ⟨row_f_law_worlds X G c, (List.forall_mem_cons.mpr ⟨row_f_law_known X G c, (List.forall_mem_cons.mpr ⟨row_f_law_spots X G c, (List.forall_mem_cons.mpr ⟨row_f_law_parts X G c, (List.forall_mem_cons.mpr ⟨row_f_law_some_right X G c, (List.forall_mem_cons.mpr ⟨row_f_law_right X G c, (List.forall_mem_cons.mpr ⟨row_f_law X G c, (fun _ z => nomatch z)⟩)⟩)⟩)⟩)⟩)⟩)⟩)⟩)⟩)⟩)⟩)⟩)⟩)⟩)⟩)⟩)⟩)⟩)⟩)⟩)⟩)⟩)⟩)⟩)⟩)⟩)⟩)⟩)⟩)⟩)⟩)⟩)⟩)⟩)⟩)⟩)⟩)⟩)⟩)⟩)⟩)⟩)⟩)⟩)
end
abbrev R : PySem.W.OpenRow := PySem.W.OpenLaw.row PySem.Challenge.rw_liarsfew_k03_whole_worlds_of_great_crowd
abbrev hk : PySem.W.Hook := He.hookX 4 fa fn [] [] (conB cs)
def ob (s : PySem.W.SharedT) : He.AlX := He.obsX 4 fa fn [] [] (conB cs) (HandSHeadRun.getT s)
theorem ob_eq (s : PySem.W.SharedT) : ob s = hk.obs s.abs := He.obsX_eq (HandSHeadRun.getT_eq s)
def names : List Str := (["LiarError", "InvalidParish", "InvalidNumber", "InvalidWorld", "SHARES", "DEEPEST", "is_within", "has_items", "is_atom", "is_formula_value", "is_true", "atoms_of", "turns_of", "GREAT", "is_said", "is_parish_value", "need_parish", "need_number", "MOST_LISTED", "rows_of", "singles_fit", "crowd_fits", "can_be", "marks_of", "stretches", "is_world_value", "need_world", "number_of", "first_world", "is_possible"] : List Str) ++ (["worlds", "count_worlds", "some_world", "_law_deck", "_law_pick", "_law_one", "_law_sort", "_law_same", "_law_atom", "_law_formula", "_law_said", "_law_parish", "_law_seen", "_law_can", "_law_rows", "_law_worlds", "_law_known", "_law_spots", "_law_parts", "_law_some_right", "_law_right"] : List Str)
end Mi.K03
end
section
set_option maxHeartbeats 0
namespace Mi.K03
open PySem PySem.Spec PyProof.Rows L2
theorem run (w : World) : HandSHeadRun.RunEq R (PySem.W.view R.prog [56]) hk ob 4000 names w := by
  intro os
  kernel_rfl
/-- the law, from what its own trees tell -/
theorem holds (hlaw : ∀ ns : List Int, ns.length ≤ 63 → ∃ st, call P 60 "law" [.d (.list (ns.map PyData.int))] [] = .ok (.d (.bool true)) st) : PySem.Challenge.rw_liarsfew_k03_whole_worlds_of_great_crowd.Holds := by
  w_on; o_law
  refine HandSHeadRun.head_any (r := PySem.W.OpenLaw.row PySem.Challenge.rw_liarsfew_k03_whole_worlds_of_great_crowd) (q := PySem.W.view (PySem.W.OpenLaw.row PySem.Challenge.rw_liarsfew_k03_whole_worlds_of_great_crowd).prog [56]) (H := hk) (ob := ob) (M := 4000) (loose := names) (d := HandSHeadRun.topDef (PySem.W.OpenLaw.row PySem.Challenge.rw_liarsfew_k03_whole_worlds_of_great_crowd).prog 56) (kwd := []) ob_eq
    (by kernel_rfl) (fun s => by kernel_rfl) run (by kernel_rfl) (by kernel_rfl) (by kernel_rfl) (by rfl) (by first | assumption | decide +kernel) (by decide +kernel) ⟨rfl, rfl, rfl, rfl, rfl, by decide +kernel⟩ ?hw ?hc
  case hw => w_witness2
  case hc =>
    refine walk_M (l := PySem.Challenge.rw_liarsfew_k03_whole_worlds_of_great_crowd) (n := 63) (k := 60) (x := "script") rfl (by decide) (by kernel_rfl) ⟨rfl, by decide, by decide⟩ ?F
    intro w mg f h Y G hmg0
    obtain ⟨K, KX, c⟩ := Y
    have hmg : mg ("law" : PySem.Str) = some (.ref f) := by
      have e : (HandSHeadRun.topDef (PySem.W.OpenLaw.row PySem.Challenge.rw_liarsfew_k03_whole_worlds_of_great_crowd).prog 56).name = ("law" : PySem.Str) := by kernel_rfl
      rw [← e]
      exact hmg0
    obtain ⟨fd, F⟩ := c.t.d.def_ 43 (d := dd "law" 56) rfl
    have e := hmg.symm.trans (He.glo_ok KX G (c.t.d.fact 43 (f := .glo "law") rfl))
    cases e
    have b := FunD.bindsA (ps := ["script"]) F fun _ _ _ _ _ _ us hl => match us, hl with | [_], _ => rfl
    have M := fun base : Heap => prog_ok (XX := fun _ _ _ _ => False) (prog := PySem.Challenge.rw_liarsfew_k03_whole_worlds_of_great_crowd.prog) (w := w) (base := base) (bl_ok KX G c (fun x hx => List.mem_append_right _ (List.mem_map_of_mem hx))) (con_ok (T := T) KX G c.more) (rows_ok (rows KX G c)) 59
    refine ⟨K, fd, spM K (fun _ _ _ _ => False) (call P 60) "law" 1 false, KX, fun s v => b s [v] rfl, fun H a ns hl _ hS => law_sp hS (hlaw ns hl), fun base _ _ => ?_⟩
    exact fn_next (T := T) (d := f_law) (n := 59) (by rfl) F ⟨rfl, rfl, rfl, by decide +kernel, rfl, by decide +kernel, by decide +kernel⟩ (N := ["script", "cell", "third", "far", "deck", "parish", "n", "one", "two", "three", "four", "five", "six", "z", "least", "both"]) rfl rfl (by decide) (by decide +kernel) (M base)
end Mi.K03
end
section
set_option maxHeartbeats 1000000
namespace Mi
open PySem
theorem call_eq {P : Prg} {n : Nat} {f : Str} {d : Fn} {vs : List Val} {st : Store} (h : P.find f = some d) : call P (n + 1) f vs st = runFn (call P n) d vs st := by
  show (match P.find f with | some d => runFn (call P n) d vs st | none => .bad) = _
  rw [h]
theorem fuel {n c : Nat} (h : c + 1 ≤ n) : ∃ m, n = m + 1 ∧ c ≤ m := ⟨n - 1, by omega, by omega⟩
section
variable (F : Calls)
@[simp] theorem ev_cst (c : D) (env : Env) (st : Store) : evE F (.cst c) env st = .ok (.d c) st := rfl
@[simp] theorem ev_glo (x : Str) (c : D) (env : Env) (st : Store) : evE F (.glo x c) env st = .ok (.d c) st := rfl
@[simp] theorem ev_var (i : Nat) (env : Env) (st : Store) : evE F (.var i) env st = mVar i env st := rfl
@[simp] theorem ev_neg (a : E) (env : Env) (st : Store) : evE F (.neg a) env st = mUn negD (evE F a) env st := rfl
@[simp] theorem ev_bin (o : B2) (a b : E) (env : Env) (st : Store) : evE F (.bin o a b) env st = mBin (b2 o) (evE F a) (evE F b) env st := rfl
@[simp] theorem ev_chain (o p : B2) (a b c : E) (env : Env) (st : Store) : evE F (.chain o p a b c) env st = mChain (b2 o) (b2 p) (evE F a) (evE F b) (evE F c) env st := rfl
@[simp] theorem ev_isc (n : Bool) (a : E) (c : D) (env : Env) (st : Store) : evE F (.isc n a c) env st = mIs n c (evE F a) env st := rfl
@[simp] theorem ev_and (a b : E) (env : Env) (st : Store) : evE F (.and a b) env st = mAnd (evE F a) (evE F b) env st := rfl
@[simp] theorem ev_or (a b : E) (env : Env) (st : Store) : evE F (.or a b) env st = mOr (evE F a) (evE F b) env st := rfl
@[simp] theorem ev_not (a : E) (env : Env) (st : Store) : evE F (.not a) env st = mNot (evE F a) env st := rfl
@[simp] theorem ev_ite (c a b : E) (env : Env) (st : Store) : evE F (.ite c a b) env st = mIte (evE F c) (evE F a) (evE F b) env st := rfl
@[simp] theorem ev_tup (es : List E) (env : Env) (st : Store) : evE F (.tup es) env st = mTup (evEs F es) env st := rfl
@[simp] theorem ev_lst (es : List E) (env : Env) (st : Store) : evE F (.lst es) env st = mLst (evEs F es) env st := rfl
@[simp] theorem ev_rep (es : List E) (k : E) (env : Env) (st : Store) : evE F (.rep es k) env st = mBin repD (mLst (evEs F es)) (evE F k) env st := rfl
@[simp] theorem ev_idx (a i : E) (env : Env) (st : Store) : evE F (.idx a i) env st = mBin idx (evE F a) (evE F i) env st := rfl
@[simp] theorem ev_slc (a : E) (l h : Option E) (env : Env) (st : Store) : evE F (.slc a l h) env st = mSlc (evE F a) (evO F l) (evO F h) env st := rfl
@[simp] theorem ev_call (b : Bool) (f : Str) (es : List E) (env : Env) (st : Store) : evE F (.call b f es) env st = mCall F f (evEs F es) env st := rfl
@[simp] theorem ev_bi (f : B1) (a : E) (env : Env) (st : Store) : evE F (.bi f a) env st = mUn (b1 f) (evE F a) env st := rfl
@[simp] theorem ev_min2 (a b : E) (env : Env) (st : Store) : evE F (.min2 a b) env st = mBin min2D (evE F a) (evE F b) env st := rfl
@[simp] theorem ev_lrange (a b : E) (env : Env) (st : Store) : evE F (.lrange a b) env st = mBin lrangeD (evE F a) (evE F b) env st := rfl
@[simp] theorem ev_lzip (a b : E) (env : Env) (st : Store) : evE F (.lzip a b) env st = mBin lzipD (evE F a) (evE F b) env st := rfl
@[simp] theorem ev_isin (a : E) (ks : List Kd) (env : Env) (st : Store) : evE F (.isin a ks) env st = mUn (isinD ks) (evE F a) env st := rfl
@[simp] theorem ev_lcE (own : List Nat) (e : E) (t : Tg) (it : E) (c : Option E) (env : Env) (st : Store) : evE F (.lcE own e t it c) env st = mLc own t (mItE (evE F it)) (evO F c) (evE F e) env st := rfl
@[simp] theorem ev_lcR (own : List Nat) (e : E) (t : Tg) (args : List E) (c : Option E) (env : Env) (st : Store) : evE F (.lcR own e t args c) env st = mLc own t (mItR (evEs F args)) (evO F c) (evE F e) env st := rfl
@[simp] theorem ev_lcZ (own : List Nat) (e : E) (t : Tg) (a b : E) (c : Option E) (env : Env) (st : Store) : evE F (.lcZ own e t a b c) env st = mLc own t (mItZ (evE F a) (evE F b)) (evO F c) (evE F e) env st := rfl
@[simp] theorem ev_lcN (own : List Nat) (e : E) (t : Tg) (a : E) (c : Option E) (env : Env) (st : Store) : evE F (.lcN own e t a c) env st = mLc own t (mItN (evE F a)) (evO F c) (evE F e) env st := rfl
@[simp] theorem ev_lc2 (own own1 : List Nat) (e : E) (t : Tg) (it : E) (t1 : Tg) (it1 : E) (env : Env) (st : Store) : evE F (.lc2 own own1 e t it t1 it1) env st = mLc2 own own1 t (mItE (evE F it)) t1 (mItE (evE F it1)) (evE F e) env st := rfl
@[simp] theorem ev_nil (env : Env) (st : Store) : evEs F [] env st = .ok [] st := rfl
@[simp] theorem ev_cons (e : E) (es : List E) (env : Env) (st : Store) : evEs F (e :: es) env st = (evE F e env st).bind fun v st1 => (evEs F es env st1).bind fun vs st2 => .ok (v :: vs) st2 := rfl
@[simp] theorem ev_none : evO F none = none := rfl
@[simp] theorem ev_some (e : E) : evO F (some e) = some (evE F e) := rfl
@[simp] theorem ev_iex (a : E) (env : Env) (st : Store) : evI F (.ex a) env st = mItE (evE F a) env st := rfl
@[simp] theorem ev_irng (a : List E) (env : Env) (st : Store) : evI F (.rng a) env st = mItR (evEs F a) env st := rfl
@[simp] theorem ev_izip (a b : E) (env : Env) (st : Store) : evI F (.zip a b) env st = mItZ (evE F a) (evE F b) env st := rfl
@[simp] theorem ev_ienum (a : E) (env : Env) (st : Store) : evI F (.enum a) env st = mItN (evE F a) env st := rfl
@[simp] theorem es_nil (env : Env) (st : Store) : evSs F [] env st = .ok (.nx env) st := rfl
@[simp] theorem es_cons (s : S) (ss : List S) (env : Env) (st : Store) : evSs F (s :: ss) env st = mSeq (evS F s) (evSs F ss) env st := rfl
@[simp] theorem es_asg (t : Tg) (e : E) (env : Env) (st : Store) : evS F (.asg t e) env st = mAsg t (evE F e) env st := rfl
@[simp] theorem es_newl (i : Nat) (e : E) (env : Env) (st : Store) : evS F (.newl i e) env st = mNewl i (evE F e) env st := rfl
@[simp] theorem es_par (i j : Nat) (a b : E) (env : Env) (st : Store) : evS F (.par i j a b) env st = mPar i j (evE F a) (evE F b) env st := rfl
@[simp] theorem es_par1 (i j : Nat) (a b : E) (env : Env) (st : Store) : evS F (.par1 i j a b) env st = mPar1 i j (evE F a) (evE F b) env st := rfl
@[simp] theorem es_aug (i : Nat) (o : B2) (e : E) (env : Env) (st : Store) : evS F (.aug i o e) env st = mAug i o (evE F e) env st := rfl
@[simp] theorem es_seti (i : Nat) (k e : E) (env : Env) (st : Store) : evS F (.seti i k e) env st = mSeti i (evE F k) (evE F e) env st := rfl
@[simp] theorem es_app (i : Nat) (e : E) (env : Env) (st : Store) : evS F (.app i e) env st = mApp i (evE F e) env st := rfl
@[simp] theorem es_ex (e : E) (env : Env) (st : Store) : evS F (.ex e) env st = mEx (evE F e) env st := rfl
@[simp] theorem es_ret (e : E) (env : Env) (st : Store) : evS F (.ret e) env st = mRet (evE F e) env st := rfl
@[simp] theorem es_retv (i : Nat) (env : Env) (st : Store) : evS F (.retv i) env st = mRetV i env st := rfl
@[simp] theorem es_iff (c : E) (a b : List S) (env : Env) (st : Store) : evS F (.iff c a b) env st = mIf (evE F c) (evSs F a) (evSs F b) env st := rfl
@[simp] theorem es_for (t : Tg) (it : It) (b : List S) (env : Env) (st : Store) : evS F (.for t it b) env st = mFor t (evI F it) (evSs F b) env st := rfl
end
@[simp] theorem bx_bin (f : D → D → Option D) (ma mb : ME) (env : Env) (st : Store) : mBin f ma mb env st = (ma env st).bind fun v st1 => (mb env st1).bind fun w st2 => R.of (vw st2 v) fun x => R.of (vw st2 w) fun y => R.of (f x y) fun z => .ok (.d z) st2 := rfl
@[simp] theorem bx_un (f : D → Option D) (ma : ME) (env : Env) (st : Store) : mUn f ma env st = (ma env st).bind fun v st1 => R.of (vw st1 v) fun x => R.of (f x) fun z => .ok (.d z) st1 := rfl
@[simp] theorem bx_test_ok {β : Type} (m : ME) (env : Env) (st : Store) (k : Bool → Store → R β) : mTest m env st k = (m env st).bind fun v st1 => match v with
  | .d (.bool b) => k b st1
  | _ => .bad := rfl
@[simp] theorem bx_and (ma mb : ME) (env : Env) (st : Store) : mAnd ma mb env st = mTest ma env st fun b st1 => if b then mb env st1 else .ok (.d (.bool false)) st1 := rfl
@[simp] theorem bx_or (ma mb : ME) (env : Env) (st : Store) : mOr ma mb env st = mTest ma env st fun b st1 => if b then .ok (.d (.bool true)) st1 else mb env st1 := rfl
@[simp] theorem bx_not (ma : ME) (env : Env) (st : Store) : mNot ma env st = mTest ma env st fun b st1 => .ok (.d (.bool (!b))) st1 := rfl
@[simp] theorem bx_ite (mc ma mb : ME) (env : Env) (st : Store) : mIte mc ma mb env st = mTest mc env st fun b st1 => if b then ma env st1 else mb env st1 := rfl
@[simp] theorem bx_is (n : Bool) (c : D) (m : ME) (env : Env) (st : Store) : mIs n c m env st = (m env st).bind fun v st1 => match v with
  | .d x => R.of (isD c x) fun b => .ok (.d (.bool (if n then !b else b))) st1
  | _ => .bad := rfl
@[simp] theorem bx_call (F : Calls) (f : Str) (ms : MEs) (env : Env) (st : Store) : mCall F f ms env st = (ms env st).bind fun vs st1 => F f vs st1 := rfl
@[simp] theorem bx_ret (m : ME) (env : Env) (st : Store) : mRet m env st = (m env st).bind fun v st1 => .ok (.rt v) st1 := rfl
@[simp] theorem bx_if (mc : ME) (a b : MS) (env : Env) (st : Store) : mIf mc a b env st = mTest mc env st fun c st1 => if c then a env st1 else b env st1 := rfl
@[simp] theorem bx_for (t : Tg) (mi : MI) (b : MS) (env : Env) (st : Store) : mFor t mi b env st = (mi env st).bind fun xs st1 => forGo t b xs env st1 := rfl
@[simp] theorem bx_seq (a b : MS) (env : Env) (st : Store) : mSeq a b env st = (a env st).bind fun fl st1 => match fl with
  | .nx env1 => b env1 st1
  | fl => .ok fl st1 := rfl
@[simp] theorem bx_ex (m : ME) (env : Env) (st : Store) : mEx m env st = (m env st).bind fun _ st1 => .ok (.nx env) st1 := rfl
@[simp] theorem bx_asg (i : Nat) (m : ME) (env : Env) (st : Store) : mAsg (.nm i) m env st = (m env st).bind fun v st1 => .ok (.nx (env.set i (some v))) st1 := rfl
theorem run_of {F : Calls} {d : Fn} {vs : List Val} {st : Store} (h : vs.length = d.arity) : runFn F d vs st = (match evSs F d.body (start d vs) st with
    | .ok (.nx _) st1 => .ok (.d .none) (st1.take st.length)
    | .ok (.rt v) st1 => R.of (away st1 st.length v) fun w => .ok w (st1.take st.length)
    | .ok (.bk _) _ => .bad
    | .ok (.ct _) _ => .bad
    | .exc e st1 => .exc e (st1.take st.length)
    | .bad => .bad) := if_pos h
@[simp] theorem away_d (st : Store) (n : Nat) (x : D) : away st n (.d x) = some (.d x) := rfl
theorem b2_add (i j : Int) : b2 .add (.int i) (.int j) = some (.int (i + j)) := rfl
theorem b2_sub (i j : Int) : b2 .sub (.int i) (.int j) = some (.int (i - j)) := rfl
theorem b2_lt (i j : Int) : b2 .lt (.int i) (.int j) = some (.bool (decide (i < j))) := rfl
theorem b2_le (i j : Int) : b2 .le (.int i) (.int j) = some (.bool (decide (i ≤ j))) := rfl
theorem b2_gt (i j : Int) : b2 .gt (.int i) (.int j) = some (.bool (decide (j < i))) := rfl
theorem b2_ge (i j : Int) : b2 .ge (.int i) (.int j) = some (.bool (decide (j ≤ i))) := rfl
@[simp] theorem eqv_not_not : PyData.eqv (.str "not") (.str "not") = true := by decide +kernel
@[simp] theorem eqv_not_and : PyData.eqv (.str "not") (.str "and") = false := by decide +kernel
@[simp] theorem eqv_not_or : PyData.eqv (.str "not") (.str "or") = false := by decide +kernel
@[simp] theorem eqv_not_fact : PyData.eqv (.str "not") (.str "fact") = false := by decide +kernel
@[simp] theorem eqv_not_lies : PyData.eqv (.str "not") (.str "lies") = false := by decide +kernel
@[simp] theorem eqv_not_liars : PyData.eqv (.str "not") (.str "liars") = false := by decide +kernel
@[simp] theorem eqv_not_honest : PyData.eqv (.str "not") (.str "honest") = false := by decide +kernel
@[simp] theorem eqv_not_odd : PyData.eqv (.str "not") (.str "odd") = false := by decide +kernel
@[simp] theorem eqv_not_share : PyData.eqv (.str "not") (.str "share") = false := by decide +kernel
@[simp] theorem eqv_and_not : PyData.eqv (.str "and") (.str "not") = false := by decide +kernel
@[simp] theorem eqv_and_and : PyData.eqv (.str "and") (.str "and") = true := by decide +kernel
@[simp] theorem eqv_and_or : PyData.eqv (.str "and") (.str "or") = false := by decide +kernel
@[simp] theorem eqv_and_fact : PyData.eqv (.str "and") (.str "fact") = false := by decide +kernel
@[simp] theorem eqv_and_lies : PyData.eqv (.str "and") (.str "lies") = false := by decide +kernel
@[simp] theorem eqv_and_liars : PyData.eqv (.str "and") (.str "liars") = false := by decide +kernel
@[simp] theorem eqv_and_honest : PyData.eqv (.str "and") (.str "honest") = false := by decide +kernel
@[simp] theorem eqv_and_odd : PyData.eqv (.str "and") (.str "odd") = false := by decide +kernel
@[simp] theorem eqv_and_share : PyData.eqv (.str "and") (.str "share") = false := by decide +kernel
@[simp] theorem eqv_or_not : PyData.eqv (.str "or") (.str "not") = false := by decide +kernel
@[simp] theorem eqv_or_and : PyData.eqv (.str "or") (.str "and") = false := by decide +kernel
@[simp] theorem eqv_or_or : PyData.eqv (.str "or") (.str "or") = true := by decide +kernel
@[simp] theorem eqv_or_fact : PyData.eqv (.str "or") (.str "fact") = false := by decide +kernel
@[simp] theorem eqv_or_lies : PyData.eqv (.str "or") (.str "lies") = false := by decide +kernel
@[simp] theorem eqv_or_liars : PyData.eqv (.str "or") (.str "liars") = false := by decide +kernel
@[simp] theorem eqv_or_honest : PyData.eqv (.str "or") (.str "honest") = false := by decide +kernel
@[simp] theorem eqv_or_odd : PyData.eqv (.str "or") (.str "odd") = false := by decide +kernel
@[simp] theorem eqv_or_share : PyData.eqv (.str "or") (.str "share") = false := by decide +kernel
@[simp] theorem eqv_fact_not : PyData.eqv (.str "fact") (.str "not") = false := by decide +kernel
@[simp] theorem eqv_fact_and : PyData.eqv (.str "fact") (.str "and") = false := by decide +kernel
@[simp] theorem eqv_fact_or : PyData.eqv (.str "fact") (.str "or") = false := by decide +kernel
@[simp] theorem eqv_fact_fact : PyData.eqv (.str "fact") (.str "fact") = true := by decide +kernel
@[simp] theorem eqv_fact_lies : PyData.eqv (.str "fact") (.str "lies") = false := by decide +kernel
@[simp] theorem eqv_fact_liars : PyData.eqv (.str "fact") (.str "liars") = false := by decide +kernel
@[simp] theorem eqv_fact_honest : PyData.eqv (.str "fact") (.str "honest") = false := by decide +kernel
@[simp] theorem eqv_fact_odd : PyData.eqv (.str "fact") (.str "odd") = false := by decide +kernel
@[simp] theorem eqv_fact_share : PyData.eqv (.str "fact") (.str "share") = false := by decide +kernel
@[simp] theorem eqv_lies_not : PyData.eqv (.str "lies") (.str "not") = false := by decide +kernel
@[simp] theorem eqv_lies_and : PyData.eqv (.str "lies") (.str "and") = false := by decide +kernel
@[simp] theorem eqv_lies_or : PyData.eqv (.str "lies") (.str "or") = false := by decide +kernel
@[simp] theorem eqv_lies_fact : PyData.eqv (.str "lies") (.str "fact") = false := by decide +kernel
@[simp] theorem eqv_lies_lies : PyData.eqv (.str "lies") (.str "lies") = true := by decide +kernel
@[simp] theorem eqv_lies_liars : PyData.eqv (.str "lies") (.str "liars") = false := by decide +kernel
@[simp] theorem eqv_lies_honest : PyData.eqv (.str "lies") (.str "honest") = false := by decide +kernel
@[simp] theorem eqv_lies_odd : PyData.eqv (.str "lies") (.str "odd") = false := by decide +kernel
@[simp] theorem eqv_lies_share : PyData.eqv (.str "lies") (.str "share") = false := by decide +kernel
@[simp] theorem eqv_liars_not : PyData.eqv (.str "liars") (.str "not") = false := by decide +kernel
@[simp] theorem eqv_liars_and : PyData.eqv (.str "liars") (.str "and") = false := by decide +kernel
@[simp] theorem eqv_liars_or : PyData.eqv (.str "liars") (.str "or") = false := by decide +kernel
@[simp] theorem eqv_liars_fact : PyData.eqv (.str "liars") (.str "fact") = false := by decide +kernel
@[simp] theorem eqv_liars_lies : PyData.eqv (.str "liars") (.str "lies") = false := by decide +kernel
@[simp] theorem eqv_liars_liars : PyData.eqv (.str "liars") (.str "liars") = true := by decide +kernel
@[simp] theorem eqv_liars_honest : PyData.eqv (.str "liars") (.str "honest") = false := by decide +kernel
@[simp] theorem eqv_liars_odd : PyData.eqv (.str "liars") (.str "odd") = false := by decide +kernel
@[simp] theorem eqv_liars_share : PyData.eqv (.str "liars") (.str "share") = false := by decide +kernel
@[simp] theorem eqv_honest_not : PyData.eqv (.str "honest") (.str "not") = false := by decide +kernel
@[simp] theorem eqv_honest_and : PyData.eqv (.str "honest") (.str "and") = false := by decide +kernel
@[simp] theorem eqv_honest_or : PyData.eqv (.str "honest") (.str "or") = false := by decide +kernel
@[simp] theorem eqv_honest_fact : PyData.eqv (.str "honest") (.str "fact") = false := by decide +kernel
@[simp] theorem eqv_honest_lies : PyData.eqv (.str "honest") (.str "lies") = false := by decide +kernel
@[simp] theorem eqv_honest_liars : PyData.eqv (.str "honest") (.str "liars") = false := by decide +kernel
@[simp] theorem eqv_honest_honest : PyData.eqv (.str "honest") (.str "honest") = true := by decide +kernel
@[simp] theorem eqv_honest_odd : PyData.eqv (.str "honest") (.str "odd") = false := by decide +kernel
@[simp] theorem eqv_honest_share : PyData.eqv (.str "honest") (.str "share") = false := by decide +kernel
@[simp] theorem eqv_odd_not : PyData.eqv (.str "odd") (.str "not") = false := by decide +kernel
@[simp] theorem eqv_odd_and : PyData.eqv (.str "odd") (.str "and") = false := by decide +kernel
@[simp] theorem eqv_odd_or : PyData.eqv (.str "odd") (.str "or") = false := by decide +kernel
@[simp] theorem eqv_odd_fact : PyData.eqv (.str "odd") (.str "fact") = false := by decide +kernel
@[simp] theorem eqv_odd_lies : PyData.eqv (.str "odd") (.str "lies") = false := by decide +kernel
@[simp] theorem eqv_odd_liars : PyData.eqv (.str "odd") (.str "liars") = false := by decide +kernel
@[simp] theorem eqv_odd_honest : PyData.eqv (.str "odd") (.str "honest") = false := by decide +kernel
@[simp] theorem eqv_odd_odd : PyData.eqv (.str "odd") (.str "odd") = true := by decide +kernel
@[simp] theorem eqv_odd_share : PyData.eqv (.str "odd") (.str "share") = false := by decide +kernel
@[simp] theorem eqv_share_not : PyData.eqv (.str "share") (.str "not") = false := by decide +kernel
@[simp] theorem eqv_share_and : PyData.eqv (.str "share") (.str "and") = false := by decide +kernel
@[simp] theorem eqv_share_or : PyData.eqv (.str "share") (.str "or") = false := by decide +kernel
@[simp] theorem eqv_share_fact : PyData.eqv (.str "share") (.str "fact") = false := by decide +kernel
@[simp] theorem eqv_share_lies : PyData.eqv (.str "share") (.str "lies") = false := by decide +kernel
@[simp] theorem eqv_share_liars : PyData.eqv (.str "share") (.str "liars") = false := by decide +kernel
@[simp] theorem eqv_share_honest : PyData.eqv (.str "share") (.str "honest") = false := by decide +kernel
@[simp] theorem eqv_share_odd : PyData.eqv (.str "share") (.str "odd") = false := by decide +kernel
@[simp] theorem eqv_share_share : PyData.eqv (.str "share") (.str "share") = true := by decide +kernel
@[simp] theorem eqv_int (i j : Int) : PyData.eqv (.int i) (.int j) = decide (i = j) := by rw [show PyData.eqv (.int i) (.int j) = (i == j) from rfl]; by_cases h : i = j <;> simp [h]
@[simp] theorem eqv_bool (i j : Bool) : PyData.eqv (.bool i) (.bool j) = (i == j) := by cases i <;> cases j <;> rfl
@[simp] theorem shp_str (x : Str) : shp (.str x) = true := rfl
@[simp] theorem shp_int (x : Int) : shp (.int x) = true := rfl
@[simp] theorem shp_bool (x : Bool) : shp (.bool x) = true := rfl
@[simp] theorem shp_none : shp .none = true := rfl
end Mi
end
section
set_option maxHeartbeats 2000000
namespace Mi
open PySem
inductive Fm where
  | fact (i : Nat)
  | lies (i : Nat)
  | liars (k : Int)
  | honest (k : Int)
  | odd
  | share (a b : Int)
  | not (f : Fm)
  | and (f g : Fm)
  | or (f g : Fm)
def Fm.d : Fm → D
  | .fact i => .tuple [.str "fact", .int i]
  | .lies i => .tuple [.str "lies", .int i]
  | .liars k => .tuple [.str "liars", .int k]
  | .honest k => .tuple [.str "honest", .int k]
  | .odd => .tuple [.str "odd"]
  | .share a b => .tuple [.str "share", .int a, .int b]
  | .not f => .tuple [.str "not", f.d]
  | .and f g => .tuple [.str "and", f.d, g.d]
  | .or f g => .tuple [.str "or", f.d, g.d]
def Fm.dep : Fm → Nat
  | .not f => f.dep + 1
  | .and f g => max f.dep g.dep + 1
  | .or f g => max f.dep g.dep + 1
  | _ => 1
/-- what may be said of so many facts and singles -/
def Fm.ok (p q : Nat) : Fm → Prop
  | .fact i => i < p
  | .lies i => i < q
  | .liars k => 1 ≤ k ∧ k ≤ 4
  | .honest k => 1 ≤ k ∧ k ≤ 4
  | .odd => True
  | .share a b => (a = 1 ∧ b = 2) ∨ (a = 1 ∧ b = 3) ∨ (a = 2 ∧ b = 3)
  | .not f => f.ok p q
  | .and f g => f.ok p q ∧ g.ok p q
  | .or f g => f.ok p q ∧ g.ok p q
def Fm.ev (fs ls : List Bool) (m z : Int) : Fm → Bool
  | .fact i => fs[i]?.getD false
  | .lies i => ls[i]?.getD false
  | .liars k => decide (k ≤ m)
  | .honest k => decide (k ≤ z - m)
  | .odd => decide (m % 2 = 1)
  | .share a b => decide (a * z ≤ b * m)
  | .not f => !f.ev fs ls m z
  | .and f g => f.ev fs ls m z && g.ev fs ls m z
  | .or f g => f.ev fs ls m z || g.ev fs ls m z
def bD (l : List Bool) : D := .tuple (l.map .bool)
@[simp] theorem at_0 {α : Type} (x : α) (xs : List α) : L2.atI (x :: xs) 0 = some x := by simp [L2.atI, L2.ixN]
theorem at_nat {α : Type} {xs : List α} {i : Nat} (h : i < xs.length) : L2.atI xs (i : Nat) = some xs[i] := by
  have h' : (i : Int) < (xs.length : Int) := by omega
  simp [L2.atI, L2.ixN, h', h]
@[simp] theorem at_1 {α : Type} (x y : α) (xs : List α) : L2.atI (x :: y :: xs) 1 = some y := at_nat (xs := x :: y :: xs) (i := 1) (by simp)
@[simp] theorem at_2 {α : Type} (x y z : α) (xs : List α) : L2.atI (x :: y :: z :: xs) 2 = some z := at_nat (xs := x :: y :: z :: xs) (i := 2) (by simp)
@[simp] theorem at_3 {α : Type} (x y z u : α) (xs : List α) : L2.atI (x :: y :: z :: u :: xs) 3 = some u := at_nat (xs := x :: y :: z :: u :: xs) (i := 3) (by simp)
theorem at_bool {l : List Bool} {i : Nat} (h : i < l.length) : L2.atI (l.map PyData.bool) (i : Nat) = some (.bool (l[i]?.getD false)) := by
  rw [at_nat (by simpa using h)]
  simp [h]
/-- small enough for the products -/
abbrev Sm (i : Int) : Prop := i.natAbs < 2 ^ 200
theorem sm_mul {i j : Int} (h : i.natAbs < 2 ^ 200) (h' : j.natAbs < 2 ^ 200) : iop .mul i j = some (.int (i * j)) := by
  have l : ∀ k : Int, k.natAbs < 2 ^ 200 → k.natAbs.log2 ≤ 200 := fun k hk => by
    by_cases h0 : k.natAbs = 0
    · rw [h0]; decide
    · exact Nat.le_of_lt ((Nat.log2_lt h0).mpr hk)
  have a := l i h
  have b := l j h'
  show (if i.natAbs.log2 + j.natAbs.log2 < 1000000 then some (PyData.int (i * j)) else none) = _
  rw [if_pos (by omega)]
structure HasTrue (P : Prg) : Prop where
  is_true : P.find "is_true" = some f_is_true
theorem is_true_ok {P : Prg} (H : HasTrue P) {fs ls : List Bool} {m z : Int} (hm : Sm m) (hz : Sm z) (st : Store) : ∀ (f : Fm) (n : Nat), f.ok fs.length ls.length → f.dep ≤ n → call P n "is_true" [.d f.d, .d (bD fs), .d (bD ls), .d (.int m), .d (.int z)] st = .ok (.d (.bool (f.ev fs ls m z))) st
  | .fact i, n, h, hn => by
    obtain ⟨k, rfl, _⟩ := fuel (c := 0) hn
    rw [call_eq H.is_true]
    simp [run_of, f_is_true, start, mVar, Fm.d, idx, b2, bD, at_bool (show i < fs.length from h), Fm.ev, isK]
  | .lies i, n, h, hn => by
    obtain ⟨k, rfl, _⟩ := fuel (c := 0) hn
    rw [call_eq H.is_true]
    simp [run_of, f_is_true, start, mVar, Fm.d, idx, b2, bD, at_bool (show i < ls.length from h), Fm.ev, isK]
  | .liars i, n, h, hn => by
    obtain ⟨k, rfl, _⟩ := fuel (c := 0) hn
    rw [call_eq H.is_true]
    simp [run_of, f_is_true, start, mVar, Fm.d, idx, b2, iop, Fm.ev]
  | .honest i, n, h, hn => by
    obtain ⟨k, rfl, _⟩ := fuel (c := 0) hn
    rw [call_eq H.is_true]
    simp [run_of, f_is_true, start, mVar, Fm.d, idx, b2, iop, Fm.ev]
  | .odd, n, h, hn => by
    obtain ⟨k, rfl, _⟩ := fuel (c := 0) hn
    rw [call_eq H.is_true]
    simp [run_of, f_is_true, start, mVar, Fm.d, idx, b2, iop, Fm.ev]
  | .share a b, n, h, hn => by
    obtain ⟨k, rfl, _⟩ := fuel (c := 0) hn
    rw [call_eq H.is_true]
    have ha : Sm a := by rcases h with ⟨rfl, rfl⟩ | ⟨rfl, rfl⟩ | ⟨rfl, rfl⟩ <;> decide
    have hb : Sm b := by rcases h with ⟨rfl, rfl⟩ | ⟨rfl, rfl⟩ | ⟨rfl, rfl⟩ <;> decide
    simp [run_of, f_is_true, start, mVar, Fm.d, idx, b2, sm_mul ha hz, sm_mul hb hm, Fm.ev]
    simp [iop]
  | .not f, n, h, hn => by
    obtain ⟨k, rfl, hk⟩ := fuel (c := f.dep) hn
    rw [call_eq H.is_true]
    simp [run_of, f_is_true, start, mVar, Fm.d, idx, b2, iop, Fm.ev, is_true_ok H hm hz st f k h hk]
  | .and f g, n, h, hn => by
    obtain ⟨k, rfl, hk⟩ := fuel (c := max f.dep g.dep) hn
    rw [call_eq H.is_true]
    simp [run_of, f_is_true, start, mVar, Fm.d, idx, b2, iop, Fm.ev, is_true_ok H hm hz st f k h.1 (by omega), is_true_ok H hm hz st g k h.2 (by omega)]
    cases f.ev fs ls m z <;> simp
  | .or f g, n, h, hn => by
    obtain ⟨k, rfl, hk⟩ := fuel (c := max f.dep g.dep) hn
    rw [call_eq H.is_true]
    simp [run_of, f_is_true, start, mVar, Fm.d, idx, b2, iop, Fm.ev, is_true_ok H hm hz st f k h.1 (by omega), is_true_ok H hm hz st g k h.2 (by omega)]
    cases f.ev fs ls m z <;> simp
end Mi
end
section
set_option maxHeartbeats 4000000
namespace Mi
open PySem
theorem small_line {n : Nat} (h : n ≤ 1000000) : n < sizeLine := by rw [sizeLine_eq]; omega
/-- a comprehension that changes nothing -/
theorem lc_map {i : Nat} {me : ME} {env : Env} {st : Store} (g : D → D) : ∀ (xs acc : List D), (∀ x ∈ xs, me (env.set i (some (.d x))) st = .ok (.d (g x)) st) → acc.length + xs.length ≤ sizeLine → lcGo (.nm i) none me env xs acc st = .ok (acc ++ xs.map g) st
  | [], acc, _, _ => by simp [lcGo]
  | x :: xs, acc, h, hl => by
    simp only [List.length_cons] at hl
    have ih := lc_map (me := me) (env := env) (st := st) g xs (acc ++ [g x]) (fun y hy => h y (List.mem_cons_of_mem _ hy)) (by simp; omega)
    simp [lcGo, tset, h x List.mem_cons_self, show acc.length < sizeLine by omega, ih]
theorem lc_filter {i : Nat} {me mc : ME} {env : Env} {st : Store} (c : D → Bool) (g : D → D) : ∀ (xs acc : List D), (∀ x ∈ xs, mc (env.set i (some (.d x))) st = .ok (.d (.bool (c x))) st) → (∀ x ∈ xs, c x = true → me (env.set i (some (.d x))) st = .ok (.d (g x)) st) → acc.length + xs.length ≤ sizeLine →
    lcGo (.nm i) (some mc) me env xs acc st = .ok (acc ++ (xs.filter c).map g) st
  | [], acc, _, _, _ => by simp [lcGo]
  | x :: xs, acc, hc, h, hl => by
    simp only [List.length_cons] at hl
    have ih := fun acc' hl' => lc_filter (me := me) (mc := mc) (env := env) (st := st) c g xs acc' (fun y hy => hc y (List.mem_cons_of_mem _ hy)) (fun y hy => h y (List.mem_cons_of_mem _ hy)) hl'
    cases hx : c x with
    | true => simp [lcGo, tset, hc x List.mem_cons_self, hx, h x List.mem_cons_self hx, show acc.length < sizeLine by omega, ih (acc ++ [g x]) (by simp; omega)]
    | false => simp [lcGo, tset, hc x List.mem_cons_self, hx, ih acc (by omega)]
structure Par where
  facts : Nat
  singles : List (Option Fm)
  crowd : Option Fm
  most : Option Int
def sd : Option Fm → D
  | none => .none
  | some f => f.d
def md : Option Int → D
  | none => .none
  | some m => .int m
def Par.d (p : Par) : D := .tuple [.int p.facts, .tuple (p.singles.map sd), sd p.crowd, md p.most]
structure Par.ok (p : Par) : Prop where
  facts : p.facts ≤ 2
  len : p.singles.length ≤ 3
  each : ∀ f, some f ∈ p.singles → f.ok p.facts p.singles.length ∧ f.dep ≤ 3
  crowd : ∀ f, p.crowd = some f → f.ok p.facts p.singles.length ∧ f.dep ≤ 3
  most : ∀ m, p.most = some m → 0 ≤ m ∧ m ≤ 9
def fitS (fs ls : List Bool) (m n : Int) : List (Option Fm) → List Bool → Bool
  | some f :: ss, l :: r => !(f.ev fs ls m n == l) && fitS fs ls m n ss r
  | none :: ss, _ :: r => fitS fs ls m n ss r
  | _, _ => true
def fitC (fs ls : List Bool) (m n : Int) : Option Fm → Bool
  | none => true
  | some f => !(decide (m < n) && !f.ev fs ls m (n - 1)) && (decide (m = 0) || !f.ev fs ls (m - 1) (n - 1))
def cntB (ls : List Bool) : Int := (ls.map fun b => if b then (1 : Int) else 0).sum
def fitM (ls : List Bool) (m : Int) : Option Int → Bool
  | none => true
  | some k => !decide (k < cntB ls + m)
def Par.can (p : Par) (fs ls : List Bool) (m n : Int) : Bool := fitM ls m p.most && (fitS fs ls m n p.singles ls && fitC fs ls m n p.crowd)
theorem fmd_not_none (f : Fm) : isD .none f.d = some false := by cases f <;> rfl
@[simp] theorem md_none : md none = .none := rfl
@[simp] theorem md_some (m : Int) : md (some m) = .int m := rfl
@[simp] theorem sd_none : sd none = .none := rfl
@[simp] theorem sd_some (f : Fm) : sd (some f) = f.d := rfl
theorem zipD_cons (x y : D) (xs ys : List D) : zipD (x :: xs) (y :: ys) = .tuple [x, y] :: zipD xs ys := rfl
theorem zipD_nil (ys : List D) : zipD [] ys = [] := rfl
theorem zipD_nil' (xs : List D) : zipD xs [] = [] := by simp [zipD]
structure HasCan (P : Prg) : Prop extends HasTrue P where
  singles_fit : P.find "singles_fit" = some f_singles_fit
  crowd_fits : P.find "crowd_fits" = some f_crowd_fits
  can_be : P.find "can_be" = some f_can_be
section
variable {P : Prg} {fs ls : List Bool} {m n : Int} {st : Store}
theorem singles_go (H : HasTrue P) {pd : D} (hm : Sm m) (hn : Sm n) {k : Nat} (hk : 3 ≤ k) : ∀ (ss : List (Option Fm)) (r : List Bool) (e5 e6 : Option Val), (∀ f, some f ∈ ss → f.ok fs.length ls.length ∧ f.dep ≤ 3) → 
      (fitS fs ls m n ss r = true ∧ ∃ e5' e6', forGo (.tp [5, 6]) (evSs (call P k) [.iff (.and (.isc true (.var 5) .none) (.bin .eq (.call false "is_true" [(.var 5), (.var 1), (.var 2), (.var 3), (.var 4)]) (.var 6))) [.ret (.cst (.bool false))] []]) (zipD (ss.map sd) (r.map .bool))
        [some (.d pd), some (.d (bD fs)), some (.d (bD ls)), some (.d (.int m)), some (.d (.int n)), e5, e6] st = .ok (.nx [some (.d pd), some (.d (bD fs)), some (.d (bD ls)), some (.d (.int m)), some (.d (.int n)), e5', e6']) st) ∨
      (fitS fs ls m n ss r = false ∧ forGo (.tp [5, 6]) (evSs (call P k) [.iff (.and (.isc true (.var 5) .none) (.bin .eq (.call false "is_true" [(.var 5), (.var 1), (.var 2), (.var 3), (.var 4)]) (.var 6))) [.ret (.cst (.bool false))] []]) (zipD (ss.map sd) (r.map .bool))
        [some (.d pd), some (.d (bD fs)), some (.d (bD ls)), some (.d (.int m)), some (.d (.int n)), e5, e6] st = .ok (.rt (.d (.bool false))) st)
  | [], r, e5, e6, _ => .inl ⟨rfl, e5, e6, rfl⟩
  | s :: ss, [], e5, e6, _ => .inl ⟨by cases s <;> rfl, e5, e6, rfl⟩
  | none :: ss, l :: r, e5, e6, h => by
    have ih := singles_go H (pd := pd) hm hn hk ss r (some (.d .none)) (some (.d (.bool l))) fun f hf => h f (List.mem_cons_of_mem _ hf)
    simpa [zipD_cons, forGo, tset, setAll, mVar, isD, fitS] using ih
  | some f :: ss, l :: r, e5, e6, h => by
    obtain ⟨h1, h2⟩ := h f List.mem_cons_self
    have ih := singles_go H (pd := pd) hm hn hk ss r (some (.d f.d)) (some (.d (.bool l))) fun f hf => h f (List.mem_cons_of_mem _ hf)
    have q := is_true_ok H hm hn st f k h1 (by omega)
    cases hb : (f.ev fs ls m n == l) with
    | true =>
      right
      refine ⟨by simp [fitS, hb], ?_⟩
      simp [zipD_cons, forGo, tset, setAll, mVar, fmd_not_none, q, b2, hb]
    | false => simpa [zipD_cons, forGo, tset, setAll, mVar, fmd_not_none, q, b2, hb, fitS] using ih
theorem singles_fit_ok (H : HasCan P) {ss : List (Option Fm)} {a b c : D} (hm : Sm m) (hn : Sm n) (he : ∀ f, some f ∈ ss → f.ok fs.length ls.length ∧ f.dep ≤ 3) {k : Nat} (hk : 4 ≤ k) :
    call P k "singles_fit" [.d (.tuple [a, .tuple (ss.map sd), b, c]), .d (bD fs), .d (bD ls), .d (.int m), .d (.int n)] st = .ok (.d (.bool (fitS fs ls m n ss ls))) st := by
  obtain ⟨k, rfl, hk'⟩ := fuel (c := 3) hk
  rw [call_eq H.singles_fit]
  rcases singles_go H.toHasTrue (pd := .tuple [a, .tuple (ss.map sd), b, c]) (st := st) hm hn hk' ss ls none none he with ⟨h1, e5, e6, h2⟩ | ⟨h1, h2⟩
  · simp only [bD] at h2
    simp [run_of, f_singles_fit, start, mVar, idx, mItZ, bD, h1] at h2 ⊢
    simp [h2]
  · simp only [bD] at h2
    simp [run_of, f_singles_fit, start, mVar, idx, mItZ, bD, h1] at h2 ⊢
    simp [h2]
theorem crowd_fits_ok (H : HasCan P) {a b c : D} {cr : Option Fm} (hm : Sm m) (hm1 : Sm (m - 1)) (hn : Sm (n - 1)) (he : ∀ f, cr = some f → f.ok fs.length ls.length ∧ f.dep ≤ 3) {k : Nat} (hk : 4 ≤ k) :
    call P k "crowd_fits" [.d (.tuple [a, b, sd cr, c]), .d (bD fs), .d (bD ls), .d (.int m), .d (.int n)] st = .ok (.d (.bool (fitC fs ls m n cr))) st := by
  obtain ⟨k, rfl, hk'⟩ := fuel (c := 3) hk
  rw [call_eq H.crowd_fits]
  cases cr with
  | none => simp [run_of, f_crowd_fits, start, mVar, idx, isD, fitC]
  | some f =>
    obtain ⟨h1, h2⟩ := he f rfl
    have q1 := is_true_ok H.toHasTrue hm hn st f k h1 (by omega)
    have q2 := is_true_ok H.toHasTrue hm1 hn st f k h1 (by omega)
    simp [run_of, f_crowd_fits, start, mVar, idx, fmd_not_none, b2, iop, q1, q2, fitC]
    by_cases c2 : m = 0
    · subst c2
      by_cases c1 : 0 < n <;> cases f.ev fs ls 0 (n - 1) <;> simp [c1, q2]
    · by_cases c1 : m < n <;> cases f.ev fs ls m (n - 1) <;> simp [c1, c2, q2]
theorem allM_int : ∀ ns : List Int, allM bInt (ns.map .int) = some ns
  | [] => rfl
  | n :: ns => by simp [allM, bInt, allM_int ns]
theorem cnt_sum (ls : List Bool) : allM bInt (ls.map fun b => PyData.int (if b then 1 else 0)) = some (ls.map fun b => if b then (1 : Int) else 0) := by
  have h := allM_int (ls.map fun b => if b then (1 : Int) else 0)
  rwa [List.map_map] at h
def iB : D → D
  | .bool b => .int (if b then 1 else 0)
  | x => x
theorem can_be_ok (H : HasCan P) {p : Par} (hm : Sm m) (hm1 : Sm (m - 1)) (hn : Sm n) (hn1 : Sm (n - 1)) (ok : p.ok) (hf : fs.length = p.facts) (hl : ls.length = p.singles.length) {k : Nat} (hk : 5 ≤ k) :
    call P k "can_be" [.d p.d, .d (bD fs), .d (bD ls), .d (.int m), .d (.int n)] st = .ok (.d (.bool (p.can fs ls m n))) st := by
  obtain ⟨k, rfl, hk'⟩ := fuel (c := 4) hk
  rw [call_eq H.can_be]
  have q1 := singles_fit_ok H (st := st) (a := .int p.facts) (b := sd p.crowd) (c := md p.most) (fs := fs) (ls := ls) (ss := p.singles) hm hn (by rw [hf, hl]; exact ok.each) hk'
  have q2 := crowd_fits_ok H (st := st) (a := .int p.facts) (b := .tuple (p.singles.map sd)) (c := md p.most) (fs := fs) (ls := ls) (cr := p.crowd) hm hm1 hn1 (by rw [hf, hl]; exact ok.crowd) hk'
  have len : ls.length ≤ 3 := by rw [hl]; exact ok.len
  have e : ∀ (env : Env), env.length = 6 → lcGo (.nm 5) none (evE (call P k) (.bi .int (.var 5))) env (ls.map .bool) [] st = .ok ([] ++ (ls.map PyData.bool).map iB) st := fun env he => by
    refine lc_map iB _ _ (fun x hx => ?_) (by simp; have := small_line (n := ls.length) (by omega); omega)
    obtain ⟨b, _, rfl⟩ := List.mem_map.mp hx
    simp [mVar, he, b1, iB]
  have e2 : (ls.map PyData.bool).map iB = ls.map fun b => PyData.int (if b then 1 else 0) := by
    rw [List.map_map]
    exact List.map_congr_left fun b _ => rfl
  rw [e2] at e
  cases hm0 : p.most with
  | none =>
    rw [hm0] at q1 q2
    simp only [md_none, md_some] at q1 q2
    cases hq : fitS fs ls m n p.singles ls <;> simp [run_of, f_can_be, start, mVar, idx, Par.d, hm0, md, isD, q1, q2, hq, Par.can, fitM]
  | some k0 =>
    rw [hm0] at q1 q2
    simp only [md_none, md_some] at q1 q2
    have e3 := e (wipeE [some (.d p.d), some (.d (bD fs)), some (.d (bD ls)), some (.d (.int m)), some (.d (.int n)), none] [5]) rfl
    simp only [Par.d, hm0, md] at e3
    by_cases hc : k0 < cntB ls + m
    · simp [run_of, f_can_be, start, mVar, idx, Par.d, hm0, md, isD, mLc, mItE, items, bD, b2, iop] at e3 ⊢
      simp [e3, noExc, b1, cnt_sum, b2, iop, Par.can, fitM, hm0, hc, show k0 < (ls.map fun b => if b then (1 : Int) else 0).sum + m from hc]
    · simp only [bD] at q1 q2
      simp [run_of, f_can_be, start, mVar, idx, Par.d, hm0, md, isD, mLc, mItE, items, bD, b2, iop] at e3 q1 q2 ⊢
      cases hq : fitS fs ls m n p.singles ls <;> simp [e3, noExc, b1, cnt_sum, b2, iop, Par.can, fitM, hm0, hc, show ¬ k0 < (ls.map fun b => if b then (1 : Int) else 0).sum + m from hc, q1, q2, hq]
end
end Mi
end
section
set_option maxHeartbeats 4000000
namespace Mi
open PySem
theorem cut_tail {α : Type} (x : α) (xs : List α) : cut (x :: xs) (some 1) none = xs := by
  have h1 : HT.sIx (x :: xs).length 0 (some 1) = 1 := by
    simp [HT.sIx]
  have h2 : HT.sIx (x :: xs).length (x :: xs).length none = (x :: xs).length := rfl
  unfold cut
  rw [h1, h2]
  simp
@[simp] theorem shpL_bb (a b : Bool) : shpL [.bool a, .bool b] = true := rfl
structure HasSeen (P : Prg) : Prop where
  seen : P.find "_law_seen" = some f_law_seen
  lcan : P.find "_law_can" = some f_law_can
section
variable {P : Prg} {fs ls : List Bool} {m n z : Int} {st : Store}
theorem seen_ok (H : HasSeen P) (hm : Sm m) (hz : Sm z) : ∀ (f : Fm) (n : Nat), f.ok fs.length ls.length → f.dep ≤ n → call P n "_law_seen" [.d f.d, .d (bD fs), .d (bD ls), .d (.tuple [.int m, .int z])] st = .ok (.d (.bool (f.ev fs ls m z))) st
  | .fact i, n, h, hn => by
    obtain ⟨k, rfl, _⟩ := fuel (c := 0) hn
    rw [call_eq H.seen]
    simp [run_of, f_law_seen, start, mVar, Fm.d, idx, b2, bD, at_bool (show i < fs.length from h), Fm.ev]
  | .lies i, n, h, hn => by
    obtain ⟨k, rfl, _⟩ := fuel (c := 0) hn
    rw [call_eq H.seen]
    simp [run_of, f_law_seen, start, mVar, Fm.d, idx, b2, bD, at_bool (show i < ls.length from h), Fm.ev]
  | .liars i, n, h, hn => by
    obtain ⟨k, rfl, _⟩ := fuel (c := 0) hn
    rw [call_eq H.seen]
    simp [run_of, f_law_seen, start, mVar, Fm.d, idx, b2, iop, Fm.ev, mAsg, tset, setAll]
  | .honest i, n, h, hn => by
    obtain ⟨k, rfl, _⟩ := fuel (c := 0) hn
    rw [call_eq H.seen]
    simp [run_of, f_law_seen, start, mVar, Fm.d, idx, b2, iop, Fm.ev, mAsg, tset, setAll]
  | .odd, n, h, hn => by
    obtain ⟨k, rfl, _⟩ := fuel (c := 0) hn
    rw [call_eq H.seen]
    simp [run_of, f_law_seen, start, mVar, Fm.d, idx, b2, iop, Fm.ev, mAsg, tset, setAll]
  | .share a b, n, h, hn => by
    obtain ⟨k, rfl, _⟩ := fuel (c := 0) hn
    rw [call_eq H.seen]
    have ha : Sm a := by rcases h with ⟨rfl, rfl⟩ | ⟨rfl, rfl⟩ | ⟨rfl, rfl⟩ <;> decide
    have hb : Sm b := by rcases h with ⟨rfl, rfl⟩ | ⟨rfl, rfl⟩ | ⟨rfl, rfl⟩ <;> decide
    simp [run_of, f_law_seen, start, mVar, Fm.d, idx, b2, mAsg, tset, setAll, sm_mul hz ha, sm_mul hm hb, Fm.ev]
    simp [iop, Int.mul_comm]
  | .not f, n, h, hn => by
    obtain ⟨k, rfl, hk⟩ := fuel (c := f.dep) hn
    rw [call_eq H.seen]
    simp [run_of, f_law_seen, start, mVar, Fm.d, idx, b2, iop, Fm.ev, seen_ok H hm hz f k h hk]
  | .and f g, n, h, hn => by
    obtain ⟨k, rfl, hk⟩ := fuel (c := max f.dep g.dep) hn
    rw [call_eq H.seen]
    simp [run_of, f_law_seen, start, mVar, Fm.d, idx, b2, iop, Fm.ev, mLc, mItE, mSlc, mOptI, slc, cut_tail, items, lcGo, tset, wipeE, noExc, seen_ok H hm hz f k h.1 (by omega), seen_ok H hm hz g k h.2 (by omega), sizeLine_eq]
  | .or f g, n, h, hn => by
    obtain ⟨k, rfl, hk⟩ := fuel (c := max f.dep g.dep) hn
    rw [call_eq H.seen]
    simp [run_of, f_law_seen, start, mVar, Fm.d, idx, b2, iop, Fm.ev, mLc, mItE, mSlc, mOptI, slc, cut_tail, items, lcGo, tset, wipeE, noExc, seen_ok H hm hz f k h.1 (by omega), seen_ok H hm hz g k h.2 (by omega), sizeLine_eq]
theorem rng_nat (k : Nat) : rngL 0 (k : Int) 1 = (List.range k).map fun j => PyData.int (j : Nat) := by
  have e : (Builtin.Range.rangeSize 0 (k : Int) 1).toNat = k := by
    unfold Builtin.Range.rangeSize
    split <;> (try split) <;> omega
  unfold rngL
  rw [e]
  refine List.map_congr_left fun j _ => ?_
  simp
def fitJ (fs ls : List Bool) (m n : Int) (ss : List (Option Fm)) (j : Nat) : Bool := match ss[j]? with
  | some (some f) => !(f.ev fs ls m n == ls[j]?.getD false)
  | _ => true
theorem fitS_gen : ∀ (ss : List (Option Fm)) (r : List Bool) (pre : List (Option Fm)) (pl : List Bool), ss.length = r.length → pre.length = pl.length → ls = pl ++ r → fitS fs ls m n ss r = ((List.range' pre.length ss.length).all fun j => fitJ fs ls m n (pre ++ ss) j)
  | [], r, pre, pl, _, _, _ => by simp [fitS]
  | s :: ss, [], pre, pl, h, _, _ => by simp at h
  | s :: ss, b :: r, pre, pl, h, hp, e => by
    have ih := fitS_gen ss r (pre ++ [s]) (pl ++ [b]) (by simpa using h) (by simp [hp]) (by simp [e])
    have e2 : (pre ++ [s]) ++ ss = pre ++ (s :: ss) := by simp
    rw [e2] at ih
    have e3 : ls[pre.length]?.getD false = b := by rw [e, hp]; simp
    have e4 : (pre ++ s :: ss)[pre.length]? = some s := by simp
    rw [List.length_cons, List.range'_succ, List.all_cons]
    have e5 : (pre ++ [s]).length = pre.length + 1 := by simp
    rw [e5] at ih
    rw [← ih]
    cases s with
    | none => simp [fitS, fitJ, e4]
    | some f => simp [fitS, fitJ, e4, e3]
theorem fitS_range {ss : List (Option Fm)} (h : ss.length = ls.length) : fitS fs ls m n ss ls = (List.range ss.length).all fun j => fitJ fs ls m n ss j := by
  have q := fitS_gen (fs := fs) (ls := ls) (m := m) (n := n) ss ls [] [] h rfl rfl
  simpa [List.range_eq_range'] using q
theorem lcan_go (H : HasSeen P) {p : Par} (hm : Sm m) (hn : Sm n) (ok : p.ok) (hf : fs.length = p.facts) (hl : ls.length = p.singles.length) {k : Nat} (hk : 3 ≤ k) (e7 : Option Val) : ∀ (js : List Nat) (e5 e6 : Option Val), (∀ j ∈ js, j < p.singles.length) →
      ((js.all fun j => fitJ fs ls m n p.singles j) = true ∧ ∃ e5' e6', forGo (.nm 5) (evSs (call P k) [.asg (.nm 6) (.idx (.idx (.var 0) (.cst (.int 1))) (.var 5)),
    .iff (.and (.isc true (.var 6) .none) (.bin .eq (.call false "_law_seen" [(.var 6), (.var 2), (.var 3), (.tup [(.var 4), (.var 1)])]) (.idx (.var 3) (.var 5)))) [.ret (.cst (.bool false))] []]) (js.map fun j => PyData.int (j : Nat))
        [some (.d p.d), some (.d (.int n)), some (.d (bD fs)), some (.d (bD ls)), some (.d (.int m)), e5, e6, e7] st = .ok (.nx [some (.d p.d), some (.d (.int n)), some (.d (bD fs)), some (.d (bD ls)), some (.d (.int m)), e5', e6', e7]) st) ∨
      ((js.all fun j => fitJ fs ls m n p.singles j) = false ∧ forGo (.nm 5) (evSs (call P k) [.asg (.nm 6) (.idx (.idx (.var 0) (.cst (.int 1))) (.var 5)),
    .iff (.and (.isc true (.var 6) .none) (.bin .eq (.call false "_law_seen" [(.var 6), (.var 2), (.var 3), (.tup [(.var 4), (.var 1)])]) (.idx (.var 3) (.var 5)))) [.ret (.cst (.bool false))] []]) (js.map fun j => PyData.int (j : Nat))
        [some (.d p.d), some (.d (.int n)), some (.d (bD fs)), some (.d (bD ls)), some (.d (.int m)), e5, e6, e7] st = .ok (.rt (.d (.bool false))) st)
  | [], e5, e6, _ => .inl ⟨rfl, e5, e6, rfl⟩
  | j :: js, e5, e6, h => by
    have hj := h j List.mem_cons_self
    have hjl : j < ls.length := by rw [hl]; exact hj
    have e1 : L2.atI (p.singles.map sd) (j : Nat) = some (sd p.singles[j]) := by
      rw [at_nat (by simpa using hj)]
      simp
    have e2 : p.singles[j]? = some p.singles[j] := List.getElem?_eq_getElem hj
    cases hs : p.singles[j] with
    | none =>
      rw [hs] at e1 e2
      have ih := lcan_go H hm hn ok hf hl hk e7 js (some (.d (.int j))) (some (.d .none)) fun i hi => h i (List.mem_cons_of_mem _ hi)
      have e3 : fitJ fs ls m n p.singles j = true := by simp [fitJ, e2]
      simpa [forGo, tset, mVar, isD, idx, Par.d, e1, e3] using ih
    | some f =>
      rw [hs] at e1 e2
      obtain ⟨h1, h2⟩ := ok.each f (by rw [← hs]; exact List.getElem_mem hj)
      have q := seen_ok H (fs := fs) (ls := ls) (st := st) hm hn f k (by rw [hf, hl]; exact h1) (by omega)
      have ih := lcan_go H hm hn ok hf hl hk e7 js (some (.d (.int j))) (some (.d f.d)) fun i hi => h i (List.mem_cons_of_mem _ hi)
      cases hb : (f.ev fs ls m n == ls[j]?.getD false) with
      | true =>
        right
        have e3 : fitJ fs ls m n p.singles j = false := by simp only [fitJ, e2, hb]; rfl
        refine ⟨by simp [e3], ?_⟩
        simp only [bD] at q
        simp [forGo, tset, mVar, fmd_not_none, idx, Par.d, e1, mTup, allM, dOf, bD, q, at_bool hjl, b2, hb]
      | false =>
        have e3 : fitJ fs ls m n p.singles j = true := by simp only [fitJ, e2, hb]; rfl
        simp only [bD] at q ih
        simpa [forGo, tset, mVar, fmd_not_none, idx, Par.d, e1, mTup, allM, dOf, bD, q, at_bool hjl, b2, hb, e3] using ih
end
end Mi
end
section
set_option maxHeartbeats 4000000
namespace Mi
open PySem
section
variable {P : Prg} {fs ls : List Bool} {m n : Int} {st : Store}
theorem cnt_len (ls : List Bool) : (((((ls.map PyData.bool).filter fun x => match x with
    | .bool b => b
    | _ => false).map fun _ => PyData.int 1).length : Nat) : Int) = cntB ls := by
  rw [List.length_map]
  unfold cntB
  induction ls with
  | nil => rfl
  | cons b r ih =>
    cases b with
    | true =>
      simp only [List.map_cons, List.filter_cons, List.sum_cons, if_true]
      rw [← ih]
      simp
      omega
    | false =>
      simp only [List.map_cons, List.filter_cons, List.sum_cons]
      rw [← ih]
      simp
theorem lcan_ok (H : HasSeen P) {p : Par} (hm0 : 0 ≤ m) (hm : Sm m) (hm1 : Sm (m - 1)) (hn : Sm n) (hn1 : Sm (n - 1)) (ok : p.ok) (hf : fs.length = p.facts) (hl : ls.length = p.singles.length) {k : Nat} (hk : 4 ≤ k) :
    call P k "_law_can" [.d p.d, .d (.int n), .d (bD fs), .d (bD ls), .d (.int m)] st = .ok (.d (.bool (p.can fs ls m n))) st := by
  obtain ⟨k, rfl, hk'⟩ := fuel (c := 3) hk
  rw [call_eq H.lcan]
  have len : ls.length ≤ 3 := by rw [hl]; exact ok.len
  have e : ∀ (env : Env), env.length = 8 → lcGo (.nm 7) (some (evE (call P k) (.var 7))) (evE (call P k) (.cst (.int 1))) env (ls.map .bool) [] st = .ok ([] ++ ((ls.map PyData.bool).filter fun x => match x with
    | .bool b => b
    | _ => false).map fun _ => PyData.int 1) st := fun env he => by
    refine lc_filter _ _ _ _ (fun x hx => ?_) (fun x hx _ => rfl) (by simp; have := small_line (n := ls.length) (by omega); omega)
    obtain ⟨b, _, rfl⟩ := List.mem_map.mp hx
    simp [mVar, he]
  have hc := cnt_len ls
  generalize hL : ((ls.map PyData.bool).filter fun x => match x with
    | .bool b => b
    | _ => false).map (fun _ => PyData.int 1) = L at e hc
  have hcond : evS (call P k) (.iff (.and (.isc true (.idx (.var 0) (.cst (.int 3))) .none) (.bin .gt (.bin .add (.bi .len (.lcE [7] (.cst (.int 1)) (.nm 7) (.var 3) (some (.var 7)))) (.var 4)) (.idx (.var 0) (.cst (.int 3))))) [.ret (.cst (.bool false))] []) [some (.d p.d), some (.d (.int n)), some (.d (bD fs)), some (.d (bD ls)), some (.d (.int m)), none, none, none] st =
      if fitM ls m p.most then .ok (.nx [some (.d p.d), some (.d (.int n)), some (.d (bD fs)), some (.d (bD ls)), some (.d (.int m)), none, none, none]) st else .ok (.rt (.d (.bool false))) st := by
    cases hmo : p.most with
    | none => simp [mVar, idx, Par.d, hmo, isD, fitM]
    | some k0 =>
      have e3 := e (wipeE [some (.d p.d), some (.d (.int n)), some (.d (bD fs)), some (.d (bD ls)), some (.d (.int m)), none, none, none] [7]) rfl
      simp only [Par.d, hmo, md_some] at e3
      simp [mVar, idx, Par.d, hmo, isD, mLc, mItE, items, bD, b2, iop, wipeE] at e3 ⊢
      by_cases hcm : k0 < cntB ls + m
      · simp [e3, noExc, hc, hcm, b1, fitM, b2, iop]
      · simp [e3, noExc, hc, hcm, b1, fitM, b2, iop]
  have hcrowd : ∀ e5 e6 e7 : Option Val, evSs (call P k) [.iff (.isc true (.idx (.var 0) (.cst (.int 2))) .none) [.iff (.and (.bin .lt (.var 4) (.var 1)) (.not (.call false "_law_seen" [(.idx (.var 0) (.cst (.int 2))), (.var 2), (.var 3), (.tup [(.var 4), (.bin .sub (.var 1) (.cst (.int 1)))])]))) [.ret (.cst (.bool false))] [],
    .iff (.and (.bin .gt (.var 4) (.cst (.int 0))) (.call false "_law_seen" [(.idx (.var 0) (.cst (.int 2))), (.var 2), (.var 3), (.tup [(.bin .sub (.var 4) (.cst (.int 1))), (.bin .sub (.var 1) (.cst (.int 1)))])])) [.ret (.cst (.bool false))] []] [],
    .ret (.cst (.bool true))] [some (.d p.d), some (.d (.int n)), some (.d (bD fs)), some (.d (bD ls)), some (.d (.int m)), e5, e6, e7] st = .ok (.rt (.d (.bool (fitC fs ls m n p.crowd)))) st := fun e5 e6 e7 => by
    cases hcr : p.crowd with
    | none => simp [mVar, idx, Par.d, hcr, isD, fitC]
    | some f =>
      obtain ⟨o1, o2⟩ := ok.crowd f hcr
      have q1 := seen_ok H (fs := fs) (ls := ls) (st := st) hm hn1 f k (by rw [hf, hl]; exact o1) (by omega)
      have q2 := seen_ok H (fs := fs) (ls := ls) (st := st) hm1 hn1 f k (by rw [hf, hl]; exact o1) (by omega)
      simp only [fitC]
      generalize f.ev fs ls m (n - 1) = u at q1 ⊢
      generalize f.ev fs ls (m - 1) (n - 1) = v at q2 ⊢
      by_cases c2 : m = 0
      · subst c2
        by_cases c1 : 0 < n <;> cases u <;> simp [c1, mVar, idx, b2, iop, q1, mTup, allM, dOf, Par.d, hcr, fmd_not_none]
      · have c3 : 0 < m := by omega
        by_cases c1 : m < n <;> cases u <;> cases v <;> simp [c1, c2, c3, mVar, idx, b2, iop, q1, q2, mTup, allM, dOf, Par.d, hcr, fmd_not_none]
  have hloop : ∀ e5 e6 e7 : Option Val, evS (call P k) (.for (.nm 5) (.rng [(.bi .len (.idx (.var 0) (.cst (.int 1))))]) [.asg (.nm 6) (.idx (.idx (.var 0) (.cst (.int 1))) (.var 5)),
    .iff (.and (.isc true (.var 6) .none) (.bin .eq (.call false "_law_seen" [(.var 6), (.var 2), (.var 3), (.tup [(.var 4), (.var 1)])]) (.idx (.var 3) (.var 5)))) [.ret (.cst (.bool false))] []]) [some (.d p.d), some (.d (.int n)), some (.d (bD fs)), some (.d (bD ls)), some (.d (.int m)), e5, e6, e7] st =
      forGo (.nm 5) (evSs (call P k) [.asg (.nm 6) (.idx (.idx (.var 0) (.cst (.int 1))) (.var 5)),
    .iff (.and (.isc true (.var 6) .none) (.bin .eq (.call false "_law_seen" [(.var 6), (.var 2), (.var 3), (.tup [(.var 4), (.var 1)])]) (.idx (.var 3) (.var 5)))) [.ret (.cst (.bool false))] []]) ((List.range p.singles.length).map fun j => PyData.int (j : Nat)) [some (.d p.d), some (.d (.int n)), some (.d (bD fs)), some (.d (bD ls)), some (.d (.int m)), e5, e6, e7] st := fun e5 e6 e7 => by
    simp [mVar, idx, Par.d, b1, mItR, rng_nat]
  rw [run_of rfl]
  have hst : start f_law_can [.d p.d, .d (.int n), .d (bD fs), .d (bD ls), .d (.int m)] = [some (.d p.d), some (.d (.int n)), some (.d (bD fs)), some (.d (bD ls)), some (.d (.int m)), none, none, none] := rfl
  rw [hst]
  unfold f_law_can
  dsimp only
  rw [es_cons, bx_seq, hcond]
  unfold Par.can
  cases hM : fitM ls m p.most with
  | false => simp
  | true =>
    rw [if_pos rfl, R.bind_ok]
    dsimp only
    rw [es_cons, bx_seq, hloop, fitS_range (by rw [hl])]
    rcases lcan_go H (st := st) hm hn ok hf hl hk' none (List.range p.singles.length) none none (fun j hj => List.mem_range.mp hj) with ⟨h1, e5', e6', h2⟩ | ⟨h1, h2⟩
    · rw [h2, h1, R.bind_ok]
      dsimp only
      rw [hcrowd]
      simp
    · rw [h2, h1]
      simp
end
end Mi
end
section
set_option maxHeartbeats 4000000
namespace Mi
open PySem
def rowsB : Nat → List (List Bool)
  | 0 => [[]]
  | k + 1 => (rowsB k).flatMap fun r => [r ++ [false], r ++ [true]]
theorem rowsB_len : ∀ (k : Nat) (r : List Bool), r ∈ rowsB k → r.length = k
  | 0, r, h => by simp [rowsB] at h; simp [h]
  | k + 1, r, h => by
    obtain ⟨q, hq, hr⟩ := List.mem_flatMap.mp h
    have := rowsB_len k q hq
    have hr : r = q ++ [false] ∨ r = q ++ [true] := by simpa using hr
    rcases hr with e | e <;> rw [e] <;> simp [this]
theorem rowsB_all : ∀ (k : Nat) (r : List Bool), r.length = k → r ∈ rowsB k
  | 0, r, h => by simp [List.length_eq_zero_iff.mp h, rowsB]
  | k + 1, r, h => by
    have hne : r ≠ [] := fun z => by rw [z] at h; cases h
    have e := List.dropLast_concat_getLast hne
    refine List.mem_flatMap.mpr ⟨r.dropLast, rowsB_all k _ (by rw [List.length_dropLast, h]; rfl), ?_⟩
    cases hb : r.getLast hne <;> rw [hb] at e <;> simp [e]
def rowsD (k : Nat) : D := .list ((rowsB k).map bD)
structure HasRows (P : Prg) : Prop where
  rows_of : P.find "rows_of" = some f_rows_of
structure HasLRows (P : Prg) : Prop where
  rows : P.find "_law_rows" = some f_law_rows
theorem rows_body (F : Calls) (st : Store) : ∀ k : Nat, k ≤ 3 → evSs F f_rows_of.body (start f_rows_of [.d (.int k)]) st = .ok (.rt (.d (rowsD k))) st
  | 0, _ => by kernel_rfl
  | 1, _ => by kernel_rfl
  | 2, _ => by kernel_rfl
  | 3, _ => by kernel_rfl
theorem lrows_body (F : Calls) (st : Store) : ∀ k : Nat, k ≤ 3 → evSs F f_law_rows.body (start f_law_rows [.d (.int k)]) st = .ok (.rt (.d (rowsD k))) st
  | 0, _ => by kernel_rfl
  | 1, _ => by kernel_rfl
  | 2, _ => by kernel_rfl
  | 3, _ => by kernel_rfl
section
variable {P : Prg} {st : Store}
theorem rows_of_ok (H : HasRows P) {k n : Nat} (hk : k ≤ 3) (hn : 1 ≤ n) : call P n "rows_of" [.d (.int k)] st = .ok (.d (rowsD k)) st := by
  obtain ⟨n, rfl, _⟩ := fuel (c := 0) hn
  rw [call_eq H.rows_of, run_of rfl, rows_body _ _ k hk]
  simp
theorem lrows_ok (H : HasLRows P) {k n : Nat} (hk : k ≤ 3) (hn : 1 ≤ n) : call P n "_law_rows" [.d (.int k)] st = .ok (.d (rowsD k)) st := by
  obtain ⟨n, rfl, _⟩ := fuel (c := 0) hn
  rw [call_eq H.rows, run_of rfl, lrows_body _ _ k hk]
  simp
def Fm.atoms : Fm → List Fm
  | .not f => f.atoms
  | .and f g => f.atoms ++ g.atoms
  | .or f g => f.atoms ++ g.atoms
  | f => [f]
def Fm.turns (z : Int) : Fm → List Int
  | .liars k => [k]
  | .honest k => [z - k + 1]
  | .share a b => [-(-a * z / b)]
  | _ => []
theorem atoms_len : ∀ (f : Fm), f.atoms.length ≤ 2 ^ (f.dep - 1) ∧ 1 ≤ f.dep
  | .not f => by
    obtain ⟨h1, h2⟩ := atoms_len f
    refine ⟨Nat.le_trans h1 (Nat.pow_le_pow_right (by decide) ?_), by simp [Fm.dep]⟩
    simp [Fm.dep]
  | .and f g | .or f g => by
    obtain ⟨h1, h2⟩ := atoms_len f
    obtain ⟨h3, h4⟩ := atoms_len g
    refine ⟨?_, by simp [Fm.dep]⟩
    simp only [Fm.atoms, Fm.dep, List.length_append, Nat.add_sub_cancel]
    obtain ⟨k, hk⟩ : ∃ k, max f.dep g.dep = k + 1 := ⟨max f.dep g.dep - 1, by omega⟩
    have e1 : 2 ^ (f.dep - 1) ≤ 2 ^ k := Nat.pow_le_pow_right (by decide) (by omega)
    have e2 : 2 ^ (g.dep - 1) ≤ 2 ^ k := Nat.pow_le_pow_right (by decide) (by omega)
    rw [hk, Nat.pow_succ]
    omega
  | .fact _ | .lies _ | .liars _ | .honest _ | .odd | .share _ _ => by simp [Fm.atoms, Fm.dep]
theorem atoms_few {f : Fm} (h : f.dep ≤ 3) : f.atoms.length ≤ 4 := by
  obtain ⟨h1, h2⟩ := atoms_len f
  exact Nat.le_trans h1 (Nat.le_trans (Nat.pow_le_pow_right (by decide) (show f.dep - 1 ≤ 2 by omega)) (by decide))
/-- an atom, not made of others -/
def Fm.deep : Fm → Bool
  | .not _ => true
  | .and _ _ => true
  | .or _ _ => true
  | _ => false
theorem atoms_flat : ∀ (f a : Fm), a ∈ f.atoms → a.deep = true → False
  | .not f, a, h, e => atoms_flat f a h e
  | .and f g, a, h, e => (List.mem_append.mp h).elim (fun z => atoms_flat f a z e) fun z => atoms_flat g a z e
  | .or f g, a, h, e => (List.mem_append.mp h).elim (fun z => atoms_flat f a z e) fun z => atoms_flat g a z e
  | .fact i, a, h, e | .lies i, a, h, e | .liars i, a, h, e | .honest i, a, h, e | .odd, a, h, e | .share i j, a, h, e => by
    simp [Fm.atoms] at h
    subst h
    cases e
theorem atoms_self : ∀ (f a : Fm), a ∈ f.atoms → a.atoms = [a]
  | .not f, a, h => atoms_self f a h
  | .and f g, a, h => (List.mem_append.mp h).elim (atoms_self f a) (atoms_self g a)
  | .or f g, a, h => (List.mem_append.mp h).elim (atoms_self f a) (atoms_self g a)
  | .fact i, a, h | .lies i, a, h | .liars i, a, h | .honest i, a, h | .odd, a, h | .share i j, a, h => by
    simp [Fm.atoms] at h
    subst h
    rfl
theorem atoms_ok {p q : Nat} : ∀ (f a : Fm), f.ok p q → a ∈ f.atoms → a.ok p q
  | .not f, a, o, h => atoms_ok f a o h
  | .and f g, a, o, h => (List.mem_append.mp h).elim (atoms_ok f a o.1) (atoms_ok g a o.2)
  | .or f g, a, o, h => (List.mem_append.mp h).elim (atoms_ok f a o.1) (atoms_ok g a o.2)
  | .fact i, a, o, h | .lies i, a, o, h | .liars i, a, o, h | .honest i, a, o, h | .odd, a, o, h | .share i j, a, o, h => by
    simp [Fm.atoms] at h
    subst h
    exact o
theorem turns_len (z : Int) (f : Fm) : (f.turns z).length ≤ 1 := by cases f <;> simp [Fm.turns]
structure HasAtoms (P : Prg) : Prop where
  atoms_of : P.find "atoms_of" = some f_atoms_of
  turns_of : P.find "turns_of" = some f_turns_of
@[simp] theorem shpL_ss3 (a b c : Str) : shpL [.str a, .str b, .str c] = true := rfl
@[simp] theorem shpL_ss2 (a b : Str) : shpL [.str a, .str b] = true := rfl
theorem lc_id {j : Nat} {F : Calls} {env : Env} {st : Store} (xs acc : List D) (hj : j < env.length) (hl : acc.length + xs.length ≤ sizeLine) : lcGo (.nm j) none (evE F (.var j)) env xs acc st = .ok (acc ++ xs) st := by
  have h := lc_map (i := j) (me := evE F (.var j)) (env := env) (st := st) (fun x => x) xs acc (fun x _ => by simp [mVar, hj]) hl
  simpa using h
theorem atoms_of_ok (H : HasAtoms P) : ∀ (f : Fm) (n : Nat), f.dep ≤ 3 → f.dep ≤ n → call P n "atoms_of" [.d f.d] st = .ok (.d (.list (f.atoms.map Fm.d))) st
  | .fact i, n, _, hn | .lies i, n, _, hn | .liars i, n, _, hn | .honest i, n, _, hn | .odd, n, _, hn | .share a b, n, _, hn => by
    obtain ⟨n, rfl, _⟩ := fuel (c := 0) hn
    rw [call_eq H.atoms_of]
    simp [run_of, f_atoms_of, start, mVar, Fm.d, idx, b2, mTup, allM, dOf, items, mLst, Fm.atoms]
  | .not f, n, h3, hn => by
    obtain ⟨n, rfl, hk⟩ := fuel (c := f.dep) hn
    have h3' : f.dep ≤ 3 := by simp only [Fm.dep] at h3; omega
    rw [call_eq H.atoms_of]
    have q := atoms_of_ok H f n h3' hk
    have l := atoms_few h3'
    simp [run_of, f_atoms_of, start, mVar, Fm.d, idx, b2, mTup, allM, dOf, items, Fm.atoms, mLc2, mItE, mSlc, mOptI, slc, cut_tail, lc2Go, tset, wipeE, q, noExc]
    rw [lc_id (j := 2) (F := call P n) (f.atoms.map Fm.d) [] (by simp) (by simp [sizeLine_eq]; omega)]
    simp
  | .and f g, n, h3, hn => by
    obtain ⟨n, rfl, hk⟩ := fuel (c := max f.dep g.dep) hn
    have h3' : f.dep ≤ 3 ∧ g.dep ≤ 3 := by simp only [Fm.dep] at h3; omega
    rw [call_eq H.atoms_of]
    have q1 := atoms_of_ok H f n h3'.1 (by omega)
    have q2 := atoms_of_ok H g n h3'.2 (by omega)
    have l1 := atoms_few h3'.1
    have l2 := atoms_few h3'.2
    simp [run_of, f_atoms_of, start, mVar, Fm.d, idx, b2, mTup, allM, dOf, items, Fm.atoms, mLc2, mItE, mSlc, mOptI, slc, cut_tail, lc2Go, tset, wipeE, q1, q2, noExc]
    rw [lc_id (j := 2) (F := call P n) (f.atoms.map Fm.d) [] (by simp) (by simp [sizeLine_eq]; omega)]
    simp [q2, items]
    rw [lc_id (j := 2) (F := call P n) (g.atoms.map Fm.d) (f.atoms.map Fm.d) (by simp) (by simp [sizeLine_eq]; omega)]
    simp
  | .or f g, n, h3, hn => by
    obtain ⟨n, rfl, hk⟩ := fuel (c := max f.dep g.dep) hn
    have h3' : f.dep ≤ 3 ∧ g.dep ≤ 3 := by simp only [Fm.dep] at h3; omega
    rw [call_eq H.atoms_of]
    have q1 := atoms_of_ok H f n h3'.1 (by omega)
    have q2 := atoms_of_ok H g n h3'.2 (by omega)
    have l1 := atoms_few h3'.1
    have l2 := atoms_few h3'.2
    simp [run_of, f_atoms_of, start, mVar, Fm.d, idx, b2, mTup, allM, dOf, items, Fm.atoms, mLc2, mItE, mSlc, mOptI, slc, cut_tail, lc2Go, tset, wipeE, q1, q2, noExc]
    rw [lc_id (j := 2) (F := call P n) (f.atoms.map Fm.d) [] (by simp) (by simp [sizeLine_eq]; omega)]
    simp [q2, items]
    rw [lc_id (j := 2) (F := call P n) (g.atoms.map Fm.d) (f.atoms.map Fm.d) (by simp) (by simp [sizeLine_eq]; omega)]
    simp
theorem turns_of_ok (H : HasAtoms P) {z : Int} (hz : Sm z) {p q : Nat} : ∀ (f : Fm) (n : Nat), f.ok p q → f.atoms = [f] → 1 ≤ n → call P n "turns_of" [.d f.d, .d (.int z)] st = .ok (.d (.list ((f.turns z).map .int))) st
  | .share a b, n, h, _, hn => by
    obtain ⟨n, rfl, _⟩ := fuel (c := 0) hn
    rw [call_eq H.turns_of]
    have ha : Sm (-a) := by rcases h with ⟨rfl, rfl⟩ | ⟨rfl, rfl⟩ | ⟨rfl, rfl⟩ <;> decide
    have hb : 0 < b ∧ b.natAbs.log2 < 9000 := by rcases h with ⟨rfl, rfl⟩ | ⟨rfl, rfl⟩ | ⟨rfl, rfl⟩ <;> decide
    have e := sm_mul ha hz
    simp [run_of, f_turns_of, start, mVar, Fm.d, idx, b2, mLst, allM, dOf, Fm.turns, negD, e]
    simp [iop, hb, allM, dOf]
  | .fact i, n, h, _, hn | .lies i, n, h, _, hn | .odd, n, h, _, hn => by
    obtain ⟨n, rfl, _⟩ := fuel (c := 0) hn
    rw [call_eq H.turns_of]
    simp [run_of, f_turns_of, start, mVar, Fm.d, idx, b2, mLst, allM, dOf, Fm.turns, iop]
  | .liars i, n, h, _, hn | .honest i, n, h, _, hn => by
    obtain ⟨n, rfl, _⟩ := fuel (c := 0) hn
    rw [call_eq H.turns_of]
    simp [run_of, f_turns_of, start, mVar, Fm.d, idx, b2, mLst, allM, dOf, Fm.turns, iop]
  | .not f, n, h, e, hn => by
    exfalso
    exact atoms_flat f (.not f) (by rw [show f.atoms = [Fm.not f] from e]; simp) rfl
  | .and f g, n, h, e, hn => by
    exfalso
    exact atoms_flat (.and f g) (.and f g) (by rw [e]; simp) rfl
  | .or f g, n, h, e, hn => by
    exfalso
    exact atoms_flat (.or f g) (.or f g) (by rw [e]; simp) rfl
end
end Mi
end
section
set_option maxHeartbeats 4000000
namespace Mi
open PySem
def iD (ns : List Int) : D := .list (ns.map .int)
theorem iD_add {ns ms : List Int} (h : ns.length + ms.length ≤ sizeLine) : b2 .add (iD ns) (iD ms) = some (iD (ns ++ ms)) := by
  show (if (ns.map PyData.int).length + (ms.map PyData.int).length ≤ sizeLine then some (PyData.list (ns.map PyData.int ++ ms.map PyData.int)) else none) = _
  rw [List.length_map, List.length_map, if_pos h, ← List.map_append]
  rfl
structure HasMarks (P : Prg) : Prop extends HasAtoms P where
  marks_of : P.find "marks_of" = some f_marks_of
def turnsS (z : Int) : Option Fm → List Int
  | none => []
  | some f => f.atoms.flatMap (Fm.turns z)
def turnsC (z : Int) : Option Fm → List Int
  | none => []
  | some f => f.atoms.flatMap fun a => (a.turns z).flatMap fun t => [t, t + 1]
def marksM (k : Nat) : Option Int → List Int
  | none => []
  | some m => (List.range (k + 1)).map fun j => m + 1 - (j : Nat)
/-- the marks before they are sorted -/
def Par.raw (p : Par) (claims : List (Option Fm)) (n : Int) : List Int := [0, 1, n] ++ (p.singles ++ claims).flatMap (turnsS n) ++ turnsC (n - 1) p.crowd ++ marksM p.singles.length p.most
def Par.marks (p : Par) (claims : List (Option Fm)) (n : Int) : List Int := sortU ((p.raw claims n).filter fun x => decide (0 ≤ x) && decide (x ≤ n))
section
variable {P : Prg} {st : Store}
theorem marks_in (H : HasAtoms P) {z : Int} (hz : Sm z) {pf qs k : Nat} (hk : 1 ≤ k) (e0 e1 e4 e6 e7 e8 e9 : Option Val) : ∀ (As : List Fm) (ns : List Int) (e5 : Option Val), (∀ a ∈ As, a.ok pf qs ∧ a.atoms = [a]) → ns.length + As.length ≤ sizeLine → ∃ e5',
    forGo (.nm 5) (evSs (call P k) [.asg (.nm 3) (.bin .add (.var 3) (.call true "turns_of" [(.var 5), (.var 2)]))]) (As.map Fm.d) [e0, e1, some (.d (.int z)), some (.d (iD ns)), e4, e5, e6, e7, e8, e9] st =
      .ok (.nx [e0, e1, some (.d (.int z)), some (.d (iD (ns ++ As.flatMap (Fm.turns z)))), e4, e5', e6, e7, e8, e9]) st
  | [], ns, e5, _, _ => ⟨e5, by simp [forGo]⟩
  | a :: As, ns, e5, h, hl => by
    obtain ⟨h1, h2⟩ := h a List.mem_cons_self
    have l1 := turns_len z a
    simp only [List.length_cons] at hl
    have ih := marks_in H hz hk e0 e1 e4 e6 e7 e8 e9 As (ns ++ a.turns z) (some (.d a.d)) (fun b hb => h b (List.mem_cons_of_mem _ hb)) (by rw [List.length_append]; omega)
    obtain ⟨e5', ih⟩ := ih
    refine ⟨e5', ?_⟩
    have q := turns_of_ok H hz (st := st) a k h1 h2 hk
    have e := iD_add (ns := ns) (ms := a.turns z) (by omega)
    have q' : call P k "turns_of" [.d a.d, .d (.int z)] st = .ok (.d (iD (a.turns z))) st := q
    simp [forGo, tset, mVar, q', e, ih]
theorem marks_out (H : HasAtoms P) {z : Int} (hz : Sm z) {pf qs k : Nat} (hk : 3 ≤ k) (e0 e1 e6 e7 e8 e9 : Option Val) : ∀ (L : List (Option Fm)) (ns : List Int) (e4 e5 : Option Val), (∀ f, some f ∈ L → f.ok pf qs ∧ f.dep ≤ 3) → ns.length + 4 * L.length ≤ 1000000 → ∃ e4' e5',
    forGo (.nm 4) (evSs (call P k) [.iff (.isc true (.var 4) .none) [.for (.nm 5) (.ex (.call false "atoms_of" [(.var 4)])) [.asg (.nm 3) (.bin .add (.var 3) (.call true "turns_of" [(.var 5), (.var 2)]))]] []]) (L.map sd) [e0, e1, some (.d (.int z)), some (.d (iD ns)), e4, e5, e6, e7, e8, e9] st =
      .ok (.nx [e0, e1, some (.d (.int z)), some (.d (iD (ns ++ L.flatMap (turnsS z)))), e4', e5', e6, e7, e8, e9]) st
  | [], ns, e4, e5, _, _ => ⟨e4, e5, by simp [forGo]⟩
  | none :: L, ns, e4, e5, h, hl => by
    simp only [List.length_cons] at hl
    obtain ⟨e4', e5', ih⟩ := marks_out H hz hk e0 e1 e6 e7 e8 e9 L ns (some (.d .none)) e5 (fun b hb => h b (List.mem_cons_of_mem _ hb)) (by omega)
    refine ⟨e4', e5', ?_⟩
    simp [forGo, tset, mVar, isD, ih, turnsS]
  | some f :: L, ns, e4, e5, h, hl => by
    simp only [List.length_cons] at hl
    obtain ⟨h1, h2⟩ := h f List.mem_cons_self
    have l1 := atoms_few h2
    have lt : ∀ As : List Fm, (As.flatMap (Fm.turns z)).length ≤ As.length := fun As => by
      induction As with
      | nil => simp
      | cons a As ih =>
        have := turns_len z a
        simp only [List.flatMap_cons, List.length_append, List.length_cons]
        omega
    have l2 := lt f.atoms
    have q := atoms_of_ok H (st := st) f k h2 (by omega)
    obtain ⟨e5', i1⟩ := marks_in H hz (pf := pf) (qs := qs) (k := k) (st := st) (by omega) e0 e1 (some (.d f.d)) e6 e7 e8 e9 f.atoms ns e5 (fun a ha => ⟨atoms_ok f a h1 ha, atoms_self f a ha⟩) (by rw [sizeLine_eq]; omega)
    obtain ⟨e4', e5'', ih⟩ := marks_out H hz hk e0 e1 e6 e7 e8 e9 L (ns ++ f.atoms.flatMap (Fm.turns z)) (some (.d f.d)) e5' (fun b hb => h b (List.mem_cons_of_mem _ hb)) (by rw [List.length_append]; omega)
    refine ⟨e4', e5'', ?_⟩
    simp [forGo, tset, mVar, fmd_not_none, q, mItE, items, i1, ih, turnsS]
theorem marks_crowd (H : HasAtoms P) {z : Int} (hz : Sm (z - 1)) {pf qs k : Nat} (hk : 1 ≤ k) (e0 e1 e4 e6 e7 e8 e9 : Option Val) : ∀ (As : List Fm) (ns : List Int) (e5 : Option Val), (∀ a ∈ As, a.ok pf qs ∧ a.atoms = [a]) → ns.length + 2 * As.length ≤ sizeLine → ∃ e5',
    forGo (.nm 5) (evSs (call P k) [.asg (.nm 3) (.bin .add (.var 3) (.lc2 [8, 9] [9] (.bin .add (.var 8) (.var 9)) (.nm 8) (.call true "turns_of" [(.var 5), (.bin .sub (.var 2) (.cst (.int 1)))]) (.nm 9) (.tup [(.cst (.int 0)), (.cst (.int 1))])))]) (As.map Fm.d) [e0, e1, some (.d (.int z)), some (.d (iD ns)), e4, e5, e6, e7, e8, e9] st =
      .ok (.nx [e0, e1, some (.d (.int z)), some (.d (iD (ns ++ As.flatMap fun a => (a.turns (z - 1)).flatMap fun t => [t, t + 1]))), e4, e5', e6, e7, e8, e9]) st
  | [], ns, e5, _, _ => ⟨e5, by simp [forGo]⟩
  | a :: As, ns, e5, h, hl => by
    obtain ⟨h1, h2⟩ := h a List.mem_cons_self
    simp only [List.length_cons] at hl
    have q := turns_of_ok H hz (st := st) a k h1 h2 hk
    have l1 := turns_len (z - 1) a
    have hs : sizeLine = 16777216 := sizeLine_eq
    cases ht : a.turns (z - 1) with
    | nil =>
      rw [ht] at q
      obtain ⟨e5', ih⟩ := marks_crowd H hz hk e0 e1 e4 e6 e7 e8 e9 As ns (some (.d a.d)) (fun b hb => h b (List.mem_cons_of_mem _ hb)) (by omega)
      refine ⟨e5', ?_⟩
      have e := iD_add (ns := ns) (ms := []) (by simp; omega)
      rw [show iD [] = PyData.list [] from rfl, List.append_nil] at e
      simp [forGo, tset, mVar, b2_sub, q, mLc2, mItE, items, lc2Go, noExc, ih, ht, e]
    | cons t ts =>
      rw [ht] at l1 q
      have hts : ts = [] := by cases ts with | nil => rfl | cons _ _ => simp at l1
      subst hts
      obtain ⟨e5', ih⟩ := marks_crowd H hz hk e0 e1 e4 e6 e7 e8 e9 As (ns ++ [t, t + 1]) (some (.d a.d)) (fun b hb => h b (List.mem_cons_of_mem _ hb)) (by simp; omega)
      refine ⟨e5', ?_⟩
      have e := iD_add (ns := ns) (ms := [t, t + 1]) (by simp; omega)
      have e' : b2 .add (iD ns) (.list [.int t, .int (t + 1)]) = some (iD (ns ++ [t, t + 1])) := e
      simp [forGo, tset, mVar, b2_sub, b2_add, q, mLc2, mItE, items, lc2Go, lcGo, mTup, allM, dOf, wipeE, noExc, ih, ht, e', hs]
theorem flat_turns (z : Int) : ∀ As : List Fm, (As.flatMap (Fm.turns z)).length ≤ As.length
  | [] => by simp
  | a :: As => by
    have := turns_len z a
    have := flat_turns z As
    simp only [List.flatMap_cons, List.length_append, List.length_cons]
    omega
theorem flat_turnsC (z : Int) : ∀ As : List Fm, (As.flatMap fun a => (a.turns z).flatMap fun t => [t, t + 1]).length ≤ 2 * As.length
  | [] => by simp
  | a :: As => by
    have h1 := turns_len z a
    have h2 := flat_turnsC z As
    have h3 : ((a.turns z).flatMap fun t => [t, t + 1]).length ≤ 2 := by
      cases ht : a.turns z with
      | nil => simp
      | cons t ts =>
        rw [ht] at h1
        have : ts = [] := by cases ts with | nil => rfl | cons _ _ => simp at h1
        subst this
        simp
    simp only [List.flatMap_cons, List.length_append, List.length_cons]
    omega
theorem flat_singles (z : Int) : ∀ L : List (Option Fm), (∀ f, some f ∈ L → f.dep ≤ 3) → (L.flatMap (turnsS z)).length ≤ 4 * L.length
  | [], _ => by simp
  | none :: L, h => by
    have := flat_singles z L fun f hf => h f (List.mem_cons_of_mem _ hf)
    simp only [List.flatMap_cons, List.length_append, List.length_cons, turnsS, List.length_nil]
    omega
  | some f :: L, h => by
    have h1 := flat_singles z L fun f hf => h f (List.mem_cons_of_mem _ hf)
    have h2 := flat_turns z f.atoms
    have h3 := atoms_few (h f List.mem_cons_self)
    simp only [List.flatMap_cons, List.length_append, List.length_cons, turnsS]
    omega
theorem raw_len {p : Par} (ok : p.ok) {claims : List (Option Fm)} {n : Int} (hc : ∀ f, some f ∈ claims → f.dep ≤ 3) : (p.raw claims n).length ≤ 40 + 4 * claims.length := by
  have h1 := flat_singles n (p.singles ++ claims) fun f hf => (List.mem_append.mp hf).elim (fun z => (ok.each f z).2) (hc f)
  have h2 : (turnsC (n - 1) p.crowd).length ≤ 8 := by
    cases hcr : p.crowd with
    | none => simp [turnsC]
    | some f =>
      have := flat_turnsC (n - 1) f.atoms
      have := atoms_few (ok.crowd f hcr).2
      simp only [turnsC]
      omega
  have h3 : (marksM p.singles.length p.most).length ≤ 4 := by
    have := ok.len
    cases p.most <;> simp [marksM]
    omega
  have h4 := ok.len
  unfold Par.raw
  simp only [List.length_append, List.length_cons, List.length_nil] at h1 ⊢
  omega
theorem sortset_ok {ns : List Int} (h : ns.length ≤ 4000) : b1 .sortset (iD ns) = some (iD (sortU ns)) := by
  show (if (ns.map PyData.int).length ≤ 4000 then (allM bInt (ns.map .int)).map fun ns => PyData.list ((sortU ns).map .int) else none) = _
  rw [List.length_map, if_pos h, allM_int]
  rfl
theorem range_one (k : Nat) : rngL 0 ((k : Int) + 1) 1 = (List.range (k + 1)).map fun j => PyData.int (j : Nat) := rng_nat (k + 1)
def subB (m : Int) : D → D
  | .int j => .int (m + 1 - j)
  | x => x
def inB (n : Int) : D → Bool
  | .int j => decide (0 ≤ j) && decide (j ≤ n)
  | _ => false
theorem filt_int (n : Int) (ns : List Int) : ((ns.map PyData.int).filter (inB n)).map (fun x => x) = (ns.filter fun x => decide (0 ≤ x) && decide (x ≤ n)).map .int := by
  rw [List.map_id', List.filter_map]
  rfl
theorem marks_of_ok (H : HasMarks P) {p : Par} (ok : p.ok) {claims : List (Option Fm)} {n : Int} (hn : Sm n) (hn1 : Sm (n - 1)) (hc : ∀ f, some f ∈ claims → f.ok p.facts p.singles.length ∧ f.dep ≤ 3) (hcl : claims.length ≤ 100) {k : Nat} (hk : 4 ≤ k) :
    call P k "marks_of" [.d p.d, .d (.tuple (claims.map sd)), .d (.int n)] st = .ok (.d (iD (p.marks claims n))) st := by
  obtain ⟨k, rfl, hk'⟩ := fuel (c := 3) hk
  rw [call_eq H.marks_of, run_of rfl]
  have hst : start f_marks_of [.d p.d, .d (.tuple (claims.map sd)), .d (.int n)] = [some (.d p.d), some (.d (.tuple (claims.map sd))), some (.d (.int n)), none, none, none, none, none, none, none] := rfl
  rw [hst]
  unfold f_marks_of
  dsimp only
  have hs : sizeLine = 16777216 := sizeLine_eq
  have l0 := ok.len
  have fl := flat_singles n (p.singles ++ claims) fun f hf => (List.mem_append.mp hf).elim (fun z => (ok.each f z).2) fun z => (hc f z).2
  have fl2 : (p.singles ++ claims).length ≤ 103 := by rw [List.length_append]; omega
  obtain ⟨e4, e5, h1⟩ := marks_out H.toHasAtoms hn (pf := p.facts) (qs := p.singles.length) (st := st) hk' (some (.d p.d)) (some (.d (.tuple (claims.map sd)))) none none none none (p.singles ++ claims) [0, 1, n] none none (fun f hf => (List.mem_append.mp hf).elim (ok.each f) (hc f)) (by simp only [List.length_cons, List.length_nil]; omega)
  have eadd : b2 .add (.list (p.singles.map sd)) (.list (claims.map sd)) = some (.list ((p.singles ++ claims).map sd)) := by
    show (if (p.singles.map sd).length + (claims.map sd).length ≤ sizeLine then some (PyData.list (p.singles.map sd ++ claims.map sd)) else none) = _
    rw [List.length_map, List.length_map, if_pos (by omega), List.map_append]
  have s1 : evS (call P k) (.asg (.nm 3) (.lst [(.cst (.int 0)), (.cst (.int 1)), (.var 2)])) [some (.d p.d), some (.d (.tuple (claims.map sd))), some (.d (.int n)), none, none, none, none, none, none, none] st = .ok (.nx [some (.d p.d), some (.d (.tuple (claims.map sd))), some (.d (.int n)), some (.d (iD [0, 1, n])), none, none, none, none, none, none]) st := by
    simp [mVar, mLst, allM, dOf, iD]
  rw [es_cons, bx_seq, s1, R.bind_ok]
  dsimp only
  rw [es_cons, bx_seq]
  have s2 : evS (call P k) (.for (.nm 4) (.ex (.bin .add (.bi .list (.idx (.var 0) (.cst (.int 1)))) (.bi .list (.var 1)))) [.iff (.isc true (.var 4) .none) [.for (.nm 5) (.ex (.call false "atoms_of" [(.var 4)])) [.asg (.nm 3) (.bin .add (.var 3) (.call true "turns_of" [(.var 5), (.var 2)]))]] []]) [some (.d p.d), some (.d (.tuple (claims.map sd))), some (.d (.int n)), some (.d (iD [0, 1, n])), none, none, none, none, none, none] st =
      .ok (.nx [some (.d p.d), some (.d (.tuple (claims.map sd))), some (.d (.int n)), some (.d (iD ([0, 1, n] ++ (p.singles ++ claims).flatMap (turnsS n)))), e4, e5, none, none, none, none]) st := by
    rw [← h1]
    simp [mVar, idx, Par.d, b1, mItE, items, eadd]
  rw [s2, R.bind_ok]
  dsimp only
  rw [es_cons, bx_seq]
  generalize hA : [0, 1, n] ++ (p.singles ++ claims).flatMap (turnsS n) = A
  have lA : A.length ≤ 3 + 412 := by rw [← hA, List.length_append]; simp only [List.length_cons, List.length_nil]; omega
  have s3 : ∃ e5', evS (call P k) (.iff (.isc true (.idx (.var 0) (.cst (.int 2))) .none) [.for (.nm 5) (.ex (.call false "atoms_of" [(.idx (.var 0) (.cst (.int 2)))])) [.asg (.nm 3) (.bin .add (.var 3) (.lc2 [8, 9] [9] (.bin .add (.var 8) (.var 9)) (.nm 8) (.call true "turns_of" [(.var 5), (.bin .sub (.var 2) (.cst (.int 1)))]) (.nm 9) (.tup [(.cst (.int 0)), (.cst (.int 1))])))]] []) [some (.d p.d), some (.d (.tuple (claims.map sd))), some (.d (.int n)), some (.d (iD A)), e4, e5, none, none, none, none] st =
      .ok (.nx [some (.d p.d), some (.d (.tuple (claims.map sd))), some (.d (.int n)), some (.d (iD (A ++ turnsC (n - 1) p.crowd))), e4, e5', none, none, none, none]) st := by
    cases hcr : p.crowd with
    | none => exact ⟨e5, by simp [mVar, idx, Par.d, hcr, isD, turnsC]⟩
    | some f =>
      obtain ⟨o1, o2⟩ := ok.crowd f hcr
      have q := atoms_of_ok H.toHasAtoms (st := st) f k o2 (by omega)
      have l1 := atoms_few o2
      obtain ⟨e5', h2⟩ := marks_crowd H.toHasAtoms hn1 (pf := p.facts) (qs := p.singles.length) (st := st) (k := k) (by omega) (some (.d p.d)) (some (.d (.tuple (claims.map sd)))) e4 none none none none f.atoms A e5 (fun a ha => ⟨atoms_ok f a o1 ha, atoms_self f a ha⟩) (by omega)
      refine ⟨e5', ?_⟩
      simp only [Par.d, hcr, sd_some] at h2
      simp [mVar, idx, Par.d, hcr, fmd_not_none, q, mItE, items, turnsC]
      rw [h2]
      rfl
  obtain ⟨e5', s3⟩ := s3
  rw [s3, R.bind_ok]
  dsimp only
  rw [es_cons, bx_seq]
  have lB : (A ++ turnsC (n - 1) p.crowd).length ≤ 3 + 412 + 8 := by
    rw [List.length_append]
    have : (turnsC (n - 1) p.crowd).length ≤ 8 := by
      cases hcr : p.crowd with
      | none => simp [turnsC]
      | some f =>
        have := flat_turnsC (n - 1) f.atoms
        have := atoms_few (ok.crowd f hcr).2
        simp only [turnsC]
        omega
    omega
  generalize hB : A ++ turnsC (n - 1) p.crowd = B at lB
  have s4 : evS (call P k) (.iff (.isc true (.idx (.var 0) (.cst (.int 3))) .none) [.asg (.nm 3) (.bin .add (.var 3) (.lcR [6] (.bin .sub (.bin .add (.idx (.var 0) (.cst (.int 3))) (.cst (.int 1))) (.var 6)) (.nm 6) [(.bin .add (.bi .len (.idx (.var 0) (.cst (.int 1)))) (.cst (.int 1)))] none))] []) [some (.d p.d), some (.d (.tuple (claims.map sd))), some (.d (.int n)), some (.d (iD B)), e4, e5', none, none, none, none] st =
      .ok (.nx [some (.d p.d), some (.d (.tuple (claims.map sd))), some (.d (.int n)), some (.d (iD (B ++ marksM p.singles.length p.most))), e4, e5', none, none, none, none]) st := by
    cases hmo : p.most with
    | none => simp [mVar, idx, Par.d, hmo, isD, marksM]
    | some m =>
      have h4 : lcGo (.nm 6) none (evE (call P k) (.bin .sub (.bin .add (.idx (.var 0) (.cst (.int 3))) (.cst (.int 1))) (.var 6))) [some (.d (.tuple [.int p.facts, .tuple (p.singles.map sd), sd p.crowd, .int m])), some (.d (.tuple (claims.map sd))), some (.d (.int n)), some (.d (iD B)), e4, e5', none, none, none, none] ((List.range (p.singles.length + 1)).map fun j => PyData.int (j : Nat)) [] st = .ok ([] ++ ((List.range (p.singles.length + 1)).map fun j => PyData.int (j : Nat)).map (subB m)) st := by
        refine lc_map (subB m) _ _ (fun x hx => ?_) (by simp; omega)
        obtain ⟨j, _, rfl⟩ := List.mem_map.mp hx
        simp [mVar, idx, b2_add, b2_sub, subB]
      have e6 : ((List.range (p.singles.length + 1)).map fun j => PyData.int (j : Nat)).map (subB m) = (marksM p.singles.length (some m)).map .int := by
        simp only [marksM, List.map_map]
        rfl
      rw [e6] at h4
      have e7 := iD_add (ns := B) (ms := marksM p.singles.length (some m)) (by simp [marksM]; omega)
      simp [mVar, idx, Par.d, hmo, isD, mLc, mItR, b1, b2_add, range_one, wipeE] at h4 ⊢
      simp [h4, noExc]
      rw [show PyData.list (List.map PyData.int (marksM p.singles.length (some m))) = iD (marksM p.singles.length (some m)) from rfl, e7]
      simp
  rw [s4, R.bind_ok]
  dsimp only
  have eR : B ++ marksM p.singles.length p.most = p.raw claims n := by rw [← hB, ← hA]; rfl
  rw [eR]
  have lR := raw_len ok (n := n) (claims := claims) fun f hf => (hc f hf).2
  have h6 : lcGo (.nm 7) (some (evE (call P k) (.chain .le .le (.cst (.int 0)) (.var 7) (.var 2)))) (evE (call P k) (.var 7)) [some (.d p.d), some (.d (.tuple (claims.map sd))), some (.d (.int n)), some (.d (iD (p.raw claims n))), e4, e5', none, none, none, none] ((p.raw claims n).map .int) [] st = .ok ([] ++ (((p.raw claims n).map PyData.int).filter (inB n)).map fun x => x) st := by
    refine lc_filter _ _ _ _ (fun x hx => ?_) (fun x hx _ => ?_) (by simp; omega)
    · obtain ⟨j, _, rfl⟩ := List.mem_map.mp hx
      simp [mVar, mChain, b2_le, inB]
      by_cases c1 : 0 ≤ j <;> simp [c1, b2_le]
    · simp [mVar]
  rw [filt_int] at h6
  have e8 := sortset_ok (ns := (p.raw claims n).filter fun x => decide (0 ≤ x) && decide (x ≤ n)) (Nat.le_trans (List.length_filter_le _ _) (by omega))
  simp [mVar, mLc, mItE, items, iD, wipeE] at h6 e8 ⊢
  simp [h6, noExc, e8]
  rfl
end
end Mi
end
section
set_option maxHeartbeats 4000000
namespace Mi
open PySem
/-- a walk that lets a list grow -/
theorem for_acc {α : Type} {enc : α → D} {C : Env → Prop} {t : Tg} {b : MS} {g : α → List D} {mk : List D → Store} {B : Nat} : ∀ (L : List α), (∀ x ∈ L, ∀ env acc, C env → acc.length + (g x).length ≤ B → ∃ env1 env2, tset t env (enc x) = some env1 ∧ b env1 (mk acc) = .ok (.nx env2) (mk (acc ++ g x)) ∧ C env2) →
    ∀ env acc, C env → acc.length + (L.flatMap g).length ≤ B → ∃ env', forGo t b (L.map enc) env (mk acc) = .ok (.nx env') (mk (acc ++ L.flatMap g)) ∧ C env'
  | [], _, env, acc, c, _ => ⟨env, by simp [forGo], c⟩
  | x :: xs, h, env, acc, c, hl => by
    simp only [List.flatMap_cons, List.length_append] at hl
    obtain ⟨env1, env2, h1, h2, c2⟩ := h x List.mem_cons_self env acc c (by omega)
    obtain ⟨env', h3, c3⟩ := for_acc xs (fun y hy => h y (List.mem_cons_of_mem _ hy)) env2 (acc ++ g x) c2 (by rw [List.length_append]; omega)
    refine ⟨env', ?_, c3⟩
    simp [forGo, h1, h2, h3]
theorem cut_one {α : Type} (l : List α) : cut l (some 1) none = l.tail := by
  cases l with
  | nil => rfl
  | cons x xs => exact cut_tail x xs
def pairI (q : Int × Int) : D := .tuple [.int q.1, .int q.2]
def pairsOf (marks : List Int) (n : Int) : List (Int × Int) := marks.zip (marks.tail ++ [n + 1])
theorem zip_int : ∀ ns ms : List Int, zipD (ns.map .int) (ms.map .int) = (ns.zip ms).map pairI
  | [], _ => by simp [zipD]
  | _ :: _, [] => by simp [zipD]
  | n :: ns, m :: ms => by
    rw [List.map_cons, List.map_cons, zipD_cons, zip_int ns ms]
    rfl
def strD (fs ls : List Bool) (x y : Int) : D := .tuple [bD fs, bD ls, .int x, .int y]
/-- what the pair of marks gives -/
def segL (p : Par) (n : Int) (fs ls : List Bool) (q : Int × Int) : List D := [q.1, q.1 + 1].flatMap fun x => if decide (x < q.2) && p.can fs ls x n then [strD fs ls x (q.2 - 1 - (q.2 - 1 - x) % 2)] else []
def Par.strL (p : Par) (claims : List (Option Fm)) (n : Int) : List D := (rowsB p.facts).flatMap fun fs => (rowsB p.singles.length).flatMap fun ls => (pairsOf (p.marks claims n) n).flatMap fun q => segL p n fs ls q
structure HasStr (P : Prg) : Prop extends HasMarks P, HasCan P, HasRows P where
  stretches : P.find "stretches" = some f_stretches
theorem pr_fst : ∀ {α β : Type} {l : List α} {m : List β} {q : α × β}, q ∈ l.zip m → q.1 ∈ l := fun h => (List.of_mem_zip h).1
theorem sortU_mem' (l : List Int) (k : Int) : k ∈ sortU l → k ∈ l := by
  have ins : ∀ (x : Int) (l : List Int) (k : Int), k ∈ insU x l → k = x ∨ k ∈ l := by
    intro x l
    induction l with
    | nil => intro k h; simpa [insU] using h
    | cons y ys ih =>
      intro k h
      unfold insU at h
      split at h
      · simpa using h
      · split at h
        · exact .inr h
        · rcases List.mem_cons.mp h with z | z
          · exact .inr (z ▸ List.mem_cons_self)
          · exact (ih k z).imp id (List.mem_cons_of_mem _)
  induction l with
  | nil => intro h; simpa [sortU] using h
  | cons x xs ih =>
    intro h
    exact (ins x _ k h).elim (fun z => z ▸ List.mem_cons_self) fun z => List.mem_cons_of_mem _ (ih z)
theorem sortU_len (l : List Int) : (sortU l).length ≤ l.length := by
  have ins : ∀ (x : Int) (l : List Int), (insU x l).length ≤ l.length + 1 := by
    intro x l
    induction l with
    | nil => simp [insU]
    | cons y ys ih =>
      unfold insU
      split
      · simp
      · split
        · simp
        · simp only [List.length_cons]; omega
  induction l with
  | nil => simp [sortU]
  | cons x xs ih =>
    show (insU x (sortU xs)).length ≤ _
    have := ins x (sortU xs)
    simp only [List.length_cons]
    omega
theorem rowsB_num : ∀ k : Nat, (rowsB k).length = 2 ^ k
  | 0 => rfl
  | k + 1 => by
    have h := rowsB_num k
    have e : ∀ l : List (List Bool), (l.flatMap fun r => [r ++ [false], r ++ [true]]).length = 2 * l.length := fun l => by
      induction l with
      | nil => rfl
      | cons r l ih => simp only [List.flatMap_cons, List.length_append, List.length_cons, List.length_nil, ih]; omega
    show ((rowsB k).flatMap fun r => [r ++ [false], r ++ [true]]).length = _
    rw [e, h, Nat.pow_succ]
    omega
theorem flat_le {α β : Type} {f : α → List β} {c : Nat} : ∀ l : List α, (∀ x ∈ l, (f x).length ≤ c) → (l.flatMap f).length ≤ c * l.length
  | [], _ => by simp
  | x :: l, h => by
    have h1 := h x List.mem_cons_self
    have h2 := flat_le l fun y hy => h y (List.mem_cons_of_mem _ hy)
    simp only [List.flatMap_cons, List.length_append, List.length_cons, Nat.mul_add, Nat.mul_one]
    omega
theorem seg_len (p : Par) (n : Int) (fs ls : List Bool) (q : Int × Int) : (segL p n fs ls q).length ≤ 2 := by
  unfold segL
  exact Nat.le_trans (flat_le (c := 1) _ fun x _ => by split <;> simp) (by simp)
section
variable {P : Prg} {st : Store}
theorem flatMap_map {α β γ : Type} (f : α → β) (g : β → List γ) (l : List α) : (l.map f).flatMap g = l.flatMap fun x => g (f x) := by
  induction l with
  | nil => rfl
  | cons x l ih => simp [ih]
@[simp] theorem cell_get (st : Store) (c : Cell) : (st ++ [c])[st.length]? = some c := by simp
@[simp] theorem cell_put (st : Store) (c c' : Cell) : (st ++ [c]).set st.length c' = st ++ [c'] := by
  rw [List.set_append_right _ _ (Nat.le_refl _)]
  simp
@[simp] theorem cell_take (st : Store) (c : Cell) : (st ++ [c]).take st.length = st := by simp
theorem marks_in_range {p : Par} {claims : List (Option Fm)} {n x : Int} (h : x ∈ p.marks claims n) : 0 ≤ x ∧ x ≤ n := by
  have h1 := sortU_mem' _ _ h
  have h2 := (List.mem_filter.mp h1).2
  simpa using h2
def g10 (p : Par) (n : Int) (fs ls : List Bool) (hi x : Int) : List D := if decide (x < hi) && p.can fs ls x n then [strD fs ls x (hi - 1 - (hi - 1 - x) % 2)] else []
def E11 (p : Par) (claims : List (Option Fm)) (n : Int) (rw : D) (ref : Nat) (e4 e7 e8 e9 e10 : Option Val) : Env := [some (.d p.d), some (.d (.tuple (claims.map sd))), some (.d (.int n)), some (.d rw), e4, some (.d (iD (p.marks claims n))), some (.ref ref), e7, e8, e9, e10]
abbrev b10 : List S := [.iff (.and (.bin .lt (.var 10) (.var 9)) (.call false "can_be" [(.var 0), (.var 4), (.var 7), (.var 10), (.var 2)])) [.app 6 (.tup [(.var 4), (.var 7), (.var 10), (.bin .sub (.bin .sub (.var 9) (.cst (.int 1))) (.bin .mod (.bin .sub (.bin .sub (.var 9) (.cst (.int 1))) (.var 10)) (.cst (.int 2))))])] []]
abbrev b89 : List S := [.for (.nm 10) (.ex (.tup [(.var 8), (.bin .add (.var 8) (.cst (.int 1)))])) b10]
abbrev b7 : List S := [.for (.tp [8, 9]) (.ex (.var 3)) b89]
abbrev b4 : List S := [.for (.nm 7) (.ex (.call false "rows_of" [(.bi .len (.idx (.var 0) (.cst (.int 1))))])) b7]
theorem str10 (H : HasCan P) {p : Par} (ok : p.ok) {claims : List (Option Fm)} {n : Int} (hn : n.natAbs < 2 ^ 199) {fs ls : List Bool} (hf : fs.length = p.facts) (hl : ls.length = p.singles.length) {lo hi : Int} (h0 : 0 ≤ lo) (h1 : lo ≤ n) {rw : D} {k : Nat} (hk : 5 ≤ k) :
    ∀ j ∈ [lo, lo + 1], ∀ env acc, (∃ e10, env = E11 p claims n rw st.length (some (.d (bD fs))) (some (.d (bD ls))) (some (.d (.int lo))) (some (.d (.int hi))) e10) → acc.length + (g10 p n fs ls hi j).length ≤ 100000 →
      ∃ env1 env2, tset (.nm 10) env (.int j) = some env1 ∧ evSs (call P k) b10 env1 (st ++ [.lst acc]) = .ok (.nx env2) (st ++ [.lst (acc ++ g10 p n fs ls hi j)]) ∧
        (∃ e10, env2 = E11 p claims n rw st.length (some (.d (bD fs))) (some (.d (bD ls))) (some (.d (.int lo))) (some (.d (.int hi))) e10) := by
  intro j hx env acc hC hB
  obtain ⟨e10, rfl⟩ := hC
  have e200 : (2 : Nat) ^ 200 = 2 * 2 ^ 199 := by rw [← Nat.pow_succ']
  have hj : 0 ≤ j ∧ j ≤ n + 1 := by
    rcases List.mem_cons.mp hx with e | e
    · omega
    · have : j = lo + 1 := by simpa using e
      omega
  have q := can_be_ok H (st := st ++ [.lst acc]) (p := p) (fs := fs) (ls := ls) (m := j) (n := n) (by unfold Sm; omega) (by unfold Sm; omega) (by unfold Sm; omega) (by unfold Sm; omega) ok hf hl hk
  have hA : acc.length < 16777216 := by omega
  refine ⟨_, _, rfl, ?_, ⟨some (.d (.int j)), rfl⟩⟩
  by_cases c1 : j < hi
  · cases c2 : p.can fs ls j n with
    | true =>
      rw [c2] at q
      simp [E11, mVar, b2_lt, c1, q, mApp, mTup, allM, dOf, b2_sub, b2, iop, g10, c2, strD, sizeLine_eq, hA]
    | false =>
      rw [c2] at q
      simp [E11, mVar, b2_lt, c1, q, g10, c2]
  · simp [E11, mVar, b2_lt, c1, g10]
theorem seg_g10 (p : Par) (n : Int) (fs ls : List Bool) (q : Int × Int) : segL p n fs ls q = [q.1, q.1 + 1].flatMap (g10 p n fs ls q.2) := rfl
theorem str89 (H : HasCan P) {p : Par} (ok : p.ok) {claims : List (Option Fm)} {n : Int} (hn : n.natAbs < 2 ^ 199) {fs ls : List Bool} (hf : fs.length = p.facts) (hl : ls.length = p.singles.length) {rw : D} {k : Nat} (hk : 5 ≤ k) :
    ∀ q ∈ pairsOf (p.marks claims n) n, ∀ env acc, (∃ e8 e9 e10, env = E11 p claims n rw st.length (some (.d (bD fs))) (some (.d (bD ls))) e8 e9 e10) → acc.length + (segL p n fs ls q).length ≤ 100000 →
      ∃ env1 env2, tset (.tp [8, 9]) env (pairI q) = some env1 ∧ evSs (call P k) b89 env1 (st ++ [.lst acc]) = .ok (.nx env2) (st ++ [.lst (acc ++ segL p n fs ls q)]) ∧
        (∃ e8 e9 e10, env2 = E11 p claims n rw st.length (some (.d (bD fs))) (some (.d (bD ls))) e8 e9 e10) := by
  intro q hq env acc hC hB
  obtain ⟨e8, e9, e10, rfl⟩ := hC
  obtain ⟨r0, r1⟩ := marks_in_range (pr_fst hq)
  obtain ⟨env', h1, e10', h2⟩ := for_acc (enc := PyData.int) (mk := fun a => st ++ [.lst a]) [q.1, q.1 + 1] (str10 H ok hn hf hl (hi := q.2) (rw := rw) (claims := claims) r0 r1 hk) _ acc ⟨e10, rfl⟩ (by rw [← seg_g10]; exact hB)
  rw [← seg_g10] at h1
  refine ⟨E11 p claims n rw st.length (some (.d (bD fs))) (some (.d (bD ls))) (some (.d (.int q.1))) (some (.d (.int q.2))) e10, env', rfl, ?_, _, _, _, h2⟩
  simp only [E11, List.map_cons, List.map_nil] at h1
  simp [E11, mVar, mItE, mTup, allM, dOf, b2_add, items, h1]
theorem str7 (H : HasCan P) {p : Par} (ok : p.ok) {claims : List (Option Fm)} {n : Int} (hn : n.natAbs < 2 ^ 199) {fs : List Bool} (hf : fs.length = p.facts) {k : Nat} (hk : 5 ≤ k) :
    ∀ ls ∈ rowsB p.singles.length, ∀ env acc, (∃ e7 e8 e9 e10, env = E11 p claims n (.list ((pairsOf (p.marks claims n) n).map pairI)) st.length (some (.d (bD fs))) e7 e8 e9 e10) → acc.length + ((pairsOf (p.marks claims n) n).flatMap fun q => segL p n fs ls q).length ≤ 100000 →
      ∃ env1 env2, tset (.nm 7) env (bD ls) = some env1 ∧ evSs (call P k) b7 env1 (st ++ [.lst acc]) = .ok (.nx env2) (st ++ [.lst (acc ++ (pairsOf (p.marks claims n) n).flatMap fun q => segL p n fs ls q)]) ∧
        (∃ e7 e8 e9 e10, env2 = E11 p claims n (.list ((pairsOf (p.marks claims n) n).map pairI)) st.length (some (.d (bD fs))) e7 e8 e9 e10) := by
  intro ls hls env acc hC hB
  obtain ⟨e7, e8, e9, e10, rfl⟩ := hC
  obtain ⟨env', h1, e8', e9', e10', h2⟩ := for_acc (enc := pairI) (mk := fun a => st ++ [.lst a]) (pairsOf (p.marks claims n) n) (str89 H ok hn hf (rowsB_len _ _ hls) (rw := .list ((pairsOf (p.marks claims n) n).map pairI)) (claims := claims) hk) (E11 p claims n (.list ((pairsOf (p.marks claims n) n).map pairI)) st.length (some (.d (bD fs))) (some (.d (bD ls))) e8 e9 e10) acc ⟨e8, e9, e10, rfl⟩ hB
  refine ⟨_, env', rfl, ?_, _, _, _, _, h2⟩
  simp only [E11] at h1
  simp [E11, mVar, mItE, items, h1]
theorem str4 (H : HasCan P) (HR : HasRows P) {p : Par} (ok : p.ok) {claims : List (Option Fm)} {n : Int} (hn : n.natAbs < 2 ^ 199) {k : Nat} (hk : 5 ≤ k) :
    ∀ fs ∈ rowsB p.facts, ∀ env acc, (∃ e4 e7 e8 e9 e10, env = E11 p claims n (.list ((pairsOf (p.marks claims n) n).map pairI)) st.length e4 e7 e8 e9 e10) → acc.length + ((rowsB p.singles.length).flatMap fun ls => (pairsOf (p.marks claims n) n).flatMap fun q => segL p n fs ls q).length ≤ 100000 →
      ∃ env1 env2, tset (.nm 4) env (bD fs) = some env1 ∧ evSs (call P k) b4 env1 (st ++ [.lst acc]) = .ok (.nx env2) (st ++ [.lst (acc ++ (rowsB p.singles.length).flatMap fun ls => (pairsOf (p.marks claims n) n).flatMap fun q => segL p n fs ls q)]) ∧
        (∃ e4 e7 e8 e9 e10, env2 = E11 p claims n (.list ((pairsOf (p.marks claims n) n).map pairI)) st.length e4 e7 e8 e9 e10) := by
  intro fs hfs env acc hC hB
  obtain ⟨e4, e7, e8, e9, e10, rfl⟩ := hC
  obtain ⟨env', h1, e7', e8', e9', e10', h2⟩ := for_acc (enc := bD) (mk := fun a => st ++ [.lst a]) (rowsB p.singles.length) (str7 H ok hn (rowsB_len _ _ hfs) (claims := claims) hk) (E11 p claims n (.list ((pairsOf (p.marks claims n) n).map pairI)) st.length (some (.d (bD fs))) e7 e8 e9 e10) acc ⟨e7, e8, e9, e10, rfl⟩ hB
  refine ⟨_, env', rfl, ?_, _, _, _, _, _, h2⟩
  have q := rows_of_ok HR (st := st ++ [.lst acc]) (k := p.singles.length) (n := k) ok.len (by omega)
  simp only [E11] at h1
  simp [E11, mVar, idx, Par.d, b1, q, mItE, items, rowsD] at h1 ⊢
  simp [h1]
theorem marks_len {p : Par} (ok : p.ok) {claims : List (Option Fm)} {n : Int} (hc : ∀ f, some f ∈ claims → f.dep ≤ 3) : (p.marks claims n).length ≤ 40 + 4 * claims.length :=
  Nat.le_trans (sortU_len _) (Nat.le_trans (List.length_filter_le _ _) (raw_len ok hc))
theorem pairs_len (l : List Int) (n : Int) : (pairsOf l n).length ≤ l.length := by
  unfold pairsOf
  rw [List.length_zip]
  omega
theorem str_len {p : Par} (ok : p.ok) {claims : List (Option Fm)} {n : Int} (hc : ∀ f, some f ∈ claims → f.dep ≤ 3) (hcl : claims.length ≤ 100) : (p.strL claims n).length ≤ 100000 := by
  have h1 := marks_len ok (n := n) hc
  have h2 := pairs_len (p.marks claims n) n
  have l0 := ok.len
  have l1 := ok.facts
  have n1 : (rowsB p.facts).length ≤ 4 := by rw [rowsB_num]; exact Nat.le_trans (Nat.pow_le_pow_right (by decide) l1) (by decide)
  have n2 : (rowsB p.singles.length).length ≤ 8 := by rw [rowsB_num]; exact Nat.le_trans (Nat.pow_le_pow_right (by decide) l0) (by decide)
  have a1 : ∀ fs ls, ((pairsOf (p.marks claims n) n).flatMap fun q => segL p n fs ls q).length ≤ 880 := fun fs ls => by
    have := flat_le (c := 2) (f := fun q => segL p n fs ls q) (pairsOf (p.marks claims n) n) fun q _ => seg_len p n fs ls q
    omega
  have a2 : ∀ fs, ((rowsB p.singles.length).flatMap fun ls => (pairsOf (p.marks claims n) n).flatMap fun q => segL p n fs ls q).length ≤ 7040 := fun fs => by
    have := flat_le (c := 880) (f := fun ls => (pairsOf (p.marks claims n) n).flatMap fun q => segL p n fs ls q) (rowsB p.singles.length) fun ls _ => a1 fs ls
    omega
  have := flat_le (c := 7040) (f := fun fs => (rowsB p.singles.length).flatMap fun ls => (pairsOf (p.marks claims n) n).flatMap fun q => segL p n fs ls q) (rowsB p.facts) fun fs _ => a2 fs
  unfold Par.strL
  omega
theorem stretches_ok (H : HasStr P) {p : Par} (ok : p.ok) {claims : List (Option Fm)} {n : Int} (hn : n.natAbs < 2 ^ 199) (hc : ∀ f, some f ∈ claims → f.ok p.facts p.singles.length ∧ f.dep ≤ 3) (hcl : claims.length ≤ 100) {k : Nat} (hk : 6 ≤ k) :
    call P k "stretches" [.d p.d, .d (.tuple (claims.map sd)), .d (.int n)] st = .ok (.d (.list (p.strL claims n))) st := by
  obtain ⟨k, rfl, hk'⟩ := fuel (c := 5) hk
  rw [call_eq H.stretches, run_of rfl]
  have hs : sizeLine = 16777216 := sizeLine_eq
  have e200 : (2 : Nat) ^ 200 = 2 * 2 ^ 199 := by rw [← Nat.pow_succ']
  have hM := marks_of_ok H.toHasMarks (st := st) ok (claims := claims) (n := n) (by unfold Sm; omega) (by unfold Sm; omega) hc hcl (k := k) (by omega)
  have l1 := marks_len ok (n := n) fun f hf => (hc f hf).2
  obtain ⟨env', h1, e4, e7, e8, e9, e10, h2⟩ := for_acc (enc := bD) (mk := fun a => st ++ [.lst a]) (rowsB p.facts) (str4 H.toHasCan H.toHasRows ok hn (claims := claims) hk') (E11 p claims n (.list ((pairsOf (p.marks claims n) n).map pairI)) st.length none none none none none) [] ⟨none, none, none, none, none, rfl⟩ (by
    have := str_len ok (n := n) (fun f hf => (hc f hf).2) hcl
    unfold Par.strL at this
    simp only [List.length_nil]
    omega)
  have hrows := rows_of_ok H.toHasRows (st := st ++ [.lst []]) (k := p.facts) (n := k) (by have := ok.facts; omega) (by omega)
  have hst : start f_stretches [.d p.d, .d (.tuple (claims.map sd)), .d (.int n)] = [some (.d p.d), some (.d (.tuple (claims.map sd))), some (.d (.int n)), none, none, none, none, none, none, none, none] := rfl
  rw [hst]
  unfold f_stretches
  dsimp only
  have ltail : ((p.marks claims n).tail).length ≤ (p.marks claims n).length := by rw [List.length_tail]; omega
  have ez : zipD ((p.marks claims n).map .int) (((p.marks claims n).map PyData.int).tail ++ [.int (n + 1)]) = (pairsOf (p.marks claims n) n).map pairI := by
    have := zip_int (p.marks claims n) ((p.marks claims n).tail ++ [n + 1])
    rw [List.map_append, List.map_tail] at this
    exact this
  have eadd : b2 .add (.list (((p.marks claims n).map PyData.int).tail)) (.list [.int (n + 1)]) = some (.list (((p.marks claims n).map PyData.int).tail ++ [.int (n + 1)])) := by
    show (if (((p.marks claims n).map PyData.int).tail).length + 1 ≤ sizeLine then some (PyData.list (((p.marks claims n).map PyData.int).tail ++ [.int (n + 1)])) else none) = _
    rw [if_pos (by rw [List.length_tail, List.length_map]; omega)]
  simp only [E11, iD, List.nil_append] at h1
  simp [mPar1, mVar, hM, mLst, allM, dOf, iD, lzipD, mSlc, mOptI, slc, cut_one, b2_add, eadd, ez, idx, Par.d, hrows, mItE, items, rowsD] at h1 hM hrows ⊢
  simp [h1, h2, hM, hrows, E11, mRetV, away, Par.strL, mLst, allM, dOf, lzipD, eadd, ez]
end
end Mi
end
section
set_option maxHeartbeats 4000000
namespace Mi
open PySem
theorem lc_mapT {α : Type} {t : Tg} {me : ME} {env : Env} {st : Store} {enc g : α → D} : ∀ (L : List α) (acc : List D), (∀ x ∈ L, ∃ env1, tset t env (enc x) = some env1 ∧ me env1 st = .ok (.d (g x)) st) → acc.length + L.length ≤ sizeLine → lcGo t none me env (L.map enc) acc st = .ok (acc ++ L.map g) st
  | [], acc, _, _ => by simp [lcGo]
  | x :: xs, acc, h, hl => by
    simp only [List.length_cons] at hl
    obtain ⟨env1, h1, h2⟩ := h x List.mem_cons_self
    have ih := lc_mapT (me := me) (env := env) (st := st) (g := g) xs (acc ++ [g x]) (fun y hy => h y (List.mem_cons_of_mem _ hy)) (by simp; omega)
    simp [lcGo, h1, h2, show acc.length < sizeLine by omega, ih]
theorem b2_fdiv2 (i : Int) : b2 .fdiv (.int i) (.int 2) = some (.int (i / 2)) := by
  show (if (0 : Int) < 2 ∧ (2 : Int).natAbs.log2 < 9000 then some (PyData.int (i / 2)) else none) = _
  rw [if_pos (by decide)]
structure Qd where
  fs : List Bool
  ls : List Bool
  a : Int
  b : Int
def Qd.d (q : Qd) : D := strD q.fs q.ls q.a q.b
def segQ (p : Par) (n : Int) (fs ls : List Bool) (q : Int × Int) : List Qd := [q.1, q.1 + 1].flatMap fun x => if decide (x < q.2) && p.can fs ls x n then [⟨fs, ls, x, q.2 - 1 - (q.2 - 1 - x) % 2⟩] else []
def Par.quads (p : Par) (claims : List (Option Fm)) (n : Int) : List Qd := (rowsB p.facts).flatMap fun fs => (rowsB p.singles.length).flatMap fun ls => (pairsOf (p.marks claims n) n).flatMap fun q => segQ p n fs ls q
theorem flat_map' {α β γ : Type} (f : β → γ) (g : α → List β) (h : α → List γ) (l : List α) (e : ∀ x ∈ l, h x = (g x).map f) : l.flatMap h = (l.flatMap g).map f := by
  induction l with
  | nil => rfl
  | cons x l ih =>
    rw [List.flatMap_cons, List.flatMap_cons, List.map_append, e x List.mem_cons_self, ih fun y hy => e y (List.mem_cons_of_mem _ hy)]
theorem str_quads (p : Par) (claims : List (Option Fm)) (n : Int) : p.strL claims n = (p.quads claims n).map Qd.d := by
  unfold Par.strL Par.quads
  refine flat_map' _ _ _ _ fun fs _ => flat_map' _ _ _ _ fun ls _ => flat_map' _ _ _ _ fun q _ => flat_map' _ _ _ _ fun x _ => ?_
  split <;> rfl
theorem quads_len {p : Par} (ok : p.ok) {claims : List (Option Fm)} {n : Int} (hc : ∀ f, some f ∈ claims → f.dep ≤ 3) (hcl : claims.length ≤ 100) : (p.quads claims n).length ≤ 100000 := by
  have h := str_len ok (n := n) hc hcl
  rw [str_quads, List.length_map] at h
  exact h
structure HasNum (P : Prg) : Prop extends HasStr P where
  number_of : P.find "number_of" = some f_number_of
  first_world : P.find "first_world" = some f_first_world
def Par.number (p : Par) (n : Int) : Int := ((p.quads [] n).map fun q => (q.b - q.a) / 2 + 1).sum
section
variable {P : Prg} {st : Store}
theorem number_of_ok (H : HasNum P) {p : Par} (ok : p.ok) {n : Int} (hn : n.natAbs < 2 ^ 199) {k : Nat} (hk : 7 ≤ k) : call P k "number_of" [.d p.d, .d (.int n)] st = .ok (.d (.int (p.number n))) st := by
  obtain ⟨k, rfl, hk'⟩ := fuel (c := 6) hk
  rw [call_eq H.number_of]
  have q := stretches_ok H.toHasStr (st := st) ok (claims := []) (n := n) hn (fun f hf => by cases hf) (by decide) hk'
  rw [str_quads] at q
  have l := quads_len ok (n := n) (claims := []) (fun f hf => by cases hf) (by decide)
  have hs : sizeLine = 16777216 := sizeLine_eq
  have h := lc_mapT (t := .tp [2, 3, 4, 5]) (me := evE (call P k) (.bin .add (.bin .fdiv (.bin .sub (.var 5) (.var 4)) (.cst (.int 2))) (.cst (.int 1)))) (env := [some (.d p.d), some (.d (.int n)), none, none, none, none]) (st := st) (enc := Qd.d) (g := fun q => .int ((q.b - q.a) / 2 + 1)) (p.quads [] n) [] (fun x hx => ⟨_, rfl, by
    simp [mVar, b2_sub, b2_fdiv2, b2_add]⟩) (by simp only [List.length_nil]; omega)
  have e : (p.quads [] n).map (fun q => PyData.int ((q.b - q.a) / 2 + 1)) = ((p.quads [] n).map fun q => (q.b - q.a) / 2 + 1).map .int := by rw [List.map_map]; rfl
  rw [e] at h
  simp [run_of, f_number_of, start, mVar, mLc, mItE, items, wipeE, mTup, allM, dOf] at h q ⊢
  simp [q, h, noExc, b1]
  rw [show (List.map (PyData.int ∘ fun q => (q.b - q.a) / 2 + 1) (p.quads [] n)) = ((p.quads [] n).map fun q => (q.b - q.a) / 2 + 1).map PyData.int by rw [List.map_map], allM_int]
  simp [Par.number]
end
structure Tr where
  fs : List Bool
  ls : List Bool
  m : Int
def Tr.d (t : Tr) : D := .tuple [bD t.fs, bD t.ls, .int t.m]
theorem depth_bools : ∀ l : List Bool, PyData.depthAll (l.map .bool) = 0
  | [] => rfl
  | b :: l => by
    show max 0 (PyData.depthAll (l.map .bool)) = 0
    rw [depth_bools l]
    rfl
theorem depth_tr (t : Tr) : t.d.depth = 2 := by
  show max (PyData.depthAll (t.fs.map .bool) + 1) (max (PyData.depthAll (t.ls.map .bool) + 1) (max 0 0)) + 1 = 2
  rw [depth_bools, depth_bools]
  rfl
theorem depth_trs : ∀ l : List Tr, PyData.depthAll (l.map Tr.d) ≤ 2
  | [] => Nat.zero_le _
  | t :: l => by
    show max t.d.depth (PyData.depthAll (l.map Tr.d)) ≤ 2
    rw [depth_tr]
    have := depth_trs l
    omega
theorem alike_bools : ∀ xs ys : List Bool, PySem.W.alikeAll (xs.map .bool) (ys.map .bool) = true
  | [], _ => by simp [PySem.W.alikeAll]
  | _ :: _, [] => by simp [PySem.W.alikeAll]
  | x :: xs, y :: ys => by
    show (PySem.W.alike (.bool x) (.bool y) && PySem.W.alikeAll (xs.map .bool) (ys.map .bool)) = true
    rw [alike_bools xs ys]
    rfl
theorem alike_tr (t u : Tr) : PySem.W.alike t.d u.d = true := by
  show (PySem.W.alike (bD t.fs) (bD u.fs) && (PySem.W.alike (bD t.ls) (bD u.ls) && (PySem.W.alike (.int t.m) (.int u.m) && PySem.W.alikeAll [] []))) = true
  rw [show PySem.W.alike (bD t.fs) (bD u.fs) = PySem.W.alikeAll (t.fs.map .bool) (u.fs.map .bool) from rfl, show PySem.W.alike (bD t.ls) (bD u.ls) = PySem.W.alikeAll (t.ls.map .bool) (u.ls.map .bool) from rfl, alike_bools, alike_bools]
  rfl
theorem sortB_tr (l : List Tr) : sortB (l.map Tr.d) = true := by
  unfold sortB
  rw [Bool.and_eq_true, Bool.and_eq_true]
  refine ⟨⟨List.all_eq_true.mpr fun x hx => List.all_eq_true.mpr fun y hy => ?_, List.all_eq_true.mpr fun x hx => ?_⟩, decide_eq_true (Nat.le_trans (depth_trs l) (by decide))⟩
  · obtain ⟨t, _, rfl⟩ := List.mem_map.mp hx
    obtain ⟨u, _, rfl⟩ := List.mem_map.mp hy
    exact alike_tr t u
  · obtain ⟨t, _, rfl⟩ := List.mem_map.mp hx
    rfl
theorem allM_tr (t : Tr) (l : List Tr) : allM bInt ((t :: l).map Tr.d) = none := rfl
def leT (t u : Tr) : Bool := leD t.d u.d
theorem sort_tr (l : List Tr) : (l.map Tr.d).mergeSort leD = (l.mergeSort leT).map Tr.d := (PySem.W.sort_maps Tr.d fun a _ b _ => rfl).symm
theorem b1_sorted_tr (l : List Tr) : b1 .sorted (.list (l.map Tr.d)) = some (.list ((l.mergeSort leT).map Tr.d)) := by
  cases l with
  | nil =>
    rw [List.mergeSort_nil]
    rfl
  | cons t l =>
    show (match allM bInt ((t :: l).map Tr.d) with
      | some ns => some (PyData.list ((sortI ns).map .int))
      | none => if sortB ((t :: l).map Tr.d) then some (PyData.list (((t :: l).map Tr.d).mergeSort leD)) else none) = _
    rw [allM_tr]
    dsimp only
    rw [if_pos (sortB_tr _), sort_tr]
theorem b1_min_tr (t : Tr) (l : List Tr) : b1 .min (.list ((t :: l).map Tr.d)) = some (PySem.W.minD t.d (l.map Tr.d)) := by
  show (match allM bInt ((t :: l).map Tr.d) with
    | some (n :: ns) => some (PyData.int (minI n ns))
    | some [] => none
    | none => if sortB ((t :: l).map Tr.d) then some (PySem.W.minD t.d (l.map Tr.d)) else none) = _
  rw [allM_tr]
  dsimp only
  rw [if_pos (sortB_tr _)]
def minT (t : Tr) (l : List Tr) : Tr := l.foldl (fun a y => if PySem.W.dataLt y.d a.d then y else a) t
theorem minT_d : ∀ (l : List Tr) (t : Tr), PySem.W.minD t.d (l.map Tr.d) = (minT t l).d
  | [], t => rfl
  | u :: l, t => by
    have e : PySem.W.minD t.d ((u :: l).map Tr.d) = PySem.W.minD (if PySem.W.dataLt u.d t.d then u.d else t.d) (l.map Tr.d) := rfl
    have e2 : minT t (u :: l) = minT (if PySem.W.dataLt u.d t.d then u else t) l := rfl
    rw [e, e2]
    split
    · exact minT_d l u
    · exact minT_d l t
/-- first of the sorted ones -/
def Par.first (p : Par) (n : Int) : Option Tr := (((p.quads [] n).map fun q => (⟨q.fs, q.ls, q.a⟩ : Tr)).mergeSort leT).head?
def od : Option Tr → D
  | none => .none
  | some t => t.d
section
variable {P : Prg} {st : Store}
theorem shp_trs (l : List Tr) : shp (.list (l.map Tr.d)) = true := by
  have := depth_trs l
  exact decide_eq_true (show PyData.depthAll (l.map Tr.d) + 1 ≤ 64 by omega)
theorem ne_trs (l : List Tr) : b2 .ne (.list (l.map Tr.d)) (.list []) = some (.bool (!l.isEmpty)) := by
  show (if shp (.list (l.map Tr.d)) && shp (.list []) then some (PyData.bool (!PyData.eqv (.list (l.map Tr.d)) (.list []))) else none) = _
  rw [shp_trs]
  cases l <;> rfl
theorem first_world_ok (H : HasNum P) {p : Par} (ok : p.ok) {n : Int} (hn : n.natAbs < 2 ^ 199) {k : Nat} (hk : 7 ≤ k) : call P k "first_world" [.d p.d, .d (.int n)] st = .ok (.d (od (p.first n))) st := by
  obtain ⟨k, rfl, hk'⟩ := fuel (c := 6) hk
  rw [call_eq H.first_world]
  have q := stretches_ok H.toHasStr (st := st) ok (claims := []) (n := n) hn (fun f hf => by cases hf) (by decide) hk'
  rw [str_quads] at q
  have l := quads_len ok (n := n) (claims := []) (fun f hf => by cases hf) (by decide)
  have hs : sizeLine = 16777216 := sizeLine_eq
  have h := lc_mapT (t := .tp [3, 4, 5, 6]) (me := evE (call P k) (.tup [(.var 3), (.var 4), (.var 5)])) (env := [some (.d p.d), some (.d (.int n)), none, none, none, none, none]) (st := st) (enc := Qd.d) (g := fun q => (⟨q.fs, q.ls, q.a⟩ : Tr).d) (p.quads [] n) [] (fun x hx => ⟨_, rfl, by
    simp [mVar, mTup, allM, dOf, Tr.d]⟩) (by simp only [List.length_nil]; omega)
  have e : (p.quads [] n).map (fun q => (⟨q.fs, q.ls, q.a⟩ : Tr).d) = ((p.quads [] n).map fun q => (⟨q.fs, q.ls, q.a⟩ : Tr)).map Tr.d := by rw [List.map_map]; rfl
  rw [e] at h
  unfold Par.first
  generalize ((p.quads [] n).map fun q => (⟨q.fs, q.ls, q.a⟩ : Tr)) = L at h
  have e1 := b1_sorted_tr L
  generalize L.mergeSort leT = M at e1
  have e2 := ne_trs M
  simp only [List.nil_append] at h
  simp [run_of, f_first_world, start, mVar, mLc, mItE, items, wipeE, mTup, allM, dOf] at h q ⊢
  rw [q]
  simp [h, noExc, e1, mLst, allM, e2]
  cases M with
  | nil => simp [mVar, od]
  | cons t M => simp [mVar, od, idx]
end
end Mi
end
section
set_option maxHeartbeats 4000000
namespace Mi
open PySem
def intsR (lo hi : Int) : List Int := (List.range (hi - lo).toNat).map fun k => lo + (k : Nat)
theorem rng_ints (lo hi : Int) : rngL lo hi 1 = (intsR lo hi).map .int := by
  have e : (Builtin.Range.rangeSize lo hi 1).toNat = (hi - lo).toNat := by
    unfold Builtin.Range.rangeSize
    split <;> (try split) <;> omega
  unfold rngL intsR
  rw [e, List.map_map]
  refine List.map_congr_left fun j _ => ?_
  simp
theorem intsR_mem {lo hi x : Int} : x ∈ intsR lo hi ↔ lo ≤ x ∧ x < hi := by
  unfold intsR
  constructor
  · intro h
    obtain ⟨k, hk, rfl⟩ := List.mem_map.mp h
    have := List.mem_range.mp hk
    omega
  · rintro ⟨h1, h2⟩
    exact List.mem_map.mpr ⟨(x - lo).toNat, List.mem_range.mpr (by omega), by omega⟩
def win (x : Int) : List Int := intsR (x - 14) (x + 15)
def near (n : Int) : List Int := [0, n / 3, n / 2, n * 2 / 3, n]
def spots (n : Int) : List Int := (sortU ((near n).flatMap win)).filter fun x => decide (0 ≤ x) && decide (x ≤ n)
theorem win_len (x : Int) : (win x).length = 29 := by
  unfold win intsR
  rw [List.length_map, List.length_range]
  omega
theorem b2_fdiv3 (i : Int) : b2 .fdiv (.int i) (.int 3) = some (.int (i / 3)) := by
  show (if (0 : Int) < 3 ∧ (3 : Int).natAbs.log2 < 9000 then some (PyData.int (i / 3)) else none) = _
  rw [if_pos (by decide)]
theorem b2_mul {i j : Int} (h : Sm i) (h' : Sm j) : b2 .mul (.int i) (.int j) = some (.int (i * j)) := sm_mul h h'
theorem lrange_win (x : Int) : lrangeD (.int (x - 14)) (.int (x + 15)) = some (iD (win x)) := by
  show (if decide (x + 15 - (x - 14) ≤ 2 ^ 24) then some (PyData.list (rngL (x - 14) (x + 15) 1)) else none) = _
  rw [if_pos (decide_eq_true (by omega)), rng_ints]
  rfl
structure HasSpots (P : Prg) : Prop where
  spots : P.find "_law_spots" = some f_law_spots
section
variable {P : Prg} {st : Store}
theorem spots_go {k : Nat} (e0 e1 e4 : Option Val) : ∀ (xs ns : List Int) (e3 : Option Val), ns.length + 29 * xs.length ≤ 1000000 → ∃ e3', forGo (.nm 3) (evSs (call P k) [.asg (.nm 2) (.bin .add (.var 2) (.lrange (.bin .sub (.var 3) (.cst (.int 14))) (.bin .add (.var 3) (.cst (.int 15)))))]) (xs.map .int) [e0, e1, some (.d (iD ns)), e3, e4] st = .ok (.nx [e0, e1, some (.d (iD (ns ++ xs.flatMap win))), e3', e4]) st
  | [], ns, e3, _ => ⟨e3, by simp [forGo]⟩
  | x :: xs, ns, e3, h => by
    simp only [List.length_cons] at h
    have hw := win_len x
    obtain ⟨e3', ih⟩ := spots_go (k := k) e0 e1 e4 xs (ns ++ win x) (some (.d (.int x))) (by rw [List.length_append]; omega)
    refine ⟨e3', ?_⟩
    have e := iD_add (ns := ns) (ms := win x) (by rw [sizeLine_eq]; omega)
    simp [forGo, tset, mVar, b2_sub, b2_add, lrange_win, e, ih]
theorem near_flat (n : Int) : ((near n).flatMap win).length ≤ 145 := by
  have := flat_le (c := 29) (f := win) (near n) fun x _ => Nat.le_of_eq (win_len x)
  simpa [near] using this
theorem spots_ok (H : HasSpots P) {n : Int} {x : D} (hn : Sm n) {k : Nat} (hk : 1 ≤ k) : call P k "_law_spots" [.d x, .d (.int n)] st = .ok (.d (iD (spots n))) st := by
  obtain ⟨k, rfl, _⟩ := fuel (c := 0) hk
  rw [call_eq H.spots]
  have h2 : Sm (2 : Int) := by decide
  obtain ⟨e3, h1⟩ := spots_go (P := P) (st := st) (k := k) (some (.d x)) (some (.d (.int n))) none (near n) [] none (by simp [near])
  have hl := near_flat n
  have e8 := sortset_ok (ns := (near n).flatMap win) (by omega)
  have hsl := sortU_len ((near n).flatMap win)
  have h6 : lcGo (.nm 4) (some (evE (call P k) (.chain .le .le (.cst (.int 0)) (.var 4) (.var 1)))) (evE (call P k) (.var 4)) [some (.d x), some (.d (.int n)), some (.d (iD ((near n).flatMap win))), e3, none] ((sortU ((near n).flatMap win)).map .int) [] st = .ok ([] ++ (((sortU ((near n).flatMap win)).map PyData.int).filter (inB n)).map fun x => x) st := by
    refine lc_filter _ _ _ _ (fun x hx => ?_) (fun x hx _ => ?_) (by rw [sizeLine_eq]; simp; omega)
    · obtain ⟨j, _, rfl⟩ := List.mem_map.mp hx
      simp [mVar, mChain, b2_le, inB]
      by_cases c1 : 0 ≤ j <;> simp [c1, b2_le]
    · simp [mVar]
  rw [filt_int] at h6
  simp only [near, List.map_cons, List.map_nil] at h1
  generalize hW : (near n).flatMap win = Wn at h6 e8 hl hsl
  simp only [near] at hW
  simp only [List.nil_append, hW] at h1
  simp [run_of, f_law_spots, start, mVar, mLst, allM, dOf, b2_fdiv2, b2_fdiv3, b2_mul hn h2, mItE, items, mLc, wipeE, iD] at h1 h6 e8 ⊢
  rw [show ([] : List D) = [] from rfl] at h1
  simp [h1, mVar, e8, h6, noExc]
  rw [spots, near, hW]
def sizeQ (lo hi m : Int) : Int := if m = lo then 1 else (hi - m + 1) / 2
def triQ (hi lo : Int) : Int := if lo + 3 < hi then lo + 3 else hi
def partQ (p : Par) (n : Int) (fs ls : List Bool) (q : Int × Int) : List Qd := (intsR q.1 (triQ q.2 q.1)).flatMap fun m => if p.can fs ls m n then [⟨fs, ls, m, sizeQ q.1 q.2 m⟩] else []
def Par.parts (p : Par) (n : Int) : List Qd := (rowsB p.facts).flatMap fun fs => (rowsB p.singles.length).flatMap fun ls => (pairsOf (spots n) n).flatMap fun q => partQ p n fs ls q
theorem spots_range {n x : Int} (h : x ∈ spots n) : 0 ≤ x ∧ x ≤ n := by
  have h2 := (List.mem_filter.mp h).2
  simpa using h2
theorem spots_len (n : Int) : (spots n).length ≤ 145 := Nat.le_trans (List.length_filter_le _ _) (Nat.le_trans (sortU_len _) (near_flat n))
structure HasParts (P : Prg) : Prop extends HasSpots P, HasSeen P, HasLRows P where
  parts : P.find "_law_parts" = some f_law_parts
def F10 (p : Par) (n : Int) (ref : Nat) (e2 e5 e6 e7 e8 e9 : Option Val) : Env := [some (.d p.d), some (.d (.int n)), e2, some (.d (iD (spots n))), some (.ref ref), e5, e6, e7, e8, e9]
abbrev c8 : List S := [.asg (.nm 9) (.ite (.bin .eq (.var 8) (.var 6)) (.cst (.int 1)) (.bin .fdiv (.bin .add (.bin .sub (.var 7) (.var 8)) (.cst (.int 1))) (.cst (.int 2)))),
    .iff (.call false "_law_can" [(.var 0), (.var 1), (.var 2), (.var 5), (.var 8)]) [.app 4 (.tup [(.var 2), (.var 5), (.var 8), (.var 9)])] []]
abbrev c67 : List S := [.for (.nm 8) (.rng [(.var 6), (.min2 (.var 7) (.bin .add (.var 6) (.cst (.int 3))))]) c8]
abbrev c5 : List S := [.for (.tp [6, 7]) (.zip (.var 3) (.bin .add (.slc (.var 3) (some (.cst (.int 1))) none) (.lst [(.bin .add (.var 1) (.cst (.int 1)))]))) c67]
abbrev c2 : List S := [.for (.nm 5) (.ex (.call false "_law_rows" [(.bi .len (.idx (.var 0) (.cst (.int 1))))])) c5]
def h8 (p : Par) (n : Int) (fs ls : List Bool) (q : Int × Int) (m : Int) : List D := if p.can fs ls m n then [Qd.d ⟨fs, ls, m, sizeQ q.1 q.2 m⟩] else []
theorem part8 (H : HasSeen P) {p : Par} (ok : p.ok) {n : Int} (hn0 : 0 ≤ n) (hn : n.natAbs < 2 ^ 199) {fs ls : List Bool} (hf : fs.length = p.facts) (hl : ls.length = p.singles.length) {q : Int × Int} (h0 : 0 ≤ q.1) (h1 : q.1 ≤ n) {k : Nat} (hk : 4 ≤ k) :
    ∀ m ∈ intsR q.1 (triQ q.2 q.1), ∀ env acc, (∃ e8 e9, env = F10 p n st.length (some (.d (bD fs))) (some (.d (bD ls))) (some (.d (.int q.1))) (some (.d (.int q.2))) e8 e9) → acc.length + (h8 p n fs ls q m).length ≤ 100000 →
      ∃ env1 env2, tset (.nm 8) env (.int m) = some env1 ∧ evSs (call P k) c8 env1 (st ++ [.lst acc]) = .ok (.nx env2) (st ++ [.lst (acc ++ h8 p n fs ls q m)]) ∧
        (∃ e8 e9, env2 = F10 p n st.length (some (.d (bD fs))) (some (.d (bD ls))) (some (.d (.int q.1))) (some (.d (.int q.2))) e8 e9) := by
  intro m hm env acc hC hB
  obtain ⟨e8, e9, rfl⟩ := hC
  have e200 : (2 : Nat) ^ 200 = 2 * 2 ^ 199 := by rw [← Nat.pow_succ']
  obtain ⟨m1, m2⟩ := intsR_mem.mp hm
  have m3 : m < q.1 + 3 := by
    unfold triQ at m2
    split at m2 <;> omega
  have big : (100 : Nat) < 2 ^ 199 := Nat.lt_of_lt_of_le (by decide : 100 < 2 ^ 7) (Nat.pow_le_pow_right (by decide) (by decide))
  have r := lcan_ok H (st := st ++ [.lst acc]) (p := p) (fs := fs) (ls := ls) (m := m) (n := n) (by omega) (by unfold Sm; omega) (by unfold Sm; omega) (by unfold Sm; omega) (by unfold Sm; omega) ok hf hl hk
  have hA : acc.length < 16777216 := by omega
  refine ⟨_, _, rfl, ?_, ⟨some (.d (.int m)), some (.d (.int (sizeQ q.1 q.2 m))), rfl⟩⟩
  by_cases c1 : m = q.1
  · cases c3 : p.can fs ls m n with
    | true =>
      rw [c3] at r
      simp [F10, mVar, b2, c1, mApp, mTup, allM, dOf, h8, sizeQ, Qd.d, strD, sizeLine_eq, hA] at r c3 ⊢
      simp [r, c3, sizeLine_eq, hA]
    | false =>
      rw [c3] at r
      simp [F10, mVar, b2, c1, h8, sizeQ] at r c3 ⊢
      simp [r, c3]
  · cases c3 : p.can fs ls m n with
    | true =>
      rw [c3] at r
      simp [F10, mVar, b2_sub, b2_add, b2_fdiv2, show b2 .eq (.int m) (.int q.1) = some (.bool false) by simp [b2, c1], mApp, mTup, allM, dOf, h8, sizeQ, Qd.d, strD, sizeLine_eq, hA, r, c3, c1]
    | false =>
      rw [c3] at r
      simp [F10, mVar, b2_sub, b2_add, b2_fdiv2, show b2 .eq (.int m) (.int q.1) = some (.bool false) by simp [b2, c1], h8, sizeQ, r, c3, c1]
theorem part_h8 (p : Par) (n : Int) (fs ls : List Bool) (q : Int × Int) : (partQ p n fs ls q).map Qd.d = (intsR q.1 (triQ q.2 q.1)).flatMap (h8 p n fs ls q) := by
  unfold partQ
  symm
  refine flat_map' _ _ _ _ fun m _ => ?_
  unfold h8
  split <;> rfl
theorem range3 (lo hi : Int) : rngL lo (if lo + 3 < hi then lo + 3 else hi) 1 = (intsR lo (triQ hi lo)).map .int := rng_ints _ _
theorem part67 (H : HasSeen P) {p : Par} (ok : p.ok) {n : Int} (hn0 : 0 ≤ n) (hn : n.natAbs < 2 ^ 199) {fs ls : List Bool} (hf : fs.length = p.facts) (hl : ls.length = p.singles.length) {k : Nat} (hk : 4 ≤ k) :
    ∀ q ∈ pairsOf (spots n) n, ∀ env acc, (∃ e6 e7 e8 e9, env = F10 p n st.length (some (.d (bD fs))) (some (.d (bD ls))) e6 e7 e8 e9) → acc.length + ((partQ p n fs ls q).map Qd.d).length ≤ 100000 →
      ∃ env1 env2, tset (.tp [6, 7]) env (pairI q) = some env1 ∧ evSs (call P k) c67 env1 (st ++ [.lst acc]) = .ok (.nx env2) (st ++ [.lst (acc ++ (partQ p n fs ls q).map Qd.d)]) ∧
        (∃ e6 e7 e8 e9, env2 = F10 p n st.length (some (.d (bD fs))) (some (.d (bD ls))) e6 e7 e8 e9) := by
  intro q hq env acc hC hB
  obtain ⟨e6, e7, e8, e9, rfl⟩ := hC
  obtain ⟨r0, r1⟩ := spots_range (pr_fst hq)
  obtain ⟨env', h1, e8', e9', h2⟩ := for_acc (enc := PyData.int) (mk := fun a => st ++ [.lst a]) (intsR q.1 (triQ q.2 q.1)) (part8 H ok hn0 hn hf hl (q := q) r0 r1 hk) (F10 p n st.length (some (.d (bD fs))) (some (.d (bD ls))) (some (.d (.int q.1))) (some (.d (.int q.2))) e8 e9) acc ⟨e8, e9, rfl⟩ (by rw [← part_h8]; exact hB)
  rw [← part_h8] at h1
  refine ⟨F10 p n st.length (some (.d (bD fs))) (some (.d (bD ls))) (some (.d (.int q.1))) (some (.d (.int q.2))) e8 e9, env', rfl, ?_, _, _, _, _, h2⟩
  simp only [F10] at h1
  simp [F10, mVar, mItR, b2_add, min2D, range3, h1]
theorem ez_gen (l : List Int) (n : Int) : zipD (l.map .int) ((l.map PyData.int).tail ++ [.int (n + 1)]) = (pairsOf l n).map pairI := by
  have h := zip_int l (l.tail ++ [n + 1])
  rw [List.map_append, List.map_tail] at h
  exact h
theorem eadd_gen (l : List Int) (n : Int) (h : l.length ≤ 100000) : b2 .add (.list ((l.map PyData.int).tail)) (.list [.int (n + 1)]) = some (.list ((l.map PyData.int).tail ++ [.int (n + 1)])) := by
  show (if ((l.map PyData.int).tail).length + 1 ≤ sizeLine then some (PyData.list ((l.map PyData.int).tail ++ [.int (n + 1)])) else none) = _
  rw [if_pos (by rw [List.length_tail, List.length_map, sizeLine_eq]; omega)]
theorem part5 (H : HasSeen P) {p : Par} (ok : p.ok) {n : Int} (hn0 : 0 ≤ n) (hn : n.natAbs < 2 ^ 199) {fs : List Bool} (hf : fs.length = p.facts) {k : Nat} (hk : 4 ≤ k) :
    ∀ ls ∈ rowsB p.singles.length, ∀ env acc, (∃ e5 e6 e7 e8 e9, env = F10 p n st.length (some (.d (bD fs))) e5 e6 e7 e8 e9) → acc.length + ((pairsOf (spots n) n).flatMap fun q => (partQ p n fs ls q).map Qd.d).length ≤ 100000 →
      ∃ env1 env2, tset (.nm 5) env (bD ls) = some env1 ∧ evSs (call P k) c5 env1 (st ++ [.lst acc]) = .ok (.nx env2) (st ++ [.lst (acc ++ (pairsOf (spots n) n).flatMap fun q => (partQ p n fs ls q).map Qd.d)]) ∧
        (∃ e5 e6 e7 e8 e9, env2 = F10 p n st.length (some (.d (bD fs))) e5 e6 e7 e8 e9) := by
  intro ls hls env acc hC hB
  obtain ⟨e5, e6, e7, e8, e9, rfl⟩ := hC
  obtain ⟨env', h1, e6', e7', e8', e9', h2⟩ := for_acc (enc := pairI) (mk := fun a => st ++ [.lst a]) (pairsOf (spots n) n) (part67 H ok hn0 hn hf (rowsB_len _ _ hls) hk) (F10 p n st.length (some (.d (bD fs))) (some (.d (bD ls))) e6 e7 e8 e9) acc ⟨e6, e7, e8, e9, rfl⟩ hB
  refine ⟨_, env', rfl, ?_, _, _, _, _, _, h2⟩
  have l1 := spots_len n
  have ez := ez_gen (spots n) n
  have eadd := eadd_gen (spots n) n (by omega)
  simp only [F10, iD] at h1
  simp [F10, mVar, mItZ, mSlc, mOptI, slc, cut_one, iD, mLst, allM, dOf, b2_add, eadd, ez, h1]
theorem part2 (H : HasParts P) {p : Par} (ok : p.ok) {n : Int} (hn0 : 0 ≤ n) (hn : n.natAbs < 2 ^ 199) {k : Nat} (hk : 4 ≤ k) :
    ∀ fs ∈ rowsB p.facts, ∀ env acc, (∃ e2 e5 e6 e7 e8 e9, env = F10 p n st.length e2 e5 e6 e7 e8 e9) → acc.length + ((rowsB p.singles.length).flatMap fun ls => (pairsOf (spots n) n).flatMap fun q => (partQ p n fs ls q).map Qd.d).length ≤ 100000 →
      ∃ env1 env2, tset (.nm 2) env (bD fs) = some env1 ∧ evSs (call P k) c2 env1 (st ++ [.lst acc]) = .ok (.nx env2) (st ++ [.lst (acc ++ (rowsB p.singles.length).flatMap fun ls => (pairsOf (spots n) n).flatMap fun q => (partQ p n fs ls q).map Qd.d)]) ∧
        (∃ e2 e5 e6 e7 e8 e9, env2 = F10 p n st.length e2 e5 e6 e7 e8 e9) := by
  intro fs hfs env acc hC hB
  obtain ⟨e2, e5, e6, e7, e8, e9, rfl⟩ := hC
  obtain ⟨env', h1, e5', e6', e7', e8', e9', h2⟩ := for_acc (enc := bD) (mk := fun a => st ++ [.lst a]) (rowsB p.singles.length) (part5 H.toHasSeen ok hn0 hn (rowsB_len _ _ hfs) hk) (F10 p n st.length (some (.d (bD fs))) e5 e6 e7 e8 e9) acc ⟨e5, e6, e7, e8, e9, rfl⟩ hB
  refine ⟨_, env', rfl, ?_, _, _, _, _, _, _, h2⟩
  have q := lrows_ok H.toHasLRows (st := st ++ [.lst acc]) (k := p.singles.length) (n := k) ok.len (by omega)
  simp only [F10] at h1
  simp [F10, mVar, idx, Par.d, b1, q, mItE, items, rowsD] at h1 ⊢
  simp [h1]
theorem parts_flat (p : Par) (n : Int) : ((rowsB p.facts).flatMap fun fs => (rowsB p.singles.length).flatMap fun ls => (pairsOf (spots n) n).flatMap fun q => (partQ p n fs ls q).map Qd.d) = (p.parts n).map Qd.d := by
  unfold Par.parts
  exact flat_map' _ _ _ _ fun fs _ => flat_map' _ _ _ _ fun ls _ => flat_map' _ _ _ _ fun q _ => rfl
theorem part_len (p : Par) (n : Int) (fs ls : List Bool) (q : Int × Int) : (partQ p n fs ls q).length ≤ 3 := by
  have h1 := flat_le (c := 1) (f := fun m => if p.can fs ls m n then [(⟨fs, ls, m, sizeQ q.1 q.2 m⟩ : Qd)] else []) (intsR q.1 (triQ q.2 q.1)) fun x _ => by split <;> simp
  have h2 : (intsR q.1 (triQ q.2 q.1)).length ≤ 3 := by
    unfold intsR triQ
    rw [List.length_map, List.length_range]
    split <;> omega
  unfold partQ
  omega
theorem parts_len {p : Par} (ok : p.ok) (n : Int) : (p.parts n).length ≤ 100000 := by
  have h1 := spots_len n
  have h2 := pairs_len (spots n) n
  have l0 := ok.len
  have l1 := ok.facts
  have n1 : (rowsB p.facts).length ≤ 4 := by rw [rowsB_num]; exact Nat.le_trans (Nat.pow_le_pow_right (by decide) l1) (by decide)
  have n2 : (rowsB p.singles.length).length ≤ 8 := by rw [rowsB_num]; exact Nat.le_trans (Nat.pow_le_pow_right (by decide) l0) (by decide)
  have a1 : ∀ fs ls, ((pairsOf (spots n) n).flatMap fun q => partQ p n fs ls q).length ≤ 435 := fun fs ls => by
    have := flat_le (c := 3) (f := fun q => partQ p n fs ls q) (pairsOf (spots n) n) fun q _ => part_len p n fs ls q
    omega
  have a2 : ∀ fs, ((rowsB p.singles.length).flatMap fun ls => (pairsOf (spots n) n).flatMap fun q => partQ p n fs ls q).length ≤ 3480 := fun fs => by
    have := flat_le (c := 435) (f := fun ls => (pairsOf (spots n) n).flatMap fun q => partQ p n fs ls q) (rowsB p.singles.length) fun ls _ => a1 fs ls
    omega
  have := flat_le (c := 3480) (f := fun fs => (rowsB p.singles.length).flatMap fun ls => (pairsOf (spots n) n).flatMap fun q => partQ p n fs ls q) (rowsB p.facts) fun fs _ => a2 fs
  unfold Par.parts
  omega
theorem parts_ok (H : HasParts P) {p : Par} (ok : p.ok) {n : Int} (hn0 : 0 ≤ n) (hn : n.natAbs < 2 ^ 199) {k : Nat} (hk : 5 ≤ k) : call P k "_law_parts" [.d p.d, .d (.int n)] st = .ok (.d (.list ((p.parts n).map Qd.d))) st := by
  obtain ⟨k, rfl, hk'⟩ := fuel (c := 4) hk
  rw [call_eq H.parts, run_of rfl]
  have e200 : (2 : Nat) ^ 200 = 2 * 2 ^ 199 := by rw [← Nat.pow_succ']
  have hM := spots_ok H.toHasSpots (st := st) (n := n) (x := p.d) (by unfold Sm; omega) (k := k) (by omega)
  obtain ⟨env', h1, e2, e5, e6, e7, e8, e9, h2⟩ := for_acc (enc := bD) (mk := fun a => st ++ [.lst a]) (rowsB p.facts) (part2 H ok hn0 hn hk') (F10 p n st.length none none none none none none) [] ⟨none, none, none, none, none, none, rfl⟩ (by
    rw [parts_flat, List.length_map]
    have := parts_len ok n
    simp only [List.length_nil]
    omega)
  rw [parts_flat] at h1
  have hrows := lrows_ok H.toHasLRows (st := st ++ [.lst []]) (k := p.facts) (n := k) (by have := ok.facts; omega) (by omega)
  have hst : start f_law_parts [.d p.d, .d (.int n)] = [some (.d p.d), some (.d (.int n)), none, none, none, none, none, none, none, none] := rfl
  rw [hst]
  unfold f_law_parts
  dsimp only
  simp only [F10, iD, List.nil_append] at h1
  simp [mPar1, mVar, hM, mLst, allM, dOf, iD, idx, Par.d, hrows, mItE, items, rowsD] at h1 hM hrows ⊢
  simp [h1, h2, hM, hrows, F10, mRetV, away, mLst, allM, dOf]
end
end Mi
end
section
set_option maxHeartbeats 4000000
namespace Mi
open PySem
structure HasForm (P : Prg) : Prop where
  is_within : P.find "is_within" = some f_is_within
  has_items : P.find "has_items" = some f_has_items
  is_atom : P.find "is_atom" = some f_is_atom
  is_formula_value : P.find "is_formula_value" = some f_is_formula_value
structure HasPar (P : Prg) : Prop extends HasForm P where
  is_said : P.find "is_said" = some f_is_said
  is_parish_value : P.find "is_parish_value" = some f_is_parish_value
  need_parish : P.find "need_parish" = some f_need_parish
section
variable {P : Prg} {st : Store}
theorem within_int (H : HasForm P) {i lo hi : Int} {k : Nat} (hk : 1 ≤ k) : call P k "is_within" [.d (.int i), .d (.int lo), .d (.int hi)] st = .ok (.d (.bool (decide (lo ≤ i) && decide (i ≤ hi)))) st := by
  obtain ⟨k, rfl, _⟩ := fuel (c := 0) hk
  rw [call_eq H.is_within]
  simp [run_of, f_is_within, start, mVar, isinD, isK, mChain, b2_le]
  by_cases c : lo ≤ i <;> simp [c]
theorem has_tup (H : HasForm P) {xs : List D} {lo hi : Int} {k : Nat} (hk : 1 ≤ k) : call P k "has_items" [.d (.tuple xs), .d (.int lo), .d (.int hi)] st = .ok (.d (.bool (decide (lo ≤ xs.length) && decide ((xs.length : Int) ≤ hi)))) st := by
  obtain ⟨k, rfl, _⟩ := fuel (c := 0) hk
  rw [call_eq H.has_items]
  simp [run_of, f_has_items, start, mVar, isinD, isK, mChain, b2_le, b1]
  by_cases c : lo ≤ (xs.length : Int) <;> simp [c]
theorem shares_ok {a b : Int} (h : (a = 1 ∧ b = 2) ∨ (a = 1 ∧ b = 3) ∨ (a = 2 ∧ b = 3)) : b2 .inn (.tuple [.int a, .int b]) (.tuple [.tuple [.int 1, .int 2], .tuple [.int 1, .int 3], .tuple [.int 2, .int 3]]) = some (.bool true) := by
  rcases h with ⟨rfl, rfl⟩ | ⟨rfl, rfl⟩ | ⟨rfl, rfl⟩ <;> kernel_rfl
theorem formula_ok (H : HasForm P) {p q : Nat} : ∀ (f : Fm) (k : Nat) (dp : Nat), f.ok p q → f.dep ≤ dp → f.dep + 2 ≤ k → call P k "is_formula_value" [.d (.int p), .d (.int q), .d f.d, .d (.int dp)] st = .ok (.d (.bool true)) st
  | .fact i, k, dp, h, hd, hk => by
    obtain ⟨k, rfl, hk'⟩ := fuel (c := 2) hk
    obtain ⟨j, rfl, hj⟩ := fuel (c := 1) hk'
    have h : i < p := h
    have hz : ¬ (dp = 0) := by simp only [Fm.dep] at hd; omega
    rw [call_eq H.is_formula_value]
    simp [run_of, f_is_formula_value, start, mVar, Fm.d, hz, has_tup H, idx, isinD, isK, b2, mTup, allM, dOf, items]
    rw [call_eq H.is_atom]
    simp [run_of, f_is_atom, start, mVar, idx, b2, b1, iop, within_int H hj]
    omega
  | .lies i, k, dp, h, hd, hk => by
    obtain ⟨k, rfl, hk'⟩ := fuel (c := 2) hk
    obtain ⟨j, rfl, hj⟩ := fuel (c := 1) hk'
    have h : i < q := h
    have hz : ¬ (dp = 0) := by simp only [Fm.dep] at hd; omega
    rw [call_eq H.is_formula_value]
    simp [run_of, f_is_formula_value, start, mVar, Fm.d, hz, has_tup H, idx, isinD, isK, b2, mTup, allM, dOf, items]
    rw [call_eq H.is_atom]
    simp [run_of, f_is_atom, start, mVar, idx, b2, b1, iop, within_int H hj]
    omega
  | .liars i, k, dp, h, hd, hk | .honest i, k, dp, h, hd, hk => by
    obtain ⟨k, rfl, hk'⟩ := fuel (c := 2) hk
    obtain ⟨j, rfl, hj⟩ := fuel (c := 1) hk'
    have h : 1 ≤ i ∧ i ≤ 4 := h
    have hz : ¬ (dp = 0) := by simp only [Fm.dep] at hd; omega
    rw [call_eq H.is_formula_value]
    simp [run_of, f_is_formula_value, start, mVar, Fm.d, hz, has_tup H, idx, isinD, isK, b2, mTup, allM, dOf, items]
    rw [call_eq H.is_atom]
    simp [run_of, f_is_atom, start, mVar, idx, b2, b1, iop, within_int H hj, mTup, allM, dOf, items, h]
  | .odd, k, dp, h, hd, hk => by
    obtain ⟨k, rfl, hk'⟩ := fuel (c := 2) hk
    obtain ⟨j, rfl, hj⟩ := fuel (c := 1) hk'
    have hz : ¬ (dp = 0) := by simp only [Fm.dep] at hd; omega
    rw [call_eq H.is_formula_value]
    simp [run_of, f_is_formula_value, start, mVar, Fm.d, hz, has_tup H, idx, isinD, isK, b2, mTup, allM, dOf, items]
    rw [call_eq H.is_atom]
    simp [run_of, f_is_atom, start, mVar, idx, b2, b1]
  | .share a b, k, dp, h, hd, hk => by
    obtain ⟨k, rfl, hk'⟩ := fuel (c := 2) hk
    obtain ⟨j, rfl, hj⟩ := fuel (c := 1) hk'
    have h : (a = 1 ∧ b = 2) ∨ (a = 1 ∧ b = 3) ∨ (a = 2 ∧ b = 3) := h
    have hz : ¬ (dp = 0) := by simp only [Fm.dep] at hd; omega
    have ha : 1 ≤ a ∧ a ≤ 3 ∧ 1 ≤ b ∧ b ≤ 3 := by omega
    have e := shares_ok h
    rw [call_eq H.is_formula_value]
    simp [run_of, f_is_formula_value, start, mVar, Fm.d, hz, has_tup H, idx, isinD, isK, mTup, allM, dOf, show ∀ s : Str, b2 .eq (.str "share") (.str s) = some (.bool (PyData.eqv (.str "share") (.str s))) from fun _ => rfl, show b2 .eq (.int dp) (.int 0) = some (.bool false) by simp [b2, hz], show b2 .inn (.str "share") (.tuple [.str "and", .str "or"]) = some (.bool false) by kernel_rfl]
    rw [call_eq H.is_atom]
    simp [run_of, f_is_atom, start, mVar, idx, b1, mLc, mItE, mSlc, mOptI, slc, cut_tail, items, lcGo, tset, wipeE, noExc, within_int H hj, sizeLine_eq, ha, allM, bBool, e, show ∀ s : Str, b2 .eq (.str "share") (.str s) = some (.bool (PyData.eqv (.str "share") (.str s))) from fun _ => rfl, show b2 .eq (.int 3) (.int 3) = some (.bool true) by kernel_rfl]
  | .not f, k, dp, h, hd, hk => by
    obtain ⟨k, rfl, hk'⟩ := fuel (c := f.dep + 2) hk
    obtain ⟨e, rfl⟩ : ∃ e, dp = e + 1 := ⟨dp - 1, by simp only [Fm.dep] at hd; omega⟩
    have hz : ¬ ((e : Int) + 1 = 0) := by omega
    have e1 : (e : Int) + 1 - 1 = (e : Int) := by omega
    have ih := formula_ok H f k e h (by simp only [Fm.dep] at hd; omega) hk'
    rw [call_eq H.is_formula_value]
    simp only [Fm.d]
    simp [run_of, f_is_formula_value, start, mVar, hz, has_tup H (show 1 ≤ k by omega), idx, isinD, isK, b2, b1, iop, e1, ih]
  | .and f g, k, dp, h, hd, hk => by
    obtain ⟨k, rfl, hk'⟩ := fuel (c := max f.dep g.dep + 2) hk
    obtain ⟨e, rfl⟩ : ∃ e, dp = e + 1 := ⟨dp - 1, by simp only [Fm.dep] at hd; omega⟩
    have hz : ¬ ((e : Int) + 1 = 0) := by omega
    have e1 : (e : Int) + 1 - 1 = (e : Int) := by omega
    have ih1 := formula_ok H f k e h.1 (by simp only [Fm.dep] at hd; omega) (by omega)
    have ih2 := formula_ok H g k e h.2 (by simp only [Fm.dep] at hd; omega) (by omega)
    rw [call_eq H.is_formula_value]
    simp only [Fm.d]
    simp [run_of, f_is_formula_value, start, mVar, hz, has_tup H (show 1 ≤ k by omega), idx, isinD, isK, b2, b1, iop, e1, ih1, ih2, mTup, allM, dOf, items, mLc, mItE, mSlc, mOptI, slc, cut_tail, lcGo, tset, wipeE, noExc, sizeLine_eq, bBool]
  | .or f g, k, dp, h, hd, hk => by
    obtain ⟨k, rfl, hk'⟩ := fuel (c := max f.dep g.dep + 2) hk
    obtain ⟨e, rfl⟩ : ∃ e, dp = e + 1 := ⟨dp - 1, by simp only [Fm.dep] at hd; omega⟩
    have hz : ¬ ((e : Int) + 1 = 0) := by omega
    have e1 : (e : Int) + 1 - 1 = (e : Int) := by omega
    have ih1 := formula_ok H f k e h.1 (by simp only [Fm.dep] at hd; omega) (by omega)
    have ih2 := formula_ok H g k e h.2 (by simp only [Fm.dep] at hd; omega) (by omega)
    rw [call_eq H.is_formula_value]
    simp only [Fm.d]
    simp [run_of, f_is_formula_value, start, mVar, hz, has_tup H (show 1 ≤ k by omega), idx, isinD, isK, b2, b1, iop, e1, ih1, ih2, mTup, allM, dOf, items, mLc, mItE, mSlc, mOptI, slc, cut_tail, lcGo, tset, wipeE, noExc, sizeLine_eq, bBool]
theorem said_ok (H : HasPar P) {p q : Nat} {o : Option Fm} {k : Nat} (h : ∀ f, o = some f → f.ok p q ∧ f.dep ≤ 3) (hk : 6 ≤ k) : call P k "is_said" [.d (.int p), .d (.int q), .d (sd o)] st = .ok (.d (.bool true)) st := by
  obtain ⟨k, rfl, hk'⟩ := fuel (c := 5) hk
  rw [call_eq H.is_said]
  cases o with
  | none => simp [run_of, f_is_said, start, mVar, isD]
  | some f =>
    obtain ⟨h1, h2⟩ := h f rfl
    have r := formula_ok H.toHasForm (st := st) f k 3 h1 h2 (by omega)
    have q' : call P k "is_formula_value" [.d (.int p), .d (.int q), .d f.d, .d (.int 3)] st = .ok (.d (.bool true)) st := r
    simp [run_of, f_is_said, start, mVar, fmd_not_none, q']
theorem allM_true {α : Type} : ∀ l : List α, allM bBool (l.map fun _ => PyData.bool true) = some (l.map fun _ => true)
  | [] => rfl
  | _ :: l => by simp [allM, bBool, allM_true l]
theorem parish_value_ok (H : HasPar P) {p : Par} (ok : p.ok) {k : Nat} (hk : 7 ≤ k) : call P k "is_parish_value" [.d p.d] st = .ok (.d (.bool true)) st := by
  obtain ⟨k, rfl, hk'⟩ := fuel (c := 6) hk
  rw [call_eq H.is_parish_value]
  have l0 := ok.len
  have l1 := ok.facts
  have q1 : ∀ o ∈ p.singles, call P k "is_said" [.d (.int p.facts), .d (.int p.singles.length), .d (sd o)] st = .ok (.d (.bool true)) st := fun o ho => said_ok H (fun f e => ok.each f (e ▸ ho)) hk'
  have q2 := said_ok H (st := st) (o := p.crowd) ok.crowd hk'
  have h := lc_mapT (t := .nm 5) (me := evE (call P k) (.call false "is_said" [(.var 1), (.bi .len (.var 2)), (.var 5)])) (env := [some (.d p.d), some (.d (.int p.facts)), some (.d (.tuple (p.singles.map sd))), some (.d (sd p.crowd)), some (.d (md p.most)), none]) (st := st) (enc := sd) (g := fun _ => .bool true) p.singles [] (fun o ho => ⟨_, rfl, by simp [mVar, b1, q1 o ho]⟩) (by rw [sizeLine_eq]; simp only [List.length_nil]; omega)
  have e0 : (0 : Int) ≤ p.facts ∧ (p.facts : Int) ≤ 2 := by omega
  have e2 : (p.singles.length : Int) ≤ 3 := by omega
  simp only [Par.d] at h
  simp [run_of, f_is_parish_value, start, mVar, Par.d, has_tup H.toHasForm (show 1 ≤ k by omega), within_int H.toHasForm (show 1 ≤ k by omega), idx, e0, e2, mAsg, tset, setAll, mLc, mItE, items, wipeE] at h ⊢
  rw [show (List.map (fun x => PyData.bool true) p.singles) = p.singles.map fun _ => PyData.bool true from rfl] at h
  simp [h, noExc, b1, allM_true, q2]
  cases hmo : p.most with
  | none => simp [mVar, isD, b1, q2]
  | some m =>
    obtain ⟨m1, m2⟩ := ok.most m hmo
    simp [mVar, isD, b1, q2, within_int H.toHasForm (show 1 ≤ k by omega), m1, m2]
theorem need_parish_ok (H : HasPar P) {p : Par} (ok : p.ok) {k : Nat} (hk : 8 ≤ k) : call P k "need_parish" [.d p.d] st = .ok (.d .none) st := by
  obtain ⟨k, rfl, hk'⟩ := fuel (c := 7) hk
  rw [call_eq H.need_parish]
  simp [run_of, f_need_parish, start, mVar, parish_value_ok H ok hk']
structure HasWorld (P : Prg) : Prop extends HasPar P, HasNum P where
  need_number : P.find "need_number" = some f_need_number
  count_worlds : P.find "count_worlds" = some f_count_worlds
  some_world : P.find "some_world" = some f_some_world
theorem need_number_ok (H : HasForm P) (hN : P.find "need_number" = some f_need_number) {i lo hi : Int} (h : lo ≤ i ∧ i ≤ hi) {k : Nat} (hk : 2 ≤ k) : call P k "need_number" [.d (.int i), .d (.int lo), .d (.int hi)] st = .ok (.d .none) st := by
  obtain ⟨k, rfl, hk'⟩ := fuel (c := 1) hk
  rw [call_eq hN]
  simp [run_of, f_need_number, start, mVar, within_int H hk', h]
theorem great_small {n : Int} (h0 : 0 ≤ n) (h1 : n ≤ 10 ^ 30) : n.natAbs < 2 ^ 199 := by
  have e1 : (10 : Nat) ^ 30 < 2 ^ 199 := by decide
  have e2 : ((10 : Int) ^ 30) = (((10 : Nat) ^ 30 : Nat) : Int) := by decide
  rw [e2] at h1
  omega
theorem e30 {n : Int} (h : n ≤ 10 ^ 30) : n ≤ 1000000000000000000000000000000 := by
  have e : (10 : Int) ^ 30 = 1000000000000000000000000000000 := by decide
  rw [e] at h
  exact h
theorem count_worlds_ok (H : HasWorld P) {p : Par} (ok : p.ok) {n : Int} (h0 : 0 ≤ n) (h1 : n ≤ 10 ^ 30) {k : Nat} (hk : 9 ≤ k) : call P k "count_worlds" [.d p.d, .d (.int n)] st = .ok (.d (.int (p.number n))) st := by
  obtain ⟨k, rfl, hk'⟩ := fuel (c := 8) hk
  rw [call_eq H.count_worlds]
  have q1 := need_parish_ok H.toHasPar (st := st) ok hk'
  have q2 := need_number_ok H.toHasForm (st := st) H.need_number (i := n) (lo := 0) (hi := 1000000000000000000000000000000) ⟨h0, e30 h1⟩ (k := k) (by omega)
  have q3 := number_of_ok H.toHasNum (st := st) ok (great_small h0 h1) (k := k) (by omega)
  simp [run_of, f_count_worlds, start, mVar, q1, q2, q3]
theorem some_world_ok (H : HasWorld P) {p : Par} (ok : p.ok) {n : Int} (h0 : 0 ≤ n) (h1 : n ≤ 10 ^ 30) {k : Nat} (hk : 9 ≤ k) : call P k "some_world" [.d p.d, .d (.int n)] st = .ok (.d (od (p.first n))) st := by
  obtain ⟨k, rfl, hk'⟩ := fuel (c := 8) hk
  rw [call_eq H.some_world]
  have q1 := need_parish_ok H.toHasPar (st := st) ok hk'
  have q2 := need_number_ok H.toHasForm (st := st) H.need_number (i := n) (lo := 0) (hi := 1000000000000000000000000000000) ⟨h0, e30 h1⟩ (k := k) (by omega)
  have q3 := first_world_ok H.toHasNum (st := st) ok (great_small h0 h1) (k := k) (by omega)
  simp [run_of, f_some_world, start, mVar, q1, q2, q3]
structure HasPoss (P : Prg) : Prop extends HasPar P, HasCan P where
  need_number : P.find "need_number" = some f_need_number
  is_world_value : P.find "is_world_value" = some f_is_world_value
  need_world : P.find "need_world" = some f_need_world
  is_possible : P.find "is_possible" = some f_is_possible
theorem isB_all (l : List Bool) : allM bBool ((l.map PyData.bool).map fun _ => PyData.bool true) = some ((l.map PyData.bool).map fun _ => true) := allM_true _
theorem world_value_ok (H : HasForm P) (hW : P.find "is_world_value" = some f_is_world_value) {p : Par} (ok : p.ok) {t : Tr} {n : Int} (hf : t.fs.length = p.facts) (hl : t.ls.length = p.singles.length) (hm : 0 ≤ t.m ∧ t.m ≤ n) {k : Nat} (hk : 2 ≤ k) :
    call P k "is_world_value" [.d p.d, .d (.int n), .d t.d] st = .ok (.d (.bool true)) st := by
  obtain ⟨k, rfl, hk'⟩ := fuel (c := 1) hk
  rw [call_eq hW]
  have l0 := ok.len
  have l1 := ok.facts
  have eadd : b2 .add (bD t.fs) (bD t.ls) = some (bD (t.fs ++ t.ls)) := by
    show (if (t.fs.map PyData.bool).length + (t.ls.map PyData.bool).length ≤ sizeLine then some (PyData.tuple (t.fs.map PyData.bool ++ t.ls.map PyData.bool)) else none) = _
    rw [List.length_map, List.length_map, if_pos (by rw [sizeLine_eq]; omega), ← List.map_append]
    rfl
  have h := lc_mapT (t := .nm 3) (me := evE (call P k) (.isin (.var 3) [.bool])) (env := [some (.d p.d), some (.d (.int n)), some (.d t.d), none]) (st := st) (enc := PyData.bool) (g := fun _ => .bool true) (t.fs ++ t.ls) [] (fun o ho => ⟨_, rfl, by simp [mVar, isinD, isK]⟩) (by rw [sizeLine_eq, List.length_append]; simp only [List.length_nil]; omega)
  simp only [Par.d, Tr.d, bD] at h eadd
  simp [run_of, f_is_world_value, start, mVar, Par.d, Tr.d, bD, has_tup H hk', within_int H hk', idx, hm, hf, hl, b1, mLc, mItE, wipeE] at h eadd ⊢
  simp [eadd, items, h, noExc, hf, hl]
  rw [show t.fs.map (fun _ => PyData.bool true) ++ t.ls.map (fun _ => PyData.bool true) = (t.fs ++ t.ls).map fun _ => PyData.bool true by rw [List.map_append], allM_true]
  simp
theorem is_possible_ok (H : HasPoss P) {p : Par} (ok : p.ok) {t : Tr} {n : Int} (h0 : 0 ≤ n) (h1 : n ≤ 10 ^ 30) (hf : t.fs.length = p.facts) (hl : t.ls.length = p.singles.length) (hm : 0 ≤ t.m ∧ t.m ≤ n) {k : Nat} (hk : 9 ≤ k) :
    call P k "is_possible" [.d p.d, .d (.int n), .d t.d] st = .ok (.d (.bool (p.can t.fs t.ls t.m n))) st := by
  obtain ⟨k, rfl, hk'⟩ := fuel (c := 8) hk
  rw [call_eq H.is_possible]
  have e200 : (2 : Nat) ^ 200 = 2 * 2 ^ 199 := by rw [← Nat.pow_succ']
  have hn := great_small h0 h1
  have q1 := need_parish_ok H.toHasPar (st := st) ok hk'
  have q2 := need_number_ok H.toHasForm (st := st) H.need_number (i := n) (lo := 0) (hi := 1000000000000000000000000000000) ⟨h0, e30 h1⟩ (k := k) (by omega)
  have q3 : call P k "need_world" [.d p.d, .d (.int n), .d t.d] st = .ok (.d .none) st := by
    obtain ⟨j, rfl, hj⟩ := fuel (c := 7) hk'
    rw [call_eq H.need_world]
    simp [run_of, f_need_world, start, mVar, world_value_ok H.toHasForm H.is_world_value (st := st) ok hf hl hm (k := j) (by omega)]
  have q4 := can_be_ok H.toHasCan (st := st) (p := p) (fs := t.fs) (ls := t.ls) (m := t.m) (n := n) (by unfold Sm; omega) (by unfold Sm; omega) (by unfold Sm; omega) (by unfold Sm; omega) ok hf hl (k := k) (by omega)
  simp only [Tr.d] at q3 ⊢
  simp [run_of, f_is_possible, start, mVar, q1, q2, q3, idx, q4]
end
end Mi
end
section
set_option maxHeartbeats 4000000
namespace Mi
open PySem
/-- a deck that was drawn from at most b times -/
def Dk (b : Nat) (c : List D) : Prop := ∃ c0 c1 c2 : Int, c = [.int c0, .int c1, .int c2] ∧ 0 ≤ c1 ∧ c1 < 2 ^ 31 ∧ 0 ≤ c2 ∧ c2 ≤ b
theorem Dk.more {b b' : Nat} {c : List D} (h : Dk b c) (e : b ≤ b') : Dk b' c := by
  obtain ⟨c0, c1, c2, rfl, h1, h2, h3, h4⟩ := h
  exact ⟨c0, c1, c2, rfl, h1, h2, h3, by omega⟩
/-- what a def that draws does: a value that Q holds of, the deck at k drawn from at most a times more -/
def Draws (P : Prg) (n : Nat) (f : Str) (vs : List Val) (k a : Nat) (Q : D → Prop) : Prop := ∀ (st : Store) (b : Nat) (c : List D), b + a ≤ 1000000 → st[k]? = some (.lst c) → Dk b c → ∃ v c', call P n f vs st = .ok (.d v) (st.set k (.lst c')) ∧ Dk (b + a) c' ∧ Q v
theorem take_set (st : Store) (k : Nat) (c : Cell) : (st.set k c).take st.length = st.set k c := List.take_of_length_le (by simp)
theorem get_lt {st : Store} {k : Nat} {c : Cell} (h : st[k]? = some c) : k < st.length := (List.getElem?_eq_some_iff.mp h).1
structure HasDeck (P : Prg) : Prop where
  pick : P.find "_law_pick" = some f_law_pick
  one : P.find "_law_one" = some f_law_one
section
variable {P : Prg}
theorem b2_mod {i j : Int} (h : 0 < j) : b2 .mod (.int i) (.int j) = some (.int (i % j)) := by
  show (if 0 < j then some (PyData.int (i % j)) else none) = _
  rw [if_pos h]
theorem b2_fdiv {i j : Int} (h : 0 < j) (h2 : j.natAbs.log2 < 9000) : b2 .fdiv (.int i) (.int j) = some (.int (i / j)) := by
  show (if 0 < j ∧ j.natAbs.log2 < 9000 then some (PyData.int (i / j)) else none) = _
  rw [if_pos ⟨h, h2⟩]
theorem b2_pow {i : Int} {j : Nat} (h : j ≤ 1000000) (h2 : i.natAbs < 2 ^ 64) : b2 .pow (.int i) (.int (j : Nat)) = some (.int (i ^ j)) := by
  show (if 0 ≤ (j : Int) ∧ (j : Int) ≤ 1000000 ∧ i.natAbs < 2 ^ 64 then some (PyData.int (i ^ ((j : Int).toNat))) else none) = _
  rw [if_pos ⟨by omega, by omega, h2⟩]
  rfl
theorem b2_muls {i j : Int} (h : i.natAbs < 2 ^ 200) (h' : j.natAbs < 2 ^ 200) : b2 .mul (.int i) (.int j) = some (.int (i * j)) := sm_mul h h'
theorem ix0 {α : Type} (a b c : α) : L2.ixN [a, b, c].length 0 = some 0 := rfl
theorem ix2 {α : Type} (a b c : α) : L2.ixN [a, b, c].length 2 = some 2 := rfl
theorem pick_ok (H : HasDeck P) {s : Int} (hs : 0 < s) (hs2 : s.natAbs.log2 < 9000) {k n : Nat} (hn : 1 ≤ n) : Draws P n "_law_pick" [.ref k, .d (.int s)] k 1 fun v => ∃ r : Int, v = .int r ∧ 0 ≤ r ∧ r < s := by
  intro st b c hb hc hD
  obtain ⟨n, rfl, _⟩ := fuel (c := 0) hn
  obtain ⟨c0, c1, c2, rfl, h1, h2, h3, h4⟩ := hD
  have hk := get_lt hc
  have hset : ∀ c : Cell, (st.set k c)[k]? = some c := fun c => List.getElem?_set_self hk
  rw [call_eq H.pick]
  by_cases c : 1 < c0
  · refine ⟨.int (c0 % s), [.int (c0 / s), .int c1, .int c2], ?_, ⟨_, _, _, rfl, h1, h2, h3, by omega⟩, _, rfl, Int.emod_nonneg _ (by omega), Int.emod_lt_of_pos _ hs⟩
    simp [run_of, f_law_pick, start, mVar, vw, hc, idx, b2_gt, c, b1, b2_mod hs, mSeti, b2_fdiv hs hs2, L2.ixN, take_set]
  · have g1 : (2147483647 : Int) > 0 := by decide
    have e31 : (2 : Int) ^ 31 = 2147483648 := by decide
    have e64 : (2 : Nat) ^ 64 = 18446744073709551616 := by decide
    have e200 : (2 : Nat) ^ 64 ≤ 2 ^ 200 := Nat.pow_le_pow_right (by decide) (by decide)
    have sm : ∀ i : Int, i.natAbs < 2 ^ 64 → i.natAbs < 2 ^ 200 := fun i h => Nat.lt_of_lt_of_le h e200
    have m1 := b2_muls (sm 15485867 (by decide)) (sm (c2 + 1) (by omega))
    have m2 := b2_muls (sm 7919 (by decide)) (sm (c2 + 1) (by omega))
    have p1 := b2_pow (i := c1 + 15485867 * (c2 + 1)) (j := 5) (by decide) (by omega)
    have d1 := b2_mod (i := (c1 + 15485867 * (c2 + 1)) ^ 5) (j := 2147483647) (by decide)
    have r1 := Int.emod_nonneg ((c1 + 15485867 * (c2 + 1)) ^ 5) (show (2147483647 : Int) ≠ 0 by decide)
    have r2 := Int.emod_lt_of_pos ((c1 + 15485867 * (c2 + 1)) ^ 5) (show (0 : Int) < 2147483647 by decide)
    generalize (c1 + 15485867 * (c2 + 1)) ^ 5 = u at p1 d1 r1 r2
    generalize u % 2147483647 = w at d1 r1 r2
    have p2 := b2_pow (i := w + 7919 * (c2 + 1)) (j := 3) (by decide) (by omega)
    generalize (w + 7919 * (c2 + 1)) ^ 3 = x at p2
    refine ⟨.int (x % 2147483629 / 32 % s), [.int c0, .int c1, .int (c2 + 1)], ?_, ⟨_, _, _, rfl, h1, h2, by omega, by omega⟩, _, rfl, Int.emod_nonneg _ (by omega), Int.emod_lt_of_pos _ hs⟩
    have p1' : b2 .pow (.int (c1 + 15485867 * (c2 + 1))) (.int 5) = some (.int u) := p1
    have p2' : b2 .pow (.int (w + 7919 * (c2 + 1))) (.int 3) = some (.int x) := p2
    simp [run_of, f_law_pick, start, mVar, vw, hc, hset, idx, b2_gt, c, b1, b2_add, mSeti, L2.ixN, m1, m2, p1', d1, p2', b2_mod (i := x) (j := 2147483629) (by decide), b2_fdiv (i := x % 2147483629) (j := 32) (by decide) (by decide), b2_mod hs, take_set]
theorem at_mem {α : Type} {xs : List α} {r : Int} (h0 : 0 ≤ r) (h1 : r < xs.length) : ∃ x ∈ xs, L2.atI xs r = some x := by
  obtain ⟨j, rfl⟩ : ∃ j : Nat, r = j := ⟨r.toNat, by omega⟩
  have hj : j < xs.length := by omega
  exact ⟨xs[j], List.getElem_mem hj, at_nat hj⟩
theorem log_small {s : Nat} (h : s ≤ 1000000) : ((s : Nat) : Int).natAbs.log2 < 9000 := by
  rw [Int.natAbs_natCast]
  by_cases h0 : s = 0
  · rw [h0]; decide
  · have : s < 2 ^ 20 := by omega
    have := (Nat.log2_lt h0).mpr this
    omega
theorem one_gen (H : HasDeck P) {st : Store} {k b n : Nat} {c xs : List D} {v : Val} (hb : b + 1 ≤ 1000000) (hc : st[k]? = some (.lst c)) (hD : Dk b c) (h1 : vw st v = some (.list xs)) (h2 : ∀ c, vw (st.set k (.lst c)) v = some (.list xs)) (hx : xs ≠ []) (hl : xs.length ≤ 1000000) (hn : 2 ≤ n) :
    ∃ x ∈ xs, ∃ c', call P n "_law_one" [.ref k, v] st = .ok (.d x) (st.set k (.lst c')) ∧ Dk (b + 1) c' := by
  obtain ⟨n, rfl, hn'⟩ := fuel (c := 1) hn
  have hp : 0 < xs.length := List.length_pos_iff.mpr hx
  obtain ⟨w, c', q, d, r, rfl, r1, r2⟩ := pick_ok H (s := (xs.length : Nat)) (by omega) (log_small hl) (k := k) hn' st b c hb hc hD
  obtain ⟨x, hm, hxi⟩ := at_mem r1 r2
  refine ⟨x, hm, c', ?_, d⟩
  rw [call_eq H.one]
  simp [run_of, f_law_one, start, mVar, h1, h2, b1, q, idx, hxi, take_set]
structure HasDraw (P : Prg) : Prop extends HasDeck P where
  atom : P.find "_law_atom" = some f_law_atom
  formula : P.find "_law_formula" = some f_law_formula
  said : P.find "_law_said" = some f_law_said
  parish : P.find "_law_parish" = some f_law_parish
/-- one of these atoms -/
def AtD (p q : Nat) (v : D) : Prop := ∃ f : Fm, v = f.d ∧ f.ok p q ∧ f.dep = 1
theorem set_app {st : Store} {k : Nat} {x : Cell} {ys : List Cell} (h : k < st.length) : (st ++ ys).set k x = st.set k x ++ ys := List.set_append_left _ _ h
theorem get_app {st : Store} {k : Nat} {ys : List Cell} (h : k < st.length) : (st ++ ys)[k]? = st[k]? := List.getElem?_append_left h
/-- a def's frame: the deck, then cells of its own -/
def Tc (st : Store) (k : Nat) (c : List D) (ys : List Cell) : Store := st.set k (.lst c) ++ ys
section
variable {st : Store} {k : Nat} {c c' : List D} {ys : List Cell}
theorem Tc_deck (h : k < st.length) : (Tc st k c ys)[k]? = some (.lst c) := by
  unfold Tc
  rw [List.getElem?_append_left (by simpa using h)]
  exact List.getElem?_set_self h
theorem Tc_set (h : k < st.length) : (Tc st k c ys).set k (.lst c') = Tc st k c' ys := by
  unfold Tc
  rw [List.set_append_left _ _ (by simpa using h), List.set_set]
theorem Tc_own (j : Nat) : (Tc st k c ys)[st.length + j]? = ys[j]? := by
  unfold Tc
  rw [List.getElem?_append_right (by simp)]
  simp
theorem Tc_put (j : Nat) (x : Cell) : (Tc st k c ys).set (st.length + j) x = Tc st k c (ys.set j x) := by
  unfold Tc
  rw [List.set_append_right _ _ (by simp)]
  simp
theorem Tc_push (x : Cell) : Tc st k c ys ++ [x] = Tc st k c (ys ++ [x]) := by
  unfold Tc
  rw [List.append_assoc]
theorem Tc_len : (Tc st k c ys).length = st.length + ys.length := by
  unfold Tc
  simp
theorem Tc_take : (Tc st k c ys).take st.length = st.set k (.lst c) := by
  unfold Tc
  rw [List.take_append_of_le_length (by simp)]
  exact take_set st k _
theorem Tc_nil : st.set k (.lst c) = Tc st k c [] := by
  unfold Tc
  rw [List.append_nil]
end
end
end Mi
end
section
set_option maxHeartbeats 4000000
namespace Mi
open PySem
section
variable {P : Prg}
/-- a draw inside a def's frame -/
theorem Draws.in {n : Nat} {f : Str} {vs : List Val} {k a : Nat} {Q : D → Prop} (h : Draws P n f vs k a Q) {st : Store} {c : List D} {ys : List Cell} {b : Nat} (hk : k < st.length) (hb : b + a ≤ 1000000) (hD : Dk b c) : ∃ v c', call P n f vs (Tc st k c ys) = .ok (.d v) (Tc st k c' ys) ∧ Dk (b + a) c' ∧ Q v := by
  obtain ⟨v, c', q, d, r⟩ := h (Tc st k c ys) b c hb (Tc_deck hk) hD
  rw [Tc_set hk] at q
  exact ⟨v, c', q, d, r⟩
def shareD : List D := [Fm.d (.share 1 2), Fm.d (.share 1 3), Fm.d (.share 2 3)]
theorem atom_ok (H : HasDraw P) {p q k n : Nat} (hp : p ≤ 2) (hq : q ≤ 3) (hn : 3 ≤ n) : Draws P n "_law_atom" [.ref k, .d (.int p), .d (.int q)] k 6 (AtD p q) := by
  intro st b c hb hc hD
  obtain ⟨n, rfl, hn'⟩ := fuel (c := 2) hn
  have hk := get_lt hc
  have pk := fun (s : Int) (h1 : 0 < s) (h2 : s.natAbs.log2 < 9000) => pick_ok H.toHasDeck (s := s) h1 h2 (k := k) (n := n) (by omega)
  have hst0 : st = Tc st k c [] := by
    unfold Tc
    rw [List.append_nil]
    exact (List.ext_getElem? fun j => by
      by_cases h : k = j
      · subst h; rw [List.getElem?_set_self hk, hc]
      · rw [List.getElem?_set_ne h])
  obtain ⟨w1, d1, q1, e1, r1, rfl, r1a, r1b⟩ := (pk 4 (by decide) (by decide)).in (ys := []) hk (by omega) hD
  obtain ⟨w2, d2, q2, e2, r2, rfl, r2a, r2b⟩ := (pk 4 (by decide) (by decide)).in (ys := []) hk (by omega) e1
  rw [← hst0] at q1
  have L0ok : ∀ x ∈ [Fm.d .odd, Fm.d (.liars (1 + r1)), Fm.d (.honest (1 + r2))], AtD p q x := fun x hx => by
    have hx : x = Fm.d .odd ∨ x = Fm.d (.liars (1 + r1)) ∨ x = Fm.d (.honest (1 + r2)) := by simpa using hx
    rcases hx with e | e | e
    · exact ⟨_, e, trivial, rfl⟩
    · exact ⟨_, e, ⟨by omega, by omega⟩, rfl⟩
    · exact ⟨_, e, ⟨by omega, by omega⟩, rfl⟩
  have s1 : evS (call P n) (.newl 3 (.lst [(.tup [(.cst (.str "odd"))]), (.tup [(.cst (.str "liars")), (.bin .add (.cst (.int 1)) (.call false "_law_pick" [(.var 0), (.cst (.int 4))]))]), (.tup [(.cst (.str "honest")), (.bin .add (.cst (.int 1)) (.call false "_law_pick" [(.var 0), (.cst (.int 4))]))])])) [some (.ref k), some (.d (.int p)), some (.d (.int q)), none] st =
      .ok (.nx [some (.ref k), some (.d (.int p)), some (.d (.int q)), some (.ref (st.length + 0))]) (Tc st k d2 [.lst [Fm.d .odd, Fm.d (.liars (1 + r1)), Fm.d (.honest (1 + r2))]]) := by
    simp [mNewl, mLst, mTup, allM, dOf, mVar, q1, q2, b2_add, Tc_len, Tc_push, Fm.d]
  obtain ⟨x3, hx3, d3, q3, e3⟩ := one_gen H.toHasDeck (st := Tc st k d2 [.lst [Fm.d .odd, Fm.d (.liars (1 + r1)), Fm.d (.honest (1 + r2))]]) (k := k) (b := b + 1 + 1) (n := n) (c := d2) (xs := shareD) (v := .d (.list shareD)) (by omega) (Tc_deck hk) e2 rfl (fun _ => rfl) (by simp [shareD]) (by simp [shareD]) hn'
  rw [Tc_set hk] at q3
  have s2 : evS (call P n) (.app 3 (.call false "_law_one" [(.var 0), (.lst [(.tup [(.cst (.str "share")), (.cst (.int 1)), (.cst (.int 2))]), (.tup [(.cst (.str "share")), (.cst (.int 1)), (.cst (.int 3))]), (.tup [(.cst (.str "share")), (.cst (.int 2)), (.cst (.int 3))])])])) [some (.ref k), some (.d (.int p)), some (.d (.int q)), some (.ref (st.length + 0))] (Tc st k d2 [.lst [Fm.d .odd, Fm.d (.liars (1 + r1)), Fm.d (.honest (1 + r2))]]) =
      .ok (.nx [some (.ref k), some (.d (.int p)), some (.d (.int q)), some (.ref (st.length + 0))]) (Tc st k d3 [.lst [Fm.d .odd, Fm.d (.liars (1 + r1)), Fm.d (.honest (1 + r2)), x3]]) := by
    have q3' : call P n "_law_one" [.ref k, .d (.list [.tuple [.str "share", .int 1, .int 2], .tuple [.str "share", .int 1, .int 3], .tuple [.str "share", .int 2, .int 3]])] (Tc st k d2 [.lst [Fm.d .odd, Fm.d (.liars (1 + r1)), Fm.d (.honest (1 + r2))]]) = .ok (.d x3) (Tc st k d3 [.lst [Fm.d .odd, Fm.d (.liars (1 + r1)), Fm.d (.honest (1 + r2))]]) := q3
    have g := Tc_own (st := st) (k := k) (c := d3) (ys := [.lst [Fm.d .odd, Fm.d (.liars (1 + r1)), Fm.d (.honest (1 + r2))]]) 0
    have pt := Tc_put (st := st) (k := k) (c := d3) (ys := [.lst [Fm.d .odd, Fm.d (.liars (1 + r1)), Fm.d (.honest (1 + r2))]]) 0 (.lst [Fm.d .odd, Fm.d (.liars (1 + r1)), Fm.d (.honest (1 + r2)), x3])
    simp only [Nat.add_zero] at g pt ⊢
    simp [mApp, mLst, mTup, allM, dOf, mVar, q3', g, pt, sizeLine_eq]
  have L1ok : ∀ x ∈ [Fm.d .odd, Fm.d (.liars (1 + r1)), Fm.d (.honest (1 + r2)), x3], AtD p q x := fun x hx => by
    rcases List.mem_append.mp (show x ∈ [Fm.d .odd, Fm.d (.liars (1 + r1)), Fm.d (.honest (1 + r2))] ++ [x3] from hx) with z | z
    · exact L0ok x z
    · have : x = x3 := by simpa using z
      subst this
      have hx3 : x = Fm.d (.share 1 2) ∨ x = Fm.d (.share 1 3) ∨ x = Fm.d (.share 2 3) := by simpa [shareD] using hx3
      rcases hx3 with e | e | e
      · exact ⟨_, e, .inl ⟨rfl, rfl⟩, rfl⟩
      · exact ⟨_, e, .inr (.inl ⟨rfl, rfl⟩), rfl⟩
      · exact ⟨_, e, .inr (.inr ⟨rfl, rfl⟩), rfl⟩
  generalize hL1 : [Fm.d .odd, Fm.d (.liars (1 + r1)), Fm.d (.honest (1 + r2)), x3] = L1 at L1ok s2
  have l1 : L1.length = 4 := by rw [← hL1]; rfl
  have s3 : ∃ d4 L2, evS (call P n) (.iff (.bin .gt (.var 1) (.cst (.int 0))) [.app 3 (.tup [(.cst (.str "fact")), (.call false "_law_pick" [(.var 0), (.var 1)])])] []) [some (.ref k), some (.d (.int p)), some (.d (.int q)), some (.ref (st.length + 0))] (Tc st k d3 [.lst L1]) =
      .ok (.nx [some (.ref k), some (.d (.int p)), some (.d (.int q)), some (.ref (st.length + 0))]) (Tc st k d4 [.lst L2]) ∧ Dk (b + 1 + 1 + 1 + 1) d4 ∧ (∀ x ∈ L2, AtD p q x) ∧ 4 ≤ L2.length ∧ L2.length ≤ 5 := by
    by_cases c1 : 0 < p
    · have c1i : 0 < (p : Int) := by omega
      obtain ⟨w4, d4, q4, e4, r4, rfl, r4a, r4b⟩ := (pk p c1i (log_small (by omega))).in (ys := [.lst L1]) hk (by omega) e3
      have g := Tc_own (st := st) (k := k) (c := d4) (ys := [.lst L1]) 0
      have pt := Tc_put (st := st) (k := k) (c := d4) (ys := [.lst L1]) 0 (.lst (L1 ++ [.tuple [.str "fact", .int r4]]))
      simp only [Nat.add_zero] at g pt ⊢
      refine ⟨d4, L1 ++ [.tuple [.str "fact", .int r4]], ?_, e4, fun x hx => ?_, by simp [l1], by simp [l1]⟩
      · have hA : L1.length < 16777216 := by omega
        simp [mVar, b2_gt, c1, mApp, mTup, allM, dOf, q4, g, pt, sizeLine_eq, hA]
      · rcases List.mem_append.mp hx with z | z
        · exact L1ok x z
        · obtain ⟨i, hi⟩ : ∃ i : Nat, r4 = i := ⟨r4.toNat, by omega⟩
          refine ⟨.fact i, ?_, show i < p by omega, rfl⟩
          have : x = .tuple [.str "fact", .int r4] := by simpa using z
          rw [this, hi]
          rfl
    · refine ⟨d3, L1, ?_, e3.more (by omega), L1ok, by omega, by omega⟩
      simp [mVar, b2_gt, show ¬ (0 < p) from c1]
  obtain ⟨d4, L2, s3, e4, L2ok, l2a, l2b⟩ := s3
  have s4 : ∃ d5 j ys L3, evS (call P n) (.iff (.bin .gt (.var 2) (.cst (.int 0))) [.newl 3 (.bin .add (.var 3) (.rep [(.tup [(.cst (.str "lies")), (.call false "_law_pick" [(.var 0), (.var 2)])])] (.cst (.int 2))))] []) [some (.ref k), some (.d (.int p)), some (.d (.int q)), some (.ref (st.length + 0))] (Tc st k d4 [.lst L2]) =
      .ok (.nx [some (.ref k), some (.d (.int p)), some (.d (.int q)), some (.ref (st.length + j))]) (Tc st k d5 ys) ∧ Dk (b + 1 + 1 + 1 + 1 + 1) d5 ∧ ys[j]? = some (.lst L3) ∧ (∀ x ∈ L3, AtD p q x) ∧ L3 ≠ [] ∧ L3.length ≤ 7 := by
    by_cases c1 : 0 < q
    · have c1i : 0 < (q : Int) := by omega
      obtain ⟨w5, d5, q5, e5, r5, rfl, r5a, r5b⟩ := (pk q c1i (log_small (by omega))).in (ys := [.lst L2]) hk (by omega) e4
      have g := Tc_own (st := st) (k := k) (c := d5) (ys := [.lst L2]) 0
      simp only [Nat.add_zero] at g ⊢
      refine ⟨d5, 1, [.lst L2, .lst (L2 ++ [.tuple [.str "lies", .int r5], .tuple [.str "lies", .int r5]])], L2 ++ [.tuple [.str "lies", .int r5], .tuple [.str "lies", .int r5]], ?_, e5, rfl, fun x hx => ?_, by simp, by simp; omega⟩
      · have hr : repD (.list [.tuple [.str "lies", .int r5]]) (.int 2) = some (.list [.tuple [.str "lies", .int r5], .tuple [.str "lies", .int r5]]) := by rfl
        have hA : b2 .add (.list L2) (.list [.tuple [.str "lies", .int r5], .tuple [.str "lies", .int r5]]) = some (.list (L2 ++ [.tuple [.str "lies", .int r5], .tuple [.str "lies", .int r5]])) := by
          show (if L2.length + 2 ≤ sizeLine then some (PyData.list (L2 ++ [.tuple [.str "lies", .int r5], .tuple [.str "lies", .int r5]])) else none) = _
          rw [if_pos (by rw [sizeLine_eq]; omega)]
        have hv : vw (Tc st k d5 [.lst L2]) (.ref st.length) = some (.list L2) := by
          show (match (Tc st k d5 [.lst L2])[st.length]? with
            | some (.lst xs) => some (PyData.list xs)
            | none => none) = _
          rw [g]
          rfl
        simp [mVar, b2_gt, c1, mNewl, mLst, mTup, allM, dOf, q5, hv, hr, hA, Tc_len, Tc_push]
      · rcases List.mem_append.mp hx with z | z
        · exact L2ok x z
        · obtain ⟨i, hi⟩ : ∃ i : Nat, r5 = i := ⟨r5.toNat, by omega⟩
          refine ⟨.lies i, ?_, show i < q by omega, rfl⟩
          have : x = .tuple [.str "lies", .int r5] := by simpa using z
          rw [this, hi]
          rfl
    · refine ⟨d4, 0, [.lst L2], L2, ?_, e4.more (by omega), rfl, L2ok, fun z => by rw [z] at l2a; simp at l2a, by omega⟩
      simp [mVar, b2_gt, show ¬ (0 < q) from c1]
  obtain ⟨d5, j, ys, L3, s4, e5, hj, L3ok, l3a, l3b⟩ := s4
  have hv : ∀ c, vw (Tc st k c ys) (.ref (st.length + j)) = some (.list L3) := fun c => by
    show (match (Tc st k c ys)[st.length + j]? with
      | some (.lst xs) => some (PyData.list xs)
      | none => none) = _
    rw [Tc_own, hj]
  obtain ⟨x6, hx6, d6, q6, e6⟩ := one_gen H.toHasDeck (st := Tc st k d5 ys) (k := k) (b := b + 1 + 1 + 1 + 1 + 1) (n := n) (c := d5) (xs := L3) (v := .ref (st.length + j)) (by omega) (Tc_deck hk) e5 (hv _) (fun c => by rw [Tc_set hk]; exact hv c) l3a (by omega) hn'
  rw [Tc_set hk] at q6
  refine ⟨x6, d6, ?_, e6.more (by omega), L3ok x6 hx6⟩
  rw [call_eq H.atom, run_of rfl]
  have hst : start f_law_atom [.ref k, .d (.int p), .d (.int q)] = [some (.ref k), some (.d (.int p)), some (.d (.int q)), none] := rfl
  rw [hst]
  unfold f_law_atom
  dsimp only
  rw [es_cons, bx_seq, s1, R.bind_ok]
  dsimp only
  rw [es_cons, bx_seq, s2, R.bind_ok]
  dsimp only
  rw [es_cons, bx_seq, s3, R.bind_ok]
  dsimp only
  rw [es_cons, bx_seq, s4, R.bind_ok]
  dsimp only
  simp [mVar, q6, Tc_take]
theorem b2_eq (i j : Int) : b2 .eq (.int i) (.int j) = some (.bool (decide (i = j))) := by
  show (if shp (.int i) && shp (.int j) then some (PyData.bool (PyData.eqv (.int i) (.int j))) else none) = _
  rw [eqv_int]
  rfl
theorem self_tc {st : Store} {k : Nat} {c : List D} (hc : st[k]? = some (.lst c)) : st = Tc st k c [] := by
  have hk := get_lt hc
  unfold Tc
  rw [List.append_nil]
  exact (List.ext_getElem? fun j => by
    by_cases h : k = j
    · subst h; rw [List.getElem?_set_self hk, hc]
    · rw [List.getElem?_set_ne h])
/-- a formula of such a depth -/
def FmD (p q d : Nat) (v : D) : Prop := ∃ f : Fm, v = f.d ∧ f.ok p q ∧ f.dep ≤ d
theorem formula_draw (H : HasDraw P) {p q k : Nat} (hp : p ≤ 2) (hq : q ≤ 3) : ∀ (d n : Nat), 1 ≤ d → d ≤ 3 → d + 3 ≤ n → Draws P n "_law_formula" [.ref k, .d (.int p), .d (.int q), .d (.int d)] k (10 * 3 ^ d) (FmD p q d)
  | 0, _, h, _, _ => by omega
  | d + 1, n, _, hd3, hn => by
    intro st b c hb hc hD
    obtain ⟨n, rfl, hn'⟩ := fuel (c := d + 3) (by omega)
    have hk := get_lt hc
    have hst0 := self_tc hc
    have e3 : 10 * 3 ^ (d + 1) = 10 * 3 ^ d + 10 * 3 ^ d + 10 * 3 ^ d := by rw [Nat.pow_succ]; omega
    have e1 : 1 ≤ 3 ^ d := Nat.one_le_pow _ _ (by decide)
    have at0 : ∀ (c' : List D) (b' : Nat), b' + 6 ≤ 1000000 → Dk b' c' → ∃ v c2, call P n "_law_atom" [.ref k, .d (.int p), .d (.int q)] (Tc st k c' []) = .ok (.d v) (Tc st k c2 []) ∧ Dk (b' + 6) c2 ∧ AtD p q v := fun c' b' hb' hD' => (atom_ok H hp hq (k := k) (n := n) (by omega)).in hk hb' hD'
    cases d with
    | zero =>
      obtain ⟨v, c2, q1, d1, f, rfl, o1, o2⟩ := at0 c b (by omega) hD
      rw [← hst0] at q1
      refine ⟨f.d, c2, ?_, d1.more (by omega), f, rfl, o1, by omega⟩
      rw [call_eq H.formula]
      simp [run_of, f_law_formula, start, mVar, b2_gt, b2_lt, q1, Tc_take]
    | succ d =>
      obtain ⟨w, d1, q1, g1, r, rfl, ra, rb⟩ := (pick_ok H.toHasDeck (s := 6) (by decide) (by decide) (k := k) (n := n) (by omega)).in (ys := []) hk (by omega) hD
      rw [← hst0] at q1
      have c0 : (1 : Int) < (d : Int) + 1 + 1 := by omega
      have e5 : (d : Int) + 1 + 1 - 1 = ((d + 1 : Nat) : Int) := by omega
      have rcd := fun (c' : List D) (b' : Nat) (hb' : b' + 10 * 3 ^ (d + 1) ≤ 1000000) (hD' : Dk b' c') => (formula_draw H hp hq (k := k) (d + 1) n (by omega) (by omega) (by omega)).in (st := st) (ys := []) hk hb' hD'
      by_cases c1 : r < 3
      · obtain ⟨v, c2, q2, d2, f, rfl, o1, o2⟩ := at0 d1 (b + 1) (by omega) g1
        refine ⟨f.d, c2, ?_, d2.more (by omega), f, rfl, o1, by omega⟩
        rw [call_eq H.formula]
        simp [run_of, f_law_formula, start, mVar, b2_gt, b2_lt, q1, c0, c1, q2, Tc_take]
      · obtain ⟨v, c2, q2, d2, f, rfl, o1, o2⟩ := rcd d1 (b + 1) (by omega) g1
        by_cases c3 : r = 3
        · subst c3
          refine ⟨(Fm.not f).d, c2, ?_, d2.more (by omega), .not f, rfl, o1, by simp only [Fm.dep]; omega⟩
          rw [call_eq H.formula]
          have q2' : call P n "_law_formula" [.ref k, .d (.int p), .d (.int q), .d (.int ((d : Int) + 1))] (Tc st k d1 []) = .ok (.d f.d) (Tc st k c2 []) := q2
          simp [run_of, f_law_formula, start, mVar, b2_gt, b2_lt, b2_sub, b2_eq, q1, c0, q2', Tc_take, mTup, allM, dOf, Fm.d]
        · obtain ⟨v, c4, q4, d4, g, rfl, o3, o4⟩ := rcd c2 (b + 1 + 10 * 3 ^ (d + 1)) (by omega) d2
          have q2' : call P n "_law_formula" [.ref k, .d (.int p), .d (.int q), .d (.int ((d : Int) + 1))] (Tc st k d1 []) = .ok (.d f.d) (Tc st k c2 []) := q2
          have q4' : call P n "_law_formula" [.ref k, .d (.int p), .d (.int q), .d (.int ((d : Int) + 1))] (Tc st k c2 []) = .ok (.d g.d) (Tc st k c4 []) := q4
          by_cases c5 : r = 4
          · subst c5
            refine ⟨(Fm.and f g).d, c4, ?_, d4.more (by omega), .and f g, rfl, ⟨o1, o3⟩, by simp only [Fm.dep]; omega⟩
            rw [call_eq H.formula]
            simp [run_of, f_law_formula, start, mVar, b2_gt, b2_lt, b2_sub, b2_eq, q1, c0, q2', q4', Tc_take, mTup, allM, dOf, Fm.d]
          · refine ⟨(Fm.or f g).d, c4, ?_, d4.more (by omega), .or f g, rfl, ⟨o1, o3⟩, by simp only [Fm.dep]; omega⟩
            rw [call_eq H.formula]
            simp [run_of, f_law_formula, start, mVar, b2_gt, b2_lt, b2_sub, b2_eq, q1, c0, c1, c3, c5, q2', q4', Tc_take, mTup, allM, dOf, Fm.d]
def SdD (p q : Nat) (v : D) : Prop := ∃ o : Option Fm, v = sd o ∧ ∀ f, o = some f → f.ok p q ∧ f.dep ≤ 3
theorem said_draw (H : HasDraw P) {p q k n : Nat} (hp : p ≤ 2) (hq : q ≤ 3) (hn : 7 ≤ n) : Draws P n "_law_said" [.ref k, .d (.int p), .d (.int q), .d (.int 3)] k 300 (SdD p q) := by
  intro st b c hb hc hD
  obtain ⟨n, rfl, hn'⟩ := fuel (c := 6) hn
  have hk := get_lt hc
  have hst0 := self_tc hc
  obtain ⟨w, d1, q1, g1, r, rfl, ra, rb⟩ := (pick_ok H.toHasDeck (s := 5) (by decide) (by decide) (k := k) (n := n) (by omega)).in (ys := []) hk (by omega) hD
  rw [← hst0] at q1
  by_cases c1 : r = 0
  · subst c1
    refine ⟨.none, d1, ?_, g1.more (by omega), none, rfl, fun f e => by cases e⟩
    rw [call_eq H.said]
    simp [run_of, f_law_said, start, mVar, b2_eq, q1, Tc_take]
  · obtain ⟨v, c2, q2, d2, f, rfl, o1, o2⟩ := (formula_draw H hp hq (k := k) 3 n (by decide) (by decide) (by omega)).in (st := st) (ys := []) (b := b + 1) hk (by omega) g1
    refine ⟨f.d, c2, ?_, d2.more (by omega), some f, rfl, fun g e => by cases e; exact ⟨o1, o2⟩⟩
    have q2' : call P n "_law_formula" [.ref k, .d (.int p), .d (.int q), .d (.int 3)] (Tc st k d1 []) = .ok (.d f.d) (Tc st k c2 []) := q2
    rw [call_eq H.said]
    simp [run_of, f_law_said, start, mVar, b2_eq, q1, c1, q2', Tc_take]
end
end Mi
end
section
set_option maxHeartbeats 4000000
namespace Mi
open PySem
section
variable {P : Prg}
/-- a comprehension of draws -/
theorem lc_draws {α : Type} {t : Tg} {me : ME} {env : Env} {st : Store} {k : Nat} {ys : List Cell} {a : Nat} {enc : α → D} {Q : D → Prop} (hk : k < st.length) : ∀ (L : List α) (acc : List D) (b : Nat) (c : List D), b + a * L.length ≤ 1000000 → Dk b c → (∀ x ∈ acc, Q x) → acc.length + L.length ≤ 1000 →
    (∀ x ∈ L, ∃ env1, tset t env (enc x) = some env1 ∧ ∀ (b : Nat) (c : List D), b + a ≤ 1000000 → Dk b c → ∃ v c', me env1 (Tc st k c ys) = .ok (.d v) (Tc st k c' ys) ∧ Dk (b + a) c' ∧ Q v) →
    ∃ vs c', lcGo t none me env (L.map enc) acc (Tc st k c ys) = .ok (acc ++ vs) (Tc st k c' ys) ∧ Dk (b + a * L.length) c' ∧ vs.length = L.length ∧ ∀ x ∈ vs, Q x
  | [], acc, b, c, _, hD, _, _, _ => ⟨[], c, by simp [lcGo], by simpa using hD, rfl, fun x hx => by cases hx⟩
  | x :: L, acc, b, c, hb, hD, hQ, hl, h => by
    simp only [List.length_cons, Nat.mul_add, Nat.mul_one] at hb hl
    obtain ⟨env1, h1, h2⟩ := h x List.mem_cons_self
    obtain ⟨v, c1, q1, d1, r1⟩ := h2 b c (by omega) hD
    obtain ⟨vs, c2, q2, d2, e2, r2⟩ := lc_draws (me := me) (env := env) (ys := ys) (enc := enc) (Q := Q) hk L (acc ++ [v]) (b + a) c1 (by omega) d1 (fun y hy => (List.mem_append.mp hy).elim (hQ y) fun z => by rw [List.mem_singleton.mp z]; exact r1) (by simp; omega) fun y hy => h y (List.mem_cons_of_mem _ hy)
    refine ⟨v :: vs, c2, ?_, d2.more (by simp only [List.length_cons, Nat.mul_add, Nat.mul_one]; omega), by simp [e2], fun y hy => ?_⟩
    · have hA : acc.length < sizeLine := by rw [sizeLine_eq]; omega
      simp [lcGo, h1, q1, hA, q2]
    · rcases List.mem_cons.mp hy with z | z
      · rw [z]; exact r1
      · exact r2 y z
theorem sds_of {p q : Nat} : ∀ vs : List D, (∀ x ∈ vs, SdD p q x) → ∃ ss : List (Option Fm), vs = ss.map sd ∧ ∀ f, some f ∈ ss → f.ok p q ∧ f.dep ≤ 3
  | [], _ => ⟨[], rfl, fun f h => by cases h⟩
  | v :: vs, h => by
    obtain ⟨o, rfl, ho⟩ := h v List.mem_cons_self
    obtain ⟨ss, rfl, hs⟩ := sds_of vs fun x hx => h x (List.mem_cons_of_mem _ hx)
    refine ⟨o :: ss, rfl, fun f hf => ?_⟩
    rcases List.mem_cons.mp hf with z | z
    · exact ho f z.symm
    · exact hs f z
theorem parish_draw (H : HasDraw P) {k n : Nat} (hn : 8 ≤ n) : Draws P n "_law_parish" [.ref k, .d (.int 2), .d (.int 3), .d (.int 3)] k 1300 fun v => ∃ p : Par, v = p.d ∧ p.ok := by
  intro st b c hb hc hD
  obtain ⟨n, rfl, hn'⟩ := fuel (c := 7) hn
  have hk := get_lt hc
  have hst0 := self_tc hc
  have pk := fun (s : Int) (h1 : 0 < s) (h2 : s.natAbs.log2 < 9000) => pick_ok H.toHasDeck (s := s) h1 h2 (k := k) (n := n) (by omega)
  obtain ⟨w1, d1, q1, g1, r1, rfl, ra, rb⟩ := (pk 3 (by decide) (by decide)).in (st := st) (ys := []) hk (by omega) hD
  obtain ⟨w2, d2, q2, g2, r2, rfl, rc, rd⟩ := (pk 4 (by decide) (by decide)).in (st := st) (ys := []) hk (by omega) g1
  rw [← hst0] at q1
  obtain ⟨p, rfl⟩ : ∃ p : Nat, r1 = p := ⟨r1.toNat, by omega⟩
  obtain ⟨q, rfl⟩ : ∃ q : Nat, r2 = q := ⟨r2.toNat, by omega⟩
  have hp : p ≤ 2 := by omega
  have hq : q ≤ 3 := by omega
  have sdr := said_draw H hp hq (k := k) (n := n) hn'
  obtain ⟨vs, d3, q3, g3, l3, Q3⟩ := lc_draws (t := .nm 8) (me := evE (call P n) (.call false "_law_said" [(.var 0), (.var 6), (.var 7), (.var 3)])) (env := [some (.ref k), some (.d (.int 2)), some (.d (.int 3)), some (.d (.int 3)), none, none, some (.d (.int p)), some (.d (.int q)), none]) (ys := []) (a := 300) (enc := fun j : Nat => PyData.int (j : Nat)) (Q := SdD p q) hk (List.range q) [] (b + 1 + 1) d2 (by simp; omega) g2 (fun x hx => by cases hx) (by simp; omega) fun j _ => ⟨_, rfl, fun b' c' hb' hD' => by
    obtain ⟨v, c2, q4, g4, r4⟩ := sdr.in (ys := []) hk hb' hD'
    exact ⟨v, c2, by simp [mVar, q4], g4, r4⟩⟩
  obtain ⟨ss, rfl, hss⟩ := sds_of vs Q3
  have lss : ss.length = q := by simpa using l3
  have hb3 : b + 1 + 1 + 300 * (List.range q).length ≤ b + 902 := by rw [List.length_range]; omega
  have g3' := g3.more hb3
  obtain ⟨w4, d4, q4, g4, r4, rfl, re, rf⟩ := (pk 4 (by decide) (by decide)).in (st := st) (ys := []) hk (by omega) g3'
  have s5 : ∃ (mo : Option Int) (d5 : List D), evE (call P n) (.ite (.bin .eq (.call false "_law_pick" [(.var 0), (.cst (.int 4))]) (.cst (.int 0))) (.call false "_law_pick" [(.var 0), (.cst (.int 10))]) (.cst .none)) [some (.ref k), some (.d (.int 2)), some (.d (.int 3)), some (.d (.int 3)), some (.d (.tuple (ss.map sd))), none, some (.d (.int p)), some (.d (.int q)), none] (Tc st k d3 []) = .ok (.d (md mo)) (Tc st k d5 []) ∧ Dk (b + 902 + 1 + 1) d5 ∧ ∀ m, mo = some m → 0 ≤ m ∧ m ≤ 9 := by
    by_cases c1 : r4 = 0
    · subst c1
      obtain ⟨w5, d5, q5, g5, r5, rfl, r5a, r5b⟩ := (pk 10 (by decide) (by decide)).in (st := st) (ys := []) hk (by omega) g4
      exact ⟨some r5, d5, by simp [mVar, b2_eq, q4, q5], g5, fun m e => by cases e; omega⟩
    · exact ⟨none, d4, by simp [mVar, b2_eq, q4, c1], g4.more (by omega), fun m e => by cases e⟩
  obtain ⟨mo, d5, s5, g5, hmo⟩ := s5
  obtain ⟨v6, d6, q6, g6, cr, rfl, hcr⟩ := sdr.in (st := st) (ys := []) (b := b + 902 + 1 + 1) hk (by omega) g5
  refine ⟨(⟨p, ss, cr, mo⟩ : Par).d, d6, ?_, g6.more (by omega), ⟨p, ss, cr, mo⟩, rfl, ⟨hp, by show ss.length ≤ 3; omega, fun f hf => by show f.ok p ss.length ∧ _; rw [lss]; exact hss f hf, fun f hf => by show f.ok p ss.length ∧ _; rw [lss]; exact hcr f hf, hmo⟩⟩
  rw [call_eq H.parish, run_of rfl]
  have hst : start f_law_parish [.ref k, .d (.int 2), .d (.int 3), .d (.int 3)] = [some (.ref k), some (.d (.int 2)), some (.d (.int 3)), some (.d (.int 3)), none, none, none, none, none] := rfl
  rw [hst]
  unfold f_law_parish
  dsimp only
  have s1 : evS (call P n) (.asg (.tp [6, 7]) (.tup [(.call false "_law_pick" [(.var 0), (.bin .add (.var 1) (.cst (.int 1)))]), (.call false "_law_pick" [(.var 0), (.bin .add (.var 2) (.cst (.int 1)))])])) [some (.ref k), some (.d (.int 2)), some (.d (.int 3)), some (.d (.int 3)), none, none, none, none, none] st = .ok (.nx [some (.ref k), some (.d (.int 2)), some (.d (.int 3)), some (.d (.int 3)), none, none, some (.d (.int p)), some (.d (.int q)), none]) (Tc st k d2 []) := by
    simp [mVar, mAsg, mTup, allM, dOf, b2_add, q1, q2, tset, setAll]
  have s2 : evS (call P n) (.asg (.nm 4) (.bi .tuple (.lcR [8] (.call false "_law_said" [(.var 0), (.var 6), (.var 7), (.var 3)]) (.nm 8) [(.var 7)] none))) [some (.ref k), some (.d (.int 2)), some (.d (.int 3)), some (.d (.int 3)), none, none, some (.d (.int p)), some (.d (.int q)), none] (Tc st k d2 []) = .ok (.nx [some (.ref k), some (.d (.int 2)), some (.d (.int 3)), some (.d (.int 3)), some (.d (.tuple (ss.map sd))), none, some (.d (.int p)), some (.d (.int q)), none]) (Tc st k d3 []) := by
    simp [mLc, mItR, mVar, rng_nat, wipeE] at q3 ⊢
    simp [q3, noExc, b1]
  rw [es_cons, bx_seq, s1, R.bind_ok]
  dsimp only
  rw [es_cons, bx_seq, s2, R.bind_ok]
  dsimp only
  rw [es_cons, bx_seq, es_asg, bx_asg, s5, R.bind_ok]
  simp [mVar, mTup, allM, dOf, q6, Tc_take, Par.d]
end
end Mi
end
section
set_option maxHeartbeats 4000000
namespace Mi
open PySem
structure HasSame (P : Prg) : Prop where
  sort : P.find "_law_sort" = some f_law_sort
  same : P.find "_law_same" = some f_law_same
def sortN : D → Int
  | .bool _ => 1
  | .int _ => 2
  | .str _ => 3
  | .list _ => 4
  | .tuple _ => 5
  | _ => 6
section
variable {P : Prg} {st : Store}
theorem sort_ok (H : HasSame P) (x : D) {n : Nat} (hn : 1 ≤ n) : call P n "_law_sort" [.d x] st = .ok (.d (.int (sortN x))) st := by
  obtain ⟨n, rfl, _⟩ := fuel (c := 0) hn
  rw [call_eq H.sort]
  cases x <;> simp [run_of, f_law_sort, start, mVar, isinD, isK, sortN]
theorem same_bool (H : HasSame P) (a b : Bool) {n : Nat} (hn : 2 ≤ n) : call P n "_law_same" [.d (.bool a), .d (.bool b)] st = .ok (.d (.bool (a == b))) st := by
  obtain ⟨n, rfl, hn'⟩ := fuel (c := 1) hn
  rw [call_eq H.same]
  simp [run_of, f_law_same, start, mVar, sort_ok H _ hn', sortN, b2, iop]
theorem same_int (H : HasSame P) (a b : Int) {n : Nat} (hn : 2 ≤ n) : call P n "_law_same" [.d (.int a), .d (.int b)] st = .ok (.d (.bool (decide (a = b)))) st := by
  obtain ⟨n, rfl, hn'⟩ := fuel (c := 1) hn
  rw [call_eq H.same]
  simp [run_of, f_law_same, start, mVar, sort_ok H _ hn', sortN, b2, iop]
theorem same_none (H : HasSame P) {n : Nat} (hn : 2 ≤ n) : call P n "_law_same" [.d .none, .d .none] st = .ok (.d (.bool true)) st := by
  obtain ⟨n, rfl, hn'⟩ := fuel (c := 1) hn
  rw [call_eq H.same]
  simp [run_of, f_law_same, start, mVar, sort_ok H _ hn', sortN, b2, iop]
  rfl
theorem same_lc (H : HasSame P) {xs : List D} {k : Nat} {e0 : Option Val} (hl : xs.length ≤ 1000) : ∀ (ys pre : List D), xs = pre ++ ys → (∀ x ∈ ys, call P k "_law_same" [.d x, .d x] st = .ok (.d (.bool true)) st) →
    lcGo (.tp [2, 3]) (some (evE (call P k) (.not (.call false "_law_same" [(.var 3), (.idx (.var 1) (.var 2))])))) (evE (call P k) (.var 2)) [e0, some (.d (.tuple xs)), none, none] (enumL pre.length ys) [] st = .ok [] st
  | [], pre, _, _ => by simp [enumL, lcGo]
  | y :: ys, pre, e, h => by
    have ih := same_lc H (k := k) (e0 := e0) hl ys (pre ++ [y]) (by rw [e]; simp) fun x hx => h x (List.mem_cons_of_mem _ hx)
    have e2 : (pre ++ [y]).length = pre.length + 1 := by simp
    rw [e2] at ih
    have hi : L2.atI xs (pre.length : Nat) = some y := by
      rw [at_nat (by rw [e]; simp)]
      simp [e]
    have q := h y List.mem_cons_self
    simp [enumL, lcGo, tset, setAll, mVar, idx, hi, q] at ih ⊢
    exact ih
theorem same_tup (H : HasSame P) {xs : List D} (hl : xs.length ≤ 1000) {n : Nat} (hn : 3 ≤ n) (h : ∀ m, n = m + 1 → ∀ x ∈ xs, call P m "_law_same" [.d x, .d x] st = .ok (.d (.bool true)) st) : call P n "_law_same" [.d (.tuple xs), .d (.tuple xs)] st = .ok (.d (.bool true)) st := by
  obtain ⟨n, rfl, hn'⟩ := fuel (c := 2) hn
  rw [call_eq H.same]
  have q := same_lc H (st := st) (k := n) (e0 := some (.d (.tuple xs))) hl xs [] rfl (h n rfl)
  have e1 : b2 .ne (.int (xs.length : Nat)) (.int (xs.length : Nat)) = some (.bool false) := by simp [b2]
  simp [run_of, f_law_same, start, mVar, sort_ok H _ (show 1 ≤ n by omega), sortN, b2_gt, b2_lt, show b2 .ne (.int 5) (.int 5) = some (.bool false) by rfl, b1, e1, mLc, mItN, wipeE] at q ⊢
  simp [q, noExc, mLst, allM, show b2 .eq (.list []) (.list []) = some (.bool true) by rfl]
theorem same_tr (H : HasSame P) (t : Tr) (hf : t.fs.length ≤ 10) (hl : t.ls.length ≤ 10) {n : Nat} (hn : 4 ≤ n) : call P n "_law_same" [.d t.d, .d t.d] st = .ok (.d (.bool true)) st := by
  have bs : ∀ (l : List Bool) (m : Nat), l.length ≤ 10 → 3 ≤ m → call P m "_law_same" [.d (bD l), .d (bD l)] st = .ok (.d (.bool true)) st := fun l m h1 h2 =>
    same_tup H (by simpa using Nat.le_trans h1 (by decide)) h2 fun j e x hx => by
      obtain ⟨b, _, rfl⟩ := List.mem_map.mp hx
      rw [same_bool H b b (by omega)]
      simp
  refine same_tup H (by simp) (by omega) fun m e x hx => ?_
  have hx : x = bD t.fs ∨ x = bD t.ls ∨ x = .int t.m := by simpa using hx
  rcases hx with rfl | rfl | rfl
  · exact bs _ _ hf (by omega)
  · exact bs _ _ hl (by omega)
  · rw [same_int H _ _ (by omega)]
    simp
theorem same_od (H : HasSame P) (o : Option Tr) (h : ∀ t, o = some t → t.fs.length ≤ 10 ∧ t.ls.length ≤ 10) {n : Nat} (hn : 4 ≤ n) : call P n "_law_same" [.d (od o), .d (od o)] st = .ok (.d (.bool true)) st := by
  cases o with
  | none => exact same_none H (by omega)
  | some t => exact same_tr H t (h t rfl).1 (h t rfl).2 hn
end
end Mi
end
section
set_option maxHeartbeats 4000000
namespace Mi
open PySem
/-- no turn between -/
def Free (m : Int) (ts : List Int) : Prop := ∀ t ∈ ts, ¬ (m < t ∧ t ≤ m + 2)
theorem Free.app {m : Int} {a b : List Int} (h : Free m (a ++ b)) : Free m a ∧ Free m b := ⟨fun t ht => h t (List.mem_append_left _ ht), fun t ht => h t (List.mem_append_right _ ht)⟩
theorem ceil_le {a b z m : Int} (hb : 0 < b) : a * z ≤ b * m ↔ -(-a * z / b) ≤ m := by
  have e : -a * z = -(a * z) := Int.neg_mul a z
  rw [e]
  constructor
  · intro h
    have h1 : -m ≤ -(a * z) / b := (Int.le_ediv_iff_mul_le hb).mpr (by rw [Int.neg_mul, Int.mul_comm m b]; omega)
    omega
  · intro h
    have h1 : -m ≤ -(a * z) / b := by omega
    have h2 := (Int.le_ediv_iff_mul_le hb).mp h1
    rw [Int.neg_mul, Int.mul_comm m b] at h2
    omega
theorem ev_period {fs ls : List Bool} {m z : Int} {p q : Nat} : ∀ f : Fm, f.ok p q → Free m (f.atoms.flatMap (Fm.turns z)) → f.ev fs ls m z = f.ev fs ls (m + 2) z
  | .fact i, _, _ => rfl
  | .lies i, _, _ => rfl
  | .liars k, _, h => by
    have h1 := h k (by simp [Fm.atoms, Fm.turns])
    simp only [Fm.ev]
    rw [decide_eq_decide]
    omega
  | .honest k, _, h => by
    have h1 := h (z - k + 1) (by simp [Fm.atoms, Fm.turns])
    simp only [Fm.ev]
    rw [decide_eq_decide]
    omega
  | .odd, _, _ => by
    simp only [Fm.ev]
    rw [decide_eq_decide]
    omega
  | .share a b, o, h => by
    have hb : 0 < b := by rcases o with ⟨_, rfl⟩ | ⟨_, rfl⟩ | ⟨_, rfl⟩ <;> decide
    have h1 := h (-(-a * z / b)) (by simp [Fm.atoms, Fm.turns])
    simp only [Fm.ev]
    rw [decide_eq_decide, ceil_le hb, ceil_le hb]
    omega
  | .not f, o, h => by
    simp only [Fm.ev]
    rw [ev_period f o h]
  | .and f g, o, h => by
    simp only [Fm.atoms, List.flatMap_append] at h
    simp only [Fm.ev]
    rw [ev_period f o.1 h.app.1, ev_period g o.2 h.app.2]
  | .or f g, o, h => by
    simp only [Fm.atoms, List.flatMap_append] at h
    simp only [Fm.ev]
    rw [ev_period f o.1 h.app.1, ev_period g o.2 h.app.2]
theorem fitS_period {fs ls : List Bool} {m n : Int} {p q : Nat} : ∀ (ss : List (Option Fm)) (r : List Bool), (∀ f, some f ∈ ss → f.ok p q) → Free m (ss.flatMap (turnsS n)) → fitS fs ls m n ss r = fitS fs ls (m + 2) n ss r
  | [], r, _, _ => rfl
  | none :: ss, [], _, _ => rfl
  | some f :: ss, [], _, _ => rfl
  | none :: ss, b :: r, h, g => by
    simp only [fitS]
    exact fitS_period ss r (fun f hf => h f (List.mem_cons_of_mem _ hf)) (by simpa [turnsS] using g)
  | some f :: ss, b :: r, h, g => by
    have g' : Free m (f.atoms.flatMap (Fm.turns n) ++ ss.flatMap (turnsS n)) := by simpa [turnsS] using g
    simp only [fitS]
    rw [ev_period f (h f List.mem_cons_self) g'.app.1, fitS_period ss r (fun f hf => h f (List.mem_cons_of_mem _ hf)) g'.app.2]
theorem fitC_period {fs ls : List Bool} {m n : Int} {p q : Nat} {cr : Option Fm} (h : ∀ f, cr = some f → f.ok p q) (h0 : 0 ≤ m) (hn : m + 2 ≤ n) (g1 : Free m [1, n]) (g : Free m (turnsC (n - 1) cr)) : fitC fs ls m n cr = fitC fs ls (m + 2) n cr := by
  cases cr with
  | none => rfl
  | some f =>
    have a1 := g1 1 (by simp)
    have a2 := g1 n (by simp)
    have f1 : Free m (f.atoms.flatMap (Fm.turns (n - 1))) := fun t ht => by
      obtain ⟨a, ha, hta⟩ := List.mem_flatMap.mp ht
      exact g t (List.mem_flatMap.mpr ⟨a, ha, List.mem_flatMap.mpr ⟨t, hta, by simp⟩⟩)
    have f2 : Free (m - 1) (f.atoms.flatMap (Fm.turns (n - 1))) := fun t ht => by
      obtain ⟨a, ha, hta⟩ := List.mem_flatMap.mp ht
      have := g (t + 1) (List.mem_flatMap.mpr ⟨a, ha, List.mem_flatMap.mpr ⟨t, hta, by simp⟩⟩)
      omega
    have e1 := ev_period (fs := fs) (ls := ls) f (h f rfl) f1
    have e2 := ev_period (fs := fs) (ls := ls) f (h f rfl) f2
    have e3 : m - 1 + 2 = m + 2 - 1 := by omega
    rw [e3] at e2
    have c1 : decide (m < n) = decide (m + 2 < n) := by rw [decide_eq_decide]; omega
    have c2 : decide (m = 0) = decide (m + 2 = 0) := by rw [decide_eq_decide]; omega
    simp only [fitC]
    rw [e1, e2, c1, c2]
theorem cnt_range : ∀ ls : List Bool, 0 ≤ cntB ls ∧ cntB ls ≤ ls.length
  | [] => by simp [cntB]
  | b :: ls => by
    have h := cnt_range ls
    have e : cntB (b :: ls) = (if b then 1 else 0) + cntB ls := rfl
    rw [e]
    simp only [List.length_cons]
    split <;> omega
theorem fitM_period {ls : List Bool} {m : Int} {k : Nat} {mo : Option Int} (hl : ls.length = k) (g : Free m (marksM k mo)) : fitM ls m mo = fitM ls (m + 2) mo := by
  cases mo with
  | none => rfl
  | some x =>
    obtain ⟨c0, c1⟩ := cnt_range ls
    have := g (x + 1 - cntB ls) (List.mem_map.mpr ⟨(cntB ls).toNat, List.mem_range.mpr (by omega), by omega⟩)
    simp only [fitM]
    have e : decide (x < cntB ls + m) = decide (x < cntB ls + (m + 2)) := by rw [decide_eq_decide]; omega
    rw [e]
/-- all turns of a parish -/
def Par.trn (p : Par) (n : Int) : List Int := p.raw [] n
theorem can_period {p : Par} (ok : p.ok) {fs ls : List Bool} (hl : ls.length = p.singles.length) {m n : Int} (h0 : 0 ≤ m) (hn : m + 2 ≤ n) (g : Free m (p.raw [] n)) : p.can fs ls m n = p.can fs ls (m + 2) n := by
  unfold Par.raw at g
  obtain ⟨g1, g4⟩ := g.app
  obtain ⟨g1, g3⟩ := g1.app
  obtain ⟨g1, g2⟩ := g1.app
  rw [List.append_nil] at g2
  unfold Par.can
  rw [fitM_period hl g4, fitS_period p.singles ls (fun f hf => (ok.each f hf).1) g2, fitC_period (fun f hf => (ok.crowd f hf).1) h0 hn (fun t ht => g1 t (by simp at ht ⊢; omega)) g3]
end Mi
end
section
set_option maxHeartbeats 4000000
namespace Mi
open PySem
def bI (b : Bool) : Int := if b then 1 else 0
/-- how many of [lo, lo + k) -/
def cnt (c : Int → Bool) (lo : Int) : Nat → Int
  | 0 => 0
  | k + 1 => bI (c lo) + cnt c (lo + 1) k
/-- every other one is as the one before the last -/
def Per (c : Int → Bool) (lo : Int) (k : Nat) : Prop := ∀ x, lo ≤ x → x + 2 < lo + k → c x = c (x + 2)
theorem cnt_per (c : Int → Bool) : ∀ (k : Nat) (lo : Int), Per c lo k → cnt c lo k = bI (c lo) * ((k + 1) / 2 : Nat) + bI (c (lo + 1)) * (k / 2 : Nat)
  | 0, lo, _ => by simp [cnt]
  | 1, lo, _ => by simp [cnt]
  | k + 2, lo, h => by
    have ih := cnt_per c k (lo + 2) fun x h1 h2 => h x (by omega) (by omega)
    have e : lo + 1 + 1 = lo + 2 := by omega
    simp only [cnt]
    rw [e, ih]
    have d1 : (k + 2 + 1) / 2 = (k + 1) / 2 + 1 := by omega
    have d2 : (k + 2) / 2 = k / 2 + 1 := by omega
    rw [d1, d2]
    rcases Nat.eq_zero_or_pos k with z | z
    · subst z
      simp
    · have h1 := h lo (by omega) (by omega)
      rw [← h1]
      rcases Nat.lt_or_ge 1 k with z2 | z2
      · have h2 := h (lo + 1) (by omega) (by omega)
        have e2 : lo + 1 + 2 = lo + 2 + 1 := by omega
        rw [e2] at h2
        rw [← h2]
        simp only [Int.natCast_add, Int.mul_add]
        omega
      · have : k = 1 := by omega
        subst this
        simp only [Int.natCast_add, Int.mul_add]
        simp
        omega
theorem cnt_add (c : Int → Bool) : ∀ (j k : Nat) (lo : Int), cnt c lo (j + k) = cnt c lo j + cnt c (lo + j) k
  | 0, k, lo => by simp [cnt]
  | j + 1, k, lo => by
    have e : j + 1 + k = (j + k) + 1 := by omega
    rw [e]
    simp only [cnt]
    rw [cnt_add c j k (lo + 1)]
    have e2 : lo + 1 + (j : Int) = lo + ((j + 1 : Nat) : Int) := by omega
    rw [e2]
    omega
end Mi
end
section
set_option maxHeartbeats 4000000
namespace Mi
open PySem
abbrev Inc (l : List Int) : Prop := l.Pairwise (· < ·)
theorem pairs_cons (x y : Int) (l : List Int) (n : Int) : pairsOf (x :: y :: l) n = (x, y) :: pairsOf (y :: l) n := rfl
theorem pairs_one (x n : Int) : pairsOf [x] n = [(x, n + 1)] := rfl
theorem pairs_next : ∀ (l : List Int) (n : Int), Inc l → (∀ t ∈ l, t ≤ n) → ∀ q ∈ pairsOf l n, q.1 < q.2 ∧ q.2 ≤ n + 1 ∧ q.1 ∈ l ∧ ∀ t ∈ l, ¬ (q.1 < t ∧ t < q.2)
  | [], n, _, _, q, h => by simp [pairsOf] at h
  | [x], n, _, hb, q, h => by
    rw [pairs_one] at h
    have e : q = (x, n + 1) := by simpa using h
    subst e
    have := hb x (by simp)
    refine ⟨by show x < n + 1; omega, Int.le_refl _, by simp, fun t ht => ?_⟩
    have : t = x := by simpa using ht
    subst this
    show ¬ (t < t ∧ _)
    omega
  | x :: y :: l, n, hi, hb, q, h => by
    obtain ⟨h1, h2⟩ := List.pairwise_cons.mp hi
    obtain ⟨h3, _⟩ := List.pairwise_cons.mp h2
    rw [pairs_cons] at h
    rcases List.mem_cons.mp h with e | h
    · subst e
      have hx := h1 y (by simp)
      have hy := hb y (by simp)
      refine ⟨hx, by show y ≤ n + 1; omega, by simp, fun t ht => ?_⟩
      show ¬ (x < t ∧ t < y)
      rcases List.mem_cons.mp ht with e | ht
      · omega
      · rcases List.mem_cons.mp ht with e | ht
        · omega
        · have := h3 t ht; omega
    · obtain ⟨a1, a2, a3, a4⟩ := pairs_next (y :: l) n h2 (fun t ht => hb t (List.mem_cons_of_mem _ ht)) q h
      refine ⟨a1, a2, List.mem_cons_of_mem _ a3, fun t ht => ?_⟩
      rcases List.mem_cons.mp ht with e | ht
      · subst e
        have : t < q.1 := by
          rcases List.mem_cons.mp a3 with z | z
          · rw [z]; exact h1 y (by simp)
          · exact h1 _ (List.mem_cons_of_mem _ z)
        omega
      · exact a4 t ht
theorem pairs_sum (c : Int → Bool) : ∀ (l : List Int) (x n : Int), Inc (x :: l) → (∀ t ∈ x :: l, t ≤ n) → ((pairsOf (x :: l) n).map fun q => cnt c q.1 (q.2 - q.1).toNat).sum = cnt c x (n + 1 - x).toNat
  | [], x, n, _, _ => by simp [pairs_one]
  | y :: l, x, n, hi, hb => by
    obtain ⟨h1, h2⟩ := List.pairwise_cons.mp hi
    have hx := h1 y (by simp)
    have hy := hb y (by simp)
    rw [pairs_cons, List.map_cons, List.sum_cons, pairs_sum c l y n h2 fun t ht => hb t (List.mem_cons_of_mem _ ht)]
    have e : (n + 1 - x).toNat = (y - x).toNat + (n + 1 - y).toNat := by omega
    have e2 : x + ((y - x).toNat : Int) = y := by omega
    rw [e, cnt_add, e2]
theorem per_of {p : Par} (ok : p.ok) {fs ls : List Bool} (hl : ls.length = p.singles.length) {n : Int} {L : List Int} (hT : ∀ t ∈ p.raw [] n, 0 ≤ t → t ≤ n → t ∈ L) {q : Int × Int} (h0 : 0 ≤ q.1) (hq : q.1 < q.2 ∧ q.2 ≤ n + 1 ∧ q.1 ∈ L ∧ ∀ t ∈ L, ¬ (q.1 < t ∧ t < q.2)) : Per (fun x => p.can fs ls x n) q.1 (q.2 - q.1).toNat := by
  obtain ⟨a1, a2, a3, a4⟩ := hq
  intro x h1 h2
  have h3 : x + 2 < q.2 := by omega
  refine can_period ok hl (by omega) (by omega) fun t ht hh => ?_
  exact a4 t (hT t ht (by omega) (by omega)) ⟨by omega, by omega⟩
theorem seg_sum {p : Par} {n : Int} {fs ls : List Bool} {q : Int × Int} (hq : q.1 < q.2) (hp : Per (fun x => p.can fs ls x n) q.1 (q.2 - q.1).toNat) : ((segQ p n fs ls q).map fun q => (q.b - q.a) / 2 + 1).sum = cnt (fun x => p.can fs ls x n) q.1 (q.2 - q.1).toNat := by
  rw [cnt_per _ _ _ hp]
  obtain ⟨lo, hi⟩ := q
  dsimp only at hq hp ⊢
  have e1 : ∀ x : Int, (hi - 1 - (hi - 1 - x) % 2 - x) / 2 + 1 = (hi - 1 - x) / 2 + 1 := fun x => by omega
  have k1 : ((((hi - lo).toNat + 1) / 2 : Nat) : Int) = (hi - 1 - lo) / 2 + 1 := by omega
  have k2 : (((hi - lo).toNat / 2 : Nat) : Int) = (hi - lo) / 2 := by omega
  rw [k1, k2]
  unfold segQ
  simp only [List.flatMap_cons, List.flatMap_nil, List.append_nil, List.map_append, List.sum_append]
  by_cases c2 : lo + 1 < hi
  · cases h1 : p.can fs ls lo n <;> cases h2 : p.can fs ls (lo + 1) n <;> simp [hq, c2, h1, h2, bI, e1] <;> omega
  · have : (hi - lo) / 2 = 0 := by omega
    rw [this]
    cases h1 : p.can fs ls lo n <;> simp [hq, c2, h1, bI, e1]
theorem part_sum {p : Par} {n : Int} {fs ls : List Bool} {q : Int × Int} (hq : q.1 < q.2) (hp : Per (fun x => p.can fs ls x n) q.1 (q.2 - q.1).toNat) : ((partQ p n fs ls q).map Qd.b).sum = cnt (fun x => p.can fs ls x n) q.1 (q.2 - q.1).toNat := by
  rw [cnt_per _ _ _ hp]
  obtain ⟨lo, hi⟩ := q
  dsimp only at hq hp ⊢
  have k1 : ((((hi - lo).toNat + 1) / 2 : Nat) : Int) = (hi - 1 - lo) / 2 + 1 := by omega
  have k2 : (((hi - lo).toNat / 2 : Nat) : Int) = (hi - lo) / 2 := by omega
  rw [k1, k2]
  unfold partQ
  dsimp only
  have r : ∀ j : Nat, intsR lo (lo + j) = (List.range j).map fun k => lo + (k : Nat) := fun j => by
    unfold intsR
    have : (lo + (j : Int) - lo).toNat = j := by omega
    rw [this]
  by_cases c3 : lo + 3 ≤ hi
  · have e : triQ hi lo = lo + (3 : Nat) := by
      unfold triQ
      split <;> omega
    have h3 := hp lo (by omega) (by omega)
    dsimp only at h3
    rw [e, r 3]
    have s1 : sizeQ lo hi (lo + 1) = (hi - lo) / 2 := by
      unfold sizeQ
      rw [if_neg (by omega)]
      congr 1
      omega
    have s2 : sizeQ lo hi (lo + 2) = (hi - 1 - lo) / 2 := by
      unfold sizeQ
      rw [if_neg (by omega)]
      congr 1
      omega
    have s0 : sizeQ lo hi lo = 1 := if_pos rfl
    simp only [List.range_succ, List.range_zero, List.nil_append, List.map_append, List.map_cons, List.map_nil, List.cons_append, List.flatMap_cons, List.flatMap_nil, List.append_nil, List.sum_append]
    have z0 : lo + ((0 : Nat) : Int) = lo := by omega
    have z1 : lo + ((1 : Nat) : Int) = lo + 1 := by omega
    have z2 : lo + ((2 : Nat) : Int) = lo + 2 := by omega
    rw [z0, z1, z2]
    rw [← h3]
    cases h1 : p.can fs ls lo n <;> cases h2 : p.can fs ls (lo + 1) n <;> simp [bI, s0, s1, s2] <;> omega
  · by_cases c2 : lo + 2 = hi
    · have e : triQ hi lo = lo + (2 : Nat) := by
        unfold triQ
        split <;> omega
      have s1 : sizeQ lo hi (lo + 1) = (hi - lo) / 2 := by
        unfold sizeQ
        rw [if_neg (by omega)]
        congr 1
        omega
      have s0 : sizeQ lo hi lo = 1 := if_pos rfl
      rw [e, r 2]
      simp only [List.range_succ, List.range_zero, List.nil_append, List.map_append, List.map_cons, List.map_nil, List.cons_append, List.flatMap_cons, List.flatMap_nil, List.append_nil, List.sum_append]
      have z0 : lo + ((0 : Nat) : Int) = lo := by omega
      have z1 : lo + ((1 : Nat) : Int) = lo + 1 := by omega
      rw [z0, z1]
      cases h1 : p.can fs ls lo n <;> cases h2 : p.can fs ls (lo + 1) n <;> simp [bI, s0, s1] <;> omega
    · have e : triQ hi lo = lo + (1 : Nat) := by
        unfold triQ
        split <;> omega
      have s0 : sizeQ lo hi lo = 1 := if_pos rfl
      rw [e, r 1]
      simp only [List.range_succ, List.range_zero, List.nil_append, List.map_append, List.map_cons, List.map_nil, List.cons_append, List.flatMap_cons, List.flatMap_nil, List.append_nil, List.sum_append]
      have z0 : lo + ((0 : Nat) : Int) = lo := by omega
      rw [z0]
      have hz : (hi - lo) / 2 = 0 := by omega
      have hz1 : (hi - 1 - lo) / 2 = 0 := by omega
      rw [hz, hz1]
      cases h1 : p.can fs ls lo n <;> simp [bI, s0]
end Mi
end
section
set_option maxHeartbeats 4000000
namespace Mi
open PySem
theorem insUmem (x : Int) : ∀ (l : List Int) (k : Int), k ∈ insU x l ↔ k = x ∨ k ∈ l
  | [], k => by simp [insU]
  | y :: ys, k => by
    have ih := insUmem x ys k
    unfold insU
    split
    · simp
    · split
      · rename_i e
        subst e
        simp only [List.mem_cons]
        constructor
        · exact .inr
        · rintro (h | h)
          · exact .inl h
          · exact h
      · simp only [List.mem_cons, ih]
        constructor
        · rintro (h | h | h)
          · exact .inr (.inl h)
          · exact .inl h
          · exact .inr (.inr h)
        · rintro (h | h | h)
          · exact .inr (.inl h)
          · exact .inl h
          · exact .inr (.inr h)
theorem insU_inc (x : Int) : ∀ l : List Int, Inc l → Inc (insU x l)
  | [], _ => by simp [insU]
  | y :: ys, h => by
    obtain ⟨h1, h2⟩ := List.pairwise_cons.mp h
    unfold insU
    split
    · rename_i c
      refine List.pairwise_cons.mpr ⟨fun z hz => ?_, h⟩
      rcases List.mem_cons.mp hz with e | e
      · omega
      · have := h1 z e; omega
    · split
      · exact h
      · refine List.pairwise_cons.mpr ⟨fun z hz => ?_, insU_inc x ys h2⟩
        rcases (insUmem x ys z).mp hz with e | e
        · omega
        · exact h1 z e
theorem sortUmem (l : List Int) (k : Int) : k ∈ sortU l ↔ k ∈ l := by
  induction l with
  | nil => simp [sortU]
  | cons x xs ih =>
    show k ∈ insU x (sortU xs) ↔ _
    rw [insUmem, ih, List.mem_cons]
theorem sortU_inc : ∀ l : List Int, Inc (sortU l)
  | [] => List.Pairwise.nil
  | x :: xs => insU_inc x _ (sortU_inc xs)
/-- a list of places from 0 to n that holds all these -/
structure Good (L : List Int) (n : Int) (T : List Int) : Prop where
  inc : Inc L
  rng : ∀ t ∈ L, 0 ≤ t ∧ t ≤ n
  zero : (0 : Int) ∈ L
  all : ∀ t ∈ T, 0 ≤ t → t ≤ n → t ∈ L
theorem Good.head {L : List Int} {n : Int} {T : List Int} (g : Good L n T) : ∃ l, L = 0 :: l := by
  obtain ⟨g1, g2, g3, g4⟩ := g
  cases L with
  | nil => cases g3
  | cons x l =>
    obtain ⟨h1, h2⟩ := List.pairwise_cons.mp g1
    rcases List.mem_cons.mp g3 with e | e
    · exact ⟨l, by rw [← e]⟩
    · have := h1 0 e
      have := (g2 x (by simp)).1
      omega
theorem marks_good (p : Par) (claims : List (Option Fm)) {n : Int} (h0 : 0 ≤ n) : Good (p.marks claims n) n (p.raw claims n) where
  inc := sortU_inc _
  rng t ht := marks_in_range ht
  zero := (sortUmem _ _).mpr (List.mem_filter.mpr ⟨by simp [Par.raw], by simp [h0]⟩)
  all t ht h1 h2 := (sortUmem _ _).mpr (List.mem_filter.mpr ⟨ht, by simp [h1, h2]⟩)
/-- near one of the five places -/
def Nr (n t : Int) (k : Int) : Prop := (0 - k ≤ t ∧ t ≤ k) ∨ (n / 3 - k ≤ t ∧ t ≤ n / 3 + k) ∨ (n / 2 - k ≤ t ∧ t ≤ n / 2 + k) ∨ (n * 2 / 3 - k ≤ t ∧ t ≤ n * 2 / 3 + k) ∨ (n - k ≤ t ∧ t ≤ n + k)
theorem turns_near {p q : Nat} {z : Int} : ∀ f : Fm, f.ok p q → ∀ t ∈ f.atoms.flatMap (Fm.turns z), Nr z t 4
  | .fact i, _, t, h => by simp [Fm.atoms, Fm.turns] at h
  | .lies i, _, t, h => by simp [Fm.atoms, Fm.turns] at h
  | .odd, _, t, h => by simp [Fm.atoms, Fm.turns] at h
  | .liars k, o, t, h => by
    have h : t = k := by simpa [Fm.atoms, Fm.turns] using h
    have o : 1 ≤ k ∧ k ≤ 4 := o
    unfold Nr
    omega
  | .honest k, o, t, h => by
    have h : t = z - k + 1 := by simpa [Fm.atoms, Fm.turns] using h
    have o : 1 ≤ k ∧ k ≤ 4 := o
    unfold Nr
    omega
  | .share a b, o, t, h => by
    have h : t = -(-a * z / b) := by simpa [Fm.atoms, Fm.turns] using h
    unfold Nr
    rcases o with ⟨rfl, rfl⟩ | ⟨rfl, rfl⟩ | ⟨rfl, rfl⟩ <;> omega
  | .not f, o, t, h => turns_near f o t h
  | .and f g, o, t, h => by
    simp only [Fm.atoms, List.flatMap_append, List.mem_append] at h
    exact h.elim (turns_near f o.1 t) (turns_near g o.2 t)
  | .or f g, o, t, h => by
    simp only [Fm.atoms, List.flatMap_append, List.mem_append] at h
    exact h.elim (turns_near f o.1 t) (turns_near g o.2 t)
theorem turnsC_mem {z t : Int} {o : Option Fm} (h : t ∈ turnsC z o) : ∃ f u, o = some f ∧ u ∈ f.atoms.flatMap (Fm.turns z) ∧ (t = u ∨ t = u + 1) := by
  cases o with
  | none => cases h
  | some f =>
    obtain ⟨a, ha, h1⟩ := List.mem_flatMap.mp h
    obtain ⟨u, hu, h2⟩ := List.mem_flatMap.mp h1
    exact ⟨f, u, rfl, List.mem_flatMap.mpr ⟨a, ha, hu⟩, by simpa using h2⟩
theorem raw_near {p : Par} (ok : p.ok) {n t : Int} (h : t ∈ p.raw [] n) : Nr n t 10 := by
  unfold Par.raw at h
  rw [List.append_nil] at h
  rcases List.mem_append.mp h with h | h
  · rcases List.mem_append.mp h with h | h
    · rcases List.mem_append.mp h with h | h
      · have h : t = 0 ∨ t = 1 ∨ t = n := by simpa using h
        unfold Nr
        omega
      · obtain ⟨o, ho, h1⟩ := List.mem_flatMap.mp h
        cases o with
        | none => cases h1
        | some f =>
          have := turns_near f (ok.each f ho).1 t h1
          unfold Nr at this ⊢
          omega
    · obtain ⟨f, u, e, hu, ht⟩ := turnsC_mem h
      have := turns_near f (ok.crowd f e).1 u hu
      unfold Nr at this ⊢
      omega
  · have l := ok.len
    cases hm : p.most with
    | none => rw [hm] at h; cases h
    | some m =>
      rw [hm] at h
      obtain ⟨j, hj, rfl⟩ := List.mem_map.mp h
      have := List.mem_range.mp hj
      have := ok.most m hm
      unfold Nr
      omega
theorem spots_good {p : Par} (ok : p.ok) {n : Int} (h0 : 0 ≤ n) : Good (spots n) n (p.raw [] n) where
  inc := (sortU_inc _).sublist List.filter_sublist
  rng t ht := spots_range ht
  zero := List.mem_filter.mpr ⟨(sortUmem _ _).mpr (List.mem_flatMap.mpr ⟨0, by simp [near], intsR_mem.mpr (by omega)⟩), by simp [h0]⟩
  all t ht h1 h2 := by
    refine List.mem_filter.mpr ⟨(sortUmem _ _).mpr (List.mem_flatMap.mpr ?_), by simp [h1, h2]⟩
    have := raw_near ok ht
    unfold Nr at this
    rcases this with h | h | h | h | h
    · exact ⟨0, by simp [near], intsR_mem.mpr (by omega)⟩
    · exact ⟨n / 3, by simp [near], intsR_mem.mpr (by omega)⟩
    · exact ⟨n / 2, by simp [near], intsR_mem.mpr (by omega)⟩
    · exact ⟨n * 2 / 3, by simp [near], intsR_mem.mpr (by omega)⟩
    · exact ⟨n, by simp [near], intsR_mem.mpr (by omega)⟩
def Par.count (p : Par) (n : Int) : Int := ((rowsB p.facts).map fun fs => ((rowsB p.singles.length).map fun ls => cnt (fun x => p.can fs ls x n) 0 (n + 1).toNat).sum).sum
theorem sum_flat {α β : Type} (g : β → Int) (f : α → List β) : ∀ l : List α, ((l.flatMap f).map g).sum = (l.map fun x => ((f x).map g).sum).sum
  | [] => rfl
  | x :: l => by rw [List.flatMap_cons, List.map_append, List.sum_append, List.map_cons, List.sum_cons, sum_flat g f l]
theorem sum_same {α : Type} {f g : α → Int} {l : List α} (h : ∀ x ∈ l, f x = g x) : (l.map f).sum = (l.map g).sum := by rw [List.map_congr_left h]
theorem good_pairs {L T : List Int} {n : Int} (g : Good L n T) : ∀ q ∈ pairsOf L n, q.1 < q.2 ∧ q.2 ≤ n + 1 ∧ q.1 ∈ L ∧ ∀ t ∈ L, ¬ (q.1 < t ∧ t < q.2) := pairs_next L n g.inc fun t ht => (g.rng t ht).2
theorem good_per {p : Par} (ok : p.ok) {fs ls : List Bool} (hl : ls.length = p.singles.length) {L : List Int} {n : Int} (g : Good L n (p.raw [] n)) {q : Int × Int} (hq : q ∈ pairsOf L n) : Per (fun x => p.can fs ls x n) q.1 (q.2 - q.1).toNat :=
  have h := good_pairs g q hq
  per_of ok hl g.all (g.rng _ h.2.2.1).1 h
theorem good_sum {L T : List Int} {n : Int} (g : Good L n T) (c : Int → Bool) : ((pairsOf L n).map fun q => cnt c q.1 (q.2 - q.1).toNat).sum = cnt c 0 (n + 1).toNat := by
  obtain ⟨l, e⟩ := g.head
  have h1 := g.inc
  have h2 := g.rng
  rw [e] at h1 h2 ⊢
  rw [pairs_sum c l 0 n h1 fun t ht => (h2 t ht).2]
  congr 2
  omega
theorem number_count {p : Par} (ok : p.ok) {n : Int} (h0 : 0 ≤ n) : p.number n = p.count n := by
  have g := marks_good p [] h0
  unfold Par.number Par.quads Par.count
  rw [sum_flat]
  refine sum_same fun fs _ => ?_
  rw [sum_flat]
  refine sum_same fun ls hls => ?_
  rw [sum_flat, ← good_sum g]
  exact sum_same fun q hq => seg_sum (good_pairs g q hq).1 (good_per ok (rowsB_len _ _ hls) g hq)
theorem parts_count {p : Par} (ok : p.ok) {n : Int} (h0 : 0 ≤ n) : ((p.parts n).map Qd.b).sum = p.count n := by
  have g := spots_good ok h0
  unfold Par.parts Par.count
  rw [sum_flat]
  refine sum_same fun fs _ => ?_
  rw [sum_flat]
  refine sum_same fun ls hls => ?_
  rw [sum_flat, ← good_sum g]
  exact sum_same fun q hq => part_sum (good_pairs g q hq).1 (good_per ok (rowsB_len _ _ hls) g hq)
theorem toksAll_cons (x : D) (xs : List D) : PySem.W.keyToksAll (x :: xs) = .inl 1 :: (PySem.W.keyToks x ++ PySem.W.keyToksAll xs) := by rw [PySem.W.keyToksAll]
theorem toksAll_nil : PySem.W.keyToksAll [] = [.inl 0] := by rw [PySem.W.keyToksAll]
theorem toks_bool (b : Bool) : PySem.W.keyToks (.bool b) = [.inl (if b = true then 1 else 0)] := by rw [PySem.W.keyToks]
theorem toks_int (i : Int) : PySem.W.keyToks (.int i) = [.inl i] := by rw [PySem.W.keyToks]
theorem toks_tup (xs : List D) : PySem.W.keyToks (.tuple xs) = PySem.W.keyToksAll xs := by rw [PySem.W.keyToks]
theorem toks_bools : ∀ (l l' : List Bool) (r r' : List (Int ⊕ List Nat)), PySem.W.keyToksAll (l.map .bool) ++ r = PySem.W.keyToksAll (l'.map .bool) ++ r' → l = l' ∧ r = r'
  | [], [], r, r', h => by simpa [toksAll_nil] using h
  | [], b :: l', r, r', h => by simp [toksAll_nil, toksAll_cons] at h
  | b :: l, [], r, r', h => by simp [toksAll_nil, toksAll_cons] at h
  | b :: l, b' :: l', r, r', h => by
    simp only [List.map_cons, toksAll_cons, toks_bool, List.cons_append, List.cons.injEq, true_and, List.nil_append, Sum.inl.injEq] at h
    obtain ⟨h1, h2⟩ := h
    obtain ⟨h3, h4⟩ := toks_bools l l' r r' h2
    have : b = b' := by cases b <;> cases b' <;> simp at h1 ⊢
    exact ⟨by rw [this, h3], h4⟩
theorem toks_tr (t : Tr) : PySem.W.keyToks t.d = .inl 1 :: (PySem.W.keyToksAll (t.fs.map .bool) ++ (.inl 1 :: (PySem.W.keyToksAll (t.ls.map .bool) ++ [.inl 1, .inl t.m, .inl 0]))) := by
  unfold Tr.d bD
  rw [toks_tup, toksAll_cons, toksAll_cons, toksAll_cons, toksAll_nil, toks_int, toks_tup, toks_tup]
  rfl
theorem toks_inj {t u : Tr} (h : PySem.W.keyToks t.d = PySem.W.keyToks u.d) : t = u := by
  rw [toks_tr, toks_tr] at h
  obtain ⟨h1, h2⟩ := toks_bools _ _ _ _ (List.cons.inj h).2
  obtain ⟨h3, h4⟩ := toks_bools _ _ _ _ (List.cons.inj h2).2
  obtain ⟨a, b, c⟩ := t
  obtain ⟨a', b', c'⟩ := u
  dsimp only at h1 h3 h4
  simp only [List.cons.injEq, Sum.inl.injEq, true_and, and_true] at h4
  rw [h1, h3, h4]
theorem leT_eq (t u : Tr) : leT t u = !PySem.W.dataLt u.d t.d := rfl
theorem leT_anti {t u : Tr} (h1 : leT t u = true) (h2 : leT u t = true) : t = u := by
  rw [leT_eq, Bool.not_eq_true'] at h1 h2
  exact toks_inj (PyProof.Rows.lex_total _ _ h2 h1)
theorem leT_trans (a b c : Tr) (h1 : leT a b = true) (h2 : leT b c = true) : leT a c = true := by
  rw [leT_eq, Bool.not_eq_true'] at h1 h2 ⊢
  cases h : PySem.W.dataLt c.d a.d with
  | false => rfl
  | true =>
    rcases PyProof.Rows.lex_negTrans (O := PyProof.Rows.itemOrd) (PySem.W.keyToks c.d) (PySem.W.keyToks b.d) (PySem.W.keyToks a.d) h with z | z
    · exact absurd (z.symm.trans h2) (by simp)
    · exact absurd (z.symm.trans h1) (by simp)
theorem leT_total (a b : Tr) : (leT a b || leT b a) = true := by
  rw [leT_eq, leT_eq]
  cases h : PySem.W.dataLt b.d a.d with
  | false => rfl
  | true =>
    cases h2 : PySem.W.dataLt a.d b.d with
    | false => rfl
    | true =>
      have := PyProof.Rows.lex_trans _ _ _ h h2
      rw [PyProof.Rows.lex_irrefl] at this
      cases this
theorem leT_m (fs ls : List Bool) (a b : Int) : leT ⟨fs, ls, a⟩ ⟨fs, ls, b⟩ = decide (a ≤ b) := by
  rw [leT_eq]
  unfold PySem.W.dataLt
  rw [toks_tr, toks_tr]
  dsimp only
  rw [PyProof.Rows.lex_self, PySem.W.lex_pre, PyProof.Rows.lex_self, PySem.W.lex_pre, PyProof.Rows.lex_self]
  by_cases h : a = b
  · subst h
    rw [PyProof.Rows.lex_self, PyProof.Rows.lex_irrefl]
    simp
  · have e : PyProof.Rows.lexLt PyProof.Rows.itemOrd [Sum.inl b, Sum.inl 0] [Sum.inl a, Sum.inl 0] = decide (b < a) := by
      rw [PyProof.Rows.lex_diff (O := PyProof.Rows.itemOrd) (by intro z; exact h (Sum.inl.inj z).symm)]
      rfl
    rw [e]
    by_cases c : b < a
    · have : ¬ a ≤ b := by omega
      simp [c, this]
    · have : a ≤ b := by omega
      simp [c, this]
theorem minT_le : ∀ (l : List Tr) (t : Tr), minT t l ∈ t :: l ∧ ∀ y ∈ t :: l, leT (minT t l) y = true
  | [], t => ⟨by simp [minT], fun y hy => by
    have : y = t := by simpa using hy
    subst this
    show leT y y = true
    have := leT_total y y
    simpa using this⟩
  | u :: l, t => by
    have e2 : minT t (u :: l) = minT (if PySem.W.dataLt u.d t.d then u else t) l := rfl
    rw [e2]
    have tot := leT_total t u
    cases h : PySem.W.dataLt u.d t.d with
    | true =>
      rw [if_pos rfl]
      obtain ⟨h1, h2⟩ := minT_le l u
      refine ⟨List.mem_cons_of_mem _ h1, fun y hy => ?_⟩
      rcases List.mem_cons.mp hy with e | hy
      · subst e
        have : leT y u = false := by rw [leT_eq, h]; rfl
        rw [this] at tot
        exact leT_trans _ _ _ (h2 u (by simp)) (by simpa using tot)
      · exact h2 y hy
    | false =>
      rw [if_neg (by simp)]
      obtain ⟨h1, h2⟩ := minT_le l t
      refine ⟨?_, fun y hy => ?_⟩
      · rcases List.mem_cons.mp h1 with e | e
        · rw [e]; simp
        · exact List.mem_cons_of_mem _ (List.mem_cons_of_mem _ e)
      · rcases List.mem_cons.mp hy with e | hy
        · subst e; exact h2 y (by simp)
        · rcases List.mem_cons.mp hy with e | hy
          · subst e
            exact leT_trans _ _ _ (h2 t (by simp)) (by rw [leT_eq, h]; rfl)
          · exact h2 y (List.mem_cons_of_mem _ hy)
theorem head_le {l : List Tr} {t : Tr} (h : (l.mergeSort leT).head? = some t) : t ∈ l ∧ ∀ y ∈ l, leT t y = true := by
  have s := List.pairwise_mergeSort (le := leT) leT_trans leT_total l
  have perm := List.mergeSort_perm l leT
  cases e : l.mergeSort leT with
  | nil => rw [e] at h; cases h
  | cons x xs =>
    rw [e] at h s perm
    have : x = t := by simpa using h
    subst this
    refine ⟨perm.mem_iff.mp (by simp), fun y hy => ?_⟩
    rcases List.mem_cons.mp (perm.mem_iff.mpr hy) with z | z
    · subst z
      have := leT_total y y
      simpa using this
    · exact (List.pairwise_cons.mp s).1 y z
theorem pairs_cover : ∀ (l : List Int) (x n m : Int), Inc (x :: l) → (∀ t ∈ x :: l, t ≤ n) → x ≤ m → m ≤ n → ∃ q ∈ pairsOf (x :: l) n, q.1 ≤ m ∧ m < q.2
  | [], x, n, m, _, _, h1, h2 => ⟨(x, n + 1), by rw [pairs_one]; simp, h1, by show m < n + 1; omega⟩
  | y :: l, x, n, m, hi, hb, h1, h2 => by
    by_cases c : m < y
    · exact ⟨(x, y), by rw [pairs_cons]; simp, h1, c⟩
    · obtain ⟨q, hq, h3⟩ := pairs_cover l y n m (List.pairwise_cons.mp hi).2 (fun t ht => hb t (List.mem_cons_of_mem _ ht)) (by omega) h2
      exact ⟨q, by rw [pairs_cons]; exact List.mem_cons_of_mem _ hq, h3⟩
theorem good_cover {L T : List Int} {n m : Int} (g : Good L n T) (h1 : 0 ≤ m) (h2 : m ≤ n) : ∃ q ∈ pairsOf L n, q.1 ≤ m ∧ m < q.2 := by
  obtain ⟨l, e⟩ := g.head
  have h3 := g.inc
  have h4 := g.rng
  rw [e] at h3 h4 ⊢
  exact pairs_cover l 0 n m h3 (fun t ht => (h4 t ht).2) h1 h2
theorem per_down {c : Int → Bool} {lo : Int} {k : Nat} (h : Per c lo k) : ∀ (j : Nat) (x : Int), lo ≤ x → x + 2 * j < lo + k → c x = c (x + 2 * j)
  | 0, x, _, _ => by simp
  | j + 1, x, h1, h2 => by
    have a := h x h1 (by omega)
    have b := per_down h j (x + 2) (by omega) (by omega)
    have e : x + 2 + 2 * (j : Int) = x + 2 * ((j + 1 : Nat) : Int) := by omega
    rw [a, b, e]
theorem per_first {c : Int → Bool} {lo hi m : Int} (h : Per c lo (hi - lo).toNat) (h1 : lo ≤ m) (h2 : m < hi) : ∃ x, (x = lo ∨ x = lo + 1) ∧ x ≤ m ∧ c x = c m := by
  refine ⟨lo + (m - lo) % 2, by omega, by omega, ?_⟩
  have := per_down h ((m - lo) / 2).toNat (lo + (m - lo) % 2) (by omega) (by omega)
  have e : lo + (m - lo) % 2 + 2 * (((m - lo) / 2).toNat : Int) = m := by omega
  rw [e] at this
  exact this
/-- a world that can be -/
structure Wd (p : Par) (n : Int) (t : Tr) : Prop where
  fs : t.fs.length = p.facts
  ls : t.ls.length = p.singles.length
  lo : 0 ≤ t.m
  hi : t.m ≤ n
  can : p.can t.fs t.ls t.m n = true
def Qd.t (q : Qd) : Tr := ⟨q.fs, q.ls, q.a⟩
theorem seg_mem {p : Par} {n : Int} {fs ls : List Bool} {r : Int × Int} {q : Qd} : q ∈ segQ p n fs ls r ↔ ∃ x, (x = r.1 ∨ x = r.1 + 1) ∧ x < r.2 ∧ p.can fs ls x n = true ∧ q = ⟨fs, ls, x, r.2 - 1 - (r.2 - 1 - x) % 2⟩ := by
  unfold segQ
  rw [List.mem_flatMap]
  constructor
  · rintro ⟨x, hx, h⟩
    split at h
    · rename_i c
      have c' : x < r.2 ∧ p.can fs ls x n = true := by simpa using c
      exact ⟨x, by simpa using hx, c'.1, c'.2, by simpa using h⟩
    · cases h
  · rintro ⟨x, h1, h2, h3, rfl⟩
    exact ⟨x, by simpa using h1, by simp [h2, h3]⟩
theorem quads_in {p : Par} {claims : List (Option Fm)} {n : Int} (h0 : 0 ≤ n) {q : Qd} (h : q ∈ p.quads claims n) : Wd p n q.t := by
  obtain ⟨fs, hfs, h⟩ := List.mem_flatMap.mp h
  obtain ⟨ls, hls, h⟩ := List.mem_flatMap.mp h
  obtain ⟨r, hr, h⟩ := List.mem_flatMap.mp h
  obtain ⟨x, h1, h2, h3, rfl⟩ := seg_mem.mp h
  have g := marks_good p claims h0
  have hp := good_pairs g r hr
  have hg := g.rng _ hp.2.2.1
  exact ⟨rowsB_len _ _ hfs, rowsB_len _ _ hls, by show 0 ≤ x; omega, by show x ≤ n; omega, h3⟩
theorem quads_cover {p : Par} (ok : p.ok) {n : Int} {t : Tr} (h : Wd p n t) : ∃ q ∈ p.quads [] n, leT q.t t = true := by
  have h0 : 0 ≤ n := Int.le_trans h.lo h.hi
  have g := marks_good p [] h0
  obtain ⟨r, hr, h1, h2⟩ := good_cover g h.lo h.hi
  obtain ⟨x, hx, hxm, hc⟩ := per_first (good_per ok h.ls (fs := t.fs) g hr) h1 h2
  rw [h.can] at hc
  refine ⟨⟨t.fs, t.ls, x, r.2 - 1 - (r.2 - 1 - x) % 2⟩, List.mem_flatMap.mpr ⟨t.fs, rowsB_all _ _ h.fs, List.mem_flatMap.mpr ⟨t.ls, rowsB_all _ _ h.ls, List.mem_flatMap.mpr ⟨r, hr, seg_mem.mpr ⟨x, hx, by omega, hc, rfl⟩⟩⟩⟩, ?_⟩
  show leT ⟨t.fs, t.ls, x⟩ ⟨t.fs, t.ls, t.m⟩ = true
  rw [leT_m]
  exact decide_eq_true hxm
theorem part_mem {p : Par} {n : Int} {fs ls : List Bool} {r : Int × Int} {q : Qd} : q ∈ partQ p n fs ls r ↔ ∃ x, (r.1 ≤ x ∧ x < triQ r.2 r.1) ∧ p.can fs ls x n = true ∧ q = ⟨fs, ls, x, sizeQ r.1 r.2 x⟩ := by
  unfold partQ
  rw [List.mem_flatMap]
  constructor
  · rintro ⟨x, hx, h⟩
    split at h
    · rename_i c
      exact ⟨x, intsR_mem.mp hx, c, by simpa using h⟩
    · cases h
  · rintro ⟨x, h1, h3, rfl⟩
    exact ⟨x, intsR_mem.mpr h1, by simp [h3]⟩
theorem tri_le (hi lo : Int) : triQ hi lo ≤ hi := by
  unfold triQ
  split <;> omega
theorem tri_ge {hi lo x : Int} (h : x < hi) (h2 : x ≤ lo + 1) : x < triQ hi lo := by
  unfold triQ
  split <;> omega
theorem parts_in {p : Par} (ok : p.ok) {n : Int} (h0 : 0 ≤ n) {q : Qd} (h : q ∈ p.parts n) : Wd p n q.t := by
  obtain ⟨fs, hfs, h⟩ := List.mem_flatMap.mp h
  obtain ⟨ls, hls, h⟩ := List.mem_flatMap.mp h
  obtain ⟨r, hr, h⟩ := List.mem_flatMap.mp h
  obtain ⟨x, h1, h3, rfl⟩ := part_mem.mp h
  have g := spots_good ok h0
  have hp := good_pairs g r hr
  have hg := g.rng _ hp.2.2.1
  have ht := tri_le r.2 r.1
  exact ⟨rowsB_len _ _ hfs, rowsB_len _ _ hls, by show 0 ≤ x; omega, by show x ≤ n; omega, h3⟩
theorem parts_cover {p : Par} (ok : p.ok) {n : Int} {t : Tr} (h : Wd p n t) : ∃ q ∈ p.parts n, leT q.t t = true := by
  have h0 : 0 ≤ n := Int.le_trans h.lo h.hi
  have g := spots_good ok h0
  obtain ⟨r, hr, h1, h2⟩ := good_cover g h.lo h.hi
  obtain ⟨x, hx, hxm, hc⟩ := per_first (good_per ok h.ls (fs := t.fs) g hr) h1 h2
  rw [h.can] at hc
  refine ⟨⟨t.fs, t.ls, x, sizeQ r.1 r.2 x⟩, List.mem_flatMap.mpr ⟨t.fs, rowsB_all _ _ h.fs, List.mem_flatMap.mpr ⟨t.ls, rowsB_all _ _ h.ls, List.mem_flatMap.mpr ⟨r, hr, part_mem.mpr ⟨x, ⟨by omega, tri_ge (by omega) (by omega)⟩, hc, rfl⟩⟩⟩⟩, ?_⟩
  show leT ⟨t.fs, t.ls, x⟩ ⟨t.fs, t.ls, t.m⟩ = true
  rw [leT_m]
  exact decide_eq_true hxm
/-- the first world, by the law's own parts -/
def firstOf : List Tr → Option Tr
  | [] => none
  | t :: l => some (minT t l)
def Par.firstL (p : Par) (n : Int) : Option Tr := firstOf ((p.parts n).map Qd.t)
theorem first_eq {p : Par} (ok : p.ok) {n : Int} (h0 : 0 ≤ n) : p.first n = p.firstL n := by
  have e1 : p.first n = (((p.quads [] n).map Qd.t).mergeSort leT).head? := rfl
  have hB : ∀ t ∈ (p.quads [] n).map Qd.t, ∃ u ∈ (p.parts n).map Qd.t, leT u t = true := fun t ht => by
    obtain ⟨q, hq, rfl⟩ := List.mem_map.mp ht
    obtain ⟨r, hr, h⟩ := parts_cover ok (quads_in h0 hq)
    exact ⟨r.t, List.mem_map.mpr ⟨r, hr, rfl⟩, h⟩
  have hA : ∀ t ∈ (p.parts n).map Qd.t, ∃ u ∈ (p.quads [] n).map Qd.t, leT u t = true := fun t ht => by
    obtain ⟨q, hq, rfl⟩ := List.mem_map.mp ht
    obtain ⟨r, hr, h⟩ := quads_cover ok (parts_in ok h0 hq)
    exact ⟨r.t, List.mem_map.mpr ⟨r, hr, rfl⟩, h⟩
  rw [e1]
  unfold Par.firstL
  generalize (p.quads [] n).map Qd.t = A at hA hB ⊢
  generalize (p.parts n).map Qd.t = B at hA hB ⊢
  cases hs : (A.mergeSort leT).head? with
  | none =>
    have : A.mergeSort leT = [] := by simpa using hs
    have hn : A = [] := by
      have perm := List.mergeSort_perm A leT
      rw [this] at perm
      exact List.nil_perm.mp perm
    cases B with
    | nil => rfl
    | cons t l =>
      obtain ⟨u, hu, _⟩ := hA t (by simp)
      rw [hn] at hu
      cases hu
  | some t =>
    obtain ⟨h1, h2⟩ := head_le hs
    cases B with
    | nil =>
      obtain ⟨u, hu, _⟩ := hB t h1
      cases hu
    | cons b l =>
      obtain ⟨m1, m2⟩ := minT_le l b
      obtain ⟨u, hu, hut⟩ := hB t h1
      obtain ⟨v, hv, hvm⟩ := hA (minT b l) m1
      have a1 : leT t (minT b l) = true := leT_trans _ _ _ (h2 v hv) hvm
      have a2 : leT (minT b l) t = true := leT_trans _ _ _ (m2 u hu) hut
      rw [leT_anti a1 a2]
      rfl
end Mi
end
section
set_option maxHeartbeats 4000000
namespace Mi
open PySem
structure HasDeck0 (P : Prg) : Prop where
  deck : P.find "_law_deck" = some f_law_deck
section
variable {P : Prg} {st : Store}
theorem deck_ok (H : HasDeck0 P) (c : Int) {t : Nat} {k : Nat} (hk : 1 ≤ k) : ∃ L : List D, call P k "_law_deck" [.d (.int c), .d (.int t)] st = .ok (.d (.list L)) st ∧ Dk t L := by
  obtain ⟨k, rfl, _⟩ := fuel (c := 0) hk
  have r1 := Int.emod_nonneg c (show (2147483579 : Int) ≠ 0 by decide)
  have r2 := Int.emod_lt_of_pos c (show (0 : Int) < 2147483579 by decide)
  have p1 : b2 .pow (.int 10) (.int 18) = some (.int 1000000000000000000) := by rfl
  have m1 := b2_mod (i := c) (j := 2147483579) (by decide)
  rw [call_eq H.deck]
  by_cases h : 1000000000000000000 ≤ c
  · refine ⟨[.int (c - 1000000000000000000), .int (c % 2147483579), .int t], ?_, _, _, _, rfl, r1, by omega, by omega, by omega⟩
    simp [run_of, f_law_deck, start, mVar, p1, m1, b2_ge, b2_sub, h, mLst, allM, dOf]
  · refine ⟨[.int 0, .int (c % 2147483579), .int t], ?_, _, _, _, rfl, r1, by omega, by omega, by omega⟩
    simp [run_of, f_law_deck, start, mVar, p1, m1, b2_ge, b2_sub, h, mLst, allM, dOf]
/-- a walk in which is drawn -/
theorem for_draws {α : Type} {t : Tg} {bd : MS} {k : Nat} {ys : List Cell} {a : Nat} {enc : α → D} {C : Env → Prop} (hk : k < st.length) : ∀ (L : List α) (env : Env) (b : Nat) (c : List D), b + a * L.length ≤ 1000000 → Dk b c → C env →
    (∀ x ∈ L, ∀ env, C env → ∃ env1, tset t env (enc x) = some env1 ∧ ∀ (b : Nat) (c : List D), b + a ≤ 1000000 → Dk b c → ∃ env2 c', bd env1 (Tc st k c ys) = .ok (.nx env2) (Tc st k c' ys) ∧ Dk (b + a) c' ∧ C env2) →
    ∃ env' c', forGo t bd (L.map enc) env (Tc st k c ys) = .ok (.nx env') (Tc st k c' ys) ∧ Dk (b + a * L.length) c' ∧ C env'
  | [], env, b, c, _, hD, hC, _ => ⟨env, c, by simp [forGo], by simpa using hD, hC⟩
  | x :: L, env, b, c, hb, hD, hC, h => by
    simp only [List.length_cons, Nat.mul_add, Nat.mul_one] at hb
    obtain ⟨env1, h1, h2⟩ := h x List.mem_cons_self env hC
    obtain ⟨env2, c1, q1, d1, C1⟩ := h2 b c (by omega) hD
    obtain ⟨env', c2, q2, d2, C2⟩ := for_draws (bd := bd) (ys := ys) (enc := enc) hk L env2 (b + a) c1 (by omega) d1 C1 fun y hy => h y (List.mem_cons_of_mem _ hy)
    refine ⟨env', c2, ?_, d2.more (by simp only [List.length_cons, Nat.mul_add, Nat.mul_one]; omega), C2⟩
    simp [forGo, h1, q1, q2]
theorem bools_of : ∀ vs : List D, (∀ x ∈ vs, ∃ b, x = .bool b) → ∃ l : List Bool, vs = l.map .bool
  | [], _ => ⟨[], rfl⟩
  | v :: vs, h => by
    obtain ⟨b, rfl⟩ := h v List.mem_cons_self
    obtain ⟨l, rfl⟩ := bools_of vs fun x hx => h x (List.mem_cons_of_mem _ hx)
    exact ⟨b :: l, rfl⟩
/-- a truth drawn -/
theorem coin {k n : Nat} (H : HasDeck P) (hn : 1 ≤ n) {c ys b env} (hk : k < st.length) (he : ∀ st, mVar 0 env st = .ok (.ref k) st) (hb : b + 1 ≤ 1000000) (hD : Dk b c) : ∃ v c', evE (call P n) (.bin .eq (.call false "_law_pick" [(.var 0), (.cst (.int 2))]) (.cst (.int 0))) env (Tc st k c ys) = .ok (.d v) (Tc st k c' ys) ∧ Dk (b + 1) c' ∧ ∃ b, v = .bool b := by
  obtain ⟨w, c', q, d, r, rfl, ra, rb⟩ := (pick_ok H (s := 2) (by decide) (by decide) (k := k) hn).in (ys := ys) hk hb hD
  exact ⟨.bool (decide (r = 0)), c', by simp [he, q, b2_eq], d, _, rfl⟩
end
end Mi
end
section
set_option maxHeartbeats 4000000
namespace Mi.K03
open PySem
structure HasSome (P : Prg) : Prop extends HasDeck P, HasSpots P, HasSeen P, HasSame P, HasPoss P where
  some_right : P.find "_law_some_right" = some f_law_some_right
def G11 (p : Par) (n : Int) (S : List Int) (k : Nat) (e4 e5 e6 e7 e8 e9 e10 : Option Val) : Env := [some (.ref k), some (.d p.d), some (.d (.int n)), some (.d (iD S)), e4, e5, e6, e7, e8, e9, e10]
abbrev b0s : List S := [.asg (.nm 5) (.bi .tuple (.lcR [9] (.bin .eq (.call false "_law_pick" [(.var 0), (.cst (.int 2))]) (.cst (.int 0))) (.nm 9) [(.idx (.var 1) (.cst (.int 0)))] none)),
    .asg (.nm 6) (.bi .tuple (.lcE [10] (.bin .eq (.call false "_law_pick" [(.var 0), (.cst (.int 2))]) (.cst (.int 0))) (.nm 10) (.idx (.var 1) (.cst (.int 1))) none)),
    .asg (.nm 7) (.ite (.bin .gt (.bin .mod (.var 4) (.cst (.int 3))) (.cst (.int 0))) (.call false "_law_one" [(.var 0), (.var 3)]) (.call false "_law_pick" [(.var 0), (.bin .add (.var 2) (.cst (.int 1)))])),
    .asg (.nm 8) (.call false "_law_can" [(.var 1), (.var 2), (.var 5), (.var 6), (.var 7)]),
    .iff (.not (.call false "_law_same" [(.call false "is_possible" [(.var 1), (.var 2), (.tup [(.var 5), (.var 6), (.var 7)])]), (.var 8)])) [.ret (.cst (.bool false))] []]
section
variable {P : Prg} {st : Store}
theorem turn_one (H : HasSome P) {p : Par} (ok : p.ok) {n : Int} (h0 : 0 ≤ n) (h1 : n ≤ 10 ^ 30) {S : List Int} (hS : S ≠ []) (hS1 : ∀ t ∈ S, 0 ≤ t ∧ t ≤ n) (hS2 : S.length ≤ 1000) {k m : Nat} (hk : k < st.length) (hm : 9 ≤ m) (j : Int) {b : Nat} {c : List D} {e5 e6 e7 e8 e9 e10 : Option Val} (hb : b + 6 ≤ 1000000) (hD : Dk b c) :
    ∃ env2 c', evSs (call P m) b0s (G11 p n S k (some (.d (.int j))) e5 e6 e7 e8 e9 e10) (Tc st k c []) = .ok (.nx env2) (Tc st k c' []) ∧ Dk (b + 6) c' ∧ ∃ e4 e5 e6 e7 e8 e9 e10, env2 = G11 p n S k e4 e5 e6 e7 e8 e9 e10 := by
  have l0 := ok.len
  have l1 := ok.facts
  have hs : sizeLine = 16777216 := sizeLine_eq
  obtain ⟨vs, c1, q1, d1, len1, Q1⟩ := lc_draws (t := .nm 9) (me := evE (call P m) (.bin .eq (.call false "_law_pick" [(.var 0), (.cst (.int 2))]) (.cst (.int 0)))) (env := G11 p n S k (some (.d (.int j))) e5 e6 e7 e8 none e10) (ys := []) (a := 1) (enc := fun j : Nat => PyData.int (j : Nat)) (Q := fun v => ∃ b, v = .bool b) hk (List.range p.facts) [] b c (by simp; omega) hD (fun x hx => by cases hx) (by simp; omega) fun j _ => ⟨_, rfl, fun b' c' hb' hD' => coin H.toHasDeck (by omega) hk (fun st => rfl) hb' hD'⟩
  obtain ⟨fs, rfl⟩ := bools_of vs Q1
  have lf : fs.length = p.facts := by simpa using len1
  rw [List.length_range, Nat.one_mul] at d1
  obtain ⟨ws, c2, q2, d2, len2, Q2⟩ := lc_draws (t := .nm 10) (me := evE (call P m) (.bin .eq (.call false "_law_pick" [(.var 0), (.cst (.int 2))]) (.cst (.int 0)))) (env := G11 p n S k (some (.d (.int j))) (some (.d (bD fs))) e6 e7 e8 e9 none) (ys := []) (a := 1) (enc := sd) (Q := fun v => ∃ b, v = .bool b) hk p.singles [] (b + p.facts) c1 (by omega) d1 (fun x hx => by cases hx) (by simp; omega) fun j _ => ⟨_, rfl, fun b' c' hb' hD' => coin H.toHasDeck (by omega) hk (fun st => rfl) hb' hD'⟩
  obtain ⟨ls, rfl⟩ := bools_of ws Q2
  have ll : ls.length = p.singles.length := by simpa using len2
  rw [Nat.one_mul] at d2
  have s3 : ∃ (x : Int) (c3 : List D), evE (call P m) (.ite (.bin .gt (.bin .mod (.var 4) (.cst (.int 3))) (.cst (.int 0))) (.call false "_law_one" [(.var 0), (.var 3)]) (.call false "_law_pick" [(.var 0), (.bin .add (.var 2) (.cst (.int 1)))])) (G11 p n S k (some (.d (.int j))) (some (.d (bD fs))) (some (.d (bD ls))) e7 e8 e9 e10) (Tc st k c2 []) = .ok (.d (.int x)) (Tc st k c3 []) ∧ Dk (b + 6) c3 ∧ 0 ≤ x ∧ x ≤ n := by
    have hm3 := b2_mod (i := j) (j := 3) (by decide)
    by_cases c0 : 0 < j % 3
    · obtain ⟨x, hx, c3, q3, d3⟩ := one_gen H.toHasDeck (st := Tc st k c2 []) (k := k) (b := b + p.facts + p.singles.length) (n := m) (c := c2) (xs := S.map .int) (v := .d (iD S)) (by omega) (Tc_deck hk) d2 rfl (fun _ => rfl) (by simpa using hS) (by simp; omega) (by omega)
      rw [Tc_set hk] at q3
      obtain ⟨x, hxS, rfl⟩ := List.mem_map.mp hx
      exact ⟨x, c3, by simp [G11, mVar, hm3, b2_gt, c0, q3], d3.more (by omega), hS1 x hxS⟩
    · have hlog : (n + 1).natAbs.log2 < 9000 := by
        have hb := great_small h0 h1
        have h2 : (n + 1).natAbs < 2 ^ 200 := by
          have e200 : (2 : Nat) ^ 200 = 2 * 2 ^ 199 := by rw [← Nat.pow_succ']
          omega
        have := (Nat.log2_lt (show (n + 1).natAbs ≠ 0 by omega)).mpr h2
        omega
      obtain ⟨w, c3, q3, d3, r, rfl, ra, rb⟩ := (pick_ok H.toHasDeck (s := n + 1) (by omega) hlog (k := k) (n := m) (by omega)).in (st := st) (ys := []) hk (b := b + p.facts + p.singles.length) (by omega) d2
      exact ⟨r, c3, by simp [G11, mVar, hm3, b2_gt, c0, b2_add, q3], d3.more (by omega), ra, by omega⟩
  obtain ⟨x, c3, q3, d3, x0, x1⟩ := s3
  refine ⟨G11 p n S k (some (.d (.int j))) (some (.d (bD fs))) (some (.d (bD ls))) (some (.d (.int x))) (some (.d (.bool (p.can fs ls x n)))) e9 e10, c3, ?_, d3, _, _, _, _, _, _, _, rfl⟩
  have e200 : (2 : Nat) ^ 200 = 2 * 2 ^ 199 := by rw [← Nat.pow_succ']
  have hn := great_small h0 h1
  have q4 := lcan_ok H.toHasSeen (st := Tc st k c3 []) (p := p) (fs := fs) (ls := ls) (m := x) (n := n) x0 (by unfold Sm; omega) (by unfold Sm; omega) (by unfold Sm; omega) (by unfold Sm; omega) ok lf ll (k := m) (by omega)
  have q5 := is_possible_ok H.toHasPoss (st := Tc st k c3 []) ok (t := ⟨fs, ls, x⟩) h0 h1 lf ll ⟨x0, x1⟩ hm
  have q6 := same_bool H.toHasSame (st := Tc st k c3 []) (p.can fs ls x n) (p.can fs ls x n) (n := m) (by omega)
  have r1 : evE (call P m) (.bi .tuple (.lcR [9] (.bin .eq (.call false "_law_pick" [(.var 0), (.cst (.int 2))]) (.cst (.int 0))) (.nm 9) [(.idx (.var 1) (.cst (.int 0)))] none)) (G11 p n S k (some (.d (.int j))) e5 e6 e7 e8 e9 e10) (Tc st k c []) = .ok (.d (bD fs)) (Tc st k c1 []) := by
    simp [mLc, mItR, mVar, rng_nat, wipeE, G11, idx, Par.d] at q1 ⊢
    simp [q1, noExc, b1, bD]
  have r2 : evE (call P m) (.bi .tuple (.lcE [10] (.bin .eq (.call false "_law_pick" [(.var 0), (.cst (.int 2))]) (.cst (.int 0))) (.nm 10) (.idx (.var 1) (.cst (.int 1))) none)) (G11 p n S k (some (.d (.int j))) (some (.d (bD fs))) e6 e7 e8 e9 e10) (Tc st k c1 []) = .ok (.d (bD ls)) (Tc st k c2 []) := by
    simp [mLc, mItE, items, mVar, wipeE, G11, idx, Par.d, bD] at q2 ⊢
    simp [q2, noExc, b1]
  rw [show b0s = _ from rfl]
  rw [es_cons, bx_seq, es_asg, bx_asg, r1, R.bind_ok, R.bind_ok]
  dsimp only
  have u5 : (G11 p n S k (some (.d (.int j))) e5 e6 e7 e8 e9 e10).set 5 (some (.d (bD fs))) = G11 p n S k (some (.d (.int j))) (some (.d (bD fs))) e6 e7 e8 e9 e10 := rfl
  rw [u5, es_cons, bx_seq, es_asg, bx_asg, r2, R.bind_ok, R.bind_ok]
  dsimp only
  have u6 : (G11 p n S k (some (.d (.int j))) (some (.d (bD fs))) e6 e7 e8 e9 e10).set 6 (some (.d (bD ls))) = G11 p n S k (some (.d (.int j))) (some (.d (bD fs))) (some (.d (bD ls))) e7 e8 e9 e10 := rfl
  rw [u6, es_cons, bx_seq, es_asg, bx_asg, q3, R.bind_ok, R.bind_ok]
  dsimp only
  simp only [Tr.d] at q5
  simp [G11, mVar, q4, mTup, allM, dOf, q5, q6]
theorem some_right_ok (H : HasSome P) {p : Par} (ok : p.ok) {n : Int} (h0 : 0 ≤ n) (h1 : n ≤ 10 ^ 30) {k m : Nat} (hm : 10 ≤ m) : Draws P m "_law_some_right" [.ref k, .d p.d, .d (.int n)] k 60 fun v => v = .bool true := by
  intro st b c hb hc hD
  obtain ⟨m, rfl, hm'⟩ := fuel (c := 9) hm
  have hk := get_lt hc
  have hst0 := self_tc hc
  have hn := great_small h0 h1
  have e200 : (2 : Nat) ^ 200 = 2 * 2 ^ 199 := by rw [← Nat.pow_succ']
  have qS := spots_ok H.toHasSpots (st := st) (n := n) (x := p.d) (by unfold Sm; omega) (k := m) (by omega)
  have gS := spots_good ok h0
  have lS := spots_len n
  have nS : spots n ≠ [] := fun z => by have := gS.zero; rw [z] at this; cases this
  have rS := gS.rng
  generalize spots n = S at qS lS nS rS
  obtain ⟨env', c', q, d, e4, e5, e6, e7, e8, e9, e10, rfl⟩ := for_draws (st := st) (t := .nm 4) (bd := evSs (call P m) b0s) (k := k) (ys := []) (a := 6) (enc := fun j : Nat => PyData.int (j : Nat)) (C := fun env => ∃ e4 e5 e6 e7 e8 e9 e10, env = G11 p n S k e4 e5 e6 e7 e8 e9 e10) hk (List.range 10) (G11 p n S k none none none none none none none) b c (by simp; omega) hD ⟨_, _, _, _, _, _, _, rfl⟩ fun j _ env ⟨e4, e5, e6, e7, e8, e9, e10, he⟩ => ⟨G11 p n S k (some (.d (.int (j : Nat)))) e5 e6 e7 e8 e9 e10, by rw [he]; rfl, fun b' c' hb' hD' => turn_one H ok h0 h1 nS rS (by omega) hk hm' j hb' hD'⟩
  refine ⟨.bool true, c', ?_, d.more (by simp), rfl⟩
  rw [call_eq H.some_right, run_of rfl]
  have hst : start f_law_some_right [.ref k, .d p.d, .d (.int n)] = [some (.ref k), some (.d p.d), some (.d (.int n)), none, none, none, none, none, none, none, none] := rfl
  rw [hst]
  unfold f_law_some_right
  dsimp only
  have r10 : rngL 0 10 1 = (List.range 10).map fun j : Nat => PyData.int (j : Nat) := by rfl
  rw [← hst0] at q
  simp only [G11] at q
  simp [mVar, qS, mItR, r10, q, Tc_take]
end
end Mi.K03
end
section
set_option maxHeartbeats 4000000
namespace Mi
open PySem
/-- a walk, with what holds before each turn -/
theorem for_inv {α : Type} {t : Tg} {b : MS} {enc : α → D} (E : List α → Env → Store → Prop) : ∀ (post pre : List α), (∀ x ∈ post, True) →
    (∀ pre' x post', pre ++ post = pre' ++ x :: post' → ∀ env st, E pre' env st → ∃ env1 env2 st2, tset t env (enc x) = some env1 ∧ b env1 st = .ok (.nx env2) st2 ∧ E (pre' ++ [x]) env2 st2) →
    ∀ env st, E pre env st → ∃ env' st', forGo t b (post.map enc) env st = .ok (.nx env') st' ∧ E (pre ++ post) env' st'
  | [], pre, _, _, env, st, e => ⟨env, st, by simp [forGo], by simpa using e⟩
  | x :: post, pre, _, h, env, st, e => by
    obtain ⟨env1, env2, st2, h1, h2, h3⟩ := h pre x post rfl env st e
    obtain ⟨env', st', h4, h5⟩ := for_inv E post (pre ++ [x]) (fun _ _ => trivial) (by rw [List.append_assoc]; exact h) env2 st2 h3
    refine ⟨env', st', by simp [forGo, h1, h2, h4], ?_⟩
    rw [List.append_assoc] at h5
    exact h5
theorem for_inv0 {α : Type} {t : Tg} {b : MS} {enc : α → D} (E : List α → Env → Store → Prop) (L : List α)
    (h : ∀ pre x post, L = pre ++ x :: post → ∀ env st, E pre env st → ∃ env1 env2 st2, tset t env (enc x) = some env1 ∧ b env1 st = .ok (.nx env2) st2 ∧ E (pre ++ [x]) env2 st2)
    (env : Env) (st : Store) (e : E [] env st) : ∃ env' st', forGo t b (L.map enc) env st = .ok (.nx env') st' ∧ E L env' st' :=
  for_inv E L [] (fun _ _ => trivial) h env st e
def worldsIn (p : Par) (n : Int) (fs ls : List Bool) : List Tr := (intsR 0 (n + 1)).flatMap fun m => if p.can fs ls m n then [⟨fs, ls, m⟩] else []
def Par.allW (p : Par) (n : Int) : List Tr := (rowsB p.facts).flatMap fun fs => (rowsB p.singles.length).flatMap fun ls => worldsIn p n fs ls
theorem allW_mem {p : Par} {n : Int} {t : Tr} : t ∈ p.allW n ↔ Wd p n t := by
  unfold Par.allW worldsIn
  constructor
  · intro h
    obtain ⟨fs, hfs, h⟩ := List.mem_flatMap.mp h
    obtain ⟨ls, hls, h⟩ := List.mem_flatMap.mp h
    obtain ⟨m, hm, h⟩ := List.mem_flatMap.mp h
    have hm := intsR_mem.mp hm
    split at h
    · rename_i c
      have : t = ⟨fs, ls, m⟩ := by simpa using h
      subst this
      exact ⟨rowsB_len _ _ hfs, rowsB_len _ _ hls, hm.1, by show m ≤ n; omega, c⟩
    · cases h
  · intro h
    refine List.mem_flatMap.mpr ⟨t.fs, rowsB_all _ _ h.fs, List.mem_flatMap.mpr ⟨t.ls, rowsB_all _ _ h.ls, List.mem_flatMap.mpr ⟨t.m, intsR_mem.mpr ⟨h.lo, by have := h.hi; omega⟩, ?_⟩⟩⟩
    rw [if_pos h.can]
    simp
/-- strictly before -/
def LtT (a b : Tr) : Prop := leT a b = true ∧ a ≠ b
theorem sorted_eq : ∀ {l l' : List Tr}, l.Pairwise LtT → l'.Pairwise LtT → (∀ t, t ∈ l ↔ t ∈ l') → l = l'
  | [], [], _, _, _ => rfl
  | [], b :: l', _, _, h => by have := (h b).mpr (by simp); cases this
  | a :: l, [], _, _, h => by have := (h a).mp (by simp); cases this
  | a :: l, b :: l', h1, h2, h => by
    obtain ⟨a1, a2⟩ := List.pairwise_cons.mp h1
    obtain ⟨b1, b2⟩ := List.pairwise_cons.mp h2
    have e : a = b := by
      rcases List.mem_cons.mp ((h a).mp (by simp)) with e | ha
      · exact e
      · rcases List.mem_cons.mp ((h b).mpr (by simp)) with e | hb
        · exact e.symm
        · exact leT_anti (a1 b hb).1 (b1 a ha).1
    subst e
    refine congrArg (a :: ·) (sorted_eq a2 b2 fun t => ?_)
    have ht := h t
    simp only [List.mem_cons] at ht
    constructor
    · intro m
      rcases ht.mp (.inr m) with e | m'
      · exact absurd e.symm (a1 t m).2
      · exact m'
    · intro m
      rcases ht.mpr (.inr m) with e | m'
      · exact absurd e.symm (b1 t m).2
      · exact m'
def ltBs : List Bool → List Bool → Bool
  | x :: xs, y :: ys => (!x && y) || (x == y && ltBs xs ys)
  | _, _ => false
theorem ltBs_ne : ∀ {l l' : List Bool}, ltBs l l' = true → l ≠ l'
  | x :: xs, y :: ys, h, e => by
    simp only [List.cons.injEq] at e
    obtain ⟨rfl, rfl⟩ := e
    cases x <;> simp [ltBs] at h <;> exact ltBs_ne h rfl
  | [], _, h, _ => by simp [ltBs] at h
  | _ :: _, [], h, _ => by simp [ltBs] at h
theorem ltBs_lex : ∀ {l l' : List Bool} (r r' : List (Int ⊕ List Nat)), ltBs l l' = true → PyProof.Rows.lexLt PyProof.Rows.itemOrd (PySem.W.keyToksAll (l'.map .bool) ++ r) (PySem.W.keyToksAll (l.map .bool) ++ r') = false
  | x :: xs, y :: ys, r, r', h => by
    simp only [List.map_cons, toksAll_cons, toks_bool, List.cons_append, List.nil_append]
    rw [PyProof.Rows.lex_self]
    cases x <;> cases y
    · rw [PyProof.Rows.lex_self]
      exact ltBs_lex r r' (by simpa [ltBs] using h)
    · rw [PyProof.Rows.lex_diff (O := PyProof.Rows.itemOrd) (by intro z; simp at z)]
      rfl
    · simp [ltBs] at h
    · rw [PyProof.Rows.lex_self]
      exact ltBs_lex r r' (by simpa [ltBs] using h)
  | [], _, _, _, h => by simp [ltBs] at h
  | _ :: _, [], _, _, h => by simp [ltBs] at h
theorem rowsB_inc : ∀ k, k ≤ 3 → (rowsB k).Pairwise fun a b => ltBs a b = true
  | 0, _ => by decide
  | 1, _ => by decide
  | 2, _ => by decide
  | 3, _ => by decide
  | _ + 4, h => by omega
theorem leT_fs {fs fs' ls ls' : List Bool} {m m' : Int} (h : ltBs fs fs' = true) : LtT ⟨fs, ls, m⟩ ⟨fs', ls', m'⟩ := by
  refine ⟨?_, fun e => ltBs_ne h (congrArg Tr.fs e)⟩
  rw [leT_eq]
  unfold PySem.W.dataLt
  rw [toks_tr, toks_tr]
  dsimp only
  rw [PyProof.Rows.lex_self, ltBs_lex _ _ h]
  rfl
theorem leT_ls {fs ls ls' : List Bool} {m m' : Int} (h : ltBs ls ls' = true) : LtT ⟨fs, ls, m⟩ ⟨fs, ls', m'⟩ := by
  refine ⟨?_, fun e => ltBs_ne h (congrArg Tr.ls e)⟩
  rw [leT_eq]
  unfold PySem.W.dataLt
  rw [toks_tr, toks_tr]
  dsimp only
  rw [PyProof.Rows.lex_self, PySem.W.lex_pre, PyProof.Rows.lex_self, ltBs_lex _ _ h]
  rfl
theorem leT_lt {fs ls : List Bool} {m m' : Int} (h : m < m') : LtT ⟨fs, ls, m⟩ ⟨fs, ls, m'⟩ := by
  refine ⟨by rw [leT_m]; exact decide_eq_true (by omega), fun e => ?_⟩
  have := congrArg Tr.m e
  dsimp only at this
  omega
theorem intsR_inc (lo hi : Int) : (intsR lo hi).Pairwise (· < ·) := by
  unfold intsR
  rw [List.pairwise_map]
  exact List.pairwise_lt_range.imp fun h => by omega
theorem in_mem {p : Par} {n : Int} {fs ls : List Bool} {t : Tr} (h : t ∈ worldsIn p n fs ls) : t.fs = fs ∧ t.ls = ls := by
  obtain ⟨m, _, h⟩ := List.mem_flatMap.mp h
  split at h
  · have : t = ⟨fs, ls, m⟩ := by simpa using h
    subst this
    exact ⟨rfl, rfl⟩
  · cases h
theorem allW_inc {p : Par} (ok : p.ok) (n : Int) : (p.allW n).Pairwise LtT := by
  unfold Par.allW
  rw [List.pairwise_flatMap]
  refine ⟨fun fs _ => ?_, ?_⟩
  · rw [List.pairwise_flatMap]
    refine ⟨fun ls _ => ?_, ?_⟩
    · unfold worldsIn
      rw [List.pairwise_flatMap]
      refine ⟨fun m _ => by split <;> simp, (intsR_inc _ _).imp fun {a b} h x hx y hy => ?_⟩
      split at hx
      · split at hy
        · have hx : x = ⟨fs, ls, a⟩ := by simpa using hx
          have hy : y = ⟨fs, ls, b⟩ := by simpa using hy
          rw [hx, hy]
          exact leT_lt h
        · cases hy
      · cases hx
    · refine (rowsB_inc _ ok.len).imp fun {a b} h x hx y hy => ?_
      obtain ⟨x1, x2⟩ := in_mem hx
      obtain ⟨y1, y2⟩ := in_mem hy
      obtain ⟨_, _, _⟩ := x
      obtain ⟨_, _, _⟩ := y
      dsimp only at x1 x2 y1 y2
      subst x1 x2 y1 y2
      exact leT_ls h
  · refine (rowsB_inc _ (Nat.le_trans ok.facts (by decide))).imp fun {a b} h x hx y hy => ?_
    obtain ⟨_, _, hx⟩ := List.mem_flatMap.mp hx
    obtain ⟨_, _, hy⟩ := List.mem_flatMap.mp hy
    obtain ⟨x1, x2⟩ := in_mem hx
    obtain ⟨y1, y2⟩ := in_mem hy
    obtain ⟨_, _, _⟩ := x
    obtain ⟨_, _, _⟩ := y
    dsimp only at x1 x2 y1 y2
    subst x1 y1
    exact leT_fs h
theorem in_len (p : Par) {n : Int} (h0 : 0 ≤ n) (fs ls : List Bool) : (worldsIn p n fs ls).length ≤ (n + 1).toNat := by
  have h1 := flat_le (c := 1) (f := fun m => if p.can fs ls m n then [(⟨fs, ls, m⟩ : Tr)] else []) (intsR 0 (n + 1)) fun x _ => by split <;> simp
  have h2 : (intsR 0 (n + 1)).length = (n + 1).toNat := by
    unfold intsR
    rw [List.length_map, List.length_range]
    congr 1
    omega
  unfold worldsIn
  omega
theorem rows_le {p : Par} (ok : p.ok) : (rowsB p.facts).length ≤ 4 ∧ (rowsB p.singles.length).length ≤ 8 := by
  have l0 := ok.len
  have l1 := ok.facts
  exact ⟨by rw [rowsB_num]; exact Nat.le_trans (Nat.pow_le_pow_right (by decide) l1) (by decide), by rw [rowsB_num]; exact Nat.le_trans (Nat.pow_le_pow_right (by decide) l0) (by decide)⟩
theorem allW_len {p : Par} (ok : p.ok) {n : Int} (h0 : 0 ≤ n) : (p.allW n).length ≤ 32 * (n + 1).toNat := by
  obtain ⟨n1, n2⟩ := rows_le ok
  have a2 : ∀ fs, ((rowsB p.singles.length).flatMap fun ls => worldsIn p n fs ls).length ≤ 8 * (n + 1).toNat := fun fs => by
    have := flat_le (c := (n + 1).toNat) (f := fun ls => worldsIn p n fs ls) (rowsB p.singles.length) fun ls _ => in_len p h0 fs ls
    exact Nat.le_trans this (by rw [Nat.mul_comm]; exact Nat.mul_le_mul_right _ n2)
  have := flat_le (c := 8 * (n + 1).toNat) (f := fun fs => (rowsB p.singles.length).flatMap fun ls => worldsIn p n fs ls) (rowsB p.facts) fun fs _ => a2 fs
  unfold Par.allW
  refine Nat.le_trans this (Nat.le_trans (Nat.mul_le_mul_left _ n1) ?_)
  omega
structure HasLWorlds (P : Prg) : Prop extends HasSeen P, HasLRows P where
  lworlds : P.find "_law_worlds" = some f_law_worlds
theorem rows_enc (k : Nat) : rowsD k = .list ((rowsB k).map bD) := rfl
section
variable {P : Prg} {st : Store}
def W6 (p : Par) (n : Int) (ref : Nat) (e3 e4 e5 : Option Val) : Env := [some (.d p.d), some (.d (.int n)), some (.ref ref), e3, e4, e5]
abbrev w5 : List S := [.iff (.call false "_law_can" [(.var 0), (.var 1), (.var 3), (.var 4), (.var 5)]) [.app 2 (.tup [(.var 3), (.var 4), (.var 5)])] []]
abbrev w4 : List S := [.for (.nm 5) (.rng [(.bin .add (.var 1) (.cst (.int 1)))]) w5]
abbrev w3 : List S := [.for (.nm 4) (.ex (.call false "_law_rows" [(.bi .len (.idx (.var 0) (.cst (.int 1))))])) w4]
def wI (p : Par) (n : Int) (fs ls : List Bool) (m : Int) : List D := if p.can fs ls m n then [Tr.d ⟨fs, ls, m⟩] else []
theorem wI_flat (p : Par) (n : Int) (fs ls : List Bool) : (worldsIn p n fs ls).map Tr.d = (intsR 0 (n + 1)).flatMap (wI p n fs ls) := by
  unfold worldsIn
  symm
  refine flat_map' _ _ _ _ fun m _ => ?_
  unfold wI
  split <;> rfl
theorem lw5 (H : HasSeen P) {p : Par} (ok : p.ok) {n : Int} (h0 : 0 ≤ n) (h1 : n ≤ 1000) {fs ls : List Bool} (hf : fs.length = p.facts) (hl : ls.length = p.singles.length) {k : Nat} (hk : 4 ≤ k) :
    ∀ m ∈ intsR 0 (n + 1), ∀ env acc, (∃ e5, env = W6 p n st.length (some (.d (bD fs))) (some (.d (bD ls))) e5) → acc.length + (wI p n fs ls m).length ≤ 100000 →
      ∃ env1 env2, tset (.nm 5) env (.int m) = some env1 ∧ evSs (call P k) w5 env1 (st ++ [.lst acc]) = .ok (.nx env2) (st ++ [.lst (acc ++ wI p n fs ls m)]) ∧
        (∃ e5, env2 = W6 p n st.length (some (.d (bD fs))) (some (.d (bD ls))) e5) := by
  intro m hm env acc hC hB
  obtain ⟨e5, rfl⟩ := hC
  obtain ⟨m1, m2⟩ := intsR_mem.mp hm
  have e200 : (2 : Nat) ^ 200 = 2 ^ 20 * 2 ^ 180 := by rw [← Nat.pow_add]
  have e20 : (2 : Nat) ^ 20 = 1048576 := by decide
  have p180 : 0 < 2 ^ 180 := Nat.two_pow_pos 180
  have sm : ∀ x : Int, -10000 ≤ x → x ≤ 10000 → Sm x := fun x a b => by
    unfold Sm
    rw [e200, e20]
    have : x.natAbs < 1048576 := by omega
    exact Nat.lt_of_lt_of_le this (Nat.le_mul_of_pos_right _ p180)
  have q := lcan_ok H (st := st ++ [.lst acc]) (p := p) (fs := fs) (ls := ls) (m := m) (n := n) m1 (sm _ (by omega) (by omega)) (sm _ (by omega) (by omega)) (sm _ (by omega) (by omega)) (sm _ (by omega) (by omega)) ok hf hl hk
  have hA : acc.length < 16777216 := by omega
  refine ⟨_, _, rfl, ?_, ⟨some (.d (.int m)), rfl⟩⟩
  cases c : p.can fs ls m n with
  | true =>
    rw [c] at q
    simp [W6, mVar, q, mApp, mTup, allM, dOf, wI, c, Tr.d, sizeLine_eq, hA]
  | false =>
    rw [c] at q
    simp [W6, mVar, q, wI, c]
theorem lw4 (H : HasSeen P) {p : Par} (ok : p.ok) {n : Int} (h0 : 0 ≤ n) (h1 : n ≤ 1000) {fs : List Bool} (hf : fs.length = p.facts) {k : Nat} (hk : 4 ≤ k) :
    ∀ ls ∈ rowsB p.singles.length, ∀ env acc, (∃ e4 e5, env = W6 p n st.length (some (.d (bD fs))) e4 e5) → acc.length + ((worldsIn p n fs ls).map Tr.d).length ≤ 100000 →
      ∃ env1 env2, tset (.nm 4) env (bD ls) = some env1 ∧ evSs (call P k) w4 env1 (st ++ [.lst acc]) = .ok (.nx env2) (st ++ [.lst (acc ++ (worldsIn p n fs ls).map Tr.d)]) ∧
        (∃ e4 e5, env2 = W6 p n st.length (some (.d (bD fs))) e4 e5) := by
  intro ls hls env acc hC hB
  obtain ⟨e4, e5, rfl⟩ := hC
  obtain ⟨env', h2, e5', h3⟩ := for_acc (enc := PyData.int) (mk := fun a => st ++ [.lst a]) (intsR 0 (n + 1)) (lw5 H ok h0 h1 hf (rowsB_len _ _ hls) hk) (W6 p n st.length (some (.d (bD fs))) (some (.d (bD ls))) e5) acc ⟨e5, rfl⟩ (by rw [← wI_flat]; exact hB)
  rw [← wI_flat] at h2
  refine ⟨W6 p n st.length (some (.d (bD fs))) (some (.d (bD ls))) e5, env', rfl, ?_, _, _, h3⟩
  have er := rng_ints 0 (n + 1)
  simp only [W6] at h2
  simp [W6, mVar, mItR, b2_add, er, h2]
theorem lw3 (H : HasLWorlds P) {p : Par} (ok : p.ok) {n : Int} (h0 : 0 ≤ n) (h1 : n ≤ 1000) {k : Nat} (hk : 4 ≤ k) :
    ∀ fs ∈ rowsB p.facts, ∀ env acc, (∃ e3 e4 e5, env = W6 p n st.length e3 e4 e5) → acc.length + (((rowsB p.singles.length).flatMap fun ls => (worldsIn p n fs ls).map Tr.d)).length ≤ 100000 →
      ∃ env1 env2, tset (.nm 3) env (bD fs) = some env1 ∧ evSs (call P k) w3 env1 (st ++ [.lst acc]) = .ok (.nx env2) (st ++ [.lst (acc ++ (rowsB p.singles.length).flatMap fun ls => (worldsIn p n fs ls).map Tr.d)]) ∧
        (∃ e3 e4 e5, env2 = W6 p n st.length e3 e4 e5) := by
  intro fs hfs env acc hC hB
  obtain ⟨e3, e4, e5, rfl⟩ := hC
  obtain ⟨env', h2, e4', e5', h3⟩ := for_acc (enc := bD) (mk := fun a => st ++ [.lst a]) (rowsB p.singles.length) (lw4 H.toHasSeen ok h0 h1 (rowsB_len _ _ hfs) hk) (W6 p n st.length (some (.d (bD fs))) e4 e5) acc ⟨e4, e5, rfl⟩ hB
  refine ⟨W6 p n st.length (some (.d (bD fs))) e4 e5, env', rfl, ?_, _, _, _, h3⟩
  have q := lrows_ok H.toHasLRows (st := st ++ [.lst acc]) (k := p.singles.length) (n := k) ok.len (by omega)
  simp only [W6] at h2
  simp [W6, mVar, idx, Par.d, b1, q, mItE, items, rowsD] at h2 ⊢
  simp [h2]
theorem allW_flat (p : Par) (n : Int) : ((rowsB p.facts).flatMap fun fs => (rowsB p.singles.length).flatMap fun ls => (worldsIn p n fs ls).map Tr.d) = (p.allW n).map Tr.d := by
  unfold Par.allW
  exact flat_map' _ _ _ _ fun fs _ => flat_map' _ _ _ _ fun ls _ => rfl
theorem lworlds_ok (H : HasLWorlds P) {p : Par} (ok : p.ok) {n : Int} (h0 : 0 ≤ n) (h1 : n ≤ 1000) {k : Nat} (hk : 5 ≤ k) : call P k "_law_worlds" [.d p.d, .d (.int n)] st = .ok (.d (.list ((p.allW n).map Tr.d))) st := by
  obtain ⟨k, rfl, hk'⟩ := fuel (c := 4) hk
  rw [call_eq H.lworlds, run_of rfl]
  have hl := allW_len ok h0
  obtain ⟨env', h2, e3, e4, e5, h3⟩ := for_acc (enc := bD) (mk := fun a => st ++ [.lst a]) (rowsB p.facts) (lw3 H ok h0 h1 hk') (W6 p n st.length none none none) [] ⟨none, none, none, rfl⟩ (by
    rw [allW_flat, List.length_map]
    simp only [List.length_nil]
    omega)
  rw [allW_flat] at h2
  have hrows := lrows_ok H.toHasLRows (st := st ++ [.lst []]) (k := p.facts) (n := k) (by have := ok.facts; omega) (by omega)
  have hst : start f_law_worlds [.d p.d, .d (.int n)] = [some (.d p.d), some (.d (.int n)), none, none, none, none] := rfl
  rw [hst]
  unfold f_law_worlds
  dsimp only
  simp only [W6, List.nil_append] at h2
  simp [mNewl, mVar, mLst, allM, idx, Par.d, hrows, mItE, items, rowsD] at h2 hrows ⊢
  simp [h2, h3, W6, mRetV, away]
end
def exT (q : Qd) : List Tr := (List.range (Builtin.Range.rangeSize q.a (q.b + 1) 2).toNat).map fun k => ⟨q.fs, q.ls, q.a + (k : Nat) * 2⟩
theorem ex_mem {q : Qd} {t : Tr} : t ∈ exT q ↔ t.fs = q.fs ∧ t.ls = q.ls ∧ q.a ≤ t.m ∧ t.m ≤ q.b ∧ (t.m - q.a) % 2 = 0 := by
  have hs : ((Builtin.Range.rangeSize q.a (q.b + 1) 2).toNat : Int) = if q.a ≤ q.b then (q.b - q.a) / 2 + 1 else 0 := by
    unfold Builtin.Range.rangeSize
    split <;> (try split) <;> omega
  unfold exT
  rw [List.mem_map]
  constructor
  · rintro ⟨k, hk, rfl⟩
    have hk := List.mem_range.mp hk
    refine ⟨rfl, rfl, ?_, ?_, ?_⟩ <;> dsimp only <;> split at hs <;> omega
  · rintro ⟨h1, h2, h3, h4, h5⟩
    refine ⟨((t.m - q.a) / 2).toNat, List.mem_range.mpr ?_, ?_⟩
    · rw [if_pos (by omega)] at hs
      omega
    · obtain ⟨a, b, c⟩ := t
      dsimp only at h1 h2 h3 h4 h5
      subst h1 h2
      dsimp only
      congr 1
      omega
theorem ex_len (q : Qd) {n : Int} (h : 0 ≤ q.a ∧ q.b ≤ n) : (exT q).length ≤ (n + 1).toNat := by
  unfold exT
  rw [List.length_map, List.length_range]
  unfold Builtin.Range.rangeSize
  split <;> (try split) <;> omega
def Par.wl (p : Par) (n : Int) : List Tr := (p.quads [] n).flatMap exT
theorem seg_end {p : Par} {n : Int} {fs ls : List Bool} {r : Int × Int} {q : Qd} (h : q ∈ segQ p n fs ls r) : q.fs = fs ∧ q.ls = ls ∧ (q.a = r.1 ∨ q.a = r.1 + 1) ∧ q.a ≤ q.b ∧ q.b < r.2 ∧ (q.b - q.a) % 2 = 0 ∧ r.2 - 2 ≤ q.b ∧ p.can fs ls q.a n = true := by
  obtain ⟨x, h1, h2, h3, rfl⟩ := seg_mem.mp h
  refine ⟨rfl, rfl, h1, ?_, ?_, ?_, ?_, h3⟩ <;> dsimp only <;> omega
theorem per_eq {c : Int → Bool} {lo hi x y : Int} (h : Per c lo (hi - lo).toNat) (h1 : lo ≤ x) (h2 : x ≤ y) (h3 : y < hi) (h4 : (y - x) % 2 = 0) : c x = c y := by
  have := per_down h ((y - x) / 2).toNat x h1 (by omega)
  have e : x + 2 * (((y - x) / 2).toNat : Int) = y := by omega
  rw [e] at this
  exact this
theorem wl_mem {p : Par} (ok : p.ok) {n : Int} (h0 : 0 ≤ n) {t : Tr} : t ∈ p.wl n ↔ Wd p n t := by
  have g := marks_good p [] h0
  constructor
  · intro h
    obtain ⟨q, hq, ht⟩ := List.mem_flatMap.mp h
    obtain ⟨fs, hfs, h⟩ := List.mem_flatMap.mp hq
    obtain ⟨ls, hls, h⟩ := List.mem_flatMap.mp h
    obtain ⟨r, hr, h⟩ := List.mem_flatMap.mp h
    obtain ⟨e1, e2, e3, e4, e5, e6, e7, e8⟩ := seg_end h
    obtain ⟨t1, t2, t3, t4, t5⟩ := ex_mem.mp ht
    have hp := good_pairs g r hr
    have hg := g.rng _ hp.2.2.1
    have pr := good_per ok (rowsB_len _ _ hls) (fs := fs) g hr
    refine ⟨by rw [t1, e1]; exact rowsB_len _ _ hfs, by rw [t2, e2]; exact rowsB_len _ _ hls, by omega, by omega, ?_⟩
    rw [t1, t2, e1, e2]
    rw [← per_eq pr (x := q.a) (y := t.m) (by omega) t3 (by omega) t5]
    exact e8
  · intro h
    obtain ⟨r, hr, h1, h2⟩ := good_cover g h.lo h.hi
    have pr := good_per ok h.ls (fs := t.fs) g hr
    have hc := per_eq pr (x := r.1 + (t.m - r.1) % 2) (y := t.m) (by omega) (by omega) h2 (by omega)
    rw [h.can] at hc
    refine List.mem_flatMap.mpr ⟨⟨t.fs, t.ls, r.1 + (t.m - r.1) % 2, r.2 - 1 - (r.2 - 1 - (r.1 + (t.m - r.1) % 2)) % 2⟩, List.mem_flatMap.mpr ⟨t.fs, rowsB_all _ _ h.fs, List.mem_flatMap.mpr ⟨t.ls, rowsB_all _ _ h.ls, List.mem_flatMap.mpr ⟨r, hr, seg_mem.mpr ⟨_, by omega, by omega, hc, rfl⟩⟩⟩⟩, ex_mem.mpr ⟨rfl, rfl, ?_, ?_, ?_⟩⟩ <;> dsimp only <;> omega
theorem pairs_inc : ∀ (l : List Int) (n : Int), Inc l → (∀ t ∈ l, t ≤ n) → (pairsOf l n).Pairwise fun a b => a.2 ≤ b.1
  | [], n, _, _ => by simp [pairsOf]
  | [x], n, _, _ => by rw [pairs_one]; simp
  | x :: y :: l, n, hi, hb => by
    obtain ⟨h1, h2⟩ := List.pairwise_cons.mp hi
    rw [pairs_cons]
    refine List.pairwise_cons.mpr ⟨fun q hq => ?_, pairs_inc (y :: l) n h2 fun t ht => hb t (List.mem_cons_of_mem _ ht)⟩
    have := (pairs_next (y :: l) n h2 (fun t ht => hb t (List.mem_cons_of_mem _ ht)) q hq).2.2.1
    rcases List.mem_cons.mp this with e | e
    · show y ≤ q.1; omega
    · have := (List.pairwise_cons.mp h2).1 _ e
      show y ≤ q.1; omega
theorem wl_nodup {p : Par} (ok : p.ok) {n : Int} (h0 : 0 ≤ n) : (p.wl n).Pairwise (· ≠ ·) := by
  have g := marks_good p [] h0
  unfold Par.wl
  rw [List.pairwise_flatMap]
  have ne : ∀ {q q' : Qd}, (q.fs ≠ q'.fs ∨ q.ls ≠ q'.ls ∨ q.b < q'.a ∨ (q.a - q'.a) % 2 = 1) → ∀ x ∈ exT q, ∀ y ∈ exT q', x ≠ y := fun {q q'} h x hx y hy e => by
    subst e
    obtain ⟨a1, a2, a3, a4, a5⟩ := ex_mem.mp hx
    obtain ⟨b1, b2, b3, b4, b5⟩ := ex_mem.mp hy
    rcases h with h | h | h | h
    · exact h (a1.symm.trans b1)
    · exact h (a2.symm.trans b2)
    · omega
    · omega
  refine ⟨fun q _ => ?_, ?_⟩
  · unfold exT
    rw [List.pairwise_map]
    refine List.pairwise_lt_range.imp fun {a b} h e => ?_
    have := congrArg Tr.m e
    dsimp only at this
    omega
  · unfold Par.quads
    rw [List.pairwise_flatMap]
    refine ⟨fun fs _ => ?_, ?_⟩
    · rw [List.pairwise_flatMap]
      refine ⟨fun ls _ => ?_, ?_⟩
      · rw [List.pairwise_flatMap]
        refine ⟨fun r hr => ?_, ?_⟩
        · unfold segQ
          rw [List.pairwise_flatMap]
          refine ⟨fun x _ => by split <;> simp, ?_⟩
          refine List.pairwise_cons.mpr ⟨fun y hy => ?_, by simp⟩
          have hy : y = r.1 + 1 := by simpa using hy
          subst hy
          intro q hq q' hq'
          split at hq
          · split at hq'
            · have hq := List.mem_singleton.mp hq
              have hq' := List.mem_singleton.mp hq'
              refine ne (q := q) (q' := q') (.inr (.inr (.inr ?_)))
              rw [hq, hq']
              dsimp only
              omega
            · cases hq'
          · cases hq
        · refine (pairs_inc _ n g.inc fun t ht => (g.rng t ht).2).imp fun {a b} h q hq q' hq' => ?_
          obtain ⟨e1, e2, e3, e4, e5, _⟩ := seg_end hq
          obtain ⟨f1, f2, f3, f4, f5, _⟩ := seg_end hq'
          exact ne (.inr (.inr (.inl (by omega))))
      · refine (rowsB_inc _ ok.len).imp fun {a b} h q hq q' hq' => ?_
        obtain ⟨r, hr, hq⟩ := List.mem_flatMap.mp hq
        obtain ⟨r', hr', hq'⟩ := List.mem_flatMap.mp hq'
        obtain ⟨e1, e2, _⟩ := seg_end hq
        obtain ⟨f1, f2, _⟩ := seg_end hq'
        exact ne (.inr (.inl (by rw [e2, f2]; exact ltBs_ne h)))
    · refine (rowsB_inc _ (Nat.le_trans ok.facts (by decide))).imp fun {a b} h q hq q' hq' => ?_
      obtain ⟨l, hl, hq⟩ := List.mem_flatMap.mp hq
      obtain ⟨l', hl', hq'⟩ := List.mem_flatMap.mp hq'
      obtain ⟨r, hr, hq⟩ := List.mem_flatMap.mp hq
      obtain ⟨r', hr', hq'⟩ := List.mem_flatMap.mp hq'
      obtain ⟨e1, e2, _⟩ := seg_end hq
      obtain ⟨f1, f2, _⟩ := seg_end hq'
      exact ne (.inl (by rw [e1, f1]; exact ltBs_ne h))
theorem wl_sort {p : Par} (ok : p.ok) {n : Int} (h0 : 0 ≤ n) : (p.wl n).mergeSort leT = p.allW n := by
  have s := List.pairwise_mergeSort (le := leT) leT_trans leT_total (p.wl n)
  have perm := List.mergeSort_perm (p.wl n) leT
  have nd : ((p.wl n).mergeSort leT).Pairwise (· ≠ ·) := (perm.pairwise_iff (fun h => Ne.symm h)).mpr (wl_nodup ok h0)
  refine sorted_eq (s.and nd) (allW_inc ok n) fun t => ?_
  rw [perm.mem_iff, wl_mem ok h0, allW_mem]
structure HasWorlds (P : Prg) : Prop extends HasPar P, HasStr P where
  need_number : P.find "need_number" = some f_need_number
  worlds : P.find "worlds" = some f_worlds
section
variable {P : Prg} {st : Store}
theorem add_lists {xs ys : List D} (h : xs.length + ys.length ≤ 16777216) : b2 .add (.list xs) (.list ys) = some (.list (xs ++ ys)) := by
  show (if xs.length + ys.length ≤ sizeLine then some (PyData.list (xs ++ ys)) else none) = _
  rw [if_pos (by rw [sizeLine_eq]; omega)]
theorem worlds_ok (H : HasWorlds P) {p : Par} (ok : p.ok) {n : Int} (h0 : 0 ≤ n) (h1 : n ≤ 60) {k : Nat} (hk : 9 ≤ k) : call P k "worlds" [.d p.d, .d (.int n)] st = .ok (.d (.list ((p.allW n).map Tr.d))) st := by
  obtain ⟨k, rfl, hk'⟩ := fuel (c := 8) hk
  rw [call_eq H.worlds, run_of rfl]
  have hn : n.natAbs < 2 ^ 199 := great_small h0 (by
    have : (60 : Int) ≤ 10 ^ 30 := by decide
    omega)
  have q1 := need_parish_ok H.toHasPar (st := st) ok hk'
  have q2 := need_number_ok H.toHasForm (st := st) H.need_number (i := n) (lo := 0) (hi := 60) ⟨h0, h1⟩ (k := k) (by omega)
  have q := stretches_ok H.toHasStr (st := st) ok (claims := []) (n := n) hn (fun f hf => by cases hf) (by decide) (k := k) (by omega)
  rw [str_quads] at q
  have l := quads_len ok (n := n) (claims := []) (fun f hf => by cases hf) (by decide)
  have exl : ∀ q ∈ p.quads [] n, (exT q).length ≤ 61 := fun q hq => by
    have w := quads_in h0 hq
    obtain ⟨fs, hfs, h⟩ := List.mem_flatMap.mp hq
    obtain ⟨ls, hls, h⟩ := List.mem_flatMap.mp h
    obtain ⟨r, hr, h⟩ := List.mem_flatMap.mp h
    obtain ⟨e1, e2, e3, e4, e5, e6, e7, e8⟩ := seg_end h
    have hp := good_pairs (marks_good p [] h0) r hr
    have := ex_len q (n := n) ⟨w.lo, by omega⟩
    omega
  obtain ⟨env', st', hw, rfl, e3, e4, e5, e6, e7, rfl⟩ := for_inv0 (t := .tp [3, 4, 5, 6]) (b := evSs (call P k) [.asg (.nm 2) (.bin .add (.var 2) (.lcR [7] (.tup [(.var 3), (.var 4), (.var 7)]) (.nm 7) [(.var 5), (.bin .add (.var 6) (.cst (.int 1))), (.cst (.int 2))] none))]) (enc := Qd.d)
    (fun pre env s => s = st ∧ ∃ e3 e4 e5 e6 e7, env = [some (.d p.d), some (.d (.int n)), some (.d (.list ((pre.flatMap exT).map Tr.d))), e3, e4, e5, e6, e7]) (p.quads [] n) (fun pre x post hL env s hE => by
      obtain ⟨rfl, e3, e4, e5, e6, e7, rfl⟩ := hE
      have hx : x ∈ p.quads [] n := by rw [hL]; simp
      have lpre : pre.length + 1 ≤ 100000 := by
        have : (p.quads [] n).length = pre.length + (post.length + 1) := by rw [hL]; simp
        omega
      have lf := flat_le (c := 61) (f := exT) pre fun q hq => exl q (by rw [hL]; simp [hq])
      have lx := exl x hx
      refine ⟨[some (.d p.d), some (.d (.int n)), some (.d (.list ((pre.flatMap exT).map Tr.d))), some (.d (bD x.fs)), some (.d (bD x.ls)), some (.d (.int x.a)), some (.d (.int x.b)), e7], _, _, rfl, ?_, rfl, some (.d (bD x.fs)), some (.d (bD x.ls)), some (.d (.int x.a)), some (.d (.int x.b)), e7, rfl⟩
      have hlc := lc_mapT (t := .nm 7) (me := evE (call P k) (.tup [(.var 3), (.var 4), (.var 7)])) (env := [some (.d p.d), some (.d (.int n)), some (.d (.list ((pre.flatMap exT).map Tr.d))), some (.d (bD x.fs)), some (.d (bD x.ls)), some (.d (.int x.a)), some (.d (.int x.b)), none]) (st := s) (enc := fun j : Nat => PyData.int (x.a + (j : Nat) * 2)) (g := fun j : Nat => Tr.d ⟨x.fs, x.ls, x.a + (j : Nat) * 2⟩) (List.range (Builtin.Range.rangeSize x.a (x.b + 1) 2).toNat) [] (fun j _ => ⟨_, rfl, by simp [mVar, mTup, allM, dOf, Tr.d]⟩) (by
          have : (List.range (Builtin.Range.rangeSize x.a (x.b + 1) 2).toNat).length = (exT x).length := by unfold exT; rw [List.length_map]
          rw [this, sizeLine_eq]
          simp only [List.length_nil]
          omega)
      have e : (List.range (Builtin.Range.rangeSize x.a (x.b + 1) 2).toNat).map (fun j : Nat => Tr.d ⟨x.fs, x.ls, x.a + (j : Nat) * 2⟩) = (exT x).map Tr.d := by
        unfold exT
        rw [List.map_map]
        rfl
      rw [e] at hlc
      have er : rngL x.a (x.b + 1) 2 = (List.range (Builtin.Range.rangeSize x.a (x.b + 1) 2).toNat).map fun j : Nat => PyData.int (x.a + (j : Nat) * 2) := rfl
      have ea := add_lists (xs := (pre.flatMap exT).map Tr.d) (ys := (exT x).map Tr.d) (by rw [List.length_map, List.length_map]; omega)
      have ef : (pre.flatMap exT).map Tr.d ++ (exT x).map Tr.d = ((pre ++ [x]).flatMap exT).map Tr.d := by rw [List.flatMap_append, List.map_append]; simp
      rw [ef] at ea
      generalize ((pre ++ [x]).flatMap exT).map Tr.d = ZZ at ea ⊢
      generalize (pre.flatMap exT).map Tr.d = YY at ea hlc ⊢
      generalize (exT x).map Tr.d = XX at ea hlc
      rw [← er] at hlc
      simp only [List.nil_append] at hlc
      simp [mVar, b2_add, mLc, mItR, wipeE, hlc, noExc, ea]) [some (.d p.d), some (.d (.int n)), some (.d (.list [])), none, none, none, none, none] st ⟨rfl, none, none, none, none, none, rfl⟩
  have hst : start f_worlds [.d p.d, .d (.int n)] = [some (.d p.d), some (.d (.int n)), none, none, none, none, none, none] := rfl
  rw [hst]
  unfold f_worlds
  dsimp only
  have e1 := b1_sorted_tr (p.wl n)
  rw [wl_sort ok h0] at e1
  unfold Par.wl at e1
  generalize ((p.quads [] n).flatMap exT).map Tr.d = YY at e1 hw
  simp only [List.map_nil] at q
  simp [mVar, q1, q2, mLst, allM, q, mItE, items, mTup, hw, e1]
end
end Mi
end
section
set_option maxHeartbeats 4000000
namespace Mi
open PySem
theorem ne_qds (l : List Qd) : b2 .ne (.list (l.map Qd.d)) (.list []) = some (.bool (!l.isEmpty)) := by
  have dq : ∀ q : Qd, q.d.depth = 2 := fun q => by
    show max (PyData.depthAll (q.fs.map .bool) + 1) (max (PyData.depthAll (q.ls.map .bool) + 1) (max 0 (max 0 0))) + 1 = 2
    rw [depth_bools, depth_bools]
    rfl
  have dl : ∀ l : List Qd, PyData.depthAll (l.map Qd.d) ≤ 2 := fun l => by
    induction l with
    | nil => exact Nat.zero_le _
    | cons q l ih =>
      show max q.d.depth (PyData.depthAll (l.map Qd.d)) ≤ 2
      rw [dq]
      omega
  have hs : shp (.list (l.map Qd.d)) = true := by
    have := dl l
    exact decide_eq_true (show PyData.depthAll (l.map Qd.d) + 1 ≤ 64 by omega)
  show (if shp (.list (l.map Qd.d)) && shp (.list []) then some (PyData.bool (!PyData.eqv (.list (l.map Qd.d)) (.list []))) else none) = _
  rw [hs]
  cases l <;> rfl
theorem b2_ne (i j : Int) : b2 .ne (.int i) (.int j) = some (.bool (decide (i ≠ j))) := by
  show (if shp (.int i) && shp (.int j) then some (PyData.bool (!PyData.eqv (.int i) (.int j))) else none) = _
  rw [eqv_int]
  simp
theorem alikeAll_trs : ∀ l : List Tr, PySem.W.alikeAll (l.map Tr.d) (l.map Tr.d) = true
  | [] => by simp [PySem.W.alikeAll]
  | t :: l => by
    show (PySem.W.alike t.d t.d && PySem.W.alikeAll (l.map Tr.d) (l.map Tr.d)) = true
    rw [alike_tr, alikeAll_trs l]
    rfl
theorem eq_trs (l : List Tr) : b2 .eq (.list (l.map Tr.d)) (.list (l.map Tr.d)) = some (.bool true) := by
  show (if shp (.list (l.map Tr.d)) && shp (.list (l.map Tr.d)) then some (PyData.bool (PyData.eqv (.list (l.map Tr.d)) (.list (l.map Tr.d)))) else none) = _
  rw [shp_trs, PySem.W.eqv_refl_alike _ (by
    show PySem.W.alike (.list (l.map Tr.d)) (.list (l.map Tr.d)) = true
    rw [show PySem.W.alike (.list (l.map Tr.d)) (.list (l.map Tr.d)) = PySem.W.alikeAll (l.map Tr.d) (l.map Tr.d) by simp [PySem.W.alike]]
    exact alikeAll_trs l)]
  rfl
end Mi
namespace Mi.K03
open PySem
structure HasRight (P : Prg) : Prop extends HasSome P, HasParts P, HasWorld P where
  right : P.find "_law_right" = some f_law_right
section
variable {P : Prg} {st : Store}
theorem right_ok (H : HasRight P) {p : Par} (ok : p.ok) {n : Int} (h0 : 0 ≤ n) (h1 : n ≤ 10 ^ 30) {k m : Nat} (hm : 11 ≤ m) : Draws P m "_law_right" [.ref k, .d p.d, .d (.int n)] k 60 fun v => v = .bool true := by
  intro st b c hb hc hD
  obtain ⟨m, rfl, hm'⟩ := fuel (c := 10) hm
  obtain ⟨v, c', q, d, rfl⟩ := some_right_ok H.toHasSome ok h0 h1 (k := k) hm' st b c hb hc hD
  have hk := get_lt hc
  have hn := great_small h0 h1
  have q1 := parts_ok H.toHasParts (st := st) ok h0 hn (k := m) (by omega)
  have q2 := count_worlds_ok H.toHasWorld (st := st) ok h0 h1 (k := m) (by omega)
  have q3 := some_world_ok H.toHasWorld (st := st) ok h0 h1 (k := m) (by omega)
  have wl : ∀ t, p.firstL n = some t → t.fs.length ≤ 10 ∧ t.ls.length ≤ 10 := fun t ht => by
    have l0 := ok.len
    have l1 := ok.facts
    have : t ∈ (p.parts n).map Qd.t := by
      unfold Par.firstL at ht
      cases e : (p.parts n).map Qd.t with
      | nil => rw [e] at ht; cases ht
      | cons u l =>
        rw [e] at ht
        rw [← Option.some.inj (show some (minT u l) = some t from ht)]
        exact (minT_le l u).1
    obtain ⟨q, hq, rfl⟩ := List.mem_map.mp this
    have w := parts_in ok h0 hq
    rw [w.fs, w.ls]
    omega
  have q4 := same_od H.toHasSame (st := st) (p.firstL n) wl (n := m) (by omega)
  rw [number_count ok h0] at q2
  rw [first_eq ok h0] at q3
  have pc := parts_count ok h0
  have pl := parts_len ok n
  unfold Par.firstL at q3 q4
  generalize p.parts n = Q at q1 pc pl q3 q4
  have hs : sizeLine = 16777216 := sizeLine_eq
  have s1 := lc_mapT (t := .nm 5) (me := evE (call P m) (.idx (.var 5) (.cst (.int 3)))) (env := [some (.ref k), some (.d p.d), some (.d (.int n)), some (.d (.list (Q.map Qd.d))), none, none]) (st := st) (enc := Qd.d) (g := fun q => PyData.int q.b) Q [] (fun q _ => ⟨_, rfl, by simp [mVar, Qd.d, strD, idx]⟩) (by simp only [List.length_nil]; omega)
  have s2 := lc_mapT (t := .nm 5) (me := evE (call P m) (.slc (.var 5) none (some (.cst (.int 3))))) (env := [some (.ref k), some (.d p.d), some (.d (.int n)), some (.d (.list (Q.map Qd.d))), none, none]) (st := st) (enc := Qd.d) (g := fun q => q.t.d) Q [] (fun q _ => ⟨_, rfl, by
    have : slc (strD q.fs q.ls q.a q.b) none (some 3) = some q.t.d := by rfl
    simp [mVar, Qd.d, mSlc, mOptI, this]⟩) (by simp only [List.length_nil]; omega)
  have e1 : Q.map (fun q => PyData.int q.b) = (Q.map Qd.b).map .int := by rw [List.map_map]; rfl
  have e2 : Q.map (fun q => q.t.d) = (Q.map Qd.t).map Tr.d := by rw [List.map_map]; rfl
  rw [e1] at s1
  rw [e2] at s2
  have b1s : b1 .sum (.list ((Q.map Qd.b).map .int)) = some (.int (p.count n)) := by
    show (allM bInt ((Q.map Qd.b).map .int)).map (fun ns => PyData.int ns.sum) = _
    rw [allM_int, ← pc]
    rfl
  have nq := ne_qds Q
  simp only [List.nil_append] at s1 s2
  have r2 : evE (call P m) (.ite (.bin .ne (.var 3) (.lst [])) (.bi .min (.lcE [5] (.slc (.var 5) none (some (.cst (.int 3)))) (.nm 5) (.var 3) none)) (.cst .none)) [some (.ref k), some (.d p.d), some (.d (.int n)), some (.d (.list (Q.map Qd.d))), none, none] st = .ok (.d (od (firstOf (Q.map Qd.t)))) st := by
    simp [mVar, mLc, mItE, items, wipeE, mLst, allM, nq] at s2 ⊢
    cases Q with
    | nil => simp [od, firstOf]
    | cons q0 Q =>
      have bm := b1_min_tr q0.t (Q.map Qd.t)
      rw [minT_d] at bm
      simp at bm s2 ⊢
      simp [s2, noExc, bm, od, firstOf]
  generalize firstOf (Q.map Qd.t) = due at q3 q4 r2
  generalize hQ : Q.map Qd.d = QD at q1 s1 r2
  generalize (Q.map Qd.b).map PyData.int = QB at s1 b1s
  refine ⟨.bool true, c', ?_, d, rfl⟩
  rw [call_eq H.right, run_of rfl]
  have hst : start f_law_right [.ref k, .d p.d, .d (.int n)] = [some (.ref k), some (.d p.d), some (.d (.int n)), none, none, none] := rfl
  rw [hst]
  unfold f_law_right
  dsimp only
  have r1 : evSs (call P m) [.iff (.bin .ne (.call false "count_worlds" [(.var 1), (.var 2)]) (.bi .sum (.lcE [5] (.idx (.var 5) (.cst (.int 3))) (.nm 5) (.var 3) none))) [.ret (.cst (.bool false))] []] [some (.ref k), some (.d p.d), some (.d (.int n)), some (.d (.list QD)), none, none] st = .ok (.nx [some (.ref k), some (.d p.d), some (.d (.int n)), some (.d (.list QD)), none, none]) st := by
    simp [mVar, q2, mLc, mItE, items, wipeE, s1, noExc, b1s, b2_ne]
  simp only [es_cons, bx_seq, es_nil] at r1 ⊢
  rw [es_asg, bx_asg, ev_call, bx_call]
  simp only [ev_cons, ev_nil, ev_var, mVar, List.getElem?_cons_succ, List.getElem?_cons_zero, R.bind_ok, q1, List.set_cons_succ, List.set_cons_zero]
  generalize evS (call P m) (.iff (.bin .ne (.call false "count_worlds" [(.var 1), (.var 2)]) (.bi .sum (.lcE [5] (.idx (.var 5) (.cst (.int 3))) (.nm 5) (.var 3) none))) [.ret (.cst (.bool false))] []) [some (.ref k), some (.d p.d), some (.d (.int n)), some (.d (.list QD)), none, none] st = RR at r1 ⊢
  cases RR with
  | bad => cases r1
  | exc => cases r1
  | ok fl s =>
    cases fl with
    | rt v => cases r1
    | bk v => cases r1
    | ct v => cases r1
    | nx v =>
      simp only [R.bind_ok] at r1
      cases r1
      simp only [R.bind_ok, es_asg, bx_asg, r2, es_ret, bx_ret, List.set_cons_succ, List.set_cons_zero]
      simp [mVar, q3, q4, q, take_set]
end
end Mi.K03
end
section
set_option maxHeartbeats 4000000
namespace Mi.K03
open PySem
structure HasLaw (P : Prg) : Prop extends HasRight P, HasDeck0 P, HasDraw P, HasLWorlds P, HasWorlds P where
  known : P.find "_law_known" = some f_law_known
abbrev bC : List S := [.newl 4 (.call true "_law_deck" [(.var 1), (.cst (.int 3))]),
    .asg (.nm 5) (.call false "_law_parish" [(.var 4), (.cst (.int 2)), (.cst (.int 3)), (.cst (.int 3))]),
    .for (.nm 6) (.ex (.lst [(.bin .add (.cst (.int 40)) (.call false "_law_pick" [(.var 4), (.cst (.int 60))])), (.bin .add (.bin .pow (.cst (.int 10)) (.cst (.int 9))) (.call false "_law_pick" [(.var 4), (.bin .pow (.cst (.int 10)) (.cst (.int 6)))])), (.bin .sub (.bin .pow (.cst (.int 10)) (.cst (.int 30))) (.call false "_law_pick" [(.var 4), (.cst (.int 24))]))])) [.iff (.not (.call false "_law_right" [(.var 4), (.var 5), (.var 6)])) [.ret (.cst (.bool false))] []]]
section
variable {P : Prg} {st : Store}
theorem cell_ok (H : HasLaw P) {m : Nat} (hm : 20 ≤ m) (c : Int) (s0 e2 e3 e4 e5 e6 e7 e8 e9 e10 e11 e12 e13 e14 e15 : Option Val) : ∃ e4' e5' e6' st', evSs (call P m) bC [s0, some (.d (.int c)), e2, e3, e4, e5, e6, e7, e8, e9, e10, e11, e12, e13, e14, e15] st = .ok (.nx [s0, some (.d (.int c)), e2, e3, e4', e5', e6', e7, e8, e9, e10, e11, e12, e13, e14, e15]) st' := by
  obtain ⟨L, q1, d1⟩ := deck_ok (st := st) H.toHasDeck0 c (t := 3) (k := m) (by omega)
  have q1' : call P m "_law_deck" [.d (.int c), .d (.int 3)] st = .ok (.d (.list L)) st := q1
  have hk : st.length < (st ++ [Cell.lst L]).length := by simp
  have hc : (st ++ [Cell.lst L])[st.length]? = some (.lst L) := by simp
  have hst0 := self_tc hc
  obtain ⟨v, c2, q2, d2, p, rfl, ok⟩ := (parish_draw H.toHasDraw (k := st.length) (n := m) (by omega)).in (st := st ++ [Cell.lst L]) (ys := []) hk (b := 3) (by omega) d1
  rw [← hst0] at q2
  have pk := fun (s : Int) (h1 : 0 < s) (h2 : s.natAbs.log2 < 9000) => pick_ok H.toHasDraw.toHasDeck (s := s) h1 h2 (k := st.length) (n := m) (by omega)
  obtain ⟨_, c3, q3, d3, r1, rfl, r1a, r1b⟩ := (pk 60 (by decide) (by decide)).in (st := st ++ [Cell.lst L]) (ys := []) hk (by omega) d2
  obtain ⟨_, c4, q4, d4, r2, rfl, r2a, r2b⟩ := (pk 1000000 (by decide) (by decide)).in (st := st ++ [Cell.lst L]) (ys := []) hk (by omega) d3
  obtain ⟨_, c5, q5, d5, r3, rfl, r3a, r3b⟩ := (pk 24 (by decide) (by decide)).in (st := st ++ [Cell.lst L]) (ys := []) hk (by omega) d4
  have big : (10 : Int) ^ 30 = 1000000000000000000000000000000 := by decide
  have rt := fun (n : Int) (h0 : 0 ≤ n) (h1 : n ≤ 10 ^ 30) => right_ok H.toHasRight ok h0 h1 (k := st.length) (m := m) (by omega)
  obtain ⟨_, c6, q6, d6, rfl⟩ := (rt (40 + r1) (by omega) (by omega)).in (st := st ++ [Cell.lst L]) (ys := []) hk (by omega) d5
  obtain ⟨_, c7, q7, d7, rfl⟩ := (rt (1000000000 + r2) (by omega) (by omega)).in (st := st ++ [Cell.lst L]) (ys := []) hk (by omega) d6
  obtain ⟨_, c8, q8, d8, rfl⟩ := (rt (1000000000000000000000000000000 - r3) (by omega) (by omega)).in (st := st ++ [Cell.lst L]) (ys := []) hk (by omega) d7
  have p9 : b2 .pow (.int 10) (.int 9) = some (.int 1000000000) := by rfl
  have p6 : b2 .pow (.int 10) (.int 6) = some (.int 1000000) := by rfl
  have p30 : b2 .pow (.int 10) (.int 30) = some (.int 1000000000000000000000000000000) := by rfl
  refine ⟨some (.ref st.length), some (.d p.d), some (.d (.int (1000000000000000000000000000000 - r3))), Tc (st ++ [Cell.lst L]) st.length c8 [], ?_⟩
  simp [mNewl, mVar, q1', q2, q3, q4, q5, b2_add, b2_sub, p9, p6, p30, mLst, allM, dOf, mItE, items, forGo, tset, q6, q7, q8]
end
abbrev E30 : Int := 1000000000000000000000000000000
def A1 : Par := ⟨0, [], some (.liars 1), none⟩
def A2 : Par := ⟨0, [], some (.share 1 2), none⟩
def A3 : Par := ⟨1, [some (.lies 1), some (.fact 0)], none, none⟩
def A4 : Par := ⟨1, [some (.lies 1), some (.fact 0)], none, some 1⟩
def A5 : Par := ⟨1, [some (.and (.fact 0) (.honest 1))], some .odd, none⟩
def A6 : Par := ⟨0, [some (.lies 0)], none, none⟩
def A7 : Par := ⟨0, [some (.share 1 3)], none, none⟩
def A8 : Par := ⟨0, [], some (.share 2 3), none⟩
def A9 : Par := ⟨0, [], some (.and (.share 1 3) .odd), none⟩
theorem n3 : A3.number E30 = 2000000000000000000000000000002 := by decide +kernel
theorem n4 : A4.number E30 = 2 := by decide +kernel
theorem n7 : A7.number 0 = 1 ∧ A7.number 7 = 8 ∧ A7.number E30 = 1000000000000000000000000000001 := by decide +kernel
theorem n5 : A5.number E30 = 1000000000000000000000000000000 := by decide +kernel
theorem ok_of {p : Par} (h1 : p.facts ≤ 2) (h2 : p.singles.length ≤ 3) (h3 : ∀ o ∈ p.singles, match o with
    | none => True
    | some f => f.ok p.facts p.singles.length ∧ f.dep ≤ 3) (h4 : match p.crowd with
    | none => True
    | some f => f.ok p.facts p.singles.length ∧ f.dep ≤ 3) (h5 : match p.most with
    | none => True
    | some m => 0 ≤ m ∧ m ≤ 9) : p.ok where
  facts := h1
  len := h2
  each f hf := h3 (some f) hf
  crowd f hf := by rw [hf] at h4; exact h4
  most m hm := by rw [hm] at h5; exact h5
theorem ok2 : A2.ok := ok_of (by decide) (by decide) (by simp [A2]) (by simp [A2, Fm.ok, Fm.dep]) trivial
theorem ok3 : A3.ok := ok_of (by decide) (by decide) (by simp [A3, Fm.ok, Fm.dep]) trivial trivial
theorem ok4 : A4.ok := ok_of (by decide) (by decide) (by simp [A4, Fm.ok, Fm.dep]) trivial (by simp [A4])
theorem ok5 : A5.ok := ok_of (by decide) (by decide) (by simp [A5, Fm.ok, Fm.dep]) (by simp [A5, Fm.ok, Fm.dep]) trivial
theorem ok6 : A6.ok := ok_of (by decide) (by decide) (by simp [A6, Fm.ok, Fm.dep]) trivial trivial
theorem ok7 : A7.ok := ok_of (by decide) (by decide) (by simp [A7, Fm.ok, Fm.dep]) trivial trivial
theorem ok8 : A8.ok := ok_of (by decide) (by decide) (by simp [A8]) (by simp [A8, Fm.ok, Fm.dep]) trivial
theorem ok9 : A9.ok := ok_of (by decide) (by decide) (by simp [A9]) (by simp [A9, Fm.ok, Fm.dep]) trivial
theorem s2 : od (A2.firstL E30) = .tuple [.tuple [], .tuple [], .int 500000000000000000000000000000] := by kernel_rfl
theorem s6 : od (A6.firstL E30) = .none := by kernel_rfl
theorem s8a : od (A8.firstL 300000000000000000000) = .tuple [.tuple [], .tuple [], .int 200000000000000000000] := by kernel_rfl
theorem s8b : od (A8.firstL 300000000000000000001) = .tuple [.tuple [], .tuple [], .int 200000000000000000000] := by kernel_rfl
theorem s8c : od (A8.firstL 30) = .tuple [.tuple [], .tuple [], .int 20] := by kernel_rfl
theorem s8d : od (A8.firstL 300000000000000000002) = .tuple [.tuple [], .tuple [], .int 200000000000000000001] := by kernel_rfl
section
variable {P : Prg} {st : Store}
def zD : D := .tuple [.str "or", .tuple [.str "lies", .int 0], .tuple [.str "lies", .int 1]]
theorem known_ok (H : HasLaw P) {m : Nat} (hm : 1 ≤ m) : call P m "_law_known" [] st = .ok (.d (.tuple [A1.d, A2.d, A3.d, A4.d, A5.d, A6.d, zD])) st := by
  obtain ⟨m, rfl, _⟩ := fuel (c := 0) hm
  rw [call_eq H.known, run_of rfl]
  have hb : evSs (call P m) f_law_known.body (start f_law_known []) st = .ok (.rt (.d (.tuple [A1.d, A2.d, A3.d, A4.d, A5.d, A6.d, zD]))) st := by kernel_rfl
  rw [hb]
  simp
theorem sIx_lo (n : Nat) : HT.sIx n 0 none = 0 := rfl
theorem cut_take {α : Type} (xs : List α) (k : Nat) : cut xs none (some (k : Int)) = xs.take k := by
  unfold cut
  rw [sIx_lo, List.drop_zero, Nat.sub_zero, HT.sIx_nat]
  exact List.take_eq_take_iff.mpr (by omega)
theorem law_ok (H : HasLaw P) (hL : P.find "law" = some f_law) (ns : List Int) (hlen : ns.length ≤ 63) : ∃ st', call P 60 "law" [.d (.list (ns.map PyData.int))] [] = .ok (.d (.bool true)) st' := by
  rw [call_eq (n := 59) hL, run_of rfl]
  have hst : start f_law [.d (.list (ns.map PyData.int))] = [some (.d (.list (ns.map PyData.int))), none, none, none, none, none, none, none, none, none, none, none, none, none, none, none] := rfl
  rw [hst]
  unfold f_law
  dsimp only
  have ea : b2 .add (.list [.int 0]) (.list (ns.map PyData.int)) = some (.list ((0 :: ns).map PyData.int)) := add_lists (by simp only [List.length_cons, List.length_nil, List.length_map]; omega)
  have eb : slc (.list ((0 :: ns).map PyData.int)) none (some 9) = some (.list (((0 :: ns).take 9).map PyData.int)) := by
    show some (PyData.list (cut ((0 :: ns).map PyData.int) none (some ((9 : Nat) : Int)))) = _
    rw [cut_take, List.map_take]
  generalize (0 :: ns).take 9 = L at eb
  rw [List.map_cons] at ea eb
  obtain ⟨env', st', hf, e1, e2, e3, e4, e5, e6, e7, e8, e9, e10, e11, e12, e13, e14, e15, rfl⟩ := for_inv0 (t := .nm 1) (b := evSs (call P 59) bC) (enc := PyData.int) (fun _ env _ => ∃ e1 e2 e3 e4 e5 e6 e7 e8 e9 e10 e11 e12 e13 e14 e15, env = [some (.d (.list (ns.map PyData.int))), e1, e2, e3, e4, e5, e6, e7, e8, e9, e10, e11, e12, e13, e14, e15]) L (fun pre x post _ env st hE => by
    obtain ⟨e1, e2, e3, e4, e5, e6, e7, e8, e9, e10, e11, e12, e13, e14, e15, rfl⟩ := hE
    obtain ⟨e4', e5', e6', st', h⟩ := cell_ok (st := st) H (m := 59) (by decide) x (some (.d (.list (ns.map PyData.int)))) e2 e3 e4 e5 e6 e7 e8 e9 e10 e11 e12 e13 e14 e15
    exact ⟨_, _, _, rfl, h, _, _, _, _, _, _, _, _, _, _, _, _, _, _, _, rfl⟩) [some (.d (.list (ns.map PyData.int))), none, none, none, none, none, none, none, none, none, none, none, none, none, none, none] [] ⟨_, _, _, _, _, _, _, _, _, _, _, _, _, _, _, rfl⟩
  have cw := fun {p : Par} (ok : p.ok) (n : Int) (h0 : 0 ≤ n) (h1 : n ≤ 10 ^ 30) => count_worlds_ok H.toHasWorld (st := st') ok h0 h1 (k := 59) (by decide)
  have sw := fun {p : Par} (ok : p.ok) (n : Int) (h0 : 0 ≤ n) (h1 : n ≤ 10 ^ 30) => some_world_ok H.toHasWorld (st := st') ok h0 h1 (k := 59) (by decide)
  have k0 := known_ok (st := st') H (m := 59) (by decide)
  have c3 := cw ok3 E30 (by decide) (by decide)
  have c4 := cw ok4 E30 (by decide) (by decide)
  have c5 := cw ok5 E30 (by decide) (by decide)
  have c7a : call P 59 "count_worlds" [.d (.tuple [.int 0, .tuple [.tuple [.str "share", .int 1, .int 3]], .none, .none]), .d (.int 0)] st' = _ := cw ok7 0 (by decide) (by decide)
  have c7b : call P 59 "count_worlds" [.d (.tuple [.int 0, .tuple [.tuple [.str "share", .int 1, .int 3]], .none, .none]), .d (.int 7)] st' = _ := cw ok7 7 (by decide) (by decide)
  have c7c : call P 59 "count_worlds" [.d (.tuple [.int 0, .tuple [.tuple [.str "share", .int 1, .int 3]], .none, .none]), .d (.int 1000000000000000000000000000000)] st' = _ := cw ok7 E30 (by decide) (by decide)
  have w2 := sw ok2 E30 (by decide) (by decide)
  have w6 := sw ok6 E30 (by decide) (by decide)
  have w8 := fun (n : Int) (h0 : 0 ≤ n) (h1 : n ≤ 10 ^ 30) => (show call P 59 "some_world" [.d (.tuple [.int 0, .tuple [], .tuple [.str "share", .int 2, .int 3], .none]), .d (.int n)] st' = _ from sw ok8 n h0 h1)
  have w8a := w8 300000000000000000000 (by decide) (by decide)
  have w8b := w8 300000000000000000001 (by decide) (by decide)
  have w8c := w8 30 (by decide) (by decide)
  have w8d := w8 300000000000000000002 (by decide) (by decide)
  have v9 : call P 59 "worlds" [.d (.tuple [.int 0, .tuple [], .tuple [.str "and", .tuple [.str "share", .int 1, .int 3], .tuple [.str "odd"]], .none]), .d (.int 30)] st' = _ := worlds_ok H.toHasWorlds (st := st') ok9 (n := 30) (by decide) (by decide) (k := 59) (by decide)
  have l9 : call P 59 "_law_worlds" [.d (.tuple [.int 0, .tuple [], .tuple [.str "and", .tuple [.str "share", .int 1, .int 3], .tuple [.str "odd"]], .none]), .d (.int 30)] st' = _ := lworlds_ok H.toHasLWorlds (st := st') ok9 (n := 30) (by decide) (by decide) (k := 59) (by decide)
  have q9 := eq_trs (A9.allW 30)
  rw [n3] at c3
  rw [n4] at c4
  rw [n5] at c5
  rw [n7.1] at c7a
  rw [n7.2.1] at c7b
  rw [n7.2.2] at c7c
  rw [first_eq ok2 (by decide), s2] at w2
  rw [first_eq ok6 (by decide), s6] at w6
  rw [first_eq ok8 (by decide), s8a] at w8a
  rw [first_eq ok8 (by decide), s8b] at w8b
  rw [first_eq ok8 (by decide), s8c] at w8c
  rw [first_eq ok8 (by decide), s8d] at w8d
  generalize (A9.allW 30).map Tr.d = Z9 at v9 l9 q9
  have p30 : b2 .pow (.int 10) (.int 30) = some (.int 1000000000000000000000000000000) := by rfl
  have p29 : b2 .pow (.int 10) (.int 29) = some (.int 100000000000000000000000000000) := by rfl
  have p20 : b2 .pow (.int 10) (.int 20) = some (.int 100000000000000000000) := by rfl
  have m1 : b2 .mul (.int 2) (.int 1000000000000000000000000000000) = some (.int 2000000000000000000000000000000) := by rfl
  have m2 : b2 .mul (.int 5) (.int 100000000000000000000000000000) = some (.int 500000000000000000000000000000) := by rfl
  have m3 : b2 .mul (.int 3) (.int 100000000000000000000) = some (.int 300000000000000000000) := by rfl
  have m4 : b2 .mul (.int 2) (.int 100000000000000000000) = some (.int 200000000000000000000) := by rfl
  have t1 : b2 .ne (.tuple [.tuple [], .tuple [], .int 500000000000000000000000000000]) (.tuple [.tuple [], .tuple [], .int 500000000000000000000000000000]) = some (.bool false) := by kernel_rfl
  have t2 : b2 .ne (.list [.int 1, .int 8, .int 1000000000000000000000000000001]) (.list [.int 1, .int 8, .int 1000000000000000000000000000001]) = some (.bool false) := by kernel_rfl
  have t3 : b2 .ne (.list [.int 200000000000000000000, .int 200000000000000000000, .int 20]) (.list [.int 200000000000000000000, .int 200000000000000000000, .int 20]) = some (.bool false) := by kernel_rfl
  have t4 : b2 .ne (.tuple [.tuple [], .tuple [], .int 200000000000000000001]) (.tuple [.tuple [], .tuple [], .int 200000000000000000001]) = some (.bool false) := by kernel_rfl
  have hs : sizeLine = 16777216 := sizeLine_eq
  simp [mVar, mLst, allM, dOf, ea, mSlc, mOptI, eb, mItE, items, hf, k0, mAsg, tset, setAll, p30, p29, p20, m1, m2, m3, m4, b2_add, c3, c4, b2_ne, w2, t1, w6, isD, mTup, mLc, wipeE, lcGo, c7a, c7b, c7c, hs, noExc, t2, w8a, w8b, w8c, w8d, idx, t3, t4, c5, v9, l9, q9]
  done
end
end Mi.K03
end
section
set_option maxHeartbeats 4000000
namespace Mi.K03
open PySem
theorem hasLaw : HasLaw P := by
  repeat' first
    | rfl
    | constructor
theorem final : PySem.Challenge.rw_liarsfew_k03_whole_worlds_of_great_crowd.Holds := holds fun ns h => law_ok hasLaw rfl ns h
end Mi.K03
end
set_option maxRecDepth 100000 in
set_option maxHeartbeats 0 in
theorem PySem.Challenge.cw_liarsfew_k03_whole_worlds_of_great_crowd_holds : PySem.Challenge.rw_liarsfew_k03_whole_worlds_of_great_crowd.Holds := by
  exact Mi.K03.final
