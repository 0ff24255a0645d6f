import PyProof.Rows.All
import Wide.All
import OpenK.AllK
import Wide.FinOn
import HandS.ForSpec
import HandS.Wide
import HandS.WideBits
import HandS.IsInst
import HandS.ForMost
import HandS.TryMany
import HandS.Style
import HandS.TupMul
import HandS.TupAny
import HandS.TupLe
import HandS.Zip
import HandS.Deep
import HandS.NoneIn
import HandS.More
import HandS.SortInts
import HandS.Lambda
import HandS.EndTab
import KE.GoesEnum
import KE.GoesZip
import KE.GoesMore
import HandS.EndBits
import PySem.Challenge.RW_nocliff_k31_directions_put_together
set_option Elab.async false
set_option linter.all false
set_option maxRecDepth 100000
set_option maxHeartbeats 2000000
/-! Semantics: values, a small syntax, its evaluator. -/
namespace NC
open PySem

/-- a value: data (never changed), an object of the small heap, a tuple that holds what is no data, a def, the script -/
inductive PV where
  | d (x : PyData)
  | ref (n : Nat)
  | tup (xs : List PV)
  | fn (x : Str)
  | scr (xs : List PyData)
/-- an object that may change -/
inductive Ob where
  | lst (xs : List PyData)
  | ins (c : Str) (fs : List (Str × PV))
  /-- a dict whose keys are ints and texts -/
  | dct (kvs : List (L2.Key × PyData))
structure Hv where
  os : List Ob
  lim : Nat
inductive Res (α : Type) where
  | ok (a : α) (h : Hv)
  | exc (c : Str) (fs : List (Str × PyData)) (h : Hv)
  | bad
def Res.bind {α β : Type} (r : Res α) (f : α → Hv → Res β) : Res β :=
  match r with
  | .ok a h => f a h
  | .exc c fs h => .exc c fs h
  | .bad => .bad
@[simp] theorem Res.bind_ok {α β : Type} (a : α) (h : Hv) (f : α → Hv → Res β) : Res.bind (.ok a h) f = f a h := rfl
@[simp] theorem Res.bind_exc {α β : Type} (c : Str) (fs) (h : Hv) (f : α → Hv → Res β) : Res.bind (.exc c fs h) f = .exc c fs h := rfl
@[simp] theorem Res.bind_bad {α β : Type} (f : α → Hv → Res β) : Res.bind (.bad : Res α) f = .bad := rfl

abbrev Env := List (Option PV)
inductive Op where
  | add | sub | mul | fdiv | mod | pow
  /-- list + list, a new list that may change -/
  | addM
  deriving DecidableEq
inductive Cm where
  | eq | ne | lt | le | gt | ge | is | isn | inn | nin
  deriving DecidableEq
/-- types that isinstance is asked about -/
inductive Ty where
  | int | bool | str | tuple | list | dict
  deriving DecidableEq
/-- built-in functions by name -/
inductive Bi where
  | abs | len | int | repr | all | any | tuple | list | sum | max | min | dict | str | sorted
  deriving DecidableEq
/-- targets -/
inductive Tg where
  | var (i : Nat)
  | tup (ts : List Tg)
mutual
def Tg.vars : Tg → List Nat
  | .var i => [i]
  | .tup ts => Tg.varsL ts
def Tg.varsL : List Tg → List Nat
  | [] => []
  | t :: ts => t.vars ++ Tg.varsL ts
end
/-- a def that says what its argument raises: its name, what it says of nothing, what may be raised, what is said of it -/
structure Sdt where
  x : Str
  w : Str
  rs : List Str
  hs : List (Str × Str)
  deriving DecidableEq
mutual
inductive E where
  | cst (c : PyData)
  | var (i : Nat)
  | glb (x : Str)
  /-- a constant of the module, its value written out -/
  | gc (v : PyData)
  | bin (o : Op) (a b : E)
  | neg (a : E)
  | not (a : E)
  | and (a b : E)
  | or (a b : E)
  | cmp (o : Cm) (a b : E)
  | cmp2 (o o' : Cm) (a b c : E)
  | ite (c a b : E)
  | call (x : Str) (es : List E)
  | callv (f : E) (es : List E)
  | bi (b : Bi) (a : E)
  | isi (t : Ty) (a : E)
  | tup (es : List E)
  | lst (m : Bool) (es : List E)
  | ix (a i : E)
  | slc (a : E) (lo hi : Option E)
  | comp (m : Bool) (own : List Nat) (elt : E) (tg : Tg) (it : It) (cond : Option E)
  | meth (a : E) (m : Str) (es : List E)
  | rev (a : E)
  | dnew
  /-- whatever is not told -/
  | opq
  /-- x[i], i in x, i not in x, x a dict of the module with texts as keys and values -/
  | kix (x : Str) (kvs : List (Str × Str)) (i : E)
  | kin (b : Bool) (x : Str) (kvs : List (Str × Str)) (i : E)
  /-- a.get(b) -/
  | get (a b : E)
  /-- a.f, a an instance of c -/
  | fld (c : Str) (a : E) (f : Str)
  /-- c(es), k its __init__ in the table -/
  | mk (c k : Str) (es : List E)
  /-- a.m(es), a an instance of c, k the method in the table -/
  | ocall (c m k : Str) (a : E) (es : List E)
  /-- list(a), a new list that may change -/
  | lcp (a : E)
  /-- sorted(set(a)), len(set(a)) -/
  | sset (a : E)
  | lset (a : E)
  /-- s.join(a) -/
  | join (s : Str) (a : E)
  /-- x(lambda: a), x a def that says what its argument raises -/
  | said (p : Sdt) (a : E)
  /-- {} that stays as it is -/
  | dz
inductive It where
  | of (a : E)
  | range1 (a : E)
  | range2 (a b : E)
  /-- range(a, b, -1) -/
  | rangeD (a b : E)
  | zip2 (a b : E)
  | enum (a : E)
end
inductive S where
  | ret (e : E)
  | retN
  | asg (tg : Tg) (e : E)
  | par (i j : Nat) (a b : E)
  | par3 (i j l : Nat) (a b c : E)
  | setI (o i e : E)
  | aug (i : Nat) (op : Op) (e : E)
  | expr (e : E)
  | ifS (c : E) (a b : List S)
  | forS (tg : Tg) (it : It) (body : List S)
  | whileS (c : E) (body : List S)
  | raiseS (c : Str) (es : List E)
  /-- whatever is not told -/
  | opq
  | setF (c : Str) (o : E) (f : Str) (e : E)
  | augF (c : Str) (o : E) (f : Str) (op : Op) (e : E)
  | pass | brk | ct
inductive Flow where
  | nx (e : Env)
  | ret (v : PV)
  | brk (e : Env)
  | ct (e : Env)

/-! ### values -/
def isD : PV → Option PyData
  | .d x => some x
  | _ => none
def allD : List PV → Option (List PyData)
  | [] => some []
  | .d x :: r => (allD r).map (x :: ·)
  | _ :: _ => none
@[simp] theorem allD_nil : allD [] = some [] := rfl
@[simp] theorem allD_d (x : PyData) (r : List PV) : allD (.d x :: r) = (allD r).map (x :: ·) := rfl
@[simp] theorem allD_map (xs : List PyData) : allD (xs.map PV.d) = some xs := by
  induction xs with
  | nil => rfl
  | cons x xs ih => simp [ih]
def mkTup (vs : List PV) : PV :=
  match allD vs with
  | some ds => .d (.tuple ds)
  | none => .tup vs
@[simp] theorem mkTup_nil : mkTup [] = .d (.tuple []) := rfl
@[simp] theorem mkTup_map (ds : List PyData) : mkTup (ds.map PV.d) = .d (.tuple ds) := by simp [mkTup]
/-- an int is not so great that the machine stops at a product or a quotient -/
def szOk (i : Int) : Bool := decide (i.natAbs.log2 < 60000000)
def dvOk (i : Int) : Bool := decide (i ≠ 0) && decide (i.natAbs.log2 < 8999)
def powOk (i j : Int) : Bool := decide (0 ≤ j) && decide (j ≤ 1000000) && decide (i.natAbs.log2 < 63)
def lnOk (n : Nat) : Bool := decide (n ≤ 16777216)
def op (o : Op) (x y : PV) (h : Hv) : Res PV :=
  match o, x, y with
  | .add, .d (.int i), .d (.int j) => .ok (.d (.int (i + j))) h
  | .sub, .d (.int i), .d (.int j) => .ok (.d (.int (i - j))) h
  | .mul, .d (.int i), .d (.int j) => if szOk i && szOk j then .ok (.d (.int (i * j))) h else .bad
  | .fdiv, .d (.int i), .d (.int j) => if dvOk j then .ok (.d (.int (i.fdiv j))) h else .bad
  | .mod, .d (.int i), .d (.int j) => if decide (j ≠ 0) then .ok (.d (.int (i.fmod j))) h else .bad
  | .pow, .d (.int i), .d (.int j) => if powOk i j then .ok (.d (.int (i ^ j.toNat))) h else .bad
  | .add, .d (.str a), .d (.str b) => if lnOk (a.length + b.length) then .ok (.d (.str (a ++ b))) h else .bad
  | .add, .d (.tuple a), .d (.tuple b) => if lnOk (a.length + b.length) then .ok (.d (.tuple (a ++ b))) h else .bad
  | .add, .d (.list a), .d (.list b) => if lnOk (a.length + b.length) then .ok (.d (.list (a ++ b))) h else .bad
  | .add, .ref n, .d (.list b) => (match h.os[n]? with
    | some (.lst a) => if lnOk (a.length + b.length) then .ok (.d (.list (a ++ b))) h else .bad
    | _ => .bad)
  | .addM, .d (.list a), .d (.list b) => if lnOk (a.length + b.length) then .ok (.ref h.os.length) { h with os := h.os ++ [.lst (a ++ b)] } else .bad
  | .addM, .ref n, .d (.list b) => (match h.os[n]? with
    | some (.lst a) => if lnOk (a.length + b.length) then .ok (.ref h.os.length) { h with os := h.os ++ [.lst (a ++ b)] } else .bad
    | _ => .bad)
  | .mul, .d (.tuple a), .d (.int k) => if decide (1 ≤ k) && decide (k ≤ 1000) && decide (1 ≤ a.length) && decide (a.length ≤ 1000) then .ok (.d (.tuple (List.replicate k.toNat a).flatten)) h else .bad
  | .mul, .d (.list a), .d (.int k) => if decide (0 ≤ k) && decide (k ≤ 1000000) && lnOk (a.length * k.toNat) then .ok (.d (.list (List.replicate k.toNat a).flatten)) h else .bad
  | _, _, _ => .bad
/-- x op= y -/
def augop (o : Op) (x y : PV) (h : Hv) : Res PV :=
  match o, x, y with
  | .add, .d (.int i), .d (.int j) => .ok (.d (.int (i + j))) h
  | .sub, .d (.int i), .d (.int j) => .ok (.d (.int (i - j))) h
  | .add, .d (.str a), .d (.str b) => if lnOk (a.length + b.length) then .ok (.d (.str (a ++ b))) h else .bad
  | _, _, _ => .bad
def flatD : PyData → Bool
  | .none | .bool _ | .int _ | .str _ => true
  | _ => false
def bothStr : PyData → PyData → Bool
  | .str _, .str _ => true
  | _, _ => false
def eqOk (x y : PyData) : Bool := bothStr x y || (SeqAt.shaped x && SeqAt.shaped y)
def itemsD : PyData → Option (List PyData)
  | .list xs => some xs
  | .tuple xs => some xs
  | _ => none
/-- a dict's key -/
def keyD : PyData → Option L2.Key
  | .int i => some (.inl i)
  | .str x => some (.inr x)
  | _ => none
def getK (kvs : List (L2.Key × PyData)) (k : L2.Key) : Option PyData := (kvs.find? fun kv => decide (kv.1 = k)).map (·.2)
/-- a text's value in a dict of the module -/
def getS (kvs : List (Str × Str)) (x : Str) : Option Str := (kvs.find? fun kv => decide (kv.1 = x)).map (·.2)
def pairD : PyData → Option (L2.Key × PyData)
  | .tuple [a, v] => (keyD a).map fun k => (k, v)
  | _ => none
def pairsD : List PyData → Option (List (L2.Key × PyData))
  | [] => some []
  | x :: r => match pairD x, pairsD r with
    | some p, some ps => some (p :: ps)
    | _, _ => none
def putD (kvs : List (L2.Key × PyData)) (k : L2.Key) (v : PyData) : List (L2.Key × PyData) :=
  if (kvs.any fun kv => decide (kv.1 = k)) then kvs.map fun kv => if kv.1 = k then (kv.1, v) else kv else kvs ++ [(k, v)]
/-- is x a key of the dict n? -/
def hasK (x : PyData) (n : Nat) (h : Hv) : Option Bool :=
  match h.os[n]? with
  | some (.dct kvs) => (keyD x).map fun k => (getK kvs k).isSome
  | _ => none
def isNon : PyData → Bool
  | .none => true
  | _ => false
def isL : PyData → Bool
  | .list _ => true
  | _ => false
def cm (o : Cm) (x y : PV) (h : Hv) : Res PV :=
  match o, x, y with
  | .eq, .d a, .d b => if eqOk a b then .ok (.d (.bool (PyData.eqv a b))) h else .bad
  | .ne, .d a, .d b => if eqOk a b then .ok (.d (.bool (!PyData.eqv a b))) h else .bad
  | .lt, .d (.int i), .d (.int j) => .ok (.d (.bool (decide (i < j)))) h
  | .le, .d (.int i), .d (.int j) => .ok (.d (.bool (decide (i ≤ j)))) h
  | .gt, .d (.int i), .d (.int j) => .ok (.d (.bool (decide (j < i)))) h
  | .ge, .d (.int i), .d (.int j) => .ok (.d (.bool (decide (j ≤ i)))) h
  | .is, .d (.bool a), .d (.bool b) => .ok (.d (.bool (a == b))) h
  | .isn, .d (.bool a), .d (.bool b) => .ok (.d (.bool (!(a == b)))) h
  | .is, .d a, .d .none => .ok (.d (.bool (isNon a))) h
  | .isn, .d a, .d .none => .ok (.d (.bool (!isNon a))) h
  | .inn, .d (.str a), .d (.str b) => .ok (.d (.bool (!(Builtin.Str.occurrences b a 0 b.length 1).isEmpty))) h
  | .nin, .d (.str a), .d (.str b) => .ok (.d (.bool (!(!(Builtin.Str.occurrences b a 0 b.length 1).isEmpty)))) h
  | .inn, .d a, .d b => match itemsD b with
    | some xs => if (flatD a && xs.all flatD) || (isL b && (SeqAt.shaped a && SeqAt.shaped b)) then .ok (.d (.bool (xs.any fun y => PyData.eqv y a))) h else .bad
    | none => .bad
  | .inn, .d a, .ref n => match hasK a n h with
    | some b => .ok (.d (.bool b)) h
    | none => .bad
  | .nin, .d a, .d b => match itemsD b with
    | some xs => if (flatD a && xs.all flatD) || (isL b && (SeqAt.shaped a && SeqAt.shaped b)) then .ok (.d (.bool (!xs.any fun y => PyData.eqv y a))) h else .bad
    | none => .bad
  | .nin, .d a, .ref n => match hasK a n h with
    | some b => .ok (.d (.bool (!b))) h
    | none => .bad
  | _, _, _ => .bad
def isTy (t : Ty) : PyData → Bool
  | .none => false
  | .bool _ => t == .bool || t == .int
  | .int _ => t == .int
  | .str _ => t == .str
  | .tuple _ => t == .tuple
  | .list _ => t == .list
  | .dict _ => t == .dict
def allB : List PyData → Option (List Bool)
  | [] => some []
  | .bool b :: r => (allB r).map (b :: ·)
  | _ :: _ => none
@[simp] theorem allB_map (bs : List Bool) : allB (bs.map PyData.bool) = some bs := by
  induction bs with
  | nil => rfl
  | cons b bs ih => simp [allB, ih]
def allI : List PyData → Option (List Int)
  | [] => some []
  | .int i :: r => (allI r).map (i :: ·)
  | _ :: _ => none
@[simp] theorem allI_map (ns : List Int) : allI (ns.map PyData.int) = some ns := by
  induction ns with
  | nil => rfl
  | cons n ns ih => simp [allI, ih]
/-- the items in order, where they can be put in order -/
def sortD (xs : List PyData) : Option (List PyData) := (allI xs).map fun ns => (ns.mergeSort fun a b => decide (a ≤ b)).map .int
def bi (b : Bi) (x : PV) (h : Hv) : Res PV :=
  match b, x with
  | .abs, .d (.int i) => .ok (.d (.int (if i < 0 then -i else i))) h
  | .len, .d (.str z) => if lnOk z.length then .ok (.d (.int z.length)) h else .bad
  | .len, .d (.tuple xs) => .ok (.d (.int xs.length)) h
  | .len, .d (.list xs) => .ok (.d (.int xs.length)) h
  | .len, .scr xs => .ok (.d (.int xs.length)) h
  | .len, .ref n => match h.os[n]? with
    | some (.lst xs) => .ok (.d (.int xs.length)) h
    | _ => .bad
  | .int, .d (.int i) => .ok (.d (.int i)) h
  | .int, .d (.bool b) => .ok (.d (.int (if b then 1 else 0))) h
  | .repr, .d x => if (itemsD x).isSome && SeqAt.shaped x && x.showable && lnOk x.shown.length then .ok (.d (.str x.shown)) h else .bad
  | .all, .d (.list xs) => match allB xs with
    | some bs => .ok (.d (.bool (bs.all id))) h
    | none => .bad
  | .any, .d (.list xs) => match allB xs with
    | some bs => .ok (.d (.bool (bs.any id))) h
    | none => .bad
  | .tuple, .d (.list xs) => .ok (.d (.tuple xs)) h
  | .tuple, .d (.tuple xs) => .ok (.d (.tuple xs)) h
  | .list, .d (.list xs) => .ok (.d (.list xs)) h
  | .list, .d (.tuple xs) => .ok (.d (.list xs)) h
  | .tuple, .ref n => match h.os[n]? with
    | some (.lst xs) => .ok (.d (.tuple xs)) h
    | _ => .bad
  | .list, .ref n => match h.os[n]? with
    | some (.lst xs) => .ok (.d (.list xs)) h
    | _ => .bad
  | .sum, .d (.list xs) => match allI xs with
    | some ns => .ok (.d (.int ns.sum)) h
    | none => .bad
  | .max, .d (.list xs) => match allI xs with
    | some ns => match ns.max? with
      | some m => .ok (.d (.int m)) h
      | none => .bad
    | none => .bad
  | .min, .d (.list xs) => match allI xs with
    | some ns => match ns.min? with
      | some m => .ok (.d (.int m)) h
      | none => .bad
    | none => .bad
  | .dict, .ref n => match h.os[n]? with
    | some (.dct kvs) => .ok (.ref h.os.length) { h with os := h.os ++ [.dct kvs] }
    | _ => .bad
  | .dict, .d (.list xs) => match pairsD xs with
    | some ps => .ok (.ref h.os.length) { h with os := h.os ++ [.dct (ps.foldl (fun acc kv => putD acc kv.1 kv.2) [])] }
    | none => .bad
  | .str, .d (.int i) => if decide (i.natAbs.log2 < 1920) then .ok (.d (.str (Str.ofString (toString i)))) h else .bad
  | .sorted, .d (.list xs) => match sortD xs with
    | some ys => .ok (.d (.list ys)) h
    | none => .bad
  | _, _ => .bad
/-- x[::-1] -/
def rev (x : PV) (h : Hv) : Res PV :=
  match x with
  | .d (.list xs) => .ok (.d (.list xs.reverse)) h
  | .ref n => match h.os[n]? with
    | some (.lst xs) => .ok (.d (.list xs.reverse)) h
    | _ => .bad
  | _ => .bad
def ixD {α : Type} (xs : List α) (i : Int) : Option α := L2.atI xs i
def ix (x i : PV) (h : Hv) : Res PV :=
  match x, i with
  | .d (.tuple xs), .d (.int i) => match L2.atI xs i with
    | some v => .ok (.d v) h
    | none => .bad
  | .d (.list xs), .d (.int i) => match L2.atI xs i with
    | some v => .ok (.d v) h
    | none => .bad
  | .d (.str z), .d (.int i) => if lnOk z.length then (match L2.atI z.cps.toList i with
    | some c => .ok (.d (.str ⟨#[c]⟩)) h
    | none => .bad) else .bad
  | .ref n, .d (.int i) => match h.os[n]? with
    | some (.lst xs) => match L2.atI xs i with
      | some v => .ok (.d v) h
      | none => .bad
    | some (.dct kvs) => match getK kvs (.inl i) with
      | some v => .ok (.d v) h
      | none => .bad
    | _ => .bad
  | .ref n, .d (.str k) => match h.os[n]? with
    | some (.dct kvs) => match getK kvs (.inr k) with
      | some v => .ok (.d v) h
      | none => .bad
    | _ => .bad
  | _, _ => .bad
/-- x.get(y) -/
def getM (x y : PV) (h : Hv) : Res PV :=
  match x, y with
  | .ref n, .d k => match h.os[n]? with
    | some (.dct kvs) => (match keyD k with
      | some k => .ok (.d ((getK kvs k).getD .none)) h
      | none => .bad)
    | _ => .bad
  | _, _ => .bad
def isDct (x : PV) (h : Hv) : Bool := match x with
  | .ref n => match h.os[n]? with
    | some (.dct _) => true
    | _ => false
  | _ => false
/-- a list of texts joined -/
def allS : List PyData → Option (List Str)
  | [] => some []
  | .str s :: r => (allS r).map (s :: ·)
  | _ :: _ => none
def joinD (s : Str) (x : PV) (h : Hv) : Res PV :=
  match x with
  | .d (.list xs) => match allS xs with
    | some ys => if lnOk ((ys.map (·.length)).sum + ys.length * s.length) then .ok (.d (.str (Txt.join s ys))) h else .bad
    | none => .bad
  | .ref n => match h.os[n]? with
    | some (.lst xs) => (match allS xs with
      | some ys => if lnOk ((ys.map (·.length)).sum + ys.length * s.length) then .ok (.d (.str (Txt.join s ys))) h else .bad
      | none => .bad)
    | _ => .bad
  | _ => .bad
def cut {α : Type} (xs : List α) (lo hi : Option Int) : List α := (xs.drop (HT.sIx xs.length 0 lo)).take (HT.sIx xs.length xs.length hi - HT.sIx xs.length 0 lo)
def slc (x : PV) (lo hi : Option Int) (h : Hv) : Res PV :=
  match x with
  | .d (.tuple xs) => .ok (.d (.tuple (cut xs lo hi))) h
  | .d (.list xs) => .ok (.d (.list (cut xs lo hi))) h
  | .scr xs => .ok (.d (.list (cut xs lo hi))) h
  | .ref n => match h.os[n]? with
    | some (.lst xs) => .ok (.d (.list (cut xs lo hi))) h
    | _ => .bad
  | _ => .bad
def newO (o : Ob) (h : Hv) : Res PV := .ok (.ref h.os.length) { h with os := h.os ++ [o] }
def setO (h : Hv) (n : Nat) (o : Ob) : Hv := { h with os := h.os.set n o }
def setI (x i v : PV) (h : Hv) : Res PV :=
  match x, i, v with
  | .ref n, .d y, .d v => match h.os[n]? with
    | some (.lst xs) => (match y with
      | .int i => (match L2.ixN xs.length i with
        | some j => .ok (.d .none) (setO h n (.lst (xs.set j v)))
        | none => .bad)
      | _ => .bad)
    | some (.dct kvs) => (match keyD y with
      | some k => if lnOk (kvs.length + 1) then .ok (.d .none) (setO h n (.dct (putD kvs k v))) else .bad
      | none => .bad)
    | _ => .bad
  | _, _, _ => .bad
def meth (m : Str) (x : PV) (vs : List PV) (h : Hv) : Res PV :=
  match x with
  | .ref n => match h.os[n]? with
    | some (.lst xs) =>
      if m = "append" then (match vs with
        | [.d v] => if lnOk (xs.length + 1) then .ok (.d .none) (setO h n (.lst (xs ++ [v]))) else .bad
        | _ => .bad)
      else if m = "extend" then (match vs with
        | [.d (.list ys)] => if lnOk (xs.length + ys.length) then .ok (.d .none) (setO h n (.lst (xs ++ ys))) else .bad
        | _ => .bad)
      else if m = "pop" then (match vs with
        | [] => match xs[xs.length - 1]? with
          | some y => .ok (.d y) (setO h n (.lst xs.dropLast))
          | none => .bad
        | _ => .bad)
      else .bad
    | _ => .bad
  | _ => .bad

/-! ### instances -/
mutual
/-- no object of the small heap within -/
def PV.noRef : PV → Bool
  | .d _ => true
  | .ref _ => false
  | .tup xs => PV.noRefL xs
  | .fn _ => true
  | .scr _ => true
def PV.noRefL : List PV → Bool
  | [] => true
  | x :: xs => x.noRef && PV.noRefL xs
end
def putP (f : Str) (v : PV) : List (Str × PV) → List (Str × PV)
  | [] => [(f, v)]
  | (k, x) :: r => if k = f then (k, v) :: r else (k, x) :: putP f v r
def insOf (c : Str) (x : PV) (h : Hv) : Option (Nat × List (Str × PV)) := match x with
  | .ref n => match h.os[n]? with
    | some (.ins c' fs) => if c' = c then some (n, fs) else none
    | _ => none
  | _ => none
def fldD (c : Str) (x : PV) (f : Str) (h : Hv) : Res PV := match insOf c x h with
  | some (_, fs) => match fs.lookup f with
    | some v => .ok v h
    | none => .bad
  | none => .bad
def setFD (c : Str) (x : PV) (f : Str) (v : PV) (h : Hv) : Option Hv := match insOf c x h with
  | some (n, fs) => if decide (fs.length < 900) && (decide (h.lim ≤ n) || v.noRef) then some (setO h n (.ins c (putP f v fs))) else none
  | none => none
/-- c has no attribute m of its own at x -/
def mayCall (c m : Str) (x : PV) (h : Hv) : Bool := match insOf c x h with
  | some (_, fs) => (fs.lookup m).isNone
  | none => false
def isLst (x : PV) (h : Hv) : Bool := match x with
  | .ref n => match h.os[n]? with
    | some (.lst _) => true
    | _ => false
  | _ => false

/-! ### targets, walks -/
mutual
def store : Tg → PV → Env → Option Env
  | .var i, v, e => if i < e.length then some (e.set i (some v)) else none
  | .tup ts, .d (.tuple xs), e => storeD ts xs e
  | .tup ts, .d (.list xs), e => storeD ts xs e
  | .tup ts, .tup vs, e => storeP ts vs e
  | .tup _, _, _ => none
def storeD : List Tg → List PyData → Env → Option Env
  | [], [], e => some e
  | t :: ts, x :: xs, e => (store t (.d x) e).bind fun e1 => storeD ts xs e1
  | _, _, _ => none
def storeP : List Tg → List PV → Env → Option Env
  | [], [], e => some e
  | t :: ts, x :: xs, e => (store t x e).bind fun e1 => storeP ts xs e1
  | _, _, _ => none
end
/-- the same from a list that may change -/
def storeH (tg : Tg) (x : PV) (e : Env) (h : Hv) : Option Env :=
  match tg, x with
  | .tup ts, .ref n => (match h.os[n]? with
    | some (.lst xs) => storeD ts xs e
    | _ => none)
  | tg, x => store tg x e
def wipe : Env → List Nat → Env
  | e, [] => e
  | e, v :: vs => (wipe e vs).set v none
/-- what must stay as it is while it is walked -/
inductive Gd where
  | no
  | obj (n : Nat) (o : Ob)
def Gd.ok : Gd → Hv → Prop
  | .no, _ => True
  | .obj n o, h => h.os[n]? = some o
structure Walk where
  xs : List PV
  gd : Gd
def rngs (lo : Int) (n : Nat) : List PV := (List.range n).map fun (k : Nat) => PV.d (.int (lo + (k : Int)))
def b62 (i : Int) : Bool := decide (-(2 ^ 62) ≤ i) && decide (i < 2 ^ 62)
/-- the signs of a text -/
def signD (x : Str) : List PyData := x.cps.toList.map fun c => .str ⟨#[c]⟩
/-- what zip and enumerate take -/
def zsrc : PV → Option (List PyData)
  | .d (.list xs) => some xs
  | .d (.tuple xs) => some xs
  | .d (.str x) => some (signD x)
  | .scr xs => some xs
  | _ => none
/-- hi, hi - 1, .. (n of them) -/
def rngD (hi : Int) (n : Nat) : List PV := (List.range n).map fun (k : Nat) => PV.d (.int (hi + (k : Int) * (-1)))
def walk1 (x : PV) (h : Hv) : Res Walk :=
  match x with
  | .d (.list xs) => .ok ⟨xs.map PV.d, .no⟩ h
  | .d (.tuple xs) => .ok ⟨xs.map PV.d, .no⟩ h
  | .tup xs => .ok ⟨xs, .no⟩ h
  | .scr xs => .ok ⟨xs.map PV.d, .no⟩ h
  | .d (.str x) => .ok ⟨(signD x).map PV.d, .no⟩ h
  | .ref n => match h.os[n]? with
    | some (.lst xs) => .ok ⟨xs.map PV.d, .obj n (.lst xs)⟩ h
    | _ => .bad
  | _ => .bad
open Classical in
/-- the loop of a for -/
noncomputable def forL (gd : Gd) (tg : Tg) (body : Env → Hv → Res Flow) : List PV → Env → Hv → Res Flow
  | [], e, h => if gd.ok h then .ok (.nx e) h else .bad
  | x :: xs, e, h => if gd.ok h then (match store tg x e with
    | none => .bad
    | some e1 => (body e1 h).bind fun f h1 => match f with
      | .nx e2 => forL gd tg body xs e2 h1
      | .ct e2 => forL gd tg body xs e2 h1
      | .brk e2 => .ok (.nx e2) h1
      | .ret v => .ok (.ret v) h1) else .bad
/-- a test's answer -/
def tst (r : Res PV) (f : Bool → Hv → Res β) : Res β := r.bind fun v h => match v with
  | .d (.bool b) => f b h
  | _ => .bad
@[simp] theorem tst_ok {β : Type} (b : Bool) (h : Hv) (f : Bool → Hv → Res β) : tst (.ok (.d (.bool b)) h) f = f b h := rfl
/-- a while's run of so many turns -/
inductive WRun (t : Env → Hv → Res PV) (b : Env → Hv → Res Flow) : Nat → Env → Hv → Res Flow → Prop
  | done {e h h'} : t e h = .ok (.d (.bool false)) h' → WRun t b 0 e h (.ok (.nx e) h')
  | texc {e h c fs h'} : t e h = .exc c fs h' → WRun t b 0 e h (.exc c fs h')
  | bexc {e h h1 c fs h'} : t e h = .ok (.d (.bool true)) h1 → b e h1 = .exc c fs h' → WRun t b 0 e h (.exc c fs h')
  | ret {e h h1 v h'} : t e h = .ok (.d (.bool true)) h1 → b e h1 = .ok (.ret v) h' → WRun t b 0 e h (.ok (.ret v) h')
  | brk {e h h1 e2 h'} : t e h = .ok (.d (.bool true)) h1 → b e h1 = .ok (.brk e2) h' → WRun t b 0 e h (.ok (.nx e2) h')
  | nx {e h h1 e2 h2 n r} : t e h = .ok (.d (.bool true)) h1 → b e h1 = .ok (.nx e2) h2 → WRun t b n e2 h2 r → WRun t b (n + 1) e h r
  | ct {e h h1 e2 h2 n r} : t e h = .ok (.d (.bool true)) h1 → b e h1 = .ok (.ct e2) h2 → WRun t b n e2 h2 r → WRun t b (n + 1) e h r
open Classical in
noncomputable def whileL (t : Env → Hv → Res PV) (b : Env → Hv → Res Flow) (e : Env) (h : Hv) : Res Flow :=
  if q : ∃ r, ∃ n, WRun t b n e h r then choose q else .bad
theorem WRun.det {t : Env → Hv → Res PV} {b : Env → Hv → Res Flow} : ∀ {n m : Nat} {e : Env} {h : Hv} {r r' : Res Flow}, WRun t b n e h r → WRun t b m e h r' → r = r' := by
  intro n m e h r r' x
  induction x generalizing m r' with
  | done e1 => intro y; cases y <;> simp_all
  | texc e1 => intro y; cases y <;> simp_all
  | bexc e1 e2 => intro y; cases y <;> simp_all
  | ret e1 e2 => intro y; cases y <;> simp_all
  | brk e1 e2 => intro y; cases y <;> simp_all
  | nx e1 e2 _ ih =>
    intro y
    cases y with
    | nx f1 f2 w => rw [e1] at f1; cases f1; rw [e2] at f2; cases f2; exact ih w
    | ct f1 f2 w => rw [e1] at f1; cases f1; rw [e2] at f2; cases f2
    | _ => simp_all
  | ct e1 e2 _ ih =>
    intro y
    cases y with
    | ct f1 f2 w => rw [e1] at f1; cases f1; rw [e2] at f2; cases f2; exact ih w
    | nx f1 f2 w => rw [e1] at f1; cases f1; rw [e2] at f2; cases f2
    | _ => simp_all
theorem whileL_run {t : Env → Hv → Res PV} {b : Env → Hv → Res Flow} {n : Nat} {e : Env} {h : Hv} {r : Res Flow} (x : WRun t b n e h r) : whileL t b e h = r := by
  have q : ∃ r, ∃ n, WRun t b n e h r := ⟨r, n, x⟩
  unfold whileL
  rw [dif_pos q]
  obtain ⟨m, y⟩ := Classical.choose_spec q
  exact y.det x
theorem whileL_bad {t : Env → Hv → Res PV} {b : Env → Hv → Res Flow} {e : Env} {h : Hv} (x : ¬ ∃ r n, WRun t b n e h r) : whileL t b e h = .bad := by
  unfold whileL
  rw [dif_neg x]
theorem whileL_cases (t : Env → Hv → Res PV) (b : Env → Hv → Res Flow) (e : Env) (h : Hv) : (∃ n, WRun t b n e h (whileL t b e h)) ∨ whileL t b e h = .bad := by
  by_cases q : ∃ r, ∃ n, WRun t b n e h r
  · obtain ⟨r, n, x⟩ := q
    exact .inl ⟨n, by rw [whileL_run x]; exact x⟩
  · exact .inr (whileL_bad q)
theorem WRun.ne {t : Env → Hv → Res PV} {b : Env → Hv → Res Flow} {n : Nat} {e : Env} {h : Hv} {r : Res Flow} (x : WRun t b n e h r) : r ≠ .bad := by
  induction x with
  | nx _ _ _ ih => exact ih
  | ct _ _ _ ih => exact ih
  | _ => exact fun z => nomatch z
theorem WRun.not {t : Env → Hv → Res PV} {b : Env → Hv → Res Flow} {n : Nat} {e : Env} {h : Hv} {r : Res Flow} (x : WRun t b n e h r) : whileL t b e h ≠ .bad := by
  rw [whileL_run x]; exact x.ne
/-- one turn -/
theorem whileL_eq (t : Env → Hv → Res PV) (b : Env → Hv → Res Flow) (e : Env) (h : Hv) :
    whileL t b e h = tst (t e h) fun c h1 => if c = true then (b e h1).bind fun f h2 => match f with
      | .nx e2 => whileL t b e2 h2
      | .ct e2 => whileL t b e2 h2
      | .brk e2 => .ok (.nx e2) h2
      | .ret v => .ok (.ret v) h2 else .ok (.nx e) h1 := by
  cases ht : t e h with
  | bad => exact whileL_bad fun ⟨r, n, x⟩ => by cases x <;> simp_all
  | exc c fs h1 => exact whileL_run (.texc ht)
  | ok v h1 =>
    by_cases hv : ∃ c, v = .d (.bool c)
    · obtain ⟨c, rfl⟩ := hv
      cases c with
      | false => exact whileL_run (.done ht)
      | true =>
        show whileL t b e h = (b e h1).bind _
        cases hb : b e h1 with
        | bad => exact whileL_bad fun ⟨r, n, x⟩ => by cases x <;> simp_all
        | exc c fs h2 => exact whileL_run (.bexc ht hb)
        | ok f h2 =>
          cases f with
          | ret v => exact whileL_run (.ret ht hb)
          | brk e2 => exact whileL_run (.brk ht hb)
          | nx e2 =>
            rcases whileL_cases t b e2 h2 with ⟨n, x⟩ | x
            · exact whileL_run (.nx ht hb x)
            · show _ = whileL t b e2 h2
              rw [x]
              refine whileL_bad fun ⟨r, n, y⟩ => ?_
              cases y with
              | nx f1 f2 w => rw [ht] at f1; cases f1; rw [hb] at f2; cases f2; exact w.not x
              | ct f1 f2 w => rw [ht] at f1; cases f1; rw [hb] at f2; cases f2
              | _ => simp_all
          | ct e2 =>
            rcases whileL_cases t b e2 h2 with ⟨n, x⟩ | x
            · exact whileL_run (.ct ht hb x)
            · show _ = whileL t b e2 h2
              rw [x]
              refine whileL_bad fun ⟨r, n, y⟩ => ?_
              cases y with
              | ct f1 f2 w => rw [ht] at f1; cases f1; rw [hb] at f2; cases f2; exact w.not x
              | nx f1 f2 w => rw [ht] at f1; cases f1; rw [hb] at f2; cases f2
              | _ => simp_all
    · have z : ∀ f : Bool → Hv → Res Flow, tst (.ok v h1) f = .bad := by
        intro f
        cases v with
        | d x => cases x <;> first | rfl | exact absurd ⟨_, rfl⟩ hv
        | _ => rfl
      rw [z]
      refine whileL_bad fun ⟨r, n, y⟩ => ?_
      cases y with
      | done q => rw [ht] at q; cases q; exact hv ⟨_, rfl⟩
      | texc q => rw [ht] at q; cases q
      | bexc q _ => rw [ht] at q; cases q; exact hv ⟨_, rfl⟩
      | ret q _ => rw [ht] at q; cases q; exact hv ⟨_, rfl⟩
      | brk q _ => rw [ht] at q; cases q; exact hv ⟨_, rfl⟩
      | nx q _ _ => rw [ht] at q; cases q; exact hv ⟨_, rfl⟩
      | ct q _ _ => rw [ht] at q; cases q; exact hv ⟨_, rfl⟩

/-! ### the evaluator -/
/-- what stands around: the defs by name, one level down -/
abbrev Fns := Str → List PV → Hv → Res PV
/-- constants of the module -/
abbrev Gls := Str → Option PV
def optI : Res (Option PV) → (Option Int → Hv → Res PV) → Res PV := fun r f => r.bind fun o h => match o with
  | none => f none h
  | some (.d (.int i)) => f (some i) h
  | some _ => .bad
open Classical in
/-- the loop of a comprehension -/
noncomputable def compL (gd : Gd) (tg : Tg) (cond : Env → Hv → Res PV) (elt : Env → Hv → Res PV) (e : Env) : List PV → List PyData → Hv → Res PV
  | [], acc, h => if gd.ok h then .ok (.d (.list acc)) h else .bad
  | x :: xs, acc, h => if gd.ok h then (match store tg x e with
    | none => .bad
    | some e1 => tst (cond e1 h) fun b h1 => if b = true then (elt e1 h1).bind fun v h2 => (match v with
        | .d y => if lnOk (acc.length + 1) then compL gd tg cond elt e xs (acc ++ [y]) h2 else .bad
        | _ => .bad) else compL gd tg cond elt e xs acc h1) else .bad
/-- a comprehension's list: one that may change, or not -/
def fin (m : Bool) (v : PV) (h : Hv) : Res PV := if m then (match v with
  | .d (.list xs) => newO (.lst xs) h
  | _ => .bad) else .ok v h
/-- what comes in a comprehension's block may not raise -/
def noexc {α : Type} : Res α → Res α
  | .exc _ _ _ => .bad
  | r => r
/-- what is said of what comes of a call -/
def saidR (p : Sdt) : Res PV → Res PV
  | .ok _ h => .ok (.d (.str p.w)) h
  | .exc c _ h => if c ∈ p.rs then (match p.hs.lookup c with
    | some v => .ok (.d (.str v)) h
    | none => .bad) else .bad
  | .bad => .bad
mutual
noncomputable def ev (G : Gls) (C : Fns) : E → Env → Hv → Res PV
  | .cst c, _, h => .ok (.d c) h
  | .var i, e, h => match e[i]? with
    | some (some v) => .ok v h
    | _ => .bad
  | .glb x, _, h => match G x with
    | some v => .ok v h
    | none => .bad
  | .gc v, _, h => .ok (.d v) h
  | .bin o a b, e, h => (ev G C a e h).bind fun x h1 => (ev G C b e h1).bind fun y h2 => op o x y h2
  | .neg a, e, h => (ev G C a e h).bind fun x h1 => match x with
    | .d (.int i) => .ok (.d (.int (-i))) h1
    | _ => .bad
  | .not a, e, h => tst (ev G C a e h) fun b h1 => .ok (.d (.bool (!b))) h1
  | .and a b, e, h => tst (ev G C a e h) fun c h1 => if c = true then tst (ev G C b e h1) (fun c h2 => .ok (.d (.bool c)) h2) else .ok (.d (.bool false)) h1
  | .or a b, e, h => tst (ev G C a e h) fun c h1 => if c = true then .ok (.d (.bool true)) h1 else tst (ev G C b e h1) (fun c h2 => .ok (.d (.bool c)) h2)
  | .cmp o a b, e, h => (ev G C a e h).bind fun x h1 => (ev G C b e h1).bind fun y h2 => cm o x y h2
  | .cmp2 o o' a b c, e, h => (ev G C a e h).bind fun x h1 => (ev G C b e h1).bind fun y h2 => tst (cm o x y h2) fun k h3 =>
      if k = true then (ev G C c e h3).bind fun z h4 => cm o' y z h4 else .ok (.d (.bool false)) h3
  | .ite c a b, e, h => tst (ev G C c e h) fun k h1 => if k = true then ev G C a e h1 else ev G C b e h1
  | .call x es, e, h => (evs G C es e h).bind fun vs h1 => C x vs h1
  | .callv f es, e, h => (ev G C f e h).bind fun v h1 => (evs G C es e h1).bind fun vs h2 => match v with
    | .fn x => C x vs h2
    | _ => .bad
  | .bi b a, e, h => (ev G C a e h).bind fun x h1 => bi b x h1
  | .isi t a, e, h => (ev G C a e h).bind fun x h1 => match x with
    | .d y => .ok (.d (.bool (isTy t y))) h1
    | _ => .bad
  | .tup es, e, h => (evs G C es e h).bind fun vs h1 => if lnOk vs.length then .ok (mkTup vs) h1 else .bad
  | .lst m es, e, h => (evs G C es e h).bind fun vs h1 => match allD vs with
    | some ds => if lnOk ds.length then (if m then newO (.lst ds) h1 else .ok (.d (.list ds)) h1) else .bad
    | none => .bad
  | .ix a i, e, h => (ev G C a e h).bind fun x h1 => (ev G C i e h1).bind fun y h2 => ix x y h2
  | .slc a lo hi, e, h => (ev G C a e h).bind fun x h1 => optI (evo G C lo e h1) fun l h2 => optI (evo G C hi e h2) fun r h3 => slc x l r h3
  | .comp m own elt tg it cond, e, h => (walk G C it e h).bind fun w h1 =>
      (compL w.gd tg (fun e h => noexc (match cond with
        | none => .ok (.d (.bool true)) h
        | some c => ev G C c e h)) (fun e h => noexc (ev G C elt e h)) (wipe e own) w.xs [] h1).bind (fin m)
  | .opq, _, _ => .bad
  | .kix x kvs i, e, h => (ev G C i e h).bind fun v h1 => match v with
    | .d (.str k) => (match getS kvs k with
      | some y => .ok (.d (.str y)) h1
      | none => .bad)
    | _ => .bad
  | .kin b x kvs i, e, h => (ev G C i e h).bind fun v h1 => match v with
    | .d (.str k) => .ok (.d (.bool (b == (getS kvs k).isSome))) h1
    | _ => .bad
  | .get a b, e, h => (ev G C a e h).bind fun x h1 => if isDct x h1 then (ev G C b e h1).bind fun y h2 => getM x y h2 else .bad
  | .fld c a f, e, h => (ev G C a e h).bind fun x h1 => fldD c x f h1
  | .mk c k es, e, h => (evs G C es e h).bind fun vs h1 => (newO (.ins c []) h1).bind fun x h2 => (C k (x :: vs) h2).bind fun y h3 => (match y with
      | .d .none => .ok x h3
      | _ => .bad)
  | .ocall c m k a es, e, h => (ev G C a e h).bind fun x h1 => if mayCall c m x h1 then (evs G C es e h1).bind fun vs h2 => C k (x :: vs) h2 else .bad
  | .lcp a, e, h => (ev G C a e h).bind fun x h1 => (bi .list x h1).bind (fin true)
  | .sset a, _, _ => .bad
  | .lset a, _, _ => .bad
  | .join s a, e, h => (ev G C a e h).bind fun x h1 => joinD s x h1
  | .dnew, _, h => newO (.dct []) h
  | .dz, _, h => .ok (.d (.dict [])) h
  | .said p a, e, h => saidR p (ev G C a e h)
  | .rev a, e, h => (ev G C a e h).bind fun x h1 => rev x h1
  | .meth a m es, e, h => (ev G C a e h).bind fun x h1 => if isLst x h1 then (evs G C es e h1).bind fun vs h2 => meth m x vs h2 else .bad
noncomputable def evs (G : Gls) (C : Fns) : List E → Env → Hv → Res (List PV)
  | [], _, h => .ok [] h
  | a :: r, e, h => (ev G C a e h).bind fun x h1 => (evs G C r e h1).bind fun xs h2 => .ok (x :: xs) h2
noncomputable def evo (G : Gls) (C : Fns) : Option E → Env → Hv → Res (Option PV)
  | none, _, h => .ok none h
  | some a, e, h => (ev G C a e h).bind fun x h1 => .ok (some x) h1
noncomputable def walk (G : Gls) (C : Fns) : It → Env → Hv → Res Walk
  | .of a, e, h => (ev G C a e h).bind fun x h1 => walk1 x h1
  | .range1 a, e, h => (ev G C a e h).bind fun x h1 => match x with
    | .d (.int j) => if b62 j then .ok ⟨rngs 0 j.toNat, .no⟩ h1 else .bad
    | _ => .bad
  | .range2 a b, e, h => (ev G C a e h).bind fun x h1 => (ev G C b e h1).bind fun y h2 => match x, y with
    | .d (.int i), .d (.int j) => if b62 i && b62 j then .ok ⟨rngs i (j - i).toNat, .no⟩ h2 else .bad
    | _, _ => .bad
  | .rangeD a b, e, h => (ev G C a e h).bind fun x h1 => (ev G C b e h1).bind fun y h2 => match x, y with
    | .d (.int i), .d (.int j) => if b62 i && b62 j then .ok ⟨rngD i (i - j).toNat, .no⟩ h2 else .bad
    | _, _ => .bad
  | .zip2 a b, e, h => (ev G C a e h).bind fun x h1 => (ev G C b e h1).bind fun y h2 => match zsrc x, zsrc y with
    | some xs, some ys => .ok ⟨(xs.zip ys).map fun p => .d (.tuple [p.1, p.2]), .no⟩ h2
    | _, _ => .bad
  | .enum a, e, h => (ev G C a e h).bind fun x h1 => match zsrc x with
    | some xs => .ok ⟨xs.zipIdx.map fun p => .d (.tuple [.int (p.2 : Nat), p.1]), .no⟩ h1
    | none => .bad
end
mutual
def S.vars : S → List Nat
  | .asg tg _ => tg.vars
  | .par i j _ _ => [i, j]
  | .par3 i j l _ _ _ => [i, j, l]
  | .aug i _ _ => [i]
  | .ifS _ a b => S.varsL a ++ S.varsL b
  | .forS tg _ b => tg.vars ++ S.varsL b
  | .whileS _ b => S.varsL b
  | _ => []
def S.varsL : List S → List Nat
  | [] => []
  | s :: r => s.vars ++ S.varsL r
end
mutual
noncomputable def exec (G : Gls) (C : Fns) : S → Env → Hv → Res Flow
  | .ret a, e, h => (ev G C a e h).bind fun x h1 => .ok (.ret x) h1
  | .retN, _, h => .ok (.ret (.d .none)) h
  | .asg tg a, e, h => (ev G C a e h).bind fun x h1 => match storeH tg x e h1 with
    | some e1 => .ok (.nx e1) h1
    | none => .bad
  | .par i j a b, e, h => (ev G C a e h).bind fun x h1 => (ev G C b e h1).bind fun y h2 => if i < e.length && j < e.length then .ok (.nx ((e.set i (some x)).set j (some y))) h2 else .bad
  | .par3 i j l a b c, e, h => (ev G C a e h).bind fun x h1 => (ev G C b e h1).bind fun y h2 => (ev G C c e h2).bind fun z h3 => if i < e.length && j < e.length && l < e.length then .ok (.nx (((e.set i (some x)).set j (some y)).set l (some z))) h3 else .bad
  | .setI o i a, e, h => (ev G C a e h).bind fun v h1 => (ev G C o e h1).bind fun x h2 => (ev G C i e h2).bind fun y h3 => (setI x y v h3).bind fun _ h4 => .ok (.nx e) h4
  | .aug i o a, e, h => match e[i]? with
    | some (some x) => (ev G C a e h).bind fun y h1 => (augop o x y h1).bind fun z h2 => if i < e.length then .ok (.nx (e.set i (some z))) h2 else .bad
    | _ => .bad
  | .expr a, e, h => (ev G C a e h).bind fun _ h1 => .ok (.nx e) h1
  | .ifS c a b, e, h => tst (ev G C c e h) fun k h1 => if k = true then execs G C a e h1 else execs G C b e h1
  | .forS tg it body, e, h => (walk G C it e h).bind fun w h1 => forL w.gd tg (fun e h => execs G C body e h) w.xs e h1
  | .whileS c body, e, h => whileL (fun e h => ev G C c e h) (fun e h => execs G C body e h) e h
  | .raiseS c es, e, h => (evs G C es e h).bind fun vs h1 => match es with
    | [] => .exc c [] h1
    | _ => .bad
  | .opq, _, _ => .bad
  | .setF c o f a, e, h => (ev G C a e h).bind fun v h1 => (ev G C o e h1).bind fun x h2 => match setFD c x f v h2 with
    | some h3 => .ok (.nx e) h3
    | none => .bad
  | .augF c o f op a, e, h => (ev G C o e h).bind fun x h1 => (fldD c x f h1).bind fun v h2 => (ev G C a e h2).bind fun y h3 => (augop op v y h3).bind fun z h4 => match setFD c x f z h4 with
    | some h5 => .ok (.nx e) h5
    | none => .bad
  | .pass, e, h => .ok (.nx e) h
  | .brk, e, h => .ok (.brk e) h
  | .ct, e, h => .ok (.ct e) h
noncomputable def execs (G : Gls) (C : Fns) : List S → Env → Hv → Res Flow
  | [], e, h => .ok (.nx e) h
  | s :: r, e, h => (exec G C s e h).bind fun f h1 => match f with
    | .nx e1 => execs G C r e1 h1
    | .ret v => .ok (.ret v) h1
    | .brk e1 => .ok (.brk e1) h1
    | .ct e1 => .ok (.ct e1) h1
end
/-- a def: how many parameters, the names in its slots (the parameters first), its body; cl: what it hands back is data, and the objects that it made are let go -/
structure Df where
  np : Nat
  ns : Nat
  body : List S
  cl : Bool := true
def back (cl : Bool) (h0 : Hv) (v : PV) (h : Hv) : Res PV :=
  if cl then (match v with
    | .d x => .ok (.d x) ⟨h.os.take h0.os.length, h0.lim⟩
    | .fn x => .ok (.fn x) ⟨h.os.take h0.os.length, h0.lim⟩
    | .ref n => (match h.os[n]? with
      | some (.lst xs) => if h0.os.length ≤ n then .ok (.d (.list xs)) ⟨h.os.take h0.os.length, h0.lim⟩ else .bad
      | _ => .bad)
    | _ => .bad) else .ok v h
noncomputable def run (G : Gls) (C : Fns) (f : Df) (vs : List PV) (h : Hv) : Res PV :=
  if vs.length = f.np then
    match execs G C f.body (vs.map some ++ List.replicate (f.ns - f.np) none) (if f.cl then ⟨h.os, h.os.length⟩ else h) with
    | .ok (.ret v) h1 => back f.cl h v h1
    | .ok (.nx _) h1 => back f.cl h (.d .none) h1
    | .ok _ _ => .bad
    | .exc c fs h1 => if f.cl then .exc c fs ⟨h1.os.take h.os.length, h.lim⟩ else .exc c fs h1
    | .bad => .bad
  else .bad
abbrev Tab := Str → Option Df
/-- the defs, so many calls deep -/
noncomputable def call (G : Gls) (T : Tab) : Nat → Fns
  | 0, _, _, _ => .bad
  | k + 1, x, vs, h => match T x with
    | some f => run G (call G T k) f vs h
    | none => .bad
end NC
/-! The checker: does a piece of the program's text say what a piece of the small syntax says? -/
namespace NC
open PySem

/-- the names that a text may speak of: defs; exceptions; classes with their __init__ in the table; methods (class, name, name in the table); fields -/
structure Nm where
  fns : List Str := []
  exs : List Str := []
  mks : List (Str × Str) := []
  mts : List (Str × Str × Str) := []
  fld : List (Str × Str) := []
  kds : List (Str × List (Str × Str)) := []
  gcs : List (Str × PyData) := []
  /-- defs that say what is raised -/
  sds : List Sdt := []
  /-- defs that hold lambdas -/
  lms : List Str := []
  /-- lambdas may stand here -/
  inl : Bool := false
/-- what a body without lambdas may speak of -/
def Nm.lo (D : Nm) : Nm := { D with inl := false, fns := if D.lms.isEmpty then D.fns else D.fns.filter fun x => !decide (x ∈ D.lms) }
/-- what the body of x may speak of -/
def Nm.at (D : Nm) (x : Str) : Nm := if x ∈ D.lms then { D with inl := true } else D.lo
theorem Nm.lo_fns {D : Nm} {x : Str} (h : x ∈ D.lo.fns) : x ∈ D.fns ∧ x ∉ D.lms := by
  have h' : x ∈ (if D.lms.isEmpty then D.fns else D.fns.filter fun x => !decide (x ∈ D.lms)) := h
  split at h'
  · rename_i z
    refine ⟨h', ?_⟩
    rw [List.isEmpty_iff.mp z]
    exact List.not_mem_nil
  · rw [List.mem_filter] at h'
    exact ⟨h'.1, by simpa using h'.2⟩
def okName (x : Str) : Bool := !(x == ("__debug__" : Str)) && !(x == ("__classdict__" : Str)) && !(x == ("__name__" : Str))
def visB (sc : Scope) (x : Str) : Bool := match sc.names.lookup x with
  | some .local => true
  | some .cell => true
  | some .free => true
  | _ => false
def locB (sc : Scope) (x : Str) : Bool := match sc.names.lookup x with
  | some .local => true
  | some .cell => true
  | _ => false
def loc1B (sc : Scope) (x : Str) : Bool := match sc.names.lookup x with
  | some .local => true
  | _ => false
def glbB (sc : Scope) (x : Str) : Bool := match sc.names.lookup x with
  | some .globalImplicit => okName x
  | _ => false
def chkC : PyData → Const → Bool
  | .int i, .int j => i == j
  | .str x, .str y => x == y
  | .bool a, .bool b => a == b
  | .none, .none => true
  | _, _ => false
def chkOp : Op → Operator → Bool
  | .add, .Add => true
  | .sub, .Sub => true
  | .mul, .Mult => true
  | .fdiv, .FloorDiv => true
  | .mod, .Mod => true
  | .pow, .Pow => true
  | .addM, .Add => true
  | _, _ => false
def chkCm : Cm → CmpOp → Bool
  | .eq, .Eq => true
  | .ne, .NotEq => true
  | .lt, .Lt => true
  | .le, .LtE => true
  | .gt, .Gt => true
  | .ge, .GtE => true
  | .is, .Is => true
  | .isn, .IsNot => true
  | .inn, .In => true
  | .nin, .NotIn => true
  | _, _ => false
def Ty.nm : Ty → Str
  | .int => "int" | .bool => "bool" | .str => "str" | .tuple => "tuple" | .list => "list" | .dict => "dict"
def Bi.nm : Bi → Str
  | .abs => "abs" | .len => "len" | .int => "int" | .repr => "repr" | .all => "all" | .any => "any" | .tuple => "tuple" | .list => "list" | .sum => "sum" | .max => "max" | .min => "min" | .dict => "dict" | .str => "str" | .sorted => "sorted"
/-- the built-in is a type -/
def bmName (m : Str) (es : List E) : Bool := match es with
  | [_] => decide (m = "append") || decide (m = "extend")
  | [] => decide (m = "pop")
  | _ => false
def isComp : Expr → Bool
  | .ListComp .. | .SetComp .. | .DictComp .. | .Set .. => true
  | _ => false
mutual
def chkTg (sc : Scope) (N : List Str) : Tg → Expr → Bool
  | .var i, .Name x _ => decide (N[i]? = some x) && locB sc x && okName x
  | .tup ts, .Tuple es _ _ => chkTgs sc N ts es
  | _, _ => false
def chkTgs (sc : Scope) (N : List Str) : List Tg → List Expr → Bool
  | [], [] => true
  | t :: ts, e :: es => chkTg sc N t e && chkTgs sc N ts es
  | _, _ => false
end
mutual
/-- the same constant -/
def sameD : PyData → PyData → Bool
  | .none, .none => true
  | .bool a, .bool b => a == b
  | .int a, .int b => a == b
  | .str a, .str b => a == b
  | .tuple a, .tuple b => sameDs a b
  | _, _ => false
def sameDs : List PyData → List PyData → Bool
  | [], [] => true
  | a :: r, b :: s => sameD a b && sameDs r s
  | _, _ => false
end
mutual
theorem sameD_eq : ∀ (a b : PyData), sameD a b = true → a = b
  | .none, b, h => by cases b <;> first | rfl | (simp [sameD] at h)
  | .bool a, b, h => by cases b <;> first | (simp [sameD] at h; done) | (simp only [sameD, beq_iff_eq] at h; rw [h])
  | .int a, b, h => by cases b <;> first | (simp [sameD] at h; done) | (simp only [sameD, beq_iff_eq] at h; rw [h])
  | .str a, b, h => by cases b <;> first | (simp [sameD] at h; done) | (simp only [sameD, beq_iff_eq] at h; rw [h])
  | .tuple a, b, h => by cases b <;> first | (simp [sameD] at h; done) | (simp only [sameD] at h; rw [sameDs_eq _ _ h])
  | .list a, b, h => by cases b <;> simp [sameD] at h
  | .dict a, b, h => by cases b <;> simp [sameD] at h
theorem sameDs_eq : ∀ (a b : List PyData), sameDs a b = true → a = b
  | [], b, h => by cases b <;> first | rfl | (simp [sameDs] at h)
  | x :: a, b, h => by
    cases b with
    | nil => simp [sameDs] at h
    | cons y b =>
      simp only [sameDs, Bool.and_eq_true] at h
      rw [sameD_eq x y h.1, sameDs_eq a b h.2]
end
/-- what may stand for an expression that is not told -/
def opqB : Expr → Bool
  | .Starred .. | .Slice .. | .ListComp .. | .SetComp .. | .DictComp .. | .Set .. => false
  | _ => true
/-- the base of an attribute: no super() -/
def okBase : Expr → Bool
  | .Call (.Name id _) [] [] _ => !(id == ("super" : Str))
  | _ => true
def needsTup : NC.It → Bool
  | .zip2 .. => true
  | .enum .. => true
  | _ => false
def isTupX : Expr → Bool
  | .Tuple .. => true
  | _ => false
/-- no parameters -/
def noPar (a : Arguments) : Bool := a.posonlyargs.isEmpty && a.args.isEmpty && a.vararg.isNone && a.kwonlyargs.isEmpty && a.kw_defaults.isEmpty && a.kwarg.isNone && a.defaults.isEmpty
mutual
def chkE (D : Nm) (sc : Scope) (N : List Str) : E → Expr → Bool
  | .cst c, .Constant k _ _ => chkC c k
  | .var i, .Name x _ => decide (N[i]? = some x) && visB sc x && okName x
  | .glb x, .Name y _ => decide (x = y) && glbB sc x
  | .gc v, .Name y _ => glbB sc y && D.gcs.any fun p => decide (p.1 = y) && sameD p.2 v
  | .bin o a b, .BinOp ea op eb _ => chkOp o op && chkE D sc N a ea && chkE D sc N b eb
  | .neg a, .UnaryOp .USub ea _ => chkE D sc N a ea
  | .not a, .UnaryOp .Not ea _ => chkE D sc N a ea
  | .and a b, .BoolOp .And (ea :: eb :: r) p => chkE D sc N a ea && chkE D sc N b (match r with | [] => eb | _ => .BoolOp .And (eb :: r) p)
  | .or a b, .BoolOp .Or (ea :: eb :: r) p => chkE D sc N a ea && chkE D sc N b (match r with | [] => eb | _ => .BoolOp .Or (eb :: r) p)
  | .cmp o a b, .Compare ea [op] [eb] _ => chkCm o op && !behindInMarks op eb && chkE D sc N a ea && chkE D sc N b eb
  | .cmp2 o o' a b c, .Compare ea [op, op'] [eb, ec] _ => chkCm o op && chkCm o' op' && !behindInMarks op' ec && chkE D sc N a ea && chkE D sc N b eb && chkE D sc N c ec
  | .ite c a b, .IfExp ec ea eb _ => chkE D sc N c ec && chkE D sc N a ea && chkE D sc N b eb
  | .call x es, .Call (.Name y _) ees [] _ => decide (x = y) && glbB sc x && decide (x ∈ D.fns) && chkEs D sc N es ees
  | .bi b a, .Call (.Name y _) [ea] [] _ => decide (b.nm = y) && glbB sc y && chkE D sc N a ea
  | .isi t a, .Call (.Name y _) [ea, .Name z _] [] _ => decide (y = ("isinstance" : Str)) && glbB sc y && decide (z = t.nm) && glbB sc z && chkE D sc N a ea
  | .tup es, .Tuple ees _ _ => chkEs D sc N es ees
  | .lst _ es, .List ees _ => chkEs D sc N es ees
  | .ix a i, .Subscript ea ei _ => chkE D sc N a ea && chkE D sc N i ei
  | .slc a lo hi, .Subscript ea (.Slice l r none _) _ => chkE D sc N a ea && chkEo D sc N lo l && chkEo D sc N hi r
  | .comp m own elt tg it cond, .ListComp eelt [⟨etg, eit, eifs, asy⟩] scope _ => decide (asy = 0) && L2.blkC N sc scope (own.map fun i => ((N[i]?).getD "", i)) && chkIt D sc N it eit && (!needsTup it || isTupX etg) && (tg.vars.all fun i => decide (i ∈ own)) && chkTg scope N tg etg && chkE D (L2.relS scope sc) N elt eelt &&
      (match cond, eifs with
        | none, [] => true
        | some c, [ec] => chkE D (L2.relS scope sc) N c ec
        | _, _ => false)
  | .dnew, .Dict [] [] _ => true
  | .dz, .Dict [] [] _ => true
  | .said p a, .Call (.Name y _) [ea] [] _ => D.inl && decide (p.x = y) && glbB sc y && decide (p ∈ D.sds) && (match ea with
      | .Lambda params body scope _ => noPar params && LamX.lamSB sc scope && chkE D.lo scope N a body
      | _ => false)
  | .rev a, .Subscript ea (.Slice none none (some (.UnaryOp .USub (.Constant (.int i) _ _) _)) _) _ => decide (i = 1) && chkE D sc N a ea
  | .meth a m es, .Call (.Attribute ea m' apos) ees [] pos => decide (m = m') && bmName m es && (apos.endLine == pos.line) && okBase ea && chkE D sc N a ea && chkEs D sc N es ees
  | .opq, e => opqB e
  | .kix x kvs i, .Subscript (.Name y _) ei _ => decide (x = y) && glbB sc y && decide ((x, kvs) ∈ D.kds) && chkE D sc N i ei
  | .kin b x kvs i, .Compare ei [op] [.Name y py] _ => chkCm (if b then .inn else .nin) op && !behindInMarks op (.Name y py) && decide (x = y) && glbB sc y && decide ((x, kvs) ∈ D.kds) && chkE D sc N i ei
  | .get a b, .Call (.Attribute ea m' apos) [eb] [] pos => decide (m' = ("get" : Str)) && (apos.endLine == pos.line) && okBase ea && chkE D sc N a ea && chkE D sc N b eb
  | .fld c a f, .Attribute ea f' _ => decide (f = f') && decide ((c, f) ∈ D.fld) && okBase ea && chkE D sc N a ea
  | .mk c k es, .Call (.Name y _) ees [] _ => decide (c = y) && glbB sc c && decide ((c, k) ∈ D.mks) && chkEs D sc N es ees
  | .ocall c m k a es, .Call (.Attribute ea m' apos) ees [] pos => decide (m = m') && decide ((c, m, k) ∈ D.mts) && (apos.endLine == pos.line) && okBase ea && decide (ees.length < 29) && chkE D sc N a ea && chkEs D sc N es ees
  | .lcp a, .Call (.Name y _) [ea] [] _ => decide (y = ("list" : Str)) && glbB sc y && chkE D sc N a ea
  | .sset _, _ => false
  | .lset _, _ => false
  | .join s a, .Call (.Attribute ea m' apos) [eb] [] pos => decide (m' = ("join" : Str)) && (apos.endLine == pos.line) && (match ea with
      | .Constant (.str z) _ _ => decide (z = s)
      | _ => false) && chkE D sc N a eb
  | _, _ => false
def chkEs (D : Nm) (sc : Scope) (N : List Str) : List E → List Expr → Bool
  | [], [] => true
  | a :: r, ea :: er => chkE D sc N a ea && chkEs D sc N r er
  | _, _ => false
def chkEo (D : Nm) (sc : Scope) (N : List Str) : Option E → Option Expr → Bool
  | none, none => true
  | some a, some ea => chkE D sc N a ea
  | _, _ => false
def chkIt (D : Nm) (sc : Scope) (N : List Str) : It → Expr → Bool
  | .of a, e => chkE D sc N a e
  | .range1 a, e => match e with
    | .Call (.Name y _) [ea] [] _ => decide (y = ("range" : Str)) && glbB sc y && chkE D sc N a ea
    | _ => false
  | .range2 a b, e => match e with
    | .Call (.Name y _) [ea, eb] [] _ => decide (y = ("range" : Str)) && glbB sc y && chkE D sc N a ea && chkE D sc N b eb
    | _ => false
  | .rangeD a b, e => match e with
    | .Call (.Name y _) [ea, eb, .UnaryOp .USub (.Constant (.int i) _ _) _] [] _ => decide (y = ("range" : Str)) && glbB sc y && decide (i = 1) && chkE D sc N a ea && chkE D sc N b eb
    | _ => false
  | .zip2 a b, e => match e with
    | .Call (.Name y _) [ea, eb] [] _ => decide (y = ("zip" : Str)) && glbB sc y && chkE D sc N a ea && chkE D sc N b eb
    | _ => false
  | .enum a, e => match e with
    | .Call (.Name y _) [ea] [] _ => decide (y = ("enumerate" : Str)) && glbB sc y && chkE D sc N a ea
    | _ => false
end
/-- a look at a def's names -/
def scB (N P : List Str) (sc : Scope) : Bool :=
  decide (sc.kind = .function) && !sc.isCoroutine && !sc.isGenerator && decide N.Nodup && decide (N.take P.length = P) && (P.all fun x => locB sc x) && (sc.names.all fun y => !decide (y.2 = .free))
/-- the clauses of a def that says what is raised; t: the name of what is said -/
def hdB (sc : Scope) (t : Str) (b : Str × Str) : ExceptHandler → Bool
  | .ExceptHandler (some (.Name x _)) none [.Assign [.Name u _] (.Constant (.str v) _ _) _] _ => decide (x = b.1) && decide (u = t) && decide (v = b.2) && glbB sc x
  | _ => false
def hdsB (sc : Scope) (t : Str) : List ExceptHandler → List (Str × Str) → Bool
  | [], [] => true
  | e :: r, b :: s => hdB sc t b e && hdsB sc t r s
  | _, _ => false
/-- a def that says what is raised -/
def saidB (p : Sdt) (sc : Scope) : List Stmt → Bool
  | [.Assign [.Name t _] (.Constant (.str w) _ _) _, .Try [.Expr (.Call (.Name c _) [] [] _) _] (h0 :: hds) [] [] _, .Return (some (.Name t' _)) _] =>
    decide (c = ("call" : Str)) && decide (t' = t) && decide (w = p.w) && scB ["call", t] ["call"] sc && loc1B sc t && loc1B sc ("call" : Str) && okName t && hdsB sc t (h0 :: hds) p.hs
  | _ => false
/-- a, b = x, y where the machine stores without making a pair -/
def parB (sc : Scope) (N : List Str) (i j : Nat) (x y : Str) (px py : Pos) (ea eb : Expr) : Bool :=
  decide (N[i]? = some x) && decide (N[j]? = some y) && loc1B sc x && loc1B sc y && decide (i ≠ j) && decide (x ≠ y) && (px.line == py.line) && okName x && okName y &&
  !([ea, eb].all (foldedForSure 8)) && !([ea, eb].all (constantsAlone 8))
/-- the same of three -/
def par3B (sc : Scope) (N : List Str) (i j l : Nat) (x y z : Str) (px py pz : Pos) (ea eb ec : Expr) : Bool :=
  decide (N[i]? = some x) && decide (N[j]? = some y) && decide (N[l]? = some z) && loc1B sc x && loc1B sc y && loc1B sc z && decide (i ≠ j) && decide (i ≠ l) && decide (j ≠ l) && decide (x ≠ y) && decide (x ≠ z) && decide (y ≠ z) && (px.line == py.line) && (px.line == pz.line) && okName x && okName y && okName z &&
  !([ea, eb, ec].all (foldedForSure 8)) && !([ea, eb, ec].all (constantsAlone 8))
/-- no target, or no value, of the kind that is stored without a tuple -/
def unswB (sc : Scope) (ts : List Expr) (value : Expr) : Bool := match value with
  | .Tuple vs _ _ => !(ts.length == 2 || ts.length == 3) || vs.length != ts.length || ts.any fun
    | .Name id _ => !loc1B sc id
    | _ => true
  | _ => true
mutual
def chkS (D : Nm) (sc : Scope) (N : List Str) : S → Stmt → Bool
  | .ret a, st => match st with
    | .Return (some ea) _ => chkE D sc N a ea
    | _ => false
  | .retN, st => match st with
    | .Return none _ => true
    | _ => false
  | .asg tg a, st => match st with
    | .Assign [t] ea _ => chkTg sc N tg t && chkE D sc N a ea && (match t with
      | .Name _ _ => true
      | .Tuple es _ _ => unswB sc es ea
      | _ => false)
    | _ => false
  | .par i j a b, st => match st with
    | .Assign [.Tuple [.Name x px, .Name y py] _ _] (.Tuple [ea, eb] _ _) _ => parB sc N i j x y px py ea eb && chkE D sc N a ea && chkE D sc N b eb
    | _ => false
  | .par3 i j l a b c, st => match st with
    | .Assign [.Tuple [.Name x px, .Name y py, .Name z pz] _ _] (.Tuple [ea, eb, ec] _ _) _ => par3B sc N i j l x y z px py pz ea eb ec && chkE D sc N a ea && chkE D sc N b eb && chkE D sc N c ec
    | _ => false
  | .setI o i a, st => match st with
    | .Assign [.Subscript eo ei _] ea _ => chkE D sc N o eo && chkE D sc N i ei && chkE D sc N a ea
    | _ => false
  | .aug i op a, st => match st with
    | .AugAssign (.Name x p) eop ea _ => chkTg sc N (.var i) (.Name x p) && chkOp op eop && chkE D sc N a ea
    | _ => false
  | .expr a, st => match st with
    | .Expr ea _ => chkE D sc N a ea && !isComp ea
    | _ => false
  | .ifS c a b, st => match st with
    | .If ec ea eb _ => chkE D sc N c ec && chkSs D sc N a ea && chkSs D sc N b eb
    | _ => false
  | .forS tg it body, st => match st with
    | .For etg eit ebody [] _ => chkTg sc N tg etg && chkIt D sc N it eit && (!needsTup it || isTupX etg) && chkSs D sc N body ebody
    | _ => false
  | .whileS c body, st => match st with
    | .While ec ebody [] _ => chkE D sc N c ec && chkSs D sc N body ebody
    | _ => false
  | .raiseS c es, st => match st with
    | .Raise (some (.Call (.Name y _) ees [] _)) none _ => decide (c = y) && glbB sc y && decide (y ∈ D.exs) && es.isEmpty && ees.isEmpty
    | _ => false
  | .opq, _ => true
  | .setF c o f a, st => match st with
    | .Assign [.Attribute eo f' _] ea _ => decide (f = f') && decide ((c, f) ∈ D.fld) && !isComp ea && chkE D sc N o eo && chkE D sc N a ea
    | _ => false
  | .augF c o f op a, st => match st with
    | .AugAssign (.Attribute eo f' _) eop ea _ => decide (f = f') && decide ((c, f) ∈ D.fld) && chkOp op eop && chkE D sc N o eo && chkE D sc N a ea
    | _ => false
  | .pass, st => match st with
    | .Pass _ => true
    | _ => false
  | .brk, st => match st with
    | .Break _ => true
    | _ => false
  | .ct, st => match st with
    | .Continue _ => true
    | _ => false
def chkSs (D : Nm) (sc : Scope) (N : List Str) : List S → List Stmt → Bool
  | [], [] => true
  | s :: r, es :: er => chkS D sc N s es && chkSs D sc N r er
  | _, _ => false
end
end NC
/-! How values and objects of the small semantics lie in the machine's heap. -/
namespace NC
open PySem PySem.Spec PyProof.Rows L2

def noHp : Hp := fun _ => none
theorem noRd {a : Addr} {u : HO} (h : Rd noHp a u) : False := by
  rcases h with h | ⟨o, h⟩ <;> cases h
/-- the script: locked, or a constant of the module -/
def ZL (K : PySem.W.Frag) (H : Hp) (a : Addr) (vs : List V) : Prop := (∃ o, H a = some (.frz o (.lst vs))) ∨ SqL K noHp a vs
theorem ZL.sq {K : PySem.W.Frag} {H : Hp} {a : Addr} {vs : List V} (h : ZL K H a vs) : SqL K H a vs := by
  rcases h with h | h
  · exact .inl (.inr h)
  · rcases h with h | h
    · exact (noRd h).elim
    · exact .inr h
/-- nothing that does not change has changed: tuples, locked things, the lists of F (those that stay as they are) -/
structure Kp (F : Addr → Prop) (H : Hp) (F' : Addr → Prop) (H' : Hp) : Prop where
  tup : ∀ a vs, H a = some (.tup vs) → H' a = some (.tup vs)
  frz : ∀ a o u, H a = some (.frz o u) → H' a = some (.frz o u)
  fix : ∀ a, F a → F' a ∧ H' a = H a
theorem Kp.refl {F : Addr → Prop} {H : Hp} : Kp F H F H := ⟨fun _ _ h => h, fun _ _ _ h => h, fun _ h => ⟨h, rfl⟩⟩
theorem Kp.trans {M1 M2 M3 : Addr → Prop} {H1 H2 H3 : Hp} (a : Kp M1 H1 M2 H2) (b : Kp M2 H2 M3 H3) : Kp M1 H1 M3 H3 :=
  ⟨fun x vs h => b.tup x vs (a.tup x vs h), fun x o u h => b.frz x o u (a.frz x o u h), fun x h => ⟨(b.fix x (a.fix x h).1).1, (b.fix x (a.fix x h).1).2.trans (a.fix x h).2⟩⟩
theorem Kp.rdT {M M' : Addr → Prop} {H H' : Hp} (k : Kp M H M' H') {a : Addr} {vs : List V} (r : Rd H a (.tup vs)) : Rd H' a (.tup vs) := by
  rcases r with r | ⟨o, r⟩
  · exact .inl (k.tup a _ r)
  · exact .inr ⟨o, k.frz a _ _ r⟩
theorem Kp.zl {K : PySem.W.Frag} {M M' : Addr → Prop} {H H' : Hp} (k : Kp M H M' H') {a : Addr} {vs : List V} (z : ZL K H a vs) : ZL K H' a vs := by
  rcases z with ⟨o, z⟩ | z
  · exact .inl ⟨o, k.frz _ _ _ z⟩
  · exact .inr z
theorem Kp.zt {K : PySem.W.Frag} {M M' : Addr → Prop} {H H' : Hp} (k : Kp M H M' H') {a : Addr} {vs : List V} (z : SqT K H a vs) : SqT K H' a vs := by
  rcases z with z | z
  · exact .inl (k.rdT z)
  · exact .inr z
/-- a new object -/
theorem Kp.new {M : Addr → Prop} {H : Hp} {p : Addr} {o : HO} (h : H p = none) (hm : ∀ a, M a → H a ≠ none) : Kp M H M (upd H p o) :=
  ⟨fun a vs e => by rw [upd_ne (ne_of_none e h)]; exact e, fun a u v e => by rw [upd_ne (ne_of_none e h)]; exact e, fun a m => ⟨m, upd_ne fun z => hm a m (by rw [z]; exact h)⟩⟩
/-- what is neither a tuple nor locked, nor of F, is changed -/
theorem Kp.set {M : Addr → Prop} {H : Hp} {p : Addr} {o : HO} (ht : ∀ vs, H p ≠ some (.tup vs)) (hf : ∀ ob u, H p ≠ some (.frz ob u)) (h : ¬ M p) : Kp M H M (upd H p o) :=
  ⟨fun a vs e => by rw [upd_ne (fun z : a = p => ht vs (by rw [← z]; exact e))]; exact e, fun a ob u e => by rw [upd_ne (fun z : a = p => hf ob u (by rw [← z]; exact e))]; exact e,
    fun a m => ⟨m, upd_ne fun z : a = p => h (by rw [← z]; exact m)⟩⟩
theorem Kp.more {M M' : Addr → Prop} {H : Hp} (h : ∀ a, M a → M' a) : Kp M H M' H := ⟨fun _ _ h => h, fun _ _ _ h => h, fun a m => ⟨h a m, rfl⟩⟩

/-! ### data -/
mutual
inductive RD (K : PySem.W.Frag) (Mu : Addr → Prop) (H : Hp) : PyData → V → Prop
  | non : RD K Mu H .none .non
  | bl (b : Bool) : RD K Mu H (.bool b) (.bl b)
  | int (i : Int) : RD K Mu H (.int i) (.int i)
  | str (x : Str) : RD K Mu H (.str x) (.str x)
  | lst {a : Addr} {vs : List V} {ds : List PyData} : H a = some (.lst vs) → Mu a → RDs K Mu H ds vs → RD K Mu H (.list ds) (.ref a)
  | tup {a : Addr} {vs : List V} {ds : List PyData} : SqT K H a vs → RDs K Mu H ds vs → RD K Mu H (.tuple ds) (.ref a)
  | dz {a : Addr} : H a = some (.dK []) → Mu a → RD K Mu H (.dict []) (.ref a)
inductive RDs (K : PySem.W.Frag) (Mu : Addr → Prop) (H : Hp) : List PyData → List V → Prop
  | nil : RDs K Mu H [] []
  | cons {d : PyData} {ds : List PyData} {v : V} {vs : List V} : RD K Mu H d v → RDs K Mu H ds vs → RDs K Mu H (d :: ds) (v :: vs)
end
section
variable {K : PySem.W.Frag} {M M' : Addr → Prop} {H H' : Hp}
mutual
theorem RD.mono (k : Kp M H M' H') : ∀ (d : PyData) (v : V), RD K M H d v → RD K M' H' d v
  | .none, _, r => by cases r; exact .non
  | .bool _, _, r => by cases r; exact .bl _
  | .int _, _, r => by cases r; exact .int _
  | .str _, _, r => by cases r; exact .str _
  | .list ds, _, r => by cases r with | lst z m q => exact .lst ((k.fix _ m).2.trans z) (k.fix _ m).1 (RDs.mono k ds _ q)
  | .tuple ds, _, r => by cases r with | tup z q => exact .tup (k.zt z) (RDs.mono k ds _ q)
  | .dict _, _, r => by cases r with | dz z m => exact .dz ((k.fix _ m).2.trans z) (k.fix _ m).1
theorem RDs.mono (k : Kp M H M' H') : ∀ (ds : List PyData) (vs : List V), RDs K M H ds vs → RDs K M' H' ds vs
  | [], _, r => by cases r; exact .nil
  | d :: ds, _, r => by cases r with | cons a b => exact .cons (RD.mono k d _ a) (RDs.mono k ds _ b)
end
mutual
theorem RD.dp0 : ∀ (d : PyData) (v : V), d.canLay0 = true → RD K M H d v → Dp K H v d
  | .none, _, _, r => by cases r; exact .non
  | .bool _, _, _, r => by cases r; exact .bl _
  | .int _, _, _, r => by cases r; exact .int _
  | .str _, _, _, r => by cases r; exact .str _
  | .list ds, _, h, r => by cases r with | lst z m q => exact .lst (.of z) (RDs.dp0 ds _ (by simpa [PyData.canLay0] using h) q)
  | .tuple ds, _, h, r => by cases r with | tup z q => exact .tup z (RDs.dp0 ds _ (by simpa [PyData.canLay0] using h) q)
  | .dict _, _, h, r => by simp [PyData.canLay0] at h
theorem RDs.dp0 : ∀ (ds : List PyData) (vs : List V), PyData.canLayAll0 ds = true → RDs K M H ds vs → DpAll K H vs ds
  | [], _, _, r => by cases r; exact .nil
  | d :: ds, _, h, r => by
    have h' : (d.canLay0 && PyData.canLayAll0 ds) = true := h
    rw [Bool.and_eq_true] at h'
    cases r with | cons a b => exact .cons (RD.dp0 d _ h'.1 a) (RDs.dp0 ds _ h'.2 b)
end
theorem lay_shaped {d : PyData} (h : SeqAt.shaped d = true) : d.canLay0 = true := by
  unfold SeqAt.shaped at h
  rw [Bool.and_eq_true] at h
  first | exact h.1 | exact h.2
theorem RD.dp {d : PyData} {v : V} (r : RD K M H d v) (h : SeqAt.shaped d = true) : Dp K H v d := RD.dp0 d v (lay_shaped h) r
theorem RDs.length : ∀ {ds : List PyData} {vs : List V}, RDs K M H ds vs → ds.length = vs.length
  | _, _, .nil => rfl
  | _, _, .cons _ b => congrArg (· + 1) (RDs.length b)
theorem RDs.get : ∀ {ds : List PyData} {vs : List V} {i : Nat} {d : PyData}, RDs K M H ds vs → ds[i]? = some d → ∃ v, vs[i]? = some v ∧ RD K M H d v
  | _, _, _, _, .nil, e => by simp at e
  | _, _, 0, _, .cons a _, e => by simp at e; subst e; exact ⟨_, rfl, a⟩
  | _, _, i + 1, d, .cons _ b, e => by
    obtain ⟨v, h1, h2⟩ := RDs.get (i := i) (d := d) b (by simpa using e)
    exact ⟨v, by simpa using h1, h2⟩
theorem RDs.get' : ∀ {ds : List PyData} {vs : List V} {i : Nat} {v : V}, RDs K M H ds vs → vs[i]? = some v → ∃ d, ds[i]? = some d ∧ RD K M H d v
  | _, _, _, _, .nil, e => by simp at e
  | _, _, 0, _, .cons a _, e => by simp at e; subst e; exact ⟨_, rfl, a⟩
  | _, _, i + 1, d, .cons _ b, e => by
    obtain ⟨v, h1, h2⟩ := RDs.get' (i := i) (v := d) b (by simpa using e)
    exact ⟨v, by simpa using h1, h2⟩
theorem RDs.append : ∀ {xs ys : List PyData} {us ws : List V}, RDs K M H xs us → RDs K M H ys ws → RDs K M H (xs ++ ys) (us ++ ws)
  | _, _, _, _, .nil, s => s
  | _, _, _, _, .cons r t, s => .cons r (RDs.append t s)
theorem RDs.set {d : PyData} {v : V} (r : RD K M H d v) : ∀ {ds : List PyData} {vs : List V} (i : Nat), RDs K M H ds vs → RDs K M H (ds.set i d) (vs.set i v)
  | _, _, _, .nil => .nil
  | _, _, 0, .cons _ t => .cons r t
  | _, _, i + 1, .cons q t => .cons q (RDs.set r i t)
theorem RDs.take : ∀ {ds : List PyData} {vs : List V} (n : Nat), RDs K M H ds vs → RDs K M H (ds.take n) (vs.take n)
  | _, _, 0, _ => .nil
  | _, _, _ + 1, .nil => .nil
  | _, _, n + 1, .cons r t => .cons r (RDs.take n t)
theorem RDs.drop : ∀ {ds : List PyData} {vs : List V} (n : Nat), RDs K M H ds vs → RDs K M H (ds.drop n) (vs.drop n)
  | _, _, 0, r => r
  | _, _, _ + 1, .nil => .nil
  | _, _, n + 1, .cons _ t => RDs.drop n t
theorem RDs.dropLast {ds : List PyData} {vs : List V} (r : RDs K M H ds vs) : RDs K M H ds.dropLast vs.dropLast := by
  rw [List.dropLast_eq_take, List.dropLast_eq_take, r.length]
  exact r.take _
theorem RDs.cut {ds : List PyData} {vs : List V} (r : RDs K M H ds vs) (lo hi : Option Int) : RDs K M H (cut ds lo hi) (cutV vs lo hi) := by
  unfold NC.cut cutV
  rw [r.length]
  exact (r.drop _).take _
theorem RDs.at {ds : List PyData} {vs : List V} {i : Int} {d : PyData} (r : RDs K M H ds vs) (h : atI ds i = some d) : ∃ v, atI vs i = some v ∧ RD K M H d v := by
  unfold atI at h ⊢
  rw [← r.length]
  cases q : ixN ds.length i with
  | none => rw [q] at h; cases h
  | some k =>
    rw [q] at h
    exact r.get h
end

/-! ### values, objects, names -/
/-- the tables of code objects -/
abbrev TbL := List (Addr × Str)
/-- where the changing objects stand; which lists stay as they are -/
structure Gh where
  at_ : Nat → Addr
  F : Addr → Prop
mutual
inductive RV (K : PySem.W.Frag) (mg : Str → Option Value) (j : Gh) (n : Nat) (H : Hp) : PV → V → Prop
  | d {x : PyData} {v : V} : RD K j.F H x v → RV K mg j n H (.d x) v
  | ref {i : Nat} : i < n → RV K mg j n H (.ref i) (.ref (j.at_ i))
  | tup {a : Addr} {vs : List V} {ps : List PV} : SqT K H a vs → RVs K mg j n H ps vs → RV K mg j n H (.tup ps) (.ref a)
  | fn {x : Str} {f : Addr} : mg x = some (.ref f) → RV K mg j n H (.fn x) (.ref f)
  | scr {a : Addr} {vs : List V} {ds : List PyData} : ZL K H a vs → RDs K j.F H ds vs → RV K mg j n H (.scr ds) (.ref a)
inductive RVs (K : PySem.W.Frag) (mg : Str → Option Value) (j : Gh) (n : Nat) (H : Hp) : List PV → List V → Prop
  | nil : RVs K mg j n H [] []
  | cons {p : PV} {ps : List PV} {v : V} {vs : List V} : RV K mg j n H p v → RVs K mg j n H ps vs → RVs K mg j n H (p :: ps) (v :: vs)
end
mutual
def PV.refs : PV → List Nat
  | .d _ => []
  | .ref n => [n]
  | .tup xs => PV.refsL xs
  | .fn _ => []
  | .scr _ => []
def PV.refsL : List PV → List Nat
  | [] => []
  | x :: xs => x.refs ++ PV.refsL xs
end
def Ob.refs : Ob → List Nat
  | .lst _ => []
  | .ins _ fs => PV.refsL (fs.map (·.2))
  | .dct _ => []
def RFs (K : PySem.W.Frag) (mg : Str → Option Value) (j : Gh) (n : Nat) (H : Hp) : List (Str × PV) → List (Str × V) → Prop
  | [], [] => True
  | (f, p) :: r, (g, v) :: s => f = g ∧ RV K mg j n H p v ∧ RFs K mg j n H r s
  | _, _ => False
/-- a dict's entries -/
def RKs (K : PySem.W.Frag) (Mu : Addr → Prop) (H : Hp) : List (L2.Key × PyData) → List (L2.Key × V) → Prop
  | [], [] => True
  | (k, d) :: r, (l, v) :: s => k = l ∧ RD K Mu H d v ∧ RKs K Mu H r s
  | _, _ => False
def RO (K : PySem.W.Frag) (mg : Str → Option Value) (j : Gh) (n : Nat) (H : Hp) (a : Addr) : Ob → Prop
  | .lst xs => ∃ vs, H a = some (.lst vs) ∧ RDs K j.F H xs vs
  | .ins c fs => ∃ C dx fv, H a = some (.ins C dx fv) ∧ mg c = some (.ref C) ∧ RFs K mg j n H fs fv
  | .dct kvs => ∃ ws, H a = some (.dK ws) ∧ RKs K j.F H kvs ws
/-- what the abstract semantics never does: an object older than lim is given no new object to hold -/
structure Shr (h h' : Hv) : Prop where
  lim : h'.lim = h.lim
  le : h.os.length ≤ h'.os.length
  sub : ∀ (i : Nat) (o' : Ob), i < h.lim → h'.os[i]? = some o' → ∃ o, h.os[i]? = some o ∧ ∀ r ∈ o'.refs, r ∈ o.refs
theorem Shr.refl {h : Hv} : Shr h h := ⟨rfl, Nat.le_refl _, fun _ o' _ e => ⟨o', e, fun _ z => z⟩⟩
theorem Shr.trans {a b c : Hv} (x : Shr a b) (y : Shr b c) : Shr a c := ⟨y.lim.trans x.lim, Nat.le_trans x.le y.le, fun i o' hi e => by
  obtain ⟨o1, e1, s1⟩ := y.sub i o' (by rw [x.lim]; exact hi) e
  obtain ⟨o, e2, s2⟩ := x.sub i o1 hi e1
  exact ⟨o, e2, fun r z => s2 r (s1 r z)⟩⟩
/-- something stands there, and it is no table -/
def NT (o : Option HO) : Prop := o ≠ none ∧ ∀ ps, o ≠ some (.tbl ps)
structure Rl (K : PySem.W.Frag) (mg : Str → Option Value) (Tb : TbL) (j : Gh) (h : Hv) (H : Hp) : Prop where
  inj : ∀ i i', i < h.os.length → i' < h.os.length → j.at_ i = j.at_ i' → i = i'
  obj : ∀ i o, h.os[i]? = some o → RO K mg j h.os.length H (j.at_ i) o
  lim : h.lim ≤ h.os.length
  nf : ∀ i, i < h.os.length → ¬ j.F (j.at_ i)
  fd : ∀ a, j.F a → NT (H a)
  tb : LamX.Tabs Tb H
structure Tr (Tb : TbL) (j : Gh) (h : Hv) (H : Hp) (j' : Gh) (h' : Hv) (H' : Hp) : Prop where
  ag : ∀ i, i < h.os.length → j'.at_ i = j.at_ i
  kp : Kp j.F H j'.F H'
  sh : Shr h h'
  fr : ∀ a o, H a = some o → (∀ q : Str, (a, q) ∉ Tb) → (∀ i, i < h.os.length → j.at_ i ≠ a) → H' a = some o ∧ (j'.F a → j.F a) ∧ ∀ i, i < h'.os.length → j'.at_ i ≠ a
theorem Tr.refl {Tb : TbL} {j : Gh} {h : Hv} {H : Hp} : Tr Tb j h H j h H := ⟨fun _ _ => rfl, Kp.refl, Shr.refl, fun _ _ e _ n => ⟨e, id, n⟩⟩
theorem Tr.trans {Tb : TbL} {j1 j2 j3 : Gh} {h1 h2 h3 : Hv} {H1 H2 H3 : Hp} (a : Tr Tb j1 h1 H1 j2 h2 H2) (b : Tr Tb j2 h2 H2 j3 h3 H3) : Tr Tb j1 h1 H1 j3 h3 H3 :=
  ⟨fun i hi => (b.ag i (Nat.lt_of_lt_of_le hi a.sh.le)).trans (a.ag i hi), a.kp.trans b.kp, a.sh.trans b.sh, fun x o e nt n =>
    let ⟨e1, f1, n1⟩ := a.fr x o e nt n
    let ⟨e2, f2, n2⟩ := b.fr x o e1 nt n1
    ⟨e2, fun z => f1 (f2 z), n2⟩⟩
section
variable {K : PySem.W.Frag} {mg : Str → Option Value} {j j' : Gh} {n n' : Nat} {H H' : Hp}
mutual
theorem RV.mono (ag : ∀ i, i < n → j'.at_ i = j.at_ i) (le : n ≤ n') (k : Kp j.F H j'.F H') : ∀ (p : PV) (v : V), RV K mg j n H p v → RV K mg j' n' H' p v
  | .d x, _, r => by cases r with | d r => exact .d (RD.mono k x _ r)
  | .ref i, _, r => by
    cases r with
    | ref hi => rw [← ag i hi]; exact .ref (Nat.lt_of_lt_of_le hi le)
  | .tup ps, _, r => by cases r with | tup z q => exact .tup (k.zt z) (RVs.mono ag le k ps _ q)
  | .fn _, _, r => by cases r with | fn e => exact .fn e
  | .scr _, _, r => by cases r with | scr z q => exact .scr (k.zl z) (RDs.mono k _ _ q)
theorem RVs.mono (ag : ∀ i, i < n → j'.at_ i = j.at_ i) (le : n ≤ n') (k : Kp j.F H j'.F H') : ∀ (ps : List PV) (vs : List V), RVs K mg j n H ps vs → RVs K mg j' n' H' ps vs
  | [], _, r => by cases r; exact .nil
  | p :: ps, _, r => by cases r with | cons a b => exact .cons (RV.mono ag le k p _ a) (RVs.mono ag le k ps _ b)
end
theorem RV.tr {Tb : TbL} {h h' : Hv} (t : Tr Tb j h H j' h' H') {p : PV} {v : V} (r : RV K mg j h.os.length H p v) : RV K mg j' h'.os.length H' p v := RV.mono t.ag t.sh.le t.kp p v r
theorem RVs.tr {Tb : TbL} {h h' : Hv} (t : Tr Tb j h H j' h' H') {p : List PV} {v : List V} (r : RVs K mg j h.os.length H p v) : RVs K mg j' h'.os.length H' p v := RVs.mono t.ag t.sh.le t.kp p v r
theorem RVs.length : ∀ {ps : List PV} {vs : List V}, RVs K mg j n H ps vs → ps.length = vs.length
  | _, _, .nil => rfl
  | _, _, .cons _ b => congrArg (· + 1) (RVs.length b)
theorem RVs.get : ∀ {ps : List PV} {vs : List V} {i : Nat} {d : PV}, RVs K mg j n H ps vs → ps[i]? = some d → ∃ v, vs[i]? = some v ∧ RV K mg j n H d v
  | _, _, _, _, .nil, e => by simp at e
  | _, _, 0, _, .cons a _, e => by simp at e; subst e; exact ⟨_, rfl, a⟩
  | _, _, i + 1, d, .cons _ b, e => by
    obtain ⟨v, h1, h2⟩ := RVs.get (i := i) (d := d) b (by simpa using e)
    exact ⟨v, by simpa using h1, h2⟩
theorem RVs.get' : ∀ {ps : List PV} {vs : List V} {i : Nat} {v : V}, RVs K mg j n H ps vs → vs[i]? = some v → ∃ d, ps[i]? = some d ∧ RV K mg j n H d v
  | _, _, _, _, .nil, e => by simp at e
  | _, _, 0, _, .cons a _, e => by simp at e; subst e; exact ⟨_, rfl, a⟩
  | _, _, i + 1, d, .cons _ b, e => by
    obtain ⟨v, h1, h2⟩ := RVs.get' (i := i) (v := d) b (by simpa using e)
    exact ⟨v, by simpa using h1, h2⟩
theorem RVs.ofD : ∀ {ds : List PyData} {vs : List V}, RDs K j.F H ds vs → RVs K mg j n H (ds.map PV.d) vs
  | _, _, .nil => .nil
  | _, _, .cons a b => .cons (.d a) (RVs.ofD b)
theorem RVs.toD : ∀ {ps : List PV} {ds : List PyData} {vs : List V}, allD ps = some ds → RVs K mg j n H ps vs → RDs K j.F H ds vs
  | [], _, _, e, r => by cases r; cases e; exact .nil
  | .d x :: ps, _, _, e, r => by
    cases r with
    | cons a b =>
      cases a with
      | d a =>
        rw [allD_d] at e
        cases q : allD ps with
        | none => rw [q] at e; cases e
        | some ds => rw [q] at e; cases e; exact .cons a (RVs.toD q b)
  | .ref _ :: _, _, _, e, _ => by cases e
  | .tup _ :: _, _, _, e, _ => by cases e
  | .fn _ :: _, _, _, e, _ => by cases e
  | .scr _ :: _, _, _, e, _ => by cases e
/-- what stands nowhere is none of ours -/
theorem Rl.noMu {Tb : TbL} {h : Hv} (R : Rl K mg Tb j h H) {p : Addr} (hp : H p = none) : ∀ i, i < h.os.length → j.at_ i ≠ p := by
  rintro i hi rfl
  have o := R.obj i h.os[i] (by simp [hi])
  cases q : h.os[i] with
  | lst xs => rw [q] at o; obtain ⟨vs, e, _⟩ := o; rw [hp] at e; cases e
  | ins c fs => rw [q] at o; obtain ⟨C, dx, fv, e, _⟩ := o; rw [hp] at e; cases e
  | dct kvs => rw [q] at o; obtain ⟨ws, e, _⟩ := o; rw [hp] at e; cases e
theorem Rl.kp {Tb : TbL} {h : Hv} (R : Rl K mg Tb j h H) {p : Addr} {o : HO} (hp : H p = none) : Kp j.F H j.F (upd H p o) := .new hp fun a m => (R.fd a m).1
/-- a new tuple -/
theorem RV.mkTup {Tb : TbL} {h : Hv} (R : Rl K mg Tb j h H) {ps : List PV} {vs : List V} {p : Addr} (hp : H p = none) (r : RVs K mg j h.os.length H ps vs) : RV K mg j h.os.length (upd H p (.tup vs)) (mkTup ps) (.ref p) := by
  have k := R.kp (o := .tup vs) hp
  have z : SqT K (upd H p (.tup vs)) p vs := .of upd_same
  unfold NC.mkTup
  cases q : allD ps with
  | some ds => exact .d (.tup z (RDs.mono k _ _ (r.toD q)))
  | none => exact .tup z (RVs.mono (fun _ _ => rfl) (Nat.le_refl _) k _ _ r)
theorem RFs.mono (ag : ∀ i, i < n → j'.at_ i = j.at_ i) (le : n ≤ n') (k : Kp j.F H j'.F H') : ∀ {fs : List (Str × PV)} {vs : List (Str × V)}, RFs K mg j n H fs vs → RFs K mg j' n' H' fs vs
  | [], [], _ => trivial
  | _ :: _, _ :: _, ⟨a, b, c⟩ => ⟨a, RV.mono ag le k _ _ b, RFs.mono ag le k c⟩
  | [], _ :: _, z => z.elim
  | _ :: _, [], z => z.elim
theorem RKs.mono {M M' : Addr → Prop} (k : Kp M H M' H') : ∀ {kvs : List (L2.Key × PyData)} {ws : List (L2.Key × V)}, RKs K M H kvs ws → RKs K M' H' kvs ws
  | [], [], _ => trivial
  | _ :: _, _ :: _, ⟨a, b, c⟩ => ⟨a, RD.mono k _ _ b, RKs.mono k c⟩
  | [], _ :: _, z => z.elim
  | _ :: _, [], z => z.elim
/-- an object of which nothing changed -/
theorem RO.mono (ag : ∀ i, i < n → j'.at_ i = j.at_ i) (le : n ≤ n') (k : Kp j.F H j'.F H') {a : Addr} (e : H' a = H a) {o : Ob} (r : RO K mg j n H a o) : RO K mg j' n' H' a o := by
  cases o with
  | lst xs => obtain ⟨vs, h1, h2⟩ := r; exact ⟨vs, by rw [e]; exact h1, RDs.mono k _ _ h2⟩
  | ins c fs => obtain ⟨C, dx, fv, h1, h2, h3⟩ := r; exact ⟨C, dx, fv, by rw [e]; exact h1, h2, RFs.mono ag le k h3⟩
  | dct kvs => obtain ⟨ws, h1, h2⟩ := r; exact ⟨ws, by rw [e]; exact h1, h2.mono k⟩
/-- what is no table -/
theorem noTab {Tb : TbL} {a : Addr} {o : HO} (t : LamX.Tabs Tb H) (e : H a = some o) (n : ∀ ps, o ≠ .tbl ps) : ∀ q : Str, (a, q) ∉ Tb := fun q hq => by
  obtain ⟨ps, h1, _⟩ := t _ hq
  have h1 : H a = some (.tbl ps) := h1
  rw [e] at h1
  exact n ps (Option.some.inj h1)
/-- tables where something else is written -/
theorem tabs_new {Tb : TbL} {p : Addr} {o : HO} (t : LamX.Tabs Tb H) (hp : H p = none) : LamX.Tabs Tb (upd H p o) := t.ext fun b u e => by rw [upd_ne (ne_of_none e hp)]; exact e
theorem tabs_set {Tb : TbL} {p : Addr} {o u : HO} (t : LamX.Tabs Tb H) (hp : H p = some u) (nt : ∀ ps, u ≠ .tbl ps) (nc : ∀ c q, u ≠ LamX.CodeO c q) : LamX.Tabs Tb (upd H p o) := fun q hq => by
  obtain ⟨ps, h1, h2, h3⟩ := t q hq
  refine ⟨ps, by rw [upd_ne (fun z => by rw [z, hp] at h1; exact nt ps (Option.some.inj h1))]; exact h1, h2, fun pos cv hc => ?_⟩
  obtain ⟨c, e1, e2⟩ := h3 pos cv hc
  exact ⟨c, e1, by rw [upd_ne (fun z => by rw [z, hp] at e2; exact nc _ _ (Option.some.inj e2))]; exact e2⟩
theorem lst_code {c : Addr} {q : Str} {xs : List V} : HO.lst xs ≠ LamX.CodeO c q := fun z => by unfold LamX.CodeO at z; cases z
theorem ins_code {c : Addr} {q : Str} {C dx : Addr} {fv : List (Str × V)} : HO.ins C dx fv ≠ LamX.CodeO c q := fun z => by unfold LamX.CodeO at z; cases z
theorem dK_code {c : Addr} {q : Str} {ws : List (L2.Key × V)} : HO.dK ws ≠ LamX.CodeO c q := fun z => by unfold LamX.CodeO at z; cases z
theorem tabs_obj {Tb : TbL} {n : Nat} {p : Addr} {u : Ob} {o : HO} (t : LamX.Tabs Tb H) (r : RO K mg j n H p u) : LamX.Tabs Tb (upd H p o) := by
  cases u with
  | lst xs => obtain ⟨vs, e, _⟩ := r; exact tabs_set t e (fun _ z => nomatch z) fun _ _ => lst_code
  | ins c fs => obtain ⟨C, dx, fv, e, _⟩ := r; exact tabs_set t e (fun _ z => nomatch z) fun _ _ => ins_code
  | dct kvs => obtain ⟨ws, e, _⟩ := r; exact tabs_set t e (fun _ z => nomatch z) fun _ _ => dK_code
/-- a new object that is none of ours -/
theorem Rl.new {Tb : TbL} {h : Hv} (R : Rl K mg Tb j h H) {p : Addr} {o : HO} (hp : H p = none) : Rl K mg Tb j h (upd H p o) := by
  refine ⟨R.inj, fun i ob e => ?_, R.lim, R.nf, fun a m => ?_, tabs_new R.tb hp⟩
  · have hi : i < h.os.length := (List.getElem?_eq_some_iff.mp e).1
    exact RO.mono (fun _ _ => rfl) (Nat.le_refl _) (R.kp hp) (upd_ne (R.noMu hp i hi)) (R.obj i ob e)
  · rw [((R.kp (o := o) hp).fix a m).2]; exact R.fd a m
theorem Tr.new {Tb : TbL} {h : Hv} {p : Addr} {o : HO} (R : Rl K mg Tb j h H) (hp : H p = none) : Tr Tb j h H j h (upd H p o) := ⟨fun _ _ => rfl, R.kp hp, Shr.refl, fun a u e _ n => ⟨by rw [upd_ne (ne_of_none e hp)]; exact e, id, n⟩⟩
/-- a list that from now on stays as it is -/
def Gh.fix (j : Gh) (p : Addr) : Gh := ⟨j.at_, fun a => j.F a ∨ a = p⟩
theorem Rl.fix {Tb : TbL} {h : Hv} (R : Rl K mg Tb j h H) {p : Addr} (hp : ∀ i, i < h.os.length → j.at_ i ≠ p) (hn : NT (H p)) : Rl K mg Tb (j.fix p) h H := by
  refine ⟨R.inj, fun i ob e => ?_, R.lim, fun i hi z => z.elim (R.nf i hi) (hp i hi), fun a m => m.elim (R.fd a) fun e => by rw [e]; exact hn, R.tb⟩
  exact RO.mono (j := j) (j' := j.fix p) (fun _ _ => rfl) (Nat.le_refl _) (.more fun _ m => .inl m) rfl (R.obj i ob e)
theorem Tr.fix {Tb : TbL} {h : Hv} {p : Addr} {j0 : Gh} {h0 : Hv} {H0 : Hp} (t : Tr Tb j0 h0 H0 j h H) (hp : H0 p = none) : Tr Tb j0 h0 H0 (j.fix p) h H :=
  ⟨t.ag, t.kp.trans (.more fun _ m => .inl m), t.sh, fun a o e nt n =>
    let ⟨e1, f1, n1⟩ := t.fr a o e nt n
    ⟨e1, fun z => z.elim f1 fun q => (ne_of_none e hp q).elim, n1⟩⟩
theorem Rl.kset {Tb : TbL} {h : Hv} (R : Rl K mg Tb j h H) {i : Nat} {o : HO} (hi : i < h.os.length) : Kp j.F H j.F (upd H (j.at_ i) o) := by
  have r := R.obj i h.os[i] (by simp [hi])
  refine .set (fun vs e => ?_) (fun ob u e => ?_) (R.nf i hi)
  · cases q : h.os[i] with
    | lst xs => rw [q] at r; obtain ⟨vs, e', _⟩ := r; rw [e] at e'; cases e'
    | ins c fs => rw [q] at r; obtain ⟨C, dx, fv, e', _⟩ := r; rw [e] at e'; cases e'
    | dct kvs => rw [q] at r; obtain ⟨ws, e', _⟩ := r; rw [e] at e'; cases e'
  · cases q : h.os[i] with
    | lst xs => rw [q] at r; obtain ⟨vs, e', _⟩ := r; rw [e] at e'; cases e'
    | ins c fs => rw [q] at r; obtain ⟨C, dx, fv, e', _⟩ := r; rw [e] at e'; cases e'
    | dct kvs => rw [q] at r; obtain ⟨ws, e', _⟩ := r; rw [e] at e'; cases e'
/-- one of ours changes -/
theorem Rl.set {Tb : TbL} {h : Hv} (R : Rl K mg Tb j h H) {i : Nat} {u : Ob} {o : HO} (hi : i < h.os.length) (new : RO K mg j h.os.length (upd H (j.at_ i) o) (j.at_ i) u) : Rl K mg Tb j (setO h i u) (upd H (j.at_ i) o) := by
  have hl : (setO h i u).os.length = h.os.length := by simp [setO]
  refine ⟨fun a b ha hb => R.inj a b (by rw [← hl]; exact ha) (by rw [← hl]; exact hb), fun k ob e => ?_, by rw [hl]; exact R.lim, by rw [hl]; exact R.nf, fun a m => ?_, tabs_obj R.tb (R.obj i h.os[i] (by simp [hi]))⟩
  · rw [hl]
    have e' : (h.os.set i u)[k]? = some ob := e
    by_cases hk : k = i
    · subst hk
      rw [List.getElem?_set_self hi] at e'
      cases e'
      exact new
    · rw [List.getElem?_set_ne (Ne.symm hk)] at e'
      have hk' : k < h.os.length := (List.getElem?_eq_some_iff.mp e').1
      exact RO.mono (fun _ _ => rfl) (Nat.le_refl _) (R.kset hi) (upd_ne fun z => hk (R.inj _ _ hk' hi z)) (R.obj k ob e')
  · rw [((R.kset (o := o) hi).fix a m).2]; exact R.fd a m
theorem Tr.set {Tb : TbL} {h : Hv} (R : Rl K mg Tb j h H) {i : Nat} {u : Ob} {o : HO} (hi : i < h.os.length) (hr : ∀ ob, h.os[i]? = some ob → ∀ r ∈ u.refs, r ∈ ob.refs) : Tr Tb j h H j (setO h i u) (upd H (j.at_ i) o) := by
  have hl : (setO h i u).os.length = h.os.length := by simp [setO]
  refine ⟨fun _ _ => rfl, R.kset hi, ⟨rfl, by rw [hl]; exact Nat.le_refl _, fun k o' hk e => ?_⟩, fun a u e _ n => ⟨by rw [upd_ne (Ne.symm (n i hi))]; exact e, id, by rw [hl]; exact n⟩⟩
  have e' : (h.os.set i u)[k]? = some o' := e
  by_cases hki : k = i
  · subst hki
    rw [List.getElem?_set_self hi] at e'
    cases e'
    exact ⟨h.os[k], by simp [hi], hr _ (by simp [hi])⟩
  · rw [List.getElem?_set_ne (Ne.symm hki)] at e'
    exact ⟨o', e', fun _ z => z⟩
/-- a new object of ours -/
def Gh.grow (j : Gh) (n : Nat) (p : Addr) : Gh := ⟨fun i => if i = n then p else j.at_ i, j.F⟩
theorem grow_lt {i : Nat} {p : Addr} (h : i < n) : (j.grow n p).at_ i = j.at_ i := if_neg (Nat.ne_of_lt h)
theorem grow_eq {p : Addr} : (j.grow n p).at_ n = p := if_pos rfl
theorem Rl.add {Tb : TbL} {h : Hv} (R : Rl K mg Tb j h H) {p : Addr} {u : Ob} {o : HO} (hp : H p = none)
    (new : RO K mg (j.grow h.os.length p) (h.os.length + 1) (upd H p o) p u) : Rl K mg Tb (j.grow h.os.length p) { h with os := h.os ++ [u] } (upd H p o) := by
  have hl : ({ h with os := h.os ++ [u] } : Hv).os.length = h.os.length + 1 := by simp
  refine ⟨fun a b ha hb e => ?_, fun k ob e => ?_, by rw [hl]; exact Nat.le_succ_of_le R.lim, fun i hi => ?_, fun a m => ?_, tabs_new R.tb hp⟩
  · rw [hl] at ha hb
    by_cases a1 : a = h.os.length
    · by_cases b1 : b = h.os.length
      · omega
      · rw [a1, grow_eq, grow_lt (by omega)] at e
        exact (R.noMu hp b (by omega) e.symm).elim
    · by_cases b1 : b = h.os.length
      · rw [b1, grow_eq, grow_lt (by omega)] at e
        exact (R.noMu hp a (by omega) e).elim
      · rw [grow_lt (by omega), grow_lt (by omega)] at e
        exact R.inj a b (by omega) (by omega) e
  · rw [hl]
    have e' : (h.os ++ [u])[k]? = some ob := e
    by_cases hk : k < h.os.length
    · rw [List.getElem?_append_left hk] at e'
      rw [grow_lt hk]
      exact RO.mono (j' := j.grow h.os.length p) (fun i hi => grow_lt hi) (Nat.le_succ _) (R.kp hp) (upd_ne (R.noMu hp k hk)) (R.obj k ob e')
    · have hk2 : k = h.os.length := by
        have := (List.getElem?_eq_some_iff.mp e').1
        simp at this
        omega
      subst hk2
      rw [grow_eq]
      simp at e'
      subst e'
      exact new
  · rw [hl] at hi
    by_cases h1 : i = h.os.length
    · rw [h1, grow_eq]
      exact fun m => (R.fd p m).1 hp
    · rw [grow_lt (by omega)]
      exact R.nf i (by omega)
  · rw [((R.kp (o := o) hp).fix a m).2]; exact R.fd a m
theorem Tr.add {Tb : TbL} {h : Hv} (R : Rl K mg Tb j h H) {p : Addr} {u : Ob} {o : HO} (hp : H p = none) : Tr Tb j h H (j.grow h.os.length p) { h with os := h.os ++ [u] } (upd H p o) := by
  have hl : ({ h with os := h.os ++ [u] } : Hv).os.length = h.os.length + 1 := by simp
  refine ⟨fun i hi => grow_lt hi, R.kp hp, ⟨rfl, by rw [hl]; exact Nat.le_succ _, fun k o' hk e => ?_⟩, fun a v e _ n => ⟨by rw [upd_ne (ne_of_none e hp)]; exact e, id, fun i hi => ?_⟩⟩
  rotate_left
  · rw [hl] at hi
    by_cases h1 : i = h.os.length
    · rw [h1, grow_eq]; exact Ne.symm (ne_of_none e hp)
    · rw [grow_lt (by omega)]; exact n i (by omega)
  have e' : (h.os ++ [u])[k]? = some o' := e
  have hk2 : k < h.os.length := Nat.lt_of_lt_of_le hk R.lim
  rw [List.getElem?_append_left hk2] at e'
  exact ⟨o', e', fun _ z => z⟩
end
/-- the names' slots -/
def REnv (K : PySem.W.Frag) (mg : Str → Option Value) (j : Gh) (n : Nat) (H : Hp) (e : Env) (σ : L2.St) : Prop :=
  e.length = σ.length ∧ ∀ (i : Nat) (p : PV), e[i]? = some (some p) → ∃ v, σ[i]? = some (some v) ∧ RV K mg j n H p v
section
variable {K : PySem.W.Frag} {mg : Str → Option Value} {j j' : Gh} {n n' : Nat} {H H' : Hp} {e : Env} {σ : L2.St}
theorem REnv.mono (ag : ∀ i, i < n → j'.at_ i = j.at_ i) (le : n ≤ n') (k : Kp j.F H j'.F H') (r : REnv K mg j n H e σ) : REnv K mg j' n' H' e σ :=
  ⟨r.1, fun i p h => let ⟨v, h1, h2⟩ := r.2 i p h; ⟨v, h1, RV.mono ag le k _ _ h2⟩⟩
theorem REnv.tr {Tb : TbL} {h h' : Hv} (t : Tr Tb j h H j' h' H') (r : REnv K mg j h.os.length H e σ) : REnv K mg j' h'.os.length H' e σ := r.mono t.ag t.sh.le t.kp
theorem REnv.set {i : Nat} {p : PV} {v : V} (r : REnv K mg j n H e σ) (hv : RV K mg j n H p v) : REnv K mg j n H (e.set i (some p)) (σ.set i (some v)) := by
  refine ⟨by simp [r.1], fun k q h => ?_⟩
  by_cases hk : k = i
  · subst hk
    by_cases hl : k < e.length
    · rw [List.getElem?_set_self hl] at h
      cases h
      exact ⟨v, List.getElem?_set_self (by rw [← r.1]; exact hl), hv⟩
    · rw [List.getElem?_eq_none (by simp; omega)] at h
      cases h
  · rw [List.getElem?_set_ne (Ne.symm hk)] at h
    obtain ⟨v', h1, h2⟩ := r.2 k q h
    exact ⟨v', by rw [List.getElem?_set_ne (Ne.symm hk)]; exact h1, h2⟩
theorem REnv.unset {i : Nat} (r : REnv K mg j n H e σ) : REnv K mg j n H (e.set i none) (σ.set i none) := by
  refine ⟨by simp [r.1], fun k q h => ?_⟩
  by_cases hk : k = i
  · subst hk
    by_cases hl : k < e.length
    · rw [List.getElem?_set_self hl] at h
      cases h
    · rw [List.getElem?_eq_none (by simp; omega)] at h
      cases h
  · rw [List.getElem?_set_ne (Ne.symm hk)] at h
    obtain ⟨v', h1, h2⟩ := r.2 k q h
    exact ⟨v', by rw [List.getElem?_set_ne (Ne.symm hk)]; exact h1, h2⟩
theorem REnv.wipe (r : REnv K mg j n H e σ) : ∀ vs : List Nat, REnv K mg j n H (NC.wipe e vs) (L2.wipe σ vs)
  | [] => r
  | v :: vs => (REnv.wipe r vs).unset
end
end NC
/-! Readings of the small syntax; rules by values. -/
namespace NC
open PySem PySem.Spec PyProof.Rows L2

theorem _root_.L2.PE.imp {X : Cx} {e : Expr} {t t' : TE} (h : PE X e t) (w : ∀ σ H Q, t' σ H Q → t σ H Q) : PE X e t' := ⟨fun pins s σ H Q I q => h.run pins s σ H Q I (w σ H Q q)⟩
theorem _root_.L2.PT.imp {X : Cx} {e : Expr} {t t' : TT} (h : PT X e t) (w : ∀ σ H Q, t' σ H Q → t σ H Q) : PT X e t' := ⟨fun pins s σ H Q I q => h.run pins s σ H Q I (w σ H Q q)⟩
theorem _root_.L2.PW.imp {X : Cx} {e : Expr} {t t' : TT} (h : PW X e t) (w : ∀ σ H Q, t' σ H Q → t σ H Q) : PW X e t' := ⟨fun wh pins s σ H Q I q => h.run wh pins s σ H Q I (w σ H Q q)⟩
theorem _root_.L2.PA.imp {X : Cx} {e : List Expr} {t t' : TA} (h : PA X e t) (w : ∀ σ H Q, t' σ H Q → t σ H Q) : PA X e t' := ⟨fun pos pins s σ H Q I q => h.run pos pins s σ H Q I (w σ H Q q)⟩
theorem _root_.L2.PS.imp {X : Cx} {e : Stmt} {t t' : TS} (h : PS X e t) (w : ∀ D σ H, t' D σ H → t D σ H) : PS X e t' := ⟨fun pins s σ H D I q => h.run pins s σ H D I (w D σ H q)⟩
theorem _root_.L2.PSs.imp {X : Cx} {e : List Stmt} {t t' : TS} (h : PSs X e t) (w : ∀ D σ H, t' D σ H → t D σ H) : PSs X e t' := ⟨fun pins s σ H D I q => h.run pins s σ H D I (w D σ H q)⟩
theorem _root_.L2.PI.imp {X : Cx} {tg e : Expr} {t t' : TI} (h : PI X tg e t) (w : ∀ σ H Q, t' σ H Q → t σ H Q) : PI X tg e t' := ⟨fun pins s σ H R I q => h.run pins s σ H R I (w σ H R q)⟩
theorem _root_.L2.PO.imp {X : Cx} {e : Option Expr} {t t' : TO} (h : PO X e t) (w : ∀ σ H Q, t' σ H Q → t σ H Q) : PO X e t' := ⟨fun pins s σ H Q I q => h.run pins s σ H Q I (w σ H Q q)⟩

/-- an exception of an own class without fields -/
def RX (mg : Str → Option Value) (c : Str) (fs : List (Str × PyData)) (cls : Value) (d : Option Addr) (H : Hp) : Prop := ∃ C, cls = .ref C ∧ mg c = some (.ref C) ∧ fs = [] ∧ d = none
/-- what an answer of the small semantics means -/
def Pst {α : Type} (K : PySem.W.Frag) (mg : Str → Option Value) (Tb : TbL) (j : Gh) (h : Hv) (H : Hp) (r : Res α) (okk : α → Gh → Hv → Hp → Prop) (ek : XK) : Prop :=
  match r with
  | .ok a h' => ∀ j' H', Tr Tb j h H j' h' H' → Rl K mg Tb j' h' H' → okk a j' h' H'
  | .exc c fs h' => ∀ j' H' cls d, Tr Tb j h H j' h' H' → Rl K mg Tb j' h' H' → RX mg c fs cls d H' → ek cls d H'
  | .bad => False
section
variable {α β : Type} {K : PySem.W.Frag} {mg : Str → Option Value} {j j1 : Gh} {h h1 : Hv} {H H1 : Hp} {r : Res α} {ok1 ok2 : α → Gh → Hv → Hp → Prop} {ek ek' : XK}
theorem Pst.at {Tb : TbL} (p : Pst K mg Tb j h H r ok1 ek) (t : Tr Tb j h H j1 h1 H1) : Pst K mg Tb j1 h1 H1 r ok1 ek := by
  cases r with
  | ok a h' => exact fun j' H' t' R => p j' H' (t.trans t') R
  | exc c fs h' => exact fun j' H' cls d t' R x => p j' H' cls d (t.trans t') R x
  | bad => exact p
theorem Pst.imp {Tb : TbL} (p : Pst K mg Tb j h H r ok1 ek) (w : ∀ a j' h' H', Tr Tb j h H j' h' H' → Rl K mg Tb j' h' H' → ok1 a j' h' H' → ok2 a j' h' H') : Pst K mg Tb j h H r ok2 ek := by
  cases r with
  | ok a h' => exact fun j' H' t R => w a j' h' H' t R (p j' H' t R)
  | exc c fs h' => exact p
  | bad => exact p
theorem Pst.impE {Tb : TbL} (p : Pst K mg Tb j h H r ok1 ek) (w : ∀ cls d H', ek cls d H' → ek' cls d H') : Pst K mg Tb j h H r ok1 ek' := by
  cases r with
  | ok a h' => exact p
  | exc c fs h' => exact fun j' H' cls d t R x => w _ _ _ (p j' H' cls d t R x)
  | bad => exact p
theorem Pst.bind {Tb : TbL} {f : α → Hv → Res β} {okb : β → Gh → Hv → Hp → Prop} (p : Pst K mg Tb j h H (r.bind f) okb ek) : Pst K mg Tb j h H r (fun a j' h' H' => Pst K mg Tb j' h' H' (f a h') okb ek) ek := by
  cases r with
  | ok a h' => exact fun j' H' t R => Pst.at (r := f a h') p t
  | exc c fs h' => exact p
  | bad => exact p
theorem Pst.here {Tb : TbL} {a : α} (p : Pst K mg Tb j h H (.ok a h) ok1 ek) (R : Rl K mg Tb j h H) : ok1 a j h H := p j H Tr.refl R
end

/-- a wish of a value -/
abbrev okV (K : PySem.W.Frag) (mg : Str → Option Value) (Q : VK) : PV → Gh → Hv → Hp → Prop := fun v j h H => ∀ u, RV K mg j h.os.length H v u → Q u H
abbrev okVs (K : PySem.W.Frag) (mg : Str → Option Value) (Q : List V → Hp → Prop) : List PV → Gh → Hv → Hp → Prop := fun v j h H => ∀ u, RVs K mg j h.os.length H v u → Q u H
abbrev okB (Q : Bool → Hp → Prop) : PV → Gh → Hv → Hp → Prop := fun v j h H => ∃ b, v = .d (.bool b) ∧ Q b H
abbrev okO (Q : Option Int → Hp → Prop) : Option PV → Gh → Hv → Hp → Prop := fun v j h H => ∃ o, Q o H ∧ match v, o with
  | none, none => True
  | some (.d (.int i)), some k => i = k
  | _, _ => False
/-- the situation of a reading: names and objects lie as the small state says -/
def At (K : PySem.W.Frag) (mg : Str → Option Value) (Tb : TbL) (σ : L2.St) (H : Hp) (f : Gh → Env → Hv → Prop) : Prop := ∃ j e h, Rl K mg Tb j h H ∧ REnv K mg j h.os.length H e σ ∧ f j e h
def tE (K : PySem.W.Frag) (mg : Str → Option Value) (Tb : TbL) (W : WX) (x : Env → Hv → Res PV) : TE := fun σ H Q => At K mg Tb σ H fun j e h => Pst K mg Tb j h H (x e h) (okV K mg Q) fun c d H' => W c d σ H'
def tT (K : PySem.W.Frag) (mg : Str → Option Value) (Tb : TbL) (W : WX) (x : Env → Hv → Res PV) : TT := fun σ H Q => At K mg Tb σ H fun j e h => Pst K mg Tb j h H (x e h) (okB Q) fun c d H' => W c d σ H'
def tA (K : PySem.W.Frag) (mg : Str → Option Value) (Tb : TbL) (W : WX) (x : Env → Hv → Res (List PV)) : TA := fun σ H Q => At K mg Tb σ H fun j e h => Pst K mg Tb j h H (x e h) (okVs K mg Q) fun c d H' => W c d σ H'
def tO (K : PySem.W.Frag) (mg : Str → Option Value) (Tb : TbL) (W : WX) (x : Env → Hv → Res (Option PV)) : TO := fun σ H Q => At K mg Tb σ H fun j e h => Pst K mg Tb j h H (x e h) (okO Q) fun c d H' => W c d σ H'
section
variable {K : PySem.W.Frag} {mg : Str → Option Value} {W : WX} {σ : L2.St} {H : Hp} {j : Gh} {e : Env} {h : Hv}
/-- a part, then the rest -/
theorem thenE {Tb : TbL} {x : Env → Hv → Res PV} {f : PV → Hv → Res β} {okb : β → Gh → Hv → Hp → Prop} {Q : VK} (R : Rl K mg Tb j h H) (E : REnv K mg j h.os.length H e σ) (p : Pst K mg Tb j h H ((x e h).bind f) okb fun c d H' => W c d σ H')
    (w : ∀ v u j1 h1 H1, Tr Tb j h H j1 h1 H1 → Rl K mg Tb j1 h1 H1 → REnv K mg j1 h1.os.length H1 e σ → RV K mg j1 h1.os.length H1 v u → Pst K mg Tb j1 h1 H1 (f v h1) okb (fun c d H' => W c d σ H') → Q u H1) : tE K mg Tb W x σ H Q :=
  ⟨j, e, h, R, E, p.bind.imp fun v j1 h1 H1 t R1 q u ru => w v u j1 h1 H1 t R1 (E.tr t) ru q⟩
theorem thenA {Tb : TbL} {x : Env → Hv → Res (List PV)} {f : List PV → Hv → Res β} {okb : β → Gh → Hv → Hp → Prop} {Q : List V → Hp → Prop} (R : Rl K mg Tb j h H) (E : REnv K mg j h.os.length H e σ) (p : Pst K mg Tb j h H ((x e h).bind f) okb fun c d H' => W c d σ H')
    (w : ∀ v u j1 h1 H1, Tr Tb j h H j1 h1 H1 → Rl K mg Tb j1 h1 H1 → REnv K mg j1 h1.os.length H1 e σ → RVs K mg j1 h1.os.length H1 v u → Pst K mg Tb j1 h1 H1 (f v h1) okb (fun c d H' => W c d σ H') → Q u H1) : tA K mg Tb W x σ H Q :=
  ⟨j, e, h, R, E, p.bind.imp fun v j1 h1 H1 t R1 q u ru => w v u j1 h1 H1 t R1 (E.tr t) ru q⟩
theorem thenT {Tb : TbL} {x : Env → Hv → Res PV} {f : Bool → Hv → Res β} {okb : β → Gh → Hv → Hp → Prop} {Q : Bool → Hp → Prop} (R : Rl K mg Tb j h H) (E : REnv K mg j h.os.length H e σ) (p : Pst K mg Tb j h H (tst (x e h) f) okb fun c d H' => W c d σ H')
    (w : ∀ b j1 h1 H1, Tr Tb j h H j1 h1 H1 → Rl K mg Tb j1 h1 H1 → REnv K mg j1 h1.os.length H1 e σ → Pst K mg Tb j1 h1 H1 (f b h1) okb (fun c d H' => W c d σ H') → Q b H1) : tT K mg Tb W x σ H Q := by
  refine ⟨j, e, h, R, E, (Pst.bind p).imp fun v j1 h1 H1 t R1 q => ?_⟩
  cases v with
  | d y =>
    cases y with
    | bool b => exact ⟨b, rfl, w b j1 h1 H1 t R1 (E.tr t) q⟩
    | _ => exact (show False from q).elim
  | _ => exact (show False from q).elim
/-- the same where a test is read as a value -/
theorem thenV {Tb : TbL} {x : Env → Hv → Res PV} {f : Bool → Hv → Res β} {okb : β → Gh → Hv → Hp → Prop} {Q : VK} (R : Rl K mg Tb j h H) (E : REnv K mg j h.os.length H e σ) (p : Pst K mg Tb j h H (tst (x e h) f) okb fun c d H' => W c d σ H')
    (w : ∀ b j1 h1 H1, Tr Tb j h H j1 h1 H1 → Rl K mg Tb j1 h1 H1 → REnv K mg j1 h1.os.length H1 e σ → Pst K mg Tb j1 h1 H1 (f b h1) okb (fun c d H' => W c d σ H') → Q (.bl b) H1) : tE K mg Tb W x σ H Q := by
  refine ⟨j, e, h, R, E, (Pst.bind p).imp fun v j1 h1 H1 t R1 q u ru => ?_⟩
  cases v with
  | d y =>
    cases y with
    | bool b =>
      cases ru with
      | d ru => cases ru; exact w b j1 h1 H1 t R1 (E.tr t) q
    | _ => exact (show False from q).elim
  | _ => exact (show False from q).elim
theorem tT_of {Tb : TbL} {x : Env → Hv → Res PV} {Q : Bool → Hp → Prop} (h : tT K mg Tb W x σ H Q) : tE K mg Tb W x σ H fun v H1 => ∃ c, v = .bl c ∧ Q c H1 := by
  obtain ⟨j, e, hh, R, E, p⟩ := h
  refine ⟨j, e, hh, R, E, p.imp fun v j1 h1 H1 t R1 q u ru => ?_⟩
  obtain ⟨b, rfl, q⟩ := q
  cases ru with
  | d ru => cases ru; exact ⟨b, rfl, q⟩
end

/-! ### rules by values -/
section
variable {X : Cx} {K : PySem.W.Frag} {mg : Str → Option Value} {j : Gh} {h : Hv} {H : Hp}
/-- what a rule of two values has to serve -/
def Srv2 (K : PySem.W.Frag) (mg : Str → Option Value) (Tb : TbL) (f : PV → PV → Hv → Res PV) (r : R2) : Prop :=
  ∀ (x y : PV) (u v : V) (j : Gh) (h : Hv) (H : Hp) (Q : VK) (ek : XK), Rl K mg Tb j h H → RV K mg j h.os.length H x u → RV K mg j h.os.length H y v → Pst K mg Tb j h H (f x y h) (okV K mg Q) ek → r u v H Q
def Srv1 (K : PySem.W.Frag) (mg : Str → Option Value) (Tb : TbL) (f : PV → Hv → Res PV) (r : V → Hp → VK → Prop) : Prop :=
  ∀ (x : PV) (u : V) (j : Gh) (h : Hv) (H : Hp) (Q : VK) (ek : XK), Rl K mg Tb j h H → RV K mg j h.os.length H x u → Pst K mg Tb j h H (f x h) (okV K mg Q) ek → r u H Q
/-- a new tuple, a new list that stays as it is -/
theorem fin_tup {Tb : TbL} {Q : VK} {ek : XK} {ds : List PyData} {vs : List V} (R : Rl K mg Tb j h H) (r : RDs K j.F H ds vs) (p : Pst K mg Tb j h H (.ok (.d (.tuple ds)) h) (okV K mg Q) ek) :
    ∀ a, H a = none → Q (.ref a) (upd H a (.tup vs)) := fun a ha =>
  p j _ (Tr.new R ha) (R.new ha) _ (.d (.tup (.of upd_same) (RDs.mono (R.kp ha) _ _ r)))
theorem fin_lst {Tb : TbL} {Q : VK} {ek : XK} {ds : List PyData} {vs : List V} (R : Rl K mg Tb j h H) (r : RDs K j.F H ds vs) (p : Pst K mg Tb j h H (.ok (.d (.list ds)) h) (okV K mg Q) ek) :
    ∀ a, H a = none → Q (.ref a) (upd H a (.lst vs)) := fun a ha =>
  p (j.fix a) _ ((Tr.new R ha).fix ha) ((R.new ha).fix (R.noMu ha) (by rw [upd_same]; exact ⟨(fun z => nomatch z), fun _ z => nomatch z⟩)) _ (.d (.lst upd_same (.inr rfl) (RDs.mono ((R.kp ha).trans (.more fun _ m => .inl m)) _ _ r)))
theorem line16 : sizeLine = 16777216 := by show 2 ^ 24 = 16777216; decide
/-- a // b, b not 0, of whatever sign -/
theorem op_fdivZ {X : Cx} : OpR X (binaryOp .FloorDiv) (rI (fun _ j => dvOk j = true) fun i j => .int (i.fdiv j)) := opI fun i j _ _ _ _ _ hc q => by
  have hc' : (decide (j ≠ 0) && decide (j.natAbs.log2 < 8999)) = true := hc
  rw [Bool.and_eq_true] at hc'
  exact floordiv_int (of_decide_eq_true hc'.1) q (.inl (PyProof.noPylong_of_log2 (Nat.lt_trans (of_decide_eq_true hc'.2) (by decide))))
theorem powOk_ok {i j : Int} (h : powOk i j = true) : CPow i j := by
  unfold powOk at h
  rw [Bool.and_eq_true, Bool.and_eq_true] at h
  refine ⟨of_decide_eq_true h.1.1, of_decide_eq_true h.1.2, Nat.lt_of_lt_of_le Nat.lt_log2_self (Nat.pow_le_pow_right (by decide) ?_)⟩
  have := of_decide_eq_true h.2
  omega
theorem lnOk_le {n : Nat} (h : lnOk n = true) : n ≤ sizeLine := by rw [line16]; exact of_decide_eq_true h
theorem szOk_mul {i j : Int} (h1 : szOk i = true) (h2 : szOk j = true) : CMulX i j := by
  have a : i.natAbs.log2 < 60000000 := of_decide_eq_true h1
  have b : j.natAbs.log2 < 60000000 := of_decide_eq_true h2
  exact mulx_ok (a := 60000000) (b := 60000000) (Nat.lt_of_lt_of_le Nat.lt_log2_self (Nat.pow_le_pow_right (by decide) a)) (Nat.lt_of_lt_of_le Nat.lt_log2_self (Nat.pow_le_pow_right (by decide) b)) (by decide)
end
end NC
/-! Operators and comparisons: what the small semantics tells, the machine does. -/
namespace NC
open PySem PySem.Spec PyProof.Rows L2
theorem tuple_mul1W (l : Addr) (items : Array Value) (n : Nat) (dd : Option Addr) (sl : Array (Option Value)) (u : Tok) :
    Meets (Builtin.«tuple.__mul__» ⟨[.ref l, .int 1 u], []⟩) (fun _ R s => s.heap.get? l = some { cls := .type "tuple", dict := dd, data := .seq items n, slots := sl } ∧
      R (.ok (.ret (Value.ref l))) s) :=
  .of_wp fun prog w A R s h => by
    obtain ⟨hp, g, d, tk, os⟩ := s
    obtain ⟨hl, h⟩ := h
    have f1 := AutoSeq1.idx_int
    have c0 : (decide ((1:Int) < -(2 ^ 63)) || decide ((1:Int) ≥ 2 ^ 63)) = false := by decide
    have c1 : (items.isEmpty || (1:Int) == 1) = true := by simp
    wp_walk using wpAny_loadPart' hl
    repeat (first
      | (refine wpAny_ite_false (decide_eq_false (by rw [c0]; exact Bool.false_ne_true)) ?_; wp_walk using wpAny_loadPart' hl)
      | (refine wpAny_ite_true (decide_eq_true (by rw [c1])) ?_; wp_walk using wpAny_loadPart' hl))
    exact ⟨_, rfl, h⟩
/-- a tuple times 1 is the tuple -/
theorem op_repT1 {X : Cx} : OpR X (binaryOp .Mult) (fun x y H Q => ∃ l xs, x = .ref l ∧ y = .int 1 ∧ SqT X.K H l xs ∧ Q (.ref l) H) := by
  intro pins s σ H x y v u Q I rx ry h
  obtain ⟨l, xs, rfl, rfl, hT, q⟩ := h
  cases rx
  obtain ⟨t, rfl⟩ := ry
  obtain ⟨its, r, ⟨⟨cls, dd, data, sl⟩, ho, hc, n, hd⟩, hs⟩ := I.tuple hT
  simp only at hc hd
  subst hc hd
  exact wpAny_binaryOp_repeat_ref (T := "tuple") (U := "int") (by decide) ⟨_, ho, rfl⟩ (fun s' => typeIs_int s' 1 t) noFill_tuple_mul F.fills_int_mul F.slot_int_rmul repeat_tuple F.slot_int_index.lookup
    (call_meets F.slot_int_rmul (typeIs_int s 1 t) F.entry_int_rmul (F.args_int_rmul_2 _ _) (int_rmul_tuple 1 t l its.toArray n dd sl)
      ⟨ho, rfl, ⟨_, ho, rfl⟩, call_meets F.slot_tuple_mul ⟨_, ho, rfl⟩ F.entry_tuple_mul (F.args_tuple_mul_2 _ _) (tuple_mul1W l its.toArray n dd sl t) ⟨ho, ⟨.ref l, H, I, rfl, q⟩⟩⟩)
theorem rds_rep {K : PySem.W.Frag} {M : Addr → Prop} {H : Hp} {ds : List PyData} {vs : List V} (q : RDs K M H ds vs) : ∀ n : Nat, RDs K M H (List.replicate n ds).flatten (List.replicate n vs).flatten
  | 0 => .nil
  | n + 1 => by
    rw [List.replicate_succ, List.replicate_succ, List.flatten_cons, List.flatten_cons]
    exact q.append (rds_rep q n)
section
variable {X : Cx} {K : PySem.W.Frag} {mg : Str → Option Value} {j : Gh} {h : Hv} {H : Hp}
theorem obj_lst' {Tb : TbL} {K : PySem.W.Frag} {mg : Str → Option Value} {j : Gh} {h : Hv} {H : Hp} (R : Rl K mg Tb j h H) {n : Nat} {xs : List PyData} (e : h.os[n]? = some (.lst xs)) : n < h.os.length ∧ ∃ vs, H (j.at_ n) = some (.lst vs) ∧ RDs K j.F H xs vs :=
  ⟨(List.getElem?_eq_some_iff.mp e).1, R.obj n _ e⟩
theorem op_snd {Tb : TbL} {o : Op} {opr : Operator} (hc : chkOp o opr = true) : ∃ r, OpR X (binaryOp opr) r ∧ Srv2 X.K X.mg Tb (NC.op o) r := by
  cases o <;> cases opr <;> first | (exact absurd hc (by decide)) | skip
  · refine ⟨_, op_add.or (op_add_str.or (op_catA.or op_cat)), fun x y u v j h H Q ek R rx ry p => ?_⟩
    unfold NC.op at p
    split at p <;> first | (rename_i q _ _; exact absurd q (by decide)) | (rename_i q _; exact absurd q (by decide)) | (rename_i q; exact absurd q (by decide)) | skip
    · cases rx with | d rx => cases rx; cases ry with | d ry => cases ry; exact .inl ⟨_, _, rfl, rfl, p.here R _ (.d (.int _))⟩
    · cases rx with | d rx => cases rx; cases ry with | d ry => cases ry; split at p; exact .inr (.inl ⟨_, _, rfl, rfl, lnOk_le ‹_›, p.here R _ (.d (.str _))⟩); exact p.elim
    · cases rx with
      | d rx =>
        cases ry with
        | d ry =>
          cases rx with
          | tup zx qx =>
            cases ry with
            | tup zy qy =>
              split at p
              · refine .inr (.inr (.inl ⟨_, _, _, _, rfl, rfl, zx, zy, by rw [← qx.length, ← qy.length]; exact lnOk_le ‹_›, fun e => ?_, fun _ e => ?_, fun _ _ => fin_tup R (qx.append qy) p⟩))
                · subst e
                  cases qx
                  exact p.here R _ (.d (.tup zy qy))
                · subst e
                  cases qy
                  rw [List.append_nil] at p
                  exact p.here R _ (.d (.tup zx qx))
              · exact p.elim
    · cases rx with
      | d rx =>
        cases ry with
        | d ry =>
          cases rx with
          | lst zx mx qx =>
            cases ry with
            | lst zy my qy =>
              split at p
              · exact .inr (.inr (.inr ⟨_, _, _, _, rfl, rfl, zx, zy, by rw [← qx.length, ← qy.length]; exact lnOk_le ‹_›, fin_lst R (qx.append qy) p⟩))
              · exact p.elim
    · split at p
      · rename_i e
        obtain ⟨hn, vs, e1, qx⟩ := obj_lst' R e
        cases rx with
        | ref hi =>
          cases ry with
          | d ry =>
            cases ry with
            | lst zy my qy =>
              split at p
              · exact .inr (.inr (.inr ⟨_, _, _, _, rfl, rfl, e1, zy, by rw [← qx.length, ← qy.length]; exact lnOk_le ‹_›, fin_lst R (qx.append qy) p⟩))
              · exact p.elim
      · exact p.elim
    · exact p.elim
  · refine ⟨_, op_sub, fun x y u v j h H Q ek R rx ry p => ?_⟩
    unfold NC.op at p
    split at p <;> first | (rename_i q _ _; exact absurd q (by decide)) | (rename_i q _; exact absurd q (by decide)) | (rename_i q; exact absurd q (by decide)) | skip
    · cases rx with | d rx => cases rx; cases ry with | d ry => cases ry; exact ⟨_, _, rfl, rfl, p.here R _ (.d (.int _))⟩
    · exact p.elim
  · refine ⟨_, op_mulX.or (op_repT.or (op_repT1.or op_rep)), fun x y u v j h H Q ek R rx ry p => ?_⟩
    unfold NC.op at p
    split at p <;> first | (rename_i q _ _; exact absurd q (by decide)) | (rename_i q _; exact absurd q (by decide)) | (rename_i q; exact absurd q (by decide)) | skip
    · split at p
      · rename_i hz
        rw [Bool.and_eq_true] at hz
        cases rx with | d rx => cases rx; cases ry with | d ry => cases ry; exact .inl ⟨_, _, rfl, rfl, szOk_mul hz.1 hz.2, p.here R _ (.d (.int _))⟩
      · exact p.elim
    · split at p
      · rename_i a k _ hz
        simp only [Bool.and_eq_true, decide_eq_true_eq] at hz
        obtain ⟨⟨⟨z1, z2⟩, z3⟩, z4⟩ := hz
        cases rx with | d rx => cases rx with | tup zx qx => cases ry with | d ry =>
        cases ry
        by_cases hk : k = 1
        · subst hk
          have e1 : (List.replicate (1 : Int).toNat a).flatten = a := by simp
          rw [e1] at p
          exact .inr (.inr (.inl ⟨_, _, rfl, rfl, zx, p.here R _ (.d (.tup zx qx))⟩))
        · refine .inr (.inl ⟨_, _, _, rfl, rfl, zx, fun e => ?_, by omega, z2, by rw [← qx.length]; exact z4, fin_tup R (rds_rep qx _) p⟩)
          rw [qx.length, e] at z3
          exact absurd z3 (by decide)
      · exact p.elim
    · split at p
      · rename_i a k _ hz
        simp only [Bool.and_eq_true, decide_eq_true_eq] at hz
        obtain ⟨⟨z1, z2⟩, z3⟩ := hz
        cases rx with | d rx => cases rx with | lst zx mx qx => cases ry with | d ry =>
        cases ry
        refine .inr (.inr (.inr ⟨_, _, _, rfl, rfl, zx, by omega, by omega, by rw [← qx.length]; exact lnOk_le z3, fin_lst R (rds_rep qx _) p⟩))
      · exact p.elim
    · exact p.elim
  · refine ⟨_, op_fdivZ, fun x y u v j h H Q ek R rx ry p => ?_⟩
    unfold NC.op at p
    split at p <;> first | (rename_i q _ _; exact absurd q (by decide)) | (rename_i q _; exact absurd q (by decide)) | (rename_i q; exact absurd q (by decide)) | skip
    · split at p
      · cases rx with | d rx => cases rx; cases ry with | d ry => cases ry; exact ⟨_, _, rfl, rfl, ‹_›, p.here R _ (.d (.int _))⟩
      · exact p.elim
    · exact p.elim
  · refine ⟨_, op_modN, fun x y u v j h H Q ek R rx ry p => ?_⟩
    unfold NC.op at p
    split at p <;> first | (rename_i q _ _; exact absurd q (by decide)) | (rename_i q _; exact absurd q (by decide)) | (rename_i q; exact absurd q (by decide)) | skip
    · split at p
      · cases rx with | d rx => cases rx; cases ry with | d ry => cases ry; exact ⟨_, _, rfl, rfl, of_decide_eq_true ‹_›, p.here R _ (.d (.int _))⟩
      · exact p.elim
    · exact p.elim
  · refine ⟨_, op_pow, fun x y u v j h H Q ek R rx ry p => ?_⟩
    unfold NC.op at p
    split at p <;> first | (rename_i q _ _; exact absurd q (by decide)) | (rename_i q _; exact absurd q (by decide)) | (rename_i q; exact absurd q (by decide)) | skip
    · split at p
      · cases rx with | d rx => cases rx; cases ry with | d ry => cases ry; exact ⟨_, _, rfl, rfl, powOk_ok ‹_›, p.here R _ (.d (.int _))⟩
      · exact p.elim
    · exact p.elim
  · refine ⟨_, op_cat, fun x y u v j h H Q ek R rx ry p => ?_⟩
    have fin : ∀ {ds : List PyData} {vs : List V}, RDs X.K j.F H ds vs → Pst X.K X.mg Tb j h H (.ok (.ref h.os.length) { h with os := h.os ++ [.lst ds] }) (okV X.K X.mg Q) ek → ∀ a, H a = none → Q (.ref a) (upd H a (.lst vs)) := fun {ds vs} rd p2 a ha => by
      have q := p2 (j.grow h.os.length a) _ (Tr.add R ha) (R.add ha (u := .lst ds) ⟨vs, upd_same, RDs.mono (R.kp ha) _ _ rd⟩) _ (.ref (by simp))
      rw [grow_eq] at q
      exact q
    unfold NC.op at p
    split at p <;> first | (rename_i q _ _; exact absurd q (by decide)) | (rename_i q _; exact absurd q (by decide)) | (rename_i q; exact absurd q (by decide)) | skip
    · cases rx with
      | d rx =>
        cases ry with
        | d ry =>
          cases rx with
          | lst zx mx qx =>
            cases ry with
            | lst zy my qy =>
              split at p
              · exact ⟨_, _, _, _, rfl, rfl, zx, zy, by rw [← qx.length, ← qy.length]; exact lnOk_le ‹_›, fin (qx.append qy) p⟩
              · exact p.elim
    · split at p
      · rename_i e
        obtain ⟨hn, vs, e1, qx⟩ := obj_lst' R e
        cases rx with
        | ref hi =>
          cases ry with
          | d ry =>
            cases ry with
            | lst zy my qy =>
              split at p
              · exact ⟨_, _, _, _, rfl, rfl, e1, zy, by rw [← qx.length, ← qy.length]; exact lnOk_le ‹_›, fin (qx.append qy) p⟩
              · exact p.elim
      · exact p.elim
    · exact p.elim
/-- what is asked about room -/
structure Roomy (A : Around) : Prop where
  un : A.units + 200 < cLine
  gd : A.guards = some []
theorem non_of {M : Addr → Prop} {d : PyData} {v : V} (r : RD K M H d v) : decide (v = .non) = isNon d := by
  cases r <;> rfl
theorem flat_of {M : Addr → Prop} {d : PyData} {v : V} (r : RD K M H d v) (f : flatD d = true) : flatV v = true := by
  cases r <;> first | rfl | exact absurd f (by simp [flatD])
theorem eqv_of {M : Addr → Prop} {d e : PyData} {v u : V} (r : RD K M H d v) (q : RD K M H e u) (f : flatD d = true) (g : flatD e = true) : PyData.eqv d e = eqV v u := by
  cases r <;> cases q <;> first | (simp [PyData.eqv, eqV]; done) | exact absurd f (by simp [flatD]) | exact absurd g (by simp [flatD])
theorem flats_of {M : Addr → Prop} : ∀ {ds : List PyData} {vs : List V}, RDs K M H ds vs → ds.all flatD = true → vs.all flatV = true
  | _, _, .nil, _ => rfl
  | _, _, .cons a b, f => by
    rw [List.all_cons, Bool.and_eq_true] at f ⊢
    exact ⟨flat_of a f.1, flats_of b f.2⟩
theorem inV_of {M : Addr → Prop} {x : PyData} {u : V} (rx : RD K M H x u) (fx : flatD x = true) : ∀ {ds : List PyData} {vs : List V}, RDs K M H ds vs → ds.all flatD = true → (ds.any fun y => PyData.eqv y x) = inV u vs
  | _, _, .nil, _ => rfl
  | _, _, .cons a b, f => by
    rw [List.all_cons, Bool.and_eq_true] at f
    unfold inV
    rw [List.any_cons, List.any_cons, eqv_of a rx f.1 fx]
    exact congrArg _ (inV_of rx fx b f.2)
theorem items_sq {M : Addr → Prop} {d : PyData} {xs : List PyData} {v : V} (r : RD K M H d v) (h : itemsD d = some xs) : ∃ a vs, v = .ref a ∧ (SqL K H a vs ∨ SqT K H a vs) ∧ RDs K M H xs vs := by
  cases r with
  | lst z m q => cases h; exact ⟨_, _, rfl, .inl (.of z), q⟩
  | tup z q => cases h; exact ⟨_, _, rfl, .inr z, q⟩
  | _ => cases h
theorem RKs.get {K : PySem.W.Frag} {H : Hp} {M : Addr → Prop} (k : L2.Key) : ∀ {kvs : List (L2.Key × PyData)} {ws : List (L2.Key × V)}, RKs K M H kvs ws → (getK kvs k = none ∧ valV ws k = none) ∨ ∃ d v, getK kvs k = some d ∧ valV ws k = some v ∧ RD K M H d v
  | [], [], _ => .inl ⟨rfl, rfl⟩
  | (a, d) :: r, (b, v) :: s, ⟨e, rd, rr⟩ => by
    subst e
    by_cases q : a = k
    · exact .inr ⟨d, v, by simp [getK, List.find?_cons, q], valV_pos q, rd⟩
    · have g : getK ((a, d) :: r) k = getK r k := by simp [getK, List.find?_cons, q]
      rw [g, valV_neg (p := (a, v)) q]
      exact RKs.get k rr
  | [], _ :: _, z => z.elim
  | _ :: _, [], z => z.elim
theorem obj_dct {Tb : TbL} {K : PySem.W.Frag} {mg : Str → Option Value} {j : Gh} {h : Hv} {H : Hp} (R : Rl K mg Tb j h H) {n : Nat} {kvs : List (L2.Key × PyData)} (e : h.os[n]? = some (.dct kvs)) : n < h.os.length ∧ ∃ ws, H (j.at_ n) = some (.dK ws) ∧ RKs K j.F H kvs ws :=
  ⟨(List.getElem?_eq_some_iff.mp e).1, R.obj n _ e⟩
theorem op_in_dct {X : Cx} (hu : X.A.units + 1 < cLine) : OpR X (compareOp .In) (fun x y H Q => ∃ a o, y = .ref a ∧ DGet H a x o ∧ Q (.bl o.isSome) H) := by
  intro pins s σ H x y v u Q I rx ry h
  obtain ⟨a, o, rfl, g, q⟩ := h
  cases ry
  exact d_in hu I g rx fun s' I' => ⟨.bl _, H, I', rfl, q⟩
theorem op_nin_dct {X : Cx} (hu : X.A.units + 1 < cLine) : OpR X (compareOp .NotIn) (fun x y H Q => ∃ a o, y = .ref a ∧ DGet H a x o ∧ Q (.bl (!o.isSome)) H) := by
  intro pins s σ H x y v u Q I rx ry h
  obtain ⟨a, o, rfl, g, q⟩ := h
  cases ry
  exact d_notIn hu I g rx fun s' I' => ⟨.bl _, H, I', rfl, q⟩
theorem has_get {Tb : TbL} {K : PySem.W.Frag} {mg : Str → Option Value} {j : Gh} {h : Hv} {H : Hp} (R : Rl K mg Tb j h H) {d : PyData} {v : V} {n : Nat} {b : Bool} (rd : RD K j.F H d v) (e : hasK d n h = some b) : ∃ o : Option V, DGet H (j.at_ n) v o ∧ o.isSome = b := by
  unfold hasK at e
  split at e
  · rename_i kvs ho
    obtain ⟨hn, ws, e1, q⟩ := obj_dct R ho
    rw [Option.map_eq_some_iff] at e
    obtain ⟨k, ek, eb⟩ := e
    have ev : v = kV k := by cases rd <;> simp [keyD] at ek <;> subst ek <;> rfl
    refine ⟨valV ws k, by rw [ev]; exact DGet.k e1, ?_⟩
    rw [← eb]
    rcases q.get k with ⟨z, z2⟩ | ⟨d', v', z, z2, _⟩
    · rw [z, z2]; rfl
    · rw [z, z2]; rfl
  · cases e
theorem cm_snd {Tb : TbL} {o : Cm} {opr : CmpOp} (A : Roomy X.A) (hc : chkCm o opr = true) : ∃ r, OpR X (compareOp opr) r ∧ Srv2 X.K X.mg Tb (NC.cm o) r := by
  have hu : X.A.units + 64 < cLine := by have := A.un; omega
  cases o <;> cases opr <;> first | (exact absurd hc (by decide)) | skip
  · refine ⟨_, (op_eqD hu).or op_eq, fun x y u v j h H Q ek R rx ry p => ?_⟩
    unfold NC.cm at p
    split at p <;> first | (rename_i q _ _; exact absurd q (by decide)) | (rename_i q _; exact absurd q (by decide)) | (rename_i q; exact absurd q (by decide)) | skip
    · cases rx with | d rx => cases ry with | d ry =>
      split at p
      · rename_i hz
        unfold eqOk at hz
        rw [Bool.or_eq_true, Bool.and_eq_true] at hz
        rcases hz with hz | hz
        · cases rx <;> cases ry <;> first | (simp [bothStr] at hz; done) | skip
          refine .inr ⟨rfl, ?_⟩
          have := p.here R _ (.d (.bl _))
          rw [dec_str]
          simpa [PyData.eqv] using this
        · exact .inl ⟨_, _, rx.dp hz.1, ry.dp hz.2, hz.1, hz.2, p.here R _ (.d (.bl _))⟩
      · exact p.elim
    · exact p.elim
  · refine ⟨_, (op_neD hu).or op_ne, fun x y u v j h H Q ek R rx ry p => ?_⟩
    unfold NC.cm at p
    split at p <;> first | (rename_i q _ _; exact absurd q (by decide)) | (rename_i q _; exact absurd q (by decide)) | (rename_i q; exact absurd q (by decide)) | skip
    · cases rx with | d rx => cases ry with | d ry =>
      split at p
      · rename_i hz
        unfold eqOk at hz
        rw [Bool.or_eq_true, Bool.and_eq_true] at hz
        rcases hz with hz | hz
        · cases rx <;> cases ry <;> first | (simp [bothStr] at hz; done) | skip
          refine .inr ⟨rfl, ?_⟩
          have := p.here R _ (.d (.bl _))
          rw [dec_str]
          simpa [PyData.eqv] using this
        · exact .inl ⟨_, _, rx.dp hz.1, ry.dp hz.2, hz.1, hz.2, p.here R _ (.d (.bl _))⟩
      · exact p.elim
    · exact p.elim
  · refine ⟨_, op_lt, fun x y u v j h H Q ek R rx ry p => ?_⟩
    unfold NC.cm at p
    split at p <;> first | (rename_i q _ _; exact absurd q (by decide)) | (rename_i q _; exact absurd q (by decide)) | (rename_i q; exact absurd q (by decide)) | skip
    · cases rx with | d rx => cases rx; cases ry with | d ry => cases ry; exact ⟨_, _, rfl, rfl, p.here R _ (.d (.bl _))⟩
    · exact p.elim
  · refine ⟨_, op_le, fun x y u v j h H Q ek R rx ry p => ?_⟩
    unfold NC.cm at p
    split at p <;> first | (rename_i q _ _; exact absurd q (by decide)) | (rename_i q _; exact absurd q (by decide)) | (rename_i q; exact absurd q (by decide)) | skip
    · cases rx with | d rx => cases rx; cases ry with | d ry => cases ry; exact ⟨_, _, rfl, rfl, p.here R _ (.d (.bl _))⟩
    · exact p.elim
  · refine ⟨_, op_gt, fun x y u v j h H Q ek R rx ry p => ?_⟩
    unfold NC.cm at p
    split at p <;> first | (rename_i q _ _; exact absurd q (by decide)) | (rename_i q _; exact absurd q (by decide)) | (rename_i q; exact absurd q (by decide)) | skip
    · cases rx with | d rx => cases rx; cases ry with | d ry => cases ry; exact ⟨_, _, rfl, rfl, p.here R _ (.d (.bl _))⟩
    · exact p.elim
  · refine ⟨_, op_ge, fun x y u v j h H Q ek R rx ry p => ?_⟩
    unfold NC.cm at p
    split at p <;> first | (rename_i q _ _; exact absurd q (by decide)) | (rename_i q _; exact absurd q (by decide)) | (rename_i q; exact absurd q (by decide)) | skip
    · cases rx with | d rx => cases rx; cases ry with | d ry => cases ry; exact ⟨_, _, rfl, rfl, p.here R _ (.d (.bl _))⟩
    · exact p.elim
  · refine ⟨_, op_isBl.or op_isN, fun x y u v j h H Q ek R rx ry p => ?_⟩
    unfold NC.cm at p
    split at p <;> first | (rename_i q _ _; exact absurd q (by decide)) | (rename_i q _; exact absurd q (by decide)) | (rename_i q; exact absurd q (by decide)) | skip
    · cases rx with | d rx => cases rx; cases ry with | d ry => cases ry; exact .inl ⟨_, _, rfl, rfl, by rw [← Bool.beq_eq_decide_eq]; exact p.here R _ (.d (.bl _))⟩
    · cases rx with | d rx => cases ry with | d ry => cases ry; exact .inr ⟨rfl, by rw [non_of rx]; exact p.here R _ (.d (.bl _))⟩
    · exact p.elim
  · refine ⟨_, op_notBl.or op_notN, fun x y u v j h H Q ek R rx ry p => ?_⟩
    unfold NC.cm at p
    split at p <;> first | (rename_i q _ _; exact absurd q (by decide)) | (rename_i q _; exact absurd q (by decide)) | (rename_i q; exact absurd q (by decide)) | skip
    · cases rx with | d rx => cases rx; cases ry with | d ry => cases ry; exact .inl ⟨_, _, rfl, rfl, by rw [← Bool.beq_eq_decide_eq]; exact p.here R _ (.d (.bl _))⟩
    · cases rx with | d rx => cases ry with | d ry => cases ry; exact .inr ⟨rfl, by rw [non_of rx]; exact p.here R _ (.d (.bl _))⟩
    · exact p.elim
  · refine ⟨_, (op_in_seq.or (op_inD (X := X) (by have := A.un; omega))).or ((op_in_dct (by omega)).or op_in_str), fun x y u v j h H Q ek R rx ry p => ?_⟩
    unfold NC.cm at p
    split at p <;> first | (rename_i q _ _; exact absurd q (by decide)) | (rename_i q _; exact absurd q (by decide)) | (rename_i q; exact absurd q (by decide)) | skip
    · cases rx with | d rx => cases rx; cases ry with | d ry => cases ry; exact .inr (.inr ⟨_, _, rfl, rfl, p.here R _ (.d (.bl _))⟩)
    · cases rx with | d rx => cases ry with | d ry =>
      split at p
      · rename_i xs hxs
        split at p
        · rename_i hf
          rw [Bool.or_eq_true] at hf
          rcases hf with hf | hf
          · rw [Bool.and_eq_true] at hf
            obtain ⟨a, vs, rfl, hs, q⟩ := items_sq ry hxs
            refine .inl (.inl ⟨a, vs, rfl, hs, flat_of rx hf.1, flats_of q hf.2, ?_⟩)
            rw [inV_of rx hf.1 q hf.2] at p
            exact p.here R _ (.d (.bl _))
          · rw [Bool.and_eq_true, Bool.and_eq_true] at hf
            refine .inl (.inr ?_)
            rename_i yd _ _ _
            cases yd with
            | list ys =>
              cases hxs
              exact ⟨_, _, rx.dp hf.2.1, ry.dp hf.2.2, hf.2.1, hf.2.2, p.here R _ (.d (.bl _))⟩
            | _ => exact absurd hf.1 (by simp [isL])
        · exact p.elim
      · exact p.elim
    · cases rx with | d rx => cases ry with | ref hi =>
      split at p
      · rename_i b e
        obtain ⟨o, g, eo⟩ := has_get R rx e
        exact .inr (.inl ⟨_, o, rfl, g, by rw [eo]; exact p.here R _ (.d (.bl _))⟩)
      · exact p.elim
    · exact p.elim
  · refine ⟨_, (op_notIn_seq.or (op_notInD (X := X) (by have := A.un; omega))).or ((op_nin_dct (by omega)).or op_notin_str), fun x y u v j h H Q ek R rx ry p => ?_⟩
    unfold NC.cm at p
    split at p <;> first | (rename_i q _ _; exact absurd q (by decide)) | (rename_i q _; exact absurd q (by decide)) | (rename_i q; exact absurd q (by decide)) | skip
    · cases rx with | d rx => cases rx; cases ry with | d ry => cases ry; exact .inr (.inr ⟨_, _, rfl, rfl, p.here R _ (.d (.bl _))⟩)
    · cases rx with | d rx => cases ry with | d ry =>
      split at p
      · rename_i xs hxs
        split at p
        · rename_i hf
          rw [Bool.or_eq_true] at hf
          rcases hf with hf | hf
          · rw [Bool.and_eq_true] at hf
            obtain ⟨a, vs, rfl, hs, q⟩ := items_sq ry hxs
            refine .inl (.inl ⟨a, vs, rfl, hs, flat_of rx hf.1, flats_of q hf.2, ?_⟩)
            rw [inV_of rx hf.1 q hf.2] at p
            exact p.here R _ (.d (.bl _))
          · rw [Bool.and_eq_true, Bool.and_eq_true] at hf
            refine .inl (.inr ?_)
            rename_i yd _ _ _
            cases yd with
            | list ys =>
              cases hxs
              exact ⟨_, _, rx.dp hf.2.1, ry.dp hf.2.2, hf.2.1, hf.2.2, p.here R _ (.d (.bl _))⟩
            | _ => exact absurd hf.1 (by simp [isL])
        · exact p.elim
      · exact p.elim
    · cases rx with | d rx => cases ry with | ref hi =>
      split at p
      · rename_i b e
        obtain ⟨o, g, eo⟩ := has_get R rx e
        exact .inr (.inl ⟨_, o, rfl, g, by rw [eo]; exact p.here R _ (.d (.bl _))⟩)
      · exact p.elim
    · exact p.elim
end
end NC
/-! Built-in functions, subscripts, slices, methods of lists, stores: what the small semantics tells, the machine does. -/
namespace NC
open PySem PySem.Spec PyProof.Rows L2

theorem chk_nostar {D : Nm} {sc : Scope} {N : List Str} {a : E} {v : Expr} {p : Pos} : chkE D sc N a (.Starred v p) = false := by
  cases a <;> rfl
theorem star_cons {e : Expr} {es : List Expr} {env : PySem.Env} (h : ∀ v p, e ≠ .Starred v p) : starEach (e :: es) env = (false, eval e env) :: starEach es env := by
  cases e <;> first | rfl | exact absurd rfl (h _ _)
theorem chk_ns {D : Nm} {sc : Scope} {N : List Str} {a : E} {e : Expr} (h : chkE D sc N a e = true) : ∀ v p, e ≠ .Starred v p := by
  rintro v p rfl
  rw [chk_nostar] at h
  cases h
section
variable {X : Cx} {K : PySem.W.Frag} {mg : Str → Option Value} {j : Gh} {h : Hv} {H : Hp}
/-- a built-in of one argument -/
def CallP (X : Cx) (x : Str) (r : V → Hp → VK → Prop) : Prop :=
  ∀ (e : Expr) (t : TE) (p pos : Pos), (∀ v q, e ≠ .Starred v q) → PE X e t → Gl X x → X.mg x = none → PE X (.Call (.Name x p) [e] [] pos) (tUn r t)
theorem callP_B {x : Str} {id : String} {r : List V → Hp → VK → Prop} (hc : CallR X (.builtin id) r) (hv : bootBuiltins x = some (.builtin id)) (hn : x ≠ "__name__") (hdb : (x == ("__debug__" : Str)) = false) : CallP X x (fun u H Q => r [u] H Q) :=
  fun e t p pos ns he hg hm => (pe_callB hc hg hm hv (pa_cons he pa_nil (star_cons ns)) hn hdb (star_cons ns) rfl).imp fun _ _ _ q => q
theorem callP_T {x : Str} {id : String} {r : List V → Hp → VK → Prop} (hc : CallR X (.type id) r) (hv : bootBuiltins x = some (.type id)) (hn : x ≠ "__name__") (hdb : (x == ("__debug__" : Str)) = false) : CallP X x (fun u H Q => r [u] H Q) :=
  fun e t p pos ns he hg hm => (pe_callTy hc hg hm hv (pa_cons he pa_nil (star_cons ns)) hn hdb (star_cons ns) rfl).imp fun _ _ _ q => q
theorem CallR.or {f : Value} {r r' : List V → Hp → VK → Prop} (h : CallR X f r) (h' : CallR X f r') : CallR X f fun xs H Q => r xs H Q ∨ r' xs H Q := by
  intro pins s σ H xs us Q I rx q
  rcases q with q | q
  · exact h pins s σ H xs us Q I rx q
  · exact h' pins s σ H xs us Q I rx q
/-- repr of a list, a tuple -/
theorem call_reprD (A : Roomy X.A) : CallR X (.builtin "repr") (fun xs H Q => ∃ a d, xs = [.ref a] ∧ Dp X.K H (.ref a) d ∧ d.showable = true ∧ d.hasDict = false ∧ d.depth ≤ 64 ∧ d.shown.length ≤ sizeLine ∧ Q (.str d.shown) H) := by
  intro pins s σ H xs us Q I rx q
  obtain ⟨a, d, rfl, hd, hs, hn, h64, hz, q⟩ := q
  obtain ⟨u, rfl, ru⟩ := vals1 rx
  cases ru
  obtain ⟨as, rd⟩ := Dp.reads I d _ _ hd (show RelV (.ref a) (.ref a) from rfl)
  refine repr_of_reads' rd hs (PyData.noDict_hsm hn) A.gd (by have := A.un; omega) (fun _ _ e => e) (fun h' u tk hk => ?_) hz
  exact ⟨.str d.shown, H, I.kept hk, ⟨u, rfl⟩, q⟩
theorem allB_bl {M : Addr → Prop} : ∀ {ds : List PyData} {vs : List V} {bs : List Bool}, RDs K M H ds vs → allB ds = some bs → vs = bs.map V.bl
  | _, _, _, .nil, e => by cases e; rfl
  | .bool b :: ds, _, _, .cons a r, e => by
    cases a
    unfold allB at e
    cases q : allB ds with
    | none => rw [q] at e; cases e
    | some cs =>
      rw [q] at e
      cases e
      rw [allB_bl r q]
      rfl
  | .none :: _, _, _, .cons _ _, e => by cases e
  | .int _ :: _, _, _, .cons _ _, e => by cases e
  | .str _ :: _, _, _, .cons _ _, e => by cases e
  | .list _ :: _, _, _, .cons _ _, e => by cases e
  | .tuple _ :: _, _, _, .cons _ _, e => by cases e
  | .dict _ :: _, _, _, .cons _ _, e => by cases e
theorem shaped_dict {d : PyData} (h : SeqAt.shaped d = true) : d.hasDict = false := PyData.hasDict_of_canLay d (SeqAt.canLay_of_shaped h)
theorem obj_lst {Tb : TbL} (R : Rl K mg Tb j h H) {n : Nat} {xs : List PyData} (e : h.os[n]? = some (.lst xs)) : n < h.os.length ∧ ∃ vs, H (j.at_ n) = some (.lst vs) ∧ RDs K j.F H xs vs :=
  ⟨(List.getElem?_eq_some_iff.mp e).1, R.obj n _ e⟩
theorem allI_is {K : PySem.W.Frag} {M : Addr → Prop} {H : Hp} : ∀ {xs : List PyData} {vs : List V} {ns : List Int}, RDs K M H xs vs → allI xs = some ns → vs = ns.map V.int
  | [], _, _, r, e => by cases r; cases e; rfl
  | x :: xs, _, _, r, e => by
    cases r with
    | cons a b =>
      cases x <;> first | (simp [allI] at e; done) | skip
      cases a
      simp only [allI, Option.map_eq_some_iff] at e
      obtain ⟨ms, e1, rfl⟩ := e
      rw [allI_is b e1]
      rfl
theorem RKs.len {K : PySem.W.Frag} {H : Hp} {M : Addr → Prop} : ∀ {kvs : List (L2.Key × PyData)} {ws : List (L2.Key × V)}, RKs K M H kvs ws → kvs.length = ws.length
  | [], [], _ => rfl
  | _ :: _, _ :: _, ⟨_, _, r⟩ => congrArg (· + 1) (RKs.len r)
  | [], _ :: _, z => z.elim
  | _ :: _, [], z => z.elim
theorem RKs.any {K : PySem.W.Frag} {H : Hp} {M : Addr → Prop} (k : L2.Key) : ∀ {kvs : List (L2.Key × PyData)} {ws : List (L2.Key × V)}, RKs K M H kvs ws → (kvs.any fun kv => decide (kv.1 = k)) = ws.any fun kv => decide (kv.1 = k)
  | [], [], _ => rfl
  | (_, _) :: _, (_, _) :: _, ⟨e, _, r⟩ => by subst e; rw [List.any_cons, List.any_cons, RKs.any k r]
  | [], _ :: _, z => z.elim
  | _ :: _, [], z => z.elim
theorem RKs.map {K : PySem.W.Frag} {H : Hp} {M : Addr → Prop} (k : L2.Key) {d : PyData} {v : V} (rd : RD K M H d v) : ∀ {kvs : List (L2.Key × PyData)} {ws : List (L2.Key × V)}, RKs K M H kvs ws → RKs K M H (kvs.map fun kv => if kv.1 = k then (kv.1, d) else kv) (ws.map fun kv => if kv.1 = k then (kv.1, v) else kv)
  | [], [], _ => trivial
  | (a, _) :: _, (_, _) :: _, ⟨e, r1, r⟩ => by
    subst e
    rw [List.map_cons, List.map_cons]
    by_cases q : a = k
    · simp only [q, if_true]; exact ⟨rfl, rd, RKs.map k rd r⟩
    · simp only [q, if_false]; exact ⟨rfl, r1, RKs.map k rd r⟩
  | [], _ :: _, z => z.elim
  | _ :: _, [], z => z.elim
theorem RKs.snoc {K : PySem.W.Frag} {H : Hp} {M : Addr → Prop} (k : L2.Key) {d : PyData} {v : V} (rd : RD K M H d v) : ∀ {kvs : List (L2.Key × PyData)} {ws : List (L2.Key × V)}, RKs K M H kvs ws → RKs K M H (kvs ++ [(k, d)]) (ws ++ [(k, v)])
  | [], [], _ => ⟨rfl, rd, trivial⟩
  | (_, _) :: _, (_, _) :: _, ⟨e, r1, r⟩ => ⟨e, r1, RKs.snoc k rd r⟩
  | [], _ :: _, z => z.elim
  | _ :: _, [], z => z.elim
theorem RKs.put {K : PySem.W.Frag} {H : Hp} {M : Addr → Prop} (k : L2.Key) {d : PyData} {v : V} (rd : RD K M H d v) {kvs : List (L2.Key × PyData)} {ws : List (L2.Key × V)} (r : RKs K M H kvs ws) : RKs K M H (putD kvs k d) (putK ws k v) := by
  unfold putD putK
  rw [r.any k]
  split
  · exact RKs.map k rd r
  · exact RKs.snoc k rd r
theorem RKs.merge {K : PySem.W.Frag} {M : Addr → Prop} {H : Hp} : ∀ {ps : List (L2.Key × PyData)} {qs : List (L2.Key × V)} {kvs : List (L2.Key × PyData)} {ws : List (L2.Key × V)}, RKs K M H ps qs → RKs K M H kvs ws → RKs K M H (ps.foldl (fun acc kv => putD acc kv.1 kv.2) kvs) (mergeK ws qs)
  | [], [], _, _, _, r => r
  | (k, d) :: ps, (l, v) :: qs, _, _, ⟨e, rd, q⟩, r => by
    subst e
    show RKs K M H (ps.foldl (fun acc kv => putD acc kv.1 kv.2) (putD _ k d)) (mergeK (putK _ k v) qs)
    exact RKs.merge q (r.put k rd)
  | [], _ :: _, _, _, z, _ => z.elim
  | _ :: _, [], _, _, z, _ => z.elim
theorem pairs_rd {K : PySem.W.Frag} {M : Addr → Prop} {H : Hp} : ∀ {xs : List PyData} {vs : List V} {ps : List (L2.Key × PyData)}, RDs K M H xs vs → pairsD xs = some ps → ∃ (as : List Addr) (qs : List (L2.Key × V)), vs = as.map V.ref ∧ Paired (fun p kv => SqT K H p [kV kv.1, kv.2]) as qs ∧ RKs K M H ps qs
  | [], _, _, r, e => by cases r; cases e; exact ⟨[], [], rfl, .nil, trivial⟩
  | x :: xs, _, _, r, e => by
    cases r with
    | cons a b =>
      unfold pairsD at e
      split at e
      rotate_left
      · cases e
      rename_i p ps e1 e2
      cases e
      obtain ⟨as, qs, h1, h2, h3⟩ := pairs_rd b e2
      subst h1
      unfold pairD at e1
      split at e1
      rotate_left
      · cases e1
      rename_i y v
      cases hk : keyD y with
      | none => rw [hk] at e1; cases e1
      | some k =>
        rw [hk] at e1
        cases e1
        cases a with
        | tup z q =>
          cases q with
          | cons q1 q2 =>
            cases q2 with
            | cons q2 q3 =>
              cases q3
              rename_i w1 w2
              have ek : w1 = kV k := by cases q1 <;> simp [keyD] at hk <;> subst hk <;> rfl
              subst ek
              exact ⟨_ :: as, (k, w2) :: qs, rfl, .cons z h2, rfl, q2, h3⟩
theorem rds_map_int {K : PySem.W.Frag} {F : Addr → Prop} {H : Hp} : ∀ ns : List Int, RDs K F H (ns.map PyData.int) (ns.map V.int)
  | [] => .nil
  | _ :: r => .cons (.int _) (rds_map_int r)
theorem perm_sorted {xs ys : List Int} (h : xs.Perm ys) (a : xs.Pairwise (· ≤ ·)) (b : ys.Pairwise (· ≤ ·)) : xs = ys :=
  h.eq_of_pairwise (fun x y _ _ p q => Int.le_antisymm p q) a b
theorem bi_snd {Tb : TbL} (b : Bi) (A : Roomy X.A) (hc : X.calm = true) : ∃ r, CallP X b.nm r ∧ Srv1 X.K X.mg Tb (NC.bi b) r := by
  cases b
  · refine ⟨_, callP_B call_abs (by decide +kernel) (by decide) (by decide), fun x u j h H Q ek R rx p => ?_⟩
    unfold NC.bi at p
    split at p <;> first | (rename_i q _; exact absurd q (by decide)) | (rename_i q; exact absurd q (by decide)) | skip
    · cases rx with | d rx => cases rx; exact ⟨_, rfl, p.here R _ (.d (.int _))⟩
    · exact p.elim
  · refine ⟨_, callP_B call_len PySem.boot_len (by decide) (by decide), fun x u j h H Q ek R rx p => ?_⟩
    unfold NC.bi at p
    split at p <;> first | (rename_i q _; exact absurd q (by decide)) | (rename_i q; exact absurd q (by decide)) | skip
    · cases rx with | d rx =>
      cases rx
      split at p
      · exact ⟨_, _, rfl, ⟨lnOk_le ‹_›, rfl⟩, p.here R _ (.d (.int _))⟩
      · exact p.elim
    · cases rx with | d rx => cases rx with | tup z q => exact ⟨_, _, rfl, .inr ⟨_, z, q.length⟩, p.here R _ (.d (.int _))⟩
    · cases rx with | d rx => cases rx with | lst z m q => exact ⟨_, _, rfl, .inl ⟨_, .of z, q.length⟩, p.here R _ (.d (.int _))⟩
    · cases rx with | scr z q => exact ⟨_, _, rfl, .inl ⟨_, z.sq, q.length⟩, p.here R _ (.d (.int _))⟩
    · split at p
      · rename_i e
        obtain ⟨hn, vs, e1, q⟩ := obj_lst R e
        cases rx with | ref hi => exact ⟨_, _, rfl, .inl ⟨_, .of e1, q.length⟩, p.here R _ (.d (.int _))⟩
      · exact p.elim
    · exact p.elim
  · refine ⟨_, callP_T call_int1 (by decide +kernel) (by decide) (by decide), fun x u j h H Q ek R rx p => ?_⟩
    unfold NC.bi at p
    split at p <;> first | (rename_i q _; exact absurd q (by decide)) | (rename_i q; exact absurd q (by decide)) | skip
    · cases rx with | d rx => cases rx; exact .inl ⟨_, rfl, p.here R _ (.d (.int _))⟩
    · cases rx with | d rx => cases rx; exact .inr ⟨_, rfl, p.here R _ (.d (.int _))⟩
    · exact p.elim
  · refine ⟨_, callP_B (call_reprD A) (by decide +kernel) (by decide) (by decide), fun x u j h H Q ek R rx p => ?_⟩
    unfold NC.bi at p
    split at p <;> first | (rename_i q _; exact absurd q (by decide)) | (rename_i q; exact absurd q (by decide)) | skip
    · rename_i d
      cases rx with | d rx =>
      split at p
      · rename_i hz
        rw [Bool.and_eq_true, Bool.and_eq_true, Bool.and_eq_true] at hz
        obtain ⟨⟨⟨h1, h2⟩, h3⟩, h4⟩ := hz
        obtain ⟨xs, hx⟩ := Option.isSome_iff_exists.mp h1
        obtain ⟨a, vs, rfl, _, _⟩ := items_sq rx hx
        exact ⟨a, _, rfl, rx.dp h2, h3, shaped_dict h2, SeqAt.depth_of_shaped h2, lnOk_le h4, p.here R _ (.d (.str _))⟩
      · exact p.elim
    · exact p.elim
  · refine ⟨_, callP_B (cr_all hc) (by decide +kernel) (by decide) (by decide), fun x u j h H Q ek R rx p => ?_⟩
    unfold NC.bi at p
    split at p <;> first | (rename_i q _; exact absurd q (by decide)) | (rename_i q; exact absurd q (by decide)) | skip
    · cases rx with | d rx =>
      cases rx with | lst z m q =>
      split at p
      · rename_i e
        have := allB_bl q e
        subst this
        exact ⟨_, _, rfl, .of z, p.here R _ (.d (.bl _))⟩
      · exact p.elim
    · exact p.elim
  · refine ⟨_, callP_B (cr_any hc) (by decide +kernel) (by decide) (by decide), fun x u j h H Q ek R rx p => ?_⟩
    unfold NC.bi at p
    split at p <;> first | (rename_i q _; exact absurd q (by decide)) | (rename_i q; exact absurd q (by decide)) | skip
    · cases rx with | d rx =>
      cases rx with | lst z m q =>
      split at p
      · rename_i e
        have := allB_bl q e
        subst this
        exact ⟨_, _, rfl, .of z, p.here R _ (.d (.bl _))⟩
      · exact p.elim
    · exact p.elim
  · refine ⟨_, callP_T call_tuple_of (by decide +kernel) (by decide) (by decide), fun x u j h H Q ek R rx p => ?_⟩
    unfold NC.bi at p
    split at p <;> first | (rename_i q _; exact absurd q (by decide)) | (rename_i q; exact absurd q (by decide)) | skip
    · cases rx with | d rx => cases rx with | lst z m q => exact ⟨_, _, rfl, .inl ⟨.of z, fin_tup R q p⟩⟩
    · cases rx with | d rx => cases rx with | tup z q => exact ⟨_, _, rfl, .inr ⟨z, p.here R _ (.d (.tup z q))⟩⟩
    · split at p
      · rename_i e
        obtain ⟨hn, vs, e1, q⟩ := obj_lst R e
        cases rx with | ref hi => exact ⟨_, _, rfl, .inl ⟨.of e1, fin_tup R q p⟩⟩
      · exact p.elim
    · exact p.elim
  · refine ⟨_, callP_T call_list_of (by decide +kernel) (by decide) (by decide), fun x u j h H Q ek R rx p => ?_⟩
    unfold NC.bi at p
    split at p <;> first | (rename_i q _; exact absurd q (by decide)) | (rename_i q; exact absurd q (by decide)) | skip
    · cases rx with | d rx => cases rx with | lst z m q => exact ⟨_, _, rfl, .inl (.of z), fin_lst R q p⟩
    · cases rx with | d rx => cases rx with | tup z q => exact ⟨_, _, rfl, .inr z, fin_lst R q p⟩
    · split at p
      · rename_i e
        obtain ⟨hn, vs, e1, q⟩ := obj_lst R e
        cases rx with | ref hi => exact ⟨_, _, rfl, .inl (.of e1), fin_lst R q p⟩
      · exact p.elim
    · exact p.elim
  · refine ⟨_, callP_B (cr_sum hc) (by decide +kernel) (by decide) (by decide), fun x u j h H Q ek R rx p => ?_⟩
    unfold NC.bi at p
    split at p <;> first | (rename_i q _; exact absurd q (by decide)) | (rename_i q; exact absurd q (by decide)) | skip
    · cases rx with | d rx =>
      cases rx with | lst z m q =>
      split at p
      · rename_i e
        have := allI_is q e
        subst this
        exact ⟨_, _, rfl, .of z, p.here R _ (.d (.int _))⟩
      · exact p.elim
    · exact p.elim
  · refine ⟨_, callP_B (cr_max hc) (by decide +kernel) (by decide) (by decide), fun x u j h H Q ek R rx p => ?_⟩
    unfold NC.bi at p
    split at p <;> first | (rename_i q _; exact absurd q (by decide)) | (rename_i q; exact absurd q (by decide)) | skip
    · cases rx with | d rx =>
      cases rx with | lst z m q =>
      split at p
      · rename_i e
        have := allI_is q e
        subst this
        split at p
        · rename_i mm hm
          have hm' := List.max?_eq_some_iff.mp hm
          refine ⟨_, _, rfl, .of z, List.length_pos_of_mem hm'.1, fun y hy hall => ?_⟩
          have e2 : y = mm := Int.le_antisymm (hm'.2 y hy) (hall mm hm'.1)
          rw [e2]
          exact p.here R _ (.d (.int _))
        · exact p.elim
      · exact p.elim
    · exact p.elim
  · refine ⟨_, callP_B (cr_min hc) (by decide +kernel) (by decide) (by decide), fun x u j h H Q ek R rx p => ?_⟩
    unfold NC.bi at p
    split at p <;> first | (rename_i q _; exact absurd q (by decide)) | (rename_i q; exact absurd q (by decide)) | skip
    · cases rx with | d rx =>
      cases rx with | lst z m q =>
      split at p
      · rename_i e
        have := allI_is q e
        subst this
        split at p
        · rename_i mm hm
          have hm' := List.min?_eq_some_iff.mp hm
          refine ⟨_, _, rfl, .of z, List.length_pos_of_mem hm'.1, fun y hy hall => ?_⟩
          have e2 : y = mm := Int.le_antisymm (hall mm hm'.1) (hm'.2 y hy)
          rw [e2]
          exact p.here R _ (.d (.int _))
        · exact p.elim
      · exact p.elim
    · exact p.elim
  · refine ⟨_, callP_T (call_dictD.or (call_dictP hc)) (by decide +kernel) (by decide) (by decide), fun x u j h H Q ek R rx p => ?_⟩
    unfold NC.bi at p
    split at p <;> first | (rename_i q _; exact absurd q (by decide)) | (rename_i q; exact absurd q (by decide)) | skip
    · split at p
      · rename_i kvs e
        obtain ⟨hn, ws, e1, q⟩ := obj_dct R e
        cases rx with | ref hi =>
        refine .inl ⟨_, ws, rfl, .inl e1, fun a ha => p (j.grow h.os.length a) _ (Tr.add R ha) (Rl.add R ha ⟨ws, upd_same, q.mono (R.kp ha)⟩) _ ?_⟩
        have r := RV.ref (K := X.K) (mg := X.mg) (j := j.grow h.os.length a) (n := (h.os ++ [Ob.dct kvs]).length) (H := upd H a (.dK ws)) (i := h.os.length) (by rw [List.length_append]; exact Nat.lt_succ_self _)
        rw [show (j.grow h.os.length a).at_ h.os.length = a from grow_eq] at r
        exact r
      · exact p.elim
    · cases rx with | d rx => cases rx with | lst z m q =>
      split at p
      · rename_i ps e
        obtain ⟨as, qs, h1, h2, h3⟩ := pairs_rd q e
        subst h1
        refine .inr ⟨_, as, qs, rfl, .of z, h2, fun a ha => p (j.grow h.os.length a) _ (Tr.add R ha) (Rl.add R ha ⟨_, upd_same, (h3.merge (kvs := []) (ws := []) trivial).mono (R.kp ha)⟩) _ ?_⟩
        have r := RV.ref (K := X.K) (mg := X.mg) (j := j.grow h.os.length a) (n := (h.os ++ [Ob.dct (ps.foldl (fun acc kv => putD acc kv.1 kv.2) [])]).length) (H := upd H a (.dK (mergeK [] qs))) (i := h.os.length) (by rw [List.length_append]; exact Nat.lt_succ_self _)
        rw [show (j.grow h.os.length a).at_ h.os.length = a from grow_eq] at r
        exact r
      · exact p.elim
    · exact p.elim
  · refine ⟨_, callP_T call_str_int (by decide +kernel) (by decide) (by decide), fun x u j h H Q ek R rx p => ?_⟩
    unfold NC.bi at p
    split at p <;> first | (rename_i q _; exact absurd q (by decide)) | (rename_i q; exact absurd q (by decide)) | skip
    · split at p
      · rename_i hi
        cases rx with | d rx => cases rx; exact ⟨_, rfl, of_decide_eq_true hi, p.here R _ (.d (.str _))⟩
      · exact p.elim
    · exact p.elim
  · refine ⟨_, callP_B cr_sortedI (by decide +kernel) (by decide) (by decide), fun x u j h H Q ek R rx p => ?_⟩
    unfold NC.bi at p
    split at p <;> first | (rename_i q _; exact absurd q (by decide)) | (rename_i q; exact absurd q (by decide)) | skip
    · cases rx with | d rx => cases rx with | lst z m q =>
      split at p
      · rename_i ys e
        unfold sortD at e
        cases hI : allI _ with
        | none => rw [hI] at e; cases e
        | some ns =>
          rw [hI] at e
          cases e
          have := allI_is q hI
          subst this
          refine ⟨_, ns, rfl, .of z, fun ns' a p1 p2 ha => ?_⟩
          have e1 : ns' = ns.mergeSort fun a b => decide (a ≤ b) := perm_sorted (p1.trans (List.mergeSort_perm ns _).symm) p2 (by
            have := List.pairwise_mergeSort (le := fun (a b : Int) => decide (a ≤ b)) (fun a b c h1 h2 => by simp at *; omega) (fun a b => by simp; omega) ns
            simpa using this)
          subst e1
          exact fin_lst R (rds_map_int _) p a ha
      · exact p.elim
    · exact p.elim
/-- isinstance -/
def Ty.s : Ty → String
  | .int => "int" | .bool => "bool" | .str => "str" | .tuple => "tuple" | .list => "list" | .dict => "dict"
def tag : PyData → String
  | .none => "NoneType" | .bool _ => "bool" | .int _ => "int" | .str _ => "str" | .list _ => "list" | .tuple _ => "tuple" | .dict _ => "dict"
def tagIs (t : Ty) (a : String) : Bool := a == t.s || (t == .int && a == "bool")
theorem kit_tab : (["NoneType", "bool", "int", "str", "list", "tuple", "dict"].all fun a => [Ty.int, .bool, .str, .tuple, .list, .dict].all fun t => kitB a t.s == some (tagIs t a)) = true := by decide +kernel
theorem isTy_tag (t : Ty) (d : PyData) : isTy t d = tagIs t (tag d) := by cases t <;> cases d <;> rfl
theorem kit_isTy (t : Ty) (d : PyData) : kitB (tag d) t.s = some (isTy t d) := by
  rw [isTy_tag]
  have h := List.all_eq_true.mp (List.all_eq_true.mp kit_tab (tag d) (by cases d <;> simp [tag])) t (by cases t <;> simp)
  exact beq_iff_eq.mp h
theorem RD.ty {M : Addr → Prop} {d : PyData} {v : V} (r : RD K M H d v) : TyX K H v (.type (tag d)) := by
  cases r with
  | non => exact .base .non
  | bl b => exact .base (.bl b)
  | int i => exact .base (.int i)
  | str x => exact .base (.str x)
  | lst z m q => exact .base (.lst z)
  | dz z m => exact .base (.dK z)
  | tup z q =>
    rcases z with (z | ⟨o, z⟩) | ⟨o, its, n, h1, h2, _⟩
    · exact .base (.tup z)
    · exact .fTuple z
    · exact .kTuple h1 h2
theorem isi_snd {Tb : TbL} (t : Ty) : ∃ r, (∀ (e : Expr) (te : TE) (p p2 pos : Pos), (∀ v q, e ≠ .Starred v q) → PE X e te → Gl X "isinstance" → X.mg "isinstance" = none → Gl X t.nm → X.mg t.nm = none → PE X (.Call (.Name "isinstance" p) [e, .Name t.nm p2] [] pos) (tUn r te)) ∧
    Srv1 X.K X.mg Tb (fun x h => match x with | .d y => .ok (.d (.bool (isTy t y))) h | _ => .bad) r := by
  have hn : bootBuiltins t.nm = some (.type t.s) := by cases t <;> decide +kernel
  have dn : t.nm ≠ "__name__" := by cases t <;> decide
  have dd : (t.nm == ("__debug__" : Str)) = false := by cases t <;> decide
  refine ⟨fun u H Q => rIsi X.K [u, .ty t.s] H Q, fun e te p p2 pos ns he g1 m1 g2 m2 => ?_, fun x u j h H Q ek R rx p => ?_⟩
  · refine (pe_callB call_isi g1 m1 PyProof.Rows.boot_isinstance (pa_cons he (pa_cons (pe_bltn (v := .ty t.s) g2 m2 hn rfl dn dd) pa_nil) (star_cons ns)) (by decide) (by decide) (star_cons ns) rfl).imp fun σ H Q q => ?_
    exact q
  · cases rx with
    | d rx => exact ⟨_, _, _, _, _, rfl, .ty _, rx.ty, kit_ty (kit_isTy t _), p.here R _ (.d (.bl _))⟩
    | _ => exact (show False from p).elim

/-! ### dicts -/
theorem ix_dct {X : Cx} (hu : X.A.units + 1 < cLine) : IxR X (fun x y H Q => ∃ a v, x = .ref a ∧ DGet H a y (some v) ∧ Q v H) := by
  intro value slice pins s σ H x y v u Q I rx ry h hs
  obtain ⟨a, w, rfl, g, q⟩ := h
  cases rx
  have hT := dict_typeIs I g
  unfold subscriptTail
  refine wpAny_bind ?_
  rw [getitemInPython_of_ne hT.not_modules]
  refine wpAny_bind (wpAny_specialOf hT PySem.F.slot_dict_getitem.lookup ?_)
  have fin : wpAny (model X.prog X.w) X.A (subscripted slice false (.ref a) u) (fun r s3 => wpAny (model X.prog X.w) X.A (letTemporaryGo value (.ref a) r >>= fun _ => pure r) (EP X pins σ Q) X.xe s3) X.xe s := by
    rw [hs]
    exact wpAny_operating (d_getItem hu I g ry fun r s3 I3 rr => wpAny_bind (wpAny_letTemporaryGo (wpAny_pure ⟨w, H, I3, rr, q⟩)))
  first
    | exact wpAny_pure (wpAny_bind fin)
    | exact wpAny_bind (wpAny_pure (wpAny_bind fin))
    | exact wpAny_bind fin

/-! ### subscripts, slices -/
theorem ix_snd {Tb : TbL} (A : Roomy X.A) : ∃ r, IxR X r ∧ Srv2 X.K X.mg Tb NC.ix r := by
  refine ⟨_, ix_seq.or (ix_dct (by have := A.un; omega)), fun x y u v j h H Q ek R rx ry p => ?_⟩
  unfold NC.ix at p
  split at p
  · cases rx with | d rx => cases ry with | d ry => cases ry; cases rx with | tup z q =>
    split at p
    · rename_i e
      obtain ⟨w, h1, h2⟩ := q.at e
      exact .inl (.inr (.inl ⟨_, _, _, _, rfl, rfl, z, h1, p.here R _ (.d h2)⟩))
    · exact p.elim
  · cases rx with | d rx => cases ry with | d ry => cases ry; cases rx with | lst z m q =>
    split at p
    · rename_i e
      obtain ⟨w, h1, h2⟩ := q.at e
      exact .inl (.inl ⟨_, _, _, _, rfl, rfl, .of z, h1, p.here R _ (.d h2)⟩)
    · exact p.elim
  · cases rx with | d rx => cases ry with | d ry => cases ry; cases rx with | str _ =>
    split at p
    · split at p
      · exact .inl (.inr (.inr ⟨_, _, _, rfl, rfl, lnOk_le ‹_›, ‹_›, p.here R _ (.d (.str _))⟩))
      · exact p.elim
    · exact p.elim
  · cases ry with | d ry => cases ry; cases rx with | ref hi =>
    split at p
    · rename_i e
      obtain ⟨hn, vs, e1, q⟩ := obj_lst R e
      split at p
      · rename_i e2
        obtain ⟨w, h1, h2⟩ := q.at e2
        exact .inl (.inl ⟨_, _, _, _, rfl, rfl, .of e1, h1, p.here R _ (.d h2)⟩)
      · exact p.elim
    · rename_i e
      obtain ⟨hn, ws, e1, q⟩ := obj_dct R e
      split at p
      · rename_i e2
        rcases q.get (.inl _) with ⟨z, _⟩ | ⟨d, v, z, z2, rd⟩
        · rw [e2] at z; cases z
        · rw [e2] at z; cases z
          exact .inr ⟨_, _, rfl, by rw [← z2]; exact DGet.k (k := .inl _) e1, p.here R _ (.d rd)⟩
      · exact p.elim
    · exact p.elim
  · cases ry with | d ry => cases ry; cases rx with | ref hi =>
    split at p
    · rename_i e
      obtain ⟨hn, ws, e1, q⟩ := obj_dct R e
      split at p
      · rename_i e2
        rcases q.get (.inr _) with ⟨z, _⟩ | ⟨d, v, z, z2, rd⟩
        · rw [e2] at z; cases z
        · rw [e2] at z; cases z
          exact .inr ⟨_, _, rfl, by rw [← z2]; exact DGet.k (k := .inr _) e1, p.here R _ (.d rd)⟩
      · exact p.elim
    · exact p.elim
  · exact p.elim
theorem cutV_whole {xs : List PyData} {lo hi : Option Int} (h : HT.sIx xs.length 0 lo = 0 ∧ HT.sIx xs.length xs.length hi = xs.length) : cut xs lo hi = xs := by
  unfold cut
  rw [h.1, h.2]
  simp
theorem slc_snd {Tb : TbL} : ∃ r, SlR X r ∧ ∀ (x : PV) (u : V) (lo hi : Option Int) (j : Gh) (h : Hv) (H : Hp) (Q : VK) (ek : XK), Rl X.K X.mg Tb j h H → RV X.K X.mg j h.os.length H x u → Pst X.K X.mg Tb j h H (NC.slc x lo hi h) (okV X.K X.mg Q) ek → r u lo hi H Q := by
  refine ⟨_, sl_tupA.or sl_list, fun x u lo hi j h H Q ek R rx p => ?_⟩
  unfold NC.slc at p
  split at p
  · cases rx with | d rx => cases rx with | tup z q =>
    refine .inl ⟨_, _, rfl, z, fun hw => ?_, fun _ => fin_tup R (q.cut lo hi) p⟩
    rw [← q.length] at hw
    rw [cutV_whole hw] at p
    exact p.here R _ (.d (.tup z q))
  · cases rx with | d rx => cases rx with | lst z m q => exact .inr ⟨_, _, rfl, .of z, fin_lst R (q.cut lo hi) p⟩
  · cases rx with | scr z q => exact .inr ⟨_, _, rfl, z.sq, fin_lst R (q.cut lo hi) p⟩
  · cases rx with | ref hi' =>
    split at p
    · rename_i e
      obtain ⟨hn, vs, e1, q⟩ := obj_lst R e
      exact .inr ⟨_, _, rfl, .of e1, fin_lst R (q.cut lo hi) p⟩
    · exact p.elim
  · exact p.elim

theorem RDs.reverse {K : PySem.W.Frag} {M : Addr → Prop} {H : Hp} : ∀ {xs : List PyData} {vs : List V}, RDs K M H xs vs → RDs K M H xs.reverse vs.reverse
  | _, _, .nil => .nil
  | _, _, .cons a b => by
    rw [List.reverse_cons, List.reverse_cons]
    exact (RDs.reverse b).append (.cons a .nil)
theorem rev_snd {Tb : TbL} (x : PV) (u : V) (j : Gh) (h : Hv) (H : Hp) (Q : VK) (ek : XK) (R : Rl X.K X.mg Tb j h H) (rx : RV X.K X.mg j h.os.length H x u) (p : Pst X.K X.mg Tb j h H (NC.rev x h) (okV X.K X.mg Q) ek) : ∃ a xs, u = .ref a ∧ SqL X.K H a xs ∧ ∀ p, H p = none → Q (.ref p) (upd H p (.lst xs.reverse)) := by
  unfold NC.rev at p
  split at p
  · cases rx with | d rx => cases rx with | lst z m q => exact ⟨_, _, rfl, .of z, fin_lst R q.reverse p⟩
  · cases rx with | ref hi' =>
    split at p
    · rename_i e
      obtain ⟨hn, vs, e1, q⟩ := obj_lst R e
      exact ⟨_, _, rfl, .of e1, fin_lst R q.reverse p⟩
    · exact p.elim
  · exact p.elim

/-! ### lists that change -/
theorem lst_set {Tb : TbL} (R : Rl K mg Tb j h H) {n : Nat} {xs ys : List PyData} {vs ws : List V} (e : h.os[n]? = some (.lst xs)) (q : RDs K j.F H ys ws) :
    Tr Tb j h H j (setO h n (.lst ys)) (upd H (j.at_ n) (.lst ws)) ∧ Rl K mg Tb j (setO h n (.lst ys)) (upd H (j.at_ n) (.lst ws)) := by
  have hn := (List.getElem?_eq_some_iff.mp e).1
  exact ⟨Tr.set R hn fun _ _ _ z => by simp [Ob.refs] at z, R.set hn ⟨ws, upd_same, RDs.mono (R.kset hn) _ _ q⟩⟩
theorem dct_set {Tb : TbL} (R : Rl K mg Tb j h H) {n : Nat} {kvs kvs' : List (L2.Key × PyData)} {ws : List (L2.Key × V)} (e : h.os[n]? = some (.dct kvs)) (q : RKs K j.F H kvs' ws) :
    Tr Tb j h H j (setO h n (.dct kvs')) (upd H (j.at_ n) (.dK ws)) ∧ Rl K mg Tb j (setO h n (.dct kvs')) (upd H (j.at_ n) (.dK ws)) := by
  have hn := (List.getElem?_eq_some_iff.mp e).1
  exact ⟨Tr.set R hn fun ob _ r hr => by simp [Ob.refs] at hr, Rl.set R hn ⟨ws, upd_same, q.mono (R.kset hn)⟩⟩
def rSetB : V → V → V → Hp → (Hp → Prop) → Prop := fun o i v H Q => rSetL o i v H Q ∨ ∃ a H', o = .ref a ∧ DPut H a i v H' ∧ Q H'
theorem set_both {X : Cx} (hu : X.A.units + 1 < cLine) : PSet X rSetB := by
  intro pins s σ H o i v ov iv u Q I ro ri rv h
  rcases h with h | ⟨a, H', rfl, g, q⟩
  · exact set_list pins s σ H o i v ov iv u Q I ro ri rv h
  · cases ro
    exact d_setItem hu I g ri rv fun s' I' => ⟨H', I', q⟩
theorem setI_snd {Tb : TbL} : ∀ (x y z : PV) (o i v : V) (j : Gh) (h : Hv) (H : Hp) (Q : Hp → Prop) (ek : XK), Rl X.K X.mg Tb j h H → RV X.K X.mg j h.os.length H x o → RV X.K X.mg j h.os.length H y i → RV X.K X.mg j h.os.length H z v →
    Pst X.K X.mg Tb j h H (NC.setI x y z h) (fun _ _ _ H' => Q H') ek → rSetB o i v H Q := by
  intro x y z o i v j h H Q ek R rx ry rz p
  unfold NC.setI at p
  split at p
  · cases ry with | d ry => cases rx with | ref hi => cases rz with | d rz =>
    split at p
    · rename_i e
      obtain ⟨hn, vs, e1, q⟩ := obj_lst R e
      split at p
      · cases ry
        split at p
        · rename_i e2
          obtain ⟨t, R'⟩ := lst_set (vs := vs) R e (RDs.set rz _ q)
          exact .inl ⟨_, _, _, _, rfl, rfl, e1, by rw [← q.length]; exact e2, p j _ t R'⟩
        · exact p.elim
      · exact p.elim
    · rename_i e
      obtain ⟨hn, ws, e1, q⟩ := obj_dct R e
      split at p
      · rename_i y' _ _ k ek
        split at p
        · rename_i hl
          have ev : i = kV k := by cases ry <;> simp [keyD] at ek <;> subst ek <;> rfl
          obtain ⟨t, R'⟩ := dct_set (ws := putK ws k v) R e (q.put k rz)
          have := lnOk_le hl
          rw [q.len] at this
          exact .inr ⟨_, _, rfl, by rw [ev]; exact DPut.k e1 (by omega), p j _ t R'⟩
        · exact p.elim
      · exact p.elim
    · exact p.elim
  · exact p.elim
/-- append, extend, pop -/
def rMeth (m : Str) : V → List V → Hp → VK → Prop := fun x vs H Q => if m = "append" then rAppend x vs H Q else if m = "extend" then rExtend x vs H Q else rPop x vs H Q
theorem meth_snd {Tb : TbL} (m : Str) : ∀ (x : PV) (ys : List PV) (u : V) (vs : List V) (j : Gh) (h : Hv) (H : Hp) (Q : VK) (ek : XK), Rl X.K X.mg Tb j h H → RV X.K X.mg j h.os.length H x u → RVs X.K X.mg j h.os.length H ys vs →
    Pst X.K X.mg Tb j h H (NC.meth m x ys h) (okV X.K X.mg Q) ek → rMeth m u vs H Q := by
  intro x ys u vs j h H Q ek R rx ry p
  unfold NC.meth at p
  unfold rMeth
  split at p
  · cases rx with | ref hi =>
    split at p
    · rename_i xs e
      obtain ⟨hn, ws, e1, q⟩ := obj_lst R e
      by_cases h1 : m = "append"
      · rw [if_pos h1] at p ⊢
        split at p
        · rename_i v
          cases ry with | cons a b => cases b; cases a with | d a =>
          split at p
          · obtain ⟨t, R'⟩ := lst_set (vs := ws) R e (q.append (.cons a .nil))
            refine ⟨_, _, _, rfl, rfl, e1, ?_, p j _ t R' _ (.d .non)⟩
            have := lnOk_le ‹_›
            rw [← q.length]; omega
          · exact p.elim
        · exact p.elim
      · rw [if_neg h1] at p ⊢
        by_cases h2 : m = "extend"
        · rw [if_pos h2] at p ⊢
          split at p
          · rename_i ys'
            cases ry with | cons a b => cases b; cases a with | d a => cases a with | lst z mm q2 =>
            split at p
            · obtain ⟨t, R'⟩ := lst_set (vs := ws) R e (q.append q2)
              refine ⟨_, _, _, _, rfl, rfl, e1, z, ?_, p j _ t R' _ (.d .non)⟩
              have := lnOk_le ‹_›
              rw [← q.length, ← q2.length]; exact this
            · exact p.elim
          · exact p.elim
        · rw [if_neg h2] at p ⊢
          split at p
          · split at p
            · split at p
              · rename_i y e2
                cases ry
                obtain ⟨w, e3, q3⟩ := q.get e2
                obtain ⟨t, R'⟩ := lst_set (vs := ws) R e q.dropLast
                exact ⟨_, _, w, rfl, rfl, e1, by rw [← q.length]; exact e3, p j _ t R' _ (RV.tr t (.d q3))⟩
              · exact p.elim
            · exact p.elim
          · exact p.elim
    · exact p.elim
  · exact p.elim
/-! ### instances -/
theorem lookup_rfs {K : PySem.W.Frag} {mg : Str → Option Value} {j : Gh} {n : Nat} {H : Hp} (f : Str) : ∀ {fs : List (Str × PV)} {vs : List (Str × V)}, RFs K mg j n H fs vs → (fs.lookup f = none ∧ vs.lookup f = none) ∨ ∃ p v, fs.lookup f = some p ∧ vs.lookup f = some v ∧ RV K mg j n H p v
  | [], [], _ => .inl ⟨rfl, rfl⟩
  | (g, p) :: fs, (g', v) :: vs, ⟨e, rp, r⟩ => by
    subst e
    rw [List.lookup_cons, List.lookup_cons]
    by_cases q : f = g
    · subst q; simp; exact rp
    · have : (f == g) = false := by simpa using q
      rw [this]
      exact lookup_rfs f r
  | [], _ :: _, z => z.elim
  | _ :: _, [], z => z.elim
theorem len_rfs {K : PySem.W.Frag} {mg : Str → Option Value} {j : Gh} {n : Nat} {H : Hp} : ∀ {fs : List (Str × PV)} {vs : List (Str × V)}, RFs K mg j n H fs vs → fs.length = vs.length
  | [], [], _ => rfl
  | _ :: _, _ :: _, ⟨_, _, r⟩ => congrArg (· + 1) (len_rfs r)
  | [], _ :: _, z => z.elim
  | _ :: _, [], z => z.elim
theorem put_rfs {K : PySem.W.Frag} {mg : Str → Option Value} {j : Gh} {n : Nat} {H : Hp} (f : Str) {p : PV} {v : V} (rv : RV K mg j n H p v) : ∀ {fs : List (Str × PV)} {vs : List (Str × V)}, RFs K mg j n H fs vs → RFs K mg j n H (putP f p fs) (putF f v vs)
  | [], [], _ => ⟨rfl, rv, trivial⟩
  | (g, _) :: fs, (g', _) :: vs, ⟨e, rp, r⟩ => by
    subst e
    unfold putP putF
    by_cases q : g = f
    · rw [if_pos q, if_pos q]; exact ⟨rfl, rv, r⟩
    · rw [if_neg q, if_neg q]; exact ⟨rfl, rp, put_rfs f rv r⟩
  | [], _ :: _, z => z.elim
  | _ :: _, [], z => z.elim
mutual
theorem noRef_refs : ∀ (p : PV), p.noRef = true → p.refs = []
  | .d _, _ => rfl
  | .ref _, h => by simp [PV.noRef] at h
  | .tup xs, h => noRefL_refs xs h
  | .fn _, _ => rfl
  | .scr _, _ => rfl
theorem noRefL_refs : ∀ (ps : List PV), PV.noRefL ps = true → PV.refsL ps = []
  | [], _ => rfl
  | p :: ps, h => by
    simp only [PV.noRefL, Bool.and_eq_true] at h
    simp only [PV.refsL, noRef_refs p h.1, noRefL_refs ps h.2, List.append_nil]
end
theorem putP_refs (f : Str) (v : PV) : ∀ (fs : List (Str × PV)) (r : Nat), r ∈ PV.refsL ((putP f v fs).map (·.2)) → r ∈ v.refs ∨ r ∈ PV.refsL (fs.map (·.2))
  | [], r, h => by simpa [putP, PV.refsL] using h
  | (g, x) :: fs, r, h => by
    unfold putP at h
    split at h
    · simp only [List.map_cons, PV.refsL, List.mem_append] at h ⊢
      rcases h with h | h
      · exact .inl h
      · exact .inr (.inr h)
    · simp only [List.map_cons, PV.refsL, List.mem_append] at h ⊢
      rcases h with h | h
      · exact .inr (.inl h)
      · rcases putP_refs f v fs r h with h | h
        · exact .inl h
        · exact .inr (.inr h)
theorem obj_ins {Tb : TbL} (R : Rl K mg Tb j h H) {c : Str} {x : PV} {u : V} {n : Nat} {fs : List (Str × PV)} (rx : RV K mg j h.os.length H x u) (e : insOf c x h = some (n, fs)) :
    x = .ref n ∧ u = .ref (j.at_ n) ∧ n < h.os.length ∧ h.os[n]? = some (.ins c fs) ∧ ∃ C dx fv, H (j.at_ n) = some (.ins C dx fv) ∧ mg c = some (.ref C) ∧ RFs K mg j h.os.length H fs fv := by
  unfold insOf at e
  split at e
  rotate_left
  · cases e
  split at e
  rotate_left
  · cases e
  rename_i c' fs' ho
  split at e
  rotate_left
  · cases e
  rename_i hc
  cases e
  subst hc
  cases rx with
  | ref hi => exact ⟨rfl, rfl, hi, ho, R.obj _ _ ho⟩
/-- a field is stored -/
theorem setF_snd {Tb : TbL} {c f : Str} {x v : PV} {o u : V} {h3 : Hv} (R : Rl K mg Tb j h H) (rx : RV K mg j h.os.length H x o) (rv : RV K mg j h.os.length H v u) (e : setFD c x f v h = some h3) :
    ∃ a C dx fv, o = .ref a ∧ H a = some (.ins C dx fv) ∧ mg c = some (.ref C) ∧ fv.length < 900 ∧ h3.os.length = h.os.length ∧ Shr h h3 ∧ Tr Tb j h H j h3 (upd H a (.ins C dx (putF f u fv))) ∧ Rl K mg Tb j h3 (upd H a (.ins C dx (putF f u fv))) := by
  unfold setFD at e
  split at e
  rotate_left
  · cases e
  rename_i n fs hi
  split at e
  rotate_left
  · cases e
  rename_i hc
  cases e
  rw [Bool.and_eq_true, decide_eq_true_eq, Bool.or_eq_true, decide_eq_true_eq] at hc
  obtain ⟨rfl, rfl, hn, ho, C, dx, fv, e1, e2, r⟩ := obj_ins R rx hi
  have k := R.kset (o := .ins C dx (putF f u fv)) hn
  have new : RO K mg j h.os.length (upd H (j.at_ n) (.ins C dx (putF f u fv))) (j.at_ n) (.ins c (putP f v fs)) := ⟨C, dx, _, upd_same, e2, RFs.mono (fun _ _ => rfl) (Nat.le_refl _) k (put_rfs f rv r)⟩
  have hl : (setO h n (.ins c (putP f v fs))).os.length = h.os.length := by simp [setO]
  have sh : Shr h (setO h n (.ins c (putP f v fs))) := ⟨rfl, by rw [hl]; exact Nat.le_refl _, fun i o' hi e => by
    have e' : (h.os.set n (.ins c (putP f v fs)))[i]? = some o' := e
    by_cases hin : i = n
    · subst hin
      rw [List.getElem?_set_self hn] at e'
      cases e'
      refine ⟨_, ho, fun r hr => ?_⟩
      rcases putP_refs f v fs r hr with h' | h'
      · rcases hc.2 with z | z
        · omega
        · rw [noRef_refs v z] at h'; cases h'
      · exact h'
    · rw [List.getElem?_set_ne (Ne.symm hin)] at e'
      exact ⟨o', e', fun _ z => z⟩⟩
  exact ⟨_, C, dx, fv, rfl, e1, e2, by rw [← len_rfs r]; exact hc.1, hl, sh, ⟨fun _ _ => rfl, k, sh, fun a u' e _ n' => ⟨by rw [upd_ne (Ne.symm (n' n hn))]; exact e, id, by rw [hl]; exact n'⟩⟩, R.set hn new⟩
/-- texts of a list -/
theorem allS_is {M : Addr → Prop} : ∀ {xs : List PyData} {vs : List V} {ys : List Str}, RDs K M H xs vs → allS xs = some ys → vs = ys.map V.str
  | [], _, _, r, e => by cases r; cases e; rfl
  | x :: xs, _, _, r, e => by
    cases r with
    | cons a b =>
      cases x <;> first | (simp [allS] at e; done) | skip
      cases a
      simp only [allS, Option.map_eq_some_iff] at e
      obtain ⟨ms, e1, rfl⟩ := e
      rw [allS_is b e1]
      rfl
theorem join_snd {Tb : TbL} (s : Str) (x : PV) (u : V) (j : Gh) (h : Hv) (H : Hp) (Q : VK) (ek : XK) (R : Rl X.K X.mg Tb j h H) (rx : RV X.K X.mg j h.os.length H x u) (p : Pst X.K X.mg Tb j h H (NC.joinD s x h) (okV X.K X.mg Q) ek) :
    ∃ a p, ∃ ys : List Str, V.str s = .str a ∧ [u] = [.ref p] ∧ (SqL X.K H p (ys.map V.str) ∨ SqT X.K H p (ys.map V.str)) ∧ (ys.map (·.length)).sum + ys.length * a.length ≤ 16777216 ∧ Q (.str (Txt.join a ys)) H := by
  unfold NC.joinD at p
  split at p
  · cases rx with | d rx => cases rx with | lst z m q =>
    split at p
    · rename_i ys e
      have := allS_is q e
      subst this
      split at p
      · rename_i hl
        exact ⟨s, _, ys, rfl, rfl, .inl (.of z), of_decide_eq_true hl, p.here R _ (.d (.str _))⟩
      · exact p.elim
    · exact p.elim
  · cases rx with | ref hi =>
    split at p
    · rename_i xs e0
      obtain ⟨hn, vs, e1, q⟩ := obj_lst R e0
      split at p
      · rename_i ys e
        have := allS_is q e
        subst this
        split at p
        · rename_i hl
          exact ⟨s, _, ys, rfl, rfl, .inl (.of e1), of_decide_eq_true hl, p.here R _ (.d (.str _))⟩
        · exact p.elim
      · exact p.elim
    · exact p.elim
  · exact p.elim
end
end NC
/-! Targets, and what is walked. -/
namespace NC
open PySem PySem.Spec PyProof.Rows L2

/-! ### targets -/
section
variable {X : Cx}
/-- only these slots may have changed -/
def Chg (vs : List Nat) (σ σ' : L2.St) : Prop := σ'.length = σ.length ∧ ∀ i, i ∉ vs → σ'[i]? = σ[i]?
/-- what a store of a value means -/
def tG (K : PySem.W.Frag) (mg : Str → Option Value) (Tb : TbL) (t : Tg) : TG := fun v σ H Q => ∃ j e h x, Rl K mg Tb j h H ∧ REnv K mg j h.os.length H e σ ∧ RV K mg j h.os.length H x v ∧
  ∃ e', store t x e = some e' ∧ ∀ σ', REnv K mg j h.os.length H e' σ' → Chg t.vars σ σ' → Q σ' H
def tGs (K : PySem.W.Frag) (mg : Str → Option Value) (Tb : TbL) (ts : List Tg) : TGs := fun vs σ H Q => ∃ j e h, Rl K mg Tb j h H ∧ REnv K mg j h.os.length H e σ ∧
  ((∃ xs, RDs K j.F H xs vs ∧ ∃ e', storeD ts xs e = some e' ∧ ∀ σ', REnv K mg j h.os.length H e' σ' → Chg (Tg.varsL ts) σ σ' → Q σ' H) ∨
   (∃ xs, RVs K mg j h.os.length H xs vs ∧ ∃ e', storeP ts xs e = some e' ∧ ∀ σ', REnv K mg j h.os.length H e' σ' → Chg (Tg.varsL ts) σ σ' → Q σ' H))
theorem Chg.trans {vs ws : List Nat} {a b c : L2.St} (x : Chg vs a b) (y : Chg ws b c) : Chg (vs ++ ws) a c :=
  ⟨y.1.trans x.1, fun i h => (y.2 i fun z => h (List.mem_append_right _ z)).trans (x.2 i fun z => h (List.mem_append_left _ z))⟩
theorem wipe_get (σ : L2.St) : ∀ (vs : List Nat) (i : Nat), (L2.wipe σ vs)[i]? = if i ∈ vs then (if i < σ.length then some none else none) else σ[i]?
  | [], i => by simp [L2.wipe]
  | v :: vs, i => by
    unfold L2.wipe
    by_cases h : i = v
    · subst h
      rw [if_pos List.mem_cons_self]
      by_cases hl : i < σ.length
      · rw [if_pos hl, List.getElem?_set_self (by rw [L2.wipe_length]; exact hl)]
      · rw [if_neg hl, List.getElem?_eq_none (by simp [L2.wipe_length]; omega)]
    · rw [List.getElem?_set_ne (Ne.symm h), wipe_get σ vs i]
      simp [h]
theorem Chg.wipe {vs ws : List Nat} {a b : L2.St} (x : Chg vs a b) (h : ∀ i ∈ vs, i ∈ ws) : L2.wipe b ws = L2.wipe a ws := by
  apply List.ext_getElem?
  intro i
  rw [wipe_get, wipe_get, x.1]
  by_cases hi : i ∈ ws
  · rw [if_pos hi, if_pos hi]
  · rw [if_neg hi, if_neg hi]
    exact x.2 i fun z => hi (h i z)
theorem wipe_idem (a : L2.St) (ws : List Nat) : L2.wipe (L2.wipe a ws) ws = L2.wipe a ws := by
  apply List.ext_getElem?
  intro i
  rw [wipe_get, L2.wipe_length, wipe_get]
  by_cases hi : i ∈ ws
  · rw [if_pos hi, if_pos hi]
  · rw [if_neg hi, if_neg hi]
theorem vis_of {sc : Scope} {x : Str} (h : visB sc x = true) : Vis sc x := by
  unfold visB at h
  split at h <;> first | exact .inl ‹_› | exact .inr (.inl ‹_›) | exact .inr (.inr ‹_›) | cases h
theorem loc_of {sc : Scope} {x : Str} (h : locB sc x = true) : Loc sc x := by
  unfold locB at h
  split at h <;> first | exact .inl ‹_› | exact .inr ‹_› | cases h
theorem loc1_of {sc : Scope} {x : Str} (h : loc1B sc x = true) : sc.names.lookup x = some .local := by
  unfold loc1B at h
  split at h <;> first | assumption | cases h
theorem glb_of {x : Str} (h : glbB X.env.scope x = true) : Gl X x ∧ okName x = true := by
  unfold glbB at h
  split at h
  · exact ⟨‹_›, h⟩
  · cases h
theorem okn {x : Str} (h : okName x = true) : (x == ("__debug__" : Str)) = false ∧ (x == ("__classdict__" : Str)) = false ∧ x ≠ "__name__" := by
  unfold okName at h
  rw [Bool.and_eq_true, Bool.and_eq_true] at h
  refine ⟨by simpa using h.1.1, by simpa using h.1.2, fun e => ?_⟩
  subst e
  exact absurd h.2 (by decide)
/-- may these names be stored to here -/
def FnAll (X : Cx) (sc : Scope) : Prop := ∀ x, locB sc x = true → Loc X.env.scope x ∧ (X.fn x = true ∨ X.env.scope.names.lookup x = some .local)
theorem each_len (sc : Scope) (N : List Str) : ∀ (ts : List Tg) (es : List Expr) (env : PySem.Env), chkTgs sc N ts es = true → (assignEach es env).length = ts.length ∧ (assignEach es env).findIdx? (·.1) = none
  | [], [], _, _ => ⟨rfl, rfl⟩
  | t :: ts, e :: es, env, h => by
    unfold chkTgs at h
    rw [Bool.and_eq_true] at h
    obtain ⟨h1, h2⟩ := h
    obtain ⟨a, b⟩ := each_len sc N ts es env h2
    have q : assignEach (e :: es) env = (false, assign e env) :: assignEach es env := by
      cases e <;> first | rfl | (cases t <;> simp [chkTg] at h1)
    rw [q]
    refine ⟨by simp [a], ?_⟩
    rw [List.findIdx?_cons]
    simp [b]
  | [], _ :: _, _, h => by simp [chkTgs] at h
  | _ :: _, [], _, h => by simp [chkTgs] at h
mutual
theorem tg_snd {Tb : TbL} (hc : X.calm = true) (nd : X.N.Nodup) {sc : Scope} (hf : FnAll X sc) : ∀ (t : Tg) (e : Expr), chkTg sc X.N t e = true → PG X e (tG X.K X.mg Tb t)
  | .var i, e, h => by
    cases e <;> first | (simp [chkTg] at h; done) | skip
    rename_i x p
    simp only [chkTg, Bool.and_eq_true] at h
    have hx := of_decide_eq_true h.1.1
    refine ⟨fun pins s σ H v u Q I r q => ?_⟩
    obtain ⟨j, e, hh, x', R, E, rv, e', hs, q⟩ := q
    refine (pg_name nd hx (hf _ h.1.2).1 (hf _ h.1.2).2).run pins s σ H v u Q I r ?_
    unfold store at hs
    split at hs
    · cases hs
      exact q _ (E.set rv) ⟨by simp, fun k hk => List.getElem?_set_ne fun z => hk (by rw [z]; exact List.mem_singleton_self _)⟩
    · cases hs
  | .tup ts, e, h => by
    cases e <;> first | (simp [chkTg] at h; done) | skip
    rename_i es k p
    simp only [chkTg] at h
    have hl := each_len sc X.N ts es X.env h
    refine ⟨fun pins s σ H v u Q I r q => ?_⟩
    have T := pg_tup (k := k) (pos := p) hc (tgs_snd (Tb := Tb) hc nd hf ts es h) hl.1 hl.2
    have U := pg_unl (k := k) (pos := p) hc (tgs_snd (Tb := Tb) hc nd hf ts es h) hl.1 hl.2
    obtain ⟨j, e, hh, x', R, E, rv, e', hs, q⟩ := q
    cases x' with
    | d y =>
      cases rv with
      | d rv =>
        cases y <;> first | (simp [store] at hs; done) | skip
        case list =>
          cases rv with
          | lst z m rs =>
            simp only [store] at hs
            refine U.run pins s σ H _ u Q I r ⟨_, _, rfl, .of z, ?_, j, e, hh, R, E, .inl ⟨_, rs, e', hs, q⟩⟩
            rw [← rs.length]
            exact lenD _ _ _ _ hs
        case tuple =>
          cases rv with
          | tup z rs =>
            simp only [store] at hs
            refine T.run pins s σ H _ u Q I r ⟨_, _, rfl, z, ?_, j, e, hh, R, E, .inl ⟨_, rs, e', hs, q⟩⟩
            rw [← rs.length]
            exact lenD _ _ _ _ hs
    | tup ys =>
      cases rv with
      | tup z rs =>
        simp only [store] at hs
        refine T.run pins s σ H _ u Q I r ⟨_, _, rfl, z, ?_, j, e, hh, R, E, .inr ⟨_, rs, e', hs, q⟩⟩
        rw [← rs.length]
        exact lenP _ _ _ _ hs
    | ref n => simp [store] at hs
    | fn n => simp [store] at hs
    | scr n => simp [store] at hs
theorem tgs_snd {Tb : TbL} (hc : X.calm = true) (nd : X.N.Nodup) {sc : Scope} (hf : FnAll X sc) : ∀ (ts : List Tg) (es : List Expr), chkTgs sc X.N ts es = true → PGs X es (tGs X.K X.mg Tb ts)
  | [], es, h => by
    cases es with
    | cons _ _ => simp [chkTgs] at h
    | nil =>
      refine ⟨fun pins s σ H vs us Q I r q => pgs_nil.run pins s σ H vs us Q I r ?_⟩
      obtain ⟨j, e, hh, R, E, q⟩ := q
      rcases q with ⟨xs, rs, e', hs, q⟩ | ⟨xs, rs, e', hs, q⟩
      · cases rs with
        | nil => simp only [storeD, Option.some.injEq] at hs; subst hs; exact ⟨rfl, q _ E ⟨rfl, fun _ _ => rfl⟩⟩
        | cons _ _ => simp [storeD] at hs
      · cases rs with
        | nil => simp only [storeP, Option.some.injEq] at hs; subst hs; exact ⟨rfl, q _ E ⟨rfl, fun _ _ => rfl⟩⟩
        | cons _ _ => simp [storeP] at hs
  | t :: ts, es, h => by
    cases es with
    | nil => simp [chkTgs] at h
    | cons e es =>
      have h0 := h
      unfold chkTgs at h
      rw [Bool.and_eq_true] at h
      have q0 : assignEach (e :: es) X.env = (false, assign e X.env) :: assignEach es X.env := by
        cases e <;> first | rfl | (have := h.1; cases t <;> simp [chkTg] at this)
      refine ⟨fun pins s σ H vs us Q I r q => (pgs_cons (tg_snd (Tb := Tb) hc nd hf t e h.1) (tgs_snd (Tb := Tb) hc nd hf ts es h.2) (by rw [q0]; rfl)).run pins s σ H vs us Q I r ?_⟩
      obtain ⟨j, e, hh, R, E, q⟩ := q
      rcases q with ⟨xs, rs, e', hs, q⟩ | ⟨xs, rs, e', hs, q⟩
      · cases rs with
        | nil => simp [storeD] at hs
        | cons a b =>
          simp only [storeD] at hs
          obtain ⟨e1, h1, h2⟩ := Option.bind_eq_some_iff.mp hs
          exact ⟨_, _, rfl, j, e, hh, _, R, E, .d a, e1, h1, fun σ' E' c1 => ⟨j, e1, hh, R, E', .inl ⟨_, b, e', h2, fun σ2 E2 c2 => q σ2 E2 (c1.trans c2)⟩⟩⟩
      · cases rs with
        | nil => simp [storeP] at hs
        | cons a b =>
          simp only [storeP] at hs
          obtain ⟨e1, h1, h2⟩ := Option.bind_eq_some_iff.mp hs
          exact ⟨_, _, rfl, j, e, hh, _, R, E, a, e1, h1, fun σ' E' c1 => ⟨j, e1, hh, R, E', .inr ⟨_, b, e', h2, fun σ2 E2 c2 => q σ2 E2 (c1.trans c2)⟩⟩⟩
theorem lenD : ∀ (ts : List Tg) (xs : List PyData) (e e' : NC.Env), storeD ts xs e = some e' → xs.length = ts.length
  | [], [], _, _, _ => rfl
  | t :: ts, x :: xs, e, e', h => by
    simp only [storeD] at h
    obtain ⟨e1, _, h2⟩ := Option.bind_eq_some_iff.mp h
    exact congrArg (· + 1) (lenD ts xs e1 e' h2)
  | [], _ :: _, _, _, h => by simp [storeD] at h
  | _ :: _, [], _, _, h => by simp [storeD] at h
theorem lenP : ∀ (ts : List Tg) (xs : List PV) (e e' : NC.Env), storeP ts xs e = some e' → xs.length = ts.length
  | [], [], _, _, _ => rfl
  | t :: ts, x :: xs, e, e', h => by
    simp only [storeP] at h
    obtain ⟨e1, _, h2⟩ := Option.bind_eq_some_iff.mp h
    exact congrArg (· + 1) (lenP ts xs e1 e' h2)
  | [], _ :: _, _, _, h => by simp [storeP] at h
  | _ :: _, [], _, _, h => by simp [storeP] at h
end
/-- a tuple target from a value, or from a list that may change -/
def tGH (K : PySem.W.Frag) (mg : Str → Option Value) (Tb : TbL) (t : Tg) : TG := fun v σ H Q => ∃ j e h x, Rl K mg Tb j h H ∧ REnv K mg j h.os.length H e σ ∧ RV K mg j h.os.length H x v ∧
  ∃ e', storeH t x e h = some e' ∧ ∀ σ', REnv K mg j h.os.length H e' σ' → Chg t.vars σ σ' → Q σ' H
theorem tgh_snd {Tb : TbL} (hc : X.calm = true) (nd : X.N.Nodup) {sc : Scope} (hf : FnAll X sc) (ts : List Tg) (e : Expr) (h : chkTg sc X.N (.tup ts) e = true) : PG X e (tGH X.K X.mg Tb (.tup ts)) := by
  refine ⟨fun pins s σ H v u Q I r q => ?_⟩
  obtain ⟨j, e0, hh, x, R, E, rv, e', hs, q⟩ := q
  cases x with
  | ref n =>
    unfold storeH at hs
    dsimp only at hs
    split at hs
    · rename_i xs ho
      cases rv with
      | ref hn =>
        obtain ⟨vs, z, rs⟩ := R.obj n _ ho
        cases e <;> first | (simp [chkTg] at h; done) | skip
        rename_i es k p
        simp only [chkTg] at h
        have hl := each_len sc X.N ts es X.env h
        refine (pg_unl (k := k) (pos := p) hc (tgs_snd (Tb := Tb) hc nd hf ts es h) hl.1 hl.2).run pins s σ H _ u Q I r ⟨_, _, rfl, .of z, ?_, j, e0, hh, R, E, .inl ⟨_, rs, e', hs, q⟩⟩
        rw [← rs.length]
        exact lenD (X := X) _ _ _ _ hs
    · cases hs
  | _ => exact (tg_snd (Tb := Tb) hc nd hf (.tup ts) e h).run pins s σ H v u Q I r ⟨j, e0, hh, _, R, E, rv, e', hs, q⟩
end
end NC
set_option maxHeartbeats 1000000
/-! zip of two of lists, tuples, texts in any mix. -/
namespace NC
open PySem PySem.Spec PyProof.Rows L2

/-- what is zipped -/
inductive ZS where
  | l (a : Addr)
  | t (a : Addr)
  | s (x : Str)
def ZS.v : ZS → V
  | .l a => .ref a
  | .t a => .ref a
  | .s x => .str x
def signs (x : Str) : List V := x.cps.toList.map fun c => V.str ⟨#[c]⟩
def ZS.at_ (K : PySem.W.Frag) (H : Hp) : ZS → List V → Prop
  | .l a, vs => SqL K H a vs
  | .t a, vs => SqT K H a vs
  | .s x, vs => vs = signs x
def ZS.it (h : Heap) (it : Addr) (i : Nat) : ZS → Prop
  | .l a => h.IsListIter it a i
  | .t a => h.IsTupleIter it a i
  | .s x => ∃ t, h.IsStrIter it (strIterType x) x t i
def ZS.lo (N : Nat) : ZS → Prop
  | .l a => a < N
  | .t a => a < N
  | .s _ => True
def ItM (K : PySem.W.Frag) (p q : ZS) : L2.It :=
  ⟨fun i H => ∃ (xs ys : List V) (x y : V), p.at_ K H xs ∧ q.at_ K H ys ∧ xs[i]? = some x ∧ ys[i]? = some y,
    fun i H v H' => ∃ T x y, v = .ref T ∧ H T = none ∧ H' = upd H T (.tup [x, y]) ∧ (∀ xs, p.at_ K H xs → xs[i]? = some x) ∧ ∀ ys, q.at_ K H ys → ys[i]? = some y,
    fun i H => ∃ xs ys : List V, p.at_ K H xs ∧ q.at_ K H ys ∧ i ≤ xs.length ∧ i ≤ ys.length ∧ (i = xs.length ∨ i = ys.length)⟩
section
variable {X : Cx} {pins : List (Addr × PySem.Obj)} {σ : L2.St} {H : Hp} {s : Shared}
theorem ZS.inj (I : Inv X pins σ H s) {p : ZS} {xs ys : List V} (h : p.at_ X.K H xs) (h' : p.at_ X.K H ys) : xs = ys := by
  cases p with
  | l a => exact I.list_inj h h'
  | t a => exact I.tuple_inj h h'
  | s x => exact (show xs = signs x from h).trans (show ys = signs x from h').symm
theorem ZS.draw (I : Inv X pins σ H s) (hh : X.A.handled = none) {p : ZS} {xs : List V} (hp : p.at_ X.K H xs) {it : Addr} {i N : Nat} (hi : p.it s.heap it i) (hN : p.lo N) (hit : N ≤ it) :
    ∃ (fp : List Addr) (P : Nat → Value → Prop) (St : Nat → Heap → Prop), (∀ b ∈ fp, b < N) ∧ Draws X.prog X.w X.A.in1 it (it :: fp) xs.length P St ∧ St i s.heap ∧ (∀ k u, P k u → ∃ v, xs[k]? = some v ∧ RelV v u) ∧ ∀ k h, St k h → p.it h it k := by
  cases p with
  | l a =>
    obtain ⟨its, rv, pl, hz⟩ := I.list hp
    have hn : a ≠ it := Nat.ne_of_lt (Nat.lt_of_lt_of_le hN hit)
    have D := Draws.list (prog := X.prog) (w := X.w) (A := X.A.in1) hh it a hn its.toArray
    have e : its.toArray.size = xs.length := by rw [List.size_toArray, rv.length]
    rw [e] at D
    refine ⟨[a], _, _, fun b hb => by rw [List.mem_singleton] at hb; rw [hb]; exact hN, D, ⟨hi, pl.isList⟩, fun k u hu => ?_, fun k h st => st.1⟩
    have hu' : its[k]? = some u := by simpa using hu
    have hk : k < xs.length := by rw [rv.length]; exact (List.getElem?_eq_some_iff.mp hu').1
    obtain ⟨u2, h1, h2⟩ := rv.get (List.getElem?_eq_getElem hk)
    rw [hu'] at h1
    cases h1
    exact ⟨_, List.getElem?_eq_getElem hk, h2⟩
  | t a =>
    obtain ⟨its, rv, pl, hz⟩ := I.tuple hp
    have hn : a ≠ it := Nat.ne_of_lt (Nat.lt_of_lt_of_le hN hit)
    have D := Draws.tuple (prog := X.prog) (w := X.w) (A := X.A.in1) hh it a hn its.toArray
    have e : its.toArray.size = xs.length := by rw [List.size_toArray, rv.length]
    rw [e] at D
    refine ⟨[a], _, _, fun b hb => by rw [List.mem_singleton] at hb; rw [hb]; exact hN, D, ⟨hi, (show s.heap.IsTuple a its.toArray from pl)⟩, fun k u hu => ?_, fun k h st => st.1⟩
    have hu' : its[k]? = some u := by simpa using hu
    have hk : k < xs.length := by rw [rv.length]; exact (List.getElem?_eq_some_iff.mp hu').1
    obtain ⟨u2, h1, h2⟩ := rv.get (List.getElem?_eq_getElem hk)
    rw [hu'] at h1
    cases h1
    exact ⟨_, List.getElem?_eq_getElem hk, h2⟩
  | s x =>
    obtain ⟨t, hi⟩ := hi
    have hx : xs = signs x := hp
    subst hx
    have D := Draws.text (prog := X.prog) (w := X.w) (A := X.A.in1) hh it x t
    have e : x.cps.size = (signs x).length := by simp [signs]
    rw [e] at D
    refine ⟨[], _, _, fun b hb => absurd hb (by simp), D, hi, fun k u hu => ?_, fun k h st => ⟨t, st⟩⟩
    obtain ⟨c, tk, h1, rfl⟩ := hu
    exact ⟨.str ⟨#[c]⟩, by simp [signs, h1], ⟨tk, rfl⟩⟩
theorem ZS.keep {p : ZS} {h h' : Heap} {it : Addr} {i : Nat} (st : p.it h it i) (k : ∀ o, h.get? it = some o → h'.get? it = some o) : p.it h' it i := by
  cases p with
  | l a => exact Heap.IsListIter.at st k
  | t a => exact Heap.IsTupleIter.at st k
  | s x => obtain ⟨t, o, ho, r⟩ := st; exact ⟨t, o, k o ho, r⟩
theorem ZS.obj {p : ZS} {h : Heap} {it : Addr} {i : Nat} (st : p.it h it i) : ∃ o, h.get? it = some o ∧ ∀ v, o.data ≠ .cell v := by
  cases p with
  | l a => obtain ⟨o, e, _, d⟩ := st; exact ⟨o, e, fun v q => by rw [d] at q; cases q⟩
  | t a => obtain ⟨o, e, _, d⟩ := st; exact ⟨o, e, fun v q => by rw [d] at q; cases q⟩
  | s x => obtain ⟨t, o, e, _, d⟩ := st; exact ⟨o, e, fun v q => by rw [d] at q; cases q⟩
end
theorem turn_zipM {P : Program} {w : World} {K : PySem.W.Frag} {elts : List Expr} {kk : Nat} {tpos : Pos} {p q : ZS} {N : Nat} (hp : p.lo N) (hq : q.lo N) :
    Turn P w K (.Tuple elts kk tpos) (ItM K p q) [N + 4, N + 2, N + 3, N, N + 1] (N + 4 : Nat) (fun i h => IsZip h (N + 4 : Nat) (N + 2 : Nat) (N + 3 : Nat) .none ∧ IsTupOf2 h (N + 2 : Nat) (.ref N) (.ref (N + 1 : Nat)) ∧ (∃ x y, IsTupOf2 h (N + 3 : Nat) x y) ∧ p.it h N i ∧ q.it h (N + 1 : Nat) i) where
  mem := by simp
  obj := fun i h st c hc => by
    obtain ⟨hz, hTI, ⟨x, y, hTO⟩, h1, h2⟩ := st
    have e' : c = N + 4 ∨ c = N + 2 ∨ c = N + 3 ∨ c = N ∨ c = N + 1 := by simpa using hc
    rcases e' with q | q | q | q | q
    · rw [q]; exact ⟨_, hz, fun v q => nomatch q⟩
    · rw [q]; exact ⟨_, hTI, fun v q => nomatch q⟩
    · rw [q]; exact ⟨_, hTO, fun v q => nomatch q⟩
    · rw [q]; exact ZS.obj h1
    · rw [q]; exact ZS.obj h2
  keep := fun i h h' st k => by
    obtain ⟨hz, hTI, ⟨x, y, hTO⟩, h1, h2⟩ := st
    exact ⟨k _ (by simp) _ hz, k _ (by simp) _ hTI, ⟨x, y, k _ (by simp) _ hTO⟩, ZS.keep h1 fun o q => k _ (by simp) o q, ZS.keep h2 fun o q => k _ (by simp) o q⟩
  item := by
    intro X hP hw hK hc i pins s σ H E I hf st hg
    subst hP hw hK
    obtain ⟨hz, hTI, ⟨x0, y0, hTO⟩, h1, h2⟩ := st
    obtain ⟨xs, ys, x, y, ax, ay, hx, hy⟩ := hg
    obtain ⟨fp1, P1, St1, lt1, D1, s1, r1, b1⟩ := ZS.draw I (I.ok.hd hc) ax h1 hp (Nat.le_refl _)
    obtain ⟨fp2, P2, St2, lt2, D2, s2, r2, b2⟩ := ZS.draw I (I.ok.hd hc) ay h2 hq (Nat.le_succ _)
    have S := zip_sep2 (N := N) lt1 lt2
    have hzl : (N + 4 : Nat) < s.heap.objs.size := Heap.lt_size hz
    refine wpAny_pyNext_zipD2_item S D1 D2 hz hTI hTO s1 s2 (List.getElem?_eq_some_iff.mp hx).1 (List.getElem?_eq_some_iff.mp hy).1 fun u u2 h' tk pu pu2 z' TO' t1 t2 hT hsz hk => ?_
    obtain ⟨x', e1, ru⟩ := r1 i u pu
    obtain ⟨y', e2, ru2⟩ := r2 i u2 pu2
    rw [hx] at e1
    cases e1
    rw [hy] at e2
    cases e2
    refine ⟨_, rfl, wpAny_letOwnedTupleGo_zip (s := { s with heap := h', toks := tk }) z' fun h'' z'' sb => ?_⟩
    have hT2 : h''.get? s.heap.objs.size = some { cls := .type "tuple", data := .seq #[u, u2] } := (sb.2 _ (Nat.ne_of_gt hzl)).trans hT
    have new : ObjOk X.prog X.w (upd H s.heap.objs.size (.tup [x, y])) h'' s.heap.objs.size (.tup [x, y]) :=
      ⟨by show 2 ≤ sizeLine; decide, [u, u2], .cons ru (.cons ru2 .nil), ⟨_, hT2, rfl, _, rfl⟩⟩
    have I1 : Inv X pins σ (upd H s.heap.objs.size (.tup [x, y])) { s with heap := h'', toks := tk } :=
      I.turnedNew (t' := tk) (ch := [N + 4, N + 2, N + 3, N, N + 1]) (fun c o hb q => (sb.2 c (fun q' => hb (by simp [q']))).trans (hk c o (fun q' => hb (by simp [q'])) (fun q' => hb (by simp [q'])) (fun q' => hb (by simp [q'])) (fun q' => hb (by simp [q'])) q)) hf (Nat.le_refl _) new
    refine ⟨.ref s.heap.objs.size, _, I1, rfl, ⟨_, x, y, rfl, I.hok.fresh (Nat.le_refl _), rfl, fun l hl => by rw [ZS.inj I hl ax]; exact hx, fun l hl => by rw [ZS.inj I hl ay]; exact hy⟩, ⟨z'', ?_, ⟨u, u2, ?_⟩, ?_, ?_⟩, fun c hcm => ?_⟩
    · exact (sb.2 _ (show (N + 2 : Nat) ≠ N + 4 by omega)).trans (hk _ _ (show (N + 2 : Nat) ≠ N + 4 by omega) (show (N + 2 : Nat) ≠ N + 3 by omega) (show (N + 2 : Nat) ≠ N by omega) (show (N + 2 : Nat) ≠ N + 1 by omega) hTI)
    · exact (sb.2 _ (show (N + 3 : Nat) ≠ N + 4 by omega)).trans TO'
    · exact ZS.keep (b1 _ _ t1) fun o q => (sb.2 _ (show (N : Nat) ≠ N + 4 by omega)).trans q
    · exact ZS.keep (b2 _ _ t2) fun o q => (sb.2 _ (show (N + 1 : Nat) ≠ N + 4 by omega)).trans q
    · have hlt : c < s.heap.objs.size := by
        have e' : c = N + 4 ∨ c = N + 2 ∨ c = N + 3 ∨ c = N ∨ c = N + 1 := by simpa using hcm
        have : (c : Nat) ≤ N + 4 := by rcases e' with q | q | q | q | q <;> rw [q] <;> first | exact Nat.le_refl _ | exact Nat.le_add_right _ _ | exact Nat.add_le_add_left (by decide) _
        exact Nat.lt_of_le_of_lt this hzl
      rw [upd_ne (Nat.ne_of_lt hlt)]
      exact (hf c hcm).1
  done := by
    intro X hP hw hK hc i pins s σ H E I hf st hg
    subst hP hw hK
    obtain ⟨hz, hTI, ⟨x0, y0, hTO⟩, h1, h2⟩ := st
    obtain ⟨xs, ys, ax, ay, l1, l2, hend⟩ := hg
    obtain ⟨fp1, P1, St1, lt1, D1, s1, r1, b1⟩ := ZS.draw I (I.ok.hd hc) ax h1 hp (Nat.le_refl _)
    obtain ⟨fp2, P2, St2, lt2, D2, s2, r2, b2⟩ := ZS.draw I (I.ok.hd hc) ay h2 hq (Nat.le_succ _)
    exact wpAny_pyNext_zipD2_end (zip_sep2 (N := N) lt1 lt2) D1 D2 hz hTI hTO s1 s2 l1 l2 hend fun h' tk hk => ⟨rfl, I.turnedL (t' := tk) (ch := [N + 4, N + 2, N + 3, N, N + 1]) (fun c o hb q =>
      hk c o (fun q' => hb (by simp [q'])) (fun q' => hb (by simp [q'])) (fun q' => hb (by simp [q'])) (fun q' => hb (by simp [q'])) q) hf⟩
  self := fun A i s Q E st h => wpAny_pyIter_zip st.1 h
/-- what is there of a source at a state -/
theorem ZS.begins {X : Cx} {pins : List (Addr × PySem.Obj)} {σ : L2.St} {H : Hp} {s : Shared} (I : Inv X pins σ H s) {p : ZS} {xs : List V} (hp : p.at_ X.K H xs) {u : Value} (r : RelV p.v u) :
    ∃ (o : PySem.Obj) (Hh : Heap → Prop), Begins u o Hh ∧ Hh s.heap ∧ p.lo s.heap.objs.size ∧ ∀ (h : Heap) (it : Addr), h.get? it = some o → p.it h it 0 := by
  cases p with
  | l a =>
    cases r
    obtain ⟨its, rv, pl, hz⟩ := I.list hp
    exact ⟨_, _, begins_list a its.toArray, pl.isList, pl.lt, fun h it e => ⟨_, e, rfl, rfl⟩⟩
  | t a =>
    cases r
    obtain ⟨its, rv, pl, hz⟩ := I.tuple hp
    obtain ⟨o1, ho1, _⟩ := id pl
    exact ⟨_, _, begins_tuple a its.toArray, (show s.heap.IsTuple a its.toArray from pl), Heap.lt_size ho1, fun h it e => ⟨_, e, rfl, rfl⟩⟩
  | s x =>
    obtain ⟨t, rfl⟩ := r
    exact ⟨_, _, begins_text x t, trivial, trivial, fun h it e => ⟨t, _, e, rfl, rfl⟩⟩
theorem pi_zipM {X : Cx} {e e2 : Expr} {ta : TA} {pp pos tpos : Pos} {elts : List Expr} {kk : Nat} (hg : Gl X "zip") (hm : X.mg "zip" = none) (ha : PA X [e, e2] ta)
    (hs : starEach [e, e2] X.env = (false, eval e X.env) :: starEach [e2] X.env) (hpl : (backTo pos (starEach [e2] X.env)).any (·.1) = false) :
    PI X (.Tuple elts kk tpos) (.Call (.Name "zip" pp) [e, e2] [] pos) (fun σ H R => ta σ H fun vs H1 => ∃ p q, vs = [p.v, q.v] ∧ (∃ xs, p.at_ X.K H1 xs) ∧ (∃ ys, q.at_ X.K H1 ys) ∧ R (ItM X.K p q) H1) := by
  refine ⟨fun pins s σ H R I h => ?_⟩
  refine Call_ (ld_blt I hg hm PyProof.Rows.boot_zip (PyProof.Rows.callWith_type1 (thn (ha.run pos pins s σ H _ I h) fun us s1 ⟨vs, H1, I1, r1, q1⟩ => ?_) hs hpl))
  obtain ⟨p, q, ex, ⟨xs, ax⟩, ⟨ys, ay⟩, q1⟩ := q1
  subst ex
  obtain ⟨u, u2, rfl, r, r'⟩ := vals2 r1
  have fresh5 : ∀ c, c ∈ [s1.heap.objs.size + 4, s1.heap.objs.size + 2, s1.heap.objs.size + 3, s1.heap.objs.size, s1.heap.objs.size + 1] → FpOk X pins H1 c := fun c hcm => by
    have e' : c = s1.heap.objs.size + 4 ∨ c = s1.heap.objs.size + 2 ∨ c = s1.heap.objs.size + 3 ∨ c = s1.heap.objs.size ∨ c = s1.heap.objs.size + 1 := by simpa using hcm
    have hle : s1.heap.objs.size ≤ c := by
      rcases e' with z | z | z | z | z <;> rw [z] <;> first | exact Nat.le_refl _ | exact Nat.le_add_right _ _
    exact I1.fpOk hle (I1.hok.fresh hle)
  obtain ⟨o1, Hh1, B1, g1, lo1, it1⟩ := ZS.begins I1 ax r
  obtain ⟨o2, Hh2, B2, g2, lo2, it2⟩ := ZS.begins I1 ay r'
  refine zip_begins2 B1 B2 g1 g2 fun h' hz hTI hTO e1 e2 hsz hk => wpAny_pyIter_zip hz ?_
  have I2 : Inv X pins σ H1 { s1 with heap := h' } := I1.kept (t' := s1.toks) hk
  exact ⟨s1.heap.objs.size + 4, [s1.heap.objs.size + 4, s1.heap.objs.size + 2, s1.heap.objs.size + 3, s1.heap.objs.size, s1.heap.objs.size + 1], _, _, H1, rfl, I2, turn_zipM lo1 lo2, ⟨hz, hTI, ⟨_, _, hTO⟩, it1 _ _ e1, it2 _ _ e2⟩, fresh5, q1⟩

/-! ### enumerate of a list, a tuple, a text -/
theorem meets_enumB1 {v : Value} {o : PySem.Obj} {H : Heap → Prop} (B : Begins v o H) :
    Meets (Builtin.«enumerate.__new__» ⟨[.type "enumerate", v], []⟩) (fun _ R s => H s.heap ∧
      R (.ok (.ret (.ref (s.heap.push o).objs.size))) { s with heap := (s.heap.push o).push { cls := .type "enumerate", data := .fields #[.none, .bool false, .ref s.heap.objs.size, rawInt 0, .none, .none] } }) :=
  .of_wp fun prog w A R s h => by
    obtain ⟨hp, g, d, tk, os⟩ := s; obtain ⟨h1, h⟩ := h
    have hsub := sub_enumerate
    have q1 : ∀ {A' : Around} {E : Value → Shared → Prop} {Q : Value → Shared → Prop}, Q (.ref hp.objs.size) ⟨hp.push o, g, d, tk, os⟩ → wpAny (model prog w) A' (pyIter v) Q E ⟨hp, g, d, tk, os⟩ :=
      fun q => B.iter prog w _ _ ⟨hp, g, d, tk, os⟩ _ h1 q
    wp_walk using q1
    refine wpAny_stack_any fun st => wpAny_pure ?_
    split
    · rename_i c _ _ _ _ _
      cases (c == Value.type "enumerate")
      · wp_walk using q1
        exact ⟨_, rfl, h⟩
      · wp_walk using q1
        exact ⟨_, rfl, h⟩
    · wp_walk using q1
      exact ⟨_, rfl, h⟩
theorem enum_begins1 {prog : Program} {w : World} {A : Around} {E : Value → Shared → Prop} {s : Shared} {v : Value} {o : PySem.Obj} {H : Heap → Prop} {Q : Value → Shared → Prop} (B : Begins v o H) (h1 : H s.heap)
    (h : ∀ h', IsEnum h' (s.heap.objs.size + 1) s.heap.objs.size 0 .none → h'.get? s.heap.objs.size = some o → h'.objs.size = s.heap.objs.size + 2 →
      (∀ b o, s.heap.get? b = some o → h'.get? b = some o) → Q (.ref (s.heap.objs.size + 1)) { s with heap := h' }) :
    wpAny (model prog w) A (PySem.call (.type "enumerate") [v]) Q E s := by
  refine callType_new F.called_enumerate (by decide) (F.typeCall_enumerate_1 _) (F.newCall_enumerate_1 _) (fun obj => F.args_object_init_2 obj _) F.entry_enumerate_new
    (meets_enumB1 B) ⟨h1, ?_⟩
  have hz : (s.heap.push o).objs.size = s.heap.objs.size + 1 := Heap.size_push ..
  show _ ∧ _
  rw [hz]
  have he : IsEnum ((s.heap.push o).push { cls := .type "enumerate", data := .fields #[.none, .bool false, .ref s.heap.objs.size, rawInt 0, .none, .none] }) (s.heap.objs.size + 1) s.heap.objs.size 0 .none := by
    have := Heap.get?_push_size (s.heap.push o) (o := { cls := .type "enumerate", data := .fields #[.none, .bool false, .ref s.heap.objs.size, rawInt 0, .none, .none] }) rfl
    rw [hz] at this; exact this
  refine ⟨⟨_, he, rfl⟩, h _ he (Heap.get?_push_of_some _ (Heap.get?_push_size _ B.free)) (by rw [Heap.size_push, hz]) fun b o x => Heap.get?_push_of_some _ (Heap.get?_push_of_some _ x)⟩
def ItE (K : PySem.W.Frag) (p : ZS) : L2.It :=
  ⟨fun i H => ∃ (xs : List V) (x : V), p.at_ K H xs ∧ xs[i]? = some x,
    fun i H v H' => ∃ T x, v = .ref T ∧ H T = none ∧ H' = upd H T (.tup [.int (i : Int), x]) ∧ ∀ xs, p.at_ K H xs → xs[i]? = some x,
    fun i H => ∃ xs : List V, p.at_ K H xs ∧ i = xs.length⟩
theorem turn_enumM {P : Program} {w : World} {K : PySem.W.Frag} {elts : List Expr} {kk : Nat} {tpos : Pos} {p : ZS} {N : Nat} (hp : p.lo N) :
    Turn P w K (.Tuple elts kk tpos) (ItE K p) [N + 1, N] (N + 1 : Nat) (fun i h => (∃ old, IsEnum h (N + 1 : Nat) N (i : Int) old) ∧ p.it h N i) where
  mem := by simp
  obj := fun i h st c hc => by
    obtain ⟨⟨old, he⟩, h1⟩ := st
    have e' : c = N + 1 ∨ c = N := by simpa using hc
    rcases e' with q | q
    · rw [q]; exact ⟨_, he, fun v q => nomatch q⟩
    · rw [q]; exact ZS.obj h1
  keep := fun i h h' st k => by
    obtain ⟨⟨old, he⟩, h1⟩ := st
    exact ⟨⟨old, k _ (by simp) _ he⟩, ZS.keep h1 fun o q => k _ (by simp) o q⟩
  item := by
    intro X hP hw hK hc i pins s σ H E I hf st hg
    subst hP hw hK
    obtain ⟨⟨old, he⟩, h1⟩ := st
    obtain ⟨xs, x, ax, hx⟩ := hg
    obtain ⟨fp1, P1, St1, lt1, D1, s1, r1, b1⟩ := ZS.draw I (I.ok.hd hc) ax h1 hp (Nat.le_refl _)
    have hel : (N + 1 : Nat) < s.heap.objs.size := Heap.lt_size he
    have ne1 : ((N + 1 : Nat) : Addr) ≠ N := Nat.succ_ne_self N
    have nef : ((N + 1 : Nat) : Addr) ∉ (N :: fp1) := fun z => by
      rcases List.mem_cons.mp z with z | z
      · exact ne1 z
      · have := lt1 _ z
        exact absurd this (Nat.not_lt.mpr (Nat.le_succ N))
    refine wpAny_pyNext_enum_itemD D1 he s1 (List.getElem?_eq_some_iff.mp hx).1 ne1 nef fun u h' tk pu ho t1 hT hsz hk => ?_
    obtain ⟨x', e1, ru⟩ := r1 i u pu
    rw [hx] at e1
    cases e1
    refine ⟨_, rfl, wpAny_letOwnedTupleGo_enum (s := { s with heap := h', toks := tk + 1 }) ho fun h'' z'' sb => ?_⟩
    have hT2 : h''.get? s.heap.objs.size = some { cls := .type "tuple", data := .seq #[.int i tk, u] } := (sb.2 _ (Nat.ne_of_gt hel)).trans hT
    have new : ObjOk X.prog X.w (upd H s.heap.objs.size (.tup [.int (i : Int), x])) h'' s.heap.objs.size (.tup [.int (i : Int), x]) :=
      ⟨by show 2 ≤ sizeLine; decide, [.int i tk, u], .cons ⟨tk, rfl⟩ (.cons ru .nil), ⟨_, hT2, rfl, _, rfl⟩⟩
    have I1 : Inv X pins σ (upd H s.heap.objs.size (.tup [.int (i : Int), x])) { s with heap := h'', toks := tk + 1 } :=
      I.turnedNew (t' := tk + 1) (ch := [N + 1, N]) (fun c o hb q => (sb.2 c (fun q' => hb (by simp [q']))).trans (hk c o (fun q' => hb (by simp [q'])) (fun q' => hb (by simp [q'])) q)) hf (Nat.le_refl _) new
    refine ⟨.ref s.heap.objs.size, _, I1, rfl, ⟨_, x, rfl, I.hok.fresh (Nat.le_refl _), rfl, fun l hl => by rw [ZS.inj I hl ax]; exact hx⟩, ⟨⟨_, z''⟩, ?_⟩, fun c hcm => ?_⟩
    · exact ZS.keep (b1 _ _ t1) fun o q => (sb.2 _ (show (N : Addr) ≠ (N + 1 : Nat) from Ne.symm ne1)).trans q
    · have hlt : c < s.heap.objs.size := by
        have e' : c = N + 1 ∨ c = N := by simpa using hcm
        rcases e' with q | q
        · rw [q]; exact hel
        · rw [q]; exact Nat.lt_of_succ_lt hel
      rw [upd_ne (Nat.ne_of_lt hlt)]
      exact (hf c hcm).1
  done := by
    intro X hP hw hK hc i pins s σ H E I hf st hg
    subst hP hw hK
    obtain ⟨⟨old, he⟩, h1⟩ := st
    obtain ⟨xs, ax, rfl⟩ := hg
    obtain ⟨fp1, P1, St1, lt1, D1, s1, r1, b1⟩ := ZS.draw I (I.ok.hd hc) ax h1 hp (Nat.le_refl _)
    exact wpAny_pyNext_enum_endD D1 he s1 fun h' hk => ⟨rfl, I.turnedL (t' := s.toks) (ch := [N + 1, N]) (fun c o hb q => hk c o (fun q' => hb (by simp [q'])) q) hf⟩
  self := fun A i s Q E st h => by
    obtain ⟨⟨old, he⟩, _⟩ := st
    exact wpAny_pyIter_enum he h
theorem pi_enumM {X : Cx} {e : Expr} {ta : TA} {pp pos tpos : Pos} {elts : List Expr} {kk : Nat} (hg : Gl X "enumerate") (hm : X.mg "enumerate" = none) (ha : PA X [e] ta) (hs : starEach [e] X.env = [(false, eval e X.env)]) :
    PI X (.Tuple elts kk tpos) (.Call (.Name "enumerate" pp) [e] [] pos) (fun σ H R => ta σ H fun vs H1 => ∃ p, vs = [p.v] ∧ (∃ xs, p.at_ X.K H1 xs) ∧ R (ItE X.K p) H1) := by
  refine ⟨fun pins s σ H R I h => ?_⟩
  refine Call_ (ld_blt I hg hm PyProof.Rows.boot_enumerate (PyProof.Rows.callWith_type1 (thn (ha.run pos pins s σ H _ I h) fun us s1 ⟨vs, H1, I1, r1, q1⟩ => ?_) hs rfl))
  obtain ⟨p, ex, ⟨xs, ax⟩, q1⟩ := q1
  subst ex
  obtain ⟨u, rfl, r⟩ := vals1 r1
  obtain ⟨o1, Hh1, B1, g1, lo1, it1⟩ := ZS.begins I1 ax r
  refine enum_begins1 B1 g1 fun h' he e1 hsz hk => wpAny_pyIter_enum he ?_
  have I2 : Inv X pins σ H1 { s1 with heap := h' } := I1.kept (t' := s1.toks) hk
  refine ⟨s1.heap.objs.size + 1, [s1.heap.objs.size + 1, s1.heap.objs.size], _, _, H1, rfl, I2, turn_enumM lo1, ⟨⟨.none, he⟩, it1 _ _ e1⟩, fun b hb => ?_, q1⟩
  have e' : b = s1.heap.objs.size + 1 ∨ b = s1.heap.objs.size := by simpa using hb
  have hle : s1.heap.objs.size ≤ b := by
    rcases e' with z | z
    · rw [z]; exact Nat.le_add_right _ _
    · rw [z]; exact Nat.le_refl _
  exact I1.fpOk hle (I1.hok.fresh hle)
/-- a text, whatever comes: the three kinds that are walked -/
theorem pi_seq3 {X : Cx} {tg l : Expr} {tl : TE} (hl : PE X l tl) : PI X tg l (fun σ H R => tl σ H fun v H1 => (∃ a, v = .ref a ∧ (((∃ xs, SqL X.K H1 a xs) ∧ R (Itl X.K a) H1) ∨ ((∃ xs, SqT X.K H1 a xs) ∧ R (Itt X.K a) H1))) ∨ ∃ x, v = .str x ∧ R (Its x) H1) := by
  constructor
  intro pins s σ H R I h
  refine thn (hl.run pins s σ H _ I h) ?_
  rintro v s1 ⟨x, H1, I1, r1, q⟩
  rcases q with ⟨a, rfl, q⟩ | ⟨y, rfl, q⟩
  · cases r1
    have fresh : ∀ b ∈ [s1.heap.objs.size], FpOk X pins H1 b := fun b hb => by
      have e : b = s1.heap.objs.size := by simpa using hb
      rw [e]
      exact I1.fpOk (Nat.le_refl _) (I1.hok.fresh (Nat.le_refl _))
    have stay : ∀ o : PySem.Obj, Inv X pins σ H1 { s1 with heap := s1.heap.push o } := fun o => I1.kept (t' := s1.toks) fun b u e => Heap.get?_push_of_some _ e
    rcases q with ⟨⟨xs, hq⟩, q⟩ | ⟨⟨xs, hq⟩, q⟩
    · obtain ⟨its, rv, p, hz⟩ := I1.list hq
      exact wpAny_pyIter_list p.isList ⟨_, [s1.heap.objs.size], _, _, H1, rfl, stay _, turn_list a _, ⟨_, Heap.get?_push_size _ rfl, rfl, rfl⟩, fresh, q⟩
    · obtain ⟨its, rv, p, hz⟩ := I1.tuple hq
      exact wpAny_pyIter_tuple (show s1.heap.IsTuple a its.toArray from p) ⟨_, [s1.heap.objs.size], _, _, H1, rfl, stay _, turn_tuple a _, ⟨_, Heap.get?_push_size _ rfl, rfl, rfl⟩, fresh, q⟩
  · obtain ⟨t, rfl⟩ := r1
    cases ha : y.cps.all (· < 128)
    · exact wpAny_pyIter_wide ha (pi_one (tk := s1.toks) I1 _ (turn_str _ y t "str_iterator" (.inr rfl)) ⟨_, Heap.get?_push_size _ rfl, rfl, rfl⟩ q)
    · exact wpAny_pyIter_ascii ha (pi_one (tk := s1.toks) I1 _ (turn_str _ y t "str_ascii_iterator" (.inl rfl)) ⟨_, Heap.get?_push_size _ rfl, rfl, rfl⟩ q)
end NC
/-! What is walked. -/
namespace NC
open PySem PySem.Spec PyProof.Rows L2

/-- an iterator of the layer yields what the small semantics walks -/
structure ItOk (K : PySem.W.Frag) (mg : Str → Option Value) (Tb : TbL) (J : L2.It) (w : Walk) (j0 : Gh) (h0 : Hv) (H0 : Hp) : Prop where
  go : ∀ j h H, Tr Tb j0 h0 H0 j h H → Rl K mg Tb j h H → w.gd.ok h → ∀ (i : Nat) x, w.xs[i]? = some x → J.go i H
  stop : ∀ j h H, Tr Tb j0 h0 H0 j h H → Rl K mg Tb j h H → w.gd.ok h → ∀ i : Nat, w.xs.length = i → J.stop i H
  yld : ∀ j h H, Tr Tb j0 h0 H0 j h H → Rl K mg Tb j h H → w.gd.ok h → ∀ (i : Nat) x, w.xs[i]? = some x → ∀ u H', J.yld i H u H' →
    (H' = H ∨ ∃ T vs, H T = none ∧ H' = upd H T (.tup vs)) ∧ RV K mg j h.os.length H' x u
section
variable {K : PySem.W.Frag} {mg : Str → Option Value} {j0 : Gh} {h0 : Hv} {H0 : Hp}
/-- behind a yield all lies as before -/
theorem yld_tr {Tb : TbL} {j : Gh} {h : Hv} {H H' : Hp} (R : Rl K mg Tb j h H) (q : H' = H ∨ ∃ T vs, H T = none ∧ H' = upd H T (.tup vs)) : Tr Tb j h H j h H' ∧ Rl K mg Tb j h H' := by
  rcases q with rfl | ⟨T, vs, hT, rfl⟩
  · exact ⟨Tr.refl, R⟩
  · exact ⟨Tr.new R hT, R.new hT⟩
theorem itok_list {Tb : TbL} {a : Addr} {ds : List PyData} {vs : List V} (z : ∀ j h H, Tr Tb j0 h0 H0 j h H → SqL K H a vs) (q : RDs K j0.F H0 ds vs) : ItOk K mg Tb (Itl K a) ⟨ds.map PV.d, .no⟩ j0 h0 H0 where
  go := fun j h H t R _ i x e => by
    obtain ⟨v, h1, _⟩ := (RVs.ofD (mg := mg) (n := h0.os.length) q).get e
    exact ⟨vs, v, (z _ _ _ t), h1⟩
  stop := fun j h H t R _ i e => ⟨vs, (z _ _ _ t), by rw [← q.length]; have e' : (ds.map PV.d).length = i := e; simp at e'; omega⟩
  yld := fun j h H t R _ i x e u H' y => by
    obtain ⟨v, h1, r⟩ := (RVs.ofD (mg := mg) (n := h0.os.length) q).get e
    obtain ⟨rfl, y⟩ := y
    have := y vs (z _ _ _ t)
    rw [h1] at this
    cases this
    exact ⟨.inl rfl, r.tr t⟩
theorem itok_tup {Tb : TbL} {a : Addr} {ps : List PV} {vs : List V} (z : SqT K H0 a vs) (q : RVs K mg j0 h0.os.length H0 ps vs) : ItOk K mg Tb (Itt K a) ⟨ps, .no⟩ j0 h0 H0 where
  go := fun j h H t R _ i x e => by
    obtain ⟨v, h1, _⟩ := q.get e
    exact ⟨vs, v, (t.kp.zt z), h1⟩
  stop := fun j h H t R _ i e => ⟨vs, (t.kp.zt z), by rw [← q.length]; exact Nat.le_of_eq e⟩
  yld := fun j h H t R _ i x e u H' y => by
    obtain ⟨v, h1, r⟩ := q.get e
    obtain ⟨rfl, y⟩ := y
    have := y vs (t.kp.zt z)
    rw [h1] at this
    cases this
    exact ⟨.inl rfl, r.tr t⟩
theorem itok_ref {Tb : TbL} {n : Nat} {xs : List PyData} (hn : n < h0.os.length) : ItOk K mg Tb (Itl K (j0.at_ n)) ⟨xs.map PV.d, .obj n (.lst xs)⟩ j0 h0 H0 where
  go := fun j h H t R g i x e => by
    obtain ⟨_, vs, h1, q⟩ := obj_lst R g
    rw [t.ag n hn] at h1
    obtain ⟨v, h2, _⟩ := (RVs.ofD (mg := mg) (n := h.os.length) q).get e
    exact ⟨vs, v, .of h1, h2⟩
  stop := fun j h H t R g i e => by
    obtain ⟨_, vs, h1, q⟩ := obj_lst R g
    rw [t.ag n hn] at h1
    exact ⟨vs, .of h1, by rw [← q.length]; have e' : (xs.map PV.d).length = i := e; simp at e'; omega⟩
  yld := fun j h H t R g i x e u H' y => by
    obtain ⟨_, vs, h1, q⟩ := obj_lst R g
    rw [t.ag n hn] at h1
    obtain ⟨v, h2, r⟩ := (RVs.ofD (mg := mg) (n := h.os.length) q).get e
    obtain ⟨rfl, y⟩ := y
    have := y vs (.of h1)
    rw [h2] at this
    cases this
    exact ⟨.inl rfl, r⟩
theorem itok_range {Tb : TbL} {lo : Int} {n : Nat} : ItOk K mg Tb (Itr lo n) ⟨rngs lo n, .no⟩ j0 h0 H0 where
  go := fun j h H t R _ i x e => by
    have q := (List.getElem?_eq_some_iff.mp e).1
    show i < n
    simpa [rngs] using q
  stop := fun j h H t R _ i e => by
    have e' : (rngs lo n).length = i := e
    show n ≤ i
    simp [rngs] at e'
    omega
  yld := fun j h H t R _ i x e u H' y => by
    obtain ⟨rfl, rfl⟩ := y
    obtain ⟨hl, e2⟩ := List.getElem?_eq_some_iff.mp e
    have : x = .d (.int (lo + (i : Int))) := by rw [← e2]; simp [rngs]
    subst this
    exact ⟨.inl rfl, .d (.int _)⟩
theorem pair_rd {M : Addr → Prop} {H : Hp} {T : Addr} {x y : PyData} {u v : V} (hT : H T = none) (hm : ∀ a, M a → H a ≠ none) (rx : RD K M H x u) (ry : RD K M H y v) : RD K M (upd H T (.tup [u, v])) (.tuple [x, y]) (.ref T) :=
  .tup (.of upd_same) (.cons (RD.mono (Kp.new hT hm) _ _ rx) (.cons (RD.mono (Kp.new hT hm) _ _ ry) .nil))
theorem zip_get {xs ys : List PyData} {i : Nat} {x : PV} (e : ((xs.zip ys).map fun p => PV.d (.tuple [p.1, p.2]))[i]? = some x) : ∃ a b, xs[i]? = some a ∧ ys[i]? = some b ∧ x = .d (.tuple [a, b]) := by
  rw [List.getElem?_map] at e
  obtain ⟨p, h1, h2⟩ := Option.map_eq_some_iff.mp e
  obtain ⟨h3, h4⟩ := List.getElem?_zip_eq_some.mp h1
  exact ⟨_, _, h3, h4, h2.symm⟩
theorem itok_rngD {Tb : TbL} {hi : Int} {n : Nat} : ItOk K mg Tb (Itc hi (-1) n) ⟨rngD hi n, .no⟩ j0 h0 H0 where
  go := fun j h H t R _ i x e => by
    have q := (List.getElem?_eq_some_iff.mp e).1
    show i < n
    simpa [rngD] using q
  stop := fun j h H t R _ i e => by
    have e' : (rngD hi n).length = i := e
    show n ≤ i
    simp [rngD] at e'
    omega
  yld := fun j h H t R _ i x e u H' y => by
    obtain ⟨rfl, rfl⟩ := y
    obtain ⟨hl, e2⟩ := List.getElem?_eq_some_iff.mp e
    have : x = .d (.int (hi + (i : Int) * (-1))) := by rw [← e2]; simp [rngD]
    subst this
    exact ⟨.inl rfl, .d (.int _)⟩
theorem itok_str {Tb : TbL} {x : Str} : ItOk K mg Tb (Its x) ⟨(signD x).map PV.d, .no⟩ j0 h0 H0 where
  go := fun j h H t R _ i y e => by
    have q := (List.getElem?_eq_some_iff.mp e).1
    show i < x.cps.size
    simpa [signD] using q
  stop := fun j h H t R _ i e => by
    have e' : ((signD x).map PV.d).length = i := e
    show x.cps.size ≤ i
    simp [signD] at e'
    omega
  yld := fun j h H t R _ i y e u H' yy => by
    obtain ⟨rfl, c, hc, rfl⟩ := yy
    have : y = .d (.str ⟨#[c]⟩) := by
      simp [signD, hc] at e
      exact e.symm
    subst this
    exact ⟨.inl rfl, .d (.str _)⟩
/-- what zip and enumerate take, as the layer takes it -/
theorem zs_of {Tb : TbL} {p : PV} {v : V} {ds : List PyData} (R : Rl K mg Tb j0 h0 H0) (rv : RV K mg j0 h0.os.length H0 p v) (e : zsrc p = some ds) :
    ∃ (s : ZS) (vs : List V), v = s.v ∧ s.at_ K H0 vs ∧ RDs K j0.F H0 ds vs ∧ ∀ j h H, Tr Tb j0 h0 H0 j h H → s.at_ K H vs := by
  unfold zsrc at e
  split at e
  · cases e; cases rv with | d rv => cases rv with | lst z m q => exact ⟨.l _, _, rfl, .of z, q, fun j h H t => .of ((t.kp.fix _ m).2.trans z)⟩
  · cases e; cases rv with | d rv => cases rv with | tup z q => exact ⟨.t _, _, rfl, z, q, fun j h H t => t.kp.zt z⟩
  · cases e
    rename_i x
    cases rv with | d rv => cases rv with | str _ =>
    refine ⟨.s x, signs x, rfl, rfl, ?_, fun _ _ _ _ => rfl⟩
    unfold signD signs
    generalize x.cps.toList = l
    induction l with
    | nil => exact .nil
    | cons c l ih => exact .cons (.str _) ih
  · cases e; cases rv with | scr z q => exact ⟨.l _, _, rfl, z.sq, q, fun j h H t => (t.kp.zl z).sq⟩
  · cases e
theorem itok_zipM {Tb : TbL} {p q : ZS} {xs ys : List PyData} {us vs : List V} (z1 : ∀ j h H, Tr Tb j0 h0 H0 j h H → p.at_ K H us) (z2 : ∀ j h H, Tr Tb j0 h0 H0 j h H → q.at_ K H vs)
    (q1 : RDs K j0.F H0 xs us) (q2 : RDs K j0.F H0 ys vs) : ItOk K mg Tb (ItM K p q) ⟨(xs.zip ys).map fun p => .d (.tuple [p.1, p.2]), .no⟩ j0 h0 H0 where
  go := fun j h H t R _ i x e => by
    obtain ⟨x1, y1, h1, h2, _⟩ := zip_get e
    obtain ⟨u, h3, _⟩ := q1.get h1
    obtain ⟨v, h4, _⟩ := q2.get h2
    exact ⟨us, vs, u, v, z1 _ _ _ t, z2 _ _ _ t, h3, h4⟩
  stop := fun j h H t R _ i e => by
    have e' : ((xs.zip ys).map fun p => PV.d (.tuple [p.1, p.2])).length = i := e
    rw [List.length_map, List.length_zip] at e'
    exact ⟨us, vs, z1 _ _ _ t, z2 _ _ _ t, by rw [← q1.length]; omega, by rw [← q2.length]; omega, by rw [← q1.length, ← q2.length]; omega⟩
  yld := fun j h H t R _ i x e u H' y => by
    obtain ⟨x1, y1, h1, h2, rfl⟩ := zip_get e
    obtain ⟨u1, h3, r1⟩ := q1.get h1
    obtain ⟨v1, h4, r2⟩ := q2.get h2
    obtain ⟨T, u2, v2, rfl, hT, rfl, k1, k2⟩ := y
    have e1 := k1 us (z1 _ _ _ t)
    have e2 := k2 vs (z2 _ _ _ t)
    rw [h3] at e1; cases e1
    rw [h4] at e2; cases e2
    exact ⟨.inr ⟨T, _, hT, rfl⟩, .d (pair_rd hT (fun a m => (R.fd a m).1) (RD.mono t.kp _ _ r1) (RD.mono t.kp _ _ r2))⟩
theorem enum_get {xs : List PyData} {i : Nat} {x : PV} (e : (xs.zipIdx.map fun p => PV.d (.tuple [.int (p.2 : Nat), p.1]))[i]? = some x) : ∃ a, xs[i]? = some a ∧ x = .d (.tuple [.int (i : Nat), a]) := by
  rw [List.getElem?_map] at e
  obtain ⟨p, h1, h2⟩ := Option.map_eq_some_iff.mp e
  rw [List.getElem?_zipIdx] at h1
  obtain ⟨a, h3, h4⟩ := Option.map_eq_some_iff.mp h1
  subst h4
  exact ⟨a, h3, by rw [← h2]; simp⟩
theorem itok_enumM {Tb : TbL} {p : ZS} {xs : List PyData} {us : List V} (z1 : ∀ j h H, Tr Tb j0 h0 H0 j h H → p.at_ K H us) (q1 : RDs K j0.F H0 xs us) :
    ItOk K mg Tb (ItE K p) ⟨xs.zipIdx.map fun p => .d (.tuple [.int (p.2 : Nat), p.1]), .no⟩ j0 h0 H0 where
  go := fun j h H t R _ i x e => by
    obtain ⟨x1, h1, _⟩ := enum_get e
    obtain ⟨u, h3, _⟩ := q1.get h1
    exact ⟨us, u, z1 _ _ _ t, h3⟩
  stop := fun j h H t R _ i e => ⟨us, z1 _ _ _ t, by
    rw [← q1.length]
    have e' : (xs.zipIdx.map fun p => PV.d (.tuple [.int (p.2 : Nat), p.1])).length = i := e
    simp at e'
    exact e'.symm⟩
  yld := fun j h H t R _ i x e u H' y => by
    obtain ⟨x1, h1, rfl⟩ := enum_get e
    obtain ⟨u1, h3, r1⟩ := q1.get h1
    obtain ⟨T, u2, rfl, hT, rfl, k1⟩ := y
    have e1 := k1 us (z1 _ _ _ t)
    rw [h3] at e1; cases e1
    exact ⟨.inr ⟨T, _, hT, rfl⟩, .d (pair_rd hT (fun a m => (R.fd a m).1) (.int _) (RD.mono t.kp _ _ r1))⟩
end

/-- the reading of what is walked -/
def tI (K : PySem.W.Frag) (mg : Str → Option Value) (Tb : TbL) (W : WX) (x : NC.Env → Hv → Res Walk) : TI := fun σ H R => At K mg Tb σ H fun j e h =>
  Pst K mg Tb j h H (x e h) (fun w j1 h1 H1 => ∀ J, ItOk K mg Tb J w j1 h1 H1 → R J H1) fun c d H' => W c d σ H'
end NC
/-! Calls, the situation of a body, expressions. -/
namespace NC
open PySem PySem.Spec PyProof.Rows L2

/-- a def keeps a promise (where nothing is being shown) -/
structure FnG (P : Program) (w : World) (K : PySem.W.Frag) (mg : Str → Option Value) (base : Heap) (k : Nat) (f : Addr) (fd : FuncData) (ps : List Str) (sp : Sp) : Prop where
  len : ∀ vs H Q E, sp vs H Q E → vs.length = ps.length
  run : ∀ (A : Around) (outer : List PySem.Env) (s : Shared) (H : Hp) (args : Args) (us : List Value) (vs : List V) (Q : VK) (E : XK), Room k A → A.guards = some [] → Env0 P w K mg base A outer s H →
    BindsTo s fd args (ps.zip us) → Vals vs us → sp vs H Q E → codeAny (model P w) A (.call (.ref f) args) (CR (L2.CX P w) outer P w H s Q E) s
/-- what a def of the small semantics promises -/
def spF (K : PySem.W.Frag) (mg : Str → Option Value) (Tb : TbL) (C : Fns) (x : Str) : Sp := fun vs H Q E => ∃ j h args, Rl K mg Tb j h H ∧ RVs K mg j h.os.length H args vs ∧ Pst K mg Tb j h H (C x args h) (okV K mg Q) E
/-- the entries of a dict of the module: texts -/
def EKs : List DictEntry → List (Str × Str) → Prop
  | [], [] => True
  | e :: r, (k, y) :: s => (∃ t, e.key = .str k t) ∧ (∃ t, e.val = .str y t) ∧ EKs r s
  | _, _ => False
theorem EKs.find (x : Str) : ∀ {es : List DictEntry} {kvs : List (Str × Str)}, EKs es kvs → (getS kvs x = none ∧ es.find? (·.key.isStr x) = none) ∨ ∃ y e t, getS kvs x = some y ∧ es.find? (·.key.isStr x) = some e ∧ e.val = .str y t
  | [], [], _ => .inl ⟨rfl, rfl⟩
  | e :: r, (k, y) :: s, ⟨⟨t, h1⟩, ⟨t', h2⟩, h3⟩ => by
    by_cases q : k = x
    · subst q
      exact .inr ⟨y, e, t', by simp [getS, List.find?_cons], by simp [List.find?_cons, h1, Value.isStr], h2⟩
    · have g1 : getS ((k, y) :: s) x = getS s x := by simp [getS, List.find?_cons, q]
      have g2 : (e :: r).find? (·.key.isStr x) = r.find? (·.key.isStr x) := by
        have : e.key.isStr x = false := by rw [h1]; simp [Value.isStr, q]
        rw [List.find?_cons, this]
      rw [g1, g2]
      exact EKs.find x h3
  | [], _ :: _, z => z.elim
  | _ :: _, [], z => z.elim
theorem EKs.noRef : ∀ {es : List DictEntry} {kvs : List (Str × Str)}, EKs es kvs → es.any (·.refKey) = false
  | [], [], _ => rfl
  | e :: r, (k, y) :: s, ⟨⟨t, h1⟩, _, h3⟩ => by
    rw [List.any_cons, EKs.noRef h3, Bool.or_false]
    simp [DictEntry.refKey, h1]
  | [], _ :: _, z => z.elim
  | _ :: _, [], z => z.elim
theorem EKs.ns {K : PySem.W.Frag} {a : Addr} {es : Array DictEntry} {n : Nat} {kvs : List (Str × Str)} (hl : K.lookup a = some ⟨.type "dict", none, .dict es n, #[]⟩) (E : EKs es.toList kvs) (x : Str) : (getS kvs x = none ∧ PySem.W.nsIn K a x = some none) ∨ ∃ y t, getS kvs x = some y ∧ PySem.W.nsIn K a x = some (some (.str y t)) := by
  unfold PySem.W.nsIn
  rw [hl]
  dsimp only
  rcases E.find x with ⟨g, f⟩ | ⟨y, e, t, g, f, v⟩
  · rw [f]
    dsimp only
    rw [E.noRef]
    exact .inl ⟨g, rfl⟩
  · rw [f]
    exact .inr ⟨y, t, g, by show some (some e.val) = _; rw [v]⟩
/-- the built-in names that are met -/
def blts : List Str := ["abs", "len", "int", "repr", "all", "any", "tuple", "list", "range", "zip", "enumerate", "isinstance", "bool", "str", "dict", "sum", "max", "min", "sorted", "set"]
/-- an own exception class without own __init__ -/
def ExOk (K : PySem.W.Frag) (mg : Str → Option Value) (x : Str) : Prop := ∃ C bmB B newId initId, ExcBaseFacts B newId initId bmB ∧ PySem.W.excIn K C bmB newId = true ∧ mg x = some (.ref C) ∧ PySem.W.keepIn K (.ref C) = true ∧
  PySem.W.subIn K (.ref C) (.type "BaseException") = some true ∧ PySem.W.typeIn K (.ref C) = some (.type "type")
theorem scope_by {N P : List Str} {sc : Scope} (h : scB N P sc = true) : FnScope N P sc := by
  unfold scB at h
  simp only [Bool.and_eq_true] at h
  obtain ⟨⟨⟨⟨⟨⟨a, b⟩, c⟩, d⟩, e⟩, f⟩, g⟩ := h
  exact ⟨of_decide_eq_true a, by simpa using b, by simpa using c, of_decide_eq_true d, of_decide_eq_true e, fun x hx => loc_of (List.all_eq_true.mp f x hx), fun y hy => by simpa using List.all_eq_true.mp g y hy⟩
/-- the tables of code objects that a body writes -/
def LamC (X : Cx) (Tb : TbL) : Prop := ∃ c P, LamX.TabB X.base X.mg c P ∧ X.env.code = .ref c ∧ (P, X.env.qual ++ "<lambda>") ∈ Tb ∧ ∀ p ∈ Tb, p.1 = P → p.2 = X.env.qual ++ "<lambda>"
/-- a def that says what its argument raises -/
def SdF (K : PySem.W.Frag) (mg : Str → Option Value) (p : Sdt) : Prop := ∃ g fd st, mg p.x = some (.ref g) ∧ PySem.W.keepIn K (.ref g) = true ∧ Binds K fd ["call"] [] ∧ Fun K p.x p.x st g fd ∧ saidB p (defScope st) (defBody st) = true ∧
  (∀ b ∈ p.hs, ∃ B, mg b.1 = some (.ref B)) ∧ ∀ a ∈ p.rs, ∀ b ∈ p.hs, ∀ A B, mg a = some (.ref A) → mg b.1 = some (.ref B) → PySem.W.exmOne K (.ref A) (.ref B) = some (decide (a = b.1))
/-- the situation of a body: D the defs, Dx the exceptions that may be raised -/
structure Ctx (X : Cx) (W : WX) (D : Nm) (G : Gls) (C : Fns) (Tb : TbL) : Prop where
  calm : X.calm = true
  nd : X.N.Nodup
  roomy : Roomy X.A
  tk : Takes X W
  pass : PassesOwn (model X.prog X.w) X.A X.env X.xe
  blt : ∀ x ∈ blts, X.mg x = none
  gls : ∀ x v, G x = some v → ∃ u cv, X.mg x = some u ∧ RelV cv u ∧ ∀ j n H, RV X.K X.mg j n H v cv
  exs : ∀ x ∈ D.exs, ExOk X.K X.mg x
  fns : ∀ x ∈ D.fns, ∃ f fd ps k, X.mg x = some (.ref f) ∧ PySem.W.keepIn X.K (.ref f) = true ∧ Binds X.K fd ps [] ∧ Room k X.A ∧ FnG X.prog X.w X.K X.mg X.base k f fd ps (spF X.K X.mg Tb C x)
  mks : ∀ p ∈ D.mks, ∃ Cc f fd ps k, X.mg p.1 = some (.ref Cc) ∧ Mk X.K Cc f ∧ Binds X.K fd ps [] ∧ Room (k + 1) X.A ∧ FnG X.prog X.w X.K X.mg X.base k f fd ps (spF X.K X.mg Tb C p.2)
  mts : ∀ p ∈ D.mts, ∃ Cc f fd ps k, X.mg p.1 = some (.ref Cc) ∧ Cls X.K Cc ∧ Meth X.K Cc p.2.1 f ∧ Binds X.K fd ps [] ∧ Room k X.A ∧ FnG X.prog X.w X.K X.mg X.base k f fd ps (spF X.K X.mg Tb C p.2.2)
  fld : ∀ p ∈ D.fld, ∃ Cc, X.mg p.1 = some (.ref Cc) ∧ Cls X.K Cc ∧ NoAttr X.K Cc p.2
  kds : ∀ p ∈ D.kds, ∃ a es n, X.mg p.1 = some (.ref a) ∧ KDict X.K X.w a es n ∧ EKs es.toList p.2
  gcs : ∀ p ∈ D.gcs, ∃ u cv, X.mg p.1 = some u ∧ RelV cv u ∧ ∀ F H, RD X.K F H p.2 cv
  sds : ∀ p ∈ D.sds, SdF X.K X.mg p
  lam : D.inl = true → LamC X Tb
  low : D.inl = true → ∃ n, Room (n + 2) X.A ∧ (∀ x ∈ D.lo.fns, ∃ f fd ps k, X.mg x = some (.ref f) ∧ PySem.W.keepIn X.K (.ref f) = true ∧ Binds X.K fd ps [] ∧ k ≤ n ∧ FnG X.prog X.w X.K X.mg X.base k f fd ps (spF X.K X.mg Tb C x)) ∧
    (∀ p ∈ D.mks, ∃ Cc f fd ps k, X.mg p.1 = some (.ref Cc) ∧ Mk X.K Cc f ∧ Binds X.K fd ps [] ∧ k + 1 ≤ n ∧ FnG X.prog X.w X.K X.mg X.base k f fd ps (spF X.K X.mg Tb C p.2)) ∧
    ∀ p ∈ D.mts, ∃ Cc f fd ps k, X.mg p.1 = some (.ref Cc) ∧ Cls X.K Cc ∧ Meth X.K Cc p.2.1 f ∧ Binds X.K fd ps [] ∧ k ≤ n ∧ FnG X.prog X.w X.K X.mg X.base k f fd ps (spF X.K X.mg Tb C p.2.2)
theorem back_plain {D : Nm} {sc : Scope} {N : List Str} (env : PySem.Env) (pos : Pos) : ∀ {as : List E} {es : List Expr}, chkEs D sc N as es = true → (backTo pos (starEach es env)).any (·.1) = false
  | [], [], _ => rfl
  | a :: as, e :: es, h => by
    unfold chkEs at h
    rw [Bool.and_eq_true] at h
    rw [star_cons (chk_ns h.1)]
    have := back_plain env pos h.2
    show (false || _) = false
    rw [Bool.false_or]
    exact this
  | [], _ :: _, h => by simp [chkEs] at h
  | _ :: _, [], h => by simp [chkEs] at h
section
variable {X : Cx} {W : WX} {D : Nm} {G : Gls} {C : Fns}
theorem run_fnG {k : Nat} {f : Addr} {fd : FuncData} {ps : List Str} {sp : Sp} {pins : List (Addr × PySem.Obj)} {σ : L2.St} {H : Hp} {s : Shared} {Q : VK} {us : List Value} {vs : List V} (F : FnG X.prog X.w X.K X.mg X.base k f fd ps sp) (hr : Room k X.A) (hg : X.A.guards = some [])
    (hb : Binds X.K fd ps []) (tk : Takes X W) (I : Inv X pins σ H s) (r : Vals vs us) (h : sp vs H Q fun c d H' => W c d σ H') : wpAny (model X.prog X.w) X.A (PySem.call (.ref f) us) (EP X pins σ Q) X.xe s := by
  have hl : (us ++ []).length = ps.length := by rw [List.append_nil, ← r.length]; exact F.len _ _ _ _ h
  have b := hb s us I.kIn hl
  rw [List.append_nil] at b
  refine wpAny_call (codeAny_mono (F.run X.A X.stack s H ⟨us, []⟩ us vs Q _ hr hg I.env0 b r h) ?_)
  rintro (e | fl) s' hq
  · exact passAt tk σ pins H s e s' I hq
  · cases fl <;> first | exact I.after hq | exact False.elim hq
/-- f(..), f a def of the module -/
theorem pe_callG0 {Tb : TbL} (c : Ctx X W D G C Tb) {x : Str} {p pos : Pos} (hx : x ∈ D.fns) (hg : Gl X x) (ho : okName x = true) :
    PE X (.Call (.Name x p) [] [] pos) fun σ H Q => spF X.K X.mg Tb C x [] H Q fun cl d H' => W cl d σ H' := by
  obtain ⟨f, fd, ps, k, hm, hk, hb, hr, F⟩ := c.fns x hx
  constructor
  intro pins s σ H Q I h
  refine wpAny_Call_Name_kw (ld_glob I hg hm ?_ (okn ho).1)
  exact PySem.W.callWith_K0 I.kIn hk (run_fnG (us := []) F hr c.roomy.gd hb c.tk I .nil h)
theorem pe_callG {Tb : TbL} (c : Ctx X W D G C Tb) {x : Str} {p pos : Pos} {a : E} {as : List E} {e : Expr} {es : List Expr} {sc : Scope} {ta : TA} (hx : x ∈ D.fns) (hg : Gl X x) (ho : okName x = true) (hs : chkEs D sc X.N (a :: as) (e :: es) = true) (ha : PA X (e :: es) ta) :
    PE X (.Call (.Name x p) (e :: es) [] pos) fun σ H Q => ta σ H fun vs H1 => spF X.K X.mg Tb C x vs H1 Q fun cl d H' => W cl d σ H' := by
  obtain ⟨f, fd, ps, k, hm, hk, hb, hr, F⟩ := c.fns x hx
  unfold chkEs at hs
  rw [Bool.and_eq_true] at hs
  constructor
  intro pins s σ H Q I h
  refine wpAny_Call_Name_kw (ld_glob I hg hm ?_ (okn ho).1)
  refine PySem.W.callWith_K (h₀ := X.base) I.ok.mod.kin hk (thn (ha.run pos pins s σ H _ I h) ?_) (star_cons (chk_ns hs.1)) (back_plain _ _ hs.2)
  rintro us s1 ⟨vs, H1, I1, r, q⟩
  exact ⟨I1.kIn, run_fnG F hr c.roomy.gd hb c.tk I1 r q⟩
theorem base_ok {o : Expr} {f : Str} {env : PySem.Env} (h : okBase o = true) : attributeBase o f env (eval o env) = eval o env := by
  unfold attributeBase
  split
  · rename_i id p pos
    have hid : (id != ("super" : Str)) = true := by simpa [okBase] using h
    rw [hid]
    rfl
  · rfl
theorem guards_make {A : Around} {C : Addr} {us : List Value} {kw : List (Str × Value)} (h : A.guards = some []) : (A.under (.builtin "type.__call__" ⟨.ref C :: us, kw⟩)).guards = some [] := by
  first | exact h | (simpa [Around.under, Code.isGuard, guardIds] using h)
theorem run_makeG {k : Nat} {Cc f : Addr} {fd : FuncData} {ps : List Str} {sp : Sp} {pins : List (Addr × PySem.Obj)} {σ : L2.St} {H : Hp} {s : Shared} {Q : VK} {us : List Value} {vs : List V} (M : Mk X.K Cc f) (F : FnG X.prog X.w X.K X.mg X.base k f fd ps sp) (hr : Room (k + 1) X.A) (hg : X.A.guards = some [])
    (hb : Binds X.K fd ps []) (tk : Takes X W) (I : Inv X pins σ H s) (r : Vals vs us)
    (h : ∀ x dx, H x = none → H dx = none → dx ≠ x → sp (.ref x :: vs) (upd (upd H dx (.own x)) x (.ins Cc dx [])) (fun v H2 => v = .non ∧ Q (.ref x) H2) fun c d H' => W c d σ H') :
    wpAny (model X.prog X.w) X.A (PySem.call (.ref Cc) us) (EP X pins σ Q) X.xe s := by
  have hq := h (s.heap.objs.size + 1) s.heap.objs.size (I.hok.fresh (Nat.le_succ _)) (I.hok.fresh (Nat.le_refl _)) (Nat.ne_of_lt (Nat.lt_succ_self _))
  have I2 := Inv.made (C := Cc) I
  have r2 : Vals (V.ref (s.heap.objs.size + 1) :: vs) (Value.ref (s.heap.objs.size + 1) :: us) := .cons rfl r
  have hl : ((Value.ref (s.heap.objs.size + 1) :: us) ++ []).length = ps.length := by
    have e := r2.length
    rw [F.len _ _ _ _ hq] at e
    rw [List.append_nil]
    exact e.symm
  have b := hb _ (Value.ref (s.heap.objs.size + 1) :: us) I2.kIn hl
  rw [List.append_nil] at b
  refine wpAny_call (make_map (f := f) I.kIn M.makes M.init (beq_iff_eq.mp M.fn) (codeAny_mono (F.run _ X.stack _ _ ⟨Value.ref (s.heap.objs.size + 1) :: us, []⟩ (Value.ref (s.heap.objs.size + 1) :: us) _ _ _ (hr.make Cc us [])
    (guards_make hg) (I2.env0.make Cc us []) b r2 hq) fun r s' hq' => ?_))
  cases r with
  | error e => exact passAt tk σ pins _ _ e s' I2 hq'
  | ok fl =>
    cases fl with
    | ret u =>
      obtain ⟨v, H', I3, rv, ev, q3⟩ := I2.after hq'
      subst ev
      exact ⟨rv, ⟨V.ref (s.heap.objs.size + 1), H', I3, rfl, q3⟩⟩
    | next => exact False.elim hq'
    | brk => exact False.elim hq'
    | cont => exact False.elim hq'
/-- C(..) -/
theorem pe_makeG0 {k : Nat} {Cc f : Addr} {fd : FuncData} {ps : List Str} {sp : Sp} {x : Str} {p pos : Pos} (M : Mk X.K Cc f) (F : FnG X.prog X.w X.K X.mg X.base k f fd ps sp) (hr : Room (k + 1) X.A) (hgd : X.A.guards = some []) (hb : Binds X.K fd ps []) (tk : Takes X W) (hg : Gl X x) (ho : okName x = true) (hm : X.mg x = some (.ref Cc)) :
    PE X (.Call (.Name x p) [] [] pos) fun σ H Q => ∀ x dx, H x = none → H dx = none → dx ≠ x → sp [.ref x] (upd (upd H dx (.own x)) x (.ins Cc dx [])) (fun v H2 => v = .non ∧ Q (.ref x) H2) fun c d H' => W c d σ H' := by
  constructor
  intro pins s σ H Q I h
  refine wpAny_Call_Name_kw (ld_glob I hg hm ?_ (okn ho).1)
  exact PySem.W.callWith_K0 I.kIn M.kp (run_makeG (us := []) M F hr hgd hb tk I .nil h)
theorem pe_makeG {k : Nat} {Cc f : Addr} {fd : FuncData} {ps : List Str} {sp : Sp} {x : Str} {p pos : Pos} {a : E} {as : List E} {e : Expr} {es : List Expr} {sc : Scope} {ta : TA} (M : Mk X.K Cc f) (F : FnG X.prog X.w X.K X.mg X.base k f fd ps sp) (hr : Room (k + 1) X.A) (hgd : X.A.guards = some []) (hb : Binds X.K fd ps []) (tk : Takes X W) (hg : Gl X x) (ho : okName x = true) (hm : X.mg x = some (.ref Cc))
    (hs : chkEs D sc X.N (a :: as) (e :: es) = true) (ha : PA X (e :: es) ta) :
    PE X (.Call (.Name x p) (e :: es) [] pos) fun σ H Q => ta σ H fun vs H1 => ∀ x dx, H1 x = none → H1 dx = none → dx ≠ x → sp (.ref x :: vs) (upd (upd H1 dx (.own x)) x (.ins Cc dx [])) (fun v H2 => v = .non ∧ Q (.ref x) H2) fun c d H' => W c d σ H' := by
  unfold chkEs at hs
  rw [Bool.and_eq_true] at hs
  constructor
  intro pins s σ H Q I h
  refine wpAny_Call_Name_kw (ld_glob I hg hm ?_ (okn ho).1)
  refine PySem.W.callWith_K (h₀ := X.base) I.ok.mod.kin M.kp (thn (ha.run pos pins s σ H _ I h) ?_) (star_cons (chk_ns hs.1)) (back_plain _ _ hs.2)
  rintro us s1 ⟨vs, H1, I1, r, q⟩
  exact ⟨I1.kIn, run_makeG M F hr hgd hb tk I1 r q⟩
/-- the text of a method call -/
theorem methText {o : Expr} {m : Str} {apos pos : Pos} {env : PySem.Env} {as : List E} {args : List Expr} {sc : Scope} {N : List Str} (hb : okBase o = true) (hl : (apos.endLine == pos.line) = true) (hs : chkEs D sc N as args = true) (hn : args.length < 29) :
    eval (.Call (.Attribute o m apos) args [] pos) env = (do
      let ov ← eval o env
      standAt apos.atName
      let (f, first) ← holding [ov] (getMethod ov m (do return (← importBound o env).getD true))
      callWith pos f first (backTo pos (starEach args env)) (backToKw pos (keywordEach [] env))) := by
  have few : methodCallForm (args.length + ([] : List Keyword).length) (backTo pos (starEach args env)) (backToKw pos (keywordEach [] env)) = true := by
    have h1 := back_plain env pos hs
    unfold methodCallForm
    have h2 : (backTo pos (starEach args env)).all (fun x => !x.1) = true := by
      rw [List.all_eq_true]
      intro x hx
      have := List.any_eq_false.mp h1 x hx
      simpa using this
    rw [h2]
    simp [keywordEach, backToKw]
    omega
  have lhs : eval (.Call (.Attribute o m apos) args [] pos) env = (do
      let ov ← attributeBase o m env (eval o env)
      standAt apos.atName
      methodCall o m apos pos env ov (args.length + ([] : List Keyword).length) (backTo pos (starEach args env)) (backToKw pos (keywordEach [] env))) := rfl
  rw [lhs, base_ok hb]
  unfold methodCall methodCallPos calleeOf
  simp only [few, hl, Bool.not_true, Bool.false_or, if_true]
  rfl
/-- o.m(..) -/
theorem pe_methG0 {k : Nat} {Cc f : Addr} {fd : FuncData} {ps : List Str} {sp : Sp} {m : Str} {o : Expr} {ta : TE} {apos pos : Pos} (he : PE X o ta) (c : Cls X.K Cc) (hm : Meth X.K Cc m f) (F : FnG X.prog X.w X.K X.mg X.base k f fd ps sp) (hr : Room k X.A) (hgd : X.A.guards = some []) (hb : Binds X.K fd ps []) (tk : Takes X W)
    (h1 : okBase o = true) (h2 : (apos.endLine == pos.line) = true) :
    PE X (.Call (.Attribute o m apos) [] [] pos) fun σ H Q => ta σ H fun x H1 => ∃ a dx fs, x = .ref a ∧ H1 a = some (.ins Cc dx fs) ∧ fs.lookup m = none ∧ sp [x] H1 Q fun c d H' => W c d σ H' := by
  constructor
  intro pins s σ H Q I h
  refine PySem.W.methodCall_KW (thn (he.run pins s σ H _ I h) ?_) (methText (D := {}) (sc := X.env.scope) (N := X.N) (as := []) h1 h2 rfl (by decide))
  rintro u s1 ⟨x, H1, I1, rx, a, dx, fs, ex, ea, l, q⟩
  subst ex
  obtain rfl : u = Value.ref a := rx
  refine getmeth_ok I1 ea c hm l ?_
  exact PySem.W.callWith_K0 (first := [.ref a]) I1.kIn hm.kp (run_fnG (us := [.ref a]) (vs := [.ref a]) F hr hgd hb tk I1 (.cons rfl .nil) q)
theorem pe_methG {k : Nat} {Cc f : Addr} {fd : FuncData} {ps : List Str} {sp : Sp} {m : Str} {o : Expr} {ta : TE} {apos pos : Pos} {a : E} {as : List E} {e : Expr} {es : List Expr} {t : TA} (he : PE X o ta) (c : Cls X.K Cc) (hm : Meth X.K Cc m f) (F : FnG X.prog X.w X.K X.mg X.base k f fd ps sp) (hr : Room k X.A) (hgd : X.A.guards = some []) (hb : Binds X.K fd ps []) (tk : Takes X W)
    (h1 : okBase o = true) (h2 : (apos.endLine == pos.line) = true) (hs : chkEs D X.env.scope X.N (a :: as) (e :: es) = true) (hn : (e :: es).length < 29) (ha : PA X (e :: es) t) :
    PE X (.Call (.Attribute o m apos) (e :: es) [] pos) fun σ H Q => ta σ H fun x H1 => ∃ a dx fs, x = .ref a ∧ H1 a = some (.ins Cc dx fs) ∧ fs.lookup m = none ∧ t σ H1 fun vs H2 => sp (x :: vs) H2 Q fun c d H' => W c d σ H' := by
  constructor
  intro pins s σ H Q I h
  refine PySem.W.methodCall_KW (thn (he.run pins s σ H _ I h) ?_) (methText h1 h2 hs hn)
  rintro u s1 ⟨x, H1, I1, rx, ad, dx, fs, ex, ea, l, q⟩
  subst ex
  obtain rfl : u = Value.ref ad := rx
  refine getmeth_ok I1 ea c hm l ?_
  unfold chkEs at hs
  rw [Bool.and_eq_true] at hs
  refine PySem.W.callWith_K (first := [.ref ad]) (h₀ := X.base) I.ok.mod.kin hm.kp (thn (ha.run pos pins s1 σ H1 _ I1 q) ?_) (star_cons (chk_ns hs.1)) (back_plain _ _ hs.2)
  rintro us s2 ⟨vs, H2, I2, r, q2⟩
  exact ⟨I2.kIn, run_fnG (us := .ref ad :: us) (vs := .ref ad :: vs) F hr hgd hb tk I2 (.cons rfl r) q2⟩
/-- the situation of a comprehension's block -/
theorem Ctx.blk {Tb : TbL} (c : Ctx X W D G C Tb) (s : Shared) (H : Hp) (scope : Scope) (cl : List (Str × Addr)) (Ca : Addr) (fp : List Addr) : Ctx (X.blk s H scope (compEnvC scope cl Ca X.env) fp) (fun _ _ _ _ => False) D G C Tb :=
  ⟨c.calm, c.nd, c.roomy, takes0, .never, c.blt, c.gls, c.exs, c.fns, c.mks, c.mts, c.fld, c.kds, c.gcs, c.sds, c.lam, c.low⟩
theorem blk_scope (s : Shared) (H : Hp) (scope : Scope) (cl : List (Str × Addr)) (Ca : Addr) (fp : List Addr) : (X.blk s H scope (compEnvC scope cl Ca X.env) fp).env.scope = relS scope X.env.scope := rfl
theorem glb_ok {x : Str} {sc : Scope} (hs : X.env.scope = sc) (h : glbB sc x = true) : Gl X x ∧ okName x = true := by
  subst hs
  exact glb_of h
end
end NC
/-! Comprehensions. -/
namespace NC
open PySem PySem.Spec PyProof.Rows L2

section
variable {K : PySem.W.Frag} {mg : Str → Option Value} {α β : Type} {j : Gh} {h : Hv} {H : Hp}
theorem Pst.noexc {Tb : TbL} {r : Res α} {okk : α → Gh → Hv → Hp → Prop} {ek ek' : XK} (p : Pst K mg Tb j h H (NC.noexc r) okk ek) : Pst K mg Tb j h H r okk ek' := by
  cases r with
  | ok a h' => exact p
  | exc c fs h' => exact (show False from p).elim
  | bad => exact p
theorem tE.noexc {Tb : TbL} {W W' : WX} {x : NC.Env → Hv → Res PV} {σ : L2.St} {Q : VK} (q : tE K mg Tb W (fun e h => NC.noexc (x e h)) σ H Q) : tE K mg Tb W' x σ H Q := by
  obtain ⟨j, e, h, R, E, p⟩ := q
  exact ⟨j, e, h, R, E, p.noexc⟩
theorem tT.noexc {Tb : TbL} {W W' : WX} {x : NC.Env → Hv → Res PV} {σ : L2.St} {Q : Bool → Hp → Prop} (q : tT K mg Tb W (fun e h => NC.noexc (x e h)) σ H Q) : tT K mg Tb W' x σ H Q := by
  obtain ⟨j, e, h, R, E, p⟩ := q
  exact ⟨j, e, h, R, E, p.noexc⟩
/-- a tracked list that is none of ours is written -/
theorem Rl.other {Tb : TbL} {D : Addr} {l : List V} {o : HO} (R : Rl K mg Tb j h H) (hD : H D = some (.lst l)) (nF : ¬ j.F D) (nj : ∀ i, i < h.os.length → j.at_ i ≠ D) : Kp j.F H j.F (upd H D o) ∧ Rl K mg Tb j h (upd H D o) := by
  have k : Kp j.F H j.F (upd H D o) := .set (fun vs e => by rw [hD] at e; cases e) (fun ob u e => by rw [hD] at e; cases e) nF
  refine ⟨k, R.inj, fun i ob e => ?_, R.lim, R.nf, fun a m => ?_, tabs_set R.tb hD (fun _ z => nomatch z) fun _ _ => lst_code⟩
  · exact RO.mono (fun _ _ => rfl) (Nat.le_refl _) k (upd_ne (nj i (List.getElem?_eq_some_iff.mp e).1)) (R.obj i ob e)
  · rw [(k.fix a m).2]; exact R.fd a m
theorem Tr.other {Tb : TbL} {D : Addr} {o : HO} {j0 : Gh} {h0 : Hv} {H0 : Hp} (t : Tr Tb j0 h0 H0 j h H) (h0D : H0 D = none) (k : Kp j.F H j.F (upd H D o)) : Tr Tb j0 h0 H0 j h (upd H D o) :=
  ⟨t.ag, t.kp.trans k, t.sh, fun a u e nt n =>
    let ⟨e1, f1, n1⟩ := t.fr a u e nt n
    ⟨by rw [upd_ne (ne_of_none e h0D)]; exact e1, f1, n1⟩⟩
/-- where a comprehension stands: the list at D so far -/
structure CSt (K : PySem.W.Frag) (mg : Str → Option Value) (Tb : TbL) (j0 : Gh) (h0 : Hv) (H0 : Hp) (D : Addr) (acc : List PyData) (j : Gh) (h : Hv) (H : Hp) : Prop where
  t : Tr Tb j0 h0 H0 j h H
  R : Rl K mg Tb j h H
  nF : ¬ j.F D
  nj : ∀ i, i < h.os.length → j.at_ i ≠ D
  ex : ∃ vs, H D = some (.lst vs) ∧ RDs K j.F H acc vs
theorem CSt.next {Tb : TbL} {j0 : Gh} {h0 : Hv} {H0 : Hp} {D : Addr} {acc : List PyData} {j' : Gh} {h' : Hv} {H' : Hp} (c : CSt K mg Tb j0 h0 H0 D acc j h H) (t : Tr Tb j h H j' h' H') (R : Rl K mg Tb j' h' H') : CSt K mg Tb j0 h0 H0 D acc j' h' H' := by
  obtain ⟨vs, e, q⟩ := c.ex
  obtain ⟨e1, f1, n1⟩ := t.fr D _ e (noTab c.R.tb e fun _ z => nomatch z) c.nj
  exact ⟨c.t.trans t, R, fun z => c.nF (f1 z), n1, vs, e1, RDs.mono t.kp _ _ q⟩
/-- the list at D becomes one of ours -/
theorem CSt.own {Tb : TbL} {j0 : Gh} {h0 : Hv} {H0 : Hp} {D : Addr} {acc : List PyData} (c : CSt K mg Tb j0 h0 H0 D acc j h H) (hD : H0 D = none) {vs : List V} (e : H D = some (.lst vs)) (q : RDs K j.F H acc vs) :
    Tr Tb j0 h0 H0 (j.grow h.os.length D) { h with os := h.os ++ [.lst acc] } H ∧ Rl K mg Tb (j.grow h.os.length D) { h with os := h.os ++ [.lst acc] } H := by
  have hl : ({ h with os := h.os ++ [.lst acc] } : Hv).os.length = h.os.length + 1 := by simp
  refine ⟨⟨fun i hi => ?_, c.t.kp, c.t.sh.trans ⟨rfl, by rw [hl]; exact Nat.le_succ _, fun k o' hk e => ?_⟩, fun a u e2 nt n => ?_⟩, ⟨fun a b ha hb e2 => ?_, fun k ob e2 => ?_, by rw [hl]; exact Nat.le_succ_of_le c.R.lim, fun i hi => ?_, c.R.fd, c.R.tb⟩⟩
  · have : i < h.os.length := Nat.lt_of_lt_of_le hi c.t.sh.le
    rw [grow_lt this]
    exact c.t.ag i hi
  · have hk2 : k < h.os.length := Nat.lt_of_lt_of_le hk c.R.lim
    have e' : (h.os ++ [.lst acc])[k]? = some o' := e
    rw [List.getElem?_append_left hk2] at e'
    exact ⟨o', e', fun _ z => z⟩
  · obtain ⟨e1, f1, n1⟩ := c.t.fr a u e2 nt n
    refine ⟨e1, f1, fun i hi => ?_⟩
    rw [hl] at hi
    by_cases h1 : i = h.os.length
    · rw [h1, grow_eq]; exact Ne.symm (ne_of_none e2 hD)
    · rw [grow_lt (by omega)]; exact n1 i (by omega)
  · rw [hl] at ha hb
    by_cases a1 : a = h.os.length
    · by_cases b1 : b = h.os.length
      · omega
      · rw [a1, grow_eq, grow_lt (by omega)] at e2
        exact (c.nj b (by omega) e2.symm).elim
    · by_cases b1 : b = h.os.length
      · rw [b1, grow_eq, grow_lt (by omega)] at e2
        exact (c.nj a (by omega) e2).elim
      · rw [grow_lt (by omega), grow_lt (by omega)] at e2
        exact c.R.inj a b (by omega) (by omega) e2
  · rw [hl]
    have e' : (h.os ++ [.lst acc])[k]? = some ob := e2
    by_cases hk : k < h.os.length
    · rw [List.getElem?_append_left hk] at e'
      rw [grow_lt hk]
      exact RO.mono (j := j) (j' := j.grow h.os.length D) (fun i hi => grow_lt hi) (Nat.le_succ _) Kp.refl rfl (c.R.obj k ob e')
    · have hk2 : k = h.os.length := by
        have := (List.getElem?_eq_some_iff.mp e').1
        simp at this
        omega
      subst hk2
      rw [grow_eq]
      simp at e'
      subst e'
      exact ⟨vs, e, q⟩
  · rw [hl] at hi
    by_cases h1 : i = h.os.length
    · rw [h1, grow_eq]
      exact c.nF
    · rw [grow_lt (by omega)]
      exact c.R.nf i (by omega)
theorem comp_snd {Tb : TbL} {m : Bool} {σ : L2.St} {vs : List Nat} {tg : Tg} {cond elt : NC.Env → Hv → Res PV} {e0 : NC.Env} {w : Walk} {J : L2.It} {j0 : Gh} {h0 : Hv} {H0 : Hp} {Q : VK} {ek : XK} {W0 : WX}
    (hJ : ItOk K mg Tb J w j0 h0 H0) (R0 : Rl K mg Tb j0 h0 H0) (E0 : REnv K mg j0 h0.os.length H0 e0 (L2.wipe σ vs)) (hv : ∀ i ∈ tg.vars, i ∈ vs)
    (p : Pst K mg Tb j0 h0 H0 ((compL w.gd tg (fun e h => NC.noexc (cond e h)) (fun e h => NC.noexc (elt e h)) e0 w.xs [] h0).bind (fin m)) (okV K mg Q) ek) :
    ∀ D, H0 D = none → ∃ W : Nat → Nat → Hp → Prop, (∃ m, W 0 m (upd H0 D (.lst []))) ∧ ∀ i m H, W i m H →
      (J.stop i H ∧ Q (.ref D) H) ∨ (J.go i H ∧ ∃ Nx : Hp → Prop, (∀ H', Nx H' → ∃ m', m' < m ∧ W (i + 1) m' H') ∧ ∀ x H', J.yld i H x H' → tG K mg Tb tg x (L2.wipe σ vs) H' fun σ2 H2 => L2.wipe σ2 vs = L2.wipe σ vs ∧ tT K mg Tb W0 cond σ2 H2 fun b H3 =>
        if b = true then tE K mg Tb W0 elt σ2 H3 fun y H4 => ∃ acc, H4 D = some (.lst acc) ∧ acc.length < sizeLine ∧ Nx (upd H4 D (.lst (acc ++ [y]))) else Nx H3) := by
  intro D hD
  -- what holds at the start of turn i
  let Pv : Nat → Hp → Prop := fun i H => ∃ j h acc, CSt K mg Tb j0 h0 H0 D acc j h H ∧ Pst K mg Tb j0 h0 H0 ((compL w.gd tg (fun e h => NC.noexc (cond e h)) (fun e h => NC.noexc (elt e h)) e0 (w.xs.drop i) acc h).bind (fin m)) (okV K mg Q) ek
  refine ⟨fun i m H => m = w.xs.length - i ∧ i ≤ w.xs.length ∧ Pv i H, ⟨w.xs.length, by simp, Nat.zero_le _, j0, h0, [], ⟨Tr.new R0 hD, R0.new hD, fun z => (R0.fd D z).1 hD, R0.noMu hD, [], upd_same, .nil⟩, p⟩, ?_⟩
  rintro i mm H ⟨rfl, hi, j, h, acc, c, p⟩
  by_cases hlt : i < w.xs.length
  · rw [List.drop_eq_getElem_cons hlt] at p
    unfold compL at p
    split at p
    rotate_left
    · exact (show False from p).elim
    rename_i hgd
    have hx : w.xs[i]? = some w.xs[i] := by simp [hlt]
    refine .inr ⟨hJ.go _ _ _ c.t c.R hgd i _ hx, Pv (i + 1), fun H' q => ⟨w.xs.length - (i + 1), by omega, rfl, hlt, q⟩, fun u H' y => ?_⟩
    obtain ⟨y1, y2⟩ := hJ.yld _ _ _ c.t c.R hgd i _ hx u H' y
    obtain ⟨t1, R1⟩ := yld_tr c.R y1
    have c1 := c.next t1 R1
    split at p
    · exact (show False from p).elim
    rename_i e1 hs
    refine ⟨j, e0, h, _, R1, E0.tr c1.t, y2, e1, hs, fun σ' E1 hc => ⟨(hc.wipe hv).trans (wipe_idem σ vs), j, e1, h, R1, E1, ?_⟩⟩
    cases hcd : cond e1 h with
    | bad => rw [hcd] at p; exact (show False from p).elim
    | exc _ _ _ => rw [hcd] at p; exact (show False from p).elim
    | ok v h2 =>
      rw [hcd] at p
      cases v with
      | d b =>
        cases b with
        | bool b =>
          rw [hcd]
          refine fun j2 H2 t2 R2 => ⟨b, rfl, ?_⟩
          have c2 := c1.next t2 R2
          have E2 := E1.tr t2
          cases b with
          | false => exact ⟨j2, h2, acc, c2, p⟩
          | true =>
            show tE K mg Tb W0 elt σ' H2 _
            refine ⟨j2, e1, h2, R2, E2, ?_⟩
            cases hel : elt e1 h2 with
            | bad => have p' : Pst K mg Tb j0 h0 H0 (Res.bind (Res.bind (NC.noexc (elt e1 h2)) _) (fin m)) _ _ := p; rw [hel] at p'; exact (show False from p').elim
            | exc _ _ _ => have p' : Pst K mg Tb j0 h0 H0 (Res.bind (Res.bind (NC.noexc (elt e1 h2)) _) (fin m)) _ _ := p; rw [hel] at p'; exact (show False from p').elim
            | ok v3 h3 =>
              have p' : Pst K mg Tb j0 h0 H0 (Res.bind (Res.bind (NC.noexc (elt e1 h2)) _) (fin m)) _ _ := p
              rw [hel] at p' ⊢
              refine fun j3 H3 t3 R3 u3 r3 => ?_
              have c3 := c2.next t3 R3
              obtain ⟨vs3, e3, q3⟩ := c3.ex
              cases v3 with
              | d y3 =>
                cases r3 with
                | d r3 =>
                  have p4 : Pst K mg Tb j0 h0 H0 (Res.bind (if lnOk (acc.length + 1) then compL w.gd tg (fun e h => NC.noexc (cond e h)) (fun e h => NC.noexc (elt e h)) e0 (w.xs.drop (i + 1)) (acc ++ [y3]) h3 else .bad) (fin m)) (okV K mg Q) ek := p'
                  split at p4
                  · rename_i hz
                    obtain ⟨k, R4⟩ := R3.other (o := .lst (vs3 ++ [u3])) e3 c3.nF c3.nj
                    have t4 : Tr Tb j0 h0 H0 j3 h3 (upd H3 D (.lst (vs3 ++ [u3]))) := c3.t.other hD k
                    refine ⟨vs3, e3, ?_, j3, h3, acc ++ [y3], ⟨t4, R4, c3.nF, c3.nj, _, upd_same, RDs.mono k _ _ (q3.append (.cons r3 .nil))⟩, p4⟩
                    have := lnOk_le hz
                    rw [← q3.length]; omega
                  · exact (show False from p4).elim
              | _ => exact (show False from p').elim
        | _ => exact (show False from p).elim
      | _ => exact (show False from p).elim
  · have hi2 : w.xs.length ≤ i := by omega
    rw [List.drop_eq_nil_of_le hi2] at p
    unfold compL at p
    split at p
    · rename_i hgd
      obtain ⟨vs, e, q⟩ := c.ex
      refine .inl ⟨hJ.stop _ _ _ c.t c.R hgd i (by omega), ?_⟩
      cases m with
      | false => exact p (j.fix D) H (c.t.fix hD) (c.R.fix c.nj (by rw [e]; exact ⟨(fun z => nomatch z), fun _ z => nomatch z⟩)) _ (.d (.lst e (.inr rfl) (RDs.mono (.more fun _ m => .inl m) _ _ q)))
      | true =>
        have p5 : Pst K mg Tb j0 h0 H0 (.ok (.ref h.os.length) { h with os := h.os ++ [.lst acc] }) (okV K mg Q) ek := p
        have ru := RV.ref (K := K) (mg := mg) (j := j.grow h.os.length D) (n := (h.os ++ [Ob.lst acc]).length) (H := H) (i := h.os.length) (by rw [List.length_append]; exact Nat.lt_succ_self _)
        rw [show (j.grow h.os.length D).at_ h.os.length = D from grow_eq] at ru
        obtain ⟨t2, R2⟩ := c.own hD e q
        exact p5 _ H t2 R2 _ ru
    · exact (show False from p).elim
end
end NC
/-! Expressions: what the evaluator tells, the machine does. -/
namespace NC
open PySem PySem.Spec PyProof.Rows L2

theorem compLoc {scope sc : Scope} {x : Str} (h : locB scope x = true) : Loc (relS scope sc) x ∧ ((scope.names.lookup x == some .cell) = true ∨ (relS scope sc).names.lookup x = some .local) := by
  rcases loc_of h with k | k
  · exact ⟨.inl (lookup_relS_keep (by decide) k), .inr (lookup_relS_keep (by decide) k)⟩
  · exact ⟨.inr (lookup_relS_keep (by decide) k), .inl (by rw [k]; rfl)⟩
section
variable {X : Cx}
/-- a if t else b as a test -/
theorem pt_ifE {c a b : Expr} {tc ta tb : TT} {pos : Pos} (hc : PT X c tc) (ha : PT X a ta) (hb : PT X b tb) : PT X (.IfExp c a b pos) fun σ H Q => tc σ H fun k H1 => if k = true then ta σ H1 Q else tb σ H1 Q := by
  constructor
  intro pins s σ H Q I h
  show wpAny _ _ (do if ← isTrue c X.env (eval c X.env) then isTrue a X.env (eval a X.env) else isTrue b X.env (eval b X.env)) _ _ _
  refine wpAny_bind (thn (hc.run pins s σ H _ I h) ?_)
  rintro d s1 ⟨H1, I1, q1⟩
  cases d with
  | true => exact ha.run pins s1 σ H1 Q I1 q1
  | false => exact hb.run pins s1 σ H1 Q I1 q1
end
/-- what is told of an expression -/
structure Snd (Tb : TbL) (X : Cx) (W : WX) (e : Expr) (x : NC.Env → Hv → Res PV) : Prop where
  pe : PE X e (tE X.K X.mg Tb W x)
  pt : PT X e (tT X.K X.mg Tb W x)
  pw : ∀ op vs p, e = .BoolOp op vs p → PW X e (tT X.K X.mg Tb W x)
section
variable {X : Cx} {W : WX}
/-- the common way: the test is the value's truth -/
theorem Snd.val {Tb : TbL} {e : Expr} {x : NC.Env → Hv → Res PV} (h : PE X e (tE X.K X.mg Tb W x)) (he : ∀ whole, isTrue e X.env whole = (do let v ← whole; standAt e.pos; holding [v] (truthy v))) (hb : ∀ op vs p, e ≠ .BoolOp op vs p) : Snd Tb X W e x :=
  ⟨h, (pt_val h he).imp fun _ _ _ q => tT_of q, fun op vs p z => absurd z (hb op vs p)⟩
theorem sq1 {Tb : TbL} {r : V → Hp → VK → Prop} {x : NC.Env → Hv → Res PV} {f : PV → Hv → Res PV} {σ : L2.St} {H : Hp} {Q : VK} (hs : Srv1 X.K X.mg Tb f r) (q : tE X.K X.mg Tb W (fun e h => (x e h).bind fun v h1 => f v h1) σ H Q) : tUn r (tE X.K X.mg Tb W x) σ H Q := by
  obtain ⟨j, e, h, R, E, p⟩ := q
  exact thenE R E p fun v u j1 h1 H1 t R1 E1 ru p1 => hs _ _ _ _ _ _ _ R1 ru p1
theorem sq2 {Tb : TbL} {r : R2} {x y : NC.Env → Hv → Res PV} {f : PV → PV → Hv → Res PV} {σ : L2.St} {H : Hp} {Q : VK} (hs : Srv2 X.K X.mg Tb f r) (q : tE X.K X.mg Tb W (fun e h => (x e h).bind fun v h1 => (y e h1).bind fun w h2 => f v w h2) σ H Q) : tOp r (tE X.K X.mg Tb W x) (tE X.K X.mg Tb W y) σ H Q := by
  obtain ⟨j, e, h, R, E, p⟩ := q
  exact thenE R E p fun v u j1 h1 H1 t R1 E1 ru p1 => thenE R1 E1 p1 fun v2 u2 j2 h2 H2 t2 R2 E2 ru2 p2 => hs _ _ _ _ _ _ _ _ _ R2 (ru.tr t2) ru2 p2
/-- a chain, as a value -/
theorem sqC {Tb : TbL} {r r' : R2} {x y z : NC.Env → Hv → Res PV} {f f' : PV → PV → Hv → Res PV} {σ : L2.St} {H : Hp} {Q : VK} (hs : Srv2 X.K X.mg Tb f r) (hs' : Srv2 X.K X.mg Tb f' r')
    (q : tE X.K X.mg Tb W (fun e h => (x e h).bind fun v h1 => (y e h1).bind fun w h2 => tst (f v w h2) fun k h3 => if k = true then (z e h3).bind fun t h4 => f' w t h4 else .ok (.d (.bool false)) h3) σ H Q) :
    tChain r r' (tE X.K X.mg Tb W x) (tE X.K X.mg Tb W y) (tE X.K X.mg Tb W z) σ H Q := by
  obtain ⟨j, e, h, R, E, p⟩ := q
  refine thenE R E p fun v u j1 h1 H1 t R1 E1 ru p1 => thenE R1 E1 p1 fun v2 u2 j2 h2 H2 t2 R2 E2 ru2 p2 => ?_
  refine hs _ _ _ _ _ _ _ _ (fun c d H' => W c d σ H') R2 (ru.tr t2) ru2 (Pst.imp (Pst.bind (show Pst X.K X.mg Tb j2 h2 H2 (Res.bind (f v v2 h2) _) _ _ from p2)) fun v3 j3 h3 H3 t3 R3 p3 u3 ru3 => ?_)
  cases v3 with
  | d y3 =>
    cases y3 with
    | bool k =>
      cases ru3 with
      | d ru3 =>
        cases ru3
        refine ⟨k, rfl, ?_⟩
        cases k with
        | false => exact (Pst.here (ok1 := okV X.K X.mg Q) p3 R3) _ (.d (.bl _))
        | true => exact thenE R3 ((E2.tr t3)) p3 fun v4 u4 j4 h4 H4 t4 R4 E4 ru4 p4 => hs' _ _ _ _ _ _ _ _ _ R4 (ru2.tr (t3.trans t4)) ru4 p4
    | _ => exact (show False from p3).elim
  | _ => exact (show False from p3).elim
end
theorem ne_bool_name {x : Str} {p : Pos} : ∀ op vs q, Expr.Name x p ≠ .BoolOp op vs q := fun _ _ _ z => nomatch z
theorem mem_blts {x : Str} (h : x ∈ blts) : x ∈ blts := h
theorem bi_mem (b : Bi) : b.nm ∈ blts := by cases b <;> decide
theorem ty_mem (t : Ty) : t.nm ∈ blts := by cases t <;> decide
theorem chkC_pe {Tb : TbL} {X : Cx} {W : WX} {c : PyData} {k : Const} {n : Nat} {p : Pos} {G : Gls} {C : Fns} (h : chkC c k = true) : PE X (.Constant k n p) (tE X.K X.mg Tb W (ev G C (.cst c))) := by
  have go : ∀ v : V, (∀ (F : Addr → Prop) (H : Hp), RD X.K F H c v) → PE X (.Constant k n p) (tC v) → PE X (.Constant k n p) (tE X.K X.mg Tb W (ev G C (.cst c))) := fun v hv hp =>
    hp.imp fun σ H Q q => by
      obtain ⟨j, e, hh, R, E, p⟩ := q
      exact (show Pst X.K X.mg Tb j hh H (.ok (.d c) hh) (okV X.K X.mg Q) _ from p).here R _ (.d (hv _ _))
  cases c <;> cases k <;> first | (simp [chkC] at h; done) | skip
  · exact go .non (fun _ _ => .non) pe_non
  · simp only [chkC, beq_iff_eq] at h
    subst h
    exact go _ (fun _ _ => .bl _) pe_bl
  · simp only [chkC, beq_iff_eq] at h
    subst h
    exact go _ (fun _ _ => .int _) pe_int
  · simp only [chkC, beq_iff_eq] at h
    subst h
    exact go _ (fun _ _ => .str _) pe_str
theorem tA_nil {Tb : TbL} {X : Cx} {W : WX} {G : Gls} {C : Fns} : PA X [] (tA X.K X.mg Tb W (evs G C [])) := pa_nil.imp fun σ H Q q => by
  obtain ⟨j, e, h, R, E, p⟩ := q
  exact (show Pst X.K X.mg Tb j h H (.ok [] h) (okVs X.K X.mg Q) _ from p).here R _ .nil
theorem itIs {X : Cx} {x : Str} {p pos : Pos} : True := trivial
end NC
/-! Lambdas without parameters, handed to a def that says what they raise. -/
namespace NC
open PySem PySem.Spec PyProof.Rows L2 LamX

section
variable {X : Cx} {pins : List (Addr × PySem.Obj)} {σ : L2.St} {H HZ : Hp} {s s1 : Shared}
/-- what the making of a lambda leaves: P the table, q the name, c its code object -/
inductive Made (P : Addr) (q : Str) (H : Hp) (c : Addr) : Hp → Prop
  | old : H c = some (CodeO c q) → Made P q H c H
  | new {ps ms : Array Value} : H P = some (.tbl ps) → H c = none → Made P q H c (upd (upd H P (.tbl ms)) c (CodeO c q))
theorem Made.code {P c : Addr} {q : Str} {H1 : Hp} : Made P q H c H1 → H1 c = some (CodeO c q)
  | .old e => e
  | .new _ _ => upd_same
abbrev lamO (X : Cx) (params : Arguments) (body : Expr) (scope : Scope) (c : Addr) (pm ct : Value) : PySem.Obj := PySem.W.kla_obj "<lambda>" (X.env.qual ++ "<lambda>") params body scope (cloFrom X.env.cells scope.names []) pm c ct
theorem mk_lam {c P : Addr} {params : Arguments} {body : Expr} {scope : Scope} {pos : Pos} {E Q : Value → Shared → Prop} (I : Inv X pins σ H s) (B : TabB X.base X.mg c P) (hc : X.env.code = .ref c) (t : TabS H P (X.env.qual ++ "<lambda>"))
    (hd : defaultsOf params X.env = ([], [])) (fr : ∀ y ∈ scope.names, y.2 = .free → ∃ c, X.env.cells.lookup y.1 = some c)
    (k : ∀ (f c1 : Addr) (pm ct : Value) (H1 : Hp) (s1 : Shared), Inv X pins σ H1 s1 → Made P (X.env.qual ++ "<lambda>") H c1 H1 → TabS H1 P (X.env.qual ++ "<lambda>") → s1.heap.get? f = some (lamO X params body scope c1 pm ct) → H1 f = none → f ∉ frs X.stack → Q (.ref f) s1) :
    wpAny (model X.prog X.w) X.A (eval (.Lambda params body scope pos) X.env) Q E s := by
  obtain ⟨ps, tP, tr, am⟩ := t
  refine PySem.W.kla_eval hd ?_
  have far : ∀ a, s.heap.objs.size ≤ a → a ∉ frs X.stack := fun a ha m => by
    rcases List.mem_cons.mp (I.stkSub _ m) with e | e
    · have l := I.lt
      rw [← e] at l
      exact absurd ha (Nat.not_le_of_lt l)
    · exact I.nofs ha e
  have oP : s.heap.get? P = some { cls := .none, data := .fields ps } := I.hok P _ tP
  have bm : s.heap.BuiltinsAt X.mg P := B.bm.keeps I.bk
  cases q : codeAmong pos ps.toList with
  | some cv =>
    obtain ⟨c1, rfl, hk⟩ := am pos cv q
    refine PySem.W.kla_makeFunctionHit (mg := X.mg) (c := c) (P := P) (ps := ps) (closure_ok fr) I.ok.glob (I.mod.glob.keeps I.bk) hc (B.code.keeps I.bk) oP tr q bm ?_
    intro ct g tk kp hz
    exact k g.objs.size c1 _ ct H _ (I.kept fun b o e => Heap.get?_push_of_some _ (kp b o e)) (.old hk) ⟨ps, tP, tr, am⟩ (Heap.get?_push_size _ rfl) (I.hok.fresh hz) (far _ hz)
  | none =>
    refine PySem.W.kla_makeFunction (mg := X.mg) (c := c) (P := P) (ps := ps) (closure_ok fr) I.ok.glob (I.mod.glob.keeps I.bk) hc (B.code.keeps I.bk) oP tr q B.gP bm ?_
    intro c1 ct g tk kp ge lt rec gP
    obtain ⟨c2, oc, vs, tt, e2, h1, h2, h3⟩ := rec
    cases e2
    have zs : s.heap.objs.size ≤ g.objs.size := Nat.le_trans ge (Nat.le_of_lt lt)
    have fc : H c1 = none := I.hok.fresh ge
    have nP : c1 ≠ P := fun z => by rw [z, tP] at fc; cases fc
    have I1 := inv_table (t' := tk) (more := #[rawInt pos.line, rawInt pos.col, .ref c1]) (h' := g.push (lamO X params body scope c1 ((X.mg "__name__").getD .none) ct)) I tP
      (fun b o n e => Heap.get?_push_of_some _ (kp b o n e)) (Heap.get?_push_of_some _ gP) ge ⟨oc, vs, tt, Heap.get?_push_of_some _ h1, h2, h3⟩
    have eL : (ps ++ #[rawInt pos.line, rawInt pos.col, Value.ref c1]).toList = ps.toList ++ [rawInt pos.line, rawInt pos.col, .ref c1] := by simp
    refine k g.objs.size c1 _ ct _ _ I1 (.new tP fc) ⟨_, by rw [upd_ne (Ne.symm nP), upd_same], by rw [eL]; exact PySem.TriplesOk_snoc _ _ _ _ tr, fun p v hv => ?_⟩ (Heap.get?_push_size _ rfl) ?_ (far _ zs)
    · rw [eL] at hv
      rcases among_app _ tr hv with z | z
      · obtain ⟨c0, e1, e2⟩ := am p v z
        refine ⟨c0, e1, ?_⟩
        rw [upd_ne (ne_of_none e2 fc), upd_ne (fun w => by rw [w, tP] at e2; exact codeO_ne _ (Option.some.inj e2).symm)]
        exact e2
      · exact ⟨c1, z, upd_same⟩
    · have lP : P < s.heap.objs.size := Heap.lt_size oP
      rw [upd_ne (show g.objs.size ≠ c1 from Nat.ne_of_gt lt), upd_ne (show g.objs.size ≠ P from Nat.ne_of_gt (Nat.lt_of_lt_of_le lP zs))]
      exact I.hok.fresh zs
/-- the call of what was handed in, in the def that got it -/
theorem act_lam {CXg : CXT} {Eg : XK} {Ng : List Str} {qg : Str} {sg : Scope} {g f c1 : Addr} {cdg pm ct : Value} {params : Arguments} {body : Expr} {scope : Scope} {k i : Nat} {a : Str} {pn : List (Addr × PySem.Obj)} {xe : Value → Shared → Prop} {W : WX} {E : XK} {tb : TE} {p1 p2 : Pos}
    (I : Inv X pins σ H s) (L : LamS X.env.scope scope) (of : s.heap.get? f = some (lamO X params body scope c1 pm ct)) (nf : H f = none) (fr : f ∉ frs X.stack)
    (bi : bindArgs (PySem.W.kla_fn "<lambda>" (X.env.qual ++ "<lambda>") params body scope (cloFrom X.env.cells scope.names []) pm (.ref c1) ct) ⟨[], []⟩ = pure [])
    (tk : Takes ((cxOf CXg X.prog X.w X.K X.mg X.base Ng qg sg g cdg X.A X.stack s H Eg).tr pn xe) W) (hr : Room (k + 1) (X.A.deeper (envOfC qg sg s.heap.objs.size g cdg)))
    (hb : ∀ (s' : Shared) (H' : Hp), Room k ((X.A.deeper (envOfC qg sg s.heap.objs.size g cdg)).deeper (lamEnv X scope s'.heap.objs.size f c1)) → PE (lamCx X (X.A.deeper (envOfC qg sg s.heap.objs.size g cdg)) (envOfC qg sg s.heap.objs.size g cdg :: X.stack) s' H' E scope f c1) body tb)
    (hN : Ng[i]? = some a) (hv : Vis sg a) (h1 : (a == ("__debug__" : Str)) = false := by decide) (h2 : (a == ("__classdict__" : Str)) = false := by decide) :
    PE ((cxOf CXg X.prog X.w X.K X.mg X.base Ng qg sg g cdg X.A X.stack s H Eg).tr pn xe) (.Call (.Name a p1) [] [] p2)
      (fun σZ HZ Q => σZ[i]? = some (some (.ref f)) ∧ HZ c1 = some (CodeO c1 (X.env.qual ++ "<lambda>")) ∧ (∀ cls d H', E cls d H' → W cls d σZ H') ∧ tb σ HZ Q) := by
  refine ⟨fun pz sz σz Hz Q Iz h => ?_⟩
  obtain ⟨hs, hc, hW, ht⟩ := h
  refine wpAny_Call_Name_kw (thn ((pe_var (pos := p1) (i := i) hN hv h1 h2).run pz sz σz Hz (fun v H1 => v = .ref f ∧ H1 = Hz) Iz ⟨.ref f, hs, rfl, rfl⟩) ?_)
  rintro u s2 ⟨v, H2, I2, r2, rfl, rfl⟩
  obtain rfl : u = Value.ref f := r2
  have of2 : s2.heap.get? f = some (lamO X params body scope c1 pm ct) := I2.base.keep f _ of nf fr (fun z => nomatch (show f ∈ ([] : List Addr) from z))
  refine PySem.W.callWith_F0 ⟨_, _, _, _, of2⟩ ?_
  have un : Un (frs X.stack) [] H H2 s.heap s2.heap := I2.base
  obtain ⟨⟨oc, vs, t, hoc, hdc, hvc⟩, _, _⟩ := I2.hok c1 _ hc
  have rc : codeAny (model X.prog X.w) (X.A.deeper (envOfC qg sg s.heap.objs.size g cdg)) (.call (.ref f) ⟨[], []⟩)
      (CR (L2.CX X.prog X.w) (envOfC qg sg s.heap.objs.size g cdg :: X.stack) X.prog X.w H2 s2 Q E) s2 := by
    refine PySem.W.kla_callFunE hr.depth of2 rfl L.co L.gen rfl ⟨c1, oc, vs, t, rfl, hoc, hdc, hvc⟩ ?_
    rw [bi]
    refine wpAny_pure (wpAny_newFunctionEnv (fun y hy => (L.own y hy).2) (fun y hy => absurd hy (by simp)) (fun g1 hns hsb => ⟨I2.nolimit.fresh _ hsb, ?_⟩) L.kind)
    show codeAny _ _ (.expr body (lamEnv X scope s2.heap.objs.size f c1)) _ _
    have kp : ∀ b o, s2.heap.get? b = some o → g1.get? b = some o := fun b o e => hsb.extBut b o (Nat.ne_of_lt (Heap.lt_size e)) (Heap.get?_push_of_some _ e)
    have J : Inv (lamCx X (X.A.deeper (envOfC qg sg s.heap.objs.size g cdg)) (envOfC qg sg s.heap.objs.size g cdg :: X.stack) s2 H2 E scope f c1) [] σ H2
        { s2 with heap := g1, toks := s2.toks + ([] : List (Str × Value)).length } := lam_start2 I L I2.env0 hr.hd un hns kp
    refine PySem.W.kla_codeExpr (wpAny_mono ((hb s2 H2 (hr.deeper _)).run [] _ _ H2 Q J ht) ?_ fun e s' hq => hq)
    rintro v s' ⟨w', H', J', rv, q⟩
    exact ⟨w', H', J'.os, J'.bare, J'.base, J'.hok, rv, q⟩
  refine wpAny_call (codeAny_mono rc ?_)
  rintro (e | fl) s' hq
  · exact tk e s' (XE.of_call I2 (fun cls d H' h => hW cls d H' h) hq)
  · cases fl <;> first | exact I2.after hq | exact False.elim hq
end
/-! ### what the making of a lambda leaves of our objects -/
section
variable {K : PySem.W.Frag} {mg : Str → Option Value} {Tb : TbL} {j : Gh} {h : Hv} {H H1 : Hp} {P c : Addr} {q : Str}
theorem made_at {a : Addr} {o : HO} (m : Made P q H c H1) (e : H a = some o) (nt : ∀ ps, o ≠ .tbl ps) : H1 a = some o := by
  cases m with
  | old _ => exact e
  | new tP fc =>
    rw [upd_ne (ne_of_none e fc), upd_ne (fun z => by rw [z, tP] at e; exact nt _ (Option.some.inj e).symm)]
    exact e
theorem made_kp (R : Rl K mg Tb j h H) (m : Made P q H c H1) : Kp j.F H j.F H1 := by
  refine ⟨fun a vs e => made_at m e (fun _ z => nomatch z), fun a o u e => made_at m e (fun _ z => nomatch z), fun a fa => ⟨fa, ?_⟩⟩
  obtain ⟨n, nt⟩ := R.fd a fa
  cases e : H a with
  | none => exact absurd e n
  | some o => exact made_at m e fun ps z => nt ps (by rw [e, z])
theorem made_rl (R : Rl K mg Tb j h H) (m : Made P q H c H1) (hP : (P, q) ∈ Tb) (hu : ∀ p ∈ Tb, p.1 = P → p.2 = q) (t1 : TabS H1 P q) : Rl K mg Tb j h H1 ∧ Tr Tb j h H j h H1 := by
  have k := made_kp R m
  have at_ : ∀ i o, h.os[i]? = some o → H1 (j.at_ i) = H (j.at_ i) := fun i o e => by
    have r := R.obj i o e
    cases o with
    | lst xs => obtain ⟨vs, e1, _⟩ := r; rw [e1]; exact made_at m e1 fun _ z => nomatch z
    | ins c fs => obtain ⟨C, dx, fv, e1, _⟩ := r; rw [e1]; exact made_at m e1 fun _ z => nomatch z
    | dct kvs => obtain ⟨ws, e1, _⟩ := r; rw [e1]; exact made_at m e1 fun _ z => nomatch z
  refine ⟨⟨R.inj, fun i o e => RO.mono (fun _ _ => rfl) (Nat.le_refl _) k (at_ i o e) (R.obj i o e), R.lim, R.nf, fun a fa => ?_, fun p hp => ?_⟩, ⟨fun _ _ => rfl, k, Shr.refl, fun a o e nq n => ⟨?_, id, n⟩⟩⟩
  · rw [(k.fix a fa).2]; exact R.fd a fa
  · by_cases z : p.1 = P
    · have z2 := hu p hp z
      rw [z, z2]
      exact t1
    · obtain ⟨ps, h1, h2, h3⟩ := R.tb p hp
      cases m with
      | old _ => exact ⟨ps, h1, h2, h3⟩
      | new tP fc =>
        refine ⟨ps, ?_, h2, fun pos cv hc => ?_⟩
        · rw [upd_ne (ne_of_none h1 fc), upd_ne z]; exact h1
        · obtain ⟨c0, e1, e2⟩ := h3 pos cv hc
          exact ⟨c0, e1, made_at (Made.new (q := q) tP fc) e2 fun ps z => codeO_ne ps z⟩
  · cases m with
    | old _ => exact e
    | new tP fc =>
      rw [upd_ne (ne_of_none e fc), upd_ne (fun z => nq q (by rw [z]; exact hP))]
      exact e
end
/-! ### the def that says what is raised -/
theorem said_shape {p : Sdt} {sc : Scope} {bg : List Stmt} (h : saidB p sc bg = true) : ∃ t w p1 p2 p3 p4 p5 p6 h0 hds p7 p8 p9, bg = [.Assign [.Name t p1] (.Constant (.str p.w) w p2) p3, .Try [.Expr (.Call (.Name ("call" : Str) p4) [] [] p5) p6] (h0 :: hds) [] [] p7, .Return (some (.Name t p8)) p9] ∧
    scB [("call" : Str), t] [("call" : Str)] sc = true ∧ loc1B sc t = true ∧ loc1B sc ("call" : Str) = true ∧ okName t = true ∧ hdsB sc t (h0 :: hds) p.hs = true := by
  unfold saidB at h
  split at h
  · rename_i t p1 w k p2 p3 c p4 p5 p6 h0 hds p7 t' p8 p9
    simp only [Bool.and_eq_true, decide_eq_true_eq] at h
    obtain ⟨⟨⟨⟨⟨⟨⟨rfl, rfl⟩, rfl⟩, h4⟩, h5⟩, h6⟩, h7⟩, h8⟩ := h
    exact ⟨_, _, _, _, _, _, _, _, _, _, _, _, _, rfl, h4, h5, h6, h7, h8⟩
  · cases h
theorem loc_1 {X : Cx} {sc : Scope} {x : Str} (hs : X.env.scope = sc) (h : loc1B sc x = true) : X.env.scope.names.lookup x = some .local := by
  rw [hs]; exact loc1_of h
theorem hd_shape {sc : Scope} {t : Str} {b : Str × Str} {e : ExceptHandler} (h : hdB sc t b e = true) : ∃ px pu k pv pa ph, e = .ExceptHandler (some (.Name b.1 px)) none [.Assign [.Name t pu] (.Constant (.str b.2) k pv) pa] ph ∧ glbB sc b.1 = true := by
  unfold hdB at h
  split at h
  · simp only [Bool.and_eq_true, decide_eq_true_eq] at h
    obtain ⟨⟨⟨rfl, rfl⟩, rfl⟩, hg⟩ := h
    exact ⟨_, _, _, _, _, _, rfl, hg⟩
  · cases h
theorem hds_ok {Y : Cx} {sc : Scope} {t : Str} (hN : Y.N = [("call" : Str), t]) (nd : Y.N.Nodup) (hs : Y.env.scope = sc) (hl : loc1B sc t = true) : ∀ (hds : List ExceptHandler) (hs : List (Str × Str)), hdsB sc t hds hs = true → (∀ b ∈ hs, ∃ B, Y.mg b.1 = some (.ref B)) →
    ∃ l, HdsOk Y hds l ∧ ∀ (Wo : WX) (D : Ends) (cls : Value) (d : Option Addr) (σ : L2.St) (H : Hp) (c v : Str), hs.lookup c = some v → (∀ b ∈ hs, ∀ B, Y.mg b.1 = some (.ref B) → PySem.W.exmOne Y.K cls (.ref B) = some (decide (c = b.1))) → D.nx (σ.set 1 (some (.str v))) H → wMany Y.K Wo D l cls d σ H := by
  intro hds
  induction hds with
  | nil =>
    intro hs h _
    cases hs with
    | nil => exact ⟨[], .nil, fun _ _ _ _ _ _ _ _ h => by simp at h⟩
    | cons b s => simp [hdsB] at h
  | cons e r ih =>
    intro hh h hm
    cases hh with
    | nil => simp [hdsB] at h
    | cons b s =>
    obtain ⟨x, v⟩ := b
    simp only [hdsB, Bool.and_eq_true] at h
    obtain ⟨h0, hr⟩ := h
    obtain ⟨px, pu, k, pv, pa, ph, rfl, hg⟩ := hd_shape h0
    obtain ⟨l, hl2, key⟩ := ih s hr fun b hb => hm b (List.mem_cons_of_mem _ hb)
    obtain ⟨B, eB⟩ := hm (x, v) List.mem_cons_self
    obtain ⟨g1, g2⟩ := glb_ok hs hg
    have lc := loc_1 hs hl
    refine ⟨(.ref B, fun _ _ _ => tAsg (tC (.str v)) (gName 1)) :: l, .cons ⟨g1, (okn g2).1, .inl eB⟩ (fun a oe cls d pn _ _ => pss_one ?_) hl2, fun Wo D cls d σ H c w hw hx hq => ?_⟩
    · have hN2 : (Y.suite a ((a, oe) :: pn)).N[1]? = some t := by show Y.N[1]? = _; rw [hN]; rfl
      exact ps_set (X := Y.suite a ((a, oe) :: pn)) (i := 1) (x := t) nd hN2 (.inl lc) pe_str rfl (.inr lc)
    · refine ⟨_, hx (x, v) List.mem_cons_self B eB, fun hb a _ => ?_, fun hb => ?_⟩
      · have : c = x := of_decide_eq_true hb
        subst this
        simp at hw
        subst hw
        exact hq
      · have hne : ¬ c = x := of_decide_eq_false hb
        have hw' : s.lookup c = some w := by
          rw [List.lookup_cons] at hw
          have : (c == x) = false := by simpa using hne
          rw [this] at hw
          exact hw
        exact key Wo D cls d σ H c w hw' (fun b hb => hx b (List.mem_cons_of_mem _ hb)) hq
theorem guards_deeper {A : Around} {env : PySem.Env} (h : A.guards = some []) : (A.deeper env).guards = some [] := h
theorem room_roomy {k : Nat} {A : Around} (r : Room k A) (h : A.guards = some []) : Roomy A := ⟨by have := r.un; omega, h⟩
/-- the situation of a lambda's body -/
theorem Ctx.inLam {X : Cx} {W : WX} {D : Nm} {G : Gls} {C : Fns} {Tb : TbL} (ct : Ctx X W D G C Tb) {n : Nat} {A : Around} {outer : List PySem.Env} {s : Shared} {H : Hp} {E : XK} {scope : Scope} {f c1 : Addr}
    (hl : (∀ x ∈ D.lo.fns, ∃ f fd ps k, X.mg x = some (.ref f) ∧ PySem.W.keepIn X.K (.ref f) = true ∧ Binds X.K fd ps [] ∧ k ≤ n ∧ FnG X.prog X.w X.K X.mg X.base k f fd ps (spF X.K X.mg Tb C x)) ∧
      (∀ p ∈ D.mks, ∃ Cc f fd ps k, X.mg p.1 = some (.ref Cc) ∧ Mk X.K Cc f ∧ Binds X.K fd ps [] ∧ k + 1 ≤ n ∧ FnG X.prog X.w X.K X.mg X.base k f fd ps (spF X.K X.mg Tb C p.2)) ∧
      ∀ p ∈ D.mts, ∃ Cc f fd ps k, X.mg p.1 = some (.ref Cc) ∧ Cls X.K Cc ∧ Meth X.K Cc p.2.1 f ∧ Binds X.K fd ps [] ∧ k ≤ n ∧ FnG X.prog X.w X.K X.mg X.base k f fd ps (spF X.K X.mg Tb C p.2.2))
    (hr : Room n (A.deeper (lamEnv X scope s.heap.objs.size f c1))) (hg : A.guards = some []) : Ctx (lamCx X A outer s H E scope f c1) (fun c d _ H' => E c d H') D.lo G C Tb := by
  obtain ⟨h1, h2, h3⟩ := hl
  refine ⟨rfl, ct.nd, room_roomy hr (guards_deeper hg), takes_of rfl rfl rfl rfl, passes_of rfl, ct.blt, ct.gls, ct.exs, fun x hx => ?_, fun p hp => ?_, fun p hp => ?_, ct.fld, ct.kds, ct.gcs, ct.sds, (fun z => nomatch z), fun z => nomatch z⟩
  · obtain ⟨f, fd, ps, k, q1, q2, q3, q4, q5⟩ := h1 x hx
    exact ⟨f, fd, ps, k, q1, q2, q3, hr.mono q4, q5⟩
  · obtain ⟨Cc, f, fd, ps, k, q1, q2, q3, q4, q5⟩ := h2 p hp
    exact ⟨Cc, f, fd, ps, k, q1, q2, q3, hr.mono q4, q5⟩
  · obtain ⟨Cc, f, fd, ps, k, q1, q2, q3, q4, q5, q6⟩ := h3 p hp
    exact ⟨Cc, f, fd, ps, k, q1, q2, q3, q4, hr.mono q5, q6⟩
theorem noPar_def {a : Arguments} (h : noPar a = true) : a = ⟨[], [], none, [], [], none, []⟩ := by
  obtain ⟨h1, h2, h3, h4, h5, h6, h7⟩ := a
  simp only [noPar, Bool.and_eq_true, List.isEmpty_iff, Option.isNone_iff_eq_none] at h
  obtain ⟨⟨⟨⟨⟨⟨e1, e2⟩, e3⟩, e4⟩, e5⟩, e6⟩, e7⟩ := h
  subst e1; subst e2; subst e3; subst e4; subst e5; subst e6; subst e7
  rfl
/-- x(lambda: ..), x a def that says what its argument raises -/
theorem pe_said {X : Cx} {W : WX} {D : Nm} {G : Gls} {C : Fns} {Tb : TbL} (ct : Ctx X W D G C Tb) (inl : D.inl = true) {p : Sdt} {x : NC.Env → Hv → Res PV} (hp : p ∈ D.sds) (hg : Gl X p.x) (ho : okName p.x = true) {params : Arguments} {body : Expr} {scope : Scope} {lp np pos : Pos} (hn : noPar params = true) (L : LamS X.env.scope scope)
    (ih : ∀ (A : Around) (outer : List PySem.Env) (s : Shared) (H : Hp) (E : XK) (f c1 : Addr), Ctx (lamCx X A outer s H E scope f c1) (fun c d _ H' => E c d H') D.lo G C Tb → PE (lamCx X A outer s H E scope f c1) body (tE X.K X.mg Tb (fun c d _ H' => E c d H') x)) :
    PE X (.Call (.Name p.x np) [.Lambda params body scope lp] [] pos) (tE X.K X.mg Tb W fun e h => saidR p (x e h)) := by
  refine ⟨fun pins s σ H Q I h => ?_⟩
  obtain ⟨j, e, hh, R, En, q⟩ := h
  obtain ⟨g, fd, st, gm, gk, gb, gf, gs, gB, gX⟩ := ct.sds p hp
  obtain ⟨oc, od, kV, doc, pm, an, cdv, ctv, osl, rfl, lk, hcd⟩ := gf.ex
  obtain ⟨c, P, TB, hcode, hmT, hu⟩ := ct.lam inl
  obtain ⟨n, hroom, hl⟩ := ct.low inl
  have eb := noPar_def hn
  subst eb
  obtain ⟨t, w, p1, p2, p3, p4, p5, p6, h0, hds, p7, p8, p9, ebg, b1, b2, b3, b4, b5⟩ := said_shape gs
  refine wpAny_Call_Name_kw (ld_glob I hg gm ?_ (okn ho).1)
  refine PySem.W.callWith_K (h₀ := X.base) I.ok.mod.kin gk ?_ (by rfl) (by rfl)
  show wpAny _ _ (spliced ((false, eval (.Lambda ⟨[], [], none, [], [], none, []⟩ body scope lp) X.env) :: backTo pos (starEach [] X.env))) _ _ s
  refine Calls.spliced_cons (mk_lam I TB hcode (R.tb _ hmT) rfl (L.has I.ok) fun f c1 pmv ctl H1 s1 I1 md t1 hf hfn hfr => ?_)
  refine Calls.spliced_nil ⟨I1.kIn, ?_⟩
  obtain ⟨R1, T1⟩ := made_rl R md hmT hu t1
  have En1 : REnv X.K X.mg j hh.os.length H1 e σ := En.tr T1
  have q1 := Pst.at q T1
  have sc := scope_by b1
  have rc : codeAny (model X.prog X.w) X.A (.call (.ref g) ⟨[.ref f], []⟩) (CR C8.CX0 X.stack X.prog X.w H1 s1 Q C8.E0) s1 := by
    refine run_ofS (N := [("call" : Str), t]) (ps := [("call" : Str)]) (us := [.ref f]) (vs := [.ref f]) (k := n + 1) lk hcd sc hroom I1.env0 (gb s1 [.ref f] I1.kIn rfl) (.cons rfl .nil) rfl fun hr' => ?_
    rw [ebg]
    let Y : Cx := (cxOf C8.CX0 X.prog X.w X.K X.mg X.base [("call" : Str), t] p.x (defScope st) g cdv X.A X.stack s1 H1 C8.E0).nox
    obtain ⟨l, hl2, key⟩ := hds_ok (Y := Y) (sc := defScope st) (t := t) rfl sc.nd rfl b2 (h0 :: hds) p.hs b5 gB
    have lt := loc_1 (X := Y) rfl b2
    have act : ∀ (W' : WX) (pn : List (Addr × PySem.Obj)) (xe : Value → Shared → Prop) (E : XK), Takes (Y.tr pn xe) W' →
        PE (Y.tr pn xe) (.Call (.Name ("call" : Str) p4) [] [] p5) (fun σZ HZ Q => σZ[0]? = some (some (.ref f)) ∧ HZ c1 = some (CodeO c1 (X.env.qual ++ "<lambda>")) ∧ (∀ cls d H', E cls d H' → W' cls d σZ H') ∧ tE X.K X.mg Tb (fun c d _ H' => E c d H') x σ HZ Q) :=
      fun W' pn xe E tk => act_lam (CXg := C8.CX0) (Eg := C8.E0) (i := 0) (Ng := [("call" : Str), t]) I1 L hf hfn hfr rfl tk hr' (fun s' H' hr2 => ih _ _ s' H' E f c1 (ct.inLam hl hr2 (guards_deeper ct.roomy.gd))) rfl (.inl (loc1_of b3))
    have P2 : PS Y (.Try [.Expr (.Call (.Name ("call" : Str) p4) [] [] p5) p6] (h0 :: hds) [] [] p7) _ := ps_try_many (X := Y) (Wout := fun _ _ _ _ => False)
      (tb := fun W' D σZ HZ => ∃ E : XK, σZ[0]? = some (some (.ref f)) ∧ HZ c1 = some (CodeO c1 (X.env.qual ++ "<lambda>")) ∧ (∀ cls d H', E cls d H' → W' cls d σZ H') ∧ tE X.K X.mg Tb (fun c d _ H' => E c d H') x σ HZ fun _ H' => D.nx σZ H')
      rfl rfl L2.takes0 (fun W' pn xe tk _ => ⟨fun pinz sz σz Hz D Iz hz => by
        obtain ⟨E, z1, z2, z3, z4⟩ := hz
        exact (pss_one (ps_expr (act W' pn xe E tk) rfl)).run pinz sz σz Hz D Iz ⟨z1, z2, z3, z4⟩⟩) hl2
    have P1 : PS Y (.Assign [.Name t p1] (.Constant (.str p.w) w p2) p3) (tAsg (tC (.str p.w)) (gName 1)) := ps_set (X := Y) (i := 1) (x := t) sc.nd rfl (.inl lt) pe_str rfl (.inr lt)
    have P3 : PS Y (.Return (some (.Name t p8)) p9) _ := ps_ret (pe_var (X := Y) (i := 1) rfl (.inl lt) (okn b4).1 (okn b4).2.1)
    refine ⟨_, (pss_cons P1 (pss_cons P2 (pss_one P3))).nox, ?_⟩
    refine ⟨fun cls _ H' => ∃ cn C v, cls = .ref C ∧ X.mg cn = some (.ref C) ∧ cn ∈ p.rs ∧ p.hs.lookup cn = some v ∧ Q (.str v) H', rfl, md.code, fun cls d H' hx => ?_, ?_⟩
    · obtain ⟨cn, C, v, rfl, e1, e2, e3, e4⟩ := hx
      exact key _ _ _ d _ _ cn v e3 (fun b hb B eB => gX cn e2 b hb C B e1 eB) ⟨.str v, rfl, e4⟩
    · refine ⟨j, e, hh, R1, En1, ?_⟩
      dsimp only at q1
      show Pst X.K X.mg Tb j hh H1 (x e hh) _ _
      cases hx : x e hh with
      | bad => rw [hx] at q1; exact (show False from q1).elim
      | ok v h2 =>
        rw [hx] at q1
        intro j2 H2 t2 R2 u ru
        exact ⟨.str p.w, rfl, q1 j2 H2 t2 R2 _ (.d (.str _))⟩
      | exc cn fs h2 =>
        rw [hx] at q1
        intro j2 H2 cls d t2 R2 rx
        obtain ⟨C, rfl, e1, _, _⟩ := rx
        have q2 : Pst X.K X.mg Tb j hh H1 (if cn ∈ p.rs then (match p.hs.lookup cn with
          | some v => .ok (.d (.str v)) h2
          | none => .bad) else .bad) (okV X.K X.mg Q) fun c d H' => W c d σ H' := q1
        split at q2
        rotate_left
        · exact (show False from q2).elim
        rename_i hin
        split at q2
        rotate_left
        · exact (show False from q2).elim
        rename_i v hv
        exact ⟨cn, C, v, rfl, e1, hin, hv, q2 j2 H2 t2 R2 _ (.d (.str _))⟩
  refine wpAny_call (codeAny_mono rc ?_)
  rintro (er | fl) s2 hq
  · exact (show False from hq).elim
  · cases fl with
    | ret u => exact I1.after hq
    | next => exact False.elim hq
    | brk => exact False.elim hq
    | cont => exact False.elim hq
end NC
set_option maxHeartbeats 4000000
/-! Expressions: the induction. -/
namespace NC
open PySem PySem.Spec PyProof.Rows L2

theorem chk_noslice {D : Nm} {sc : Scope} {N : List Str} {a : E} {l r s : Option Expr} {p : Pos} : chkE D sc N a (.Slice l r s p) = false := by
  cases a <;> rfl
theorem plain_ix {D : Nm} {sc : Scope} {N : List Str} {a : E} {e : Expr} (h : chkE D sc N a e = true) : PlainIx e := by
  cases e <;> first | exact fun _ _ => rfl | (rw [chk_noslice] at h; cases h)
theorem fold_ok {D : Nm} {sc : Scope} {N : List Str} {it : NC.It} {e : Expr} (h : chkIt D sc N it e = true) (env : PySem.Env) : ∀ x, foldedSetIterable e env x = pure x := by
  cases e <;> first | exact fun _ => rfl | skip
  cases it with
  | of a => simp only [chkIt] at h; cases a <;> simp [chkE, opqB] at h
  | _ => simp [chkIt] at h
section
variable {K : PySem.W.Frag} {mg : Str → Option Value} {W : WX} {σ : L2.St} {H : Hp} {j : Gh} {e : NC.Env} {h : Hv}
theorem thenO {Tb : TbL} {x : NC.Env → Hv → Res (Option PV)} {f : Option Int → Hv → Res PV} {okb : PV → Gh → Hv → Hp → Prop} {Q : Option Int → Hp → Prop} (R : Rl K mg Tb j h H) (E : REnv K mg j h.os.length H e σ) (p : Pst K mg Tb j h H (optI (x e h) f) okb fun c d H' => W c d σ H')
    (w : ∀ o j1 h1 H1, Tr Tb j h H j1 h1 H1 → Rl K mg Tb j1 h1 H1 → REnv K mg j1 h1.os.length H1 e σ → Pst K mg Tb j1 h1 H1 (f o h1) okb (fun c d H' => W c d σ H') → Q o H1) : tO K mg Tb W x σ H Q := by
  refine ⟨j, e, h, R, E, (Pst.bind p).imp fun v j1 h1 H1 t R1 q => ?_⟩
  cases v with
  | none => exact ⟨none, w none j1 h1 H1 t R1 (E.tr t) q, trivial⟩
  | some v =>
    cases v with
    | d y =>
      cases y with
      | int i => exact ⟨some i, w (some i) j1 h1 H1 t R1 (E.tr t) q, rfl⟩
      | _ => exact (show False from q).elim
    | _ => exact (show False from q).elim
end
variable {D : Nm} {G : Gls} {C : Fns}
theorem isLst_ty {Tb : TbL} {X : Cx} {j : Gh} {h : Hv} {H : Hp} {v : PV} {u : V} (R : Rl X.K X.mg Tb j h H) (rv : RV X.K X.mg j h.os.length H v u) (hl : isLst v h = true) : tyV X.K "list" u H := by
  unfold isLst at hl
  split at hl
  · split at hl
    · rename_i e
      cases rv with
      | ref hi =>
        obtain ⟨_, vs, e1, _⟩ := obj_lst R e
        exact .inl ⟨rfl, _, .of e1⟩
    · cases hl
  · cases hl
/-- a method of one argument -/
theorem call1 {Tb : TbL} {X : Cx} {W : WX} {x : NC.Env → Hv → Res PV} {f : PV → List PV → Hv → Res PV} {r : V → List V → Hp → VK → Prop} {j : Gh} {e : NC.Env} {h : Hv} {H : Hp} {σ : L2.St} {v : PV} {u : V} {Q : VK} (R : Rl X.K X.mg Tb j h H) (E : REnv X.K X.mg j h.os.length H e σ) (rv : RV X.K X.mg j h.os.length H v u)
    (p : Pst X.K X.mg Tb j h H (if isLst v h then (Res.bind (Res.bind (x e h) fun y h1 => (Res.ok [] h1).bind fun xs h2 => .ok (y :: xs) h2)) fun vs h2 => f v vs h2 else .bad) (okV X.K X.mg Q) fun c d H' => W c d σ H')
    (hs : ∀ {v : PV} {ys : List PV} {u : V} {vs : List V} {j : Gh} {h : Hv} {H : Hp} {Q : VK} {ek : XK}, Rl X.K X.mg Tb j h H → RV X.K X.mg j h.os.length H v u → RVs X.K X.mg j h.os.length H ys vs → Pst X.K X.mg Tb j h H (f v ys h) (okV X.K X.mg Q) ek → r u vs H Q) :
    tyV X.K "list" u H ∧ tCons (tE X.K X.mg Tb W x) tNil σ H fun xs H2 => r u xs H2 Q := by
  split at p
  · rename_i hl
    refine ⟨isLst_ty R rv hl, ?_⟩
    have p' : Pst X.K X.mg Tb j h H ((x e h).bind fun y h1 => f v [y] h1) (okV X.K X.mg Q) fun c d H' => W c d σ H' := by
      revert p
      cases x e h <;> exact id
    exact thenE R E p' fun y w j1 h1 H1 t R1 E1 rw p1 => hs R1 (rv.tr t) (.cons rw .nil) p1
  · exact (show False from p).elim
theorem meth_pe {Tb : TbL} (X : Cx) (W : WX) {b : E} {m : Str} {es : List E} {ees : List Expr} {eb : Expr} {apos pos : Pos} (hm : bmName m es = true) (hl : (apos.endLine == pos.line) = true) (hb : okBase eb = true) (pv : PE X eb (tE X.K X.mg Tb W (ev G C b))) (hs : chkEs D X.env.scope X.N es ees = true)
  (ih : ∀ a ea, es = [a] → ees = [ea] → PE X ea (tE X.K X.mg Tb W (ev G C a))) : PE X (.Call (.Attribute eb m apos) ees [] pos) (tE X.K X.mg Tb W (ev G C (.meth b m es))) := by
  match es, ees, hm, hs with
  | [], [], hm, hs =>
    have e1 : m = "pop" := by simpa [bmName] using hm
    subst e1
    refine (pe_bm0 PySem.F.plainAttrs_list PySem.F.slot_list_pop PySem.F.type_list_pop mt_pop pv (base_ok hb) hl).imp fun σ H Q q => ?_
    obtain ⟨j, e, hh, R, E, p⟩ := q
    refine thenE R E p fun v u j1 h1 H1 t R1 E1 rv p1 => ?_
    have p2 : Pst X.K X.mg Tb j1 h1 H1 (if isLst v h1 then NC.meth "pop" v [] h1 else .bad) (okV X.K X.mg Q) fun c d H' => W c d σ H' := p1
    split at p2
    · rename_i hl
      exact ⟨isLst_ty R1 rv hl, meth_snd (X := X) (Tb := Tb) "pop" v [] u [] j1 h1 H1 Q _ R1 rv .nil p2⟩
    · exact (show False from p2).elim
  | [a], [ea], hm, hs =>
    simp only [chkEs, Bool.and_eq_true] at hs
    have iha := ih a ea rfl rfl
    have hst := star_cons (es := []) (env := X.env) (chk_ns hs.1)
    by_cases e1 : m = "append"
    · subst e1
      refine (pe_bm PySem.F.plainAttrs_list PySem.F.slot_list_append PySem.F.type_list_append mt_append pv (pa_cons iha pa_nil hst) (base_ok hb) (by rw [hst]; rfl) hl hst rfl).imp fun σ H Q q => ?_
      obtain ⟨j, e, hh, R, E, p⟩ := q
      refine thenE R E p fun v u j1 h1 H1 t R1 E1 rv p1 => ?_
      have p2 : Pst X.K X.mg Tb j1 h1 H1 (if isLst v h1 then (Res.bind (Res.bind (ev G C a e h1) fun x h1 => (Res.ok [] h1).bind fun xs h2 => .ok (x :: xs) h2)) fun vs h2 => NC.meth "append" v vs h2 else .bad) (okV X.K X.mg Q) fun c d H' => W c d σ H' := p1
      exact call1 (x := ev G C a) (f := NC.meth "append") (r := rAppend) R1 E1 rv p2 (fun {v ys u vs j h H Q ek} R rv rvs p => meth_snd (X := X) (Tb := Tb) "append" v ys u vs j h H Q ek R rv rvs p)
    · have e2 : m = "extend" := by simpa [bmName, e1] using hm
      subst e2
      refine (pe_bm PySem.F.plainAttrs_list PySem.F.slot_list_extend PySem.F.type_list_extend mt_extend pv (pa_cons iha pa_nil hst) (base_ok hb) (by rw [hst]; rfl) hl hst rfl).imp fun σ H Q q => ?_
      obtain ⟨j, e, hh, R, E, p⟩ := q
      refine thenE R E p fun v u j1 h1 H1 t R1 E1 rv p1 => ?_
      have p2 : Pst X.K X.mg Tb j1 h1 H1 (if isLst v h1 then (Res.bind (Res.bind (ev G C a e h1) fun x h1 => (Res.ok [] h1).bind fun xs h2 => .ok (x :: xs) h2)) fun vs h2 => NC.meth "extend" v vs h2 else .bad) (okV X.K X.mg Q) fun c d H' => W c d σ H' := p1
      exact call1 (x := ev G C a) (f := NC.meth "extend") (r := rExtend) R1 E1 rv p2 (fun {v ys u vs j h H Q ek} R rv rvs p => meth_snd (X := X) (Tb := Tb) "extend" v ys u vs j h H Q ek R rv rvs p)
  | [], _ :: _, _, hs => simp [chkEs] at hs
  | [_], [], _, hs => simp [chkEs] at hs
  | [_], _ :: _ :: _, _, hs => simp [chkEs] at hs
  | _ :: _ :: _, _, hm, _ => simp [bmName] at hm
theorem insOf_ty {X : Cx} {W : WX} : True := trivial
/-- a call as a rule for the new instance -/
theorem make_snd {Tb : TbL} {X : Cx} {c k : Str} {Cc : Addr} {vs : List PV} {us : List V} {j : Gh} {h : Hv} {H : Hp} {Q : VK} {ek : XK} (hm : X.mg c = some (.ref Cc)) (R : Rl X.K X.mg Tb j h H) (rv : RVs X.K X.mg j h.os.length H vs us)
    (p : Pst X.K X.mg Tb j h H ((newO (.ins c []) h).bind fun x h2 => (C k (x :: vs) h2).bind fun y h3 => match y with
      | .d .none => .ok x h3
      | _ => .bad) (okV X.K X.mg Q) ek) :
    ∀ x dx, H x = none → H dx = none → dx ≠ x → spF X.K X.mg Tb C k (.ref x :: us) (upd (upd H dx (.own x)) x (.ins Cc dx [])) (fun v H2 => v = .non ∧ Q (.ref x) H2) ek := by
  intro x dx hx hdx hne
  have R1 : Rl X.K X.mg Tb j h (upd H dx (.own x)) := R.new hdx
  have T1 : Tr Tb j h H j h (upd H dx (.own x)) := Tr.new R hdx
  have hx1 : upd H dx (.own x) x = none := by rw [upd_ne (Ne.symm hne)]; exact hx
  have T2 := Tr.add (u := .ins c []) (o := .ins Cc dx []) R1 hx1
  have R2 : Rl X.K X.mg Tb (j.grow h.os.length x) { h with os := h.os ++ [.ins c []] } (upd (upd H dx (.own x)) x (.ins Cc dx [])) := Rl.add R1 hx1 ⟨Cc, dx, [], upd_same, hm, trivial⟩
  have ru := RV.ref (K := X.K) (mg := X.mg) (j := j.grow h.os.length x) (n := (h.os ++ [Ob.ins c []]).length) (H := upd (upd H dx (.own x)) x (.ins Cc dx [])) (i := h.os.length) (by rw [List.length_append]; exact Nat.lt_succ_self _)
  have ex : (j.grow h.os.length x).at_ h.os.length = x := grow_eq
  rw [ex] at ru
  have p' : Pst X.K X.mg Tb j h H (Res.bind (C k (.ref h.os.length :: vs) { h with os := h.os ++ [.ins c []] }) fun y h3 => match y with
      | .d .none => .ok (.ref h.os.length) h3
      | _ => .bad) (okV X.K X.mg Q) ek := p
  refine ⟨_, _, _, R2, .cons ru (rv.tr (T1.trans T2)), ?_⟩
  refine (Pst.bind (Pst.at p' (T1.trans T2))).imp fun y j3 h3 H3 t3 R3 p3 v rvv => ?_
  cases y with
  | d y =>
    cases y with
    | none =>
      cases rvv with
      | d rvv =>
        cases rvv
        refine ⟨rfl, ?_⟩
        have lt : h.os.length < h3.os.length := by
          have := t3.sh.le
          simp at this
          omega
        have ru3 := RV.ref (K := X.K) (mg := X.mg) (j := j3) (n := h3.os.length) (H := H3) (i := h.os.length) lt
        rw [t3.ag h.os.length (by simp), ex] at ru3
        exact (Pst.here (ok1 := okV X.K X.mg Q) p3 R3) _ ru3
    | _ => exact (show False from p3).elim
  | _ => exact (show False from p3).elim
theorem mayCall_at {Tb : TbL} {X : Cx} {c m : Str} {x : PV} {u : V} {j : Gh} {h : Hv} {H : Hp} {Cc : Addr} (hm : X.mg c = some (.ref Cc)) (R : Rl X.K X.mg Tb j h H) (rx : RV X.K X.mg j h.os.length H x u) (e : mayCall c m x h = true) :
    ∃ a dx fv, u = .ref a ∧ H a = some (.ins Cc dx fv) ∧ fv.lookup m = none := by
  unfold mayCall at e
  split at e
  · rename_i n fs hi
    obtain ⟨rfl, rfl, hn, ho, C', dx, fv, e1, e2, r⟩ := obj_ins R rx hi
    rw [hm] at e2
    cases e2
    refine ⟨_, dx, fv, rfl, e1, ?_⟩
    rcases lookup_rfs m r with ⟨_, z⟩ | ⟨p, v, z, _⟩
    · exact z
    · rw [z] at e; cases e
  · cases e
theorem isDct_at {Tb : TbL} {X : Cx} {x : PV} {u : V} {j : Gh} {h : Hv} {H : Hp} (R : Rl X.K X.mg Tb j h H) (rx : RV X.K X.mg j h.os.length H x u) (e : isDct x h = true) : ∃ a, u = .ref a ∧ IsD H a := by
  unfold isDct at e
  split at e
  · split at e
    · rename_i ho
      cases rx with
      | ref hi =>
        obtain ⟨_, ws, e1, _⟩ := obj_dct R ho
        exact ⟨_, rfl, .inl ⟨ws, .inl e1⟩⟩
    · cases e
  · cases e
theorem get_snd {Tb : TbL} {X : Cx} {x y : PV} {u v : V} {j : Gh} {h : Hv} {H : Hp} {Q : VK} {ek : XK} {a : Addr} (ea : u = .ref a) (R : Rl X.K X.mg Tb j h H) (rx : RV X.K X.mg j h.os.length H x u) (ry : RV X.K X.mg j h.os.length H y v)
    (p : Pst X.K X.mg Tb j h H (getM x y h) (okV X.K X.mg Q) ek) : ∃ o, DGet H a v o ∧ Q (o.getD .non) H := by
  unfold getM at p
  split at p
  rotate_left
  · exact (show False from p).elim
  cases rx with | ref hi =>
  cases ea
  split at p
  rotate_left
  · exact (show False from p).elim
  rename_i ho
  split at p
  rotate_left
  · exact (show False from p).elim
  rename_i k hk
  obtain ⟨_, ws, e1, q⟩ := obj_dct R ho
  cases ry with | d ry =>
  have ev : v = kV k := by cases ry <;> simp [keyD] at hk <;> subst hk <;> rfl
  subst ev
  refine ⟨_, DGet.k e1, ?_⟩
  rcases q.get k with ⟨z1, z2⟩ | ⟨d, w, z1, z2, rd⟩
  · rw [z2]
    rw [z1] at p
    exact (Pst.here (ok1 := okV X.K X.mg Q) p R) _ (.d .non)
  · rw [z2]
    rw [z1] at p
    exact (Pst.here (ok1 := okV X.K X.mg Q) p R) _ (.d rd)
theorem no_tE {Tb : TbL} {X : Cx} {W : WX} {x : NC.Env → Hv → Res PV} {σ : L2.St} {H : Hp} {Q : VK} (hx : ∀ e h, x e h = .bad) (q : tE X.K X.mg Tb W x σ H Q) : False := by
  obtain ⟨j, e, hh, R, E, p⟩ := q
  rw [hx] at p
  exact p
theorem no_tT {Tb : TbL} {X : Cx} {W : WX} {x : NC.Env → Hv → Res PV} {σ : L2.St} {H : Hp} {Q : Bool → Hp → Prop} (hx : ∀ e h, x e h = .bad) (q : tT X.K X.mg Tb W x σ H Q) : False := by
  obtain ⟨j, e, hh, R, E, p⟩ := q
  rw [hx] at p
  exact p
mutual
theorem e_snd {Tb : TbL} : ∀ (a : E) {D : Nm} (X : Cx) (W : WX), Ctx X W D G C Tb → ∀ (e : Expr), chkE D X.env.scope X.N a e = true → Snd Tb X W e (ev G C a)
  | .cst c, D, X, W, ct, e, h => by
    cases e <;> first | (simp [chkE] at h; done) | skip
    simp only [chkE] at h
    exact .val (chkC_pe h) (fun _ => rfl) (fun _ _ _ z => nomatch z)
  | .var i, D, X, W, ct, e, h => by
    cases e <;> first | (simp [chkE] at h; done) | skip
    simp only [chkE, Bool.and_eq_true] at h
    refine .val ((pe_var (of_decide_eq_true h.1.1) (vis_of h.1.2) (okn h.2).1 (okn h.2).2.1).imp fun σ H Q q => ?_) (fun _ => rfl) (fun _ _ _ z => nomatch z)
    obtain ⟨j, e, hh, R, E, p⟩ := q
    unfold ev at p
    split at p
    · rename_i v hv
      obtain ⟨u, h1, h2⟩ := E.2 i v hv
      exact ⟨u, h1, p.here R _ h2⟩
    · exact (show False from p).elim
  | .glb x, D, X, W, ct, e, h => by
    cases e <;> first | (simp [chkE] at h; done) | skip
    rename_i y pos
    simp only [chkE, Bool.and_eq_true, decide_eq_true_eq] at h
    obtain ⟨rfl, h⟩ := h
    obtain ⟨hg, ho⟩ := glb_of h
    have pe : PE X (.Name x pos) (tE X.K X.mg Tb W (ev G C (.glb x))) := by
      cases hG : G x with
      | none =>
        refine ⟨fun pins s σ H Q I q => ?_⟩
        obtain ⟨j, e, hh, R, E, p⟩ := q
        unfold ev at p
        rw [hG] at p
        exact (show False from p).elim
      | some v =>
        obtain ⟨u, cv, hm, r, hr⟩ := ct.gls x v hG
        refine (pe_glob hg hm r (okn ho).1).imp fun σ H Q q => ?_
        obtain ⟨j, e, hh, R, E, p⟩ := q
        unfold ev at p
        rw [hG] at p
        exact (Pst.here (ok1 := okV X.K X.mg Q) p R) _ (hr _ _ _)
    exact .val pe (fun _ => rfl) (fun _ _ _ z => nomatch z)
  | .gc v, D, X, W, ct, e, h => by
    cases e <;> first | (simp [chkE] at h; done) | skip
    rename_i y pos
    simp only [chkE, Bool.and_eq_true, decide_eq_true_eq, List.any_eq_true] at h
    obtain ⟨hg, ⟨px, pv⟩, hp, e1, e2⟩ := h
    have e1 : px = y := e1
    have e2 := sameD_eq _ _ e2
    subst e1
    dsimp only at e2
    subst e2
    obtain ⟨u, cv, hm, r, hr⟩ := ct.gcs _ hp
    refine .val ((pe_glob (glb_of hg).1 hm r (okn (glb_of hg).2).1).imp fun σ H Q q => ?_) (fun _ => rfl) (fun _ _ _ z => nomatch z)
    obtain ⟨j, e, hh, R, E, p⟩ := q
    exact (Pst.here (ok1 := okV X.K X.mg Q) p R) _ (.d (hr _ _))
  | .bin o a b, D, X, W, ct, e, h => by
    cases e <;> first | (simp [chkE] at h; done) | skip
    simp only [chkE, Bool.and_eq_true] at h
    obtain ⟨r, ho, hs⟩ := op_snd (X := X) (Tb := Tb) h.1.1
    exact .val ((pe_op ho (e_snd a X W ct _ h.1.2).pe (e_snd b X W ct _ h.2).pe).imp fun σ H Q q => sq2 hs q) (fun _ => rfl) (fun _ _ _ z => nomatch z)
  | .neg a, D, X, W, ct, e, h => by
    cases e <;> first | (simp [chkE] at h; done) | skip
    rename_i op ea p
    cases op <;> first | (simp [chkE] at h; done) | skip
    simp only [chkE] at h
    refine .val ((pe_un un_neg (e_snd a X W ct _ h).pe).imp fun σ H Q q => ?_) (fun _ => rfl) (fun _ _ _ z => nomatch z)
    refine sq1 (f := fun x h1 => match x with | .d (.int i) => .ok (.d (.int (-i))) h1 | _ => .bad) (fun x u j hh H Q ek R rx p => ?_) q
    dsimp only at p
    split at p
    · cases rx with | d rx => cases rx with | int _ => exact ⟨_, rfl, p.here R _ (.d (.int _))⟩
    · exact (show False from p).elim
  | .not a, D, X, W, ct, e, h => by
    cases e <;> first | (simp [chkE] at h; done) | skip
    rename_i op ea p
    cases op <;> first | (simp [chkE] at h; done) | skip
    simp only [chkE] at h
    have ih := e_snd a X W ct _ h
    refine ⟨(pe_not ih.pe).imp fun σ H Q q => ?_, (pt_not ih.pt).imp fun σ H Q q => ?_, fun _ _ _ z => nomatch z⟩
    · obtain ⟨j, e, hh, R, E, p⟩ := q
      exact thenV R E p fun b j1 h1 H1 t R1 E1 p1 => ⟨b, rfl, (Pst.here (ok1 := okV X.K X.mg Q) p1 R1) _ (.d (.bl _))⟩
    · obtain ⟨j, e, hh, R, E, p⟩ := q
      refine thenT R E p fun b j1 h1 H1 t R1 E1 p1 => ?_
      obtain ⟨b', e1, q1⟩ := Pst.here (ok1 := okB Q) p1 R1
      cases e1
      exact q1
  | .and a b, D, X, W, ct, e, h => by
    cases e <;> first | (simp [chkE] at h; done) | skip
    rename_i op vs p
    cases op <;> first | (simp [chkE] at h; done) | skip
    match vs, h with
    | [], h => simp [chkE] at h
    | [_], h => simp [chkE] at h
    | ea :: eb :: r, h =>
    simp only [chkE, Bool.and_eq_true] at h
    have iha := e_snd a X W ct _ h.1
    have ihb := e_snd b X W ct _ h.2
    have hb : PE X (.BoolOp .And (eb :: r) p) (tE X.K X.mg Tb W (ev G C b)) ∧ PW X (.BoolOp .And (eb :: r) p) (tT X.K X.mg Tb W (ev G C b)) := by
      cases r with
      | nil => exact ⟨pe_one ihb.pe, pw_and1 ihb.pt⟩
      | cons ec r => exact ⟨ihb.pe, ihb.pw _ _ _ rfl⟩
    have tt : ∀ σ H Q, tT X.K X.mg Tb W (ev G C (.and a b)) σ H Q → tAnd (tT X.K X.mg Tb W (ev G C a)) (tT X.K X.mg Tb W (ev G C b)) σ H Q := fun σ H Q q => by
      obtain ⟨j, e, hh, R, E, p⟩ := q
      refine thenT R E p fun c j1 h1 H1 t R1 E1 p1 => ?_
      cases c with
      | false =>
        obtain ⟨b', e1, q1⟩ := Pst.here (ok1 := okB Q) p1 R1
        cases e1
        exact q1
      | true =>
        refine thenT R1 E1 p1 fun c j2 h2 H2 t2 R2 E2 p2 => ?_
        obtain ⟨b', e1, q1⟩ := Pst.here (ok1 := okB Q) p2 R2
        cases e1
        exact q1
    refine ⟨(pe_and iha.pe hb.1).imp fun σ H Q q => ?_, (pw_and iha.pt hb.2).pt.imp tt, fun op' vs' p' z => ?_⟩
    · obtain ⟨j, e, hh, R, E, p⟩ := q
      refine thenV R E p fun c j1 h1 H1 t R1 E1 p1 => ⟨c, rfl, ?_⟩
      cases c with
      | false => exact (Pst.here (ok1 := okV X.K X.mg Q) p1 R1) _ (.d (.bl _))
      | true =>
        refine thenV R1 E1 p1 fun c j2 h2 H2 t2 R2 E2 p2 => ?_
        exact (Pst.here (ok1 := okV X.K X.mg Q) p2 R2) _ (.d (.bl _))
    · cases z
      exact (pw_and iha.pt hb.2).imp tt
  | .or a b, D, X, W, ct, e, h => by
    cases e <;> first | (simp [chkE] at h; done) | skip
    rename_i op vs p
    cases op <;> first | (simp [chkE] at h; done) | skip
    match vs, h with
    | [], h => simp [chkE] at h
    | [_], h => simp [chkE] at h
    | ea :: eb :: r, h =>
    simp only [chkE, Bool.and_eq_true] at h
    have iha := e_snd a X W ct _ h.1
    have ihb := e_snd b X W ct _ h.2
    have hb : PE X (.BoolOp .Or (eb :: r) p) (tE X.K X.mg Tb W (ev G C b)) ∧ PW X (.BoolOp .Or (eb :: r) p) (tT X.K X.mg Tb W (ev G C b)) := by
      cases r with
      | nil => exact ⟨pe_one ihb.pe, pw_or1 ihb.pt⟩
      | cons ec r => exact ⟨ihb.pe, ihb.pw _ _ _ rfl⟩
    have tt : ∀ σ H Q, tT X.K X.mg Tb W (ev G C (.or a b)) σ H Q → tOr (tT X.K X.mg Tb W (ev G C a)) (tT X.K X.mg Tb W (ev G C b)) σ H Q := fun σ H Q q => by
      obtain ⟨j, e, hh, R, E, p⟩ := q
      refine thenT R E p fun c j1 h1 H1 t R1 E1 p1 => ?_
      cases c with
      | true =>
        obtain ⟨b', e1, q1⟩ := Pst.here (ok1 := okB Q) p1 R1
        cases e1
        exact q1
      | false =>
        refine thenT R1 E1 p1 fun c j2 h2 H2 t2 R2 E2 p2 => ?_
        obtain ⟨b', e1, q1⟩ := Pst.here (ok1 := okB Q) p2 R2
        cases e1
        exact q1
    refine ⟨(pe_or iha.pe hb.1).imp fun σ H Q q => ?_, (pw_or iha.pt hb.2).pt.imp tt, fun op' vs' p' z => ?_⟩
    · obtain ⟨j, e, hh, R, E, p⟩ := q
      refine thenV R E p fun c j1 h1 H1 t R1 E1 p1 => ⟨c, rfl, ?_⟩
      cases c with
      | true => exact (Pst.here (ok1 := okV X.K X.mg Q) p1 R1) _ (.d (.bl _))
      | false =>
        refine thenV R1 E1 p1 fun c j2 h2 H2 t2 R2 E2 p2 => ?_
        exact (Pst.here (ok1 := okV X.K X.mg Q) p2 R2) _ (.d (.bl _))
    · cases z
      exact (pw_or iha.pt hb.2).imp tt
  | .cmp o a b, D, X, W, ct, e, h => by
    cases e <;> first | (simp [chkE] at h; done) | skip
    rename_i ea ops es p
    match ops, es, h with
    | [op], [eb], h =>
      simp only [chkE, Bool.and_eq_true, Bool.not_eq_true'] at h
      obtain ⟨r, ho, hs⟩ := cm_snd (X := X) (Tb := Tb) ct.roomy h.1.1.1
      have iha := e_snd a X W ct _ h.1.2
      have ihb := e_snd b X W ct _ h.2
      exact ⟨(pe_cmpR ho iha.pe ihb.pe h.1.1.2).imp fun σ H Q q => sq2 hs q, (pt_cmpR ho iha.pe ihb.pe h.1.1.2).imp fun σ H Q q => sq2 hs (tT_of q), fun _ _ _ z => nomatch z⟩
    | [], _, h => simp [chkE] at h
    | [_], [], h => simp [chkE] at h
    | [_], _ :: _ :: _, h => simp [chkE] at h
    | _ :: _ :: _, _, h => simp [chkE] at h
  | .cmp2 o o' a b c, D, X, W, ct, e, h => by
    cases e <;> first | (simp [chkE] at h; done) | skip
    rename_i ea ops es p
    match ops, es, h with
    | [op, op'], [eb, ec], h =>
      simp only [chkE, Bool.and_eq_true, Bool.not_eq_true'] at h
      obtain ⟨⟨⟨⟨⟨h1, h2⟩, h3⟩, h4⟩, h5⟩, h6⟩ := h
      obtain ⟨r, ho, hs⟩ := cm_snd (X := X) (Tb := Tb) ct.roomy h1
      obtain ⟨r', ho', hs'⟩ := cm_snd (X := X) (Tb := Tb) ct.roomy h2
      have iha := e_snd a X W ct _ h4
      have ihb := e_snd b X W ct _ h5
      have ihc := e_snd c X W ct _ h6
      have hm : lastMarks [op, op'] [eb, ec] = false := h3
      exact ⟨(pe_chain ho ho' iha.pe ihb.pe ihc.pe hm).imp fun σ H Q q => sqC hs hs' q, (pt_chain ho ho' iha.pe ihb.pe ihc.pe hm).imp fun σ H Q q => sqC hs hs' (tT_of q), fun _ _ _ z => nomatch z⟩
    | [], _, h => simp [chkE] at h
    | [_], _, h => simp [chkE] at h
    | [_, _], [], h => simp [chkE] at h
    | [_, _], [_], h => simp [chkE] at h
    | [_, _], _ :: _ :: _ :: _, h => simp [chkE] at h
    | _ :: _ :: _ :: _, _, h => simp [chkE] at h
  | .ite c a b, D, X, W, ct, e, h => by
    cases e <;> first | (simp [chkE] at h; done) | skip
    simp only [chkE, Bool.and_eq_true] at h
    have ihc := e_snd c X W ct _ h.1.1
    have iha := e_snd a X W ct _ h.1.2
    have ihb := e_snd b X W ct _ h.2
    refine ⟨(pe_ifExp ihc.pt iha.pe ihb.pe).imp fun σ H Q q => ?_, (pt_ifE ihc.pt iha.pt ihb.pt).imp fun σ H Q q => ?_, fun _ _ _ z => nomatch z⟩
    · obtain ⟨j, e, hh, R, E, p⟩ := q
      refine thenT R E p fun k j1 h1 H1 t R1 E1 p1 => ?_
      cases k with
      | true => exact ⟨j1, e, h1, R1, E1, p1⟩
      | false => exact ⟨j1, e, h1, R1, E1, p1⟩
    · obtain ⟨j, e, hh, R, E, p⟩ := q
      refine thenT R E p fun k j1 h1 H1 t R1 E1 p1 => ?_
      cases k with
      | true => exact ⟨j1, e, h1, R1, E1, p1⟩
      | false => exact ⟨j1, e, h1, R1, E1, p1⟩
  | .call x es, D, X, W, ct, e, h => by
    cases e <;> first | (simp [chkE] at h; done) | skip
    rename_i ef ees kws p
    cases ef <;> first | (simp [chkE] at h; done) | skip
    cases kws <;> first | (simp [chkE] at h; done) | skip
    rename_i y py
    simp only [chkE, Bool.and_eq_true, decide_eq_true_eq] at h
    obtain ⟨⟨⟨rfl, hg⟩, hx⟩, hs⟩ := h
    obtain ⟨g1, g2⟩ := glb_of hg
    have ih := es_snd es X W ct _ hs
    refine .val ?_ (fun _ => rfl) (fun _ _ _ z => nomatch z)
    cases es with
    | nil =>
      cases ees with
      | cons _ _ => simp [chkEs] at hs
      | nil =>
        refine (pe_callG0 ct hx g1 g2).imp fun σ H Q q => ?_
        obtain ⟨j, e, hh, R, E, p⟩ := q
        exact ⟨j, hh, [], R, .nil, p⟩
    | cons a as =>
      cases ees with
      | nil => simp [chkEs] at hs
      | cons e0 es0 =>
        refine (pe_callG ct hx g1 g2 hs ih).imp fun σ H Q q => ?_
        obtain ⟨j, e, hh, R, E, p⟩ := q
        exact thenA R E p fun vs us j1 h1 H1 t R1 E1 rv p1 => ⟨j1, h1, vs, R1, rv, p1⟩
  | .callv f es, D, X, W, ct, e, h => by
    cases e <;> simp [chkE] at h
  | .bi b a, D, X, W, ct, e, h => by
    cases e <;> first | (simp [chkE] at h; done) | skip
    rename_i ef ees kws p
    cases ef <;> first | (simp [chkE] at h; done) | skip
    cases kws <;> first | (simp [chkE] at h; done) | skip
    match ees, h with
    | [ea], h =>
      simp only [chkE, Bool.and_eq_true, decide_eq_true_eq] at h
      obtain ⟨⟨rfl, hg⟩, h'⟩ := h
      obtain ⟨r, hc, hs⟩ := bi_snd (X := X) (Tb := Tb) b ct.roomy ct.calm
      exact .val ((hc _ _ _ _ (chk_ns h') (e_snd a X W ct _ h').pe (glb_of hg).1 (ct.blt _ (bi_mem b))).imp fun σ H Q q => sq1 hs q) (fun _ => rfl) (fun _ _ _ z => nomatch z)
    | [], h => simp [chkE] at h
    | _ :: _ :: _, h => simp [chkE] at h
  | .isi t a, D, X, W, ct, e, h => by
    cases e <;> first | (simp [chkE] at h; done) | skip
    rename_i ef ees kws p
    cases ef <;> first | (simp [chkE] at h; done) | skip
    cases kws <;> first | (simp [chkE] at h; done) | skip
    match ees, h with
    | [ea, et], h =>
      cases et <;> first | (simp [chkE] at h; done) | skip
      simp only [chkE, Bool.and_eq_true, decide_eq_true_eq] at h
      obtain ⟨⟨⟨⟨rfl, hg⟩, rfl⟩, hg2⟩, h'⟩ := h
      obtain ⟨r, hc, hs⟩ := isi_snd (X := X) (Tb := Tb) t
      exact .val ((hc _ _ _ _ _ (chk_ns h') (e_snd a X W ct _ h').pe (glb_of hg).1 (ct.blt _ (by decide)) (glb_of hg2).1 (ct.blt _ (ty_mem t))).imp fun σ H Q q => sq1 hs q) (fun _ => rfl) (fun _ _ _ z => nomatch z)
    | [], h => simp [chkE] at h
    | [_], h => simp [chkE] at h
    | _ :: _ :: _ :: _, h => simp [chkE] at h
  | .tup es, D, X, W, ct, e, h => by
    cases e <;> first | (simp [chkE] at h; done) | skip
    simp only [chkE] at h
    refine .val ((pe_tup (es_snd es X W ct _ h)).imp fun σ H Q q => ?_) (fun _ => rfl) (fun _ _ _ z => nomatch z)
    obtain ⟨j, e, hh, R, E, p⟩ := q
    refine thenA R E p fun vs us j1 h1 H1 t R1 E1 rv p1 => ?_
    split at p1
    · rename_i hz
      exact ⟨by rw [← rv.length]; exact lnOk_le hz, fun a ha => p1 j1 _ (Tr.new R1 ha) (R1.new ha) _ (RV.mkTup R1 ha rv)⟩
    · exact (show False from p1).elim
  | .lst m es, D, X, W, ct, e, h => by
    cases e <;> first | (simp [chkE] at h; done) | skip
    simp only [chkE] at h
    refine .val ((pe_lst (es_snd es X W ct _ h)).imp fun σ H Q q => ?_) (fun _ => rfl) (fun _ _ _ z => nomatch z)
    obtain ⟨j, e, hh, R, E, p⟩ := q
    refine thenA R E p fun vs us j1 h1 H1 t R1 E1 rv p1 => ?_
    split at p1
    · rename_i ds hd
      have rd := rv.toD hd
      split at p1
      · rename_i hz
        refine ⟨by rw [← rd.length]; exact lnOk_le hz, ?_⟩
        split at p1
        · intro a ha
          have q := p1 (j1.grow h1.os.length a) _ (Tr.add R1 ha) (R1.add ha (u := .lst ds) ⟨us, upd_same, RDs.mono (R1.kp ha) _ _ rd⟩) _ (.ref (by simp))
          rw [grow_eq] at q
          exact q
        · exact fin_lst R1 rd p1
      · exact (show False from p1).elim
    · exact (show False from p1).elim
  | .ix a i, D, X, W, ct, e, h => by
    cases e <;> first | (simp [chkE] at h; done) | skip
    simp only [chkE, Bool.and_eq_true] at h
    obtain ⟨r, hr, hs⟩ := ix_snd (X := X) (Tb := Tb) ct.roomy
    exact .val ((pe_ix hr (e_snd a X W ct _ h.1).pe (e_snd i X W ct _ h.2).pe (plain_ix h.2)).imp fun σ H Q q => sq2 hs q) (fun _ => rfl) (fun _ _ _ z => nomatch z)
  | .slc a lo hi, D, X, W, ct, e, h => by
    cases e <;> first | (simp [chkE] at h; done) | skip
    rename_i ea es p
    cases es <;> first | (simp [chkE] at h; done) | skip
    rename_i el er est p2
    cases est <;> first | (simp [chkE] at h; done) | skip
    simp only [chkE, Bool.and_eq_true] at h
    obtain ⟨r, hr, hs⟩ := slc_snd (X := X) (Tb := Tb)
    refine .val ((pe_slice hr (e_snd a X W ct _ h.1.1).pe (eo_snd lo X W ct _ h.1.2) (eo_snd hi X W ct _ h.2)).imp fun σ H Q q => ?_) (fun _ => rfl) (fun _ _ _ z => nomatch z)
    obtain ⟨j, e, hh, R, E, p⟩ := q
    refine thenE R E p fun v u j1 h1 H1 t R1 E1 ru p1 => thenO R1 E1 p1 fun l j2 h2 H2 t2 R2 E2 p2 => thenO R2 E2 p2 fun r' j3 h3 H3 t3 R3 E3 p3 => ?_
    exact hs _ _ _ _ _ _ _ _ _ R3 (ru.tr (t2.trans t3)) p3
  | .dnew, D, X, W, ct, e, h => by
    cases e <;> first | (simp [chkE] at h; done) | skip
    rename_i ks vs p
    cases ks <;> first | (simp [chkE] at h; done) | skip
    cases vs <;> first | (simp [chkE] at h; done) | skip
    refine .val (pe_dnewK.imp fun σ H Q q => ?_) (fun _ => rfl) (fun _ _ _ z => nomatch z)
    obtain ⟨j, e, hh, R, E, p⟩ := q
    unfold ev newO at p
    intro a ha
    refine p (j.grow hh.os.length a) _ (Tr.add R ha) (Rl.add R ha ⟨[], upd_same, trivial⟩) _ ?_
    have z : (j.grow hh.os.length a).at_ hh.os.length = a := grow_eq
    have r := RV.ref (K := X.K) (mg := X.mg) (j := j.grow hh.os.length a) (n := (hh.os ++ [Ob.dct []]).length) (H := upd H a (.dK [])) (i := hh.os.length) (by rw [List.length_append]; exact Nat.lt_succ_self _)
    rw [z] at r
    exact r
  | .dz, D, X, W, ct, e, h => by
    cases e <;> first | (simp [chkE] at h; done) | skip
    rename_i ks vs p
    cases ks <;> first | (simp [chkE] at h; done) | skip
    cases vs <;> first | (simp [chkE] at h; done) | skip
    refine .val (pe_dnewK.imp fun σ H Q q => ?_) (fun _ => rfl) (fun _ _ _ z => nomatch z)
    obtain ⟨j, e, hh, R, E, p⟩ := q
    unfold ev at p
    intro a ha
    exact p (j.fix a) _ ((Tr.new R ha).fix ha) ((R.new ha).fix (R.noMu ha) (by rw [upd_same]; exact ⟨(fun z => nomatch z), fun _ z => nomatch z⟩)) _ (.d (.dz upd_same (.inr rfl)))
  | .said p a, D, X, W, ct, e, h => by
    cases e <;> first | (simp [chkE] at h; done) | skip
    rename_i ef ees kws pos
    cases ef <;> first | (simp [chkE] at h; done) | skip
    cases kws <;> first | (simp [chkE] at h; done) | skip
    rename_i y py
    match ees, h with
    | [], h => simp [chkE] at h
    | _ :: _ :: _, h => simp [chkE] at h
    | [ea], h =>
    simp only [chkE, Bool.and_eq_true, decide_eq_true_eq] at h
    obtain ⟨⟨⟨⟨hi, rfl⟩, hg⟩, hp⟩, hl⟩ := h
    split at hl
    rotate_left
    · cases hl
    rename_i params body scope lp
    simp only [Bool.and_eq_true] at hl
    obtain ⟨⟨hn, hL⟩, hb⟩ := hl
    obtain ⟨g1, g2⟩ := glb_of hg
    have ex : ev G C (.said p a) = fun e h => saidR p (ev G C a e h) := by
      funext e h
      simp only [ev]
    rw [ex]
    exact .val (pe_said ct hi hp g1 g2 hn (LamX.lamS_by hL) fun A outer s H E f c1 ct' => (e_snd a _ _ ct' _ hb).pe) (fun _ => rfl) (fun _ _ _ z => nomatch z)
  | .rev a, D, X, W, ct, e, h => by
    cases e <;> first | (simp [chkE] at h; done) | skip
    rename_i ea es p
    cases es <;> first | (simp [chkE] at h; done) | skip
    rename_i el er est p2
    cases el <;> first | (simp [chkE] at h; done) | skip
    cases er <;> first | (simp [chkE] at h; done) | skip
    cases est <;> first | (simp [chkE] at h; done) | skip
    rename_i eu
    cases eu <;> first | (simp [chkE] at h; done) | skip
    rename_i uo uv up
    cases uo <;> first | (simp [chkE] at h; done) | skip
    cases uv <;> first | (simp [chkE] at h; done) | skip
    rename_i c ck cp
    cases c <;> first | (simp [chkE] at h; done) | skip
    simp only [chkE, Bool.and_eq_true, decide_eq_true_eq] at h
    obtain ⟨rfl, h⟩ := h
    refine .val ((pe_revL (e_snd a X W ct _ h).pe).imp fun σ H Q q => ?_) (fun _ => rfl) (fun _ _ _ z => nomatch z)
    obtain ⟨j, e, hh, R, E, p⟩ := q
    exact thenE R E p fun v u j1 h1 H1 t R1 E1 ru p1 => rev_snd (X := X) (Tb := Tb) v u j1 h1 H1 Q _ R1 ru p1
  | .comp m own elt tg it cond, D, X, W, ct, e, h => by
    cases e <;> first | (simp [chkE] at h; done) | skip
    rename_i eelt gens scope p
    match gens, h with
    | [⟨etg, eit, eifs, asy⟩], h =>
        unfold chkE at h
        simp only [Bool.and_eq_true, decide_eq_true_eq] at h
        obtain ⟨⟨⟨⟨⟨⟨⟨rfl, hb⟩, hi⟩, ht⟩, hv⟩, htg⟩, hel⟩, hc⟩ := h
        have ok := blkOk_by hb
        have hown : (own.map fun i => ((X.N[i]?).getD ("" : Str), i)).map (·.2) = own := by simp [Function.comp_def]
        have hv' : ∀ i ∈ tg.vars, i ∈ own := fun i hi => of_decide_eq_true (List.all_eq_true.mp hv i hi)
        have cb := fun (s : Shared) (H : Hp) (cl : List (Str × Addr)) (Ca : Addr) (fp : List Addr) => ct.blk s H scope cl Ca fp
        have hcd : ∀ (s : Shared) (H : Hp) (Ca : Addr) (cl : List (Str × Addr)) (fp : List Addr), PTs (X.blk s H scope (compEnvC scope cl Ca X.env) fp) eifs (tT X.K X.mg Tb (fun _ _ _ _ => False) fun e0 h0 => match (generalizing := false) cond with
            | none => .ok (.d (.bool true)) h0
            | some c => ev G C c e0 h0) := by
          intro s H Ca cl fp
          cases cond with
          | none =>
            cases eifs with
            | cons _ _ => simp at hc
            | nil =>
              refine ⟨fun pins s' σ H' Q I q => pts_nil.run pins s' σ H' Q I ?_⟩
              obtain ⟨j, e, hh, R, E, p⟩ := q
              obtain ⟨b, e1, q1⟩ := Pst.here (ok1 := okB Q) p R
              cases e1
              exact q1
          | some c =>
            match eifs, hc with
            | [ec], hc =>
              exact pts_one (e_snd c (X.blk s H scope (compEnvC scope cl Ca X.env) fp) _ (cb s H cl Ca fp) ec hc).pt
            | [], hc => simp at hc
            | _ :: _ :: _, hc => simp at hc
        refine .val ((pe_lc (g := tG X.K X.mg Tb tg) (te := tE X.K X.mg Tb (fun _ _ _ _ => False) (ev G C elt)) ct.calm ct.nd (it_snd it X W ct etg eit hi ht) ok (fun s H Ca cl fp => tg_snd (X := X.blk s H scope (compEnvC scope cl Ca X.env) fp) (sc := scope) ct.calm ct.nd (fun x hx => compLoc hx) tg etg htg) hcd
          (fun s H Ca cl fp => (e_snd elt (X.blk s H scope (compEnvC scope cl Ca X.env) fp) _ (cb s H cl Ca fp) eelt hel).pe) (fold_ok hi X.env)).imp fun σ H Q q => ?_) (fun _ => rfl) (fun _ _ _ z => nomatch z)
        rw [hown]
        obtain ⟨j, e, hh, R, E, p⟩ := q
        unfold ev at p
        refine ⟨j, e, hh, R, E, Pst.imp (Pst.bind p) fun w j1 h1 H1 t R1 p1 J hJ => ?_⟩
        exact comp_snd hJ R1 ((E.tr t).wipe own) hv' p1
    | [], h => simp [chkE] at h
    | _ :: _ :: _, h => simp [chkE] at h
  | .meth o m es, D, X, W, ct, e, h => by
    cases e <;> first | (simp [chkE] at h; done) | skip
    rename_i ef ees kws pos
    cases ef <;> first | (simp [chkE] at h; done) | skip
    cases kws <;> first | (simp [chkE] at h; done) | skip
    rename_i eo m' apos
    simp only [chkE, Bool.and_eq_true, decide_eq_true_eq] at h
    obtain ⟨⟨⟨⟨⟨h1, hm⟩, hl⟩, hb⟩, ho⟩, hs⟩ := h
    subst h1
    refine .val (meth_pe X W hm hl hb (e_snd o X W ct _ ho).pe hs fun a ea e1 e2 => ?_) (fun _ => rfl) (fun _ _ _ z => nomatch z)
    subst e1
    subst e2
    simp only [chkEs, Bool.and_eq_true] at hs
    exact (e_snd a X W ct _ hs.1).pe
  | .opq, D, X, W, ct, e, h => by
    have hx : ∀ (e : NC.Env) (h : Hv), ev G C .opq e h = .bad := fun e h => by simp only [ev]
    exact ⟨⟨fun pins s σ H Q I q => (no_tE hx q).elim⟩, ⟨fun pins s σ H Q I q => (no_tT hx q).elim⟩, fun _ _ _ _ => ⟨fun wh pins s σ H Q I q => (no_tT hx q).elim⟩⟩
  | .kix x kvs i, D, X, W, ct, e, h => by
    cases e <;> first | (simp [chkE] at h; done) | skip
    rename_i ea ei p
    cases ea <;> first | (simp [chkE] at h; done) | skip
    rename_i y py
    simp only [chkE, Bool.and_eq_true, decide_eq_true_eq] at h
    obtain ⟨⟨⟨rfl, hg⟩, hk⟩, hi⟩ := h
    obtain ⟨a, es, n, hm, D1, D2⟩ := ct.kds _ hk
    refine .val ((pe_ix ix_kdict (pe_glob (v := .ref a) (glb_of hg).1 hm rfl (okn (glb_of hg).2).1) (e_snd i X W ct _ hi).pe (plain_ix hi)).imp fun σ H Q q => ?_) (fun _ => rfl) (fun _ _ _ z => nomatch z)
    obtain ⟨j, e, hh, R, E, p⟩ := q
    refine thenE R E p fun v u j1 h1 H1 t R1 E1 ru p1 => ?_
    split at p1
    · rename_i k
      cases ru with | d ru => cases ru with | str _ =>
      split at p1
      · rename_i y hy
        rcases D2.ns D1.at_ k with ⟨g, _⟩ | ⟨y', t, g, ns⟩
        · rw [hy] at g; cases g
        · rw [hy] at g
          cases g
          exact ⟨a, k, .str y, rfl, rfl, ⟨es, n, _, D1.at_, D1.lit, ns, ⟨t, rfl⟩⟩, (Pst.here (ok1 := okV X.K X.mg Q) p1 R1) _ (.d (.str _))⟩
      · exact (show False from p1).elim
    · exact (show False from p1).elim
  | .kin b x kvs i, D, X, W, ct, e, h => by
    cases e <;> first | (simp [chkE] at h; done) | skip
    rename_i ei ops es p
    match ops, es, h with
    | [op], [.Name y py], h =>
      simp only [chkE, Bool.and_eq_true, decide_eq_true_eq, Bool.not_eq_true'] at h
      obtain ⟨⟨⟨⟨⟨ho, hmk⟩, rfl⟩, hg⟩, hk⟩, hi⟩ := h
      obtain ⟨a, es, n, hm, D1, D2⟩ := ct.kds _ hk
      have pg := pe_glob (X := X) (v := .ref a) (pos := py) (glb_of hg).1 hm rfl (okn (glb_of hg).2).1
      have ihi := e_snd i X W ct _ hi
      have fin : ∀ {σ : L2.St} {H : Hp} {Q : VK}, tE X.K X.mg Tb W (ev G C (.kin b x kvs i)) σ H Q → tE X.K X.mg Tb W (ev G C i) σ H fun u H1 => ∃ (z : Str) (r : Option Value), u = .str z ∧ PySem.W.nsIn X.K a z = some r ∧ Q (.bl (b == r.isSome)) H1 := fun {σ H Q} q => by
        obtain ⟨j, e, hh, R, E, p⟩ := q
        refine thenE R E p fun v u j1 h1 H1 t R1 E1 ru p1 => ?_
        split at p1
        · rename_i k
          cases ru with | d ru => cases ru with | str _ =>
          rcases D2.ns D1.at_ k with ⟨g, ns⟩ | ⟨y', t, g, ns⟩
          · refine ⟨k, none, rfl, ns, ?_⟩
            rw [g] at p1
            exact (Pst.here (ok1 := okV X.K X.mg Q) p1 R1) _ (.d (.bl _))
          · refine ⟨k, _, rfl, ns, ?_⟩
            rw [g] at p1
            exact (Pst.here (ok1 := okV X.K X.mg Q) p1 R1) _ (.d (.bl _))
        · exact (show False from p1).elim
      have mono : ∀ {σ : L2.St} {H : Hp} {Q Q' : VK}, (∀ u H1, Q u H1 → Q' u H1) → tE X.K X.mg Tb W (ev G C i) σ H Q → tE X.K X.mg Tb W (ev G C i) σ H Q' := fun w q => by
        obtain ⟨j, e, hh, R, E, p⟩ := q
        exact ⟨j, e, hh, R, E, p.imp fun v j' h' H' _ _ q u ru => w _ _ (q u ru)⟩
      cases b with
      | true =>
        cases op <;> first | (exact absurd ho (by decide)) | skip
        exact ⟨(pe_cmpR (op_in_kd D1) ihi.pe pg hmk).imp fun σ H Q q => mono (fun u H1 ⟨z, r, e1, e2, q⟩ => ⟨z, r, e1, rfl, e2, by simpa using q⟩) (fin q), (pt_cmpR (op_in_kd D1) ihi.pe pg hmk).imp fun σ H Q q => mono (fun u H1 ⟨z, r, e1, e2, q⟩ => ⟨z, r, e1, rfl, e2, by simpa using q⟩) (fin (tT_of q)), fun _ _ _ z => nomatch z⟩
      | false =>
        cases op <;> first | (exact absurd ho (by decide)) | skip
        exact ⟨(pe_cmpR (op_notIn_kd D1) ihi.pe pg hmk).imp fun σ H Q q => mono (fun u H1 ⟨z, r, e1, e2, q⟩ => ⟨z, r, e1, rfl, e2, by simpa using q⟩) (fin q), (pt_cmpR (op_notIn_kd D1) ihi.pe pg hmk).imp fun σ H Q q => mono (fun u H1 ⟨z, r, e1, e2, q⟩ => ⟨z, r, e1, rfl, e2, by simpa using q⟩) (fin (tT_of q)), fun _ _ _ z => nomatch z⟩
    | [], _, h => simp [chkE] at h
    | _ :: _ :: _, _, h => simp [chkE] at h
    | [_], [], h => simp [chkE] at h
    | [_], _ :: _ :: _, h => simp [chkE] at h
  | .get a b, D, X, W, ct, e, h => by
    cases e <;> first | (simp [chkE] at h; done) | skip
    rename_i ef ees kws pos
    cases ef <;> first | (simp [chkE] at h; done) | skip
    cases kws <;> first | (simp [chkE] at h; done) | skip
    rename_i eo m' apos
    match ees, h with
    | [eb], h =>
      simp only [chkE, Bool.and_eq_true, decide_eq_true_eq] at h
      obtain ⟨⟨⟨⟨rfl, hl⟩, hb⟩, ha⟩, hbb⟩ := h
      have hst := star_cons (es := []) (env := X.env) (chk_ns hbb)
      refine .val ((pe_dget1 (by have := ct.roomy.un; omega) (e_snd a X W ct _ ha).pe (e_snd b X W ct _ hbb).pe ⟨base_ok hb, by rw [hst]; rfl, hl, by rw [hst]; rfl⟩).imp fun σ H Q q => ?_) (fun _ => rfl) (fun _ _ _ z => nomatch z)
      obtain ⟨j, e, hh, R, E, p⟩ := q
      refine thenE R E p fun v u j1 h1 H1 t R1 E1 ru p1 => ?_
      split at p1
      · rename_i hd
        obtain ⟨ad, e1, d⟩ := isDct_at R1 ru hd
        refine ⟨ad, e1, d, thenE R1 E1 p1 fun v2 u2 j2 h2 H2 t2 R2 E2 ru2 p2 => ?_⟩
        exact get_snd e1 R2 (ru.tr t2) ru2 p2
      · exact (show False from p1).elim
    | [], h => simp [chkE] at h
    | _ :: _ :: _, h => simp [chkE] at h
  | .fld c a f, D, X, W, ct, e, h => by
    cases e <;> first | (simp [chkE] at h; done) | skip
    simp only [chkE, Bool.and_eq_true, decide_eq_true_eq] at h
    obtain ⟨⟨⟨rfl, hf⟩, hb⟩, ha⟩ := h
    obtain ⟨Cc, hm, hc, hn⟩ := ct.fld _ hf
    refine .val ((pe_fld (e_snd a X W ct _ ha).pe (base_ok hb)).imp fun σ H Q q => ?_) (fun _ => rfl) (fun _ _ _ z => nomatch z)
    obtain ⟨j, e, hh, R, E, p⟩ := q
    refine thenE R E p fun v u j1 h1 H1 t R1 E1 ru p1 => ?_
    unfold fldD at p1
    split at p1
    rotate_left
    · exact (show False from p1).elim
    rename_i n fs hi
    obtain ⟨rfl, rfl, hn', ho, C', dx, fv, e1, e2, r⟩ := obj_ins R1 ru hi
    rw [hm] at e2
    cases e2
    rcases lookup_rfs f r with ⟨z, _⟩ | ⟨pv, w, z, z2, rw'⟩
    · rw [z] at p1; exact (show False from p1).elim
    · rw [z] at p1
      exact ⟨_, _, dx, fv, w, rfl, e1, hc, hn, z2, (Pst.here (ok1 := okV X.K X.mg Q) p1 R1) _ rw'⟩
  | .mk c k es, D, X, W, ct, e, h => by
    cases e <;> first | (simp [chkE] at h; done) | skip
    rename_i ef ees kws p
    cases ef <;> first | (simp [chkE] at h; done) | skip
    cases kws <;> first | (simp [chkE] at h; done) | skip
    rename_i y py
    simp only [chkE, Bool.and_eq_true, decide_eq_true_eq] at h
    obtain ⟨⟨⟨rfl, hg⟩, hk⟩, hs⟩ := h
    obtain ⟨g1, g2⟩ := glb_of hg
    obtain ⟨Cc, f, fd, ps, kk, hm, M, hb, hr, F⟩ := ct.mks _ hk
    have ih := es_snd es X W ct _ hs
    refine .val ?_ (fun _ => rfl) (fun _ _ _ z => nomatch z)
    cases es with
    | nil =>
      cases ees with
      | cons _ _ => simp [chkEs] at hs
      | nil =>
        refine (pe_makeG0 M F hr ct.roomy.gd hb ct.tk g1 g2 hm).imp fun σ H Q q => ?_
        obtain ⟨j, e, hh, R, E, p⟩ := q
        exact make_snd (vs := []) hm R .nil p
    | cons a as =>
      cases ees with
      | nil => simp [chkEs] at hs
      | cons e0 es0 =>
        refine (pe_makeG M F hr ct.roomy.gd hb ct.tk g1 g2 hm hs ih).imp fun σ H Q q => ?_
        obtain ⟨j, e, hh, R, E, p⟩ := q
        exact thenA R E p fun vs us j1 h1 H1 t R1 E1 rv p1 => make_snd hm R1 rv p1
  | .ocall c m k a es, D, X, W, ct, e, h => by
    cases e <;> first | (simp [chkE] at h; done) | skip
    rename_i ef ees kws pos
    cases ef <;> first | (simp [chkE] at h; done) | skip
    cases kws <;> first | (simp [chkE] at h; done) | skip
    rename_i eo m' apos
    simp only [chkE, Bool.and_eq_true, decide_eq_true_eq] at h
    obtain ⟨⟨⟨⟨⟨⟨rfl, hk⟩, hl⟩, hb⟩, hn⟩, ha⟩, hs⟩ := h
    obtain ⟨Cc, f, fd, ps, kk, hm, hc, hmt, hbd, hr, F⟩ := ct.mts _ hk
    have iha := e_snd a X W ct _ ha
    have ih := es_snd es X W ct _ hs
    refine .val ?_ (fun _ => rfl) (fun _ _ _ z => nomatch z)
    cases es with
    | nil =>
      cases ees with
      | cons _ _ => simp [chkEs] at hs
      | nil =>
        refine (pe_methG0 iha.pe hc hmt F hr ct.roomy.gd hbd ct.tk hb hl).imp fun σ H Q q => ?_
        obtain ⟨j, e, hh, R, E, p⟩ := q
        refine thenE R E p fun v u j1 h1 H1 t R1 E1 ru p1 => ?_
        split at p1
        · rename_i hmc
          obtain ⟨ad, dx, fv, rfl, e1, e2⟩ := mayCall_at hm R1 ru hmc
          exact ⟨ad, dx, fv, rfl, e1, e2, j1, h1, [v], R1, .cons ru .nil, p1⟩
        · exact (show False from p1).elim
    | cons a0 as =>
      cases ees with
      | nil => simp [chkEs] at hs
      | cons e0 es0 =>
        refine (pe_methG iha.pe hc hmt F hr ct.roomy.gd hbd ct.tk hb hl hs hn ih).imp fun σ H Q q => ?_
        obtain ⟨j, e, hh, R, E, p⟩ := q
        refine thenE R E p fun v u j1 h1 H1 t R1 E1 ru p1 => ?_
        split at p1
        · rename_i hmc
          obtain ⟨ad, dx, fv, rfl, e1, e2⟩ := mayCall_at hm R1 ru hmc
          refine ⟨ad, dx, fv, rfl, e1, e2, thenA R1 E1 p1 fun vs us j2 h2 H2 t2 R2 E2 rv p2 => ?_⟩
          exact ⟨j2, h2, v :: vs, R2, .cons (ru.tr t2) rv, p2⟩
        · exact (show False from p1).elim
  | .lcp a, D, X, W, ct, e, h => by
    cases e <;> first | (simp [chkE] at h; done) | skip
    rename_i ef ees kws p
    cases ef <;> first | (simp [chkE] at h; done) | skip
    cases kws <;> first | (simp [chkE] at h; done) | skip
    match ees, h with
    | [ea], h =>
      simp only [chkE, Bool.and_eq_true, decide_eq_true_eq] at h
      obtain ⟨⟨rfl, hg⟩, h'⟩ := h
      refine .val ((callP_T call_list_of (x := "list") (by decide +kernel) (by decide) (by decide) _ _ _ _ (chk_ns h') (e_snd a X W ct _ h').pe (glb_of hg).1 (ct.blt _ (by decide))).imp fun σ H Q q => ?_) (fun _ => rfl) (fun _ _ _ z => nomatch z)
      obtain ⟨j, e, hh, R, E, p⟩ := q
      refine thenE R E p fun v u j1 h1 H1 t R1 E1 ru p1 => ?_
      have fin : ∀ {ds : List PyData} {vs : List V}, RDs X.K j1.F H1 ds vs → Pst X.K X.mg Tb j1 h1 H1 (newO (.lst ds) h1) (okV X.K X.mg Q) (fun c d H' => W c d σ H') → ∀ a, H1 a = none → Q (.ref a) (upd H1 a (.lst vs)) := fun {ds vs} rd p2 a ha => by
        have q := p2 (j1.grow h1.os.length a) _ (Tr.add R1 ha) (R1.add ha (u := .lst ds) ⟨vs, upd_same, RDs.mono (R1.kp ha) _ _ rd⟩) _ (.ref (by simp))
        rw [grow_eq] at q
        exact q
      unfold NC.bi at p1
      split at p1 <;> first | (rename_i q _; exact absurd q (by decide)) | (rename_i q; exact absurd q (by decide)) | skip
      · cases ru with | d ru => cases ru with | lst z m q => exact ⟨_, _, rfl, .inl (.of z), fin q p1⟩
      · cases ru with | d ru => cases ru with | tup z q => exact ⟨_, _, rfl, .inr z, fin q p1⟩
      · split at p1
        · rename_i e
          obtain ⟨hn, vs, e1, q⟩ := obj_lst R1 e
          cases ru with | ref hi => exact ⟨_, _, rfl, .inl (.of e1), fin q p1⟩
        · exact (show False from p1).elim
      · exact (show False from p1).elim
    | [], h => simp [chkE] at h
    | _ :: _ :: _, h => simp [chkE] at h
  | .sset _, D, X, W, ct, e, h => by cases e <;> simp [chkE] at h
  | .lset _, D, X, W, ct, e, h => by cases e <;> simp [chkE] at h
  | .join s a, D, X, W, ct, e, h => by
    cases e <;> first | (simp [chkE] at h; done) | skip
    rename_i ef ees kws pos
    cases ef <;> first | (simp [chkE] at h; done) | skip
    cases kws <;> first | (simp [chkE] at h; done) | skip
    rename_i eo m' apos
    match ees, h with
    | [eb], h =>
      simp only [chkE, Bool.and_eq_true, decide_eq_true_eq] at h
      obtain ⟨⟨⟨rfl, hl⟩, hc⟩, ha⟩ := h
      cases eo <;> first | (cases hc; done) | skip
      rename_i cc ck cp
      cases cc <;> first | (cases hc; done) | skip
      have hc := of_decide_eq_true hc
      subst hc
      have hst := star_cons (es := []) (env := X.env) (chk_ns ha)
      refine .val ((pe_bm PySem.F.plainAttrs_str PySem.F.slot_str_join PySem.F.type_str_join mt_join pe_str (pa_cons (e_snd a X W ct _ ha).pe pa_nil hst) rfl (by rw [hst]; rfl) hl hst rfl).imp fun σ H Q q => ?_) (fun _ => rfl) (fun _ _ _ z => nomatch z)
      obtain ⟨j, e, hh, R, E, p⟩ := q
      refine ⟨rfl, thenE R E p fun v u j1 h1 H1 t R1 E1 ru p1 => ?_⟩
      exact join_snd (X := X) (Tb := Tb) _ v u j1 h1 H1 Q _ R1 ru p1
    | [], h => simp [chkE] at h
    | _ :: _ :: _, h => simp [chkE] at h
theorem es_snd {Tb : TbL} : ∀ (as : List E) {D : Nm} (X : Cx) (W : WX), Ctx X W D G C Tb → ∀ (es : List Expr), chkEs D X.env.scope X.N as es = true → PA X es (tA X.K X.mg Tb W (evs G C as))
  | [], D, X, W, ct, es, h => by
    cases es with
    | nil => exact tA_nil
    | cons _ _ => simp [chkEs] at h
  | a :: as, D, X, W, ct, es, h => by
    cases es with
    | nil => simp [chkEs] at h
    | cons e es =>
      simp only [chkEs, Bool.and_eq_true] at h
      refine (pa_cons (e_snd a X W ct _ h.1).pe (es_snd as X W ct _ h.2) (star_cons (chk_ns h.1))).imp fun σ H Q q => ?_
      obtain ⟨j, e, hh, R, E, p⟩ := q
      refine thenE R E p fun v u j1 h1 H1 t R1 E1 ru p1 => thenA R1 E1 p1 fun vs us j2 h2 H2 t2 R2 E2 rv p2 => ?_
      exact (Pst.here (ok1 := okVs X.K X.mg Q) p2 R2) _ (.cons (ru.tr t2) rv)
theorem eo_snd {Tb : TbL} : ∀ (a : Option E) {D : Nm} (X : Cx) (W : WX), Ctx X W D G C Tb → ∀ (e : Option Expr), chkEo D X.env.scope X.N a e = true → PO X e (tO X.K X.mg Tb W (evo G C a))
  | none, D, X, W, ct, e, h => by
    cases e with
    | some _ => simp [chkEo] at h
    | none =>
      refine po_none.imp fun σ H Q q => ?_
      obtain ⟨j, e, hh, R, E, p⟩ := q
      obtain ⟨o, q, m⟩ := Pst.here (ok1 := okO Q) p R
      cases o with
      | none => exact q
      | some _ => exact m.elim
  | some a, D, X, W, ct, e, h => by
    cases e with
    | none => simp [chkEo] at h
    | some e =>
      simp only [chkEo] at h
      refine (po_some (e_snd a X W ct _ h).pe).imp fun σ H Q q => ?_
      obtain ⟨j, e, hh, R, E, p⟩ := q
      refine thenE R E p fun v u j1 h1 H1 t R1 E1 ru p1 => ?_
      obtain ⟨o, q, m⟩ := Pst.here (ok1 := okO Q) p1 R1
      cases o with
      | none =>
        cases v with
        | d y => cases y <;> exact (show False from m).elim
        | _ => exact (show False from m).elim
      | some k =>
        cases v with
        | d y =>
          cases ru with
          | d ru =>
            cases ru with
            | int i => exact ⟨i, rfl, by rw [show i = k from m]; exact q⟩
            | _ => exact (show False from m).elim
        | _ => exact (show False from m).elim
theorem it_snd {Tb : TbL} : ∀ (a : NC.It) {D : Nm} (X : Cx) (W : WX), Ctx X W D G C Tb → ∀ (tg e : Expr), chkIt D X.env.scope X.N a e = true → (!needsTup a || isTupX tg) = true → PI X tg e (tI X.K X.mg Tb W (walk G C a))
  | .of a, D, X, W, ct, tg, e, h, ht => by
    simp only [chkIt] at h
    refine (pi_seq3 (e_snd a X W ct _ h).pe).imp fun σ H R q => ?_
    obtain ⟨j, e, hh, Rr, E, p⟩ := q
    refine thenE Rr E p fun v u j1 h1 H1 t R1 E1 ru p1 => ?_
    unfold walk1 at p1
    split at p1
    · cases ru with | d ru => cases ru with | lst z m q =>
      exact .inl ⟨_, rfl, .inl ⟨⟨_, .of z⟩, p1 _ _ Tr.refl R1 _ (itok_list (fun j h H t => .of ((t.kp.fix _ m).2.trans z)) q)⟩⟩
    · cases ru with | d ru => cases ru with | tup z q =>
      exact .inl ⟨_, rfl, .inr ⟨⟨_, z⟩, p1 _ _ Tr.refl R1 _ (itok_tup z (.ofD q))⟩⟩
    · cases ru with | tup z q =>
      exact .inl ⟨_, rfl, .inr ⟨⟨_, z⟩, p1 _ _ Tr.refl R1 _ (itok_tup z q)⟩⟩
    · cases ru with | scr z q =>
      exact .inl ⟨_, rfl, .inl ⟨⟨_, z.sq⟩, p1 _ _ Tr.refl R1 _ (itok_list (fun j h H t => (t.kp.zl z).sq) q)⟩⟩
    · cases ru with | d ru => cases ru with | str _ =>
      exact .inr ⟨_, rfl, p1 _ _ Tr.refl R1 _ itok_str⟩
    · cases ru with | ref hi =>
      split at p1
      · rename_i xs hx
        obtain ⟨_, vs, e1, _⟩ := obj_lst R1 hx
        exact .inl ⟨_, rfl, .inl ⟨⟨_, .of e1⟩, p1 _ _ Tr.refl R1 _ (itok_ref hi)⟩⟩
      · exact (show False from p1).elim
    · exact (show False from p1).elim
  | .range1 a, D, X, W, ct, tg, e, h, ht => by
    simp only [chkIt] at h
    split at h
    rotate_left
    · cases h
    rename_i y py ea pp
    simp only [Bool.and_eq_true, decide_eq_true_eq] at h
    obtain ⟨⟨rfl, hg⟩, h'⟩ := h
    have hst := star_cons (es := []) (env := X.env) (chk_ns h')
    refine (pi_range1 (glb_of hg).1 (ct.blt _ (by decide)) (pa_cons (e_snd a X W ct _ h').pe pa_nil hst) hst).imp fun σ H R q => ?_
    obtain ⟨j, e, hh, Rr, E, p⟩ := q
    refine thenE Rr E p fun v u j1 h1 H1 t R1 E1 ru p1 => ?_
    split at p1
    · rename_i i
      split at p1
      · rename_i hb
        cases ru with | d ru => cases ru with | int _ =>
        unfold b62 at hb
        rw [Bool.and_eq_true] at hb
        exact ⟨i, rfl, of_decide_eq_true hb.1, of_decide_eq_true hb.2, p1 _ _ Tr.refl R1 _ itok_range⟩
      · exact (show False from p1).elim
    · exact (show False from p1).elim
  | .range2 a b, D, X, W, ct, tg, e, h, ht => by
    simp only [chkIt] at h
    split at h
    rotate_left
    · cases h
    simp only [Bool.and_eq_true, decide_eq_true_eq] at h
    obtain ⟨⟨⟨rfl, hg⟩, h'⟩, h2⟩ := h
    rename_i ea eb pp
    have hst := star_cons (es := [eb]) (env := X.env) (chk_ns h')
    have hst2 := star_cons (es := []) (env := X.env) (chk_ns h2)
    refine (pi_range2 (glb_of hg).1 (ct.blt _ (by decide)) (pa_cons (e_snd a X W ct _ h').pe (pa_cons (e_snd b X W ct _ h2).pe pa_nil hst2) hst) (by rw [hst, hst2]; rfl) hst2).imp fun σ H R q => ?_
    obtain ⟨j, e, hh, Rr, E, p⟩ := q
    refine thenE Rr E p fun v u j1 h1 H1 t R1 E1 ru p1 => thenE R1 E1 p1 fun v2 u2 j2 hh2 H2 t2 R2 E2 ru2 p2 => ?_
    split at p2
    · split at p2
      · rename_i i k hb
        rw [Bool.and_eq_true] at hb
        unfold b62 at hb
        rw [Bool.and_eq_true, Bool.and_eq_true] at hb
        cases ru with | d ru => cases ru with | int _ => cases ru2 with | d ru2 => cases ru2 with | int _ =>
        exact ⟨_, _, rfl, ⟨of_decide_eq_true hb.1.1, of_decide_eq_true hb.1.2, of_decide_eq_true hb.2.1, of_decide_eq_true hb.2.2⟩, p2 _ _ Tr.refl R2 _ itok_range⟩
      · exact (show False from p2).elim
    · exact (show False from p2).elim
  | .rangeD a b, D, X, W, ct, tg, e, h, ht => by
    simp only [chkIt] at h
    split at h
    rotate_left
    · cases h
    simp only [Bool.and_eq_true, decide_eq_true_eq] at h
    obtain ⟨⟨⟨⟨rfl, hg⟩, rfl⟩, h'⟩, h2⟩ := h
    rename_i ea eb p2 p3 p4 p5
    have st3 : ∀ v q, (Expr.UnaryOp UnaryOp.USub (Expr.Constant (.int 1) p2 p3) p4) ≠ .Starred v q := fun _ _ z => nomatch z
    have hst3 := star_cons (es := []) (env := X.env) st3
    have hst := star_cons (es := [eb, .UnaryOp .USub (.Constant (.int 1) p2 p3) p4]) (env := X.env) (chk_ns h')
    have hst2 := star_cons (es := [.UnaryOp .USub (.Constant (.int 1) p2 p3) p4]) (env := X.env) (chk_ns h2)
    refine (pi_range3 (glb_of hg).1 (ct.blt _ (by decide)) (pa_cons (e_snd a X W ct _ h').pe (pa_cons (e_snd b X W ct _ h2).pe (pa_cons (pe_un un_neg pe_int) pa_nil hst3) hst2) hst) hst (by rw [hst2, hst3]; rfl)).imp fun σ H R q => ?_
    obtain ⟨j, e, hh, Rr, E, p⟩ := q
    refine thenE Rr E p fun v u j1 h1 H1 t R1 E1 ru p1 => thenE R1 E1 p1 fun v2 u2 j2 hh2 H2 t2 R2 E2 ru2 p2 => ?_
    split at p2
    · split at p2
      · rename_i i k hb
        rw [Bool.and_eq_true] at hb
        unfold b62 at hb
        rw [Bool.and_eq_true, Bool.and_eq_true] at hb
        cases ru with | d ru => cases ru with | int _ => cases ru2 with | d ru2 => cases ru2 with | int _ =>
        exact ⟨1, rfl, i, k, -1, _, rfl, RgC.neg (of_decide_eq_true hb.1.1) (of_decide_eq_true hb.1.2) (of_decide_eq_true hb.2.1) (of_decide_eq_true hb.2.2), p2 _ _ Tr.refl R2 _ itok_rngD⟩
      · exact (show False from p2).elim
    · exact (show False from p2).elim
  | .zip2 a b, D, X, W, ct, tg, e, h, ht => by
    simp only [chkIt] at h
    split at h
    rotate_left
    · cases h
    cases tg <;> first | (simp [needsTup, isTupX] at ht; done) | skip
    simp only [Bool.and_eq_true, decide_eq_true_eq] at h
    obtain ⟨⟨⟨rfl, hg⟩, h'⟩, h2⟩ := h
    rename_i ea eb _ _ _ _
    have hst := star_cons (es := [eb]) (env := X.env) (chk_ns h')
    have hst2 := star_cons (es := []) (env := X.env) (chk_ns h2)
    refine (pi_zipM (glb_of hg).1 (ct.blt _ (by decide)) (pa_cons (e_snd a X W ct _ h').pe (pa_cons (e_snd b X W ct _ h2).pe pa_nil hst2) hst) hst (by rw [hst2]; rfl)).imp fun σ H R q => ?_
    obtain ⟨j, e, hh, Rr, E, p⟩ := q
    refine thenE Rr E p fun v u j1 h1 H1 t R1 E1 ru p1 => thenE R1 E1 p1 fun v2 u2 j2 hh2 H2 t2 R2 E2 ru2 p2 => ?_
    split at p2
    · rename_i xs ys e1 e2
      obtain ⟨s1, us1, rfl, a1, r1, k1⟩ := zs_of R2 (ru.tr t2) e1
      obtain ⟨s2, us2, rfl, a2, r2, k2⟩ := zs_of R2 ru2 e2
      exact ⟨s1, s2, rfl, ⟨_, a1⟩, ⟨_, a2⟩, p2 _ _ Tr.refl R2 _ (itok_zipM k1 k2 r1 r2)⟩
    · exact (show False from p2).elim
  | .enum a, D, X, W, ct, tg, e, h, ht => by
    simp only [chkIt] at h
    split at h
    rotate_left
    · cases h
    cases tg <;> first | (simp [needsTup, isTupX] at ht; done) | skip
    rename_i y py ea pp
    simp only [Bool.and_eq_true, decide_eq_true_eq] at h
    obtain ⟨⟨rfl, hg⟩, h'⟩ := h
    have hst := star_cons (es := []) (env := X.env) (chk_ns h')
    refine (pi_enumM (glb_of hg).1 (ct.blt _ (by decide)) (pa_cons (e_snd a X W ct _ h').pe pa_nil hst) hst).imp fun σ H R q => ?_
    obtain ⟨j, e, hh, Rr, E, p⟩ := q
    refine thenE Rr E p fun v u j1 h1 H1 t R1 E1 ru p1 => ?_
    split at p1
    · rename_i xs e1
      obtain ⟨s1, us1, rfl, a1, r1, k1⟩ := zs_of R1 ru e1
      exact ⟨s1, rfl, ⟨_, a1⟩, p1 _ _ Tr.refl R1 _ (itok_enumM k1 r1)⟩
    · exact (show False from p1).elim
end
end NC
set_option maxHeartbeats 1000000
/-! Statements. -/
namespace NC
open PySem PySem.Spec PyProof.Rows L2

/-- X(), X an own exception class without own __init__ -/
theorem pmk_own0 {X : Cx} {x : Str} {p pos : Pos} {C : Addr} {bmB : List Value} {B newId initId : String} (F : ExcBaseFacts B newId initId bmB) (q : PySem.W.excIn X.K C bmB newId = true) (gC : X.mg x = some (.ref C))
    (kC : PySem.W.keepIn X.K (.ref C) = true) (r : Raises X (.ref C)) (hg : Gl X x) (hdb : (x == ("__debug__" : Str)) = false) : PMk X (.Call (.Name x p) [] [] pos) (fun _ H Q => Q (.ref C) none H) := by
  intro pins s σ H Q I h
  refine wpAny_Call_Name_kw (ld_glob I hg gC ?_ hdb)
  refine PySem.W.callWith_K0 I.kIn kC ?_
  show wpAny _ _ (PySem.call (.ref C) []) _ _ _
  obtain ⟨bm, N, nm, qn, bs, hdct, sn, sub, ab, col, dd, k0, k1, k2, k3, k5, mN, hC, hN, hni, T⟩ := exc_obj I.kIn q
  exact wpAny_call_exc_subT F T hC hN hni (fun h' e hm => mk_of I hm r h (I.hok.gone hm.new)) (Nat.zero_le _)
/-- what the ends of a statement mean -/
abbrev okF (K : PySem.W.Frag) (mg : Str → Option Value) (vs : List Nat) (σ0 : L2.St) (D : Ends) : Flow → Gh → Hv → Hp → Prop := fun f j h H => match f with
  | .nx e => ∀ σ, REnv K mg j h.os.length H e σ → Chg vs σ0 σ → D.nx σ H
  | .ret v => ∀ u, RV K mg j h.os.length H v u → D.rt u H
  | .brk e => ∀ σ, REnv K mg j h.os.length H e σ → Chg vs σ0 σ → D.bk σ H
  | .ct e => ∀ σ, REnv K mg j h.os.length H e σ → Chg vs σ0 σ → D.ct σ H
/-- what an exception means: the slots of vs may be anything -/
abbrev ekF (W : WX) (vs : List Nat) (σ0 : L2.St) : XK := fun c d H => ∀ σ, Chg vs σ0 σ → W c d σ H
def tS (K : PySem.W.Frag) (mg : Str → Option Value) (Tb : TbL) (W : WX) (vs : List Nat) (x : NC.Env → Hv → Res Flow) : TS := fun D σ H => ∃ σ0, Chg vs σ0 σ ∧ At K mg Tb σ H fun j e h => Pst K mg Tb j h H (x e h) (okF K mg vs σ0 D) (ekF W vs σ0)
theorem Chg.refl {vs : List Nat} {σ : L2.St} : Chg vs σ σ := ⟨rfl, fun _ _ => rfl⟩
theorem Chg.more {vs ws : List Nat} {a b c : L2.St} (x : Chg vs a b) (y : Chg ws b c) (h : ∀ i ∈ ws, i ∈ vs) : Chg vs a c := ⟨y.1.trans x.1, fun i hi => (y.2 i fun z => hi (h i z)).trans (x.2 i hi)⟩
theorem Chg.set {vs : List Nat} {a b : L2.St} {i : Nat} {v : Option V} (x : Chg vs a b) (h : i ∈ vs) : Chg vs a (b.set i v) := ⟨by simp [x.1], fun k hk => by
  rw [List.getElem?_set_ne fun z => hk (by rw [← z]; exact h)]
  exact x.2 k hk⟩
section
variable {K : PySem.W.Frag} {mg : Str → Option Value} {W : WX} {vs : List Nat} {σ0 σ : L2.St} {H : Hp} {j : Gh} {e : NC.Env} {h : Hv}
/-- a part of a statement: what is wished of exceptions at these slots -/
theorem ekF.at {Tb : TbL} {β : Type} {r : Res β} {okk : β → Gh → Hv → Hp → Prop} (p : Pst K mg Tb j h H r okk (ekF W vs σ0)) (c : Chg vs σ0 σ) : Pst K mg Tb j h H r okk fun a d H' => W a d σ H' := p.impE fun _ _ _ q => q σ c
/-- a part, then the rest -/
theorem thenE' {Tb : TbL} {β : Type} {x : NC.Env → Hv → Res PV} {f : PV → Hv → Res β} {okb : β → Gh → Hv → Hp → Prop} {Q : VK} (R : Rl K mg Tb j h H) (E : REnv K mg j h.os.length H e σ) (c : Chg vs σ0 σ) (p : Pst K mg Tb j h H ((x e h).bind f) okb (ekF W vs σ0))
    (w : ∀ v u j1 h1 H1, Tr Tb j h H j1 h1 H1 → Rl K mg Tb j1 h1 H1 → REnv K mg j1 h1.os.length H1 e σ → RV K mg j1 h1.os.length H1 v u → Pst K mg Tb j1 h1 H1 (f v h1) okb (ekF W vs σ0) → Q u H1) : tE K mg Tb W x σ H Q :=
  ⟨j, e, h, R, E, (Pst.impE p.bind fun _ _ _ q => q σ c).imp fun v j1 h1 H1 t R1 q u ru => w v u j1 h1 H1 t R1 (E.tr t) ru q⟩
theorem thenT' {Tb : TbL} {β : Type} {x : NC.Env → Hv → Res PV} {f : Bool → Hv → Res β} {okb : β → Gh → Hv → Hp → Prop} {Q : Bool → Hp → Prop} (R : Rl K mg Tb j h H) (E : REnv K mg j h.os.length H e σ) (c : Chg vs σ0 σ) (p : Pst K mg Tb j h H (tst (x e h) f) okb (ekF W vs σ0))
    (w : ∀ b j1 h1 H1, Tr Tb j h H j1 h1 H1 → Rl K mg Tb j1 h1 H1 → REnv K mg j1 h1.os.length H1 e σ → Pst K mg Tb j1 h1 H1 (f b h1) okb (ekF W vs σ0) → Q b H1) : tT K mg Tb W x σ H Q := by
  refine ⟨j, e, h, R, E, (Pst.impE (Pst.bind p) fun _ _ _ q => q σ c).imp fun v j1 h1 H1 t R1 q => ?_⟩
  cases v with
  | d y =>
    cases y with
    | bool b => exact ⟨b, rfl, w b j1 h1 H1 t R1 (E.tr t) q⟩
    | _ => exact (show False from q).elim
  | _ => exact (show False from q).elim
end
theorem swaps_no {e : Expr} {t : Option Expr} {l : Nat} {env : PySem.Env} (h : isComp e = false) : swapsWith e t l env = pure false := by
  cases e <;> first | rfl | simp [isComp] at h
theorem swaps_other {e : Expr} {t : Expr} {l : Nat} {env : PySem.Env} (h : ∀ x p, t ≠ .Name x p) : swapsWith e (some t) l env = pure false := by
  cases e <;> first | rfl | (cases t <;> first | rfl | exact absurd rfl (h _ _))
theorem fm_lt {α β : Type} {f : α → Option β} : ∀ {l : List α}, (l.any fun x => (f x).isNone) = true → (l.filterMap f).length < l.length
  | [], h => by simp at h
  | a :: l, h => by
    rw [List.any_cons, Bool.or_eq_true] at h
    have le := List.length_filterMap_le f l
    cases q : f a with
    | none => rw [List.filterMap_cons_none q]; simp; omega
    | some b =>
      rw [List.filterMap_cons_some q]
      rcases h with h | h
      · rw [q] at h; cases h
      · have q2 := fm_lt h
        simp only [List.length_cons]; omega
theorem swapped_no {ts : List Expr} {k : Nat} {p : Pos} {value : Expr} {env : PySem.Env} (hk : env.blockKind = .function) (h : unswB env.scope ts value = true) : swappedStores [.Tuple ts k p] value env = pure none := by
  cases value <;> first | rfl | skip
  rename_i vs k2 p2
  unfold unswB at h
  simp only [Bool.or_eq_true, bne_iff_ne, ne_eq] at h
  unfold swappedStores
  simp only [pure_bind, bind_pure_comp]
  split
  · rfl
  · rename_i h1
    split
    · rfl
    · split
      · rfl
      · rename_i h3
        exfalso
        rcases h with (h | h) | h
        · exact h1 (by rw [h]; rfl)
        · exact h1 (by simp [h])
        · simp only [Bool.or_eq_true, bne_iff_ne, ne_eq, not_or, Decidable.not_not] at h3
          refine absurd h3.1 (Nat.ne_of_lt (fm_lt ?_))
          rw [List.any_eq_true] at h ⊢
          obtain ⟨x, hx, q⟩ := h
          refine ⟨x, hx, ?_⟩
          cases x <;> first | rfl | skip
          rename_i id pos
          have q' : loc1B env.scope id = false := by simpa using q
          have : (env.kindOf id == some NameKind.local) = false := by
            unfold loc1B at q'
            unfold Env.kindOf
            cases hl : env.scope.names.lookup id with
            | none => rfl
            | some kd =>
              rw [hl] at q'
              cases kd <;> first | rfl | cases q'
          simp [this]
theorem swapped_par {N : List Str} {i j : Nat} {x y : Str} {px py pt p2 : Pos} {k k2 : Nat} {ea eb : Expr} {env : PySem.Env} (hk : env.blockKind = .function) (h : parB env.scope N i j x y px py ea eb = true) (sa : ∀ v p, ea ≠ .Starred v p) (sb : ∀ v p, eb ≠ .Starred v p) :
    swappedStores [.Tuple [.Name x px, .Name y py] k pt] (.Tuple [ea, eb] k2 p2) env = pure (some [x, y]) := by
  unfold parB at h
  simp only [Bool.and_eq_true] at h
  obtain ⟨⟨⟨⟨⟨⟨⟨⟨⟨⟨_, _⟩, hx⟩, hy⟩, _⟩, hne⟩, hl⟩, _⟩, _⟩, hf⟩, hc⟩ := h
  have kx : env.kindOf x = some NameKind.local := loc1_of hx
  have ky : env.kindOf y = some NameKind.local := loc1_of hy
  have px' : (Expr.Name x px).pos = px := rfl
  have hl' : px.line = py.line := by simpa using hl
  have hne' : x ≠ y := of_decide_eq_true hne
  have s1 : (match (generalizing := false) ea with | .Starred .. => true | _ => false) = false := by cases ea <;> first | rfl | exact absurd rfl (sa _ _)
  have s2 : (match (generalizing := false) eb with | .Starred .. => true | _ => false) = false := by cases eb <;> first | rfl | exact absurd rfl (sb _ _)
  have ed : ([x, y] : List Str).eraseDups = [x, y] := by simp [List.eraseDups_cons, hne'.symm, Ne.symm hne']
  unfold swappedStores
  simp only [pure_bind, bind_pure_comp]
  rw [if_neg (by simp [hk]), if_neg (by simp [s1, s2]), if_neg (by simp [List.filterMap_cons, kx, ky, px', hl', ed]), if_neg (by intro z; rw [z] at hf; cases hf), if_neg (by intro z; rw [z] at hc; cases hc)]
  simp [List.filterMap_cons, kx, ky, px', hl']
theorem swapped_par3 {N : List Str} {i j l : Nat} {x y z : Str} {px py pz pt p2 : Pos} {k k2 : Nat} {ea eb ec : Expr} {env : PySem.Env} (hk : env.blockKind = .function) (h : par3B env.scope N i j l x y z px py pz ea eb ec = true) (sa : ∀ v p, ea ≠ .Starred v p) (sb : ∀ v p, eb ≠ .Starred v p) (sc : ∀ v p, ec ≠ .Starred v p) :
    swappedStores [.Tuple [.Name x px, .Name y py, .Name z pz] k pt] (.Tuple [ea, eb, ec] k2 p2) env = pure (some [x, y, z]) := by
  unfold par3B at h
  simp only [Bool.and_eq_true] at h
  obtain ⟨⟨⟨⟨⟨⟨⟨⟨⟨⟨⟨⟨⟨⟨⟨⟨⟨⟨_, _⟩, _⟩, hx⟩, hy⟩, hz⟩, _⟩, _⟩, _⟩, n1⟩, n2⟩, n3⟩, l1⟩, l2⟩, _⟩, _⟩, _⟩, hf⟩, hc⟩ := h
  have kx : env.kindOf x = some NameKind.local := loc1_of hx
  have ky : env.kindOf y = some NameKind.local := loc1_of hy
  have kz : env.kindOf z = some NameKind.local := loc1_of hz
  have px' : (Expr.Name x px).pos = px := rfl
  have l1' : px.line = py.line := by simpa using l1
  have l2' : px.line = pz.line := by simpa using l2
  have n1' : x ≠ y := of_decide_eq_true n1
  have n2' : x ≠ z := of_decide_eq_true n2
  have n3' : y ≠ z := of_decide_eq_true n3
  have s1 : (match (generalizing := false) ea with | .Starred .. => true | _ => false) = false := by cases ea <;> first | rfl | exact absurd rfl (sa _ _)
  have s2 : (match (generalizing := false) eb with | .Starred .. => true | _ => false) = false := by cases eb <;> first | rfl | exact absurd rfl (sb _ _)
  have s3 : (match (generalizing := false) ec with | .Starred .. => true | _ => false) = false := by cases ec <;> first | rfl | exact absurd rfl (sc _ _)
  have ed : ([x, y, z] : List Str).eraseDups = [x, y, z] := by simp [List.eraseDups_cons, n1'.symm, Ne.symm n1', n2'.symm, Ne.symm n2', n3'.symm, Ne.symm n3']
  unfold swappedStores
  simp only [pure_bind, bind_pure_comp]
  rw [if_neg (by simp [hk]), if_neg (by simp [s1, s2, s3]), if_neg (by simp [List.filterMap_cons, kx, ky, kz, px', ← l1', ← l2', ed]), if_neg (by intro z; rw [z] at hf; cases hf), if_neg (by intro z; rw [z] at hc; cases hc)]
  simp [List.filterMap_cons, kx, ky, kz, px', ← l1', ← l2']
end NC
/-! Statements: the induction. -/
namespace NC
open PySem PySem.Spec PyProof.Rows L2

section
variable {X : Cx} {W : WX} {D : Nm} {G : Gls} {C : Fns}
/-- name = [..]: the machine may store within the comprehension's frame -/
theorem set_comp {Tb : TbL} (ct : Ctx X W D G C Tb) {a : E} {i : Nat} {x : Str} {p spos : Pos} {elt : Expr} {gens : List Comprehension} {scope : Scope} {pos : Pos} (hN : X.N[i]? = some x) (hx : X.env.scope.names.lookup x = some .local) (hsw : swapsWith (.ListComp elt gens scope pos) (some (.Name x p)) spos.line X.env = pure true)
    (h : chkE D X.env.scope X.N a (.ListComp elt gens scope pos) = true) : PS X (.Assign [.Name x p] (.ListComp elt gens scope pos) spos) (tAsg (tE X.K X.mg Tb W (ev G C a)) (gName i)) := by
  cases a with
  | comp m own elt' tg it cond =>
    match gens, h, hsw with
    | [⟨etg, eit, eifs, asy⟩], h, hsw =>
        unfold chkE at h
        simp only [Bool.and_eq_true, decide_eq_true_eq] at h
        obtain ⟨⟨⟨⟨⟨⟨⟨rfl, hb⟩, hi⟩, ht⟩, hv⟩, htg⟩, hel⟩, hc⟩ := h
        have ok := blkOk_by hb
        have hown : (own.map fun i => ((X.N[i]?).getD ("" : Str), i)).map (·.2) = own := by simp [Function.comp_def]
        have hv' : ∀ i ∈ tg.vars, i ∈ own := fun i hi => of_decide_eq_true (List.all_eq_true.mp hv i hi)
        have cb := fun (s : Shared) (H : Hp) (cl : List (Str × Addr)) (Ca : Addr) (fp : List Addr) => ct.blk s H scope cl Ca fp
        have hcd : ∀ (s : Shared) (H : Hp) (Ca : Addr) (cl : List (Str × Addr)) (fp : List Addr), PTs (X.blk s H scope (compEnvC scope cl Ca X.env) fp) eifs (tT X.K X.mg Tb (fun _ _ _ _ => False) fun e0 h0 => match (generalizing := false) cond with
            | none => .ok (.d (.bool true)) h0
            | some c => ev G C c e0 h0) := by
          intro s H Ca cl fp
          cases cond with
          | none =>
            cases eifs with
            | cons _ _ => simp at hc
            | nil =>
              refine ⟨fun pins s' σ H' Q I q => pts_nil.run pins s' σ H' Q I ?_⟩
              obtain ⟨j, e, hh, R, E, p⟩ := q
              obtain ⟨b, e1, q1⟩ := Pst.here (ok1 := okB Q) p R
              cases e1
              exact q1
          | some c =>
            match eifs, hc with
            | [ec], hc =>
              exact pts_one (e_snd c (X.blk s H scope (compEnvC scope cl Ca X.env) fp) _ (cb s H cl Ca fp) ec hc).pt
            | [], hc => simp at hc
            | _ :: _ :: _, hc => simp at hc
        refine (ps_setLc (i := i) (g := tG X.K X.mg Tb tg) (te := tE X.K X.mg Tb (fun _ _ _ _ => False) (ev G C elt')) ct.calm ct.nd hN hx hsw (it_snd it X W ct etg eit hi ht) ok (fun s H Ca cl fp => tg_snd (X := X.blk s H scope (compEnvC scope cl Ca X.env) fp) (sc := scope) ct.calm ct.nd (fun x hx => compLoc hx) tg etg htg) hcd
          (fun s H Ca cl fp => (e_snd elt' (X.blk s H scope (compEnvC scope cl Ca X.env) fp) _ (cb s H cl Ca fp) elt hel).pe) (fold_ok hi X.env)).imp fun Dd σ H q => ?_
        obtain ⟨j, e, hh, R, E, p⟩ := q
        unfold ev at p
        rw [hown]
        refine ⟨j, e, hh, R, E, Pst.imp (Pst.bind p) fun w j1 h1 H1 t R1 p1 J hJ => ?_⟩
        exact comp_snd hJ R1 ((E.tr t).wipe own) hv' p1
    | [], h, _ => simp [chkE] at h
    | _ :: _ :: _, h, _ => simp [chkE] at h
  | _ => simp [chkE, opqB] at h
end
/-- the situation of a def's own body -/
structure DCtx (X : Cx) : Prop where
  fa : FnAll X X.env.scope
  bk : X.env.blockKind = .function
  stk : X.stack = X.env :: X.outer
  frm : X.env.frame = some X.env.locals
variable {D : Nm} {G : Gls} {C : Fns}
theorem notComp {D : Nm} {sc : Scope} {N : List Str} {a : E} {e : Expr} (h : chkE D sc N a e = true) : isComp e = false ∨ ∃ elt g s p, e = .ListComp elt g s p := by
  cases e <;> first | exact .inl rfl | exact .inr ⟨_, _, _, _, rfl⟩ | (cases a <;> first | (simp [chkE, opqB] at h; done) )
/-- value to name -/
theorem asg_var {Tb : TbL} {X : Cx} {W : WX} (ct : Ctx X W D G C Tb) (dc : DCtx X) {vs : List Nat} {i : Nat} {a : E} {x : Str} {p spos : Pos} {e : Expr} (ht : chkTg X.env.scope X.N (.var i) (.Name x p) = true) (he : chkE D X.env.scope X.N a e = true) (hv : i ∈ vs) :
    PS X (.Assign [.Name x p] e spos) (tS X.K X.mg Tb W vs (exec G C (.asg (.var i) a))) := by
  simp only [chkTg, Bool.and_eq_true, decide_eq_true_eq] at ht
  have hl := dc.fa _ ht.1.2
  have base : PS X (.Assign [.Name x p] e spos) (tAsg (tE X.K X.mg Tb W (ev G C a)) (gName i)) := by
    have plain : swapsWith e (some (.Name x p)) spos.line X.env = pure false → PS X (.Assign [.Name x p] e spos) (tAsg (tE X.K X.mg Tb W (ev G C a)) (gName i)) := fun hs => ps_set ct.nd ht.1.1 hl.1 (e_snd a X W ct e he).pe hs hl.2
    rcases notComp he with h | ⟨elt, g, s, q, rfl⟩
    · exact plain (swaps_no h)
    · cases hb : (X.env.blockKind == .function && X.env.kindOf x == some .local && p.line == q.line && !(s.names.any fun (n, k) => n == x && (k == .local || k == .cell))) with
      | false =>
        refine plain ?_
        show (pure (X.env.blockKind == .function && X.env.kindOf x == some .local && p.line == q.line && !(s.names.any fun (n, k) => n == x && (k == .local || k == .cell))) : Sem Bool) = pure false
        rw [hb]
      | true =>
        have hx : X.env.scope.names.lookup x = some .local := by
          simp only [Bool.and_eq_true] at hb
          exact beq_iff_eq.mp hb.1.1.2
        refine set_comp ct ht.1.1 hx ?_ he
        show (pure (X.env.blockKind == .function && X.env.kindOf x == some .local && p.line == q.line && !(s.names.any fun (n, k) => n == x && (k == .local || k == .cell))) : Sem Bool) = pure true
        rw [hb]
  refine base.imp fun Dd σ H q => ?_
  obtain ⟨σ0, c, j, e, hh, R, E, pp⟩ := q
  refine thenE' R E c pp fun v u j1 h1 H1 t R1 E1 ru p1 => ?_
  split at p1
  · rename_i e1 hs
    unfold storeH store at hs
    dsimp only at hs
    split at hs
    · cases hs
      exact (Pst.here (ok1 := okF X.K X.mg vs σ0 Dd) p1 R1) _ (E1.set ru) (c.set hv)
    · cases hs
  · exact (show False from p1).elim
/-- the loop of a for -/
theorem for_snd {Tb : TbL} {K : PySem.W.Frag} {mg : Str → Option Value} {W : WX} {vs : List Nat} {σ0 : L2.St} {tg : Tg} {body : NC.Env → Hv → Res Flow} {w : Walk} {J : L2.It} {j0 : Gh} {h0 : Hv} {H0 : Hp} {Dd : Ends} {e0 : NC.Env} {σ : L2.St}
    (hJ : ItOk K mg Tb J w j0 h0 H0) (R0 : Rl K mg Tb j0 h0 H0) (E0 : REnv K mg j0 h0.os.length H0 e0 σ) (c0 : Chg vs σ0 σ) (hv : ∀ i ∈ tg.vars, i ∈ vs)
    (p : Pst K mg Tb j0 h0 H0 (forL w.gd tg body w.xs e0 h0) (okF K mg vs σ0 Dd) (ekF W vs σ0)) :
    ∃ W' : Nat → Nat → L2.St → Hp → Prop, (∃ m, W' 0 m σ H0) ∧ ∀ i m σ H, W' i m σ H → (J.stop i H ∧ Dd.nx σ H) ∨ (J.go i H ∧ ∃ N : L2.St → Hp → Prop, (∀ σ' H', N σ' H' → ∃ m', m' < m ∧ W' (i + 1) m' σ' H') ∧
      ∀ x H', J.yld i H x H' → tG K mg Tb tg x σ H' fun σ2 H2 => tS K mg Tb W vs body { Dd with nx := N, ct := N, bk := Dd.nx } σ2 H2) := by
  let Pv : Nat → L2.St → Hp → Prop := fun i σ H => ∃ j e h, Tr Tb j0 h0 H0 j h H ∧ Rl K mg Tb j h H ∧ REnv K mg j h.os.length H e σ ∧ Chg vs σ0 σ ∧ Pst K mg Tb j h H (forL w.gd tg body (w.xs.drop i) e h) (okF K mg vs σ0 Dd) (ekF W vs σ0)
  refine ⟨fun i m σ H => m = w.xs.length - i ∧ i ≤ w.xs.length ∧ Pv i σ H, ⟨_, rfl, Nat.zero_le _, j0, e0, h0, Tr.refl, R0, E0, c0, p⟩, ?_⟩
  rintro i m σ1 H ⟨rfl, hi, j, e, h, t, R, E, c, p⟩
  by_cases hlt : i < w.xs.length
  · rw [List.drop_eq_getElem_cons hlt] at p
    unfold forL at p
    split at p
    rotate_left
    · exact (show False from p).elim
    rename_i hgd
    have hx : w.xs[i]? = some w.xs[i] := by simp [hlt]
    refine .inr ⟨hJ.go _ _ _ t R hgd i _ hx, Pv (i + 1), fun σ' H' q => ⟨w.xs.length - (i + 1), by omega, rfl, hlt, q⟩, fun u H' y => ?_⟩
    obtain ⟨y1, y2⟩ := hJ.yld _ _ _ t R hgd i _ hx u H' y
    obtain ⟨t1, R1⟩ := yld_tr R y1
    have p1 := Pst.at p t1
    split at p1
    · exact (show False from p1).elim
    rename_i e1 hs
    refine ⟨j, e, h, _, R1, E.tr t1, y2, e1, hs, fun σ' E1 hc => ⟨σ0, c.more hc hv, j, e1, h, R1, E1, ?_⟩⟩
    refine (Pst.bind p1).imp fun f j2 h2 H2 t2 R2 p2 => ?_
    cases f with
    | nx e2 => exact fun σ'' E2 c2 => ⟨j2, e2, h2, t.trans (t1.trans t2), R2, E2, c2, p2⟩
    | ct e2 => exact fun σ'' E2 c2 => ⟨j2, e2, h2, t.trans (t1.trans t2), R2, E2, c2, p2⟩
    | brk e2 => exact fun σ'' E2 c2 => (Pst.here (ok1 := okF K mg vs σ0 Dd) p2 R2) σ'' E2 c2
    | ret v => exact fun u ru => (Pst.here (ok1 := okF K mg vs σ0 Dd) p2 R2) u ru
  · have hi2 : w.xs.length ≤ i := by omega
    rw [List.drop_eq_nil_of_le hi2] at p
    unfold forL at p
    split at p
    · rename_i hgd
      exact .inl ⟨hJ.stop _ _ _ t R hgd i (by omega), (Pst.here (ok1 := okF K mg vs σ0 Dd) p R) σ1 E c⟩
    · exact (show False from p).elim
/-- the loop of a while -/
theorem while_snd {Tb : TbL} {K : PySem.W.Frag} {mg : Str → Option Value} {W : WX} {vs : List Nat} {tst : NC.Env → Hv → Res PV} {body : NC.Env → Hv → Res Flow} {Dd : Ends} {σ : L2.St} {H : Hp}
    (q : tS K mg Tb W vs (whileL tst body) Dd σ H) : tWhile (tT K mg Tb W tst) (tS K mg Tb W vs body) Dd σ H := by
  obtain ⟨σ0, c, j, e, h, R, E, p⟩ := q
  let Pv : Nat → L2.St → Hp → Prop := fun n σ H => ∃ j e h r, Rl K mg Tb j h H ∧ REnv K mg j h.os.length H e σ ∧ Chg vs σ0 σ ∧ WRun tst body n e h r ∧ Pst K mg Tb j h H r (okF K mg vs σ0 Dd) (ekF W vs σ0)
  refine ⟨Pv, ?_, ?_⟩
  · rcases whileL_cases tst body e h with ⟨n, x⟩ | x
    · exact ⟨n, j, e, h, _, R, E, c, x, p⟩
    · rw [x] at p; exact (show False from p).elim
  rintro m σ1 H1 ⟨j1, e1, h1, r, R1, E1, c1, x, p⟩
  cases x with
  | done ht =>
    refine ⟨j1, e1, h1, R1, E1, ?_⟩
    dsimp only
    rw [ht]
    exact fun j2 H2 t2 R2 => ⟨false, rfl, (Pst.here (ok1 := okF K mg vs σ0 Dd) (Pst.at p t2) R2) σ1 (E1.tr t2) c1⟩
  | texc ht =>
    refine ⟨j1, e1, h1, R1, E1, ?_⟩
    dsimp only
    rw [ht]
    exact fun j2 H2 cls d t2 R2 rx => p j2 H2 cls d t2 R2 rx σ1 c1
  | bexc ht hb =>
    refine ⟨j1, e1, h1, R1, E1, ?_⟩
    dsimp only
    rw [ht]
    refine fun j2 H2 t2 R2 => ⟨true, rfl, fun _ _ => False, fun _ _ z => z.elim, σ0, c1, j2, e1, _, R2, E1.tr t2, ?_⟩
    dsimp only
    rw [hb]
    exact Pst.at p t2
  | ret ht hb =>
    refine ⟨j1, e1, h1, R1, E1, ?_⟩
    dsimp only
    rw [ht]
    refine fun j2 H2 t2 R2 => ⟨true, rfl, fun _ _ => False, fun _ _ z => z.elim, σ0, c1, j2, e1, _, R2, E1.tr t2, ?_⟩
    dsimp only
    rw [hb]
    exact fun j3 H3 t3 R3 => p j3 H3 (t2.trans t3) R3
  | brk ht hb =>
    refine ⟨j1, e1, h1, R1, E1, ?_⟩
    dsimp only
    rw [ht]
    refine fun j2 H2 t2 R2 => ⟨true, rfl, fun _ _ => False, fun _ _ z => z.elim, σ0, c1, j2, e1, _, R2, E1.tr t2, ?_⟩
    dsimp only
    rw [hb]
    exact fun j3 H3 t3 R3 => p j3 H3 (t2.trans t3) R3
  | nx ht hb w =>
    rename_i n
    refine ⟨j1, e1, h1, R1, E1, ?_⟩
    dsimp only
    rw [ht]
    refine fun j2 H2 t2 R2 => ⟨true, rfl, Pv n, fun σ' H' z => ⟨n, Nat.lt_succ_self n, z⟩, σ0, c1, j2, e1, _, R2, E1.tr t2, ?_⟩
    dsimp only
    rw [hb]
    exact fun j3 H3 t3 R3 σ' E3 c3 => ⟨j3, _, _, _, R3, E3, c3, w, Pst.at p (t2.trans t3)⟩
  | ct ht hb w =>
    rename_i n
    refine ⟨j1, e1, h1, R1, E1, ?_⟩
    dsimp only
    rw [ht]
    refine fun j2 H2 t2 R2 => ⟨true, rfl, Pv n, fun σ' H' z => ⟨n, Nat.lt_succ_self n, z⟩, σ0, c1, j2, e1, _, R2, E1.tr t2, ?_⟩
    dsimp only
    rw [hb]
    exact fun j3 H3 t3 R3 σ' E3 c3 => ⟨j3, _, _, _, R3, E3, c3, w, Pst.at p (t2.trans t3)⟩
theorem sub_assign {D : Nm} {sc : Scope} {N : List Str} {a : E} {o i : Expr} {p : Pos} {env : PySem.Env} (h : chkE D sc N a i = true) : ∀ v, assign (.Subscript o i p) env v = (do
      let ov ← holding [v] (eval o env)
      let iv ← holding [v, ov] (eval i env)
      standAt p
      holding [v, ov, iv] (setItem ov iv v)
      release [v, ov, iv] []) := by
  cases i <;> first | exact fun _ => rfl | (rw [chk_noslice] at h; cases h)
theorem iop_sub_none {X : Cx} {f : Value → Value → Sem Value} : OpR X f (fun _ _ _ _ => False) := fun _ _ _ _ _ _ _ _ _ _ _ _ q => q.elim
theorem aug_snd {Tb : TbL} {X : Cx} {o : Op} {opr : Operator} (hc : chkOp o opr = true) : ∃ r, OpR X (inplaceOp opr) r ∧ Srv2 X.K X.mg Tb (NC.augop o) r := by
  cases o <;> cases opr <;> first | (exact absurd hc (by decide)) | skip
  · refine ⟨_, iop_add.or iop_add_str, fun x y u v j h H Q ek R rx ry p => ?_⟩
    unfold NC.augop at p
    split at p <;> first | (rename_i q _ _; exact absurd q (by decide)) | (rename_i q _; exact absurd q (by decide)) | (rename_i q; exact absurd q (by decide)) | skip
    · cases rx with | d rx => cases rx; cases ry with | d ry => cases ry; exact .inl ⟨_, _, rfl, rfl, p.here R _ (.d (.int _))⟩
    · cases rx with | d rx => cases rx; cases ry with | d ry => cases ry; split at p; exact .inr ⟨_, _, rfl, rfl, lnOk_le ‹_›, p.here R _ (.d (.str _))⟩; exact p.elim
    · exact p.elim
  · refine ⟨_, iop_sub, fun x y u v j h H Q ek R rx ry p => ?_⟩
    unfold NC.augop at p
    split at p <;> first | (rename_i q _ _; exact absurd q (by decide)) | (rename_i q _; exact absurd q (by decide)) | (rename_i q; exact absurd q (by decide)) | skip
    · cases rx with | d rx => cases rx; cases ry with | d ry => cases ry; exact ⟨_, _, rfl, rfl, p.here R _ (.d (.int _))⟩
    · exact p.elim
  all_goals
    refine ⟨_, iop_sub_none, fun x y u v j h H Q ek R rx ry p => ?_⟩
    unfold NC.augop at p
    split at p <;> first | (rename_i q _ _; exact absurd q (by decide)) | (rename_i q _; exact absurd q (by decide)) | (rename_i q; exact absurd q (by decide)) | exact p.elim
theorem swaps_sole {t v : Expr} {l : Nat} {env : PySem.Env} (h : ∀ x q, t ≠ .Name x q) : swapsWithSole [t] v l env = pure false := swaps_other h
mutual
theorem s_snd {Tb : TbL} : ∀ (s : S) (X : Cx) (W : WX) (vs : List Nat), Ctx X W D G C Tb → DCtx X → (∀ i ∈ s.vars, i ∈ vs) → ∀ (st : Stmt), chkS D X.env.scope X.N s st = true → PS X st (tS X.K X.mg Tb W vs (exec G C s))
  | .ret a, X, W, vs, ct, dc, hv, st, h => by
    rw [chkS.eq_def] at h
    dsimp only at h
    split at h
    rotate_left
    · cases h
    refine (ps_ret (e_snd a X W ct _ h).pe).imp fun Dd σ H q => ?_
    obtain ⟨σ0, c, j, e, hh, R, E, p⟩ := q
    exact thenE' R E c p fun v u j1 h1 H1 t R1 E1 ru p1 => (Pst.here (ok1 := okF X.K X.mg vs σ0 Dd) p1 R1) u ru
  | .retN, X, W, vs, ct, dc, hv, st, h => by
    rw [chkS.eq_def] at h
    dsimp only at h
    split at h
    rotate_left
    · cases h
    refine ps_retN.imp fun Dd σ H q => ?_
    obtain ⟨σ0, c, j, e, hh, R, E, p⟩ := q
    exact (Pst.here (ok1 := okF X.K X.mg vs σ0 Dd) p R) _ (.d .non)
  | .asg tg a, X, W, vs, ct, dc, hv, st, h => by
    rw [chkS.eq_def] at h
    dsimp only at h
    split at h
    rotate_left
    · cases h
    rename_i t e pos
    simp only [Bool.and_eq_true] at h
    obtain ⟨⟨hg, he⟩, hs⟩ := h
    cases t <;> first | (cases hs; done) | skip
    case Name x p =>
      cases tg with
      | var i => exact asg_var ct dc hg he (hv i (by simp [S.vars, Tg.vars]))
      | tup ts => simp [chkTg] at hg
    case Tuple es k p =>
      cases tg with
      | var i => simp [chkTg] at hg
      | tup ts =>
      have h1 : (assignEach [Expr.Tuple es k p] X.env).map (·.2) = [assign (.Tuple es k p) X.env] := rfl
      refine (ps_asg (e_snd a X W ct _ he).pe (tgh_snd (Tb := Tb) ct.calm ct.nd dc.fa _ _ hg) (swaps_sole (by intro x q z; cases z)) (swapped_no dc.bk hs) h1).imp fun Dd σ H q => ?_
      obtain ⟨σ0, c, j, e, hh, R, E, p⟩ := q
      refine thenE' R E c p fun v u j1 h1 H1 t R1 E1 ru p1 => ?_
      split at p1
      · rename_i e1 hs
        exact ⟨j1, e, h1, v, R1, E1, ru, e1, hs, fun σ' E' c' => (Pst.here (ok1 := okF X.K X.mg vs σ0 Dd) p1 R1) σ' E' (c.more c' fun i hi => hv i (by simpa [S.vars] using hi))⟩
      · exact (show False from p1).elim
  | .par i k a b, X, W, vs, ct, dc, hv, st, h => by
    rw [chkS.eq_def] at h
    dsimp only at h
    split at h
    rotate_left
    · cases h
    rename_i x px y py kk p ea eb k2 p2 pos
    simp only [Bool.and_eq_true] at h
    have hp := h.1.1
    unfold parB at hp
    simp only [Bool.and_eq_true, decide_eq_true_eq] at hp
    obtain ⟨⟨⟨⟨⟨⟨⟨⟨⟨⟨n1, n2⟩, hx⟩, hy⟩, hij⟩, _⟩, _⟩, _⟩, _⟩, _⟩, _⟩ := hp
    have sa := chk_ns h.1.2
    have sb := chk_ns h.2
    refine (ps_par ct.calm ct.nd n1 n2 hij (loc1_of hx) (loc1_of hy) (pa_cons (e_snd a X W ct _ h.1.2).pe (pa_cons (e_snd b X W ct _ h.2).pe pa_nil (star_cons sb)) (star_cons sa)) (swapped_par dc.bk h.1.1 sa sb) (swaps_sole (by intro x q z; cases z))).imp fun Dd σ H q => ?_
    obtain ⟨σ0, c, j, e, hh, R, E, p⟩ := q
    refine thenE' R E c p fun v u j1 h1 H1 t R1 E1 ru p1 => thenE' R1 E1 c p1 fun v2 u2 j2 h2 H2 t2 R2 E2 ru2 p2 => ?_
    split at p2
    · exact ⟨u, u2, rfl, (Pst.here (ok1 := okF X.K X.mg vs σ0 Dd) p2 R2) _ ((E2.set (ru.tr t2)).set ru2) ((c.set (hv i (by simp [S.vars]))).set (hv k (by simp [S.vars])))⟩
    · exact (show False from p2).elim
  | .par3 i k l a b c3, X, W, vs, ct, dc, hv, st, h => by
    rw [chkS.eq_def] at h
    dsimp only at h
    split at h
    rotate_left
    · cases h
    rename_i x px y py z pz kk p ea eb ec k2 p2 pos
    simp only [Bool.and_eq_true] at h
    have hp := h.1.1.1
    unfold par3B at hp
    simp only [Bool.and_eq_true, decide_eq_true_eq] at hp
    obtain ⟨⟨⟨⟨⟨⟨⟨⟨⟨⟨⟨⟨⟨⟨⟨⟨⟨⟨n1, n2⟩, n3⟩, hx⟩, hy⟩, hz⟩, hij⟩, hil⟩, hjl⟩, _⟩, _⟩, _⟩, _⟩, _⟩, _⟩, _⟩, _⟩, _⟩, _⟩ := hp
    have sa := chk_ns h.1.1.2
    have sb := chk_ns h.1.2
    have sc := chk_ns h.2
    refine (ps_par3 ct.calm ct.nd n1 n2 n3 hij hil hjl (loc1_of hx) (loc1_of hy) (loc1_of hz) (pa_cons (e_snd a X W ct _ h.1.1.2).pe (pa_cons (e_snd b X W ct _ h.1.2).pe (pa_cons (e_snd c3 X W ct _ h.2).pe pa_nil (star_cons sc)) (star_cons sb)) (star_cons sa)) (swapped_par3 dc.bk h.1.1.1 sa sb sc) (swaps_sole (by intro x q z; cases z))).imp fun Dd σ H q => ?_
    obtain ⟨σ0, c, j, e, hh, R, E, p⟩ := q
    refine thenE' R E c p fun v u j1 h1 H1 t R1 E1 ru p1 => thenE' R1 E1 c p1 fun v2 u2 j2 h2 H2 t2 R2 E2 ru2 p2 => thenE' R2 E2 c p2 fun v3 u3 j3 h3 H3 t3 R3 E3 ru3 p3 => ?_
    split at p3
    · exact ⟨u, u2, u3, rfl, (Pst.here (ok1 := okF X.K X.mg vs σ0 Dd) p3 R3) _ (((E3.set (ru.tr (t2.trans t3))).set (ru2.tr t3)).set ru3) (((c.set (hv i (by simp [S.vars]))).set (hv k (by simp [S.vars]))).set (hv l (by simp [S.vars])))⟩
    · exact (show False from p3).elim
  | .setI o i a, X, W, vs, ct, dc, hv, st, h => by
    rw [chkS.eq_def] at h
    dsimp only at h
    split at h
    rotate_left
    · cases h
    rename_i eo ei p ee pos
    simp only [Bool.and_eq_true] at h
    have hps : PSet X rSetB := set_both (by have := ct.roomy.un; omega)
    have hw : swappedStores [Expr.Subscript eo ei p] ee X.env = pure none := rfl
    have h1 : (assignEach [Expr.Subscript eo ei p] X.env).map (·.2) = [assign (.Subscript eo ei p) X.env] := rfl
    refine (ps_asg (e_snd a X W ct _ h.2).pe (pg_sub (e_snd o X W ct _ h.1.1).pe (e_snd i X W ct _ h.1.2).pe hps (sub_assign h.1.2)) (swaps_sole (by intro x q z; cases z)) hw h1).imp fun Dd σ H q => ?_
    obtain ⟨σ0, c, j, e, hh, R, E, p⟩ := q
    refine thenE' R E c p fun v u j1 h1 H1 t R1 E1 ru p1 => thenE' R1 E1 c p1 fun v2 u2 j2 h2 H2 t2 R2 E2 ru2 p2 => thenE' R2 E2 c p2 fun v3 u3 j3 h3 H3 t3 R3 E3 ru3 p3 => ?_
    refine setI_snd (X := X) (Tb := Tb) v2 v3 v u2 u3 u j3 h3 H3 _ (ekF W vs σ0) R3 (ru2.tr t3) ru3 (ru.tr (t2.trans t3)) ((Pst.bind p3).imp fun w j4 h4 H4 t4 R4 p4 => ?_)
    exact (Pst.here (ok1 := okF X.K X.mg vs σ0 Dd) p4 R4) _ (E3.tr t4) c
  | .aug i op a, X, W, vs, ct, dc, hv, st, h => by
    rw [chkS.eq_def] at h
    dsimp only at h
    split at h
    rotate_left
    · cases h
    rename_i x p eop e pos
    simp only [chkTg, Bool.and_eq_true, decide_eq_true_eq] at h
    obtain ⟨⟨⟨⟨hN, hl⟩, _⟩, ho⟩, he⟩ := h
    have hl' := dc.fa _ hl
    obtain ⟨r, hr, hs⟩ := aug_snd (X := X) (Tb := Tb) ho
    have hp : PIp X eop r := fun pins s σ H x y v u Q I r1 r2 q => hr pins s σ H x y v u Q I r1 r2 q
    refine (ps_aug ct.nd hN hl'.1 (e_snd a X W ct _ he).pe hp hl'.2).imp fun Dd σ H q => ?_
    obtain ⟨σ0, c, j, e, hh, R, E, p⟩ := q
    unfold exec at p
    split at p
    · rename_i x hx
      obtain ⟨u, h1, h2⟩ := E.2 i x hx
      refine ⟨u, h1, thenE' R E c p fun v u2 j1 h1 H1 t R1 E1 ru p1 => hs _ _ _ _ _ _ _ _ (ekF W vs σ0) R1 (h2.tr t) ru ((Pst.bind p1).imp fun z j2 h2 H2 t2 R2 p2 w rw => ?_)⟩
      split at p2
      · exact (Pst.here (ok1 := okF X.K X.mg vs σ0 Dd) p2 R2) _ ((E1.tr t2).set rw) (c.set (hv i (by simp [S.vars])))
      · exact (show False from p2).elim
    · exact (show False from p).elim
  | .expr a, X, W, vs, ct, dc, hv, st, h => by
    rw [chkS.eq_def] at h
    dsimp only at h
    split at h
    rotate_left
    · cases h
    simp only [Bool.and_eq_true, Bool.not_eq_true'] at h
    refine (ps_expr (e_snd a X W ct _ h.1).pe (swaps_no h.2)).imp fun Dd σ H q => ?_
    obtain ⟨σ0, c, j, e, hh, R, E, p⟩ := q
    exact thenE' R E c p fun v u j1 h1 H1 t R1 E1 ru p1 => (Pst.here (ok1 := okF X.K X.mg vs σ0 Dd) p1 R1) σ E1 c
  | .ifS c a b, X, W, vs, ct, dc, hv, st, h => by
    rw [chkS.eq_def] at h
    dsimp only at h
    split at h
    rotate_left
    · cases h
    simp only [Bool.and_eq_true] at h
    refine (ps_if (e_snd c X W ct _ h.1.1).pt (ss_snd a X W vs ct dc (fun i hi => hv i (by simp [S.vars, hi])) _ h.1.2) (ss_snd b X W vs ct dc (fun i hi => hv i (by simp [S.vars, hi])) _ h.2)).imp fun Dd σ H q => ?_
    obtain ⟨σ0, c, j, e, hh, R, E, p⟩ := q
    refine thenT' R E c p fun k j1 h1 H1 t R1 E1 p1 => ?_
    cases k with
    | true => exact ⟨σ0, c, j1, e, h1, R1, E1, p1⟩
    | false => exact ⟨σ0, c, j1, e, h1, R1, E1, p1⟩
  | .forS tg it body, X, W, vs, ct, dc, hv, st, h => by
    rw [chkS.eq_def] at h
    dsimp only at h
    split at h
    rotate_left
    · cases h
    rename_i etg eit ebody pos
    simp only [Bool.and_eq_true] at h
    refine (ps_for ct.pass ct.calm (it_snd it X W ct etg eit h.1.1.2 h.1.2) (tg_snd (Tb := Tb) ct.calm ct.nd dc.fa tg etg h.1.1.1) (ss_snd body X W vs ct dc (fun i hi => hv i (by simp [S.vars, hi])) _ h.2) (fold_ok h.1.1.2 X.env)).imp fun Dd σ H q => ?_
    obtain ⟨σ0, c, j, e, hh, R, E, p⟩ := q
    refine ⟨j, e, hh, R, E, (Pst.impE (Pst.bind p) fun _ _ _ q => q σ c).imp fun w j1 h1 H1 t R1 p1 J hJ => ?_⟩
    exact for_snd hJ R1 (E.tr t) c (fun i hi => hv i (by simp [S.vars, hi])) p1
  | .whileS c body, X, W, vs, ct, dc, hv, st, h => by
    rw [chkS.eq_def] at h
    dsimp only at h
    split at h
    rotate_left
    · cases h
    simp only [Bool.and_eq_true] at h
    exact (ps_while ct.pass (e_snd c X W ct _ h.1).pt (ss_snd body X W vs ct dc (fun i hi => hv i (by simp [S.vars, hi])) _ h.2)).imp fun Dd σ H q => while_snd q
  | .raiseS c es, X, W, vs, ct, dc, hv, st, h => by
    rw [chkS.eq_def] at h
    dsimp only at h
    split at h
    rotate_left
    · cases h
    simp only [Bool.and_eq_true, decide_eq_true_eq, List.isEmpty_iff] at h
    obtain ⟨⟨⟨⟨h1, hg⟩, hx⟩, he⟩, hee⟩ := h
    subst h1
    subst he
    subst hee
    obtain ⟨Ca, bmB, B, newId, initId, F, q1, q2, q3, q4, q5⟩ := ct.exs _ hx
    refine (ps_raise ct.calm ct.tk (pmk_own0 F q1 q2 q3 (raises_own q4 q5) (glb_of hg).1 (okn (glb_of hg).2).1)).imp fun Dd σ H q => ?_
    obtain ⟨σ0, c, j, e, hh, R, E, p⟩ := q
    exact (show Pst X.K X.mg Tb j hh H (.exc _ [] hh) _ (ekF W vs σ0) from p) j H _ _ Tr.refl R ⟨Ca, rfl, q2, rfl, rfl⟩ σ c
  | .opq, X, W, vs, ct, dc, hv, st, h => by
    refine ⟨fun pins s σ H Dd I q => ?_⟩
    obtain ⟨σ0, c, j, e, hh, R, E, p⟩ := q
    have hx : exec G C .opq e hh = .bad := by simp only [exec]
    rw [hx] at p
    exact (show False from p).elim
  | .setF c o f a, X, W, vs, ct, dc, hv, st, h => by
    rw [chkS.eq_def] at h
    dsimp only at h
    split at h
    rotate_left
    · cases h
    simp only [Bool.and_eq_true, decide_eq_true_eq] at h
    obtain ⟨⟨⟨⟨rfl, hf⟩, _⟩, ho⟩, ha⟩ := h
    obtain ⟨Cc, hm, hc, hn⟩ := ct.fld _ hf
    refine (ps_fld (e_snd o X W ct _ ho).pe (e_snd a X W ct _ ha).pe (swaps_other (by intro x q z; cases z))).imp fun Dd σ H q => ?_
    obtain ⟨σ0, c', j, e, hh, R, E, p⟩ := q
    refine thenE' R E c' p fun v u j1 h1 H1 t R1 E1 ru p1 => thenE' R1 E1 c' p1 fun v2 u2 j2 h2 H2 t2 R2 E2 ru2 p2 => ?_
    split at p2
    rotate_left
    · exact (show False from p2).elim
    rename_i h3 hs
    obtain ⟨ad, C', dx, fv, e1, e2, e3, hl, hle, sh, t3, R3⟩ := setF_snd R2 ru2 (ru.tr t2) hs
    rw [hm] at e3
    cases e3
    exact ⟨ad, _, dx, fv, e1, e2, hc, hn, by omega, (show okF X.K X.mg vs σ0 Dd (.nx e) _ _ _ from p2 _ _ t3 R3) _ (E2.tr t3) c'⟩
  | .augF c o f op a, X, W, vs, ct, dc, hv, st, h => by
    rw [chkS.eq_def] at h
    dsimp only at h
    split at h
    rotate_left
    · cases h
    simp only [Bool.and_eq_true, decide_eq_true_eq] at h
    obtain ⟨⟨⟨⟨rfl, hf⟩, hop⟩, ho⟩, ha⟩ := h
    obtain ⟨Cc, hm, hc, hn⟩ := ct.fld _ hf
    obtain ⟨r, hr, hs⟩ := aug_snd (X := X) (Tb := Tb) hop
    refine (ps_fldaug (rd := r) (e_snd o X W ct _ ho).pe (e_snd a X W ct _ ha).pe (fun pins s σ H x y u v Q I r1 r2 q => hr pins s σ H x y u v Q I r1 r2 q)).imp fun Dd σ H q => ?_
    obtain ⟨σ0, c', j, e, hh, R, E, p⟩ := q
    refine thenE' R E c' p fun v u j1 h1 H1 t R1 E1 ru p1 => ?_
    unfold fldD at p1
    split at p1
    rotate_left
    · exact (show False from p1).elim
    rename_i n fs hi
    obtain ⟨rfl, rfl, hn', hob, C', dx, fv, e1, e2, rf⟩ := obj_ins R1 ru hi
    rw [hm] at e2
    cases e2
    rcases lookup_rfs f rf with ⟨z, _⟩ | ⟨pv, w, z, z2, rw'⟩
    · rw [z] at p1; exact (show False from p1).elim
    rw [z] at p1
    refine ⟨_, _, dx, fv, w, rfl, e1, hc, hn, z2, thenE' R1 E1 c' p1 fun v2 u2 j2 h2 H2 t2 R2 E2 ru2 p2 => ?_⟩
    refine hs _ _ _ _ _ _ _ _ (ekF W vs σ0) R2 (rw'.tr t2) ru2 ((Pst.bind p2).imp fun zv j3 h3 H3 t3 R3 p3 uz ruz => ?_)
    split at p3
    rotate_left
    · exact (show False from p3).elim
    rename_i h4 hst
    obtain ⟨ad, C', dx', fv', e1', e2', e3', hl, hle, sh, t4, R4⟩ := setF_snd R3 (ru.tr (t2.trans t3)) ruz hst
    cases e1'
    rw [hm] at e3'
    cases e3'
    exact ⟨dx', fv', e2', by omega, (show okF X.K X.mg vs σ0 Dd (.nx e) _ _ _ from p3 _ _ t4 R4) _ ((E1.tr (t2.trans t3)).tr t4) c'⟩
  | .pass, X, W, vs, ct, dc, hv, st, h => by
    rw [chkS.eq_def] at h
    dsimp only at h
    split at h
    rotate_left
    · cases h
    refine ps_pass.imp fun Dd σ H q => ?_
    obtain ⟨σ0, c, j, e, hh, R, E, p⟩ := q
    exact (Pst.here (ok1 := okF X.K X.mg vs σ0 Dd) p R) σ E c
  | .brk, X, W, vs, ct, dc, hv, st, h => by
    rw [chkS.eq_def] at h
    dsimp only at h
    split at h
    rotate_left
    · cases h
    refine ps_break.imp fun Dd σ H q => ?_
    obtain ⟨σ0, c, j, e, hh, R, E, p⟩ := q
    exact (Pst.here (ok1 := okF X.K X.mg vs σ0 Dd) p R) σ E c
  | .ct, X, W, vs, ct, dc, hv, st, h => by
    rw [chkS.eq_def] at h
    dsimp only at h
    split at h
    rotate_left
    · cases h
    refine ps_continue.imp fun Dd σ H q => ?_
    obtain ⟨σ0, c, j, e, hh, R, E, p⟩ := q
    exact (Pst.here (ok1 := okF X.K X.mg vs σ0 Dd) p R) σ E c
theorem ss_snd {Tb : TbL} : ∀ (s : List S) (X : Cx) (W : WX) (vs : List Nat), Ctx X W D G C Tb → DCtx X → (∀ i ∈ S.varsL s, i ∈ vs) → ∀ (st : List Stmt), chkSs D X.env.scope X.N s st = true → PSs X st (tS X.K X.mg Tb W vs (execs G C s))
  | [], X, W, vs, ct, dc, hv, st, h => by
    cases st with
    | cons _ _ => simp [chkSs] at h
    | nil =>
      refine pss_nil.imp fun Dd σ H q => ?_
      obtain ⟨σ0, c, j, e, hh, R, E, p⟩ := q
      exact (Pst.here (ok1 := okF X.K X.mg vs σ0 Dd) p R) σ E c
  | s :: r, X, W, vs, ct, dc, hv, st, h => by
    cases st with
    | nil => simp [chkSs] at h
    | cons e er =>
      simp only [chkSs, Bool.and_eq_true] at h
      refine (pss_cons (s_snd s X W vs ct dc (fun i hi => hv i (by simp [S.varsL, hi])) e h.1) (ss_snd r X W vs ct dc (fun i hi => hv i (by simp [S.varsL, hi])) er h.2)).imp fun Dd σ H q => ?_
      obtain ⟨σ0, c, j, e, hh, R, E, p⟩ := q
      refine ⟨σ0, c, j, e, hh, R, E, (Pst.bind p).imp fun f j1 h1 H1 t R1 p1 => ?_⟩
      cases f with
      | nx e1 => exact fun σ' E1 c1 => ⟨σ0, c1, j1, e1, h1, R1, E1, p1⟩
      | ret v => exact fun u ru => (Pst.here (ok1 := okF X.K X.mg vs σ0 Dd) p1 R1) u ru
      | brk e1 => exact fun σ' E1 c1 => (Pst.here (ok1 := okF X.K X.mg vs σ0 Dd) p1 R1) σ' E1 c1
      | ct e1 => exact fun σ' E1 c1 => (Pst.here (ok1 := okF X.K X.mg vs σ0 Dd) p1 R1) σ' E1 c1
end
end NC
/-! Defs: what a def of the table answers. -/
namespace NC
open PySem PySem.Spec PyProof.Rows L2

/-! ### objects let go at a def's end -/
mutual
theorem RV.cut {K : PySem.W.Frag} {mg : Str → Option Value} {j : Gh} {n m : Nat} {H : Hp} : ∀ (p : PV) (v : V), (∀ r ∈ p.refs, r < m) → RV K mg j n H p v → RV K mg j m H p v
  | .d x, _, _, r => by cases r with | d r => exact .d r
  | .ref i, _, h, r => by cases r with | ref _ => exact .ref (h i (by simp [PV.refs]))
  | .tup ps, _, h, r => by cases r with | tup z q => exact .tup z (RVs.cut ps _ (fun i hi => h i (by simpa [PV.refs] using hi)) q)
  | .fn _, _, _, r => by cases r with | fn e => exact .fn e
  | .scr _, _, _, r => by cases r with | scr z q => exact .scr z q
theorem RVs.cut {K : PySem.W.Frag} {mg : Str → Option Value} {j : Gh} {n m : Nat} {H : Hp} : ∀ (ps : List PV) (vs : List V), (∀ r ∈ PV.refsL ps, r < m) → RVs K mg j n H ps vs → RVs K mg j m H ps vs
  | [], _, _, r => by cases r; exact .nil
  | p :: ps, _, h, r => by cases r with | cons a b => exact .cons (RV.cut p _ (fun i hi => h i (by simp [PV.refsL, hi])) a) (RVs.cut ps _ (fun i hi => h i (by simp [PV.refsL, hi])) b)
end
mutual
theorem RV.lt {K : PySem.W.Frag} {mg : Str → Option Value} {j : Gh} {n : Nat} {H : Hp} : ∀ (p : PV) (v : V), RV K mg j n H p v → ∀ r ∈ p.refs, r < n
  | .d x, _, _, i, hi => by simp [PV.refs] at hi
  | .ref k, _, r, i, hi => by cases r with | ref q => simp [PV.refs] at hi; rw [hi]; exact q
  | .tup ps, _, r, i, hi => by cases r with | tup z q => exact RVs.lt ps _ q i (by simpa [PV.refs] using hi)
  | .fn _, _, _, i, hi => by simp [PV.refs] at hi
  | .scr _, _, _, i, hi => by simp [PV.refs] at hi
theorem RVs.lt {K : PySem.W.Frag} {mg : Str → Option Value} {j : Gh} {n : Nat} {H : Hp} : ∀ (ps : List PV) (vs : List V), RVs K mg j n H ps vs → ∀ r ∈ PV.refsL ps, r < n
  | [], _, _, i, hi => by simp [PV.refsL] at hi
  | p :: ps, _, r, i, hi => by
    cases r with
    | cons a b =>
      simp only [PV.refsL, List.mem_append] at hi
      rcases hi with hi | hi
      · exact RV.lt p _ a i hi
      · exact RVs.lt ps _ b i hi
end
section
variable {K : PySem.W.Frag} {mg : Str → Option Value} {j j1 : Gh} {h h1 : Hv} {n m : Nat} {H H1 : Hp}
theorem RFs.cut : ∀ {fs : List (Str × PV)} {vs : List (Str × V)}, (∀ r ∈ PV.refsL (fs.map (·.2)), r < m) → RFs K mg j n H fs vs → RFs K mg j m H fs vs
  | [], [], _, _ => trivial
  | (_, p) :: fs, _ :: _, h, ⟨a, b, c⟩ => ⟨a, RV.cut p _ (fun i hi => h i (by simp [PV.refsL, hi])) b, RFs.cut (fun i hi => h i (by simp [PV.refsL]; exact .inr (by simpa using hi))) c⟩
  | [], _ :: _, _, z => z.elim
  | _ :: _, [], _, z => z.elim
theorem RFs.lt : ∀ {fs : List (Str × PV)} {vs : List (Str × V)}, RFs K mg j n H fs vs → ∀ r ∈ PV.refsL (fs.map (·.2)), r < n
  | [], [], _, i, hi => by simp [PV.refsL] at hi
  | (_, p) :: fs, _ :: _, ⟨_, b, c⟩, i, hi => by
    simp only [List.map_cons, PV.refsL, List.mem_append] at hi
    rcases hi with hi | hi
    · exact RV.lt p _ b i hi
    · exact RFs.lt c i hi
  | [], _ :: _, z, _, _ => z.elim
  | _ :: _, [], z, _, _ => z.elim
theorem RO.lt {a : Addr} {o : Ob} (r : RO K mg j n H a o) : ∀ i ∈ o.refs, i < n := by
  cases o with
  | lst xs => intro i hi; simp [Ob.refs] at hi
  | ins c fs => obtain ⟨C, dx, fv, h1, h2, h3⟩ := r; exact RFs.lt h3
  | dct kvs => intro i hi; simp [Ob.refs] at hi
theorem RO.cut {a : Addr} {o : Ob} (h : ∀ i ∈ o.refs, i < m) (r : RO K mg j n H a o) : RO K mg j m H a o := by
  cases o with
  | lst xs => exact r
  | ins c fs => obtain ⟨C, dx, fv, h1, h2, h3⟩ := r; exact ⟨C, dx, fv, h1, h2, RFs.cut h h3⟩
  | dct kvs => exact r
/-- what stands of the older objects -/
def keep (h h1 : Hv) : Hv := ⟨h1.os.take h.os.length, h.lim⟩
theorem keep_len {Tb : TbL} (t : Tr Tb j ⟨h.os, h.os.length⟩ H j1 h1 H1) : (keep h h1).os.length = h.os.length := by
  have := t.sh.le
  simp only [keep, List.length_take]
  exact Nat.min_eq_left this
theorem keep_get {i : Nat} {o : Ob} (e : (keep h h1).os[i]? = some o) : i < h.os.length ∧ h1.os[i]? = some o := by
  have hi : i < h.os.length := by
    have := (List.getElem?_eq_some_iff.mp e).1
    simp only [keep, List.length_take] at this
    omega
  refine ⟨hi, ?_⟩
  have e' : (h1.os.take h.os.length)[i]? = some o := e
  rw [List.getElem?_take_of_lt hi] at e'
  exact e'
theorem Tr.keep {Tb : TbL} (R : Rl K mg Tb j h H) (t : Tr Tb j ⟨h.os, h.os.length⟩ H j1 h1 H1) : Tr Tb j h H j1 (keep h h1) H1 := by
  have hl := keep_len t
  refine ⟨t.ag, t.kp, ⟨rfl, by rw [hl]; exact Nat.le_refl _, fun i o' hi e => ?_⟩, fun a o e nt n => ?_⟩
  · obtain ⟨hn, e1⟩ := keep_get e
    exact t.sh.sub i o' hn e1
  · obtain ⟨a1, a2, a3⟩ := t.fr a o e nt n
    exact ⟨a1, a2, fun i hi => a3 i (by rw [hl] at hi; exact Nat.lt_of_lt_of_le hi t.sh.le)⟩
theorem Rl.keep {Tb : TbL} (R : Rl K mg Tb j h H) (t : Tr Tb j ⟨h.os, h.os.length⟩ H j1 h1 H1) (R1 : Rl K mg Tb j1 h1 H1) : Rl K mg Tb j1 (keep h h1) H1 := by
  have hl := keep_len t
  have le : h.os.length ≤ h1.os.length := t.sh.le
  refine ⟨fun a b ha hb => R1.inj a b (by rw [hl] at ha; omega) (by rw [hl] at hb; omega), fun i o e => ?_, by rw [hl]; exact R.lim, fun i hi => R1.nf i (by rw [hl] at hi; omega), R1.fd, R1.tb⟩
  obtain ⟨hn, e1⟩ := keep_get e
  obtain ⟨o0, e0, s0⟩ := t.sh.sub i o hn e1
  rw [hl]
  exact RO.cut (fun r hr => (R.obj i o0 e0).lt r (s0 r hr)) (R1.obj i o e1)
end

/-! ### a def's body -/
theorem start_env {K : PySem.W.Frag} {mg : Str → Option Value} {j : Gh} {n k : Nat} {H : Hp} {N : List Str} {args : List PV} {vs : List V} (hk : k = N.length) (r : RVs K mg j n H args vs) : REnv K mg j n H (args.map some ++ List.replicate (k - args.length) none) (start N vs) := by
  subst hk
  have hl := r.length
  refine ⟨by simp [L2.start, hl], fun i p e => ?_⟩
  by_cases hi : i < args.length
  · rw [List.getElem?_append_left (by simpa using hi), List.getElem?_map] at e
    cases q : args[i]? with
    | none => rw [q] at e; cases e
    | some a =>
      rw [q] at e
      cases e
      obtain ⟨v, h1, h2⟩ := r.get q
      exact ⟨v, by unfold L2.start; rw [List.getElem?_append_left (by simp; omega), List.getElem?_map, h1]; rfl, h2⟩
  · rw [List.getElem?_append_right (by simpa using hi), List.getElem?_replicate] at e
    split at e <;> cases e
theorem run_snd {Tb : TbL} {K : PySem.W.Frag} {mg : Str → Option Value} {G : Gls} {C : Fns} {f : Df} {j : Gh} {h : Hv} {H : Hp} {args : List PV} {vs : List V} {N : List Str} {Q : VK} {E : XK} {W : WX} {ws : List Nat} (hN : f.ns = N.length) (hp : args.length = f.np)
    (hW : ∀ c d σ H, E c d H → W c d σ H) (R : Rl K mg Tb j h H) (r : RVs K mg j h.os.length H args vs) (p : Pst K mg Tb j h H (run G C f args h) (okV K mg Q) E) :
    tS K mg Tb W ws (execs G C f.body) { nx := fun _ H' => Q .non H', rt := Q } (start N vs) H := by
  have env := start_env (mg := mg) (k := f.ns) hN r
  rw [hp] at env
  unfold run at p
  rw [if_pos hp] at p
  cases hc : f.cl with
  | false =>
    rw [hc] at p
    refine ⟨_, .refl, j, _, h, R, env, ?_⟩
    simp only [back, Bool.false_eq_true, if_false] at p
    cases q : execs G C f.body (args.map some ++ List.replicate (f.ns - f.np) none) h with
    | ok fl h1 =>
      simp only [q] at p
      rw [q]
      cases fl with
      | ret v => exact p
      | nx e => exact fun j1 H1 t R1 σ _ _ => p j1 H1 t R1 _ (.d .non)
      | brk e => exact p.elim
      | ct e => exact p.elim
    | exc c fs h1 =>
      simp only [q] at p
      rw [q]
      exact fun j1 H1 cls d t R1 x σ _ => hW _ _ _ _ (p j1 H1 cls d t R1 x)
    | bad => simp only [q] at p; rw [q]; exact p
  | true =>
    rw [hc] at p
    have R' : Rl K mg Tb j ⟨h.os, h.os.length⟩ H := ⟨R.inj, R.obj, Nat.le_refl _, R.nf, R.fd, R.tb⟩
    refine ⟨_, .refl, j, _, ⟨h.os, h.os.length⟩, R', env, ?_⟩
    simp only [back, if_true] at p
    cases q : execs G C f.body (args.map some ++ List.replicate (f.ns - f.np) none) ⟨h.os, h.os.length⟩ with
    | ok fl h1 =>
      simp only [q] at p
      rw [q]
      cases fl with
      | ret v =>
        intro j1 H1 t R1 u ru
        cases v with
        | d x => cases ru with | d ru => exact p j1 H1 (Tr.keep R t) (Rl.keep R t R1) u (.d ru)
        | fn x => cases ru with | fn ru => exact p j1 H1 (Tr.keep R t) (Rl.keep R t R1) _ (.fn ru)
        | tup ps => exact (show False from p).elim
        | scr ps => exact (show False from p).elim
        | ref m =>
          dsimp only at p
          split at p
          rotate_left
          · exact (show False from p).elim
          rename_i xs ho
          split at p
          rotate_left
          · exact (show False from p).elim
          rename_i hm
          cases ru with
          | ref hm1 =>
            obtain ⟨zs, z, rs⟩ := R1.obj m _ ho
            have le : h.os.length ≤ h1.os.length := t.sh.le
            have nz : NT (H1 (j1.at_ m)) := by rw [z]; exact ⟨(fun q => nomatch q), fun _ q => nomatch q⟩
            have no : ∀ i, i < (keep h h1).os.length → j1.at_ i ≠ j1.at_ m := fun i hi e => by
              rw [keep_len t] at hi
              have := R1.inj i m (by omega) hm1 e
              omega
            have hp0 : H (j1.at_ m) = none := by
              cases e0 : H (j1.at_ m) with
              | none => rfl
              | some o =>
                refine ((t.fr _ o e0 (noTab R1.tb z fun _ z => nomatch z) fun i hi e => ?_).2.2 m hm1 rfl).elim
                have hi' : i < h.os.length := hi
                have e2 := t.ag i hi
                have := R1.inj i m (by omega) hm1 (e2.trans e)
                omega
            exact p (j1.fix (j1.at_ m)) H1 ((Tr.keep R t).fix hp0) ((Rl.keep R t R1).fix no nz) _ (.d (.lst z (.inr rfl) (RDs.mono (.more fun _ m => .inl m) _ _ rs)))
      | nx e => exact fun j1 H1 t R1 σ _ _ => p j1 H1 (Tr.keep R t) (Rl.keep R t R1) _ (.d .non)
      | brk e => exact (show False from p).elim
      | ct e => exact (show False from p).elim
    | exc c fs h1 =>
      simp only [q] at p
      rw [q]
      exact fun j1 H1 cls d t R1 x σ _ => hW _ _ _ _ (p j1 H1 cls d (Tr.keep R t) (Rl.keep R t R1) x)
    | bad => simp only [q] at p; rw [q]; exact p
/-! ### the table -/
theorem lookup_mem {β : Type} {x : Str} {v : β} : ∀ {l : List (Str × β)}, l.lookup x = some v → (x, v) ∈ l
  | [], h => by cases h
  | (y, w) :: l, h => by
    rw [List.lookup_cons] at h
    by_cases q : x = y
    · subst q
      simp at h
      subst h
      exact List.mem_cons_self
    · have : (x == y) = false := by simpa using q
      rw [this] at h
      exact List.mem_cons_of_mem _ (lookup_mem h)
/-- a tuple of the module -/
theorem ktup {K : PySem.W.Frag} {H : Hp} {a : Addr} {od : Option Addr} {its : Array Value} {n : Nat} {sl : Array (Option Value)} {vs : List V} (hl : K.lookup a = some ⟨.type "tuple", od, .seq its n, sl⟩) (hs : its.size ≤ sizeLine) (hv : Vals vs its.toList) : SqT K H a vs := .inr ⟨_, its, n, hl, rfl, rfl, hs, hv⟩
/-- a def of the text beside a def of the table -/
def chkDef (D : Nm) (x : Str) (f : Df) (N ps : List Str) (st : Stmt) : Bool :=
  scB N ps (defScope st) && decide (f.np = ps.length) && decide (f.ns = N.length) && chkSs (D.at x) (defScope st) N f.body (defBody st)
/-- one def of the table stands in the module at f; nm: its own name -/
def DefF (K : PySem.W.Frag) (D : Nm) (T : Tab) (x nm : Str) (f : Addr) (fd : FuncData) (ps : List Str) : Prop :=
  ∃ (st : Stmt) (qual : Str) (N : List Str) (df : Df), PySem.W.keepIn K (.ref f) = true ∧ Binds K fd ps [] ∧ Fun K nm qual st f fd ∧ T x = some df ∧ chkDef D x df N ps st = true
/-- what D names stands in the module as the table says -/
structure MdF (w : World) (K : PySem.W.Frag) (mg : Str → Option Value) (D : Nm) (G : Gls) (T : Tab) : Prop where
  blt : ∀ x ∈ blts, mg x = none
  gls : ∀ x v, G x = some v → ∃ u cv, mg x = some u ∧ RelV cv u ∧ ∀ j n H, RV K mg j n H v cv
  exs : ∀ x ∈ D.exs, ExOk K mg x
  fns : ∀ x ∈ D.fns, ∃ f fd ps, mg x = some (.ref f) ∧ DefF K D T x x f fd ps
  mks : ∀ p ∈ D.mks, ∃ Cc f fd ps, mg p.1 = some (.ref Cc) ∧ Mk K Cc f ∧ DefF K D T p.2 "__init__" f fd ps
  mts : ∀ p ∈ D.mts, ∃ Cc f fd ps, mg p.1 = some (.ref Cc) ∧ Cls K Cc ∧ Meth K Cc p.2.1 f ∧ DefF K D T p.2.2 p.2.1 f fd ps
  fld : ∀ p ∈ D.fld, ∃ Cc, mg p.1 = some (.ref Cc) ∧ Cls K Cc ∧ NoAttr K Cc p.2
  kds : ∀ p ∈ D.kds, ∃ a es n, mg p.1 = some (.ref a) ∧ KDict K w a es n ∧ EKs es.toList p.2
  gcs : ∀ p ∈ D.gcs, ∃ u cv, mg p.1 = some u ∧ RelV cv u ∧ ∀ F H, RD K F H p.2 cv
  sds : ∀ p ∈ D.sds, SdF K mg p
  mkn : ∀ p ∈ D.mks, p.2 ∉ D.lms
  mtn : ∀ p ∈ D.mts, p.2.2 ∉ D.lms
/-- where a def writes the code of its lambdas -/
def LmT (K : PySem.W.Frag) (mg : Str → Option Value) (base : Heap) (Tb : TbL) (x : Str) : Prop := ∀ f oc od fd osl, mg x = some (.ref f) → K.lookup f = some ⟨oc, od, .func fd, osl⟩ →
  ∃ c P, fd.code = .ref c ∧ LamX.TabB base mg c P ∧ (P, fd.qualname ++ ".<locals>." ++ "<lambda>") ∈ Tb ∧ ∀ p ∈ Tb, p.1 = P → p.2 = fd.qualname ++ ".<locals>." ++ "<lambda>"
/-- how deep a def may be called: k calls of the small semantics -/
def rho (D : Nm) (x : Str) (k : Nat) : Nat := if x ∈ D.lms then 2 * k + 2 else 2 * k
theorem rho_lo {D : Nm} {x : Str} {k : Nat} (h : x ∉ D.lms) : rho D x k = 2 * k := if_neg h
theorem rho_hi {D : Nm} {x : Str} {k : Nat} (h : x ∈ D.lms) : rho D x k = 2 * k + 2 := if_pos h
theorem rho_le {D : Nm} {x : Str} {k : Nat} : rho D x k ≤ 2 * k + 2 := by unfold rho; split <;> omega
theorem fnAll {sc : Scope} {X : Cx} (h : X.env.scope = sc) (hf : X.fn = fun _ => true) : FnAll X sc := fun x q => ⟨by rw [h]; exact loc_of q, .inl (by rw [hf])⟩
theorem Room.zero {k : Nat} {A : Around} (r : Room k A) : Room 0 A := r.mono (Nat.zero_le _)
theorem fn_all {Tb : TbL} {P : Program} {w : World} {K : PySem.W.Frag} {mg : Str → Option Value} {base : Heap} {D : Nm} {G : Gls} {T : Tab} (M : MdF w K mg D G T) (LT : ∀ x ∈ D.lms, LmT K mg base Tb x) : ∀ (k : Nat) (x nm : Str) (f : Addr) (fd : FuncData) (ps : List Str), DefF K D T x nm f fd ps → (x ∈ D.lms → mg x = some (.ref f)) →
    FnG P w K mg base (rho D x k) f fd ps (spF K mg Tb (call G T k) x) := by
  intro k
  induction k with
  | zero =>
    intro x nm f fd ps _ _
    have no : ∀ vs H Q E, ¬ spF K mg Tb (call G T 0) x vs H Q E := fun vs H Q E ⟨j, h, args, _, _, p⟩ => p
    exact ⟨fun vs H Q E h => (no _ _ _ _ h).elim, fun _ _ _ _ _ _ _ _ _ _ _ _ _ _ h => (no _ _ _ _ h).elim⟩
  | succ k ih =>
    intro x nm f fd ps hD hf
    obtain ⟨st, qual, N, df, h2, h3, hF, hT, hck⟩ := hD
    unfold chkDef at hck
    simp only [Bool.and_eq_true, decide_eq_true_eq] at hck
    obtain ⟨⟨⟨hsc, hnp⟩, hns⟩, hb⟩ := hck
    have S := scope_by hsc
    have eqc : ∀ args h, call G T (k + 1) x args h = run G (call G T k) df args h := fun args h => by simp only [call, hT]
    have hlen : ∀ vs H Q E, spF K mg Tb (call G T (k + 1)) x vs H Q E → vs.length = ps.length := fun vs H Q E ⟨j, h, args, R, r, p⟩ => by
      rw [eqc] at p
      unfold run at p
      split at p
      · rename_i hl
        rw [← r.length, hl, hnp]
      · exact p.elim
    refine ⟨hlen, ?_⟩
    intro A outer s H args us vs Q E hr0 hg e0 hbind r hsp
    have hr : Room (2 * (k + 1)) A := hr0.mono (by unfold rho; split <;> omega)
    obtain ⟨oc, od, kV, doc, pm, an, cdv, ct, osl, rfl, lk, hcd⟩ := hF.ex
    have hl := hlen _ _ _ _ hsp
    have KX : K.In s.heap := e0.mod.kin.keeps fun b o e => (e0.bs b o e).1
    have lim : s.heap.NoLimit := e0.mod.nolimit.keeps fun b o e => (e0.bs b o e).1
    have kinds : ∀ y ∈ ps.zip us, (defScope st).names.lookup y.1 = some .local ∨ ((defScope st).names.lookup y.1 = some .cell ∧ ((cellsFrom (s.heap.objs.size + 1) (defScope st).names []).lookup y.1).isSome = true) := by
      intro y hy
      exact (S.par y.1 (List.of_mem_zip hy).1).imp id fun q => ⟨q, PySem.W.cellsFrom_some _ _ _ (.inl q)⟩
    refine codeAny_call_function hr.depth (KX _ _ lk) rfl S.co S.gen rfl (PySem.W.codeRec_of KX hcd) (hbind _ _ _ _ ?_)
    refine wpAny_newFunctionEnv_cells S.kind kinds fun env he s1 x1 => ?_
    subst he
    refine ⟨lim.keeps x1.toInCall.keep, codeAny_func ?_⟩
    let Xb := cxOf (L2.CX P w) P w K mg base N qual (defScope st) f cdv A outer s H E
    have I : Inv Xb [] (start N vs) H s1 := inv_start S hr.hd e0 hl r x1
    have room1 : Room (2 * k + 1) Xb.A := Room.deeper (k := 2 * k + 1) hr _
    have room : Room (2 * k) Xb.A := room1.mono (Nat.le_succ _)
    have gd : Xb.A.guards = some [] := guards_deeper hg
    have lowF : ∀ y ∈ D.lo.fns, ∃ f' fd' ps', mg y = some (.ref f') ∧ PySem.W.keepIn K (.ref f') = true ∧ Binds K fd' ps' [] ∧ FnG P w K mg base (2 * k) f' fd' ps' (spF K mg Tb (call G T k) y) := fun y hy => by
      obtain ⟨y1, y2⟩ := Nm.lo_fns hy
      obtain ⟨f', fd', ps', q1, q⟩ := M.fns y y1
      have q4 := ih y y f' fd' ps' q (fun z => absurd z y2)
      rw [rho_lo y2] at q4
      obtain ⟨_, _, _, _, q2, q3, _⟩ := q
      exact ⟨f', fd', ps', q1, q2, q3, q4⟩
    have mkF : ∀ y ∈ D.mks, ∃ Cc f' fd' ps', mg y.1 = some (.ref Cc) ∧ Mk K Cc f' ∧ Binds K fd' ps' [] ∧ FnG P w K mg base (2 * k) f' fd' ps' (spF K mg Tb (call G T k) y.2) := fun y hy => by
      obtain ⟨Cc, f', fd', ps', q1, m, q⟩ := M.mks y hy
      have q4 := ih y.2 _ f' fd' ps' q (fun z => absurd z (M.mkn y hy))
      rw [rho_lo (M.mkn y hy)] at q4
      obtain ⟨_, _, _, _, q2, q3, _⟩ := q
      exact ⟨Cc, f', fd', ps', q1, m, q3, q4⟩
    have mtF : ∀ y ∈ D.mts, ∃ Cc f' fd' ps', mg y.1 = some (.ref Cc) ∧ Cls K Cc ∧ Meth K Cc y.2.1 f' ∧ Binds K fd' ps' [] ∧ FnG P w K mg base (2 * k) f' fd' ps' (spF K mg Tb (call G T k) y.2.2) := fun y hy => by
      obtain ⟨Cc, f', fd', ps', q1, c, m, q⟩ := M.mts y hy
      have q4 := ih y.2.2 _ f' fd' ps' q (fun z => absurd z (M.mtn y hy))
      rw [rho_lo (M.mtn y hy)] at q4
      obtain ⟨_, _, _, _, q2, q3, _⟩ := q
      exact ⟨Cc, f', fd', ps', q1, c, m, q3, q4⟩
    have ctx : Ctx Xb (fun c d _ H => E c d H) (D.at x) G (call G T k) Tb := by
      by_cases hx : x ∈ D.lms
      · have e : D.at x = { D with inl := true } := if_pos hx
        rw [e]
        have r3 : Room (2 * k + 3) Xb.A := Room.deeper (k := 2 * k + 3) (hr0.mono (by rw [rho_hi hx]; omega)) _
        refine ⟨rfl, S.nd, room_roomy room gd, takes_of rfl rfl rfl rfl, passes_of rfl, M.blt, M.gls, M.exs, fun y hy => ?_, fun y hy => ?_, fun y hy => ?_, M.fld, M.kds, M.gcs, M.sds, fun _ => ?_, fun _ => ⟨2 * k + 1, r3, fun y hy => ?_, fun y hy => ?_, fun y hy => ?_⟩⟩
        · obtain ⟨f', fd', ps', q1, q⟩ := M.fns y hy
          have q4 := ih y y f' fd' ps' q fun _ => q1
          obtain ⟨_, _, _, _, q2, q3, _⟩ := q
          exact ⟨f', fd', ps', rho D y k, q1, q2, q3, r3.mono (Nat.le_trans rho_le (by omega)), q4⟩
        · obtain ⟨Cc, f', fd', ps', q1, m, q3, q4⟩ := mkF y hy
          exact ⟨Cc, f', fd', ps', 2 * k, q1, m, q3, room1, q4⟩
        · obtain ⟨Cc, f', fd', ps', q1, c, m, q3, q4⟩ := mtF y hy
          exact ⟨Cc, f', fd', ps', 2 * k, q1, c, m, q3, room, q4⟩
        · obtain ⟨c, P, h1, h2, h3, h4⟩ := LT x hx f _ _ _ _ (hf hx) lk
          exact ⟨c, P, h2, h1, h3, h4⟩
        · obtain ⟨f', fd', ps', q1, q2, q3, q4⟩ := lowF y hy
          exact ⟨f', fd', ps', 2 * k, q1, q2, q3, by omega, q4⟩
        · obtain ⟨Cc, f', fd', ps', q1, m, q3, q4⟩ := mkF y hy
          exact ⟨Cc, f', fd', ps', 2 * k, q1, m, q3, by omega, q4⟩
        · obtain ⟨Cc, f', fd', ps', q1, c, m, q3, q4⟩ := mtF y hy
          exact ⟨Cc, f', fd', ps', 2 * k, q1, c, m, q3, by omega, q4⟩
      · have e : D.at x = D.lo := if_neg hx
        rw [e]
        refine ⟨rfl, S.nd, room_roomy room gd, takes_of rfl rfl rfl rfl, passes_of rfl, M.blt, M.gls, M.exs, fun y hy => ?_, fun y hy => ?_, fun y hy => ?_, M.fld, M.kds, M.gcs, M.sds, (fun z => nomatch z), fun z => nomatch z⟩
        · obtain ⟨f', fd', ps', q1, q2, q3, q4⟩ := lowF y hy
          exact ⟨f', fd', ps', 2 * k, q1, q2, q3, room, q4⟩
        · obtain ⟨Cc, f', fd', ps', q1, m, q3, q4⟩ := mkF y hy
          exact ⟨Cc, f', fd', ps', 2 * k, q1, m, q3, room1, q4⟩
        · obtain ⟨Cc, f', fd', ps', q1, c, m, q3, q4⟩ := mtF y hy
          exact ⟨Cc, f', fd', ps', 2 * k, q1, c, m, q3, room, q4⟩
    have bk : Xb.env.blockKind = .function := by
      show PySem.Env.blockKind _ = _
      unfold PySem.Env.blockKind
      show (if (defScope st).kind.isAnnotationScope then ScopeKind.function else (defScope st).kind) = _
      rw [S.kind]
      rfl
    have dc : DCtx Xb := ⟨fnAll rfl rfl, bk, rfl, rfl⟩
    have PSb : PSs Xb (defBody st) (tS Xb.K Xb.mg Tb (fun c d _ H => E c d H) (NC.S.varsL df.body) (execs G (call G T k) df.body)) := ss_snd df.body Xb _ _ ctx dc (fun _ h => h) _ hb
    obtain ⟨j, h, as, R, ra, p⟩ := hsp
    rw [eqc] at p
    have q := run_snd (ws := NC.S.varsL df.body) (W := fun c d _ H => E c d H) (N := N) hns (by rw [ra.length, hl, hnp]) (fun _ _ _ _ z => z) R ra p
    refine wpAny_mono (PSb.run [] s1 (start N vs) H _ I q) (fun fl s' hs => ?_) fun e s' hs => hs
    have fin : ∀ {σ' : L2.St} {H' : Hp} {v : V} {u : Value}, Inv Xb [] σ' H' s' → RelV v u → Q v H' → CE outer P w H s Q u s' := by
      intro σ' H' v u J rv qv
      exact ⟨v, H', J.os, J.bare, J.base, J.hok, rv, qv⟩
    match fl, hs with
    | .ret u, hs =>
      obtain ⟨v, σ', H', J, rv, q⟩ := hs
      exact fin J rv q
    | .next, hs =>
      obtain ⟨σ', H', J, q⟩ := hs
      exact fin (v := V.non) (u := Value.none) J rfl q
    | .brk, hs => exact hs.choose_spec.choose_spec.2.elim
    | .cont, hs => exact hs.choose_spec.choose_spec.2.elim
/-- does a clause take an exception? -/
theorem exm_at {K : PySem.W.Frag} {mg : Str → Option Value} {a b : Str} {A' B' A B : Addr} {r r' : Bool} (ea : mg a = some (.ref A')) (eb : mg b = some (.ref B')) (eA : mg a = some (.ref A)) (eB : mg b = some (.ref B)) (h1 : PySem.W.subIn K (.ref B') (.type "BaseException") = some true) (h2 : PySem.W.typeIn K (.ref B') = some (.type "type")) (h3 : PySem.W.subIn K (.ref A') (.ref B') = some r) (h : r = r') :
    PySem.W.exmOne K (.ref A) (.ref B) = some r' := by
  rw [ea] at eA
  rw [eb] at eB
  cases eA
  cases eB
  subst h
  have hc : (PySem.W.clsIn K B').isSome = true := by
    have h1' : ((PySem.W.clsIn K B').bind fun cd => if cd.mro.isEmpty then none else some (cd.mro.contains (.type "BaseException"))) = some true := h1
    cases q : PySem.W.clsIn K B' with
    | none => rw [q] at h1'; cases h1'
    | some cd => rfl
  unfold PySem.W.exmOne PySem.W.kitCls
  rw [if_pos (by rw [h1]; rfl)]
  dsimp only
  rw [if_pos (by rw [hc, h2]; rfl)]
  exact h3
end NC
/-! The end: from the small semantics to the statement. -/
namespace NC
open PySem PySem.Spec PyProof.Rows L2

theorem rds_ints {K : PySem.W.Frag} {F : Addr → Prop} {H : Hp} : ∀ ns : List Int, RDs K F H (ns.map PyData.int) (ns.map V.int)
  | [] => .nil
  | _ :: r => .cons (.int _) (rds_ints r)
/-- the small semantics at the law's begin -/
def h00 : Hv := ⟨[], 0⟩
/-- the table that a def's lambdas are written to: empty at the begin -/
def lamN (x : Str) : Str := x ++ ".<locals>." ++ "<lambda>"
def tabL (Ps : List (Str × Addr)) : TbL := Ps.map fun p => (p.2, lamN p.1)
theorem law_sp {K : PySem.W.Frag} {mg : Str → Option Value} {Ps : List (Str × Addr)} {C : Fns} {x : Str} {H : Hp} {a : Addr} {ns : List Int} {h : Hv} (z : ZL K H a (ns.map V.int)) (hT : ∀ p ∈ Ps, H p.2 = some (.tbl #[])) (p : C x [.scr (ns.map .int)] h00 = .ok (.d (.bool true)) h) :
    spF K mg (tabL Ps) C x [.ref a] H (fun v _ => v = .bl true) fun _ _ _ => False := by
  refine ⟨⟨fun _ => 0, fun _ => False⟩, h00, [.scr (ns.map .int)], ⟨fun i _ hi => absurd hi (Nat.not_lt_zero i), fun i o e => ?_, Nat.le_refl _, fun i hi => absurd hi (Nat.not_lt_zero i), fun a m => m.elim, fun q hq => ?_⟩, .cons (.scr z (rds_ints ns)) .nil, ?_⟩
  · have e' : ([] : List Ob)[i]? = some o := e
    simp at e'
  · obtain ⟨p, hp, rfl⟩ := List.mem_map.mp hq
    exact LamX.TabS.nil (hT p hp)
  · rw [p]
    intro j' H' t R u ru
    cases ru with | d ru => cases ru; rfl
/-- the call of the law at a heap in which nothing but the script and the tables is told -/
theorem call_at {P : Program} {w : World} {K : PySem.W.Frag} {mg mb : Str → Option Value} {k : Nat} {fa a : Addr} {fd : FuncData} {ps : List Str} {sp : Sp} {s : Shared} {vs : List Value} {H : Hp} {u : HO} {cs : List (Addr × Addr)}
    (KX : K.In s.heap) (hns : s.heap.Ns mainGlobals mg) (hbn : s.heap.Ns builtinsNs mb) (hbb : ∀ x : Str, x ≠ "__name__" → mb x = bootBuiltins x) (hno : s.heap.NoLimit) (gens : s.gens = #[]) (room : Room k callerA)
    (eT : ∀ p ∈ cs, s.heap.get? p.2 = some { cls := .none, data := .fields #[] }) (nT : ∀ p ∈ cs, K.lookup p.2 = none) (cT : ∀ p ∈ cs, PySem.W.CodeHd s.heap p.1 p.2)
    (bT : ∃ (bm : Addr) (ob : PySem.Obj), mg "__builtins__" = some (.ref bm) ∧ bm ≠ builtinsNs ∧ s.heap.get? bm = some ob ∧ ob.cls = .type "module" ∧ ob.dict = some builtinsNs ∧ ob.data = .plain)
    (obj : s.heap.get? a = some { cls := .type "list", data := .seq vs.toArray }) (ok : HOk P w H s.heap)
    (only : ∀ b, H b = none ∨ (b = a ∧ H b = some (.frz { cls := .type "list", data := .seq vs.toArray } u)) ∨ ((∃ p ∈ cs, p.2 = b) ∧ H b = some (.tbl #[]))) (apart : H a ≠ none → K.lookup a = none)
    (F : ∀ base : Heap, K.In base → (∀ p ∈ cs, LamX.TabB base mg p.1 p.2) → FnG P w K mg base k fa fd ps sp) (hb : Binds K fd ps []) (h : sp [.ref a] H (fun v _ => v = .bl true) fun _ _ _ => False) :
    codeAny (model P w) callerA (.call (.ref fa) ⟨[.ref a], []⟩) (fun r s' => r = .ok (.ret (.bool true)) ∧ OldK s.heap s'.heap ∧ s'.os = s.os ∧ AllBare s'.gens) s := by
  have free : ∀ {b : Addr} {o : PySem.Obj}, s.heap.get? b = some o → (∀ n, o.data ≠ .seq vs.toArray n) → o.data ≠ .fields #[] → H b = none := by
    intro b o e d1 d2
    rcases only b with z | ⟨rfl, z⟩ | ⟨⟨p, hp, rfl⟩, z⟩
    · exact z
    · rw [obj] at e
      cases e
      exact (d1 _ rfl).elim
    · rw [eT p hp] at e
      cases e
      exact (d2 rfl).elim
  have dfree : ∀ {b : Addr} {o : PySem.Obj} {es : Array DictEntry} {ep : Nat}, s.heap.get? b = some o → o.data = .dict es ep → H b = none := by
    intro b o es ep e d
    refine free e (fun n z => ?_) fun z => ?_ <;> rw [d] at z <;> cases z
  have ns' : ∀ {b : Addr} {m : Str → Option Value}, s.heap.Ns b m → (hidT s.heap H).Ns b m := by
    rintro b m ⟨o, es, ep, e, d, r⟩
    exact ⟨o, es, ep, hidT_get e (dfree e d), d, r⟩
  have KB : K.In (hidT s.heap H) := by
    intro b o e
    refine hidT_get (KX b o e) ?_
    rcases only b with z | ⟨rfl, z⟩ | ⟨⟨p, hp, rfl⟩, z⟩
    · exact z
    · rw [apart (by rw [z]; exact nofun)] at e
      cases e
    · rw [nT p hp] at e
      cases e
  have TB : ∀ p ∈ cs, LamX.TabB (hidT s.heap H) mg p.1 p.2 := fun p hp => by
    have gP : mainGlobals ≠ p.2 := fun z => by
      obtain ⟨o, es, ep, e, hd, _⟩ := hns
      rw [z, eT p hp] at e
      cases e
      cases hd
    refine ⟨?_, ?_, gP⟩
    · obtain ⟨o, us, file, tf, fl, tg, inF, text, tt, e1, r1, r2, r3, r4⟩ := cT p hp
      refine ⟨o, us, file, tf, fl, tg, inF, text, tt, hidT_get e1 (free e1 (fun n z => ?_) fun z => ?_), r1, r2, r3, r4⟩
      · rw [r2] at z; cases z
      · rw [r2] at z; cases z; simp at r3
    · obtain ⟨bm, ob, b1, b2, b3, b4, b5, b6⟩ := bT
      have nG : bm ≠ mainGlobals := fun q => by
        obtain ⟨o, es, ep, e, hd, _⟩ := hns
        rw [q, e] at b3
        cases b3
        rw [hd] at b6
        cases b6
      have nP : bm ≠ p.2 := fun q => by
        rw [q, eT p hp] at b3
        cases b3
        cases b6
      refine ⟨bm, ob, b1, b2, nG, nP, hidT_get b3 (free b3 (fun n z => ?_) fun z => ?_), b4, b5, b6⟩
      · rw [b6] at z; cases z
      · rw [b6] at z; cases z
  obtain ⟨mc, c1, c2⟩ := hno
  have e0 : Env0 P w K mg (hidT s.heap H) callerA [] s H := {
    frames := rfl
    mod := ⟨KB, ns' hns, ⟨mb, ns' hbn, hbb⟩, mc, ns' c1, c2⟩
    bs := fun b o e => of_hidT e
    bsz := Nat.le_of_eq (hidT_size _ _)
    funs := trivial
    frf := fun b z => nomatch z
    hok := ok
    bare := .of_eq gens }
  have FF := F _ KB TB
  have hl : ps.length = 1 := (FF.len _ _ _ _ h).symm
  have bind := hb s [.ref a] KX (by rw [hl]; rfl)
  refine codeAny_mono (FF.run callerA [] s H ⟨[.ref a], []⟩ [.ref a] [.ref a] _ _ room rfl e0 bind (.cons rfl .nil) h) ?_
  rintro (e | fl) s' q
  · obtain ⟨_, _, _, _, _, _, _, _, _, _, _, _, q⟩ := q
    exact q.elim
  · cases fl with
    | ret u' =>
      obtain ⟨v, H', os, bare, un, ok', rv, q⟩ := q
      subst q
      cases rv
      have same : ∀ b o, (∀ p ∈ cs, p.2 ≠ b) → s.heap.get? b = some o → s'.heap.get? b = some o := fun b o nb e => by
        rcases only b with z | ⟨rfl, z⟩ | ⟨⟨p, hp, z⟩, _⟩
        · exact un.keep b o e z (fun m => nomatch m) (fun m => nomatch m)
        · obtain ⟨e1, _⟩ := ok b _ z
          obtain ⟨e2, _⟩ := ok' b _ (un.frzs b _ _ z)
          rw [e1] at e
          cases e
          exact e2
        · exact absurd z (nb p hp)
      have grown : ∀ p ∈ cs, H p.2 = some (.tbl #[]) → ∃ more : Array Value, s'.heap.get? p.2 = some { cls := .none, data := .fields more } := fun p hp hh => by
        obtain ⟨more, z⟩ := un.tbls p.2 #[] hh
        exact ⟨_, ok' p.2 _ z⟩
      refine ⟨rfl, ⟨fun b o e => ?_, fun b o e => ?_⟩, os, bare⟩
      · by_cases nb : ∃ p ∈ cs, p.2 = b
        rotate_left
        · exact .inl (same b o (fun p hp z => nb ⟨p, hp, z⟩) e)
        · obtain ⟨p, hp, rfl⟩ := nb
          rcases only p.2 with z | ⟨za, z⟩ | ⟨_, z⟩
          · exact .inl (un.keep _ o e z (fun m => nomatch m) (fun m => nomatch m))
          · rw [za, obj] at e
            have := eT p hp
            rw [za, obj] at this
            cases this
          · obtain ⟨more, hm⟩ := grown p hp z
            rw [eT p hp] at e
            cases e
            exact .inr (.inl ⟨((cT p hp).tab (eT p hp)).isCodeTable, rfl, #[], more, rfl, by rw [Array.empty_append]; exact hm⟩)
      · by_cases nb : ∃ p ∈ cs, p.2 = b
        rotate_left
        · exact ⟨o, same b o (fun p hp z => nb ⟨p, hp, z⟩) e⟩
        · obtain ⟨p, hp, rfl⟩ := nb
          rcases only p.2 with z | ⟨za, z⟩ | ⟨_, z⟩
          · exact ⟨o, un.keep _ o e z (fun m => nomatch m) (fun m => nomatch m)⟩
          · have := eT p hp
            rw [za, obj] at this
            cases this
          · obtain ⟨more, hm⟩ := grown p hp z
            exact ⟨_, hm⟩
    | next => exact q.elim
    | brk => exact q.elim
    | cont => exact q.elim
/-- a def of the module that writes its lambdas' code to the table at P -/
def LamK (K : PySem.W.Frag) (x : Str) (f P : Addr) : Prop := ∃ oc od fd osl c e dd us sl, K.lookup f = some ⟨oc, od, .func fd, osl⟩ ∧ fd.qualname = x ∧ fd.code = .ref c ∧ K.lookup c = some ⟨e, dd, .fields us, sl⟩ ∧ us[11]? = some (.ref P) ∧ K.lookup P = none
theorem nodup_inj {a b : Str × Addr} : ∀ {l : List (Str × Addr)}, (l.map (·.2)).Nodup → a ∈ l → b ∈ l → a.2 = b.2 → a = b
  | [], _, h, _, _ => nomatch h
  | c :: l, h, ha, hb, e => by
    rw [List.map_cons, List.nodup_cons] at h
    rcases List.mem_cons.mp ha with p | p
    · rcases List.mem_cons.mp hb with q | q
      · rw [p, q]
      · exact absurd (by rw [← p, e]; exact List.mem_map_of_mem q) h.1
    · rcases List.mem_cons.mp hb with q | q
      · exact absurd (by rw [← q, ← e]; exact List.mem_map_of_mem p) h.1
      · exact nodup_inj h.2 p q e
/-- a law whose defs the table tells, and that answers True by the table -/
theorem the_end {l : PySem.W.OpenLaw} {n k : Nat} {q : Program} {loose : List Str} {XP : (Str → Option Value) → Heap → Prop} {YP : World → Heap → Prop} {d : DefRec} {K : Params → PySem.W.Frag} {D : Nm} {Gs : Gls} {T : Tab}
    (hn : l.most = some n) (hn2 : n ≤ 1000) (hdf : d.params.defaults = []) (hx : d.name ∈ D.fns) (room : Room (rho D d.name k) callerA) (hY : ∀ (w : World) (h : Heap), YP w h → (K w.params).In h)
    (M : ∀ (w : World) (mg : Str → Option Value) (h : Heap), (K w.params).In h → h.Ns mainGlobals mg → MdF w (K w.params) mg D Gs T)
    (LM : ∀ (w : World) (mg : Str → Option Value) (h : Heap), (K w.params).In h → h.Ns mainGlobals mg → ∃ Ps : List (Str × Addr), Ps.map (·.1) = D.lms ∧ (Ps.map (·.2)).Nodup ∧ ∀ p ∈ Ps, ∃ f, mg p.1 = some (.ref f) ∧ LamK (K w.params) p.1 f p.2)
    (LR : (D.lms.all fun x => (recsOf q).any fun e => e.name == x) = true)
    (law : ∀ ns : List Int, ns.length ≤ n → (∀ z ∈ ns, Builtin.Int.intBits z ≤ 1048576) → ∃ h, call Gs T k d.name [.scr (ns.map .int)] h00 = .ok (.d (.bool true)) h) :
    PySem.W.WalkO q loose XP YP l.row.toRowW d [] (fun f vs => PySem.call f vs) := by
  refine Att.attach_callB hn hdf ?_
  intro w s0 s1 mg mb fa o pm cd doc a vs ns gr Y _ _ _ hmg obj ari hlen bits gens
  have KX := hY w _ Y
  have MD := M w mg _ KX gr.T.g
  obtain ⟨Ps, hP1, hP2, hP3⟩ := LM w mg _ KX gr.T.g
  obtain ⟨hr, hp⟩ := law ns hlen bits
  -- the tables
  have tabs : ∀ p ∈ Ps, ∃ c, s1.heap.get? p.2 = some { cls := .none, data := .fields #[] } ∧ (K w.params).lookup p.2 = none ∧ PySem.W.CodeHd s1.heap c p.2 ∧ ∃ f oc od fd osl, mg p.1 = some (.ref f) ∧ (K w.params).lookup f = some ⟨oc, od, .func fd, osl⟩ ∧ fd.qualname = p.1 ∧ fd.code = .ref c := fun p hpp => by
    obtain ⟨f, e1, oc, od, fd, osl, c, e, dd, us, sl, k1, k2, k3, k4, k5, k6⟩ := hP3 p hpp
    have hin : p.1 ∈ D.lms := by rw [← hP1]; exact List.mem_map_of_mem hpp
    obtain ⟨dL, hm, hd1⟩ := List.any_eq_true.mp (List.all_eq_true.mp LR p.1 hin)
    have hd2 : dL.name = p.1 := beq_iff_eq.mp hd1
    obtain ⟨a', o', fd', c', P', t1, t2, t3, t4, t5, t6⟩ := gr.T.tab dL hm
    rw [hd2, e1] at t1
    cases t1
    have g1 := KX _ _ k1
    rw [g1] at t2
    cases t2
    cases t3
    rw [k3] at t4
    cases t4
    have t6' := t6
    obtain ⟨⟨oc', vc, m1, m2, m3, m4⟩, mP⟩ := t6
    have g2 := KX _ _ k4
    rw [g2] at m1
    cases m1
    cases m3
    rw [k5] at m4
    cases m4
    exact ⟨c, mP, k6, PySem.W.CodeHd.of t5 t6', f, oc, od, fd, osl, e1, k1, k2, k3⟩
  obtain ⟨cs, hc1, hc2⟩ : ∃ cs : List (Addr × Addr), (∀ p ∈ cs, s1.heap.get? p.2 = some { cls := .none, data := .fields #[] } ∧ (K w.params).lookup p.2 = none ∧ PySem.W.CodeHd s1.heap p.1 p.2) ∧
      ∀ p ∈ Ps, ∃ c, (c, p.2) ∈ cs ∧ ∃ f oc od fd osl, mg p.1 = some (.ref f) ∧ (K w.params).lookup f = some ⟨oc, od, .func fd, osl⟩ ∧ fd.qualname = p.1 ∧ fd.code = .ref c := by
    clear hP1 hP2 hP3
    induction Ps with
    | nil => exact ⟨[], (fun p h => nomatch h), fun p h => nomatch h⟩
    | cons p Ps ih =>
      obtain ⟨cs, i1, i2⟩ := ih fun x hx => tabs x (List.mem_cons_of_mem _ hx)
      obtain ⟨c, j1, j2, j3, j4⟩ := tabs p List.mem_cons_self
      refine ⟨(c, p.2) :: cs, fun x hx => ?_, fun x hx => ?_⟩
      · rcases List.mem_cons.mp hx with rfl | hx
        · exact ⟨j1, j2, j3⟩
        · exact i1 x hx
      · rcases List.mem_cons.mp hx with rfl | hx
        · exact ⟨c, List.mem_cons_self, j4⟩
        · obtain ⟨c', u1, u2⟩ := i2 x hx
          exact ⟨c', List.mem_cons_of_mem _ u1, u2⟩
  have LT : ∀ base : Heap, (∀ p ∈ cs, LamX.TabB base mg p.1 p.2) → ∀ x ∈ D.lms, LmT (K w.params) mg base (tabL Ps) x := fun base hB x hx f oc od fd osl e1 k1 => by
    rw [← hP1] at hx
    obtain ⟨p, hpp, rfl⟩ := List.mem_map.mp hx
    obtain ⟨c, u1, f', oc', od', fd', osl', v1, v2, v3, v4⟩ := hc2 p hpp
    rw [e1] at v1
    cases v1
    rw [k1] at v2
    cases v2
    refine ⟨c, p.2, v4, hB _ u1, by rw [v3]; exact List.mem_map.mpr ⟨p, hpp, rfl⟩, fun z hz hz1 => ?_⟩
    obtain ⟨p', hp', rfl⟩ := List.mem_map.mp hz
    have : p' = p := nodup_inj hP2 hp' hpp hz1
    rw [this, v3]
    rfl
  obtain ⟨fd, ps, hb, FF⟩ : ∃ fd ps, Binds (K w.params) fd ps [] ∧ ∀ base : Heap, (K w.params).In base → (∀ p ∈ cs, LamX.TabB base mg p.1 p.2) → FnG l.prog w (K w.params) mg base (rho D d.name k) fa fd ps (spF (K w.params) mg (tabL Ps) (call Gs T k) d.name) := by
    obtain ⟨f, fd, ps, q1, DF⟩ := MD.fns d.name hx
    have DF' := DF
    obtain ⟨_, _, _, _, _, q3, _⟩ := DF
    have q1' := q1
    rw [hmg] at q1
    cases q1
    exact ⟨fd, ps, q3, fun base _ hB => fn_all MD (LT base hB) k d.name d.name fa fd ps DF' fun _ => q1'⟩
  have rv := vals_ints ari
  have isT : ∀ p ∈ Ps, ∃ c, (c, p.2) ∈ cs := fun p hpp => by obtain ⟨c, u1, _⟩ := hc2 p hpp; exact ⟨c, u1⟩
  have aT : ∀ p ∈ Ps, p.2 ≠ a := fun p hpp z => by
    obtain ⟨c, u1⟩ := isT p hpp
    have := (hc1 _ u1).1
    rw [z, obj] at this
    cases this
  have e1 := fun p hp => (hc1 p hp).1
  have e2 := fun p hp => (hc1 p hp).2.1
  have e3 := fun p hp => (hc1 p hp).2.2
  open Classical in
  cases hk : (K w.params).lookup a with
  | some o' =>
    have e := KX a o' hk
    rw [obj] at e
    cases e
    refine call_at (u := .lst []) (H := fun b => if ∃ p ∈ Ps, p.2 = b then some (.tbl #[]) else none) KX gr.T.g gr.T.b gr.T.builtins gr.T.nolimit gens room e1 e2 e3 gr.T.bmain obj (fun b u z => ?_) (fun b => ?_) (fun z => ?_) FF hb (law_sp (.inr (.inr ⟨_, vs.toArray, _, hk, rfl, rfl, rfl, ?_, by simpa using rv⟩)) (fun p hpp => if_pos ⟨p, hpp, rfl⟩) hp)
    · by_cases q : ∃ p ∈ Ps, p.2 = b
      · have z' := (if_pos q).symm.trans z
        cases z'
        obtain ⟨p, hpp, rfl⟩ := q
        obtain ⟨c, u1⟩ := isT p hpp
        exact (hc1 _ u1).1
      · have z' := (if_neg q).symm.trans z
        cases z'
    · by_cases q : ∃ p ∈ Ps, p.2 = b
      · obtain ⟨p, hpp, rfl⟩ := q
        obtain ⟨c, u1⟩ := isT p hpp
        exact .inr (.inr ⟨⟨_, u1, rfl⟩, if_pos ⟨p, hpp, rfl⟩⟩)
      · exact .inl (if_neg q)
    · exact absurd (if_neg (fun ⟨p, hpp, z⟩ => aT p hpp z)) z
    · rw [List.size_toArray, ari.length]
      exact Nat.le_trans hlen (Nat.le_of_lt (small1000 hn2))
  | none =>
    refine call_at (u := .lst (ns.map V.int)) (H := fun b => if b = a then some (.frz { cls := .type "list", data := .seq vs.toArray } (.lst (ns.map V.int))) else if ∃ p ∈ Ps, p.2 = b then some (.tbl #[]) else none) KX gr.T.g gr.T.b gr.T.builtins gr.T.nolimit gens room e1 e2 e3 gr.T.bmain obj ?_ (fun b => ?_) (fun _ => hk) FF hb (law_sp (.inl ⟨_, if_pos rfl⟩) (fun p hpp => (if_neg (aT p hpp)).trans (if_pos ⟨p, hpp, rfl⟩)) hp)
    · intro b u z
      by_cases e : b = a
      · have z' := (if_pos e).symm.trans z
        cases z'
        subst e
        exact ⟨obj, by rw [List.length_map]; exact Nat.le_trans hlen (Nat.le_of_lt (small1000 hn2)), vs, _, rv, obj⟩
      · have z1 := (if_neg e).symm.trans z
        by_cases q : ∃ p ∈ Ps, p.2 = b
        · have z' := (if_pos q).symm.trans z1
          cases z'
          obtain ⟨p, hpp, rfl⟩ := q
          obtain ⟨c, u1⟩ := isT p hpp
          exact (hc1 _ u1).1
        · have z' := (if_neg q).symm.trans z1
          cases z'
    · by_cases e : b = a
      · exact .inr (.inl ⟨e, if_pos e⟩)
      · by_cases q : ∃ p ∈ Ps, p.2 = b
        · obtain ⟨p, hpp, rfl⟩ := q
          obtain ⟨c, u1⟩ := isT p hpp
          exact .inr (.inr ⟨⟨_, u1, rfl⟩, (if_neg e).trans (if_pos ⟨p, hpp, rfl⟩)⟩)
        · exact .inl ((if_neg e).trans (if_neg q))
end NC
/-! Plain facts: sizes, texts, fractions. -/
namespace NC
open PySem
/-! ### sizes -/
def Lt (n : Nat) (i : Int) : Prop := i.natAbs < 2 ^ n
instance (n : Nat) (i : Int) : Decidable (Lt n i) := inferInstanceAs (Decidable (i.natAbs < 2 ^ n))
theorem Lt.mono {n m : Nat} {i : Int} (h : Lt n i) (q : n ≤ m) : Lt m i := Nat.lt_of_lt_of_le h (Nat.pow_le_pow_right (by decide) q)
theorem Lt.mul {n m : Nat} {i j : Int} (h : Lt n i) (q : Lt m j) : Lt (n + m) (i * j) := by
  unfold Lt at *
  rw [Int.natAbs_mul, Nat.pow_add]
  exact Nat.mul_lt_mul'' h q
theorem Lt.add {n m : Nat} {i j : Int} (h : Lt n i) (q : Lt m j) : Lt (max n m + 1) (i + j) := by
  have h' := h.mono (Nat.le_max_left n m)
  have q' := q.mono (Nat.le_max_right n m)
  unfold Lt at *
  rw [Nat.pow_succ]
  omega
theorem Lt.neg {n : Nat} {i : Int} (h : Lt n i) : Lt n (-i) := by unfold Lt at *; omega
theorem Lt.sub {n m : Nat} {i j : Int} (h : Lt n i) (q : Lt m j) : Lt (max n m + 1) (i - j) := by rw [Int.sub_eq_add_neg]; exact h.add q.neg
theorem log_of {n : Nat} {i : Int} (h : Lt n i) : i.natAbs.log2 < n ∨ n = 0 := by
  unfold Lt at h
  by_cases h0 : i.natAbs = 0
  · rw [h0]
    cases n with
    | zero => exact .inr rfl
    | succ n => exact .inl (by rw [Nat.log2_zero]; exact Nat.succ_pos n)
  · exact .inl ((Nat.log2_lt h0).mpr h)
theorem szOk_of {n : Nat} {i : Int} (h : Lt n i) (q : n ≤ 60000000) : szOk i = true := by
  unfold szOk
  have := log_of (h.mono q)
  exact decide_eq_true (by omega)
theorem dvOk_of {n : Nat} {i : Int} (h : Lt n i) (q : n ≤ 8999) (z : i ≠ 0) : dvOk i = true := by
  unfold dvOk
  have := log_of (h.mono q)
  rw [decide_eq_true z, Bool.true_and]
  exact decide_eq_true (by omega)

/-! ### texts -/
structure Rp (n d : Nat) (x : PyData) : Prop where
  lay : x.canLay0 = true
  dep : x.depth ≤ d
  sh : x.showable = true
  len : x.shown.length ≤ n
theorem Rp.mono {n m d e : Nat} {x : PyData} (h : Rp n d x) (q : n ≤ m) (r : d ≤ e) : Rp m e x := ⟨h.lay, Nat.le_trans h.dep r, h.sh, Nat.le_trans h.len q⟩
theorem rp_int {n : Nat} {i : Int} (h : Lt n i) (q : n ≤ 1920) : Rp (n + 2) 0 (.int i) := by
  have h1 : i.natAbs.log2 < n + 1 := by have := log_of (h.mono (Nat.le_succ n)); omega
  have h2 : i.natAbs.log2 < 1920 := by have := log_of (h.mono q); omega
  refine ⟨rfl, Nat.le_refl _, decide_eq_true h2, ?_⟩
  have := int_text_length_le (k := n + 1) (Nat.succ_pos n) h1
  show (Str.ofString (toString i)).length ≤ _
  rw [PySem.ofString_length]
  exact this
theorem rp_bool {b : Bool} : Rp 5 0 (.bool b) := ⟨rfl, Nat.le_refl _, rfl, by cases b <;> decide⟩
theorem lay_all : ∀ {xs : List PyData}, (∀ x ∈ xs, x.canLay0 = true) → PyData.canLayAll0 xs = true
  | [], _ => rfl
  | x :: xs, h => by
    show (x.canLay0 && PyData.canLayAll0 xs) = true
    rw [h x List.mem_cons_self, lay_all fun y hy => h y (List.mem_cons_of_mem _ hy)]
    rfl
theorem sh_all : ∀ {xs : List PyData}, (∀ x ∈ xs, x.showable = true) → PyData.showableAll xs = true
  | [], _ => rfl
  | x :: xs, h => by
    show (x.showable && PyData.showableAll xs) = true
    rw [h x List.mem_cons_self, sh_all fun y hy => h y (List.mem_cons_of_mem _ hy)]
    rfl
theorem dep_all {d : Nat} : ∀ {xs : List PyData}, (∀ x ∈ xs, x.depth ≤ d) → PyData.depthAll xs ≤ d
  | [], _ => Nat.zero_le _
  | x :: xs, h => Nat.max_le.mpr ⟨h x List.mem_cons_self, dep_all fun y hy => h y (List.mem_cons_of_mem _ hy)⟩
theorem len_all {n : Nat} : ∀ {xs : List PyData}, (∀ x ∈ xs, x.shown.length ≤ n) → ((PyData.shownAll xs).map (·.length)).sum ≤ n * xs.length ∧ (PyData.shownAll xs).length = xs.length
  | [], _ => ⟨Nat.zero_le _, rfl⟩
  | x :: xs, h => by
    obtain ⟨a, b⟩ := len_all fun y hy => h y (List.mem_cons_of_mem x hy)
    have c := h x List.mem_cons_self
    refine ⟨?_, congrArg (· + 1) b⟩
    show ((x.shown :: PyData.shownAll xs).map (·.length)).sum ≤ _
    rw [List.map_cons, List.sum_cons, List.length_cons, Nat.mul_succ]
    omega
theorem rp_list {n d : Nat} {xs : List PyData} (h : ∀ x ∈ xs, Rp n d x) : Rp ((n + 2) * xs.length + 3) (d + 1) (.list xs) := by
  refine ⟨lay_all fun x hx => (h x hx).lay, Nat.succ_le_succ (dep_all fun x hx => (h x hx).dep), sh_all fun x hx => (h x hx).sh, ?_⟩
  obtain ⟨a, b⟩ := len_all fun x hx => (h x hx).len
  have := listText_len_le (PyData.shownAll xs)
  show (listText (PyData.shownAll xs)).length ≤ _
  rw [b] at this
  rw [Nat.add_mul]
  omega
theorem rp_tup {n d : Nat} {xs : List PyData} (h : ∀ x ∈ xs, Rp n d x) : Rp ((n + 2) * xs.length + 3) (d + 1) (.tuple xs) := by
  refine ⟨lay_all fun x hx => (h x hx).lay, Nat.succ_le_succ (dep_all fun x hx => (h x hx).dep), sh_all fun x hx => (h x hx).sh, ?_⟩
  obtain ⟨a, b⟩ := len_all fun x hx => (h x hx).len
  have := tupleText_len_le (PyData.shownAll xs)
  show (tupleText (PyData.shownAll xs)).length ≤ _
  rw [b] at this
  rw [Nat.add_mul]
  omega
theorem rep_ok {n d : Nat} {x : PyData} {h : Hv} (r : Rp n d x) (hn : n ≤ 16777216) (hd : d ≤ 64) (hi : (itemsD x).isSome = true) : bi .repr (.d x) h = .ok (.d (.str x.shown)) h := by
  have e : ((itemsD x).isSome && SeqAt.shaped x && x.showable && lnOk x.shown.length) = true := by
    rw [hi, r.sh]
    have h1 : SeqAt.shaped x = true := by
      unfold SeqAt.shaped
      rw [r.lay, decide_eq_true (Nat.le_trans r.dep hd)]
      rfl
    have h2 : lnOk x.shown.length = true := decide_eq_true (Nat.le_trans r.len hn)
    rw [h1, h2]
    rfl
  show (if _ then _ else _) = _
  rw [if_pos e]

/-! ### fractions -/
def dq (q : Rat) : PyData := .tuple [.int q.num, .int (q.den : Int)]
/-- the divisor with the bottom's sign -/
def sg (t b : Int) : Int := if b < 0 then -((Nat.gcd t.natAbs b.natAbs : Nat) : Int) else (Nat.gcd t.natAbs b.natAbs : Nat)
theorem gcd_pos {t b : Int} (hb : b ≠ 0) : 0 < Nat.gcd t.natAbs b.natAbs := Nat.gcd_pos_of_pos_right _ (by omega)
theorem sg_ne {t b : Int} (hb : b ≠ 0) : sg t b ≠ 0 := by
  have := gcd_pos (t := t) hb
  unfold sg
  split <;> omega
theorem sg_lt {n : Nat} {t b : Int} (hb : b ≠ 0) (h : Lt n b) : Lt n (sg t b) := by
  have h1 : Nat.gcd t.natAbs b.natAbs ≤ b.natAbs := Nat.gcd_le_right _ (by omega)
  unfold Lt at *
  unfold sg
  split <;> omega
theorem low_num {t b : Int} (hb : b ≠ 0) : t.fdiv (sg t b) = (Rat.divInt t b).num := by
  have hg := gcd_pos (t := t) hb
  have e : (b.gcd t : Nat) = Nat.gcd t.natAbs b.natAbs := Nat.gcd_comm _ _
  rw [Rat.num_divInt, e]
  obtain ⟨m, hm⟩ : ((Nat.gcd t.natAbs b.natAbs : Nat) : Int) ∣ t := Int.ofNat_dvd_left.mpr (Nat.gcd_dvd_left _ _)
  generalize hG : ((Nat.gcd t.natAbs b.natAbs : Nat) : Int) = g at *
  have hg' : 0 < g := by omega
  unfold sg
  rw [hG]
  split
  · rename_i hlt
    rw [Int.sign_eq_neg_one_of_neg hlt, hm]
    have e1 : -1 * (g * m) = g * (-m) := by rw [Int.neg_one_mul, Int.mul_neg]
    have e2 : g * m = (-g) * (-m) := by rw [Int.neg_mul_neg]
    rw [e1, Int.mul_ediv_cancel_left _ (by omega), e2, Int.mul_fdiv_cancel_left _ (by omega)]
  · rename_i hlt
    rw [Int.sign_eq_one_of_pos (by omega), hm, Int.one_mul, Int.mul_ediv_cancel_left _ (by omega), Int.mul_fdiv_cancel_left _ (by omega)]
theorem low_den {t b : Int} (hb : b ≠ 0) : b.fdiv (sg t b) = ((Rat.divInt t b).den : Int) := by
  have hg := gcd_pos (t := t) hb
  have e : (b.gcd t : Nat) = Nat.gcd t.natAbs b.natAbs := Nat.gcd_comm _ _
  rw [Rat.den_divInt, if_neg hb, e]
  obtain ⟨m, hm⟩ : ((Nat.gcd t.natAbs b.natAbs : Nat) : Int) ∣ b := Int.ofNat_dvd_left.mpr (Nat.gcd_dvd_right _ _)
  rw [Int.natCast_ediv]
  generalize hG : ((Nat.gcd t.natAbs b.natAbs : Nat) : Int) = g at *
  have hg' : 0 < g := by omega
  unfold sg
  rw [hG]
  split
  · rename_i hlt
    have e0 : (b.natAbs : Int) = g * (-m) := by rw [Int.mul_neg, ← hm]; omega
    have e2 : b = (-g) * (-m) := by rw [Int.neg_mul_neg]; exact hm
    rw [e0, Int.mul_ediv_cancel_left _ (by omega)]
    conv => lhs; rw [e2]
    rw [Int.mul_fdiv_cancel_left _ (by omega)]
  · rename_i hlt
    have e0 : (b.natAbs : Int) = g * m := by rw [← hm]; omega
    rw [e0, Int.mul_ediv_cancel_left _ (by omega)]
    conv => lhs; rw [hm]
    rw [Int.mul_fdiv_cancel_left _ (by omega)]
/-- small -/
def Sm (n : Nat) (q : Rat) : Prop := Lt n q.num ∧ q.den < 2 ^ n
theorem Sm.den {n : Nat} {q : Rat} (h : Sm n q) : Lt n (q.den : Int) := h.2
theorem Sm.mono {n m : Nat} {q : Rat} (h : Sm n q) (l : n ≤ m) : Sm m q := ⟨h.1.mono l, h.den.mono l⟩
theorem sm_div {n : Nat} {t b : Int} (hb : b ≠ 0) (ht : Lt n t) (hB : Lt n b) : Sm n (Rat.divInt t b) := by
  have hg := gcd_pos (t := t) hb
  refine ⟨?_, ?_⟩
  · obtain ⟨m, hm⟩ : ((Nat.gcd t.natAbs b.natAbs : Nat) : Int) ∣ t := Int.ofNat_dvd_left.mpr (Nat.gcd_dvd_left _ _)
    have e : (b.gcd t : Nat) = Nat.gcd t.natAbs b.natAbs := Nat.gcd_comm _ _
    rw [Rat.num_divInt, e]
    unfold Lt at *
    refine Nat.lt_of_le_of_lt ?_ ht
    refine Nat.le_trans (Int.natAbs_ediv_le_natAbs _ _) ?_
    rw [Int.natAbs_mul]
    have : b.sign.natAbs ≤ 1 := by rw [Int.natAbs_sign_of_ne_zero hb]; exact Nat.le_refl 1
    calc b.sign.natAbs * t.natAbs ≤ 1 * t.natAbs := Nat.mul_le_mul_right _ this
      _ = t.natAbs := Nat.one_mul _
  · rw [Rat.den_divInt, if_neg hb]
    exact Nat.lt_of_le_of_lt (Nat.div_le_self _ _) hB
theorem den_ne (q : Rat) : (q.den : Int) ≠ 0 := Int.natCast_ne_zero.mpr q.den_nz
theorem add_is (q r : Rat) : q + r = Rat.divInt (q.num * r.den + r.num * q.den) (q.den * r.den) := by
  conv => lhs; rw [← Rat.num_divInt_den q, ← Rat.num_divInt_den r]
  exact Rat.divInt_add_divInt _ _ (den_ne q) (den_ne r)
theorem sub_is (q r : Rat) : q - r = Rat.divInt (q.num * r.den - r.num * q.den) (q.den * r.den) := by
  conv => lhs; rw [← Rat.num_divInt_den q, ← Rat.num_divInt_den r]
  exact Rat.divInt_sub_divInt _ _ (den_ne q) (den_ne r)
theorem mul_is (q r : Rat) : q * r = Rat.divInt (q.num * r.num) (q.den * r.den) := by
  conv => lhs; rw [← Rat.num_divInt_den q, ← Rat.num_divInt_den r]
  exact Rat.divInt_mul_divInt _ _
theorem dd_ne (q r : Rat) : (q.den * r.den : Int) ≠ 0 := Int.mul_ne_zero (den_ne q) (den_ne r)
theorem Sm.dd {n m : Nat} {q r : Rat} (a : Sm n q) (b : Sm m r) : Lt (n + m) (q.den * r.den : Int) := a.den.mul b.den
theorem Sm.add {n m : Nat} {q r : Rat} (a : Sm n q) (b : Sm m r) : Sm (n + m + 1) (q + r) := by
  rw [add_is]
  refine sm_div (dd_ne q r) ?_ ((a.dd b).mono (Nat.le_succ _))
  have := (a.1.mul b.den).add (b.1.mul a.den)
  exact this.mono (by omega)
theorem Sm.sub {n m : Nat} {q r : Rat} (a : Sm n q) (b : Sm m r) : Sm (n + m + 1) (q - r) := by
  rw [sub_is]
  refine sm_div (dd_ne q r) ?_ ((a.dd b).mono (Nat.le_succ _))
  have := (a.1.mul b.den).sub (b.1.mul a.den)
  exact this.mono (by omega)
theorem Sm.mul {n m : Nat} {q r : Rat} (a : Sm n q) (b : Sm m r) : Sm (n + m) (q * r) := by
  rw [mul_is]
  exact sm_div (dd_ne q r) (a.1.mul b.1) (a.dd b)
theorem rp_dq {n : Nat} {q : Rat} (h : Sm n q) (hn : n ≤ 1920) : Rp (2 * n + 11) 1 (dq q) := by
  have := rp_tup (n := n + 2) (d := 0) (xs := [.int q.num, .int (q.den : Int)]) fun x hx => by
    simp only [List.mem_cons, List.not_mem_nil, or_false] at hx
    rcases hx with rfl | rfl
    · exact rp_int h.1 hn
    · exact rp_int h.den hn
  refine this.mono ?_ (Nat.le_refl _)
  simp
  omega
end NC
/-! The evaluator, by equations for simp. -/
namespace NC
open PySem
/-- a list of Bools -/
def bl (bs : List Bool) : PyData := .list (bs.map .bool)
section
variable {G : Gls} {C : Fns} {e : NC.Env} {h : Hv}
@[simp] theorem ev_cst {c : PyData} : ev G C (.cst c) e h = .ok (.d c) h := by simp only [ev] <;> rfl
@[simp] theorem ev_var {i : Nat} : ev G C (.var i) e h = (match e[i]? with
  | some (some x) => .ok x h
  | _ => .bad) := by simp only [ev] <;> rfl
@[simp] theorem ev_bin {o : Op} {a b : E} : ev G C (.bin o a b) e h = (ev G C a e h).bind fun x h1 => (ev G C b e h1).bind fun y h2 => op o x y h2 := by simp only [ev] <;> rfl
@[simp] theorem ev_neg_i {a : E} : ev G C (.neg a) e h = (ev G C a e h).bind fun x h1 => (match x with
  | .d (.int i) => .ok (.d (.int (-i))) h1
  | _ => .bad) := by simp only [ev] <;> rfl
@[simp] theorem ev_not {a : E} : ev G C (.not a) e h = tst (ev G C a e h) fun k h1 => .ok (.d (.bool (!k))) h1 := by simp only [ev] <;> rfl
@[simp] theorem ev_and {a b : E} : ev G C (.and a b) e h = tst (ev G C a e h) fun k h1 => if k = true then tst (ev G C b e h1) (fun c h2 => .ok (.d (.bool c)) h2) else .ok (.d (.bool false)) h1 := by simp only [ev] <;> rfl
@[simp] theorem ev_or {a b : E} : ev G C (.or a b) e h = tst (ev G C a e h) fun k h1 => if k = true then .ok (.d (.bool true)) h1 else tst (ev G C b e h1) (fun c h2 => .ok (.d (.bool c)) h2) := by simp only [ev] <;> rfl
@[simp] theorem ev_cmp {o : Cm} {a b : E} : ev G C (.cmp o a b) e h = (ev G C a e h).bind fun x h1 => (ev G C b e h1).bind fun y h2 => cm o x y h2 := by simp only [ev] <;> rfl
@[simp] theorem ev_ite {c a b : E} : ev G C (.ite c a b) e h = tst (ev G C c e h) fun k h1 => if k = true then ev G C a e h1 else ev G C b e h1 := by simp only [ev] <;> rfl
@[simp] theorem ev_dz : ev G C .dz e h = .ok (.d (.dict [])) h := by simp only [ev] <;> rfl
@[simp] theorem ev_said {p : Sdt} {a : E} : ev G C (.said p a) e h = saidR p (ev G C a e h) := by simp only [ev] <;> rfl
@[simp] theorem saidR_ok {p : Sdt} {v : PV} {h : Hv} : saidR p (.ok v h) = .ok (.d (.str p.w)) h := rfl
theorem saidR_exc {p : Sdt} {c : Str} {fs : List (Str × PyData)} {h : Hv} {v : Str} (h1 : c ∈ p.rs) (h2 : p.hs.lookup c = some v) : saidR p (.exc c fs h) = .ok (.d (.str v)) h := by simp only [saidR, if_pos h1, h2]
@[simp] theorem ev_call {x : Str} {es : List E} : ev G C (.call x es) e h = (evs G C es e h).bind fun vs h1 => C x vs h1 := by simp only [ev] <;> rfl
@[simp] theorem ev_bi {b : Bi} {a : E} : ev G C (.bi b a) e h = (ev G C a e h).bind fun x h1 => bi b x h1 := by simp only [ev] <;> rfl
@[simp] theorem ev_isi {t : Ty} {a : E} : ev G C (.isi t a) e h = (ev G C a e h).bind fun x h1 => (match x with
  | .d y => .ok (.d (.bool (isTy t y))) h1
  | _ => .bad) := by simp only [ev] <;> rfl
@[simp] theorem ev_tup {es : List E} : ev G C (.tup es) e h = (evs G C es e h).bind fun vs h1 => if lnOk vs.length then .ok (mkTup vs) h1 else .bad := by simp only [ev] <;> rfl
@[simp] theorem ev_lst {m : Bool} {es : List E} : ev G C (.lst m es) e h = (evs G C es e h).bind fun vs h1 => (match allD vs with
    | some ds => if lnOk ds.length then (if m then newO (.lst ds) h1 else .ok (.d (.list ds)) h1) else .bad
    | none => .bad) := by simp only [ev] <;> rfl
@[simp] theorem ev_ix {a i : E} : ev G C (.ix a i) e h = (ev G C a e h).bind fun x h1 => (ev G C i e h1).bind fun y h2 => ix x y h2 := by simp only [ev] <;> rfl
@[simp] theorem ev_slc {a : E} {lo hi : Option E} : ev G C (.slc a lo hi) e h = (ev G C a e h).bind fun x h1 => optI (evo G C lo e h1) fun l h2 => optI (evo G C hi e h2) fun r h3 => slc x l r h3 := by simp only [ev] <;> rfl
@[simp] theorem bind_fin0 {r : Res PV} : r.bind (fin false) = r := by cases r <;> rfl
@[simp] theorem ev_comp {own : List Nat} {elt : E} {tg : Tg} {it : NC.It} {cond : Option E} : ev G C (.comp false own elt tg it cond) e h = (walk G C it e h).bind fun w h1 =>
      compL w.gd tg (fun e h => noexc (match cond with
        | none => .ok (.d (.bool true)) h
        | some c => ev G C c e h)) (fun e h => noexc (ev G C elt e h)) (wipe e own) w.xs [] h1 := by simp only [ev, bind_fin0] <;> rfl
@[simp] theorem ev_compM {own : List Nat} {elt : E} {tg : Tg} {it : NC.It} {cond : Option E} : ev G C (.comp true own elt tg it cond) e h = (walk G C it e h).bind fun w h1 =>
      (compL w.gd tg (fun e h => noexc (match cond with
        | none => .ok (.d (.bool true)) h
        | some c => ev G C c e h)) (fun e h => noexc (ev G C elt e h)) (wipe e own) w.xs [] h1).bind (fin true) := by simp only [ev] <;> rfl
@[simp] theorem ev_gc {v : PyData} : ev G C (.gc v) e h = .ok (.d v) h := by simp only [ev] <;> rfl
@[simp] theorem ev_opq : ev G C .opq e h = .bad := by simp only [ev] <;> rfl
@[simp] theorem ev_kix {x : Str} {kvs : List (Str × Str)} {i : E} : ev G C (.kix x kvs i) e h = (ev G C i e h).bind fun v h1 => (match v with
    | .d (.str k) => (match getS kvs k with
      | some y => .ok (.d (.str y)) h1
      | none => .bad)
    | _ => .bad) := by simp only [ev] <;> rfl
@[simp] theorem ev_kin {b : Bool} {x : Str} {kvs : List (Str × Str)} {i : E} : ev G C (.kin b x kvs i) e h = (ev G C i e h).bind fun v h1 => (match v with
    | .d (.str k) => .ok (.d (.bool (b == (getS kvs k).isSome))) h1
    | _ => .bad) := by simp only [ev] <;> rfl
@[simp] theorem ev_get {a b : E} : ev G C (.get a b) e h = (ev G C a e h).bind fun x h1 => if isDct x h1 then (ev G C b e h1).bind fun y h2 => getM x y h2 else .bad := by simp only [ev] <;> rfl
@[simp] theorem ev_fld {c f : Str} {a : E} : ev G C (.fld c a f) e h = (ev G C a e h).bind fun x h1 => fldD c x f h1 := by simp only [ev] <;> rfl
@[simp] theorem ev_mk {c k : Str} {es : List E} : ev G C (.mk c k es) e h = (evs G C es e h).bind fun vs h1 => (newO (.ins c []) h1).bind fun x h2 => (C k (x :: vs) h2).bind fun y h3 => (match y with
      | .d .none => .ok x h3
      | _ => .bad) := by simp only [ev] <;> rfl
@[simp] theorem ev_ocall {c m k : Str} {a : E} {es : List E} : ev G C (.ocall c m k a es) e h = (ev G C a e h).bind fun x h1 => if mayCall c m x h1 then (evs G C es e h1).bind fun vs h2 => C k (x :: vs) h2 else .bad := by simp only [ev] <;> rfl
@[simp] theorem ev_lcp {a : E} : ev G C (.lcp a) e h = (ev G C a e h).bind fun x h1 => (bi .list x h1).bind (fin true) := by simp only [ev] <;> rfl
@[simp] theorem ev_join {s : Str} {a : E} : ev G C (.join s a) e h = (ev G C a e h).bind fun x h1 => joinD s x h1 := by simp only [ev] <;> rfl
@[simp] theorem ev_dnew : ev G C .dnew e h = newO (.dct []) h := by simp only [ev] <;> rfl
@[simp] theorem ev_rev {a : E} : ev G C (.rev a) e h = (ev G C a e h).bind fun x h1 => rev x h1 := by simp only [ev] <;> rfl
@[simp] theorem ex_setF {c f : Str} {o a : E} : exec G C (.setF c o f a) e h = (ev G C a e h).bind fun v h1 => (ev G C o e h1).bind fun x h2 => (match setFD c x f v h2 with
    | some h3 => .ok (.nx e) h3
    | none => .bad) := by simp only [exec] <;> rfl
@[simp] theorem ex_augF {c f : Str} {o a : E} {op : Op} : exec G C (.augF c o f op a) e h = (ev G C o e h).bind fun x h1 => (fldD c x f h1).bind fun v h2 => (ev G C a e h2).bind fun y h3 => (augop op v y h3).bind fun z h4 => (match setFD c x f z h4 with
    | some h5 => .ok (.nx e) h5
    | none => .bad) := by simp only [exec] <;> rfl
@[simp] theorem ex_retN : exec G C .retN e h = .ok (.ret (.d .none)) h := by simp only [exec] <;> rfl
@[simp] theorem ex_par3 {i j l : Nat} {a b c : E} : exec G C (.par3 i j l a b c) e h = (ev G C a e h).bind fun x h1 => (ev G C b e h1).bind fun y h2 => (ev G C c e h2).bind fun z h3 => if i < e.length && j < e.length && l < e.length then .ok (.nx (((e.set i (some x)).set j (some y)).set l (some z))) h3 else .bad := by simp only [exec] <;> rfl
@[simp] theorem ex_raise {c : Str} : exec G C (.raiseS c []) e h = .exc c [] h := by simp only [exec, evs] <;> rfl
@[simp] theorem ev_meth {a : E} {m : Str} {es : List E} : ev G C (.meth a m es) e h = (ev G C a e h).bind fun x h1 => if isLst x h1 then (evs G C es e h1).bind fun vs h2 => meth m x vs h2 else .bad := by simp only [ev] <;> rfl
@[simp] theorem evs_nil : evs G C [] e h = .ok [] h := by simp only [evs] <;> rfl
@[simp] theorem evs_cons {a : E} {r : List E} : evs G C (a :: r) e h = (ev G C a e h).bind fun x h1 => (evs G C r e h1).bind fun xs h2 => .ok (x :: xs) h2 := by simp only [evs] <;> rfl
@[simp] theorem evo_none : evo G C none e h = .ok none h := by simp only [evo] <;> rfl
@[simp] theorem evo_some {a : E} : evo G C (some a) e h = (ev G C a e h).bind fun x h1 => .ok (some x) h1 := by simp only [evo] <;> rfl
@[simp] theorem walk_of' {a : E} : walk G C (.of a) e h = (ev G C a e h).bind fun x h1 => walk1 x h1 := by simp only [walk] <;> rfl
@[simp] theorem ex_ret {a : E} : exec G C (.ret a) e h = (ev G C a e h).bind fun x h1 => .ok (.ret x) h1 := by simp only [exec] <;> rfl
@[simp] theorem ex_asg {tg : Tg} {a : E} : exec G C (.asg tg a) e h = (ev G C a e h).bind fun x h1 => (match storeH tg x e h1 with
    | some e1 => .ok (.nx e1) h1
    | none => .bad) := by simp only [exec] <;> rfl
@[simp] theorem ex_par {i j : Nat} {a b : E} : exec G C (.par i j a b) e h = (ev G C a e h).bind fun x h1 => (ev G C b e h1).bind fun y h2 => if i < e.length && j < e.length then .ok (.nx ((e.set i (some x)).set j (some y))) h2 else .bad := by simp only [exec] <;> rfl
@[simp] theorem ex_setI {o i a : E} : exec G C (.setI o i a) e h = (ev G C a e h).bind fun v h1 => (ev G C o e h1).bind fun x h2 => (ev G C i e h2).bind fun y h3 => (setI x y v h3).bind fun _ h4 => .ok (.nx e) h4 := by simp only [exec] <;> rfl
@[simp] theorem ex_aug {i : Nat} {o : Op} {a : E} : exec G C (.aug i o a) e h = (match e[i]? with
    | some (some x) => (ev G C a e h).bind fun y h1 => (augop o x y h1).bind fun z h2 => if i < e.length then .ok (.nx (e.set i (some z))) h2 else .bad
    | _ => .bad) := by simp only [exec] <;> rfl
@[simp] theorem ex_expr {a : E} : exec G C (.expr a) e h = (ev G C a e h).bind fun _ h1 => .ok (.nx e) h1 := by simp only [exec] <;> rfl
@[simp] theorem ex_if {c : E} {a b : List S} : exec G C (.ifS c a b) e h = tst (ev G C c e h) fun k h1 => if k = true then execs G C a e h1 else execs G C b e h1 := by simp only [exec] <;> rfl
theorem ex_for {tg : Tg} {it : NC.It} {b : List S} : exec G C (.forS tg it b) e h = (walk G C it e h).bind fun w h1 => forL w.gd tg (fun e h => execs G C b e h) w.xs e h1 := by simp only [exec] <;> rfl
theorem ex_while {c : E} {b : List S} : exec G C (.whileS c b) e h = whileL (fun e h => ev G C c e h) (fun e h => execs G C b e h) e h := by simp only [exec] <;> rfl
@[simp] theorem exs_nil : execs G C [] e h = .ok (.nx e) h := by simp only [execs] <;> rfl
@[simp] theorem exs_cons {s : S} {r : List S} : execs G C (s :: r) e h = (exec G C s e h).bind fun f h1 => (match f with
    | .nx e1 => execs G C r e1 h1
    | .ret v => .ok (.ret v) h1
    | .brk e1 => .ok (.brk e1) h1
    | .ct e1 => .ok (.ct e1) h1) := by simp only [execs] <;> rfl
/-! values -/
@[simp] theorem hv_eta (h : Hv) : (⟨h.os, h.lim⟩ : Hv) = h := rfl
@[simp] theorem add_i {i j : Int} : op .add (.d (.int i)) (.d (.int j)) h = .ok (.d (.int (i + j))) h := rfl
@[simp] theorem sub_i {i j : Int} : op .sub (.d (.int i)) (.d (.int j)) h = .ok (.d (.int (i - j))) h := rfl
@[simp] theorem mul_i {i j : Int} : op .mul (.d (.int i)) (.d (.int j)) h = if szOk i && szOk j then .ok (.d (.int (i * j))) h else .bad := rfl
@[simp] theorem fdiv_i {i j : Int} : op .fdiv (.d (.int i)) (.d (.int j)) h = if dvOk j then .ok (.d (.int (i.fdiv j))) h else .bad := rfl
@[simp] theorem mod_i {i j : Int} : op .mod (.d (.int i)) (.d (.int j)) h = if decide (j ≠ 0) then .ok (.d (.int (i.fmod j))) h else .bad := rfl
@[simp] theorem pow_i {i j : Int} : op .pow (.d (.int i)) (.d (.int j)) h = if powOk i j then .ok (.d (.int (i ^ j.toNat))) h else .bad := rfl
theorem eqv_int (i j : Int) : PyData.eqv (.int i) (.int j) = decide (i = j) := by simp [PyData.eqv]; rfl
theorem eqv_str (a b : Str) : PyData.eqv (.str a) (.str b) = (a == b) := by simp [PyData.eqv]
@[simp] theorem eq_i {i j : Int} : cm .eq (.d (.int i)) (.d (.int j)) h = .ok (.d (.bool (decide (i = j)))) h := by
  show (if eqOk (.int i) (.int j) then Res.ok (PV.d (.bool (PyData.eqv (.int i) (.int j)))) h else .bad) = _
  rw [if_pos (show eqOk (.int i) (.int j) = true from rfl), eqv_int]
@[simp] theorem ne_i {i j : Int} : cm .ne (.d (.int i)) (.d (.int j)) h = .ok (.d (.bool (!decide (i = j)))) h := by
  show (if eqOk (.int i) (.int j) then Res.ok (PV.d (.bool (!PyData.eqv (.int i) (.int j)))) h else .bad) = _
  rw [if_pos (show eqOk (.int i) (.int j) = true from rfl), eqv_int]
@[simp] theorem eq_s {a b : Str} : cm .eq (.d (.str a)) (.d (.str b)) h = .ok (.d (.bool (a == b))) h := by
  show (if eqOk (.str a) (.str b) then Res.ok (PV.d (.bool (PyData.eqv (.str a) (.str b)))) h else .bad) = _
  rw [if_pos (show eqOk (.str a) (.str b) = true from rfl), eqv_str]
@[simp] theorem lt_i {i j : Int} : cm .lt (.d (.int i)) (.d (.int j)) h = .ok (.d (.bool (decide (i < j)))) h := rfl
@[simp] theorem le_i {i j : Int} : cm .le (.d (.int i)) (.d (.int j)) h = .ok (.d (.bool (decide (i ≤ j)))) h := rfl
@[simp] theorem gt_i {i j : Int} : cm .gt (.d (.int i)) (.d (.int j)) h = .ok (.d (.bool (decide (j < i)))) h := rfl
@[simp] theorem ge_i {i j : Int} : cm .ge (.d (.int i)) (.d (.int j)) h = .ok (.d (.bool (decide (j ≤ i)))) h := rfl
@[simp] theorem abs_i {i : Int} : bi .abs (.d (.int i)) h = .ok (.d (.int (i.natAbs : Nat))) h := by
  show Res.ok _ h = _
  by_cases q : i < 0
  · rw [if_pos q]; congr 3; omega
  · rw [if_neg q]; congr 3; omega
@[simp] theorem int_i {i : Int} : bi .int (.d (.int i)) h = .ok (.d (.int i)) h := rfl
@[simp] theorem len_t {xs : List PyData} : bi .len (.d (.tuple xs)) h = .ok (.d (.int xs.length)) h := rfl
@[simp] theorem len_l {xs : List PyData} : bi .len (.d (.list xs)) h = .ok (.d (.int xs.length)) h := rfl
@[simp] theorem isi_i {i : Int} : isTy .int (.int i) = true := rfl
@[simp] theorem isb_i {i : Int} : isTy .bool (.int i) = false := rfl
@[simp] theorem ist_t {xs : List PyData} : isTy .tuple (.tuple xs) = true := rfl
@[simp] theorem ist_l {xs : List PyData} : isTy .tuple (.list xs) = false := rfl
@[simp] theorem ix_t0 {x : PyData} {xs : List PyData} : ix (.d (.tuple (x :: xs))) (.d (.int 0)) h = .ok (.d x) h := by simp [ix, L2.atI, L2.ixN]
@[simp] theorem ix_t1 {x y : PyData} {xs : List PyData} : ix (.d (.tuple (x :: y :: xs))) (.d (.int 1)) h = .ok (.d y) h := by
  have q : (1 : Int) < (xs.length : Int) + 1 + 1 := by omega
  simp [ix, L2.atI, L2.ixN, q]
@[simp] theorem st_v {i : Nat} {x : PV} {e : NC.Env} : storeH (.var i) x e h = if i < e.length then some (e.set i (some x)) else none := by cases x <;> rfl
@[simp] theorem ev_cmp2 {o o' : Cm} {a b c : E} : ev G C (.cmp2 o o' a b c) e h = (ev G C a e h).bind fun x h1 => (ev G C b e h1).bind fun y h2 => tst (cm o x y h2) fun k h3 => if k = true then (ev G C c e h3).bind fun z h4 => cm o' y z h4 else .ok (.d (.bool false)) h3 := by simp only [ev] <;> rfl
@[simp] theorem ev_glb {x : Str} : ev G C (.glb x) e h = (match G x with
  | some v => .ok v h
  | none => .bad) := by simp only [ev] <;> rfl
@[simp] theorem add_t {xs ys : List PyData} : op .add (.d (.tuple xs)) (.d (.tuple ys)) h = if lnOk (xs.length + ys.length) then .ok (.d (.tuple (xs ++ ys))) h else .bad := rfl
@[simp] theorem isn_b {a b : Bool} : cm .isn (.d (.bool a)) (.d (.bool b)) h = .ok (.d (.bool (!(a == b)))) h := rfl
@[simp] theorem is_b {a b : Bool} : cm .is (.d (.bool a)) (.d (.bool b)) h = .ok (.d (.bool (a == b))) h := rfl
theorem eqv_bool (a b : Bool) : PyData.eqv (.bool a) (.bool b) = (a == b) := by cases a <;> cases b <;> rfl
@[simp] theorem ne_b {a b : Bool} : cm .ne (.d (.bool a)) (.d (.bool b)) h = .ok (.d (.bool (!(a == b)))) h := by
  show (if eqOk (.bool a) (.bool b) then Res.ok (PV.d (.bool (!PyData.eqv (.bool a) (.bool b)))) h else .bad) = _
  rw [if_pos (show eqOk (.bool a) (.bool b) = true from rfl), eqv_bool]
@[simp] theorem eq_b {a b : Bool} : cm .eq (.d (.bool a)) (.d (.bool b)) h = .ok (.d (.bool (a == b))) h := by
  show (if eqOk (.bool a) (.bool b) then Res.ok (PV.d (.bool (PyData.eqv (.bool a) (.bool b)))) h else .bad) = _
  rw [if_pos (show eqOk (.bool a) (.bool b) = true from rfl), eqv_bool]
@[simp] theorem tup_l {xs : List PyData} : bi .tuple (.d (.list xs)) h = .ok (.d (.tuple xs)) h := rfl
@[simp] theorem lst_t {xs : List PyData} : bi .list (.d (.tuple xs)) h = .ok (.d (.list xs)) h := rfl
@[simp] theorem all_b {bs : List Bool} : bi .all (.d (.list (bs.map .bool))) h = .ok (.d (.bool (bs.all id))) h := by simp only [bi, allB_map]
@[simp] theorem any_b {bs : List Bool} : bi .any (.d (.list (bs.map .bool))) h = .ok (.d (.bool (bs.any id))) h := by simp only [bi, allB_map]
@[simp] theorem all_bl {bs : List Bool} : bi .all (.d (bl bs)) h = .ok (.d (.bool (bs.all id))) h := all_b
@[simp] theorem any_bl {bs : List Bool} : bi .any (.d (bl bs)) h = .ok (.d (.bool (bs.any id))) h := any_b
@[simp] theorem mkT1 {x : PyData} : mkTup [.d x] = .d (.tuple [x]) := rfl
@[simp] theorem mkT2 {x y : PyData} : mkTup [.d x, .d y] = .d (.tuple [x, y]) := rfl
@[simp] theorem mkT3 {x y z : PyData} : mkTup [.d x, .d y, .d z] = .d (.tuple [x, y, z]) := rfl
end
end NC
/-! Loops and comprehensions by invariants. -/
namespace NC
open PySem
@[simp] theorem noexc_ok {α : Type} {a : α} {h : Hv} : noexc (.ok a h) = .ok a h := rfl
@[simp] theorem optI_none {h : Hv} {f : Option Int → Hv → Res PV} : optI (.ok none h) f = f none h := rfl
@[simp] theorem optI_some {i : Int} {h : Hv} {f : Option Int → Hv → Res PV} : optI (.ok (some (.d (.int i))) h) f = f (some i) h := rfl
theorem comp_run {tg : Tg} {cond elt : NC.Env → Hv → Res PV} {e : NC.Env} {P : Nat → Hv → Prop} {R : PyData → Prop} {J : Nat} : ∀ (xs : List PV) (acc : List PyData) (j : Nat) (h : Hv),
    (∀ x ∈ xs, ∀ j h, j < J → P j h → ∃ e1, store tg x e = some e1 ∧ cond e1 h = .ok (.d (.bool true)) h ∧ ∃ y h', elt e1 h = .ok (.d y) h' ∧ R y ∧ P (j + 1) h') → P j h → j + xs.length ≤ J → acc.length + xs.length ≤ 16777216 →
    ∃ ys h', compL .no tg cond elt e xs acc h = .ok (.d (.list (acc ++ ys))) h' ∧ ys.length = xs.length ∧ (∀ y ∈ ys, R y) ∧ P (j + xs.length) h'
  | [], acc, j, h, _, p, _, _ => ⟨[], h, by simp [compL, Gd.ok], rfl, (fun _ z => nomatch z), p⟩
  | x :: xs, acc, j, h, s, p, lj, l => by
    rw [List.length_cons] at lj
    obtain ⟨e1, h1, h2, y, h', h3, h4, h5⟩ := s x List.mem_cons_self j h (by omega) p
    have l' : acc.length + (xs.length + 1) ≤ 16777216 := by simpa using l
    obtain ⟨ys, h'', q1, q2, q3, q4⟩ := comp_run xs (acc ++ [y]) (j + 1) h' (fun z hz => s z (List.mem_cons_of_mem _ hz)) h5 (by omega) (by simp; omega)
    refine ⟨y :: ys, h'', ?_, by simp [q2], fun z hz => ?_, by rw [List.length_cons, show j + (xs.length + 1) = j + 1 + xs.length by omega]; exact q4⟩
    · have lk : lnOk (acc.length + 1) = true := decide_eq_true (by omega)
      simp [compL, Gd.ok, h1, h2, h3, lk, q1]
    · rcases List.mem_cons.mp hz with rfl | hz
      · exact h4
      · exact q3 z hz
theorem comp_map {tg : Tg} {cond elt : NC.Env → Hv → Res PV} {e : NC.Env} {h : Hv} {f : PV → PyData} : ∀ (xs : List PV) (acc : List PyData),
    (∀ x ∈ xs, ∃ e1, store tg x e = some e1 ∧ cond e1 h = .ok (.d (.bool true)) h ∧ elt e1 h = .ok (.d (f x)) h) → acc.length + xs.length ≤ 16777216 →
    compL .no tg cond elt e xs acc h = .ok (.d (.list (acc ++ xs.map f))) h
  | [], acc, _, _ => by simp [compL, Gd.ok]
  | x :: xs, acc, s, l => by
    obtain ⟨e1, h1, h2, h3⟩ := s x List.mem_cons_self
    have l' : acc.length + (xs.length + 1) ≤ 16777216 := by simpa using l
    have lk : lnOk (acc.length + 1) = true := decide_eq_true (by omega)
    have q := comp_map (f := f) xs (acc ++ [f x]) (fun z hz => s z (List.mem_cons_of_mem _ hz)) (by simp; omega)
    simp [compL, Gd.ok, h1, h2, h3, lk, q]
theorem comp_maps {α : Type} {tg : Tg} {cond elt : NC.Env → Hv → Res PV} {e : NC.Env} {h : Hv} {g : α → PV} {f : α → PyData} {ps : List PV} {ds : List PyData} (xs : List α)
    (s : ∀ x ∈ xs, ∃ e1, store tg (g x) e = some e1 ∧ cond e1 h = .ok (.d (.bool true)) h ∧ elt e1 h = .ok (.d (f x)) h) (l : xs.length ≤ 16777216) (hp : ps = xs.map g) (hd : ds = xs.map f) :
    compL .no tg cond elt e ps [] h = .ok (.d (.list ds)) h := by
  subst hp
  subst hd
  have key : ∀ (xs : List α) (acc : List PyData), (∀ x ∈ xs, ∃ e1, store tg (g x) e = some e1 ∧ cond e1 h = .ok (.d (.bool true)) h ∧ elt e1 h = .ok (.d (f x)) h) → acc.length + xs.length ≤ 16777216 → compL .no tg cond elt e (xs.map g) acc h = .ok (.d (.list (acc ++ xs.map f))) h := by
    intro xs
    induction xs with
    | nil => intro acc _ _; simp [compL, Gd.ok]
    | cons x xs ih =>
      intro acc s l
      obtain ⟨e1, h1, h2, h3⟩ := s x List.mem_cons_self
      rw [List.length_cons] at l
      have lk : lnOk (acc.length + 1) = true := decide_eq_true (by omega)
      have q := ih (acc ++ [f x]) (fun z hz => s z (List.mem_cons_of_mem _ hz)) (by simp; omega)
      simp [compL, Gd.ok, h1, h2, h3, lk, q]
  simpa using key xs [] s (by simpa using l)
theorem for_run {tg : Tg} {body : NC.Env → Hv → Res NC.Flow} {P : Nat → NC.Env → Hv → Prop} {J : Nat} : ∀ (xs : List PV) (j : Nat) (e : NC.Env) (h : Hv),
    (∀ x ∈ xs, ∀ j e h, j < J → P j e h → ∃ e1, store tg x e = some e1 ∧ ∃ e2 h2, body e1 h = .ok (.nx e2) h2 ∧ P (j + 1) e2 h2) → P j e h → j + xs.length ≤ J →
    ∃ e' h', forL .no tg body xs e h = .ok (.nx e') h' ∧ P (j + xs.length) e' h'
  | [], j, e, h, _, p, _ => ⟨e, h, by simp [forL, Gd.ok], p⟩
  | x :: xs, j, e, h, s, p, lj => by
    rw [List.length_cons] at lj
    obtain ⟨e1, h1, e2, h2, h3, h4⟩ := s x List.mem_cons_self j e h (by omega) p
    obtain ⟨e', h', q1, q2⟩ := for_run xs (j + 1) e2 h2 (fun z hz => s z (List.mem_cons_of_mem _ hz)) h4 (by omega)
    refine ⟨e', h', ?_, by rw [List.length_cons, show j + (xs.length + 1) = j + 1 + xs.length by omega]; exact q2⟩
    simp [forL, Gd.ok, h1, h3, q1]
theorem b62_of {i : Int} (h0 : 0 ≤ i) (h1 : i ≤ 1000000) : b62 i = true := by
  have e : (2 : Int) ^ 62 = 4611686018427387904 := by decide
  unfold b62
  rw [e, Bool.and_eq_true]
  exact ⟨decide_eq_true (by omega), decide_eq_true (by omega)⟩
theorem walk_r1 {G : Gls} {C : Fns} {a : E} {e : NC.Env} {h h1 : Hv} {i : Int} (ha : ev G C a e h = .ok (.d (.int i)) h1) (hb : b62 i = true) : walk G C (.range1 a) e h = .ok ⟨rngs 0 i.toNat, .no⟩ h1 := by
  rw [walk, ha, Res.bind_ok]
  simp only [hb, if_true]
theorem rngs_len {i : Int} {m : Nat} : (rngs i m).length = m := by simp [rngs]
theorem all_true {ys : List PyData} {h : Hv} (q : ∀ y ∈ ys, y = .bool true) : bi .all (.d (.list ys)) h = .ok (.d (.bool true)) h := by
  have e : allB ys = some (List.replicate ys.length true) := by
    induction ys with
    | nil => rfl
    | cons y ys ih =>
      rw [q y List.mem_cons_self]
      simp [allB, ih fun z hz => q z (List.mem_cons_of_mem _ hz), List.replicate_succ]
  simp [bi, e]
theorem cut_map {α β : Type} (f : α → β) (xs : List α) (lo hi : Option Int) : cut (xs.map f) lo hi = (cut xs lo hi).map f := by simp [cut]
theorem cut_mem {α : Type} {xs : List α} {lo hi : Option Int} {x : α} (h : x ∈ cut xs lo hi) : x ∈ xs := List.mem_of_mem_drop (List.mem_of_mem_take h)
theorem cut_len {α : Type} {xs : List α} {lo hi : Option Int} : (cut xs lo hi).length ≤ xs.length := by
  unfold cut
  rw [List.length_take, List.length_drop]
  omega
/-! the same value twice -/
theorem shaped_dq (q : Rat) : SeqAt.shaped (dq q) = true := rfl
theorem eqv_dq (q : Rat) : PyData.eqv (dq q) (dq q) = true := by
  unfold dq
  simp [PyData.eqv, PyData.eqvAll]
@[simp] theorem ne_dq {q : Rat} {h : Hv} : cm .ne (.d (dq q)) (.d (dq q)) h = .ok (.d (.bool false)) h := by
  show (if eqOk (dq q) (dq q) then Res.ok (PV.d (.bool (!PyData.eqv (dq q) (dq q)))) h else .bad) = _
  rw [if_pos (show eqOk (dq q) (dq q) = true by unfold eqOk; rw [shaped_dq]; simp), eqv_dq]
  rfl
end NC
namespace NC
open PySem PySem.Spec PyProof.Rows L2
/-! the defs of the module fractions (written by a program from the text) -/
def kd_FORMS : List (Str × Str) := [("num", "f"), ("in", "i"), ("var", "x"), ("plus", "ee"), ("less", "ee"), ("times", "fe"), ("least", "ee"), ("most", "ee"), ("let", "xee"), ("below", "efee"), ("upto", "efee"), ("call", "xE")]
/-- is_integer: thing -/
def f_is_integer : Df := { np := 1, ns := 1, cl := true, body := [(.ret (.and (.isi .int (.var 0)) (.not (.isi .bool (.var 0)))))] }
/-- is_within: thing, low, high -/
def f_is_within : Df := { np := 3, ns := 3, cl := true, body := [(.ret (.and (.call "is_integer" [(.var 0)]) (.cmp2 .le .le (.var 1) (.var 0) (.var 2))))] }
/-- divisor: x, y -/
def f_divisor : Df := { np := 2, ns := 2, cl := true, body := [(.whileS (.cmp .ne (.var 1) (.cst (.int 0))) [(.par 0 1 (.var 1) (.bin .mod (.bi .int (.var 0)) (.var 1)))]), (.ret (.var 0))] }
/-- is_fraction: thing -/
def f_is_fraction : Df := { np := 1, ns := 1, cl := true, body := [(.ifS (.or (.not (.isi .tuple (.var 0))) (.or (.cmp .ne (.bi .len (.var 0)) (.cst (.int 2))) (.or (.not (.call "is_integer" [(.ix (.var 0) (.cst (.int 0)))])) (.not (.call "is_integer" [(.ix (.var 0) (.cst (.int 1)))]))))) [(.ret (.cst (.bool false)))] []), (.ret (.and (.cmp .gt (.ix (.var 0) (.cst (.int 1))) (.cst (.int 0))) (.cmp .eq (.call "divisor" [(.bi .abs (.ix (.var 0) (.cst (.int 0)))), (.ix (.var 0) (.cst (.int 1)))]) (.cst (.int 1)))))] }
/-- made: top, bottom, by -/
def f_made : Df := { np := 2, ns := 3, cl := true, body := [(.asg (.var 2) (.call "divisor" [(.bi .abs (.var 0)), (.bi .abs (.var 1))])), (.ifS (.cmp .lt (.var 1) (.cst (.int 0))) [(.asg (.var 2) (.neg (.var 2)))] []), (.ret (.tup [(.bin .fdiv (.var 0) (.var 2)), (.bin .fdiv (.var 1) (.var 2))]))] }
/-- raw_below: x, y -/
def f_raw_below : Df := { np := 2, ns := 2, cl := true, body := [(.ret (.cmp .lt (.bin .mul (.ix (.var 0) (.cst (.int 0))) (.ix (.var 1) (.cst (.int 1)))) (.bin .mul (.ix (.var 1) (.cst (.int 0))) (.ix (.var 0) (.cst (.int 1))))))] }
/-- check_fraction: thing -/
def f_check_fraction : Df := { np := 1, ns := 1, cl := true, body := [(.ifS (.not (.call "is_fraction" [(.var 0)])) [(.raiseS "NoFraction" [])] [])] }
/-- fraction: top, bottom -/
def f_fraction : Df := { np := 2, ns := 2, cl := true, body := [(.ifS (.or (.not (.call "is_integer" [(.var 0)])) (.or (.not (.call "is_integer" [(.var 1)])) (.cmp .eq (.var 1) (.cst (.int 0))))) [(.raiseS "NoFraction" [])] []), (.ret (.call "made" [(.var 0), (.var 1)]))] }
/-- raw_plus: x, y -/
def f_raw_plus : Df := { np := 2, ns := 2, cl := true, body := [(.ret (.call "made" [(.bin .add (.bin .mul (.ix (.var 0) (.cst (.int 0))) (.ix (.var 1) (.cst (.int 1)))) (.bin .mul (.ix (.var 1) (.cst (.int 0))) (.ix (.var 0) (.cst (.int 1))))), (.bin .mul (.ix (.var 0) (.cst (.int 1))) (.ix (.var 1) (.cst (.int 1))))]))] }
/-- raw_less: x, y -/
def f_raw_less : Df := { np := 2, ns := 2, cl := true, body := [(.ret (.call "made" [(.bin .sub (.bin .mul (.ix (.var 0) (.cst (.int 0))) (.ix (.var 1) (.cst (.int 1)))) (.bin .mul (.ix (.var 1) (.cst (.int 0))) (.ix (.var 0) (.cst (.int 1))))), (.bin .mul (.ix (.var 0) (.cst (.int 1))) (.ix (.var 1) (.cst (.int 1))))]))] }
/-- raw_times: x, y -/
def f_raw_times : Df := { np := 2, ns := 2, cl := true, body := [(.ret (.call "made" [(.bin .mul (.ix (.var 0) (.cst (.int 0))) (.ix (.var 1) (.cst (.int 0)))), (.bin .mul (.ix (.var 0) (.cst (.int 1))) (.ix (.var 1) (.cst (.int 1))))]))] }
/-- raw_by: x, y -/
def f_raw_by : Df := { np := 2, ns := 2, cl := true, body := [(.ret (.call "made" [(.bin .mul (.ix (.var 0) (.cst (.int 0))) (.ix (.var 1) (.cst (.int 1)))), (.bin .mul (.ix (.var 0) (.cst (.int 1))) (.ix (.var 1) (.cst (.int 0))))]))] }
/-- raw_at_most: x, y -/
def f_raw_at_most : Df := { np := 2, ns := 2, cl := true, body := [(.ret (.cmp .le (.bin .mul (.ix (.var 0) (.cst (.int 0))) (.ix (.var 1) (.cst (.int 1)))) (.bin .mul (.ix (.var 1) (.cst (.int 0))) (.ix (.var 0) (.cst (.int 1))))))] }
/-- plus: x, y -/
def f_plus : Df := { np := 2, ns := 2, cl := true, body := [(.expr (.call "check_fraction" [(.var 0)])), (.expr (.call "check_fraction" [(.var 1)])), (.ret (.call "raw_plus" [(.var 0), (.var 1)]))] }
/-- less: x, y -/
def f_less : Df := { np := 2, ns := 2, cl := true, body := [(.expr (.call "check_fraction" [(.var 0)])), (.expr (.call "check_fraction" [(.var 1)])), (.ret (.call "raw_less" [(.var 0), (.var 1)]))] }
/-- times: x, y -/
def f_times : Df := { np := 2, ns := 2, cl := true, body := [(.expr (.call "check_fraction" [(.var 0)])), (.expr (.call "check_fraction" [(.var 1)])), (.ret (.call "raw_times" [(.var 0), (.var 1)]))] }
/-- by: x, y -/
def f_by : Df := { np := 2, ns := 2, cl := true, body := [(.expr (.call "check_fraction" [(.var 0)])), (.expr (.call "check_fraction" [(.var 1)])), (.ifS (.cmp .eq (.ix (.var 1) (.cst (.int 0))) (.cst (.int 0))) [(.raiseS "Zero" [])] []), (.ret (.call "raw_by" [(.var 0), (.var 1)]))] }
/-- at_most: x, y -/
def f_at_most : Df := { np := 2, ns := 2, cl := true, body := [(.expr (.call "check_fraction" [(.var 0)])), (.expr (.call "check_fraction" [(.var 1)])), (.ret (.call "raw_at_most" [(.var 0), (.var 1)]))] }
def PT_fractions : List (Str × Df) := [(("is_integer" : Str), f_is_integer), (("is_within" : Str), f_is_within), (("divisor" : Str), f_divisor), (("is_fraction" : Str), f_is_fraction), (("made" : Str), f_made), (("raw_below" : Str), f_raw_below), (("check_fraction" : Str), f_check_fraction), (("fraction" : Str), f_fraction), (("raw_plus" : Str), f_raw_plus), (("raw_less" : Str), f_raw_less), (("raw_times" : Str), f_raw_times), (("raw_by" : Str), f_raw_by), (("raw_at_most" : Str), f_raw_at_most), (("plus" : Str), f_plus), (("less" : Str), f_less), (("times" : Str), f_times), (("by" : Str), f_by), (("at_most" : Str), f_at_most)]
structure T_fractions (T : Tab) : Prop where
  f_is_integer : T "is_integer" = some NC.f_is_integer
  f_is_within : T "is_within" = some NC.f_is_within
  f_divisor : T "divisor" = some NC.f_divisor
  f_is_fraction : T "is_fraction" = some NC.f_is_fraction
  f_made : T "made" = some NC.f_made
  f_raw_below : T "raw_below" = some NC.f_raw_below
  f_check_fraction : T "check_fraction" = some NC.f_check_fraction
  f_fraction : T "fraction" = some NC.f_fraction
  f_raw_plus : T "raw_plus" = some NC.f_raw_plus
  f_raw_less : T "raw_less" = some NC.f_raw_less
  f_raw_times : T "raw_times" = some NC.f_raw_times
  f_raw_by : T "raw_by" = some NC.f_raw_by
  f_raw_at_most : T "raw_at_most" = some NC.f_raw_at_most
  f_plus : T "plus" = some NC.f_plus
  f_less : T "less" = some NC.f_less
  f_times : T "times" = some NC.f_times
  f_by : T "by" = some NC.f_by
  f_at_most : T "at_most" = some NC.f_at_most
end NC
/-! Fractions: what the defs of fractions.py tell. -/
namespace NC
open PySem
theorem call_run {G : Gls} {T : Tab} {k : Nat} {x : Str} {vs : List PV} {h : Hv} {f : Df} (e : T x = some f) : call G T (k + 1) x vs h = run G (call G T k) f vs h := by simp only [call, e]
/-- a clean def that makes no object -/
theorem back_d {h : Hv} {x : PyData} : back true h (.d x) ⟨h.os, h.os.length⟩ = .ok (.d x) h := by
  simp [back]
section
variable {G : Gls} {T : Tab} (F : T_fractions T) {k : Nat} {h : Hv}
include F
theorem s_is_integer {i : Int} : call G T (k + 1) "is_integer" [.d (.int i)] h = .ok (.d (.bool true)) h := by
  rw [call_run F.f_is_integer]
  simp [f_is_integer, run, back]
theorem s_is_within {i a b : Int} : call G T (k + 2) "is_within" [.d (.int i), .d (.int a), .d (.int b)] h = .ok (.d (.bool (decide (a ≤ i) && decide (i ≤ b)))) h := by
  rw [call_run F.f_is_within]
  by_cases q : a ≤ i <;> simp [f_is_within, run, back, s_is_integer F, q]
omit F in
theorem gcd_while {C : Fns} {x y : Nat} : exec G C (.whileS (.cmp .ne (.var 1) (.cst (.int 0))) [(.par 0 1 (.var 1) (.bin .mod (.bi .int (.var 0)) (.var 1)))]) [some (.d (.int x)), some (.d (.int y))] h = .ok (.nx [some (.d (.int (Nat.gcd x y : Nat))), some (.d (.int 0))]) h := by
  rw [ex_while]
  induction y using Nat.strongRecOn generalizing x with
  | _ y ih =>
    rw [whileL_eq]
    by_cases hy : y = 0
    · subst hy
      simp
    · have e : Int.fmod (x : Int) (y : Int) = ((x % y : Nat) : Int) := by rw [Int.fmod_eq_emod_of_nonneg _ (by omega)]; rfl
      have g : Nat.gcd x y = Nat.gcd y (x % y) := by rw [Nat.gcd_comm x y, Nat.gcd_rec y x, Nat.gcd_comm]
      have := @ih (x % y) (Nat.mod_lt _ (by omega)) y
      rw [g, ← this]
      simp [hy, e]
theorem s_divisor {x y : Nat} : call G T (k + 1) "divisor" [.d (.int x), .d (.int y)] h = .ok (.d (.int (Nat.gcd x y : Nat))) h := by
  rw [call_run F.f_divisor]
  simp [f_divisor, run, back, gcd_while]
theorem s_made {t b : Int} (hb : b ≠ 0) (hB : Lt 8000 b) : call G T (k + 2) "made" [.d (.int t), .d (.int b)] h = .ok (.d (dq (Rat.divInt t b))) h := by
  rw [call_run F.f_made]
  have d := dvOk_of (sg_lt (t := t) hb hB) (by decide) (sg_ne hb)
  have e1 := low_num (t := t) hb
  have e2 := low_den (t := t) hb
  unfold dq
  rw [← e1, ← e2]
  unfold sg at d ⊢
  by_cases hlt : b < 0
  · rw [if_pos hlt] at d
    simp [f_made, run, back, hlt, d, lnOk, s_divisor F]
  · rw [if_neg hlt] at d
    simp [f_made, run, back, hlt, d, lnOk, s_divisor F]
omit F in
@[simp] theorem gcd_abs {a b : Int} : (a.natAbs : Int).natAbs = a.natAbs := by omega
theorem s_is_fraction {q : Rat} : call G T (k + 2) "is_fraction" [.d (dq q)] h = .ok (.d (.bool true)) h := by
  rw [call_run F.f_is_fraction]
  have hp : (0 : Int) < (q.den : Int) := by have := q.den_pos; omega
  have hg : Nat.gcd q.num.natAbs q.den = 1 := q.reduced
  simp [f_is_fraction, run, back, dq, q.den_pos, hg, s_is_integer F, s_divisor F]
theorem s_check {q : Rat} : call G T (k + 3) "check_fraction" [.d (dq q)] h = .ok (.d .none) h := by
  rw [call_run F.f_check_fraction]
  simp [f_check_fraction, run, back, s_is_fraction F]
theorem s_raw_plus {n : Nat} {q r : Rat} (a : Sm n q) (b : Sm n r) (hn : n ≤ 3000) : call G T (k + 3) "raw_plus" [.d (dq q), .d (dq r)] h = .ok (.d (dq (q + r))) h := by
  rw [call_run F.f_raw_plus, add_is]
  have h1 := szOk_of a.1 (by omega); have h2 := szOk_of a.den (by omega); have h3 := szOk_of b.1 (by omega); have h4 := szOk_of b.den (by omega)
  have m := fun t (h : Hv) => s_made F (G := G) (k := k) (t := t) (h := h) (dd_ne q r) ((a.dd b).mono (by omega))
  simp [f_raw_plus, run, back]
  simp [dq, h1, h2, h3, h4, m]
theorem s_raw_less {n : Nat} {q r : Rat} (a : Sm n q) (b : Sm n r) (hn : n ≤ 3000) : call G T (k + 3) "raw_less" [.d (dq q), .d (dq r)] h = .ok (.d (dq (q - r))) h := by
  rw [call_run F.f_raw_less, sub_is]
  have h1 := szOk_of a.1 (by omega); have h2 := szOk_of a.den (by omega); have h3 := szOk_of b.1 (by omega); have h4 := szOk_of b.den (by omega)
  have m := fun t (h : Hv) => s_made F (G := G) (k := k) (t := t) (h := h) (dd_ne q r) ((a.dd b).mono (by omega))
  simp [f_raw_less, run, back]
  simp [dq, h1, h2, h3, h4, m]
theorem s_raw_times {n : Nat} {q r : Rat} (a : Sm n q) (b : Sm n r) (hn : n ≤ 3000) : call G T (k + 3) "raw_times" [.d (dq q), .d (dq r)] h = .ok (.d (dq (q * r))) h := by
  rw [call_run F.f_raw_times, mul_is]
  have h1 := szOk_of a.1 (by omega); have h2 := szOk_of a.den (by omega); have h3 := szOk_of b.1 (by omega); have h4 := szOk_of b.den (by omega)
  have m := fun t (h : Hv) => s_made F (G := G) (k := k) (t := t) (h := h) (dd_ne q r) ((a.dd b).mono (by omega))
  simp [f_raw_times, run, back]
  simp [dq, h1, h2, h3, h4, m]
theorem s_raw_by {n : Nat} {q r : Rat} (a : Sm n q) (b : Sm n r) (hr : r.num ≠ 0) (hn : n ≤ 3000) : call G T (k + 3) "raw_by" [.d (dq q), .d (dq r)] h = .ok (.d (dq (Rat.divInt (q.num * r.den) (q.den * r.num)))) h := by
  rw [call_run F.f_raw_by]
  have h1 := szOk_of a.1 (by omega); have h2 := szOk_of a.den (by omega); have h3 := szOk_of b.1 (by omega); have h4 := szOk_of b.den (by omega)
  have m := fun t (h : Hv) => s_made F (G := G) (k := k) (t := t) (h := h) (Int.mul_ne_zero (den_ne q) hr) ((a.den.mul b.1).mono (by omega))
  simp [f_raw_by, run, back]
  simp [dq, h1, h2, h3, h4, m]
theorem s_raw_at_most {n : Nat} {q r : Rat} (a : Sm n q) (b : Sm n r) (hn : n ≤ 3000) : call G T (k + 1) "raw_at_most" [.d (dq q), .d (dq r)] h = .ok (.d (.bool (decide (q ≤ r)))) h := by
  rw [call_run F.f_raw_at_most]
  have h1 := szOk_of a.1 (by omega); have h2 := szOk_of a.den (by omega); have h3 := szOk_of b.1 (by omega); have h4 := szOk_of b.den (by omega)
  have e : (decide (q ≤ r)) = decide (q.num * r.den ≤ r.num * q.den) := decide_eq_decide.mpr (Rat.le_iff q r)
  rw [e]
  simp [f_raw_at_most, run, back, dq, h1, h2, h3, h4]
theorem s_raw_below {n : Nat} {q r : Rat} (a : Sm n q) (b : Sm n r) (hn : n ≤ 3000) : call G T (k + 1) "raw_below" [.d (dq q), .d (dq r)] h = .ok (.d (.bool (decide (q < r)))) h := by
  rw [call_run F.f_raw_below]
  have h1 := szOk_of a.1 (by omega); have h2 := szOk_of a.den (by omega); have h3 := szOk_of b.1 (by omega); have h4 := szOk_of b.den (by omega)
  have e : (decide (q < r)) = decide (q.num * r.den < r.num * q.den) := decide_eq_decide.mpr (Rat.lt_iff q r)
  rw [e]
  simp [f_raw_below, run, back, dq, h1, h2, h3, h4]
end
end NC
namespace NC
open PySem PySem.Spec PyProof.Rows L2
/-! the defs of the module books (written by a program from the text) -/
/-- is_name: thing, sign -/
def f_is_name : Df := { np := 1, ns := 2, cl := true, body := [(.ret (.and (.isi .str (.var 0)) (.and (.cmp2 .le .le (.cst (.int 1)) (.bi .len (.var 0)) (.gc (.int 8))) (.bi .all (.comp false [1] (.cmp .inn (.var 1) (.gc (.str "abcdefghijklmnopqrstuvwxyz"))) (.var 1) (.of (.var 0)) none)))))] }
/-- is_short: thing -/
def f_is_short : Df := { np := 1, ns := 1, cl := true, body := [(.ret (.and (.call "is_fraction" [(.var 0)]) (.and (.cmp .lt (.bi .abs (.ix (.var 0) (.cst (.int 0)))) (.gc (.int 10000000000))) (.cmp .lt (.ix (.var 0) (.cst (.int 1))) (.gc (.int 10000000000))))))] }
/-- is_form_part: sign, thing -/
def f_is_form_part : Df := { np := 2, ns := 2, cl := true, body := [(.ifS (.cmp .eq (.var 0) (.cst (.str "f"))) [(.ret (.call "is_short" [(.var 1)]))] []), (.ifS (.cmp .eq (.var 0) (.cst (.str "i"))) [(.ret (.call "is_within" [(.var 1), (.cst (.int 0)), (.bin .sub (.gc (.int 3)) (.cst (.int 1)))]))] []), (.ifS (.cmp .eq (.var 0) (.cst (.str "x"))) [(.ret (.call "is_name" [(.var 1)]))] []), (.ret (.or (.cmp .ne (.var 0) (.cst (.str "E"))) (.and (.isi .tuple (.var 1)) (.cmp2 .le .le (.cst (.int 1)) (.bi .len (.var 1)) (.gc (.int 3))))))] }
/-- has_form: thing, signs, sign, one -/
def f_has_form : Df := { np := 1, ns := 4, cl := true, body := [(.ifS (.or (.not (.isi .tuple (.var 0))) (.or (.cmp .eq (.bi .len (.var 0)) (.cst (.int 0))) (.or (.not (.isi .str (.ix (.var 0) (.cst (.int 0))))) (.kin false "FORMS" kd_FORMS (.ix (.var 0) (.cst (.int 0))))))) [(.ret (.cst (.bool false)))] []), (.asg (.var 1) (.kix "FORMS" kd_FORMS (.ix (.var 0) (.cst (.int 0))))), (.ret (.and (.cmp .eq (.bi .len (.var 0)) (.bin .add (.cst (.int 1)) (.bi .len (.var 1)))) (.bi .all (.comp false [2, 3] (.call "is_form_part" [(.var 2), (.var 3)]) (.tup [(.var 2), (.var 3)]) (.zip2 (.var 1) (.slc (.var 0) (some (.cst (.int 1))) none)) none))))] }
/-- raw_parts: node, found, sign, one -/
def f_raw_parts : Df := { np := 1, ns := 4, cl := true, body := [(.asg (.var 1) (.lst true [])), (.forS (.tup [(.var 2), (.var 3)]) (.zip2 (.kix "FORMS" kd_FORMS (.ix (.var 0) (.cst (.int 0)))) (.slc (.var 0) (some (.cst (.int 1))) none)) [(.ifS (.cmp .eq (.var 2) (.cst (.str "e"))) [(.expr (.meth (.var 1) "append" [(.var 3)]))] [(.ifS (.cmp .eq (.var 2) (.cst (.str "E"))) [(.expr (.meth (.var 1) "extend" [(.bi .list (.var 3))]))] [])])]), (.ret (.var 1))] }
/-- has_size: node, many, waiting, here, deep, part -/
def f_has_size : Df := { np := 1, ns := 6, cl := true, body := [(.par 1 2 (.cst (.int 0)) (.lst true [(.tup [(.var 0), (.cst (.int 1))])])), (.whileS (.cmp .gt (.bi .len (.var 2)) (.cst (.int 0))) [(.asg (.tup [(.var 3), (.var 4)]) (.meth (.var 2) "pop" [])), (.aug 1 .add (.cst (.int 1))), (.ifS (.or (.cmp .gt (.var 1) (.gc (.int 60))) (.or (.cmp .gt (.var 4) (.gc (.int 16))) (.not (.call "has_form" [(.var 3)])))) [(.ret (.cst (.bool false)))] []), (.expr (.meth (.var 2) "extend" [(.comp false [5] (.tup [(.var 5), (.bin .add (.var 4) (.cst (.int 1)))]) (.var 5) (.of (.call "raw_parts" [(.var 3)])) none)]))]), (.ret (.cst (.bool true)))] }
/-- node_rows: node, found, waiting, here -/
def f_node_rows : Df := { np := 1, ns := 4, cl := true, body := [(.par 1 2 (.lst true []) (.lst true [(.var 0)])), (.whileS (.cmp .gt (.bi .len (.var 2)) (.cst (.int 0))) [(.asg (.var 3) (.meth (.var 2) "pop" [])), (.expr (.meth (.var 1) "append" [(.var 3)])), (.expr (.meth (.var 2) "extend" [(.rev (.call "raw_parts" [(.var 3)]))]))]), (.ret (.var 1))] }
/-- has_rule_form: thing -/
def f_has_rule_form : Df := { np := 1, ns := 1, cl := true, body := [(.ifS (.or (.not (.isi .tuple (.var 0))) (.or (.cmp .ne (.bi .len (.var 0)) (.cst (.int 3))) (.not (.call "is_name" [(.ix (.var 0) (.cst (.int 0)))])))) [(.ret (.cst (.bool false)))] []), (.ret (.and (.call "is_within" [(.ix (.var 0) (.cst (.int 1))), (.cst (.int 1)), (.gc (.int 3))]) (.call "has_size" [(.ix (.var 0) (.cst (.int 2)))])))] }
/-- is_right: node, many, names, known, word, part -/
def f_is_right : Df := { np := 4, ns := 6, cl := true, body := [(.asg (.var 4) (.ix (.var 0) (.cst (.int 0)))), (.ifS (.cmp .eq (.var 4) (.gc (.str "in"))) [(.ret (.cmp .lt (.ix (.var 0) (.cst (.int 1))) (.var 1)))] []), (.ifS (.cmp .eq (.var 4) (.gc (.str "var"))) [(.ret (.cmp .inn (.ix (.var 0) (.cst (.int 1))) (.var 2)))] []), (.ifS (.cmp .eq (.var 4) (.gc (.str "let"))) [(.ifS (.or (.cmp .inn (.ix (.var 0) (.cst (.int 1))) (.var 2)) (.not (.call "is_right" [(.ix (.var 0) (.cst (.int 2))), (.var 1), (.var 2), (.var 3)]))) [(.ret (.cst (.bool false)))] []), (.ret (.call "is_right" [(.ix (.var 0) (.cst (.int 3))), (.var 1), (.bin .add (.var 2) (.lst false [(.ix (.var 0) (.cst (.int 1)))])), (.var 3)]))] []), (.ifS (.and (.cmp .eq (.var 4) (.gc (.str "call"))) (.cmp .ne (.get (.var 3) (.ix (.var 0) (.cst (.int 1)))) (.bi .len (.ix (.var 0) (.cst (.int 2)))))) [(.ret (.cst (.bool false)))] []), (.ret (.bi .all (.comp false [5] (.call "is_right" [(.var 5), (.var 1), (.var 2), (.var 3)]) (.var 5) (.of (.call "raw_parts" [(.var 0)])) none)))] }
/-- is_book: thing, rule, known, done, rows, node -/
def f_is_book : Df := { np := 1, ns := 6, cl := true, body := [(.ifS (.or (.not (.isi .tuple (.var 0))) (.not (.cmp2 .le .le (.cst (.int 1)) (.bi .len (.var 0)) (.gc (.int 12))))) [(.ret (.cst (.bool false)))] []), (.asg (.tup [(.var 2), (.var 3)]) (.tup [.dnew, .dnew])), (.forS (.var 1) (.of (.var 0)) [(.ifS (.or (.not (.call "has_rule_form" [(.var 1)])) (.or (.cmp .inn (.ix (.var 1) (.cst (.int 0))) (.var 2)) (.not (.call "is_right" [(.ix (.var 1) (.cst (.int 2))), (.ix (.var 1) (.cst (.int 1))), (.lst false []), (.var 2)])))) [(.ret (.cst (.bool false)))] []), (.asg (.var 4) (.call "node_rows" [(.ix (.var 1) (.cst (.int 2)))])), (.setI (.var 3) (.ix (.var 1) (.cst (.int 0))) (.bin .add (.bi .len (.var 4)) (.bi .sum (.comp false [5] (.ix (.var 3) (.ix (.var 5) (.cst (.int 1)))) (.var 5) (.of (.var 4)) (some (.cmp .eq (.ix (.var 5) (.cst (.int 0))) (.gc (.str "call")))))))), (.ifS (.cmp .gt (.ix (.var 3) (.ix (.var 1) (.cst (.int 0)))) (.gc (.int 20000))) [(.ret (.cst (.bool false)))] []), (.setI (.var 2) (.ix (.var 1) (.cst (.int 0))) (.ix (.var 1) (.cst (.int 1))))]), (.ret (.cst (.bool true)))] }
/-- check_book: book -/
def f_check_book : Df := { np := 1, ns := 1, cl := true, body := [(.ifS (.not (.call "is_book" [(.var 0)])) [(.raiseS "NoBook" [])] [])] }
/-- check_rule: book, r -/
def f_check_rule : Df := { np := 2, ns := 2, cl := true, body := [(.expr (.call "check_book" [(.var 0)])), (.expr (.call "check_number" [(.var 0), (.var 1)]))] }
/-- check_number: book, r -/
def f_check_number : Df := { np := 2, ns := 2, cl := true, body := [(.ifS (.not (.call "is_within" [(.var 1), (.cst (.int 0)), (.bin .sub (.bi .len (.var 0)) (.cst (.int 1)))])) [(.raiseS "NoPlace" [])] [])] }
/-- rule_numbers: book, number, rule -/
def f_rule_numbers : Df := { np := 1, ns := 3, cl := false, body := [(.ret (.bi .dict (.comp false [1, 2] (.tup [(.ix (.var 2) (.cst (.int 0))), (.var 1)]) (.tup [(.var 1), (.var 2)]) (.enum (.var 0)) none)))] }
/-- rule_number: book, name -/
def f_rule_number : Df := { np := 2, ns := 2, cl := true, body := [(.expr (.call "check_book" [(.var 0)])), (.ret (.ite (.call "is_name" [(.var 1)]) (.get (.call "rule_numbers" [(.var 0)]) (.var 1)) (.cst .none)))] }
/-- nodes_many: book, rule -/
def f_nodes_many : Df := { np := 1, ns := 2, cl := true, body := [(.expr (.call "check_book" [(.var 0)])), (.ret (.bi .tuple (.comp false [1] (.bi .len (.call "node_rows" [(.ix (.var 1) (.cst (.int 2)))])) (.var 1) (.of (.var 0)) none)))] }
/-- node_at: book, r, n, rows -/
def f_node_at : Df := { np := 3, ns := 4, cl := true, body := [(.expr (.call "check_rule" [(.var 0), (.var 1)])), (.asg (.var 3) (.call "node_rows" [(.ix (.ix (.var 0) (.var 1)) (.cst (.int 2)))])), (.ifS (.not (.call "is_within" [(.var 2), (.cst (.int 0)), (.bin .sub (.bi .len (.var 3)) (.cst (.int 1)))])) [(.raiseS "NoPlace" [])] []), (.ret (.ix (.var 3) (.var 2)))] }
/-- called_by: book, r, numbers, node -/
def f_called_by : Df := { np := 2, ns := 4, cl := true, body := [(.expr (.call "check_rule" [(.var 0), (.var 1)])), (.asg (.var 2) (.call "rule_numbers" [(.var 0)])), (.ret (.bi .tuple (.bi .sorted .opq)))] }
def PT_books : List (Str × Df) := [(("is_name" : Str), f_is_name), (("is_short" : Str), f_is_short), (("is_form_part" : Str), f_is_form_part), (("has_form" : Str), f_has_form), (("raw_parts" : Str), f_raw_parts), (("has_size" : Str), f_has_size), (("node_rows" : Str), f_node_rows), (("has_rule_form" : Str), f_has_rule_form), (("is_right" : Str), f_is_right), (("is_book" : Str), f_is_book), (("check_book" : Str), f_check_book), (("check_rule" : Str), f_check_rule), (("check_number" : Str), f_check_number), (("rule_numbers" : Str), f_rule_numbers), (("rule_number" : Str), f_rule_number), (("nodes_many" : Str), f_nodes_many), (("node_at" : Str), f_node_at), (("called_by" : Str), f_called_by)]
structure T_books (T : Tab) : Prop where
  f_is_name : T "is_name" = some NC.f_is_name
  f_is_short : T "is_short" = some NC.f_is_short
  f_is_form_part : T "is_form_part" = some NC.f_is_form_part
  f_has_form : T "has_form" = some NC.f_has_form
  f_raw_parts : T "raw_parts" = some NC.f_raw_parts
  f_has_size : T "has_size" = some NC.f_has_size
  f_node_rows : T "node_rows" = some NC.f_node_rows
  f_has_rule_form : T "has_rule_form" = some NC.f_has_rule_form
  f_is_right : T "is_right" = some NC.f_is_right
  f_is_book : T "is_book" = some NC.f_is_book
  f_check_book : T "check_book" = some NC.f_check_book
  f_check_rule : T "check_rule" = some NC.f_check_rule
  f_check_number : T "check_number" = some NC.f_check_number
  f_rule_numbers : T "rule_numbers" = some NC.f_rule_numbers
  f_rule_number : T "rule_number" = some NC.f_rule_number
  f_nodes_many : T "nodes_many" = some NC.f_nodes_many
  f_node_at : T "node_at" = some NC.f_node_at
  f_called_by : T "called_by" = some NC.f_called_by
end NC
/-! Words of nodes (printed by words.py). -/
namespace NC
open PySem
@[simp] theorem str_beq_self (a : Str) : (a == a) = true := by simp
@[simp] theorem w0 : ((("num" : Str)) == ("in" : Str)) = false := by decide +kernel
@[simp] theorem w1 : ((("num" : Str)) == ("var" : Str)) = false := by decide +kernel
@[simp] theorem w2 : ((("num" : Str)) == ("plus" : Str)) = false := by decide +kernel
@[simp] theorem w3 : ((("num" : Str)) == ("less" : Str)) = false := by decide +kernel
@[simp] theorem w4 : ((("num" : Str)) == ("times" : Str)) = false := by decide +kernel
@[simp] theorem w5 : ((("num" : Str)) == ("least" : Str)) = false := by decide +kernel
@[simp] theorem w6 : ((("num" : Str)) == ("most" : Str)) = false := by decide +kernel
@[simp] theorem w7 : ((("num" : Str)) == ("let" : Str)) = false := by decide +kernel
@[simp] theorem w8 : ((("num" : Str)) == ("below" : Str)) = false := by decide +kernel
@[simp] theorem w9 : ((("num" : Str)) == ("upto" : Str)) = false := by decide +kernel
@[simp] theorem w10 : ((("num" : Str)) == ("call" : Str)) = false := by decide +kernel
@[simp] theorem w11 : ((("in" : Str)) == ("num" : Str)) = false := by decide +kernel
@[simp] theorem w12 : ((("in" : Str)) == ("var" : Str)) = false := by decide +kernel
@[simp] theorem w13 : ((("in" : Str)) == ("plus" : Str)) = false := by decide +kernel
@[simp] theorem w14 : ((("in" : Str)) == ("less" : Str)) = false := by decide +kernel
@[simp] theorem w15 : ((("in" : Str)) == ("times" : Str)) = false := by decide +kernel
@[simp] theorem w16 : ((("in" : Str)) == ("least" : Str)) = false := by decide +kernel
@[simp] theorem w17 : ((("in" : Str)) == ("most" : Str)) = false := by decide +kernel
@[simp] theorem w18 : ((("in" : Str)) == ("let" : Str)) = false := by decide +kernel
@[simp] theorem w19 : ((("in" : Str)) == ("below" : Str)) = false := by decide +kernel
@[simp] theorem w20 : ((("in" : Str)) == ("upto" : Str)) = false := by decide +kernel
@[simp] theorem w21 : ((("in" : Str)) == ("call" : Str)) = false := by decide +kernel
@[simp] theorem w22 : ((("var" : Str)) == ("num" : Str)) = false := by decide +kernel
@[simp] theorem w23 : ((("var" : Str)) == ("in" : Str)) = false := by decide +kernel
@[simp] theorem w24 : ((("var" : Str)) == ("plus" : Str)) = false := by decide +kernel
@[simp] theorem w25 : ((("var" : Str)) == ("less" : Str)) = false := by decide +kernel
@[simp] theorem w26 : ((("var" : Str)) == ("times" : Str)) = false := by decide +kernel
@[simp] theorem w27 : ((("var" : Str)) == ("least" : Str)) = false := by decide +kernel
@[simp] theorem w28 : ((("var" : Str)) == ("most" : Str)) = false := by decide +kernel
@[simp] theorem w29 : ((("var" : Str)) == ("let" : Str)) = false := by decide +kernel
@[simp] theorem w30 : ((("var" : Str)) == ("below" : Str)) = false := by decide +kernel
@[simp] theorem w31 : ((("var" : Str)) == ("upto" : Str)) = false := by decide +kernel
@[simp] theorem w32 : ((("var" : Str)) == ("call" : Str)) = false := by decide +kernel
@[simp] theorem w33 : ((("plus" : Str)) == ("num" : Str)) = false := by decide +kernel
@[simp] theorem w34 : ((("plus" : Str)) == ("in" : Str)) = false := by decide +kernel
@[simp] theorem w35 : ((("plus" : Str)) == ("var" : Str)) = false := by decide +kernel
@[simp] theorem w36 : ((("plus" : Str)) == ("less" : Str)) = false := by decide +kernel
@[simp] theorem w37 : ((("plus" : Str)) == ("times" : Str)) = false := by decide +kernel
@[simp] theorem w38 : ((("plus" : Str)) == ("least" : Str)) = false := by decide +kernel
@[simp] theorem w39 : ((("plus" : Str)) == ("most" : Str)) = false := by decide +kernel
@[simp] theorem w40 : ((("plus" : Str)) == ("let" : Str)) = false := by decide +kernel
@[simp] theorem w41 : ((("plus" : Str)) == ("below" : Str)) = false := by decide +kernel
@[simp] theorem w42 : ((("plus" : Str)) == ("upto" : Str)) = false := by decide +kernel
@[simp] theorem w43 : ((("plus" : Str)) == ("call" : Str)) = false := by decide +kernel
@[simp] theorem w44 : ((("less" : Str)) == ("num" : Str)) = false := by decide +kernel
@[simp] theorem w45 : ((("less" : Str)) == ("in" : Str)) = false := by decide +kernel
@[simp] theorem w46 : ((("less" : Str)) == ("var" : Str)) = false := by decide +kernel
@[simp] theorem w47 : ((("less" : Str)) == ("plus" : Str)) = false := by decide +kernel
@[simp] theorem w48 : ((("less" : Str)) == ("times" : Str)) = false := by decide +kernel
@[simp] theorem w49 : ((("less" : Str)) == ("least" : Str)) = false := by decide +kernel
@[simp] theorem w50 : ((("less" : Str)) == ("most" : Str)) = false := by decide +kernel
@[simp] theorem w51 : ((("less" : Str)) == ("let" : Str)) = false := by decide +kernel
@[simp] theorem w52 : ((("less" : Str)) == ("below" : Str)) = false := by decide +kernel
@[simp] theorem w53 : ((("less" : Str)) == ("upto" : Str)) = false := by decide +kernel
@[simp] theorem w54 : ((("less" : Str)) == ("call" : Str)) = false := by decide +kernel
@[simp] theorem w55 : ((("times" : Str)) == ("num" : Str)) = false := by decide +kernel
@[simp] theorem w56 : ((("times" : Str)) == ("in" : Str)) = false := by decide +kernel
@[simp] theorem w57 : ((("times" : Str)) == ("var" : Str)) = false := by decide +kernel
@[simp] theorem w58 : ((("times" : Str)) == ("plus" : Str)) = false := by decide +kernel
@[simp] theorem w59 : ((("times" : Str)) == ("less" : Str)) = false := by decide +kernel
@[simp] theorem w60 : ((("times" : Str)) == ("least" : Str)) = false := by decide +kernel
@[simp] theorem w61 : ((("times" : Str)) == ("most" : Str)) = false := by decide +kernel
@[simp] theorem w62 : ((("times" : Str)) == ("let" : Str)) = false := by decide +kernel
@[simp] theorem w63 : ((("times" : Str)) == ("below" : Str)) = false := by decide +kernel
@[simp] theorem w64 : ((("times" : Str)) == ("upto" : Str)) = false := by decide +kernel
@[simp] theorem w65 : ((("times" : Str)) == ("call" : Str)) = false := by decide +kernel
@[simp] theorem w66 : ((("least" : Str)) == ("num" : Str)) = false := by decide +kernel
@[simp] theorem w67 : ((("least" : Str)) == ("in" : Str)) = false := by decide +kernel
@[simp] theorem w68 : ((("least" : Str)) == ("var" : Str)) = false := by decide +kernel
@[simp] theorem w69 : ((("least" : Str)) == ("plus" : Str)) = false := by decide +kernel
@[simp] theorem w70 : ((("least" : Str)) == ("less" : Str)) = false := by decide +kernel
@[simp] theorem w71 : ((("least" : Str)) == ("times" : Str)) = false := by decide +kernel
@[simp] theorem w72 : ((("least" : Str)) == ("most" : Str)) = false := by decide +kernel
@[simp] theorem w73 : ((("least" : Str)) == ("let" : Str)) = false := by decide +kernel
@[simp] theorem w74 : ((("least" : Str)) == ("below" : Str)) = false := by decide +kernel
@[simp] theorem w75 : ((("least" : Str)) == ("upto" : Str)) = false := by decide +kernel
@[simp] theorem w76 : ((("least" : Str)) == ("call" : Str)) = false := by decide +kernel
@[simp] theorem w77 : ((("most" : Str)) == ("num" : Str)) = false := by decide +kernel
@[simp] theorem w78 : ((("most" : Str)) == ("in" : Str)) = false := by decide +kernel
@[simp] theorem w79 : ((("most" : Str)) == ("var" : Str)) = false := by decide +kernel
@[simp] theorem w80 : ((("most" : Str)) == ("plus" : Str)) = false := by decide +kernel
@[simp] theorem w81 : ((("most" : Str)) == ("less" : Str)) = false := by decide +kernel
@[simp] theorem w82 : ((("most" : Str)) == ("times" : Str)) = false := by decide +kernel
@[simp] theorem w83 : ((("most" : Str)) == ("least" : Str)) = false := by decide +kernel
@[simp] theorem w84 : ((("most" : Str)) == ("let" : Str)) = false := by decide +kernel
@[simp] theorem w85 : ((("most" : Str)) == ("below" : Str)) = false := by decide +kernel
@[simp] theorem w86 : ((("most" : Str)) == ("upto" : Str)) = false := by decide +kernel
@[simp] theorem w87 : ((("most" : Str)) == ("call" : Str)) = false := by decide +kernel
@[simp] theorem w88 : ((("let" : Str)) == ("num" : Str)) = false := by decide +kernel
@[simp] theorem w89 : ((("let" : Str)) == ("in" : Str)) = false := by decide +kernel
@[simp] theorem w90 : ((("let" : Str)) == ("var" : Str)) = false := by decide +kernel
@[simp] theorem w91 : ((("let" : Str)) == ("plus" : Str)) = false := by decide +kernel
@[simp] theorem w92 : ((("let" : Str)) == ("less" : Str)) = false := by decide +kernel
@[simp] theorem w93 : ((("let" : Str)) == ("times" : Str)) = false := by decide +kernel
@[simp] theorem w94 : ((("let" : Str)) == ("least" : Str)) = false := by decide +kernel
@[simp] theorem w95 : ((("let" : Str)) == ("most" : Str)) = false := by decide +kernel
@[simp] theorem w96 : ((("let" : Str)) == ("below" : Str)) = false := by decide +kernel
@[simp] theorem w97 : ((("let" : Str)) == ("upto" : Str)) = false := by decide +kernel
@[simp] theorem w98 : ((("let" : Str)) == ("call" : Str)) = false := by decide +kernel
@[simp] theorem w99 : ((("below" : Str)) == ("num" : Str)) = false := by decide +kernel
@[simp] theorem w100 : ((("below" : Str)) == ("in" : Str)) = false := by decide +kernel
@[simp] theorem w101 : ((("below" : Str)) == ("var" : Str)) = false := by decide +kernel
@[simp] theorem w102 : ((("below" : Str)) == ("plus" : Str)) = false := by decide +kernel
@[simp] theorem w103 : ((("below" : Str)) == ("less" : Str)) = false := by decide +kernel
@[simp] theorem w104 : ((("below" : Str)) == ("times" : Str)) = false := by decide +kernel
@[simp] theorem w105 : ((("below" : Str)) == ("least" : Str)) = false := by decide +kernel
@[simp] theorem w106 : ((("below" : Str)) == ("most" : Str)) = false := by decide +kernel
@[simp] theorem w107 : ((("below" : Str)) == ("let" : Str)) = false := by decide +kernel
@[simp] theorem w108 : ((("below" : Str)) == ("upto" : Str)) = false := by decide +kernel
@[simp] theorem w109 : ((("below" : Str)) == ("call" : Str)) = false := by decide +kernel
@[simp] theorem w110 : ((("upto" : Str)) == ("num" : Str)) = false := by decide +kernel
@[simp] theorem w111 : ((("upto" : Str)) == ("in" : Str)) = false := by decide +kernel
@[simp] theorem w112 : ((("upto" : Str)) == ("var" : Str)) = false := by decide +kernel
@[simp] theorem w113 : ((("upto" : Str)) == ("plus" : Str)) = false := by decide +kernel
@[simp] theorem w114 : ((("upto" : Str)) == ("less" : Str)) = false := by decide +kernel
@[simp] theorem w115 : ((("upto" : Str)) == ("times" : Str)) = false := by decide +kernel
@[simp] theorem w116 : ((("upto" : Str)) == ("least" : Str)) = false := by decide +kernel
@[simp] theorem w117 : ((("upto" : Str)) == ("most" : Str)) = false := by decide +kernel
@[simp] theorem w118 : ((("upto" : Str)) == ("let" : Str)) = false := by decide +kernel
@[simp] theorem w119 : ((("upto" : Str)) == ("below" : Str)) = false := by decide +kernel
@[simp] theorem w120 : ((("upto" : Str)) == ("call" : Str)) = false := by decide +kernel
@[simp] theorem w121 : ((("call" : Str)) == ("num" : Str)) = false := by decide +kernel
@[simp] theorem w122 : ((("call" : Str)) == ("in" : Str)) = false := by decide +kernel
@[simp] theorem w123 : ((("call" : Str)) == ("var" : Str)) = false := by decide +kernel
@[simp] theorem w124 : ((("call" : Str)) == ("plus" : Str)) = false := by decide +kernel
@[simp] theorem w125 : ((("call" : Str)) == ("less" : Str)) = false := by decide +kernel
@[simp] theorem w126 : ((("call" : Str)) == ("times" : Str)) = false := by decide +kernel
@[simp] theorem w127 : ((("call" : Str)) == ("least" : Str)) = false := by decide +kernel
@[simp] theorem w128 : ((("call" : Str)) == ("most" : Str)) = false := by decide +kernel
@[simp] theorem w129 : ((("call" : Str)) == ("let" : Str)) = false := by decide +kernel
@[simp] theorem w130 : ((("call" : Str)) == ("below" : Str)) = false := by decide +kernel
@[simp] theorem w131 : ((("call" : Str)) == ("upto" : Str)) = false := by decide +kernel
@[simp] theorem w132 : ((("f" : Str)) == ("i" : Str)) = false := by decide +kernel
@[simp] theorem w133 : ((("f" : Str)) == ("x" : Str)) = false := by decide +kernel
@[simp] theorem w134 : ((("f" : Str)) == ("e" : Str)) = false := by decide +kernel
@[simp] theorem w135 : ((("f" : Str)) == ("E" : Str)) = false := by decide +kernel
@[simp] theorem w136 : ((("i" : Str)) == ("f" : Str)) = false := by decide +kernel
@[simp] theorem w137 : ((("i" : Str)) == ("x" : Str)) = false := by decide +kernel
@[simp] theorem w138 : ((("i" : Str)) == ("e" : Str)) = false := by decide +kernel
@[simp] theorem w139 : ((("i" : Str)) == ("E" : Str)) = false := by decide +kernel
@[simp] theorem w140 : ((("x" : Str)) == ("f" : Str)) = false := by decide +kernel
@[simp] theorem w141 : ((("x" : Str)) == ("i" : Str)) = false := by decide +kernel
@[simp] theorem w142 : ((("x" : Str)) == ("e" : Str)) = false := by decide +kernel
@[simp] theorem w143 : ((("x" : Str)) == ("E" : Str)) = false := by decide +kernel
@[simp] theorem w144 : ((("e" : Str)) == ("f" : Str)) = false := by decide +kernel
@[simp] theorem w145 : ((("e" : Str)) == ("i" : Str)) = false := by decide +kernel
@[simp] theorem w146 : ((("e" : Str)) == ("x" : Str)) = false := by decide +kernel
@[simp] theorem w147 : ((("e" : Str)) == ("E" : Str)) = false := by decide +kernel
@[simp] theorem w148 : ((("E" : Str)) == ("f" : Str)) = false := by decide +kernel
@[simp] theorem w149 : ((("E" : Str)) == ("i" : Str)) = false := by decide +kernel
@[simp] theorem w150 : ((("E" : Str)) == ("x" : Str)) = false := by decide +kernel
@[simp] theorem w151 : ((("E" : Str)) == ("e" : Str)) = false := by decide +kernel
@[simp] theorem fm_num : getS kd_FORMS "num" = some "f" := by decide +kernel
@[simp] theorem fm_in : getS kd_FORMS "in" = some "i" := by decide +kernel
@[simp] theorem fm_var : getS kd_FORMS "var" = some "x" := by decide +kernel
@[simp] theorem fm_plus : getS kd_FORMS "plus" = some "ee" := by decide +kernel
@[simp] theorem fm_less : getS kd_FORMS "less" = some "ee" := by decide +kernel
@[simp] theorem fm_times : getS kd_FORMS "times" = some "fe" := by decide +kernel
@[simp] theorem fm_least : getS kd_FORMS "least" = some "ee" := by decide +kernel
@[simp] theorem fm_most : getS kd_FORMS "most" = some "ee" := by decide +kernel
@[simp] theorem fm_let : getS kd_FORMS "let" = some "xee" := by decide +kernel
@[simp] theorem fm_below : getS kd_FORMS "below" = some "efee" := by decide +kernel
@[simp] theorem fm_upto : getS kd_FORMS "upto" = some "efee" := by decide +kernel
@[simp] theorem fm_call : getS kd_FORMS "call" = some "xE" := by decide +kernel
@[simp] theorem sg_ee : signD "ee" = [.str "e", .str "e"] := by rfl
@[simp] theorem ln_ee : (("ee" : Str)).length = 2 := by rfl
@[simp] theorem sg_efee : signD "efee" = [.str "e", .str "f", .str "e", .str "e"] := by rfl
@[simp] theorem ln_efee : (("efee" : Str)).length = 4 := by rfl
@[simp] theorem sg_f : signD "f" = [.str "f"] := by rfl
@[simp] theorem ln_f : (("f" : Str)).length = 1 := by rfl
@[simp] theorem sg_fe : signD "fe" = [.str "f", .str "e"] := by rfl
@[simp] theorem ln_fe : (("fe" : Str)).length = 2 := by rfl
@[simp] theorem sg_i : signD "i" = [.str "i"] := by rfl
@[simp] theorem ln_i : (("i" : Str)).length = 1 := by rfl
@[simp] theorem sg_x : signD "x" = [.str "x"] := by rfl
@[simp] theorem ln_x : (("x" : Str)).length = 1 := by rfl
@[simp] theorem sg_xE : signD "xE" = [.str "x", .str "E"] := by rfl
@[simp] theorem ln_xE : (("xE" : Str)).length = 2 := by rfl
@[simp] theorem sg_xee : signD "xee" = [.str "x", .str "e", .str "e"] := by rfl
@[simp] theorem ln_xee : (("xee" : Str)).length = 3 := by rfl
end NC
set_option maxHeartbeats 4000000

/-! Nodes. -/
namespace NC
open PySem
inductive W2 where | plus | less | least | most
  deriving DecidableEq
def W2.s : W2 → Str
  | .plus => "plus" | .less => "less" | .least => "least" | .most => "most"
/-- nodes -/
inductive Nd where
  | num (q : Rat)
  | inp (i : Nat)
  | var (x : Str)
  | two (w : W2) (a b : Nd)
  | times (q : Rat) (a : Nd)
  | lett (x : Str) (a b : Nd)
  | thr (u : Bool) (a : Nd) (q : Rat) (b c : Nd)
  | c1 (x : Str) (a : Nd)
  | c2 (x : Str) (a b : Nd)
  | c3 (x : Str) (a b c : Nd)
def Nd.enc : Nd → PyData
  | .num q => .tuple [.str "num", dq q]
  | .inp i => .tuple [.str "in", .int (i : Nat)]
  | .var x => .tuple [.str "var", .str x]
  | .two w a b => .tuple [.str w.s, a.enc, b.enc]
  | .times q a => .tuple [.str "times", dq q, a.enc]
  | .lett x a b => .tuple [.str "let", .str x, a.enc, b.enc]
  | .thr u a q b c => .tuple [.str (if u then "upto" else "below"), a.enc, dq q, b.enc, c.enc]
  | .c1 x a => .tuple [.str "call", .str x, .tuple [a.enc]]
  | .c2 x a b => .tuple [.str "call", .str x, .tuple [a.enc, b.enc]]
  | .c3 x a b c => .tuple [.str "call", .str x, .tuple [a.enc, b.enc, c.enc]]
/-- the nodes right within -/
def Nd.parts : Nd → List Nd
  | .num _ | .inp _ | .var _ => []
  | .two _ a b => [a, b]
  | .times _ a => [a]
  | .lett _ a b => [a, b]
  | .thr _ a _ b c => [a, b, c]
  | .c1 _ a => [a]
  | .c2 _ a b => [a, b]
  | .c3 _ a b c => [a, b, c]
def Nd.size : Nd → Nat
  | .num _ | .inp _ | .var _ => 1
  | .two _ a b => 1 + a.size + b.size
  | .times _ a => 1 + a.size
  | .lett _ a b => 1 + a.size + b.size
  | .thr _ a _ b c => 1 + a.size + b.size + c.size
  | .c1 _ a => 1 + a.size
  | .c2 _ a b => 1 + a.size + b.size
  | .c3 _ a b c => 1 + a.size + b.size + c.size
def Nd.deep : Nd → Nat
  | .num _ | .inp _ | .var _ => 1
  | .two _ a b => 1 + max a.deep b.deep
  | .times _ a => 1 + a.deep
  | .lett _ a b => 1 + max a.deep b.deep
  | .thr _ a _ b c => 1 + max a.deep (max b.deep c.deep)
  | .c1 _ a => 1 + a.deep
  | .c2 _ a b => 1 + max a.deep b.deep
  | .c3 _ a b c => 1 + max a.deep (max b.deep c.deep)
/-- each ahead of those within -/
def Nd.rows : Nd → List Nd
  | .num q => [.num q]
  | .inp i => [.inp i]
  | .var x => [.var x]
  | .two w a b => .two w a b :: (a.rows ++ b.rows)
  | .times q a => .times q a :: a.rows
  | .lett x a b => .lett x a b :: (a.rows ++ b.rows)
  | .thr u a q b c => .thr u a q b c :: (a.rows ++ (b.rows ++ c.rows))
  | .c1 x a => .c1 x a :: a.rows
  | .c2 x a b => .c2 x a b :: (a.rows ++ b.rows)
  | .c3 x a b c => .c3 x a b c :: (a.rows ++ (b.rows ++ c.rows))
theorem size_parts (n : Nd) : n.size = 1 + (n.parts.map Nd.size).sum := by cases n <;> simp [Nd.size, Nd.parts] <;> omega
theorem rows_parts (n : Nd) : n.rows = n :: n.parts.flatMap Nd.rows := by cases n <;> simp [Nd.rows, Nd.parts]
theorem len_rows : ∀ n : Nd, n.rows.length = n.size
  | .num _ | .inp _ | .var _ => rfl
  | .two _ a b | .lett _ a b | .c2 _ a b => by simp [Nd.rows, Nd.size, len_rows a, len_rows b]; omega
  | .times _ a | .c1 _ a => by simp [Nd.rows, Nd.size, len_rows a]; omega
  | .thr _ a _ b c | .c3 _ a b c => by simp [Nd.rows, Nd.size, len_rows a, len_rows b, len_rows c]; omega
theorem size_pos (n : Nd) : 1 ≤ n.size := by rw [size_parts]; omega
theorem deep_parts {n p : Nd} (h : p ∈ n.parts) : p.deep + 1 ≤ n.deep := by
  cases n <;> simp [Nd.parts] at h <;> simp only [Nd.deep] <;> first | (rcases h with rfl | rfl | rfl <;> omega) | (rcases h with rfl | rfl <;> omega) | (subst h; omega)

/-! ### texts -/
def abc : Str := "abcdefghijklmnopqrstuvwxyz"
def isIn (x y : Str) : Bool := !(Builtin.Str.occurrences y x 0 y.length 1).isEmpty
def nmB (x : Str) : Bool := decide (1 ≤ x.length) && decide (x.length ≤ 8) && (x.cps.toList.all fun c => isIn ⟨#[c]⟩ abc)
def shB (q : Rat) : Bool := decide (q.num.natAbs < 10000000000) && decide (q.den < 10000000000)
/-- the form of a node, nodes within apart -/
def Nd.fmB : Nd → Bool
  | .num q => shB q
  | .inp i => decide (i ≤ 2)
  | .var x => nmB x
  | .two _ _ _ => true
  | .times q _ => shB q
  | .lett x _ _ => nmB x
  | .thr _ _ q _ _ => shB q
  | .c1 x _ => nmB x
  | .c2 x _ _ => nmB x
  | .c3 x _ _ _ => nmB x
/-- of all nodes within, too -/
def Nd.okB : Nd → Bool
  | .num q => shB q
  | .inp i => decide (i ≤ 2)
  | .var x => nmB x
  | .two _ a b => a.okB && b.okB
  | .times q a => shB q && a.okB
  | .lett x a b => nmB x && a.okB && b.okB
  | .thr _ a q b c => shB q && a.okB && b.okB && c.okB
  | .c1 x a => nmB x && a.okB
  | .c2 x a b => nmB x && a.okB && b.okB
  | .c3 x a b c => nmB x && a.okB && b.okB && c.okB
theorem ok_fm {n : Nd} (h : n.okB = true) : n.fmB = true := by cases n <;> simp_all [Nd.okB, Nd.fmB]
theorem ok_parts {n p : Nd} (h : n.okB = true) (hp : p ∈ n.parts) : p.okB = true := by
  cases n <;> simp [Nd.parts] at hp <;> simp [Nd.okB] at h <;> first | (rcases hp with rfl | rfl | rfl <;> simp [h]) | (rcases hp with rfl | rfl <;> simp [h]) | (subst hp; simp [h])

/-! ### lists made step by step -/
@[simp] theorem ne_m1 : (("extend" : Str) = "append") = False := by simp; decide +kernel
@[simp] theorem ne_m2 : (("pop" : Str) = "append") = False := by simp; decide +kernel
@[simp] theorem ne_m3 : (("pop" : Str) = "extend") = False := by simp; decide +kernel
@[simp] theorem newO_def {o : Ob} {h : Hv} : newO o h = .ok (.ref h.os.length) { h with os := h.os ++ [o] } := rfl
@[simp] theorem get_a0 {os r : List Ob} {a : Ob} : (os ++ a :: r)[os.length]? = some a := by simp
@[simp] theorem get_a1 {os r : List Ob} {a b : Ob} : (os ++ a :: b :: r)[os.length + 1]? = some b := by
  rw [List.getElem?_append_right (by omega)]
  simp
@[simp] theorem set_a0 {os r : List Ob} {a c : Ob} : (os ++ a :: r).set os.length c = os ++ c :: r := by simp
@[simp] theorem set_a1 {os r : List Ob} {a b c : Ob} : (os ++ a :: b :: r).set (os.length + 1) c = os ++ a :: c :: r := by
  rw [List.set_append_right _ _ (by omega)]
  simp
@[simp] theorem take_a {os r : List Ob} : (os ++ r).take os.length = os := by simp
theorem forL_nil {tg : Tg} {body : NC.Env → Hv → Res NC.Flow} {e : NC.Env} {h : Hv} : forL .no tg body [] e h = .ok (.nx e) h := by simp [forL, Gd.ok]
theorem forL_cons {tg : Tg} {body : NC.Env → Hv → Res NC.Flow} {x : PV} {xs : List PV} {e : NC.Env} {h : Hv} : forL .no tg body (x :: xs) e h = (match store tg x e with
    | none => .bad
    | some e1 => (body e1 h).bind fun f h1 => match f with
      | .nx e2 => forL .no tg body xs e2 h1
      | .ct e2 => forL .no tg body xs e2 h1
      | .brk e2 => .ok (.nx e2) h1
      | .ret v => .ok (.ret v) h1) := by
  simp [forL, Gd.ok] <;> rfl
theorem compL_nil {tg : Tg} {cond elt : NC.Env → Hv → Res PV} {e : NC.Env} {acc : List PyData} {h : Hv} : compL .no tg cond elt e [] acc h = .ok (.d (.list acc)) h := by simp [compL, Gd.ok]
theorem compL_cons {tg : Tg} {cond elt : NC.Env → Hv → Res PV} {e : NC.Env} {x : PV} {xs : List PV} {acc : List PyData} {h : Hv} : compL .no tg cond elt e (x :: xs) acc h = (match store tg x e with
    | none => .bad
    | some e1 => tst (cond e1 h) fun b h1 => if b = true then (elt e1 h1).bind fun v h2 => (match v with
        | .d y => if lnOk (acc.length + 1) then compL .no tg cond elt e xs (acc ++ [y]) h2 else .bad
        | _ => .bad) else compL .no tg cond elt e xs acc h1) := by
  simp [compL, Gd.ok] <;> rfl
section
variable {G : Gls} {T : Tab} (F : T_fractions T) (B : T_books T) {k : Nat} {h : Hv}
include B in
theorem s_raw_parts (n : Nd) : call G T (k + 1) "raw_parts" [.d n.enc] h = .ok (.d (.list (n.parts.map Nd.enc))) h := by
  rw [call_run B.f_raw_parts]
  cases n with
  | two w a b => cases w <;> simp [f_raw_parts, Nd.enc, Nd.parts, W2.s, meth, run, back, ex_for, ex_while, walk, walk1, zsrc, slc, cut, HT.sIx, forL_cons, forL_nil, compL_cons, compL_nil, store, storeD, storeH, lnOk, wipe, isLst, setO]
  | thr u a q b c => cases u <;> simp [f_raw_parts, Nd.enc, Nd.parts, meth, run, back, ex_for, ex_while, walk, walk1, zsrc, slc, cut, HT.sIx, forL_cons, forL_nil, compL_cons, compL_nil, store, storeD, storeH, lnOk, wipe, isLst, setO]
  | _ => simp [f_raw_parts, Nd.enc, Nd.parts, meth, run, back, ex_for, ex_while, walk, walk1, zsrc, slc, cut, HT.sIx, forL_cons, forL_nil, compL_cons, compL_nil, store, storeD, storeH, lnOk, wipe, isLst, setO]
end
end NC
set_option maxHeartbeats 4000000

/-! Forms of nodes. -/
namespace NC
open PySem
section
variable {G : Gls} {T : Tab} (F : T_fractions T) (B : T_books T) {k : Nat} {h : Hv}
theorem allB_f {α : Type} (f : α → Bool) (l : List α) : allB (l.map fun c => PyData.bool (f c)) = some (l.map f) := by
  have := allB_map (l.map f)
  rw [List.map_map] at this
  exact this
theorem bi_all {α : Type} (f : α → Bool) (l : List α) : bi .all (.d (.list (l.map fun c => PyData.bool (f c)))) h = .ok (.d (.bool (l.all f))) h := by
  simp only [bi, allB_f]
  simp [List.all_map, Function.comp_def]
theorem len_s {z : Str} (l : z.length ≤ 16777216) : bi .len (.d (.str z)) h = .ok (.d (.int z.length)) h := by simp [bi, lnOk, l]
/-- a comprehension without a test, each of whose items is told as it is -/
theorem evc_map {α : Type} {C : Fns} {own : List Nat} {elt : E} {tg : Tg} {it : NC.It} {e : NC.Env} {h h1 : Hv} {ps : List PV} (xs : List α) (g : α → PV) (f : α → PyData) (hw : walk G C it e h = .ok ⟨ps, .no⟩ h1) (hp : ps = xs.map g)
    (s : ∀ x ∈ xs, ∃ e1, store tg (g x) (wipe e own) = some e1 ∧ ev G C elt e1 h1 = .ok (.d (f x)) h1) (l : xs.length ≤ 16777216) : ev G C (.comp false own elt tg it none) e h = .ok (.d (.list (xs.map f))) h1 := by
  rw [ev_comp, hw, Res.bind_ok]
  exact comp_maps xs (fun x hx => by
    obtain ⟨e1, h1, h2⟩ := s x hx
    exact ⟨e1, h1, rfl, by rw [h2]; rfl⟩) l hp rfl
theorem cps_len (x : Str) : x.cps.toList.length = x.length := by simp [Str.length]
include B in
theorem s_is_name {x : Str} (hx : x.length ≤ 1000) : call G T (k + 1) "is_name" [.d (.str x)] h = .ok (.d (.bool (nmB x))) h := by
  rw [call_run B.f_is_name]
  have c := fun (h : Hv) => evc_map (G := G) (C := call G T k) (own := [1]) (elt := .cmp .inn (.var 1) (.gc (.str "abcdefghijklmnopqrstuvwxyz"))) (tg := .var 1) (it := .of (.var 0)) (e := [some (.d (.str x)), none]) (h := h) (h1 := h) x.cps.toList (fun c => PV.d (.str ⟨#[c]⟩)) (fun c => .bool (isIn ⟨#[c]⟩ abc))
    (by simp [walk1]; rfl) (by simp [signD]) (fun c hc => ⟨[some (.d (.str x)), some (.d (.str ⟨#[c]⟩))], by simp [store, wipe], by simp [cm, isIn]; rfl⟩) (by rw [cps_len]; omega)
  have l0 : x.length ≤ 16777216 := by omega
  by_cases h1 : 1 ≤ x.length
  · by_cases h2 : x.length ≤ 8
    · have h1' : (1 : Int) ≤ (x.length : Int) := by omega
      have h2' : (x.length : Int) ≤ 8 := by omega
      simp [-ev_comp, f_is_name, run, back, isTy, len_s l0, c, bi_all, h1, h2, h1', h2', nmB]
    · have h1' : (1 : Int) ≤ (x.length : Int) := by omega
      have h2' : ¬ (x.length : Int) ≤ 8 := by omega
      simp [-ev_comp, f_is_name, run, back, isTy, len_s l0, h1, h2, h1', h2', nmB]
  · have h1' : ¬ (1 : Int) ≤ (x.length : Int) := by omega
    simp [-ev_comp, f_is_name, run, back, isTy, len_s l0, h1, h1', nmB]
include B F in
theorem s_is_short (q : Rat) : call G T (k + 3) "is_short" [.d (dq q)] h = .ok (.d (.bool (shB q))) h := by
  rw [call_run B.f_is_short]
  have e : ∀ h : Hv, ix (.d (dq q)) (.d (.int 0)) h = .ok (.d (.int q.num)) h := fun h => by unfold dq; rw [ix_t0]
  have e1 : ∀ h : Hv, ix (.d (dq q)) (.d (.int 1)) h = .ok (.d (.int q.den)) h := fun h => by unfold dq; rw [ix_t1]
  have d1 : decide ((q.num.natAbs : Int) < 10000000000) = decide (q.num.natAbs < 10000000000) := by simp; omega
  by_cases h1 : q.num.natAbs < 10000000000
  · have h1' : (q.num.natAbs : Int) < 10000000000 := by omega
    simp [f_is_short, run, back, s_is_fraction F, e, e1, shB, h1, h1']
    omega
  · have h1' : ¬ (q.num.natAbs : Int) < 10000000000 := by omega
    simp [f_is_short, run, back, s_is_fraction F, e, e1, shB, h1, h1']
end
end NC
namespace NC
open PySem PySem.Spec PyProof.Rows L2
/-! defs that laws of one family share (written by a program from their texts) -/
/-- _law_any: hand, some -/
def g_law_any_B : Df := { np := 2, ns := 2, cl := true, body := [(.ret (.ix (.var 1) (.call "_law_draw" [(.var 0), (.bi .len (.var 1))])))] }
/-- _law_bad: call -/
def g_law_bad_B : Df := { np := 1, ns := 1, cl := true, body := [.opq, (.ret (.neg (.cst (.int 3))))] }
/-- _law_book: hand, height, name, found, known, many -/
def g_law_book_B : Df := { np := 2, ns := 6, cl := true, body := [(.par 3 4 (.lst true []) (.lst true [])), (.forS (.var 2) (.of (.slc (.lst false [(.cst (.str "ra")), (.cst (.str "rb")), (.cst (.str "rc"))]) none (some (.bin .add (.cst (.int 1)) (.call "_law_draw" [(.var 0), (.cst (.int 3))]))))) [(.asg (.var 5) (.bin .add (.cst (.int 1)) (.call "_law_draw" [(.var 0), (.cst (.int 2))]))), (.expr (.meth (.var 3) "append" [(.tup [(.var 2), (.var 5), (.call "_law_node" [(.var 0), (.var 5), (.lst false []), (.var 4), (.var 1)])])])), (.expr (.meth (.var 4) "append" [(.tup [(.var 2), (.var 5)])]))]), (.ret (.bi .tuple (.var 3)))] }
/-- _law_box: hand, many, found, lap_on, one, other -/
def g_law_box_B : Df := { np := 2, ns := 6, cl := true, body := [(.asg (.var 2) (.lst true [])), (.forS (.var 3) (.range1 (.var 1)) [(.par 4 5 (.call "_law_fraction" [(.var 0)]) (.call "_law_fraction" [(.var 0)])), (.expr (.meth (.var 2) "append" [(.ite (.call "_law_is_below" [(.var 5), (.var 4)]) (.tup [(.var 5), (.var 4)]) (.tup [(.var 4), (.var 5)]))]))]), (.ret (.bi .tuple (.var 2)))] }
/-- _law_checked: found, check, at, one -/
def g_law_checked_B : Df := { np := 1, ns := 4, cl := true, body := [(.asg (.var 1) (.bi .sum (.comp false [2, 3] (.bin .mul (.var 3) (.bin .add (.var 2) (.cst (.int 1)))) (.tup [(.var 2), (.var 3)]) (.enum (.var 0)) none))), (.ret (.bin .add (.bi .tuple (.var 0)) (.tup [(.bin .mod (.bi .int (.var 1)) (.cst (.int 251)))])))] }
/-- _law_code: book, node, found, word, one, under, go, at -/
def g_law_code_B : Df := { np := 3, ns := 8, cl := true, body := [(.asg (.var 3) (.ix (.var 1) (.cst (.int 0)))), (.ifS (.cmp .inn (.var 3) (.tup [(.cst (.str "num")), (.cst (.str "in")), (.cst (.str "var"))])) [(.expr (.meth (.var 2) "append" [(.tup [(.ix .opq (.var 3)), (.ix (.var 1) (.cst (.int 1)))])]))] [(.ifS (.cmp .eq (.var 3) (.cst (.str "times"))) [(.expr (.call "_law_code" [(.var 0), (.ix (.var 1) (.cst (.int 2))), (.var 2)])), (.expr (.meth (.var 2) "append" [(.tup [(.cst (.str "times")), (.ix (.var 1) (.cst (.int 1)))])]))] [(.ifS (.cmp .eq (.var 3) (.cst (.str "let"))) [(.expr (.call "_law_code" [(.var 0), (.ix (.var 1) (.cst (.int 2))), (.var 2)])), (.expr (.meth (.var 2) "append" [(.tup [(.cst (.str "keep")), (.ix (.var 1) (.cst (.int 1)))])])), (.expr (.call "_law_code" [(.var 0), (.ix (.var 1) (.cst (.int 3))), (.var 2)])), (.expr (.meth (.var 2) "append" [(.tup [(.cst (.str "drop")), (.ix (.var 1) (.cst (.int 1)))])]))] [(.ifS (.cmp .eq (.var 3) (.cst (.str "call"))) [(.forS (.var 4) (.of (.ix (.var 1) (.cst (.int 2)))) [(.expr (.call "_law_code" [(.var 0), (.var 4), (.var 2)]))]), (.expr (.meth (.var 2) "append" [(.tup [(.cst (.str "call")), (.ix (.comp false [7] (.var 7) (.var 7) (.range1 (.bi .len (.var 0))) (some (.cmp .eq (.ix (.ix (.var 0) (.var 7)) (.cst (.int 0))) (.ix (.var 1) (.cst (.int 1)))))) (.cst (.int 0)))])]))] [(.ifS (.cmp .inn (.var 3) (.tup [(.cst (.str "below")), (.cst (.str "upto"))])) [(.expr (.call "_law_code" [(.var 0), (.ix (.var 1) (.cst (.int 1))), (.var 2)])), (.asg (.var 5) (.bi .len (.var 2))), (.expr (.meth (.var 2) "append" [(.cst .none)])), (.expr (.call "_law_code" [(.var 0), (.ix (.var 1) (.cst (.int 3))), (.var 2)])), (.asg (.var 6) (.bi .len (.var 2))), (.expr (.meth (.var 2) "append" [(.cst .none)])), (.setI (.var 2) (.var 5) (.tup [(.ite (.cmp .eq (.var 3) (.cst (.str "below"))) (.cst (.str "under")) (.cst (.str "upto"))), (.ix (.var 1) (.cst (.int 2))), (.bi .len (.var 2))])), (.expr (.call "_law_code" [(.var 0), (.ix (.var 1) (.cst (.int 4))), (.var 2)])), (.setI (.var 2) (.var 6) (.tup [(.cst (.str "go")), (.bi .len (.var 2))]))] [(.expr (.call "_law_code" [(.var 0), (.ix (.var 1) (.cst (.int 1))), (.var 2)])), (.expr (.call "_law_code" [(.var 0), (.ix (.var 1) (.cst (.int 2))), (.var 2)])), (.expr (.meth (.var 2) "append" [(.tup [(.var 3)])]))])])])])])] }
/-- _law_codes: book, found, name, many, e, deeds_own -/
def g_law_codes_B : Df := { np := 1, ns := 6, cl := true, body := [(.asg (.var 1) (.lst true [])), (.forS (.tup [(.var 2), (.var 3), (.var 4)]) (.of (.var 0)) [(.asg (.var 5) (.lst false [])), (.expr (.call "_law_code" [(.var 0), (.var 4), (.var 5)])), (.expr (.meth (.var 1) "append" [(.bi .tuple (.var 5))]))]), (.ret (.var 1))] }
/-- _law_deep: hand, thing, lap_on -/
def g_law_deep_B : Df := { np := 1, ns := 3, cl := true, body := [(.asg (.var 1) (.cst .none)), (.forS (.var 2) (.range1 (.bin .add (.cst (.int 1)) (.call "_law_draw" [(.var 0), (.cst (.int 40))]))) [(.asg (.var 1) (.ite (.cmp .eq (.call "_law_draw" [(.var 0), (.cst (.int 2))]) (.cst (.int 0))) (.tup [(.var 1)]) (.lst false [(.var 1)])))]), (.ret (.var 1))] }
/-- _law_draw: hand, below, number, digit_own, digit -/
def g_law_draw_B : Df := { np := 2, ns := 5, cl := true, body := [(.ifS (.and (.cmp .eq (.ix (.var 0) (.cst (.int 2))) (.cst (.int 0))) (.cmp .lt (.ix (.var 0) (.cst (.int 1))) (.bi .len (.ix (.var 0) (.cst (.int 0)))))) [(.asg (.var 3) (.ix (.ix (.var 0) (.cst (.int 0))) (.ix (.var 0) (.cst (.int 1))))), (.setI (.var 0) (.cst (.int 1)) (.bin .add (.ix (.var 0) (.cst (.int 1))) (.cst (.int 1)))), (.setI (.var 0) (.cst (.int 3)) (.bin .mod (.bi .int (.bin .add (.bin .add (.bin .mul (.ix (.var 0) (.cst (.int 3))) (.cst (.int 69621))) (.bin .mul (.var 3) (.cst (.int 40692)))) (.cst (.int 31)))) (.cst (.int 2147483629)))), (.ifS (.cmp .ge (.var 3) (.bin .pow (.cst (.int 10)) (.cst (.int 18)))) [(.setI (.var 0) (.cst (.int 2)) (.var 3))] [])] []), (.ifS (.cmp .gt (.ix (.var 0) (.cst (.int 2))) (.cst (.int 0))) [(.asg (.var 4) (.bin .mod (.bi .int (.ix (.var 0) (.cst (.int 2)))) (.var 1))), (.setI (.var 0) (.cst (.int 2)) (.bin .fdiv (.ix (.var 0) (.cst (.int 2))) (.var 1))), (.ret (.var 4))] []), (.setI (.var 0) (.cst (.int 4)) (.bin .add (.ix (.var 0) (.cst (.int 4))) (.cst (.int 1)))), (.asg (.var 2) (.bin .mod (.bi .int (.bin .mul (.bi .int (.bin .add (.ix (.var 0) (.cst (.int 3))) (.bin .mul (.cst (.int 7919)) (.ix (.var 0) (.cst (.int 4)))))) (.cst (.int 48271)))) (.cst (.int 2147483647)))), (.asg (.var 2) (.bin .mod (.bi .int (.bin .mul (.var 2) (.bin .add (.bin .fdiv (.var 2) (.cst (.int 1009))) (.cst (.int 69621))))) (.cst (.int 2147483647)))), (.asg (.var 2) (.bin .mod (.bi .int (.bin .mul (.var 2) (.bin .add (.bin .fdiv (.var 2) (.cst (.int 2003))) (.cst (.int 40014))))) (.cst (.int 2147483563)))), (.ret (.bin .mod (.bi .int (.bin .fdiv (.var 2) (.cst (.int 16)))) (.var 1)))] }
/-- _law_e: node, word, some, one -/
def g_law_e_B : Df := { np := 1, ns := 4, cl := true, body := [(.asg (.var 1) (.ix (.var 0) (.cst (.int 0)))), (.ifS (.cmp .eq (.var 1) (.cst (.str "num"))) [(.ret (.call "_law_x" [(.ix (.var 0) (.cst (.int 1)))]))] []), (.ifS (.cmp .inn (.var 1) (.tup [(.cst (.str "in")), (.cst (.str "var"))])) [(.ret (.ite (.cmp .eq (.var 1) (.cst (.str "in"))) (.bin .add (.cst (.str "#")) (.bi .str (.ix (.var 0) (.cst (.int 1))))) (.ix (.var 0) (.cst (.int 1)))))] []), (.ifS (.cmp .eq (.var 1) (.cst (.str "call"))) [(.ret (.bin .add (.bin .add (.cst (.str "call(")) (.join ", " (.bin .add (.lst false [(.ix (.var 0) (.cst (.int 1)))]) (.comp false [3] (.call "_law_e" [(.var 3)]) (.var 3) (.of (.ix (.var 0) (.cst (.int 2)))) none)))) (.cst (.str ")"))))] []), (.asg (.var 2) (.lst true [])), (.forS (.var 3) (.of (.slc (.var 0) (some (.cst (.int 1))) none)) [(.ifS (.isi .str (.var 3)) [(.expr (.meth (.var 2) "append" [(.var 3)]))] [(.expr (.meth (.var 2) "append" [(.ite (.isi .int (.ix (.var 3) (.cst (.int 0)))) (.call "_law_x" [(.var 3)]) (.call "_law_e" [(.var 3)]))]))])]), (.ret (.bin .add (.bin .add (.bin .add (.var 1) (.cst (.str "("))) (.join ", " (.var 2))) (.cst (.str ")"))))] }
/-- _law_end: text, at, end -/
def g_law_end_B : Df := { np := 2, ns := 3, cl := true, body := [(.asg (.var 2) (.bin .add (.var 1) (.cst (.int 1)))), (.whileS (.and (.cmp2 .le .le (.cst (.str "a")) (.ix (.var 0) (.var 1)) (.cst (.str "z"))) (.and (.cmp .lt (.var 2) (.bi .len (.var 0))) (.cmp2 .le .le (.cst (.str "a")) (.ix (.var 0) (.var 2)) (.cst (.str "z"))))) [(.asg (.var 2) (.bin .add (.var 2) (.cst (.int 1))))]), (.whileS (.and (.cmp2 .le .le (.cst (.str "0")) (.ix (.var 0) (.var 1)) (.cst (.str "9"))) (.and (.cmp .lt (.var 2) (.bi .len (.var 0))) (.cmp2 .le .le (.cst (.str "0")) (.ix (.var 0) (.var 2)) (.cst (.str "9"))))) [(.asg (.var 2) (.bin .add (.var 2) (.cst (.int 1))))]), (.ret (.var 2))] }
/-- _law_fraction: hand, top, bottom -/
def g_law_fraction_B : Df := { np := 1, ns := 3, cl := true, body := [(.par 1 2 (.bin .sub (.call "_law_draw" [(.var 0), (.cst (.int 25))]) (.cst (.int 8))) (.call "_law_any" [(.var 0), (.lst false [(.cst (.int 1)), (.cst (.int 1)), (.cst (.int 1)), (.cst (.int 2)), (.cst (.int 3)), (.cst (.int 4))])])), (.ret (.call "_law_made" [(.var 1), (.var 2)]))] }
/-- _law_gap: x, y -/
def g_law_gap_B : Df := { np := 2, ns := 2, cl := true, body := [(.ret (.call "_law_made" [(.bin .sub (.bin .mul (.ix (.var 0) (.cst (.int 0))) (.ix (.var 1) (.cst (.int 1)))) (.bin .mul (.ix (.var 1) (.cst (.int 0))) (.ix (.var 0) (.cst (.int 1))))), (.bin .mul (.ix (.var 0) (.cst (.int 1))) (.ix (.var 1) (.cst (.int 1))))]))] }
/-- _law_hand: script, cells_own, digit_own -/
def g_law_hand_B : Df := { np := 1, ns := 3, cl := false, body := [(.asg (.var 1) (.comp false [2] (.bi .abs (.bi .int (.var 2))) (.var 2) (.of (.slc (.var 0) none (some (.cst (.int 63))))) none)), (.ret (.lst true [(.var 1), (.cst (.int 0)), (.cst (.int 0)), (.bin .add (.cst (.int 6037)) (.bin .mul (.cst (.int 7)) (.bi .len (.var 1)))), (.cst (.int 0))]))] }
/-- _law_is_below: x, y -/
def g_law_is_below_B : Df := { np := 2, ns := 2, cl := true, body := [(.ret (.cmp .lt (.bin .mul (.ix (.var 0) (.cst (.int 0))) (.ix (.var 1) (.cst (.int 1)))) (.bin .mul (.ix (.var 1) (.cst (.int 0))) (.ix (.var 0) (.cst (.int 1))))))] }
/-- _law_join: one, other -/
def g_law_join_B : Df := { np := 2, ns := 2, cl := true, body := [(.ifS (.or (.cmp .eq (.var 0) (.var 1)) (.cmp .eq (.var 1) (.cst (.str "flat")))) [(.ret (.var 0))] []), (.ret (.ite (.cmp .eq (.var 0) (.cst (.str "flat"))) (.var 1) (.cst (.str "any"))))] }
/-- _law_lead: one, other -/
def g_law_lead_B : Df := { np := 2, ns := 2, cl := true, body := [(.ifS (.cmp .inn (.cst (.str "flat")) (.tup [(.var 0), (.var 1)])) [(.ret (.cst (.str "flat")))] []), (.ifS (.cmp .inn (.cst (.str "any")) (.tup [(.var 0), (.var 1)])) [(.ret (.cst (.str "any")))] []), (.ret (.ite (.cmp .eq (.var 0) (.var 1)) (.cst (.str "up")) (.cst (.str "down"))))] }
/-- _law_made: top, bottom, one, other -/
def g_law_made_B : Df := { np := 2, ns := 4, cl := true, body := [(.par 2 3 (.bi .abs (.var 0)) (.bi .abs (.var 1))), (.whileS (.cmp .ne (.var 3) (.cst (.int 0))) [(.par 2 3 (.var 3) (.bin .mod (.bi .int (.var 2)) (.var 3)))]), (.asg (.var 2) (.ite (.cmp .lt (.var 1) (.cst (.int 0))) (.bin .sub (.cst (.int 0)) (.var 2)) (.var 2))), (.ret (.tup [(.bin .fdiv (.var 0) (.var 2)), (.bin .fdiv (.var 1) (.var 2))]))] }
/-- _law_node: hand, many, names, known, height, some, other, word, first, name, wide, lap_on -/
def g_law_node_B : Df := { np := 5, ns := 12, cl := true, body := [(.ifS (.or (.cmp .eq (.var 4) (.cst (.int 0))) (.cmp .eq (.call "_law_draw" [(.var 0), (.cst (.int 6))]) (.cst (.int 0)))) [(.asg (.var 5) (.lst false [(.tup [(.cst (.str "num")), (.call "_law_fraction" [(.var 0)])]), (.tup [(.cst (.str "in")), (.call "_law_draw" [(.var 0), (.var 1)])]), (.tup [(.cst (.str "in")), (.call "_law_draw" [(.var 0), (.var 1)])])])), (.ret (.call "_law_any" [(.var 0), (.bin .add (.var 5) (.comp false [9] (.tup [(.cst (.str "var")), (.var 9)]) (.var 9) (.of (.var 2)) none))]))] []), (.asg (.var 5) (.bin .add (.lst false [(.cst (.str "plus")), (.cst (.str "less")), (.cst (.str "times")), (.cst (.str "least")), (.cst (.str "most")), (.cst (.str "let")), (.cst (.str "below")), (.cst (.str "upto"))]) (.ite (.cmp .gt (.bi .len (.var 3)) (.cst (.int 0))) (.lst false [(.cst (.str "call"))]) (.lst false [])))), (.par 7 8 (.call "_law_any" [(.var 0), (.var 5)]) (.call "_law_node" [(.var 0), (.var 1), (.var 2), (.var 3), (.bin .sub (.var 4) (.cst (.int 1)))])), (.ifS (.cmp .eq (.var 7) (.cst (.str "times"))) [(.ret (.tup [(.cst (.str "times")), (.call "_law_fraction" [(.var 0)]), (.var 8)]))] []), (.ifS (.cmp .eq (.var 7) (.cst (.str "let"))) [(.asg (.var 9) (.bin .add (.cst (.str "v")) (.ix (.cst (.str "abcdef")) (.bi .len (.var 2))))), (.ret (.tup [(.cst (.str "let")), (.var 9), (.var 8), (.call "_law_node" [(.var 0), (.var 1), (.bin .add (.var 2) (.lst false [(.var 9)])), (.var 3), (.bin .sub (.var 4) (.cst (.int 1)))])]))] []), (.asg (.var 6) (.call "_law_node" [(.var 0), (.var 1), (.var 2), (.var 3), (.bin .sub (.var 4) (.cst (.int 1)))])), (.ifS (.cmp .inn (.var 7) (.tup [(.cst (.str "below")), (.cst (.str "upto"))])) [(.ret (.tup [(.var 7), (.call "_law_node" [(.var 0), (.var 1), (.var 2), (.var 3), (.cst (.int 0))]), (.call "_law_fraction" [(.var 0)]), (.var 8), (.var 6)]))] []), (.ifS (.cmp .eq (.var 7) (.cst (.str "call"))) [(.asg (.tup [(.var 9), (.var 10)]) (.call "_law_any" [(.var 0), (.var 3)])), (.ret (.tup [(.cst (.str "call")), (.var 9), (.bi .tuple (.comp false [11] (.call "_law_node" [(.var 0), (.var 1), (.var 2), (.var 3), (.cst (.int 0))]) (.var 11) (.range1 (.var 10)) none))]))] []), (.ret (.tup [(.var 7), (.var 8), (.var 6)]))] }
/-- _law_number: number, found -/
def g_law_number_B : Df := { np := 1, ns := 2, cl := true, body := [(.asg (.var 1) (.lst true [])), (.whileS (.cmp .gt (.var 0) (.cst (.int 127))) [(.expr (.meth (.var 1) "append" [(.bin .add (.cst (.int 128)) (.bin .mod (.bi .int (.var 0)) (.cst (.int 128))))])), (.asg (.var 0) (.bin .fdiv (.var 0) (.cst (.int 128))))]), (.ret (.bin .add (.var 1) (.lst false [(.var 0)])))] }
/-- _law_packet: head, thing -/
def g_law_packet_B : Df := { np := 2, ns := 2, cl := true, body := [(.ret (.call "_law_checked" [(.bin .add (.lst false [(.var 0)]) (.call "_law_thing" [(.var 1)]))]))] }
/-- _law_point: hand, many, lap_on -/
def g_law_point_B : Df := { np := 2, ns := 3, cl := true, body := [(.ret (.bi .tuple (.comp false [2] (.call "_law_fraction" [(.var 0)]) (.var 2) (.range1 (.var 1)) none)))] }
/-- _law_product: x, y -/
def g_law_product_B : Df := { np := 2, ns := 2, cl := true, body := [(.ret (.call "_law_made" [(.bin .mul (.ix (.var 0) (.cst (.int 0))) (.ix (.var 1) (.cst (.int 0)))), (.bin .mul (.ix (.var 0) (.cst (.int 1))) (.ix (.var 1) (.cst (.int 1))))]))] }
/-- _law_rule: book, name, one -/
def g_law_rule_B : Df := { np := 2, ns := 3, cl := true, body := [(.ret (.ix (.comp false [2] (.var 2) (.var 2) (.of (.var 0)) (some (.cmp .eq (.ix (.var 2) (.cst (.int 0))) (.var 1)))) (.cst (.int 0))))] }
/-- _law_said: call, told_own -/
def g_law_said_B : Df := { np := 1, ns := 2, cl := true, body := [(.asg (.var 1) (.cst (.str "let"))), .opq, (.ret (.var 1))] }
/-- _law_sum: x, y -/
def g_law_sum_B : Df := { np := 2, ns := 2, cl := true, body := [(.ret (.call "_law_made" [(.bin .add (.bin .mul (.ix (.var 0) (.cst (.int 0))) (.ix (.var 1) (.cst (.int 1)))) (.bin .mul (.ix (.var 1) (.cst (.int 0))) (.ix (.var 0) (.cst (.int 1))))), (.bin .mul (.ix (.var 0) (.cst (.int 1))) (.ix (.var 1) (.cst (.int 1))))]))] }
/-- _law_text: book, name, many, e -/
def g_law_text_B : Df := { np := 1, ns := 4, cl := true, body := [(.ret (.join "" (.comp false [1, 2, 3] (.bin .add (.bin .add (.bin .add (.bin .add (.bin .add (.var 1) (.cst (.str "("))) (.bi .str (.var 2))) (.cst (.str ") = "))) (.call "_law_e" [(.var 3)])) (.cst (.str ";\n"))) (.tup [(.var 1), (.var 2), (.var 3)]) (.of (.var 0)) none)))] }
/-- _law_thing: thing, found, one, letters_own, sign -/
def g_law_thing_B : Df := { np := 1, ns := 5, cl := true, body := [(.ifS (.isi .tuple (.var 0)) [(.asg (.var 1) (.bin .add (.lst false [(.cst (.int 0))]) (.call "_law_number" [(.bi .len (.var 0))]))), (.forS (.var 2) (.of (.var 0)) [(.asg (.var 1) (.bin .add (.var 1) (.call "_law_thing" [(.var 2)])))]), (.ret (.var 1))] []), (.ifS (.isi .str (.var 0)) [(.asg (.var 3) (.cst (.str "abcdefghijklmnopqrstuvwxyz"))), (.ret (.bin .add (.bin .add (.lst false [(.cst (.int 3))]) (.call "_law_number" [(.bi .len (.var 0))])) (.comp false [4] .opq (.var 4) (.of (.var 0)) none)))] []), (.ret (.ite (.cmp .ge (.var 0) (.cst (.int 0))) (.bin .add (.lst false [(.cst (.int 1))]) (.call "_law_number" [(.var 0)])) (.bin .add (.lst false [(.cst (.int 2))]) (.call "_law_number" [(.bin .sub (.bin .sub (.cst (.int 0)) (.var 0)) (.cst (.int 1)))]))))] }
/-- _law_tokens: text, found, at -/
def g_law_tokens_B : Df := { np := 1, ns := 3, cl := true, body := [(.par 1 2 (.lst true []) (.cst (.int 0))), (.whileS (.cmp .lt (.var 2) (.bi .len (.var 0))) [(.ifS (.cmp .inn (.ix (.var 0) (.var 2)) (.tup [(.cst (.str " ")), (.cst (.str "\n"))])) [(.asg (.var 2) (.bin .add (.var 2) (.cst (.int 1))))] [(.expr (.meth (.var 1) "append" [(.tup [(.var 2), (.call "_law_end" [(.var 0), (.var 2)])])])), (.asg (.var 2) (.ix (.ix (.var 1) (.neg (.cst (.int 1)))) (.cst (.int 1))))])]), (.ret (.var 1))] }
/-- _law_turn: one -/
def g_law_turn_B : Df := { np := 1, ns := 1, cl := true, body := [(.ret (.ite (.cmp .eq (.var 0) (.cst (.str "up"))) (.cst (.str "down")) (.ite (.cmp .eq (.var 0) (.cst (.str "down"))) (.cst (.str "up")) (.var 0))))] }
/-- _law_way: book, node, i, env, word, one, other, inner, more, found, rule, at -/
def g_law_way_B : Df := { np := 4, ns := 12, cl := true, body := [(.asg (.var 4) (.ix (.var 1) (.cst (.int 0)))), (.ifS (.cmp .eq (.var 4) (.cst (.str "num"))) [(.ret (.cst (.str "flat")))] []), (.ifS (.cmp .inn (.var 4) (.tup [(.cst (.str "in")), (.cst (.str "var"))])) [(.ret (.ite (.cmp .eq (.var 4) (.cst (.str "var"))) (.ix (.var 3) (.ix (.var 1) (.cst (.int 1)))) (.ite (.cmp .eq (.ix (.var 1) (.cst (.int 1))) (.var 2)) (.cst (.str "up")) (.cst (.str "flat")))))] []), (.ifS (.cmp .eq (.var 4) (.cst (.str "times"))) [(.asg (.var 7) (.call "_law_way" [(.var 0), (.ix (.var 1) (.cst (.int 2))), (.var 2), (.var 3)])), (.ret (.ite (.cmp .eq (.ix (.ix (.var 1) (.cst (.int 1))) (.cst (.int 0))) (.cst (.int 0))) (.cst (.str "flat")) (.ite (.cmp .gt (.ix (.ix (.var 1) (.cst (.int 1))) (.cst (.int 0))) (.cst (.int 0))) (.var 7) (.call "_law_turn" [(.var 7)]))))] []), (.ifS (.cmp .eq (.var 4) (.cst (.str "let"))) [(.asg (.var 8) (.bi .dict (.var 3))), (.setI (.var 8) (.ix (.var 1) (.cst (.int 1))) (.call "_law_way" [(.var 0), (.ix (.var 1) (.cst (.int 2))), (.var 2), (.var 3)])), (.ret (.call "_law_way" [(.var 0), (.ix (.var 1) (.cst (.int 3))), (.var 2), (.var 8)]))] []), (.ifS (.cmp .eq (.var 4) (.cst (.str "call"))) [(.par 9 10 (.cst (.str "flat")) (.call "_law_rule" [(.var 0), (.ix (.var 1) (.cst (.int 1)))])), (.forS (.tup [(.var 11), (.var 5)]) (.enum (.ix (.var 1) (.cst (.int 2)))) [(.asg (.var 9) (.call "_law_join" [(.var 9), (.call "_law_lead" [(.call "_law_way" [(.var 0), (.var 5), (.var 2), (.var 3)]), (.call "_law_way" [(.var 0), (.ix (.var 10) (.cst (.int 2))), (.var 11), .dnew])])]))]), (.ret (.var 9))] []), (.asg (.var 5) (.call "_law_way" [(.var 0), (.ix (.var 1) (.cst (.int 1))), (.var 2), (.var 3)])), (.ifS (.cmp .inn (.var 4) (.tup [(.cst (.str "below")), (.cst (.str "upto"))])) [(.ifS (.cmp .ne (.var 5) (.cst (.str "flat"))) [(.ret (.cst (.str "any")))] []), (.ret (.call "_law_join" [(.call "_law_way" [(.var 0), (.ix (.var 1) (.cst (.int 3))), (.var 2), (.var 3)]), (.call "_law_way" [(.var 0), (.ix (.var 1) (.cst (.int 4))), (.var 2), (.var 3)])]))] []), (.asg (.var 6) (.call "_law_way" [(.var 0), (.ix (.var 1) (.cst (.int 2))), (.var 2), (.var 3)])), (.ret (.call "_law_join" [(.var 5), (.ite (.cmp .eq (.var 4) (.cst (.str "less"))) (.call "_law_turn" [(.var 6)]) (.var 6))]))] }
/-- _law_worth: book, node, point, env, word, one, other, inner, more, is_so -/
def g_law_worth_B : Df := { np := 4, ns := 10, cl := true, body := [(.asg (.var 4) (.ix (.var 1) (.cst (.int 0)))), (.ifS (.cmp .eq (.var 4) (.cst (.str "num"))) [(.ret (.ix (.var 1) (.cst (.int 1))))] []), (.ifS (.cmp .inn (.var 4) (.tup [(.cst (.str "in")), (.cst (.str "var"))])) [(.ret (.ite (.cmp .eq (.var 4) (.cst (.str "in"))) (.ix (.var 2) (.ix (.var 1) (.cst (.int 1)))) (.ix (.var 3) (.ix (.var 1) (.cst (.int 1))))))] []), (.ifS (.cmp .eq (.var 4) (.cst (.str "call"))) [(.asg (.var 7) (.bi .tuple (.comp false [5] (.call "_law_worth" [(.var 0), (.var 5), (.var 2), (.var 3)]) (.var 5) (.of (.ix (.var 1) (.cst (.int 2)))) none))), (.ret (.call "_law_worth" [(.var 0), (.ix (.call "_law_rule" [(.var 0), (.ix (.var 1) (.cst (.int 1)))]) (.cst (.int 2))), (.var 7), .dnew]))] []), (.ifS (.cmp .eq (.var 4) (.cst (.str "times"))) [(.ret (.call "_law_product" [(.ix (.var 1) (.cst (.int 1))), (.call "_law_worth" [(.var 0), (.ix (.var 1) (.cst (.int 2))), (.var 2), (.var 3)])]))] []), (.ifS (.cmp .eq (.var 4) (.cst (.str "let"))) [(.asg (.var 8) (.bi .dict (.var 3))), (.setI (.var 8) (.ix (.var 1) (.cst (.int 1))) (.call "_law_worth" [(.var 0), (.ix (.var 1) (.cst (.int 2))), (.var 2), (.var 3)])), (.ret (.call "_law_worth" [(.var 0), (.ix (.var 1) (.cst (.int 3))), (.var 2), (.var 8)]))] []), (.asg (.var 5) (.call "_law_worth" [(.var 0), (.ix (.var 1) (.cst (.int 1))), (.var 2), (.var 3)])), (.ifS (.cmp .inn (.var 4) (.tup [(.cst (.str "below")), (.cst (.str "upto"))])) [(.asg (.var 9) (.ite (.cmp .eq (.var 4) (.cst (.str "below"))) (.call "_law_is_below" [(.var 5), (.ix (.var 1) (.cst (.int 2)))]) (.not (.call "_law_is_below" [(.ix (.var 1) (.cst (.int 2))), (.var 5)])))), (.ret (.call "_law_worth" [(.var 0), (.ite (.var 9) (.ix (.var 1) (.cst (.int 3))) (.ix (.var 1) (.cst (.int 4)))), (.var 2), (.var 3)]))] []), (.asg (.var 6) (.call "_law_worth" [(.var 0), (.ix (.var 1) (.cst (.int 2))), (.var 2), (.var 3)])), (.ifS (.cmp .inn (.var 4) (.tup [(.cst (.str "plus")), (.cst (.str "less"))])) [(.ret (.ite (.cmp .eq (.var 4) (.cst (.str "plus"))) (.call "_law_sum" [(.var 5), (.var 6)]) (.call "_law_gap" [(.var 5), (.var 6)])))] []), (.ifS (.cmp .eq (.var 4) (.cst (.str "least"))) [(.ret (.ite (.call "_law_is_below" [(.var 6), (.var 5)]) (.var 6) (.var 5)))] []), (.ret (.ite (.call "_law_is_below" [(.var 5), (.var 6)]) (.var 6) (.var 5)))] }
/-- _law_x: x -/
def g_law_x_B : Df := { np := 1, ns := 1, cl := true, body := [(.ret (.ite (.cmp .eq (.ix (.var 0) (.cst (.int 1))) (.cst (.int 1))) (.bi .str (.ix (.var 0) (.cst (.int 0)))) (.bin .add (.bin .add (.bi .str (.ix (.var 0) (.cst (.int 0)))) (.cst (.str "/"))) (.bi .str (.ix (.var 0) (.cst (.int 1)))))))] }
end NC
set_option maxHeartbeats 4000000

namespace NC
open PySem
/-! ### draws -/
def hnd (c : List Int) (a b s t : Int) : Ob := .lst [.list (c.map .int), .int a, .int b, .int s, .int t]
structure Good (u : Nat) (c : List Int) (a b s t : Int) : Prop where
  c : ∀ x ∈ c, 0 ≤ x ∧ Lt 1048577 x
  a0 : 0 ≤ a
  b0 : 0 ≤ b
  b1 : Lt 1048577 b
  s0 : 0 ≤ s
  s1 : s < 2147483629
  t0 : 0 ≤ t
  t1 : t ≤ u
/-- a hand after at most u draws -/
def Hand (u : Nat) (o : Ob) : Prop := ∃ c a b s t, o = hnd c a b s t ∧ Good u c a b s t
theorem Hand.mono {u v : Nat} {o : Ob} (h : Hand u o) (l : u ≤ v) : Hand v o := by
  obtain ⟨c, a, b, s, t, e, g⟩ := h
  exact ⟨c, a, b, s, t, e, ⟨g.c, g.a0, g.b0, g.b1, g.s0, g.s1, g.t0, by have := g.t1; omega⟩⟩
@[simp] theorem setO_get {h : Hv} {n : Nat} {o : Ob} (l : n < h.os.length) : (setO h n o).os[n]? = some o := by simp [setO, l]
@[simp] theorem setO_len {h : Hv} {n : Nat} {o : Ob} : (setO h n o).os.length = h.os.length := by simp [setO]
@[simp] theorem setO_lim {h : Hv} {n : Nat} {o : Ob} : (setO h n o).lim = h.lim := rfl
@[simp] theorem setO_two {h : Hv} {n : Nat} {o o' : Ob} : setO (setO h n o) n o' = setO h n o' := by simp [setO]
theorem setO_same {h : Hv} {n : Nat} {o : Ob} (e : h.os[n]? = some o) : setO h n o = h := by
  obtain ⟨l, q⟩ := List.getElem?_eq_some_iff.mp e
  unfold setO
  rw [← q, List.set_getElem_self]
theorem ix_r {h : Hv} {n : Nat} {xs : List PyData} {i : Int} {v : PyData} (e : h.os[n]? = some (.lst xs)) (q : L2.atI xs i = some v) : ix (.ref n) (.d (.int i)) h = .ok (.d v) h := by
  simp only [ix, e, q]
theorem setI_r {h : Hv} {n m : Nat} {xs : List PyData} {i : Int} {v : PyData} (e : h.os[n]? = some (.lst xs)) (q : L2.ixN xs.length i = some m) : NC.setI (.ref n) (.d (.int i)) (.d v) h = .ok (.d .none) (setO h n (.lst (xs.set m v))) := by
  simp only [NC.setI, e, q]
section
variable {c : List Int} {a b s t : Int} {h : Hv} {n : Nat}
theorem h_0 (e : h.os[n]? = some (hnd c a b s t)) : ix (.ref n) (.d (.int 0)) h = .ok (.d (.list (c.map .int))) h := ix_r e rfl
theorem h_1 (e : h.os[n]? = some (hnd c a b s t)) : ix (.ref n) (.d (.int 1)) h = .ok (.d (.int a)) h := ix_r e rfl
theorem h_2 (e : h.os[n]? = some (hnd c a b s t)) : ix (.ref n) (.d (.int 2)) h = .ok (.d (.int b)) h := ix_r e rfl
theorem h_3 (e : h.os[n]? = some (hnd c a b s t)) : ix (.ref n) (.d (.int 3)) h = .ok (.d (.int s)) h := ix_r e rfl
theorem h_4 (e : h.os[n]? = some (hnd c a b s t)) : ix (.ref n) (.d (.int 4)) h = .ok (.d (.int t)) h := ix_r e rfl
theorem g_1 {v : Int} (e : h.os[n]? = some (hnd c a b s t)) : NC.setI (.ref n) (.d (.int 1)) (.d (.int v)) h = .ok (.d .none) (setO h n (hnd c v b s t)) := setI_r (m := 1) e rfl
theorem g_2 {v : Int} (e : h.os[n]? = some (hnd c a b s t)) : NC.setI (.ref n) (.d (.int 2)) (.d (.int v)) h = .ok (.d .none) (setO h n (hnd c a v s t)) := setI_r (m := 2) e rfl
theorem g_3 {v : Int} (e : h.os[n]? = some (hnd c a b s t)) : NC.setI (.ref n) (.d (.int 3)) (.d (.int v)) h = .ok (.d .none) (setO h n (hnd c a b v t)) := setI_r (m := 3) e rfl
theorem g_4 {v : Int} (e : h.os[n]? = some (hnd c a b s t)) : NC.setI (.ref n) (.d (.int 4)) (.d (.int v)) h = .ok (.d .none) (setO h n (hnd c a b s v)) := setI_r (m := 4) e rfl
end
theorem exs_nx {G : Gls} {C : Fns} {s : S} {r : List S} {e e1 : NC.Env} {h h1 : Hv} (p : exec G C s e h = .ok (.nx e1) h1) : execs G C (s :: r) e h = execs G C r e1 h1 := by rw [exs_cons, p]; rfl
theorem exs_rt {G : Gls} {C : Fns} {s : S} {r : List S} {e : NC.Env} {h h1 : Hv} {v : PV} (p : exec G C s e h = .ok (.ret v) h1) : execs G C (s :: r) e h = .ok (.ret v) h1 := by rw [exs_cons, p]; rfl
theorem atI_ints {c : List Int} {a : Int} (h0 : 0 ≤ a) (h1 : a < (c.length : Int)) : ∃ x ∈ c, L2.atI (c.map PyData.int) a = some (.int x) := by
  obtain ⟨k, rfl⟩ : ∃ k : Nat, a = (k : Int) := ⟨a.toNat, by omega⟩
  have l : k < c.length := by omega
  exact ⟨c[k], List.getElem_mem l, L2.atI_nat (by simp [l])⟩
theorem fm_pos (a : Int) {m : Int} (h : 0 < m) : 0 ≤ a.fmod m ∧ a.fmod m < m := ⟨Int.fmod_nonneg_of_pos a h, Int.fmod_lt_of_pos a h⟩
theorem powOk_1018 : powOk 10 18 = true := by decide
def dIf1 : S := g_law_draw_B.body.headD .pass
def dRest : List S := g_law_draw_B.body.tail
theorem Lt_of {n : Nat} {i : Int} (h : -(2 ^ n) < i ∧ i < 2 ^ n) : Lt n i := by
  unfold Lt
  have e : ((2 ^ n : Nat) : Int) = (2 : Int) ^ n := by simp
  omega
theorem Lt.lt {n : Nat} {i : Int} (h : Lt n i) : -(2 ^ n) < i ∧ i < 2 ^ n := by
  unfold Lt at h
  have e : ((2 ^ n : Nat) : Int) = (2 : Int) ^ n := by simp
  omega
section
variable {G : Gls} {T : Tab}
theorem draw_1 {C : Fns} {u : Nat} {c : List Int} {a b s t : Int} {h : Hv} {n : Nat} {m : PV} (e : h.os[n]? = some (hnd c a b s t)) (g : Good u c a b s t) :
    ∃ v o, exec G C dIf1 [some (.ref n), some m, none, none, none] h = .ok (.nx [some (.ref n), some m, none, v, none]) (setO h n o) ∧ Hand u o := by
  have l : n < h.os.length := (List.getElem?_eq_some_iff.mp e).1
  by_cases hc : b = 0 ∧ a < (c.length : Int)
  · obtain ⟨hb, ha⟩ := hc
    obtain ⟨x, hx, ex⟩ := atI_ints g.a0 ha
    obtain ⟨x0, x1⟩ := g.c x hx
    have ix0 : ∀ h, ix (.d (.list (c.map .int))) (.d (.int a)) h = .ok (.d (.int x)) h := fun h => by simp only [ix, ex]
    have z1 : szOk s = true := szOk_of (n := 40) (Lt_of (by have := g.s0; have := g.s1; omega)) (by decide)
    have z2 : szOk x = true := szOk_of x1 (by decide)
    have z3 : szOk 69621 = true := by decide
    have z4 : szOk 40692 = true := by decide
    obtain ⟨f0, f1⟩ := fm_pos (s * 69621 + x * 40692 + 31) (m := 2147483629) (by decide)
    by_cases hx8 : (1000000000000000000 : Int) ≤ x
    · refine ⟨some (.d (.int x)), hnd c (a + 1) x ((s * 69621 + x * 40692 + 31).fmod 2147483629) t, ?_, _, _, _, _, _, rfl, ⟨g.c, by have := g.a0; omega, x0, x1, f0, f1, g.t0, g.t1⟩⟩
      have q1 := setO_get (h := h) (o := hnd c (a + 1) b s t) l
      have q2 := setO_get (h := h) (o := hnd c (a + 1) b ((s * 69621 + x * 40692 + 31).fmod 2147483629) t) l
      subst hb
      simp [dIf1, g_law_draw_B, h_0 e, h_1 e, h_2 e, ha, ix0, g_1 e, h_3 q1, g_3 q1, g_2 q2, z1, z2, z3, z4, powOk_1018, hx8]
    · refine ⟨some (.d (.int x)), hnd c (a + 1) b ((s * 69621 + x * 40692 + 31).fmod 2147483629) t, ?_, _, _, _, _, _, rfl, ⟨g.c, by have := g.a0; omega, g.b0, g.b1, f0, f1, g.t0, g.t1⟩⟩
      have q1 := setO_get (h := h) (o := hnd c (a + 1) b s t) l
      subst hb
      simp [dIf1, g_law_draw_B, h_0 e, h_1 e, h_2 e, ha, ix0, g_1 e, h_3 q1, g_3 q1, z1, z2, z3, z4, powOk_1018, hx8]
  · refine ⟨none, hnd c a b s t, ?_, _, _, _, _, _, rfl, g⟩
    rw [setO_same e]
    by_cases hb : b = 0
    · have ha : ¬ a < (c.length : Int) := fun q => hc ⟨hb, q⟩
      subst hb
      simp [dIf1, g_law_draw_B, h_0 e, h_1 e, h_2 e, ha]
    · simp [dIf1, g_law_draw_B, h_0 e, h_1 e, h_2 e, hb]
theorem draw_2 {C : Fns} {u : Nat} {c : List Int} {a b s t m : Int} {h : Hv} {n : Nat} {v : Option PV} (e : h.os[n]? = some (hnd c a b s t)) (g : Good u c a b s t) (hu : u ≤ 1000000) (m0 : 0 < m) (m1 : Lt 60 m) :
    ∃ d o, execs G C dRest [some (.ref n), some (.d (.int m)), none, v, none] h = .ok (.ret (.d (.int d))) (setO h n o) ∧ 0 ≤ d ∧ d < m ∧ Hand (u + 1) o := by
  have l : n < h.os.length := (List.getElem?_eq_some_iff.mp e).1
  have dm : dvOk m = true := dvOk_of m1 (by decide) (by omega)
  have mz : m ≠ 0 := by omega
  by_cases hb : 0 < b
  · obtain ⟨f0, f1⟩ := fm_pos b m0
    have e1 : b.fdiv m = b / m := Int.fdiv_eq_ediv_of_nonneg _ (by omega)
    have e2 : 0 ≤ b / m := Int.ediv_nonneg g.b0 (by omega)
    have e3 : (b / m).natAbs ≤ b.natAbs := Int.natAbs_ediv_le_natAbs _ _
    refine ⟨b.fmod m, hnd c a (b / m) s t, ?_, f0, f1, _, _, _, _, _, rfl, ⟨g.c, g.a0, e2, Nat.lt_of_le_of_lt e3 g.b1, g.s0, g.s1, g.t0, by have := g.t1; omega⟩⟩
    simp [dRest, g_law_draw_B, h_2 e, hb, mz, dm, g_2 e, e1]
  · have hb0 : b = 0 := by have := g.b0; omega
    subst hb0
    have q1 := setO_get (h := h) (o := hnd c a 0 s (t + 1)) l
    have s0 := g.s0; have s1 := g.s1; have t0 := g.t0; have t1 := g.t1
    have z0 : szOk 7919 = true := by decide
    have z1 : szOk (t + 1) = true := szOk_of (n := 40) (Lt_of (by omega)) (by decide)
    have z2 : szOk (s + 7919 * (t + 1)) = true := szOk_of (n := 60) (Lt_of (by omega)) (by decide)
    have z3 : szOk 48271 = true := by decide
    obtain ⟨a0, a1⟩ := fm_pos ((s + 7919 * (t + 1)) * 48271) (m := 2147483647) (by decide)
    generalize hx1 : ((s + 7919 * (t + 1)) * 48271).fmod 2147483647 = x1 at a0 a1
    have d1 : x1.fdiv 1009 = x1 / 1009 := Int.fdiv_eq_ediv_of_nonneg _ (by decide)
    have y1 : szOk x1 = true := szOk_of (n := 60) (Lt_of (by omega)) (by decide)
    have y2 : szOk (x1 / 1009 + 69621) = true := szOk_of (n := 60) (Lt_of (by omega)) (by decide)
    obtain ⟨b0, b1⟩ := fm_pos (x1 * (x1 / 1009 + 69621)) (m := 2147483647) (by decide)
    generalize hx2 : (x1 * (x1 / 1009 + 69621)).fmod 2147483647 = x2 at b0 b1
    have d2 : x2.fdiv 2003 = x2 / 2003 := Int.fdiv_eq_ediv_of_nonneg _ (by decide)
    have w1 : szOk x2 = true := szOk_of (n := 60) (Lt_of (by omega)) (by decide)
    have w2 : szOk (x2 / 2003 + 40014) = true := szOk_of (n := 60) (Lt_of (by omega)) (by decide)
    obtain ⟨c0, c1⟩ := fm_pos (x2 * (x2 / 2003 + 40014)) (m := 2147483563) (by decide)
    generalize hx3 : (x2 * (x2 / 2003 + 40014)).fmod 2147483563 = x3 at c0 c1
    obtain ⟨f0, f1⟩ := fm_pos (x3.fdiv 16) m0
    have k1 : dvOk 1009 = true := by decide
    have k2 : dvOk 2003 = true := by decide
    have k3 : dvOk 16 = true := by decide
    refine ⟨(x3.fdiv 16).fmod m, hnd c a 0 s (t + 1), ?_, f0, f1, _, _, _, _, _, rfl, ⟨g.c, g.a0, g.b0, g.b1, s0, s1, by omega, by omega⟩⟩
    simp [dRest, g_law_draw_B, h_2 e, h_4 e, g_4 e, h_3 q1, h_4 q1, mz, z0, z1, z2, z3, hx1, d1, y1, y2, hx2, d2, w1, w2, hx3, k1, k2, k3]
structure T_B (T : Tab) : Prop where
  d : T "_law_draw" = some g_law_draw_B
  a : T "_law_any" = some g_law_any_B
  m : T "_law_made" = some g_law_made_B
variable (HB : T_B T)
include HB
theorem s_draw {k u : Nat} {h : Hv} {n : Nat} {o : Ob} {m : Int} (e : h.os[n]? = some o) (g : Hand u o) (hu : u ≤ 1000000) (m0 : 0 < m) (m1 : Lt 60 m) :
    ∃ d o', call G T (k + 1) "_law_draw" [.ref n, .d (.int m)] h = .ok (.d (.int d)) (setO h n o') ∧ 0 ≤ d ∧ d < m ∧ Hand (u + 1) o' := by
  obtain ⟨c, a, b, s, t, rfl, g⟩ := g
  have l : n < h.os.length := (List.getElem?_eq_some_iff.mp e).1
  obtain ⟨v, o1, p1, g1⟩ := draw_1 (C := call G T k) (h := ⟨h.os, h.os.length⟩) (m := .d (.int m)) e g
  obtain ⟨c1, a1, b1, s1, t1, rfl, g1⟩ := g1
  obtain ⟨d, o2, p2, d0, d1, g2⟩ := draw_2 (C := call G T k) (h := setO ⟨h.os, h.os.length⟩ n (hnd c1 a1 b1 s1 t1)) (v := v) (setO_get l) g1 hu m0 m1
  refine ⟨d, o2, ?_, d0, d1, g2⟩
  rw [call_run HB.d]
  have eb : g_law_draw_B.body = dIf1 :: dRest := rfl
  unfold run
  rw [if_pos (show [PV.ref n, PV.d (.int m)].length = g_law_draw_B.np from rfl), eb]
  show (match execs G (call G T k) (dIf1 :: dRest) [some (.ref n), some (.d (.int m)), none, none, none] ⟨h.os, h.os.length⟩ with
    | .ok (.ret v) h1 => back true h v h1
    | .ok (.nx _) h1 => back true h (.d .none) h1
    | .ok _ _ => .bad
    | .exc c fs h1 => if true then .exc c fs ⟨h1.os.take h.os.length, h.lim⟩ else .exc c fs h1
    | .bad => .bad) = _
  rw [exs_nx p1, p2]
  simp [back, setO]
  exact List.take_of_length_le (by simp)
omit HB in
theorem store_v {i : Nat} {x : PV} {e : NC.Env} : store (.var i) x e = if i < e.length then some (e.set i (some x)) else none := by simp only [store]
theorem s_some {k u : Nat} {h : Hv} {n : Nat} {o : Ob} {xs : List PyData} (e : h.os[n]? = some o) (g : Hand u o) (hu : u ≤ 1000000) (l0 : xs ≠ []) (l1 : xs.length ≤ 1000000) :
    ∃ x ∈ xs, ∃ o', call G T (k + 2) "_law_any" [.ref n, .d (.list xs)] h = .ok (.d x) (setO h n o') ∧ Hand (u + 1) o' := by
  have l : n < h.os.length := (List.getElem?_eq_some_iff.mp e).1
  have hp : 0 < xs.length := List.length_pos_iff.mpr l0
  obtain ⟨d, o', p, d0, d1, g'⟩ := s_draw HB (G := G) (k := k) (h := ⟨h.os, h.os.length⟩) (m := (xs.length : Int)) e g hu (by omega) (Lt_of (by omega))
  obtain ⟨m, rfl⟩ : ∃ m : Nat, d = (m : Int) := ⟨d.toNat, by omega⟩
  have hm : m < xs.length := by omega
  have at_ : L2.atI xs (m : Int) = some xs[m] := L2.atI_nat (by simp [hm])
  refine ⟨xs[m], List.getElem_mem hm, o', ?_, g'⟩
  rw [call_run HB.a]
  simp [g_law_any_B, run, back, p, ix, at_, setO]
  exact List.take_of_length_le (by simp)
omit HB in
theorem lmade_while {C : Fns} {x y : Nat} {e0 e1 : Option PV} {h : Hv} : exec G C (.whileS (.cmp .ne (.var 3) (.cst (.int 0))) [(.par 2 3 (.var 3) (.bin .mod (.bi .int (.var 2)) (.var 3)))]) [e0, e1, some (.d (.int x)), some (.d (.int y))] h = .ok (.nx [e0, e1, some (.d (.int (Nat.gcd x y : Nat))), some (.d (.int 0))]) h := by
  rw [ex_while]
  induction y using Nat.strongRecOn generalizing x with
  | _ y ih =>
    rw [whileL_eq]
    by_cases hy : y = 0
    · subst hy
      simp
    · have e : Int.fmod (x : Int) (y : Int) = ((x % y : Nat) : Int) := by rw [Int.fmod_eq_emod_of_nonneg _ (by omega)]; rfl
      have g : Nat.gcd x y = Nat.gcd y (x % y) := by rw [Nat.gcd_comm x y, Nat.gcd_rec y x, Nat.gcd_comm]
      have := @ih (x % y) (Nat.mod_lt _ (by omega)) y
      rw [g, ← this]
      simp [hy, e]
theorem s_lmade {k : Nat} {t b : Int} {h : Hv} (hb : b ≠ 0) (hB : Lt 8000 b) : call G T (k + 1) "_law_made" [.d (.int t), .d (.int b)] h = .ok (.d (dq (Rat.divInt t b))) h := by
  rw [call_run HB.m]
  have d := dvOk_of (sg_lt (t := t) hb hB) (by decide) (sg_ne hb)
  have e1 := low_num (t := t) hb
  have e2 := low_den (t := t) hb
  unfold dq
  rw [← e1, ← e2]
  unfold sg at d ⊢
  by_cases hlt : b < 0
  · rw [if_pos hlt] at d
    simp [g_law_made_B, run, back, hlt, d, lnOk, lmade_while]
  · rw [if_neg hlt] at d
    simp [g_law_made_B, run, back, hlt, d, lnOk, lmade_while]
theorem s_lsum {k n : Nat} {q r : Rat} {h : Hv} (e : T "_law_sum" = some g_law_sum_B) (a : Sm n q) (b : Sm n r) (hn : n ≤ 3000) : call G T (k + 2) "_law_sum" [.d (dq q), .d (dq r)] h = .ok (.d (dq (q + r))) h := by
  rw [call_run e, add_is]
  have h1 := szOk_of a.1 (by omega); have h2 := szOk_of a.den (by omega); have h3 := szOk_of b.1 (by omega); have h4 := szOk_of b.den (by omega)
  have m := fun t (h : Hv) => s_lmade HB (G := G) (k := k) (t := t) (h := h) (dd_ne q r) ((a.dd b).mono (by omega))
  simp [g_law_sum_B, run, back]
  simp [dq, h1, h2, h3, h4, m]
theorem s_lgap {k n : Nat} {q r : Rat} {h : Hv} (e : T "_law_gap" = some g_law_gap_B) (a : Sm n q) (b : Sm n r) (hn : n ≤ 3000) : call G T (k + 2) "_law_gap" [.d (dq q), .d (dq r)] h = .ok (.d (dq (q - r))) h := by
  rw [call_run e, sub_is]
  have h1 := szOk_of a.1 (by omega); have h2 := szOk_of a.den (by omega); have h3 := szOk_of b.1 (by omega); have h4 := szOk_of b.den (by omega)
  have m := fun t (h : Hv) => s_lmade HB (G := G) (k := k) (t := t) (h := h) (dd_ne q r) ((a.dd b).mono (by omega))
  simp [g_law_gap_B, run, back]
  simp [dq, h1, h2, h3, h4, m]
theorem s_lprod {k n : Nat} {q r : Rat} {h : Hv} (e : T "_law_product" = some g_law_product_B) (a : Sm n q) (b : Sm n r) (hn : n ≤ 3000) : call G T (k + 2) "_law_product" [.d (dq q), .d (dq r)] h = .ok (.d (dq (q * r))) h := by
  rw [call_run e, mul_is]
  have h1 := szOk_of a.1 (by omega); have h2 := szOk_of a.den (by omega); have h3 := szOk_of b.1 (by omega); have h4 := szOk_of b.den (by omega)
  have m := fun t (h : Hv) => s_lmade HB (G := G) (k := k) (t := t) (h := h) (dd_ne q r) ((a.dd b).mono (by omega))
  simp [g_law_product_B, run, back]
  simp [dq, h1, h2, h3, h4, m]
omit HB in
theorem s_lless {k n : Nat} {q r : Rat} {h : Hv} (e : T "_law_is_below" = some g_law_is_below_B) (a : Sm n q) (b : Sm n r) (hn : n ≤ 3000) : call G T (k + 1) "_law_is_below" [.d (dq q), .d (dq r)] h = .ok (.d (.bool (decide (q < r)))) h := by
  rw [call_run e]
  have h1 := szOk_of a.1 (by omega); have h2 := szOk_of a.den (by omega); have h3 := szOk_of b.1 (by omega); have h4 := szOk_of b.den (by omega)
  have e : (decide (q < r)) = decide (q.num * r.den < r.num * q.den) := decide_eq_decide.mpr (Rat.lt_iff q r)
  rw [e]
  simp [g_law_is_below_B, run, back, dq, h1, h2, h3, h4]
theorem s_lfraction {k u : Nat} {h : Hv} {n : Nat} {o : Ob} (ef : T "_law_fraction" = some g_law_fraction_B) (e : h.os[n]? = some o) (g : Hand u o) (hu : u ≤ 500000) :
    ∃ q : Rat, ∃ o', call G T (k + 3) "_law_fraction" [.ref n] h = .ok (.d (dq q)) (setO h n o') ∧ Hand (u + 2) o' ∧ Sm 5 q := by
  have l : n < h.os.length := (List.getElem?_eq_some_iff.mp e).1
  obtain ⟨d, o1, p1, d0, d1, g1⟩ := s_draw HB (G := G) (k := k + 1) (h := ⟨h.os, h.os.length⟩) (m := 25) e g (by omega) (by decide) (Lt_of (by decide))
  obtain ⟨b, hb, o2, p2, g2⟩ := s_some HB (G := G) (k := k) (h := setO ⟨h.os, h.os.length⟩ n o1) (xs := [.int 1, .int 1, .int 1, .int 2, .int 3, .int 4]) (setO_get l) g1 (by omega) (by simp) (by simp)
  have hb' : ∃ i : Int, b = .int i ∧ 1 ≤ i ∧ i ≤ 4 := by
    simp only [List.mem_cons, List.not_mem_nil, or_false] at hb
    rcases hb with rfl | rfl | rfl | rfl | rfl | rfl <;> exact ⟨_, rfl, by decide, by decide⟩
  obtain ⟨i, rfl, i1, i4⟩ := hb'
  have sm : Sm 5 (Rat.divInt (d - 8) i) := sm_div (by omega) (Lt_of (by omega)) (Lt_of (by omega))
  refine ⟨Rat.divInt (d - 8) i, o2, ?_, g2, sm⟩
  have mk := fun (h : Hv) => s_lmade HB (G := G) (k := k + 1) (t := d - 8) (b := i) (h := h) (by omega) (Lt_of (by omega))
  rw [call_run ef]
  rw [setO_two] at p2
  simp [g_law_fraction_B, run, back, p1, p2, mk, lnOk]
  simp [setO]
  exact List.take_of_length_le (by simp)
omit HB in
end
def handB (c0 : Int) : Df := { np := 1, ns := 3, cl := false, body := [(.asg (.var 1) (.comp false [2] (.bi .abs (.bi .int (.var 2))) (.var 2) (.of (.slc (.var 0) none (some (.cst (.int 63))))) none)), (.ret (.lst true [(.var 1), (.cst (.int 0)), (.cst (.int 0)), (.bin .add (.cst (.int c0)) (.bin .mul (.cst (.int 7)) (.bi .len (.var 1)))), (.cst (.int 0))]))] }
def cells (ns : List Int) : List Int := (cut ns none (some 63)).map fun i => ((i.natAbs : Nat) : Int)
theorem Lt_0 {n : Nat} : Lt n 0 := by unfold Lt; exact Nat.two_pow_pos _
theorem bits_lt {z : Int} (h : Builtin.Int.intBits z ≤ 1048576) : Lt 1048577 z := by
  by_cases q : z = 0
  · rw [q]; exact Lt_0
  · unfold Builtin.Int.intBits at h
    have hz : (z == 0) = false := by simpa using q
    rw [hz] at h
    simp only [Bool.false_eq_true, if_false] at h
    have h2 : z.natAbs.log2 < 1048577 := by omega
    exact (Nat.log2_lt (by omega)).mp h2
theorem s_handB {G : Gls} {T : Tab} {k : Nat} {ns : List Int} {c0 : Int} (eh : T "_law_hand" = some (handB c0)) (l : ns.length ≤ 63) (hb : ∀ z ∈ ns, Builtin.Int.intBits z ≤ 1048576) (h0 : 0 ≤ c0) (h1 : c0 < 1000000) : ∃ o, call G T (k + 1) "_law_hand" [.scr (ns.map .int)] h00 = .ok (.ref 0) ⟨[o], 0⟩ ∧ Hand 0 o := by
  have lc : (cells ns).length ≤ 63 := by
    unfold cells
    rw [List.length_map]
    exact Nat.le_trans cut_len l
  refine ⟨hnd (cells ns) 0 0 (c0 + 7 * ((cells ns).length : Int)) 0, ?_, _, _, _, _, _, rfl, ⟨fun x hx => ?_, by decide, by decide, Lt_0, by omega, by omega, by decide, by decide⟩⟩
  · have c := evc_map (G := G) (C := call G T k) (own := [2]) (elt := .bi .abs (.bi .int (.var 2))) (tg := .var 2) (it := .of (.slc (.var 0) none (some (.cst (.int 63))))) (e := [some (.scr (ns.map .int)), none, none]) (h := h00) (h1 := h00) (cut ns none (some 63)) (fun i => PV.d (.int i)) (fun i => .int ((i.natAbs : Nat) : Int))
      (by simp [slc, walk1]; rfl) (by rw [cut_map, List.map_map]; rfl) (fun i hi => ⟨[some (.scr (ns.map .int)), none, some (.d (.int i))], by simp [store, wipe], by simp⟩) (by have := @cut_len _ ns none (some 63); omega)
    have ec : ((cut ns none (some 63)).map fun i => PyData.int ((i.natAbs : Nat) : Int)) = (cells ns).map PyData.int := by simp [cells]
    rw [ec] at c
    have z1 : szOk 7 = true := by decide
    have z2 : szOk ((cells ns).length : Int) = true := szOk_of (n := 20) (Lt_of (by omega)) (by decide)
    rw [call_run eh]
    simp [-ev_comp, handB, run, back, c, lnOk, newO, z1, z2, hnd]
    simp [h00]
  · obtain ⟨i, hi, rfl⟩ := List.mem_map.mp hx
    have hi' := cut_mem hi
    have := bits_lt (hb i hi')
    exact ⟨by omega, by unfold Lt at *; simpa using this⟩
/-- what comes of a clean def's body -/
noncomputable def finC (h : Hv) : Res NC.Flow → Res PV
  | .ok (.ret v) h1 => back true h v h1
  | .ok (.nx _) h1 => back true h (.d .none) h1
  | .ok _ _ => .bad
  | .exc c fs h1 => .exc c fs ⟨h1.os.take h.os.length, h.lim⟩
  | .bad => .bad
theorem run_finC {G : Gls} {C : Fns} {f : Df} {vs : List PV} {h : Hv} (hc : f.cl = true) (hl : vs.length = f.np) : run G C f vs h = finC h (execs G C f.body (vs.map some ++ List.replicate (f.ns - f.np) none) ⟨h.os, h.os.length⟩) := by
  simp only [run, hl, hc, if_true]
  unfold finC
  rfl
theorem finC_d {h : Hv} {n : Nat} {o : Ob} {x : PyData} : finC h (.ok (.ret (.d x)) (setO ⟨h.os, h.os.length⟩ n o)) = .ok (.d x) (setO h n o) := by
  simp [finC, back, setO]
  exact List.take_of_length_le (by simp)
end NC
namespace NC
open PySem
def Ev2 (a0 a1 : Option PV) : NC.Env := [a0, a1]
section
variable {a0 a1 x : Option PV}
@[simp] theorem Ev2_l : (Ev2 a0 a1).length = 2 := rfl
@[simp] theorem Ev2_g0 : (Ev2 a0 a1)[0]? = some a0 := rfl
@[simp] theorem Ev2_s0 : (Ev2 a0 a1).set 0 x = Ev2 x a1 := rfl
@[simp] theorem Ev2_g1 : (Ev2 a0 a1)[1]? = some a1 := rfl
@[simp] theorem Ev2_s1 : (Ev2 a0 a1).set 1 x = Ev2 a0 x := rfl
end
def Ev3 (a0 a1 a2 : Option PV) : NC.Env := [a0, a1, a2]
section
variable {a0 a1 a2 x : Option PV}
@[simp] theorem Ev3_l : (Ev3 a0 a1 a2).length = 3 := rfl
@[simp] theorem Ev3_g0 : (Ev3 a0 a1 a2)[0]? = some a0 := rfl
@[simp] theorem Ev3_s0 : (Ev3 a0 a1 a2).set 0 x = Ev3 x a1 a2 := rfl
@[simp] theorem Ev3_g1 : (Ev3 a0 a1 a2)[1]? = some a1 := rfl
@[simp] theorem Ev3_s1 : (Ev3 a0 a1 a2).set 1 x = Ev3 a0 x a2 := rfl
@[simp] theorem Ev3_g2 : (Ev3 a0 a1 a2)[2]? = some a2 := rfl
@[simp] theorem Ev3_s2 : (Ev3 a0 a1 a2).set 2 x = Ev3 a0 a1 x := rfl
end
def Ev4 (a0 a1 a2 a3 : Option PV) : NC.Env := [a0, a1, a2, a3]
section
variable {a0 a1 a2 a3 x : Option PV}
@[simp] theorem Ev4_l : (Ev4 a0 a1 a2 a3).length = 4 := rfl
@[simp] theorem Ev4_g0 : (Ev4 a0 a1 a2 a3)[0]? = some a0 := rfl
@[simp] theorem Ev4_s0 : (Ev4 a0 a1 a2 a3).set 0 x = Ev4 x a1 a2 a3 := rfl
@[simp] theorem Ev4_g1 : (Ev4 a0 a1 a2 a3)[1]? = some a1 := rfl
@[simp] theorem Ev4_s1 : (Ev4 a0 a1 a2 a3).set 1 x = Ev4 a0 x a2 a3 := rfl
@[simp] theorem Ev4_g2 : (Ev4 a0 a1 a2 a3)[2]? = some a2 := rfl
@[simp] theorem Ev4_s2 : (Ev4 a0 a1 a2 a3).set 2 x = Ev4 a0 a1 x a3 := rfl
@[simp] theorem Ev4_g3 : (Ev4 a0 a1 a2 a3)[3]? = some a3 := rfl
@[simp] theorem Ev4_s3 : (Ev4 a0 a1 a2 a3).set 3 x = Ev4 a0 a1 a2 x := rfl
end
def Ev5 (a0 a1 a2 a3 a4 : Option PV) : NC.Env := [a0, a1, a2, a3, a4]
section
variable {a0 a1 a2 a3 a4 x : Option PV}
@[simp] theorem Ev5_l : (Ev5 a0 a1 a2 a3 a4).length = 5 := rfl
@[simp] theorem Ev5_g0 : (Ev5 a0 a1 a2 a3 a4)[0]? = some a0 := rfl
@[simp] theorem Ev5_s0 : (Ev5 a0 a1 a2 a3 a4).set 0 x = Ev5 x a1 a2 a3 a4 := rfl
@[simp] theorem Ev5_g1 : (Ev5 a0 a1 a2 a3 a4)[1]? = some a1 := rfl
@[simp] theorem Ev5_s1 : (Ev5 a0 a1 a2 a3 a4).set 1 x = Ev5 a0 x a2 a3 a4 := rfl
@[simp] theorem Ev5_g2 : (Ev5 a0 a1 a2 a3 a4)[2]? = some a2 := rfl
@[simp] theorem Ev5_s2 : (Ev5 a0 a1 a2 a3 a4).set 2 x = Ev5 a0 a1 x a3 a4 := rfl
@[simp] theorem Ev5_g3 : (Ev5 a0 a1 a2 a3 a4)[3]? = some a3 := rfl
@[simp] theorem Ev5_s3 : (Ev5 a0 a1 a2 a3 a4).set 3 x = Ev5 a0 a1 a2 x a4 := rfl
@[simp] theorem Ev5_g4 : (Ev5 a0 a1 a2 a3 a4)[4]? = some a4 := rfl
@[simp] theorem Ev5_s4 : (Ev5 a0 a1 a2 a3 a4).set 4 x = Ev5 a0 a1 a2 a3 x := rfl
end
def Ev6 (a0 a1 a2 a3 a4 a5 : Option PV) : NC.Env := [a0, a1, a2, a3, a4, a5]
section
variable {a0 a1 a2 a3 a4 a5 x : Option PV}
@[simp] theorem Ev6_l : (Ev6 a0 a1 a2 a3 a4 a5).length = 6 := rfl
@[simp] theorem Ev6_g0 : (Ev6 a0 a1 a2 a3 a4 a5)[0]? = some a0 := rfl
@[simp] theorem Ev6_s0 : (Ev6 a0 a1 a2 a3 a4 a5).set 0 x = Ev6 x a1 a2 a3 a4 a5 := rfl
@[simp] theorem Ev6_g1 : (Ev6 a0 a1 a2 a3 a4 a5)[1]? = some a1 := rfl
@[simp] theorem Ev6_s1 : (Ev6 a0 a1 a2 a3 a4 a5).set 1 x = Ev6 a0 x a2 a3 a4 a5 := rfl
@[simp] theorem Ev6_g2 : (Ev6 a0 a1 a2 a3 a4 a5)[2]? = some a2 := rfl
@[simp] theorem Ev6_s2 : (Ev6 a0 a1 a2 a3 a4 a5).set 2 x = Ev6 a0 a1 x a3 a4 a5 := rfl
@[simp] theorem Ev6_g3 : (Ev6 a0 a1 a2 a3 a4 a5)[3]? = some a3 := rfl
@[simp] theorem Ev6_s3 : (Ev6 a0 a1 a2 a3 a4 a5).set 3 x = Ev6 a0 a1 a2 x a4 a5 := rfl
@[simp] theorem Ev6_g4 : (Ev6 a0 a1 a2 a3 a4 a5)[4]? = some a4 := rfl
@[simp] theorem Ev6_s4 : (Ev6 a0 a1 a2 a3 a4 a5).set 4 x = Ev6 a0 a1 a2 a3 x a5 := rfl
@[simp] theorem Ev6_g5 : (Ev6 a0 a1 a2 a3 a4 a5)[5]? = some a5 := rfl
@[simp] theorem Ev6_s5 : (Ev6 a0 a1 a2 a3 a4 a5).set 5 x = Ev6 a0 a1 a2 a3 a4 x := rfl
end
def Ev7 (a0 a1 a2 a3 a4 a5 a6 : Option PV) : NC.Env := [a0, a1, a2, a3, a4, a5, a6]
section
variable {a0 a1 a2 a3 a4 a5 a6 x : Option PV}
@[simp] theorem Ev7_l : (Ev7 a0 a1 a2 a3 a4 a5 a6).length = 7 := rfl
@[simp] theorem Ev7_g0 : (Ev7 a0 a1 a2 a3 a4 a5 a6)[0]? = some a0 := rfl
@[simp] theorem Ev7_s0 : (Ev7 a0 a1 a2 a3 a4 a5 a6).set 0 x = Ev7 x a1 a2 a3 a4 a5 a6 := rfl
@[simp] theorem Ev7_g1 : (Ev7 a0 a1 a2 a3 a4 a5 a6)[1]? = some a1 := rfl
@[simp] theorem Ev7_s1 : (Ev7 a0 a1 a2 a3 a4 a5 a6).set 1 x = Ev7 a0 x a2 a3 a4 a5 a6 := rfl
@[simp] theorem Ev7_g2 : (Ev7 a0 a1 a2 a3 a4 a5 a6)[2]? = some a2 := rfl
@[simp] theorem Ev7_s2 : (Ev7 a0 a1 a2 a3 a4 a5 a6).set 2 x = Ev7 a0 a1 x a3 a4 a5 a6 := rfl
@[simp] theorem Ev7_g3 : (Ev7 a0 a1 a2 a3 a4 a5 a6)[3]? = some a3 := rfl
@[simp] theorem Ev7_s3 : (Ev7 a0 a1 a2 a3 a4 a5 a6).set 3 x = Ev7 a0 a1 a2 x a4 a5 a6 := rfl
@[simp] theorem Ev7_g4 : (Ev7 a0 a1 a2 a3 a4 a5 a6)[4]? = some a4 := rfl
@[simp] theorem Ev7_s4 : (Ev7 a0 a1 a2 a3 a4 a5 a6).set 4 x = Ev7 a0 a1 a2 a3 x a5 a6 := rfl
@[simp] theorem Ev7_g5 : (Ev7 a0 a1 a2 a3 a4 a5 a6)[5]? = some a5 := rfl
@[simp] theorem Ev7_s5 : (Ev7 a0 a1 a2 a3 a4 a5 a6).set 5 x = Ev7 a0 a1 a2 a3 a4 x a6 := rfl
@[simp] theorem Ev7_g6 : (Ev7 a0 a1 a2 a3 a4 a5 a6)[6]? = some a6 := rfl
@[simp] theorem Ev7_s6 : (Ev7 a0 a1 a2 a3 a4 a5 a6).set 6 x = Ev7 a0 a1 a2 a3 a4 a5 x := rfl
end
def Ev8 (a0 a1 a2 a3 a4 a5 a6 a7 : Option PV) : NC.Env := [a0, a1, a2, a3, a4, a5, a6, a7]
section
variable {a0 a1 a2 a3 a4 a5 a6 a7 x : Option PV}
@[simp] theorem Ev8_l : (Ev8 a0 a1 a2 a3 a4 a5 a6 a7).length = 8 := rfl
@[simp] theorem Ev8_g0 : (Ev8 a0 a1 a2 a3 a4 a5 a6 a7)[0]? = some a0 := rfl
@[simp] theorem Ev8_s0 : (Ev8 a0 a1 a2 a3 a4 a5 a6 a7).set 0 x = Ev8 x a1 a2 a3 a4 a5 a6 a7 := rfl
@[simp] theorem Ev8_g1 : (Ev8 a0 a1 a2 a3 a4 a5 a6 a7)[1]? = some a1 := rfl
@[simp] theorem Ev8_s1 : (Ev8 a0 a1 a2 a3 a4 a5 a6 a7).set 1 x = Ev8 a0 x a2 a3 a4 a5 a6 a7 := rfl
@[simp] theorem Ev8_g2 : (Ev8 a0 a1 a2 a3 a4 a5 a6 a7)[2]? = some a2 := rfl
@[simp] theorem Ev8_s2 : (Ev8 a0 a1 a2 a3 a4 a5 a6 a7).set 2 x = Ev8 a0 a1 x a3 a4 a5 a6 a7 := rfl
@[simp] theorem Ev8_g3 : (Ev8 a0 a1 a2 a3 a4 a5 a6 a7)[3]? = some a3 := rfl
@[simp] theorem Ev8_s3 : (Ev8 a0 a1 a2 a3 a4 a5 a6 a7).set 3 x = Ev8 a0 a1 a2 x a4 a5 a6 a7 := rfl
@[simp] theorem Ev8_g4 : (Ev8 a0 a1 a2 a3 a4 a5 a6 a7)[4]? = some a4 := rfl
@[simp] theorem Ev8_s4 : (Ev8 a0 a1 a2 a3 a4 a5 a6 a7).set 4 x = Ev8 a0 a1 a2 a3 x a5 a6 a7 := rfl
@[simp] theorem Ev8_g5 : (Ev8 a0 a1 a2 a3 a4 a5 a6 a7)[5]? = some a5 := rfl
@[simp] theorem Ev8_s5 : (Ev8 a0 a1 a2 a3 a4 a5 a6 a7).set 5 x = Ev8 a0 a1 a2 a3 a4 x a6 a7 := rfl
@[simp] theorem Ev8_g6 : (Ev8 a0 a1 a2 a3 a4 a5 a6 a7)[6]? = some a6 := rfl
@[simp] theorem Ev8_s6 : (Ev8 a0 a1 a2 a3 a4 a5 a6 a7).set 6 x = Ev8 a0 a1 a2 a3 a4 a5 x a7 := rfl
@[simp] theorem Ev8_g7 : (Ev8 a0 a1 a2 a3 a4 a5 a6 a7)[7]? = some a7 := rfl
@[simp] theorem Ev8_s7 : (Ev8 a0 a1 a2 a3 a4 a5 a6 a7).set 7 x = Ev8 a0 a1 a2 a3 a4 a5 a6 x := rfl
end
def Ev9 (a0 a1 a2 a3 a4 a5 a6 a7 a8 : Option PV) : NC.Env := [a0, a1, a2, a3, a4, a5, a6, a7, a8]
section
variable {a0 a1 a2 a3 a4 a5 a6 a7 a8 x : Option PV}
@[simp] theorem Ev9_l : (Ev9 a0 a1 a2 a3 a4 a5 a6 a7 a8).length = 9 := rfl
@[simp] theorem Ev9_g0 : (Ev9 a0 a1 a2 a3 a4 a5 a6 a7 a8)[0]? = some a0 := rfl
@[simp] theorem Ev9_s0 : (Ev9 a0 a1 a2 a3 a4 a5 a6 a7 a8).set 0 x = Ev9 x a1 a2 a3 a4 a5 a6 a7 a8 := rfl
@[simp] theorem Ev9_g1 : (Ev9 a0 a1 a2 a3 a4 a5 a6 a7 a8)[1]? = some a1 := rfl
@[simp] theorem Ev9_s1 : (Ev9 a0 a1 a2 a3 a4 a5 a6 a7 a8).set 1 x = Ev9 a0 x a2 a3 a4 a5 a6 a7 a8 := rfl
@[simp] theorem Ev9_g2 : (Ev9 a0 a1 a2 a3 a4 a5 a6 a7 a8)[2]? = some a2 := rfl
@[simp] theorem Ev9_s2 : (Ev9 a0 a1 a2 a3 a4 a5 a6 a7 a8).set 2 x = Ev9 a0 a1 x a3 a4 a5 a6 a7 a8 := rfl
@[simp] theorem Ev9_g3 : (Ev9 a0 a1 a2 a3 a4 a5 a6 a7 a8)[3]? = some a3 := rfl
@[simp] theorem Ev9_s3 : (Ev9 a0 a1 a2 a3 a4 a5 a6 a7 a8).set 3 x = Ev9 a0 a1 a2 x a4 a5 a6 a7 a8 := rfl
@[simp] theorem Ev9_g4 : (Ev9 a0 a1 a2 a3 a4 a5 a6 a7 a8)[4]? = some a4 := rfl
@[simp] theorem Ev9_s4 : (Ev9 a0 a1 a2 a3 a4 a5 a6 a7 a8).set 4 x = Ev9 a0 a1 a2 a3 x a5 a6 a7 a8 := rfl
@[simp] theorem Ev9_g5 : (Ev9 a0 a1 a2 a3 a4 a5 a6 a7 a8)[5]? = some a5 := rfl
@[simp] theorem Ev9_s5 : (Ev9 a0 a1 a2 a3 a4 a5 a6 a7 a8).set 5 x = Ev9 a0 a1 a2 a3 a4 x a6 a7 a8 := rfl
@[simp] theorem Ev9_g6 : (Ev9 a0 a1 a2 a3 a4 a5 a6 a7 a8)[6]? = some a6 := rfl
@[simp] theorem Ev9_s6 : (Ev9 a0 a1 a2 a3 a4 a5 a6 a7 a8).set 6 x = Ev9 a0 a1 a2 a3 a4 a5 x a7 a8 := rfl
@[simp] theorem Ev9_g7 : (Ev9 a0 a1 a2 a3 a4 a5 a6 a7 a8)[7]? = some a7 := rfl
@[simp] theorem Ev9_s7 : (Ev9 a0 a1 a2 a3 a4 a5 a6 a7 a8).set 7 x = Ev9 a0 a1 a2 a3 a4 a5 a6 x a8 := rfl
@[simp] theorem Ev9_g8 : (Ev9 a0 a1 a2 a3 a4 a5 a6 a7 a8)[8]? = some a8 := rfl
@[simp] theorem Ev9_s8 : (Ev9 a0 a1 a2 a3 a4 a5 a6 a7 a8).set 8 x = Ev9 a0 a1 a2 a3 a4 a5 a6 a7 x := rfl
end
def Ev10 (a0 a1 a2 a3 a4 a5 a6 a7 a8 a9 : Option PV) : NC.Env := [a0, a1, a2, a3, a4, a5, a6, a7, a8, a9]
section
variable {a0 a1 a2 a3 a4 a5 a6 a7 a8 a9 x : Option PV}
@[simp] theorem Ev10_l : (Ev10 a0 a1 a2 a3 a4 a5 a6 a7 a8 a9).length = 10 := rfl
@[simp] theorem Ev10_g0 : (Ev10 a0 a1 a2 a3 a4 a5 a6 a7 a8 a9)[0]? = some a0 := rfl
@[simp] theorem Ev10_s0 : (Ev10 a0 a1 a2 a3 a4 a5 a6 a7 a8 a9).set 0 x = Ev10 x a1 a2 a3 a4 a5 a6 a7 a8 a9 := rfl
@[simp] theorem Ev10_g1 : (Ev10 a0 a1 a2 a3 a4 a5 a6 a7 a8 a9)[1]? = some a1 := rfl
@[simp] theorem Ev10_s1 : (Ev10 a0 a1 a2 a3 a4 a5 a6 a7 a8 a9).set 1 x = Ev10 a0 x a2 a3 a4 a5 a6 a7 a8 a9 := rfl
@[simp] theorem Ev10_g2 : (Ev10 a0 a1 a2 a3 a4 a5 a6 a7 a8 a9)[2]? = some a2 := rfl
@[simp] theorem Ev10_s2 : (Ev10 a0 a1 a2 a3 a4 a5 a6 a7 a8 a9).set 2 x = Ev10 a0 a1 x a3 a4 a5 a6 a7 a8 a9 := rfl
@[simp] theorem Ev10_g3 : (Ev10 a0 a1 a2 a3 a4 a5 a6 a7 a8 a9)[3]? = some a3 := rfl
@[simp] theorem Ev10_s3 : (Ev10 a0 a1 a2 a3 a4 a5 a6 a7 a8 a9).set 3 x = Ev10 a0 a1 a2 x a4 a5 a6 a7 a8 a9 := rfl
@[simp] theorem Ev10_g4 : (Ev10 a0 a1 a2 a3 a4 a5 a6 a7 a8 a9)[4]? = some a4 := rfl
@[simp] theorem Ev10_s4 : (Ev10 a0 a1 a2 a3 a4 a5 a6 a7 a8 a9).set 4 x = Ev10 a0 a1 a2 a3 x a5 a6 a7 a8 a9 := rfl
@[simp] theorem Ev10_g5 : (Ev10 a0 a1 a2 a3 a4 a5 a6 a7 a8 a9)[5]? = some a5 := rfl
@[simp] theorem Ev10_s5 : (Ev10 a0 a1 a2 a3 a4 a5 a6 a7 a8 a9).set 5 x = Ev10 a0 a1 a2 a3 a4 x a6 a7 a8 a9 := rfl
@[simp] theorem Ev10_g6 : (Ev10 a0 a1 a2 a3 a4 a5 a6 a7 a8 a9)[6]? = some a6 := rfl
@[simp] theorem Ev10_s6 : (Ev10 a0 a1 a2 a3 a4 a5 a6 a7 a8 a9).set 6 x = Ev10 a0 a1 a2 a3 a4 a5 x a7 a8 a9 := rfl
@[simp] theorem Ev10_g7 : (Ev10 a0 a1 a2 a3 a4 a5 a6 a7 a8 a9)[7]? = some a7 := rfl
@[simp] theorem Ev10_s7 : (Ev10 a0 a1 a2 a3 a4 a5 a6 a7 a8 a9).set 7 x = Ev10 a0 a1 a2 a3 a4 a5 a6 x a8 a9 := rfl
@[simp] theorem Ev10_g8 : (Ev10 a0 a1 a2 a3 a4 a5 a6 a7 a8 a9)[8]? = some a8 := rfl
@[simp] theorem Ev10_s8 : (Ev10 a0 a1 a2 a3 a4 a5 a6 a7 a8 a9).set 8 x = Ev10 a0 a1 a2 a3 a4 a5 a6 a7 x a9 := rfl
@[simp] theorem Ev10_g9 : (Ev10 a0 a1 a2 a3 a4 a5 a6 a7 a8 a9)[9]? = some a9 := rfl
@[simp] theorem Ev10_s9 : (Ev10 a0 a1 a2 a3 a4 a5 a6 a7 a8 a9).set 9 x = Ev10 a0 a1 a2 a3 a4 a5 a6 a7 a8 x := rfl
end
def Ev11 (a0 a1 a2 a3 a4 a5 a6 a7 a8 a9 a10 : Option PV) : NC.Env := [a0, a1, a2, a3, a4, a5, a6, a7, a8, a9, a10]
section
variable {a0 a1 a2 a3 a4 a5 a6 a7 a8 a9 a10 x : Option PV}
@[simp] theorem Ev11_l : (Ev11 a0 a1 a2 a3 a4 a5 a6 a7 a8 a9 a10).length = 11 := rfl
@[simp] theorem Ev11_g0 : (Ev11 a0 a1 a2 a3 a4 a5 a6 a7 a8 a9 a10)[0]? = some a0 := rfl
@[simp] theorem Ev11_s0 : (Ev11 a0 a1 a2 a3 a4 a5 a6 a7 a8 a9 a10).set 0 x = Ev11 x a1 a2 a3 a4 a5 a6 a7 a8 a9 a10 := rfl
@[simp] theorem Ev11_g1 : (Ev11 a0 a1 a2 a3 a4 a5 a6 a7 a8 a9 a10)[1]? = some a1 := rfl
@[simp] theorem Ev11_s1 : (Ev11 a0 a1 a2 a3 a4 a5 a6 a7 a8 a9 a10).set 1 x = Ev11 a0 x a2 a3 a4 a5 a6 a7 a8 a9 a10 := rfl
@[simp] theorem Ev11_g2 : (Ev11 a0 a1 a2 a3 a4 a5 a6 a7 a8 a9 a10)[2]? = some a2 := rfl
@[simp] theorem Ev11_s2 : (Ev11 a0 a1 a2 a3 a4 a5 a6 a7 a8 a9 a10).set 2 x = Ev11 a0 a1 x a3 a4 a5 a6 a7 a8 a9 a10 := rfl
@[simp] theorem Ev11_g3 : (Ev11 a0 a1 a2 a3 a4 a5 a6 a7 a8 a9 a10)[3]? = some a3 := rfl
@[simp] theorem Ev11_s3 : (Ev11 a0 a1 a2 a3 a4 a5 a6 a7 a8 a9 a10).set 3 x = Ev11 a0 a1 a2 x a4 a5 a6 a7 a8 a9 a10 := rfl
@[simp] theorem Ev11_g4 : (Ev11 a0 a1 a2 a3 a4 a5 a6 a7 a8 a9 a10)[4]? = some a4 := rfl
@[simp] theorem Ev11_s4 : (Ev11 a0 a1 a2 a3 a4 a5 a6 a7 a8 a9 a10).set 4 x = Ev11 a0 a1 a2 a3 x a5 a6 a7 a8 a9 a10 := rfl
@[simp] theorem Ev11_g5 : (Ev11 a0 a1 a2 a3 a4 a5 a6 a7 a8 a9 a10)[5]? = some a5 := rfl
@[simp] theorem Ev11_s5 : (Ev11 a0 a1 a2 a3 a4 a5 a6 a7 a8 a9 a10).set 5 x = Ev11 a0 a1 a2 a3 a4 x a6 a7 a8 a9 a10 := rfl
@[simp] theorem Ev11_g6 : (Ev11 a0 a1 a2 a3 a4 a5 a6 a7 a8 a9 a10)[6]? = some a6 := rfl
@[simp] theorem Ev11_s6 : (Ev11 a0 a1 a2 a3 a4 a5 a6 a7 a8 a9 a10).set 6 x = Ev11 a0 a1 a2 a3 a4 a5 x a7 a8 a9 a10 := rfl
@[simp] theorem Ev11_g7 : (Ev11 a0 a1 a2 a3 a4 a5 a6 a7 a8 a9 a10)[7]? = some a7 := rfl
@[simp] theorem Ev11_s7 : (Ev11 a0 a1 a2 a3 a4 a5 a6 a7 a8 a9 a10).set 7 x = Ev11 a0 a1 a2 a3 a4 a5 a6 x a8 a9 a10 := rfl
@[simp] theorem Ev11_g8 : (Ev11 a0 a1 a2 a3 a4 a5 a6 a7 a8 a9 a10)[8]? = some a8 := rfl
@[simp] theorem Ev11_s8 : (Ev11 a0 a1 a2 a3 a4 a5 a6 a7 a8 a9 a10).set 8 x = Ev11 a0 a1 a2 a3 a4 a5 a6 a7 x a9 a10 := rfl
@[simp] theorem Ev11_g9 : (Ev11 a0 a1 a2 a3 a4 a5 a6 a7 a8 a9 a10)[9]? = some a9 := rfl
@[simp] theorem Ev11_s9 : (Ev11 a0 a1 a2 a3 a4 a5 a6 a7 a8 a9 a10).set 9 x = Ev11 a0 a1 a2 a3 a4 a5 a6 a7 a8 x a10 := rfl
@[simp] theorem Ev11_g10 : (Ev11 a0 a1 a2 a3 a4 a5 a6 a7 a8 a9 a10)[10]? = some a10 := rfl
@[simp] theorem Ev11_s10 : (Ev11 a0 a1 a2 a3 a4 a5 a6 a7 a8 a9 a10).set 10 x = Ev11 a0 a1 a2 a3 a4 a5 a6 a7 a8 a9 x := rfl
end
def Ev12 (a0 a1 a2 a3 a4 a5 a6 a7 a8 a9 a10 a11 : Option PV) : NC.Env := [a0, a1, a2, a3, a4, a5, a6, a7, a8, a9, a10, a11]
section
variable {a0 a1 a2 a3 a4 a5 a6 a7 a8 a9 a10 a11 x : Option PV}
@[simp] theorem Ev12_l : (Ev12 a0 a1 a2 a3 a4 a5 a6 a7 a8 a9 a10 a11).length = 12 := rfl
@[simp] theorem Ev12_g0 : (Ev12 a0 a1 a2 a3 a4 a5 a6 a7 a8 a9 a10 a11)[0]? = some a0 := rfl
@[simp] theorem Ev12_s0 : (Ev12 a0 a1 a2 a3 a4 a5 a6 a7 a8 a9 a10 a11).set 0 x = Ev12 x a1 a2 a3 a4 a5 a6 a7 a8 a9 a10 a11 := rfl
@[simp] theorem Ev12_g1 : (Ev12 a0 a1 a2 a3 a4 a5 a6 a7 a8 a9 a10 a11)[1]? = some a1 := rfl
@[simp] theorem Ev12_s1 : (Ev12 a0 a1 a2 a3 a4 a5 a6 a7 a8 a9 a10 a11).set 1 x = Ev12 a0 x a2 a3 a4 a5 a6 a7 a8 a9 a10 a11 := rfl
@[simp] theorem Ev12_g2 : (Ev12 a0 a1 a2 a3 a4 a5 a6 a7 a8 a9 a10 a11)[2]? = some a2 := rfl
@[simp] theorem Ev12_s2 : (Ev12 a0 a1 a2 a3 a4 a5 a6 a7 a8 a9 a10 a11).set 2 x = Ev12 a0 a1 x a3 a4 a5 a6 a7 a8 a9 a10 a11 := rfl
@[simp] theorem Ev12_g3 : (Ev12 a0 a1 a2 a3 a4 a5 a6 a7 a8 a9 a10 a11)[3]? = some a3 := rfl
@[simp] theorem Ev12_s3 : (Ev12 a0 a1 a2 a3 a4 a5 a6 a7 a8 a9 a10 a11).set 3 x = Ev12 a0 a1 a2 x a4 a5 a6 a7 a8 a9 a10 a11 := rfl
@[simp] theorem Ev12_g4 : (Ev12 a0 a1 a2 a3 a4 a5 a6 a7 a8 a9 a10 a11)[4]? = some a4 := rfl
@[simp] theorem Ev12_s4 : (Ev12 a0 a1 a2 a3 a4 a5 a6 a7 a8 a9 a10 a11).set 4 x = Ev12 a0 a1 a2 a3 x a5 a6 a7 a8 a9 a10 a11 := rfl
@[simp] theorem Ev12_g5 : (Ev12 a0 a1 a2 a3 a4 a5 a6 a7 a8 a9 a10 a11)[5]? = some a5 := rfl
@[simp] theorem Ev12_s5 : (Ev12 a0 a1 a2 a3 a4 a5 a6 a7 a8 a9 a10 a11).set 5 x = Ev12 a0 a1 a2 a3 a4 x a6 a7 a8 a9 a10 a11 := rfl
@[simp] theorem Ev12_g6 : (Ev12 a0 a1 a2 a3 a4 a5 a6 a7 a8 a9 a10 a11)[6]? = some a6 := rfl
@[simp] theorem Ev12_s6 : (Ev12 a0 a1 a2 a3 a4 a5 a6 a7 a8 a9 a10 a11).set 6 x = Ev12 a0 a1 a2 a3 a4 a5 x a7 a8 a9 a10 a11 := rfl
@[simp] theorem Ev12_g7 : (Ev12 a0 a1 a2 a3 a4 a5 a6 a7 a8 a9 a10 a11)[7]? = some a7 := rfl
@[simp] theorem Ev12_s7 : (Ev12 a0 a1 a2 a3 a4 a5 a6 a7 a8 a9 a10 a11).set 7 x = Ev12 a0 a1 a2 a3 a4 a5 a6 x a8 a9 a10 a11 := rfl
@[simp] theorem Ev12_g8 : (Ev12 a0 a1 a2 a3 a4 a5 a6 a7 a8 a9 a10 a11)[8]? = some a8 := rfl
@[simp] theorem Ev12_s8 : (Ev12 a0 a1 a2 a3 a4 a5 a6 a7 a8 a9 a10 a11).set 8 x = Ev12 a0 a1 a2 a3 a4 a5 a6 a7 x a9 a10 a11 := rfl
@[simp] theorem Ev12_g9 : (Ev12 a0 a1 a2 a3 a4 a5 a6 a7 a8 a9 a10 a11)[9]? = some a9 := rfl
@[simp] theorem Ev12_s9 : (Ev12 a0 a1 a2 a3 a4 a5 a6 a7 a8 a9 a10 a11).set 9 x = Ev12 a0 a1 a2 a3 a4 a5 a6 a7 a8 x a10 a11 := rfl
@[simp] theorem Ev12_g10 : (Ev12 a0 a1 a2 a3 a4 a5 a6 a7 a8 a9 a10 a11)[10]? = some a10 := rfl
@[simp] theorem Ev12_s10 : (Ev12 a0 a1 a2 a3 a4 a5 a6 a7 a8 a9 a10 a11).set 10 x = Ev12 a0 a1 a2 a3 a4 a5 a6 a7 a8 a9 x a11 := rfl
@[simp] theorem Ev12_g11 : (Ev12 a0 a1 a2 a3 a4 a5 a6 a7 a8 a9 a10 a11)[11]? = some a11 := rfl
@[simp] theorem Ev12_s11 : (Ev12 a0 a1 a2 a3 a4 a5 a6 a7 a8 a9 a10 a11).set 11 x = Ev12 a0 a1 a2 a3 a4 a5 a6 a7 a8 a9 a10 x := rfl
end
def Ev13 (a0 a1 a2 a3 a4 a5 a6 a7 a8 a9 a10 a11 a12 : Option PV) : NC.Env := [a0, a1, a2, a3, a4, a5, a6, a7, a8, a9, a10, a11, a12]
section
variable {a0 a1 a2 a3 a4 a5 a6 a7 a8 a9 a10 a11 a12 x : Option PV}
@[simp] theorem Ev13_l : (Ev13 a0 a1 a2 a3 a4 a5 a6 a7 a8 a9 a10 a11 a12).length = 13 := rfl
@[simp] theorem Ev13_g0 : (Ev13 a0 a1 a2 a3 a4 a5 a6 a7 a8 a9 a10 a11 a12)[0]? = some a0 := rfl
@[simp] theorem Ev13_s0 : (Ev13 a0 a1 a2 a3 a4 a5 a6 a7 a8 a9 a10 a11 a12).set 0 x = Ev13 x a1 a2 a3 a4 a5 a6 a7 a8 a9 a10 a11 a12 := rfl
@[simp] theorem Ev13_g1 : (Ev13 a0 a1 a2 a3 a4 a5 a6 a7 a8 a9 a10 a11 a12)[1]? = some a1 := rfl
@[simp] theorem Ev13_s1 : (Ev13 a0 a1 a2 a3 a4 a5 a6 a7 a8 a9 a10 a11 a12).set 1 x = Ev13 a0 x a2 a3 a4 a5 a6 a7 a8 a9 a10 a11 a12 := rfl
@[simp] theorem Ev13_g2 : (Ev13 a0 a1 a2 a3 a4 a5 a6 a7 a8 a9 a10 a11 a12)[2]? = some a2 := rfl
@[simp] theorem Ev13_s2 : (Ev13 a0 a1 a2 a3 a4 a5 a6 a7 a8 a9 a10 a11 a12).set 2 x = Ev13 a0 a1 x a3 a4 a5 a6 a7 a8 a9 a10 a11 a12 := rfl
@[simp] theorem Ev13_g3 : (Ev13 a0 a1 a2 a3 a4 a5 a6 a7 a8 a9 a10 a11 a12)[3]? = some a3 := rfl
@[simp] theorem Ev13_s3 : (Ev13 a0 a1 a2 a3 a4 a5 a6 a7 a8 a9 a10 a11 a12).set 3 x = Ev13 a0 a1 a2 x a4 a5 a6 a7 a8 a9 a10 a11 a12 := rfl
@[simp] theorem Ev13_g4 : (Ev13 a0 a1 a2 a3 a4 a5 a6 a7 a8 a9 a10 a11 a12)[4]? = some a4 := rfl
@[simp] theorem Ev13_s4 : (Ev13 a0 a1 a2 a3 a4 a5 a6 a7 a8 a9 a10 a11 a12).set 4 x = Ev13 a0 a1 a2 a3 x a5 a6 a7 a8 a9 a10 a11 a12 := rfl
@[simp] theorem Ev13_g5 : (Ev13 a0 a1 a2 a3 a4 a5 a6 a7 a8 a9 a10 a11 a12)[5]? = some a5 := rfl
@[simp] theorem Ev13_s5 : (Ev13 a0 a1 a2 a3 a4 a5 a6 a7 a8 a9 a10 a11 a12).set 5 x = Ev13 a0 a1 a2 a3 a4 x a6 a7 a8 a9 a10 a11 a12 := rfl
@[simp] theorem Ev13_g6 : (Ev13 a0 a1 a2 a3 a4 a5 a6 a7 a8 a9 a10 a11 a12)[6]? = some a6 := rfl
@[simp] theorem Ev13_s6 : (Ev13 a0 a1 a2 a3 a4 a5 a6 a7 a8 a9 a10 a11 a12).set 6 x = Ev13 a0 a1 a2 a3 a4 a5 x a7 a8 a9 a10 a11 a12 := rfl
@[simp] theorem Ev13_g7 : (Ev13 a0 a1 a2 a3 a4 a5 a6 a7 a8 a9 a10 a11 a12)[7]? = some a7 := rfl
@[simp] theorem Ev13_s7 : (Ev13 a0 a1 a2 a3 a4 a5 a6 a7 a8 a9 a10 a11 a12).set 7 x = Ev13 a0 a1 a2 a3 a4 a5 a6 x a8 a9 a10 a11 a12 := rfl
@[simp] theorem Ev13_g8 : (Ev13 a0 a1 a2 a3 a4 a5 a6 a7 a8 a9 a10 a11 a12)[8]? = some a8 := rfl
@[simp] theorem Ev13_s8 : (Ev13 a0 a1 a2 a3 a4 a5 a6 a7 a8 a9 a10 a11 a12).set 8 x = Ev13 a0 a1 a2 a3 a4 a5 a6 a7 x a9 a10 a11 a12 := rfl
@[simp] theorem Ev13_g9 : (Ev13 a0 a1 a2 a3 a4 a5 a6 a7 a8 a9 a10 a11 a12)[9]? = some a9 := rfl
@[simp] theorem Ev13_s9 : (Ev13 a0 a1 a2 a3 a4 a5 a6 a7 a8 a9 a10 a11 a12).set 9 x = Ev13 a0 a1 a2 a3 a4 a5 a6 a7 a8 x a10 a11 a12 := rfl
@[simp] theorem Ev13_g10 : (Ev13 a0 a1 a2 a3 a4 a5 a6 a7 a8 a9 a10 a11 a12)[10]? = some a10 := rfl
@[simp] theorem Ev13_s10 : (Ev13 a0 a1 a2 a3 a4 a5 a6 a7 a8 a9 a10 a11 a12).set 10 x = Ev13 a0 a1 a2 a3 a4 a5 a6 a7 a8 a9 x a11 a12 := rfl
@[simp] theorem Ev13_g11 : (Ev13 a0 a1 a2 a3 a4 a5 a6 a7 a8 a9 a10 a11 a12)[11]? = some a11 := rfl
@[simp] theorem Ev13_s11 : (Ev13 a0 a1 a2 a3 a4 a5 a6 a7 a8 a9 a10 a11 a12).set 11 x = Ev13 a0 a1 a2 a3 a4 a5 a6 a7 a8 a9 a10 x a12 := rfl
@[simp] theorem Ev13_g12 : (Ev13 a0 a1 a2 a3 a4 a5 a6 a7 a8 a9 a10 a11 a12)[12]? = some a12 := rfl
@[simp] theorem Ev13_s12 : (Ev13 a0 a1 a2 a3 a4 a5 a6 a7 a8 a9 a10 a11 a12).set 12 x = Ev13 a0 a1 a2 a3 a4 a5 a6 a7 a8 a9 a10 a11 x := rfl
end
def Ev14 (a0 a1 a2 a3 a4 a5 a6 a7 a8 a9 a10 a11 a12 a13 : Option PV) : NC.Env := [a0, a1, a2, a3, a4, a5, a6, a7, a8, a9, a10, a11, a12, a13]
section
variable {a0 a1 a2 a3 a4 a5 a6 a7 a8 a9 a10 a11 a12 a13 x : Option PV}
@[simp] theorem Ev14_l : (Ev14 a0 a1 a2 a3 a4 a5 a6 a7 a8 a9 a10 a11 a12 a13).length = 14 := rfl
@[simp] theorem Ev14_g0 : (Ev14 a0 a1 a2 a3 a4 a5 a6 a7 a8 a9 a10 a11 a12 a13)[0]? = some a0 := rfl
@[simp] theorem Ev14_s0 : (Ev14 a0 a1 a2 a3 a4 a5 a6 a7 a8 a9 a10 a11 a12 a13).set 0 x = Ev14 x a1 a2 a3 a4 a5 a6 a7 a8 a9 a10 a11 a12 a13 := rfl
@[simp] theorem Ev14_g1 : (Ev14 a0 a1 a2 a3 a4 a5 a6 a7 a8 a9 a10 a11 a12 a13)[1]? = some a1 := rfl
@[simp] theorem Ev14_s1 : (Ev14 a0 a1 a2 a3 a4 a5 a6 a7 a8 a9 a10 a11 a12 a13).set 1 x = Ev14 a0 x a2 a3 a4 a5 a6 a7 a8 a9 a10 a11 a12 a13 := rfl
@[simp] theorem Ev14_g2 : (Ev14 a0 a1 a2 a3 a4 a5 a6 a7 a8 a9 a10 a11 a12 a13)[2]? = some a2 := rfl
@[simp] theorem Ev14_s2 : (Ev14 a0 a1 a2 a3 a4 a5 a6 a7 a8 a9 a10 a11 a12 a13).set 2 x = Ev14 a0 a1 x a3 a4 a5 a6 a7 a8 a9 a10 a11 a12 a13 := rfl
@[simp] theorem Ev14_g3 : (Ev14 a0 a1 a2 a3 a4 a5 a6 a7 a8 a9 a10 a11 a12 a13)[3]? = some a3 := rfl
@[simp] theorem Ev14_s3 : (Ev14 a0 a1 a2 a3 a4 a5 a6 a7 a8 a9 a10 a11 a12 a13).set 3 x = Ev14 a0 a1 a2 x a4 a5 a6 a7 a8 a9 a10 a11 a12 a13 := rfl
@[simp] theorem Ev14_g4 : (Ev14 a0 a1 a2 a3 a4 a5 a6 a7 a8 a9 a10 a11 a12 a13)[4]? = some a4 := rfl
@[simp] theorem Ev14_s4 : (Ev14 a0 a1 a2 a3 a4 a5 a6 a7 a8 a9 a10 a11 a12 a13).set 4 x = Ev14 a0 a1 a2 a3 x a5 a6 a7 a8 a9 a10 a11 a12 a13 := rfl
@[simp] theorem Ev14_g5 : (Ev14 a0 a1 a2 a3 a4 a5 a6 a7 a8 a9 a10 a11 a12 a13)[5]? = some a5 := rfl
@[simp] theorem Ev14_s5 : (Ev14 a0 a1 a2 a3 a4 a5 a6 a7 a8 a9 a10 a11 a12 a13).set 5 x = Ev14 a0 a1 a2 a3 a4 x a6 a7 a8 a9 a10 a11 a12 a13 := rfl
@[simp] theorem Ev14_g6 : (Ev14 a0 a1 a2 a3 a4 a5 a6 a7 a8 a9 a10 a11 a12 a13)[6]? = some a6 := rfl
@[simp] theorem Ev14_s6 : (Ev14 a0 a1 a2 a3 a4 a5 a6 a7 a8 a9 a10 a11 a12 a13).set 6 x = Ev14 a0 a1 a2 a3 a4 a5 x a7 a8 a9 a10 a11 a12 a13 := rfl
@[simp] theorem Ev14_g7 : (Ev14 a0 a1 a2 a3 a4 a5 a6 a7 a8 a9 a10 a11 a12 a13)[7]? = some a7 := rfl
@[simp] theorem Ev14_s7 : (Ev14 a0 a1 a2 a3 a4 a5 a6 a7 a8 a9 a10 a11 a12 a13).set 7 x = Ev14 a0 a1 a2 a3 a4 a5 a6 x a8 a9 a10 a11 a12 a13 := rfl
@[simp] theorem Ev14_g8 : (Ev14 a0 a1 a2 a3 a4 a5 a6 a7 a8 a9 a10 a11 a12 a13)[8]? = some a8 := rfl
@[simp] theorem Ev14_s8 : (Ev14 a0 a1 a2 a3 a4 a5 a6 a7 a8 a9 a10 a11 a12 a13).set 8 x = Ev14 a0 a1 a2 a3 a4 a5 a6 a7 x a9 a10 a11 a12 a13 := rfl
@[simp] theorem Ev14_g9 : (Ev14 a0 a1 a2 a3 a4 a5 a6 a7 a8 a9 a10 a11 a12 a13)[9]? = some a9 := rfl
@[simp] theorem Ev14_s9 : (Ev14 a0 a1 a2 a3 a4 a5 a6 a7 a8 a9 a10 a11 a12 a13).set 9 x = Ev14 a0 a1 a2 a3 a4 a5 a6 a7 a8 x a10 a11 a12 a13 := rfl
@[simp] theorem Ev14_g10 : (Ev14 a0 a1 a2 a3 a4 a5 a6 a7 a8 a9 a10 a11 a12 a13)[10]? = some a10 := rfl
@[simp] theorem Ev14_s10 : (Ev14 a0 a1 a2 a3 a4 a5 a6 a7 a8 a9 a10 a11 a12 a13).set 10 x = Ev14 a0 a1 a2 a3 a4 a5 a6 a7 a8 a9 x a11 a12 a13 := rfl
@[simp] theorem Ev14_g11 : (Ev14 a0 a1 a2 a3 a4 a5 a6 a7 a8 a9 a10 a11 a12 a13)[11]? = some a11 := rfl
@[simp] theorem Ev14_s11 : (Ev14 a0 a1 a2 a3 a4 a5 a6 a7 a8 a9 a10 a11 a12 a13).set 11 x = Ev14 a0 a1 a2 a3 a4 a5 a6 a7 a8 a9 a10 x a12 a13 := rfl
@[simp] theorem Ev14_g12 : (Ev14 a0 a1 a2 a3 a4 a5 a6 a7 a8 a9 a10 a11 a12 a13)[12]? = some a12 := rfl
@[simp] theorem Ev14_s12 : (Ev14 a0 a1 a2 a3 a4 a5 a6 a7 a8 a9 a10 a11 a12 a13).set 12 x = Ev14 a0 a1 a2 a3 a4 a5 a6 a7 a8 a9 a10 a11 x a13 := rfl
@[simp] theorem Ev14_g13 : (Ev14 a0 a1 a2 a3 a4 a5 a6 a7 a8 a9 a10 a11 a12 a13)[13]? = some a13 := rfl
@[simp] theorem Ev14_s13 : (Ev14 a0 a1 a2 a3 a4 a5 a6 a7 a8 a9 a10 a11 a12 a13).set 13 x = Ev14 a0 a1 a2 a3 a4 a5 a6 a7 a8 a9 a10 a11 a12 x := rfl
end
def Ev15 (a0 a1 a2 a3 a4 a5 a6 a7 a8 a9 a10 a11 a12 a13 a14 : Option PV) : NC.Env := [a0, a1, a2, a3, a4, a5, a6, a7, a8, a9, a10, a11, a12, a13, a14]
section
variable {a0 a1 a2 a3 a4 a5 a6 a7 a8 a9 a10 a11 a12 a13 a14 x : Option PV}
@[simp] theorem Ev15_l : (Ev15 a0 a1 a2 a3 a4 a5 a6 a7 a8 a9 a10 a11 a12 a13 a14).length = 15 := rfl
@[simp] theorem Ev15_g0 : (Ev15 a0 a1 a2 a3 a4 a5 a6 a7 a8 a9 a10 a11 a12 a13 a14)[0]? = some a0 := rfl
@[simp] theorem Ev15_s0 : (Ev15 a0 a1 a2 a3 a4 a5 a6 a7 a8 a9 a10 a11 a12 a13 a14).set 0 x = Ev15 x a1 a2 a3 a4 a5 a6 a7 a8 a9 a10 a11 a12 a13 a14 := rfl
@[simp] theorem Ev15_g1 : (Ev15 a0 a1 a2 a3 a4 a5 a6 a7 a8 a9 a10 a11 a12 a13 a14)[1]? = some a1 := rfl
@[simp] theorem Ev15_s1 : (Ev15 a0 a1 a2 a3 a4 a5 a6 a7 a8 a9 a10 a11 a12 a13 a14).set 1 x = Ev15 a0 x a2 a3 a4 a5 a6 a7 a8 a9 a10 a11 a12 a13 a14 := rfl
@[simp] theorem Ev15_g2 : (Ev15 a0 a1 a2 a3 a4 a5 a6 a7 a8 a9 a10 a11 a12 a13 a14)[2]? = some a2 := rfl
@[simp] theorem Ev15_s2 : (Ev15 a0 a1 a2 a3 a4 a5 a6 a7 a8 a9 a10 a11 a12 a13 a14).set 2 x = Ev15 a0 a1 x a3 a4 a5 a6 a7 a8 a9 a10 a11 a12 a13 a14 := rfl
@[simp] theorem Ev15_g3 : (Ev15 a0 a1 a2 a3 a4 a5 a6 a7 a8 a9 a10 a11 a12 a13 a14)[3]? = some a3 := rfl
@[simp] theorem Ev15_s3 : (Ev15 a0 a1 a2 a3 a4 a5 a6 a7 a8 a9 a10 a11 a12 a13 a14).set 3 x = Ev15 a0 a1 a2 x a4 a5 a6 a7 a8 a9 a10 a11 a12 a13 a14 := rfl
@[simp] theorem Ev15_g4 : (Ev15 a0 a1 a2 a3 a4 a5 a6 a7 a8 a9 a10 a11 a12 a13 a14)[4]? = some a4 := rfl
@[simp] theorem Ev15_s4 : (Ev15 a0 a1 a2 a3 a4 a5 a6 a7 a8 a9 a10 a11 a12 a13 a14).set 4 x = Ev15 a0 a1 a2 a3 x a5 a6 a7 a8 a9 a10 a11 a12 a13 a14 := rfl
@[simp] theorem Ev15_g5 : (Ev15 a0 a1 a2 a3 a4 a5 a6 a7 a8 a9 a10 a11 a12 a13 a14)[5]? = some a5 := rfl
@[simp] theorem Ev15_s5 : (Ev15 a0 a1 a2 a3 a4 a5 a6 a7 a8 a9 a10 a11 a12 a13 a14).set 5 x = Ev15 a0 a1 a2 a3 a4 x a6 a7 a8 a9 a10 a11 a12 a13 a14 := rfl
@[simp] theorem Ev15_g6 : (Ev15 a0 a1 a2 a3 a4 a5 a6 a7 a8 a9 a10 a11 a12 a13 a14)[6]? = some a6 := rfl
@[simp] theorem Ev15_s6 : (Ev15 a0 a1 a2 a3 a4 a5 a6 a7 a8 a9 a10 a11 a12 a13 a14).set 6 x = Ev15 a0 a1 a2 a3 a4 a5 x a7 a8 a9 a10 a11 a12 a13 a14 := rfl
@[simp] theorem Ev15_g7 : (Ev15 a0 a1 a2 a3 a4 a5 a6 a7 a8 a9 a10 a11 a12 a13 a14)[7]? = some a7 := rfl
@[simp] theorem Ev15_s7 : (Ev15 a0 a1 a2 a3 a4 a5 a6 a7 a8 a9 a10 a11 a12 a13 a14).set 7 x = Ev15 a0 a1 a2 a3 a4 a5 a6 x a8 a9 a10 a11 a12 a13 a14 := rfl
@[simp] theorem Ev15_g8 : (Ev15 a0 a1 a2 a3 a4 a5 a6 a7 a8 a9 a10 a11 a12 a13 a14)[8]? = some a8 := rfl
@[simp] theorem Ev15_s8 : (Ev15 a0 a1 a2 a3 a4 a5 a6 a7 a8 a9 a10 a11 a12 a13 a14).set 8 x = Ev15 a0 a1 a2 a3 a4 a5 a6 a7 x a9 a10 a11 a12 a13 a14 := rfl
@[simp] theorem Ev15_g9 : (Ev15 a0 a1 a2 a3 a4 a5 a6 a7 a8 a9 a10 a11 a12 a13 a14)[9]? = some a9 := rfl
@[simp] theorem Ev15_s9 : (Ev15 a0 a1 a2 a3 a4 a5 a6 a7 a8 a9 a10 a11 a12 a13 a14).set 9 x = Ev15 a0 a1 a2 a3 a4 a5 a6 a7 a8 x a10 a11 a12 a13 a14 := rfl
@[simp] theorem Ev15_g10 : (Ev15 a0 a1 a2 a3 a4 a5 a6 a7 a8 a9 a10 a11 a12 a13 a14)[10]? = some a10 := rfl
@[simp] theorem Ev15_s10 : (Ev15 a0 a1 a2 a3 a4 a5 a6 a7 a8 a9 a10 a11 a12 a13 a14).set 10 x = Ev15 a0 a1 a2 a3 a4 a5 a6 a7 a8 a9 x a11 a12 a13 a14 := rfl
@[simp] theorem Ev15_g11 : (Ev15 a0 a1 a2 a3 a4 a5 a6 a7 a8 a9 a10 a11 a12 a13 a14)[11]? = some a11 := rfl
@[simp] theorem Ev15_s11 : (Ev15 a0 a1 a2 a3 a4 a5 a6 a7 a8 a9 a10 a11 a12 a13 a14).set 11 x = Ev15 a0 a1 a2 a3 a4 a5 a6 a7 a8 a9 a10 x a12 a13 a14 := rfl
@[simp] theorem Ev15_g12 : (Ev15 a0 a1 a2 a3 a4 a5 a6 a7 a8 a9 a10 a11 a12 a13 a14)[12]? = some a12 := rfl
@[simp] theorem Ev15_s12 : (Ev15 a0 a1 a2 a3 a4 a5 a6 a7 a8 a9 a10 a11 a12 a13 a14).set 12 x = Ev15 a0 a1 a2 a3 a4 a5 a6 a7 a8 a9 a10 a11 x a13 a14 := rfl
@[simp] theorem Ev15_g13 : (Ev15 a0 a1 a2 a3 a4 a5 a6 a7 a8 a9 a10 a11 a12 a13 a14)[13]? = some a13 := rfl
@[simp] theorem Ev15_s13 : (Ev15 a0 a1 a2 a3 a4 a5 a6 a7 a8 a9 a10 a11 a12 a13 a14).set 13 x = Ev15 a0 a1 a2 a3 a4 a5 a6 a7 a8 a9 a10 a11 a12 x a14 := rfl
@[simp] theorem Ev15_g14 : (Ev15 a0 a1 a2 a3 a4 a5 a6 a7 a8 a9 a10 a11 a12 a13 a14)[14]? = some a14 := rfl
@[simp] theorem Ev15_s14 : (Ev15 a0 a1 a2 a3 a4 a5 a6 a7 a8 a9 a10 a11 a12 a13 a14).set 14 x = Ev15 a0 a1 a2 a3 a4 a5 a6 a7 a8 a9 a10 a11 a12 a13 x := rfl
end
def Ev16 (a0 a1 a2 a3 a4 a5 a6 a7 a8 a9 a10 a11 a12 a13 a14 a15 : Option PV) : NC.Env := [a0, a1, a2, a3, a4, a5, a6, a7, a8, a9, a10, a11, a12, a13, a14, a15]
section
variable {a0 a1 a2 a3 a4 a5 a6 a7 a8 a9 a10 a11 a12 a13 a14 a15 x : Option PV}
@[simp] theorem Ev16_l : (Ev16 a0 a1 a2 a3 a4 a5 a6 a7 a8 a9 a10 a11 a12 a13 a14 a15).length = 16 := rfl
@[simp] theorem Ev16_g0 : (Ev16 a0 a1 a2 a3 a4 a5 a6 a7 a8 a9 a10 a11 a12 a13 a14 a15)[0]? = some a0 := rfl
@[simp] theorem Ev16_s0 : (Ev16 a0 a1 a2 a3 a4 a5 a6 a7 a8 a9 a10 a11 a12 a13 a14 a15).set 0 x = Ev16 x a1 a2 a3 a4 a5 a6 a7 a8 a9 a10 a11 a12 a13 a14 a15 := rfl
@[simp] theorem Ev16_g1 : (Ev16 a0 a1 a2 a3 a4 a5 a6 a7 a8 a9 a10 a11 a12 a13 a14 a15)[1]? = some a1 := rfl
@[simp] theorem Ev16_s1 : (Ev16 a0 a1 a2 a3 a4 a5 a6 a7 a8 a9 a10 a11 a12 a13 a14 a15).set 1 x = Ev16 a0 x a2 a3 a4 a5 a6 a7 a8 a9 a10 a11 a12 a13 a14 a15 := rfl
@[simp] theorem Ev16_g2 : (Ev16 a0 a1 a2 a3 a4 a5 a6 a7 a8 a9 a10 a11 a12 a13 a14 a15)[2]? = some a2 := rfl
@[simp] theorem Ev16_s2 : (Ev16 a0 a1 a2 a3 a4 a5 a6 a7 a8 a9 a10 a11 a12 a13 a14 a15).set 2 x = Ev16 a0 a1 x a3 a4 a5 a6 a7 a8 a9 a10 a11 a12 a13 a14 a15 := rfl
@[simp] theorem Ev16_g3 : (Ev16 a0 a1 a2 a3 a4 a5 a6 a7 a8 a9 a10 a11 a12 a13 a14 a15)[3]? = some a3 := rfl
@[simp] theorem Ev16_s3 : (Ev16 a0 a1 a2 a3 a4 a5 a6 a7 a8 a9 a10 a11 a12 a13 a14 a15).set 3 x = Ev16 a0 a1 a2 x a4 a5 a6 a7 a8 a9 a10 a11 a12 a13 a14 a15 := rfl
@[simp] theorem Ev16_g4 : (Ev16 a0 a1 a2 a3 a4 a5 a6 a7 a8 a9 a10 a11 a12 a13 a14 a15)[4]? = some a4 := rfl
@[simp] theorem Ev16_s4 : (Ev16 a0 a1 a2 a3 a4 a5 a6 a7 a8 a9 a10 a11 a12 a13 a14 a15).set 4 x = Ev16 a0 a1 a2 a3 x a5 a6 a7 a8 a9 a10 a11 a12 a13 a14 a15 := rfl
@[simp] theorem Ev16_g5 : (Ev16 a0 a1 a2 a3 a4 a5 a6 a7 a8 a9 a10 a11 a12 a13 a14 a15)[5]? = some a5 := rfl
@[simp] theorem Ev16_s5 : (Ev16 a0 a1 a2 a3 a4 a5 a6 a7 a8 a9 a10 a11 a12 a13 a14 a15).set 5 x = Ev16 a0 a1 a2 a3 a4 x a6 a7 a8 a9 a10 a11 a12 a13 a14 a15 := rfl
@[simp] theorem Ev16_g6 : (Ev16 a0 a1 a2 a3 a4 a5 a6 a7 a8 a9 a10 a11 a12 a13 a14 a15)[6]? = some a6 := rfl
@[simp] theorem Ev16_s6 : (Ev16 a0 a1 a2 a3 a4 a5 a6 a7 a8 a9 a10 a11 a12 a13 a14 a15).set 6 x = Ev16 a0 a1 a2 a3 a4 a5 x a7 a8 a9 a10 a11 a12 a13 a14 a15 := rfl
@[simp] theorem Ev16_g7 : (Ev16 a0 a1 a2 a3 a4 a5 a6 a7 a8 a9 a10 a11 a12 a13 a14 a15)[7]? = some a7 := rfl
@[simp] theorem Ev16_s7 : (Ev16 a0 a1 a2 a3 a4 a5 a6 a7 a8 a9 a10 a11 a12 a13 a14 a15).set 7 x = Ev16 a0 a1 a2 a3 a4 a5 a6 x a8 a9 a10 a11 a12 a13 a14 a15 := rfl
@[simp] theorem Ev16_g8 : (Ev16 a0 a1 a2 a3 a4 a5 a6 a7 a8 a9 a10 a11 a12 a13 a14 a15)[8]? = some a8 := rfl
@[simp] theorem Ev16_s8 : (Ev16 a0 a1 a2 a3 a4 a5 a6 a7 a8 a9 a10 a11 a12 a13 a14 a15).set 8 x = Ev16 a0 a1 a2 a3 a4 a5 a6 a7 x a9 a10 a11 a12 a13 a14 a15 := rfl
@[simp] theorem Ev16_g9 : (Ev16 a0 a1 a2 a3 a4 a5 a6 a7 a8 a9 a10 a11 a12 a13 a14 a15)[9]? = some a9 := rfl
@[simp] theorem Ev16_s9 : (Ev16 a0 a1 a2 a3 a4 a5 a6 a7 a8 a9 a10 a11 a12 a13 a14 a15).set 9 x = Ev16 a0 a1 a2 a3 a4 a5 a6 a7 a8 x a10 a11 a12 a13 a14 a15 := rfl
@[simp] theorem Ev16_g10 : (Ev16 a0 a1 a2 a3 a4 a5 a6 a7 a8 a9 a10 a11 a12 a13 a14 a15)[10]? = some a10 := rfl
@[simp] theorem Ev16_s10 : (Ev16 a0 a1 a2 a3 a4 a5 a6 a7 a8 a9 a10 a11 a12 a13 a14 a15).set 10 x = Ev16 a0 a1 a2 a3 a4 a5 a6 a7 a8 a9 x a11 a12 a13 a14 a15 := rfl
@[simp] theorem Ev16_g11 : (Ev16 a0 a1 a2 a3 a4 a5 a6 a7 a8 a9 a10 a11 a12 a13 a14 a15)[11]? = some a11 := rfl
@[simp] theorem Ev16_s11 : (Ev16 a0 a1 a2 a3 a4 a5 a6 a7 a8 a9 a10 a11 a12 a13 a14 a15).set 11 x = Ev16 a0 a1 a2 a3 a4 a5 a6 a7 a8 a9 a10 x a12 a13 a14 a15 := rfl
@[simp] theorem Ev16_g12 : (Ev16 a0 a1 a2 a3 a4 a5 a6 a7 a8 a9 a10 a11 a12 a13 a14 a15)[12]? = some a12 := rfl
@[simp] theorem Ev16_s12 : (Ev16 a0 a1 a2 a3 a4 a5 a6 a7 a8 a9 a10 a11 a12 a13 a14 a15).set 12 x = Ev16 a0 a1 a2 a3 a4 a5 a6 a7 a8 a9 a10 a11 x a13 a14 a15 := rfl
@[simp] theorem Ev16_g13 : (Ev16 a0 a1 a2 a3 a4 a5 a6 a7 a8 a9 a10 a11 a12 a13 a14 a15)[13]? = some a13 := rfl
@[simp] theorem Ev16_s13 : (Ev16 a0 a1 a2 a3 a4 a5 a6 a7 a8 a9 a10 a11 a12 a13 a14 a15).set 13 x = Ev16 a0 a1 a2 a3 a4 a5 a6 a7 a8 a9 a10 a11 a12 x a14 a15 := rfl
@[simp] theorem Ev16_g14 : (Ev16 a0 a1 a2 a3 a4 a5 a6 a7 a8 a9 a10 a11 a12 a13 a14 a15)[14]? = some a14 := rfl
@[simp] theorem Ev16_s14 : (Ev16 a0 a1 a2 a3 a4 a5 a6 a7 a8 a9 a10 a11 a12 a13 a14 a15).set 14 x = Ev16 a0 a1 a2 a3 a4 a5 a6 a7 a8 a9 a10 a11 a12 a13 x a15 := rfl
@[simp] theorem Ev16_g15 : (Ev16 a0 a1 a2 a3 a4 a5 a6 a7 a8 a9 a10 a11 a12 a13 a14 a15)[15]? = some a15 := rfl
@[simp] theorem Ev16_s15 : (Ev16 a0 a1 a2 a3 a4 a5 a6 a7 a8 a9 a10 a11 a12 a13 a14 a15).set 15 x = Ev16 a0 a1 a2 a3 a4 a5 a6 a7 a8 a9 a10 a11 a12 a13 a14 x := rfl
end
def Ev17 (a0 a1 a2 a3 a4 a5 a6 a7 a8 a9 a10 a11 a12 a13 a14 a15 a16 : Option PV) : NC.Env := [a0, a1, a2, a3, a4, a5, a6, a7, a8, a9, a10, a11, a12, a13, a14, a15, a16]
section
variable {a0 a1 a2 a3 a4 a5 a6 a7 a8 a9 a10 a11 a12 a13 a14 a15 a16 x : Option PV}
@[simp] theorem Ev17_l : (Ev17 a0 a1 a2 a3 a4 a5 a6 a7 a8 a9 a10 a11 a12 a13 a14 a15 a16).length = 17 := rfl
@[simp] theorem Ev17_g0 : (Ev17 a0 a1 a2 a3 a4 a5 a6 a7 a8 a9 a10 a11 a12 a13 a14 a15 a16)[0]? = some a0 := rfl
@[simp] theorem Ev17_s0 : (Ev17 a0 a1 a2 a3 a4 a5 a6 a7 a8 a9 a10 a11 a12 a13 a14 a15 a16).set 0 x = Ev17 x a1 a2 a3 a4 a5 a6 a7 a8 a9 a10 a11 a12 a13 a14 a15 a16 := rfl
@[simp] theorem Ev17_g1 : (Ev17 a0 a1 a2 a3 a4 a5 a6 a7 a8 a9 a10 a11 a12 a13 a14 a15 a16)[1]? = some a1 := rfl
@[simp] theorem Ev17_s1 : (Ev17 a0 a1 a2 a3 a4 a5 a6 a7 a8 a9 a10 a11 a12 a13 a14 a15 a16).set 1 x = Ev17 a0 x a2 a3 a4 a5 a6 a7 a8 a9 a10 a11 a12 a13 a14 a15 a16 := rfl
@[simp] theorem Ev17_g2 : (Ev17 a0 a1 a2 a3 a4 a5 a6 a7 a8 a9 a10 a11 a12 a13 a14 a15 a16)[2]? = some a2 := rfl
@[simp] theorem Ev17_s2 : (Ev17 a0 a1 a2 a3 a4 a5 a6 a7 a8 a9 a10 a11 a12 a13 a14 a15 a16).set 2 x = Ev17 a0 a1 x a3 a4 a5 a6 a7 a8 a9 a10 a11 a12 a13 a14 a15 a16 := rfl
@[simp] theorem Ev17_g3 : (Ev17 a0 a1 a2 a3 a4 a5 a6 a7 a8 a9 a10 a11 a12 a13 a14 a15 a16)[3]? = some a3 := rfl
@[simp] theorem Ev17_s3 : (Ev17 a0 a1 a2 a3 a4 a5 a6 a7 a8 a9 a10 a11 a12 a13 a14 a15 a16).set 3 x = Ev17 a0 a1 a2 x a4 a5 a6 a7 a8 a9 a10 a11 a12 a13 a14 a15 a16 := rfl
@[simp] theorem Ev17_g4 : (Ev17 a0 a1 a2 a3 a4 a5 a6 a7 a8 a9 a10 a11 a12 a13 a14 a15 a16)[4]? = some a4 := rfl
@[simp] theorem Ev17_s4 : (Ev17 a0 a1 a2 a3 a4 a5 a6 a7 a8 a9 a10 a11 a12 a13 a14 a15 a16).set 4 x = Ev17 a0 a1 a2 a3 x a5 a6 a7 a8 a9 a10 a11 a12 a13 a14 a15 a16 := rfl
@[simp] theorem Ev17_g5 : (Ev17 a0 a1 a2 a3 a4 a5 a6 a7 a8 a9 a10 a11 a12 a13 a14 a15 a16)[5]? = some a5 := rfl
@[simp] theorem Ev17_s5 : (Ev17 a0 a1 a2 a3 a4 a5 a6 a7 a8 a9 a10 a11 a12 a13 a14 a15 a16).set 5 x = Ev17 a0 a1 a2 a3 a4 x a6 a7 a8 a9 a10 a11 a12 a13 a14 a15 a16 := rfl
@[simp] theorem Ev17_g6 : (Ev17 a0 a1 a2 a3 a4 a5 a6 a7 a8 a9 a10 a11 a12 a13 a14 a15 a16)[6]? = some a6 := rfl
@[simp] theorem Ev17_s6 : (Ev17 a0 a1 a2 a3 a4 a5 a6 a7 a8 a9 a10 a11 a12 a13 a14 a15 a16).set 6 x = Ev17 a0 a1 a2 a3 a4 a5 x a7 a8 a9 a10 a11 a12 a13 a14 a15 a16 := rfl
@[simp] theorem Ev17_g7 : (Ev17 a0 a1 a2 a3 a4 a5 a6 a7 a8 a9 a10 a11 a12 a13 a14 a15 a16)[7]? = some a7 := rfl
@[simp] theorem Ev17_s7 : (Ev17 a0 a1 a2 a3 a4 a5 a6 a7 a8 a9 a10 a11 a12 a13 a14 a15 a16).set 7 x = Ev17 a0 a1 a2 a3 a4 a5 a6 x a8 a9 a10 a11 a12 a13 a14 a15 a16 := rfl
@[simp] theorem Ev17_g8 : (Ev17 a0 a1 a2 a3 a4 a5 a6 a7 a8 a9 a10 a11 a12 a13 a14 a15 a16)[8]? = some a8 := rfl
@[simp] theorem Ev17_s8 : (Ev17 a0 a1 a2 a3 a4 a5 a6 a7 a8 a9 a10 a11 a12 a13 a14 a15 a16).set 8 x = Ev17 a0 a1 a2 a3 a4 a5 a6 a7 x a9 a10 a11 a12 a13 a14 a15 a16 := rfl
@[simp] theorem Ev17_g9 : (Ev17 a0 a1 a2 a3 a4 a5 a6 a7 a8 a9 a10 a11 a12 a13 a14 a15 a16)[9]? = some a9 := rfl
@[simp] theorem Ev17_s9 : (Ev17 a0 a1 a2 a3 a4 a5 a6 a7 a8 a9 a10 a11 a12 a13 a14 a15 a16).set 9 x = Ev17 a0 a1 a2 a3 a4 a5 a6 a7 a8 x a10 a11 a12 a13 a14 a15 a16 := rfl
@[simp] theorem Ev17_g10 : (Ev17 a0 a1 a2 a3 a4 a5 a6 a7 a8 a9 a10 a11 a12 a13 a14 a15 a16)[10]? = some a10 := rfl
@[simp] theorem Ev17_s10 : (Ev17 a0 a1 a2 a3 a4 a5 a6 a7 a8 a9 a10 a11 a12 a13 a14 a15 a16).set 10 x = Ev17 a0 a1 a2 a3 a4 a5 a6 a7 a8 a9 x a11 a12 a13 a14 a15 a16 := rfl
@[simp] theorem Ev17_g11 : (Ev17 a0 a1 a2 a3 a4 a5 a6 a7 a8 a9 a10 a11 a12 a13 a14 a15 a16)[11]? = some a11 := rfl
@[simp] theorem Ev17_s11 : (Ev17 a0 a1 a2 a3 a4 a5 a6 a7 a8 a9 a10 a11 a12 a13 a14 a15 a16).set 11 x = Ev17 a0 a1 a2 a3 a4 a5 a6 a7 a8 a9 a10 x a12 a13 a14 a15 a16 := rfl
@[simp] theorem Ev17_g12 : (Ev17 a0 a1 a2 a3 a4 a5 a6 a7 a8 a9 a10 a11 a12 a13 a14 a15 a16)[12]? = some a12 := rfl
@[simp] theorem Ev17_s12 : (Ev17 a0 a1 a2 a3 a4 a5 a6 a7 a8 a9 a10 a11 a12 a13 a14 a15 a16).set 12 x = Ev17 a0 a1 a2 a3 a4 a5 a6 a7 a8 a9 a10 a11 x a13 a14 a15 a16 := rfl
@[simp] theorem Ev17_g13 : (Ev17 a0 a1 a2 a3 a4 a5 a6 a7 a8 a9 a10 a11 a12 a13 a14 a15 a16)[13]? = some a13 := rfl
@[simp] theorem Ev17_s13 : (Ev17 a0 a1 a2 a3 a4 a5 a6 a7 a8 a9 a10 a11 a12 a13 a14 a15 a16).set 13 x = Ev17 a0 a1 a2 a3 a4 a5 a6 a7 a8 a9 a10 a11 a12 x a14 a15 a16 := rfl
@[simp] theorem Ev17_g14 : (Ev17 a0 a1 a2 a3 a4 a5 a6 a7 a8 a9 a10 a11 a12 a13 a14 a15 a16)[14]? = some a14 := rfl
@[simp] theorem Ev17_s14 : (Ev17 a0 a1 a2 a3 a4 a5 a6 a7 a8 a9 a10 a11 a12 a13 a14 a15 a16).set 14 x = Ev17 a0 a1 a2 a3 a4 a5 a6 a7 a8 a9 a10 a11 a12 a13 x a15 a16 := rfl
@[simp] theorem Ev17_g15 : (Ev17 a0 a1 a2 a3 a4 a5 a6 a7 a8 a9 a10 a11 a12 a13 a14 a15 a16)[15]? = some a15 := rfl
@[simp] theorem Ev17_s15 : (Ev17 a0 a1 a2 a3 a4 a5 a6 a7 a8 a9 a10 a11 a12 a13 a14 a15 a16).set 15 x = Ev17 a0 a1 a2 a3 a4 a5 a6 a7 a8 a9 a10 a11 a12 a13 a14 x a16 := rfl
@[simp] theorem Ev17_g16 : (Ev17 a0 a1 a2 a3 a4 a5 a6 a7 a8 a9 a10 a11 a12 a13 a14 a15 a16)[16]? = some a16 := rfl
@[simp] theorem Ev17_s16 : (Ev17 a0 a1 a2 a3 a4 a5 a6 a7 a8 a9 a10 a11 a12 a13 a14 a15 a16).set 16 x = Ev17 a0 a1 a2 a3 a4 a5 a6 a7 a8 a9 a10 a11 a12 a13 a14 a15 x := rfl
end
def Ev18 (a0 a1 a2 a3 a4 a5 a6 a7 a8 a9 a10 a11 a12 a13 a14 a15 a16 a17 : Option PV) : NC.Env := [a0, a1, a2, a3, a4, a5, a6, a7, a8, a9, a10, a11, a12, a13, a14, a15, a16, a17]
section
variable {a0 a1 a2 a3 a4 a5 a6 a7 a8 a9 a10 a11 a12 a13 a14 a15 a16 a17 x : Option PV}
@[simp] theorem Ev18_l : (Ev18 a0 a1 a2 a3 a4 a5 a6 a7 a8 a9 a10 a11 a12 a13 a14 a15 a16 a17).length = 18 := rfl
@[simp] theorem Ev18_g0 : (Ev18 a0 a1 a2 a3 a4 a5 a6 a7 a8 a9 a10 a11 a12 a13 a14 a15 a16 a17)[0]? = some a0 := rfl
@[simp] theorem Ev18_s0 : (Ev18 a0 a1 a2 a3 a4 a5 a6 a7 a8 a9 a10 a11 a12 a13 a14 a15 a16 a17).set 0 x = Ev18 x a1 a2 a3 a4 a5 a6 a7 a8 a9 a10 a11 a12 a13 a14 a15 a16 a17 := rfl
@[simp] theorem Ev18_g1 : (Ev18 a0 a1 a2 a3 a4 a5 a6 a7 a8 a9 a10 a11 a12 a13 a14 a15 a16 a17)[1]? = some a1 := rfl
@[simp] theorem Ev18_s1 : (Ev18 a0 a1 a2 a3 a4 a5 a6 a7 a8 a9 a10 a11 a12 a13 a14 a15 a16 a17).set 1 x = Ev18 a0 x a2 a3 a4 a5 a6 a7 a8 a9 a10 a11 a12 a13 a14 a15 a16 a17 := rfl
@[simp] theorem Ev18_g2 : (Ev18 a0 a1 a2 a3 a4 a5 a6 a7 a8 a9 a10 a11 a12 a13 a14 a15 a16 a17)[2]? = some a2 := rfl
@[simp] theorem Ev18_s2 : (Ev18 a0 a1 a2 a3 a4 a5 a6 a7 a8 a9 a10 a11 a12 a13 a14 a15 a16 a17).set 2 x = Ev18 a0 a1 x a3 a4 a5 a6 a7 a8 a9 a10 a11 a12 a13 a14 a15 a16 a17 := rfl
@[simp] theorem Ev18_g3 : (Ev18 a0 a1 a2 a3 a4 a5 a6 a7 a8 a9 a10 a11 a12 a13 a14 a15 a16 a17)[3]? = some a3 := rfl
@[simp] theorem Ev18_s3 : (Ev18 a0 a1 a2 a3 a4 a5 a6 a7 a8 a9 a10 a11 a12 a13 a14 a15 a16 a17).set 3 x = Ev18 a0 a1 a2 x a4 a5 a6 a7 a8 a9 a10 a11 a12 a13 a14 a15 a16 a17 := rfl
@[simp] theorem Ev18_g4 : (Ev18 a0 a1 a2 a3 a4 a5 a6 a7 a8 a9 a10 a11 a12 a13 a14 a15 a16 a17)[4]? = some a4 := rfl
@[simp] theorem Ev18_s4 : (Ev18 a0 a1 a2 a3 a4 a5 a6 a7 a8 a9 a10 a11 a12 a13 a14 a15 a16 a17).set 4 x = Ev18 a0 a1 a2 a3 x a5 a6 a7 a8 a9 a10 a11 a12 a13 a14 a15 a16 a17 := rfl
@[simp] theorem Ev18_g5 : (Ev18 a0 a1 a2 a3 a4 a5 a6 a7 a8 a9 a10 a11 a12 a13 a14 a15 a16 a17)[5]? = some a5 := rfl
@[simp] theorem Ev18_s5 : (Ev18 a0 a1 a2 a3 a4 a5 a6 a7 a8 a9 a10 a11 a12 a13 a14 a15 a16 a17).set 5 x = Ev18 a0 a1 a2 a3 a4 x a6 a7 a8 a9 a10 a11 a12 a13 a14 a15 a16 a17 := rfl
@[simp] theorem Ev18_g6 : (Ev18 a0 a1 a2 a3 a4 a5 a6 a7 a8 a9 a10 a11 a12 a13 a14 a15 a16 a17)[6]? = some a6 := rfl
@[simp] theorem Ev18_s6 : (Ev18 a0 a1 a2 a3 a4 a5 a6 a7 a8 a9 a10 a11 a12 a13 a14 a15 a16 a17).set 6 x = Ev18 a0 a1 a2 a3 a4 a5 x a7 a8 a9 a10 a11 a12 a13 a14 a15 a16 a17 := rfl
@[simp] theorem Ev18_g7 : (Ev18 a0 a1 a2 a3 a4 a5 a6 a7 a8 a9 a10 a11 a12 a13 a14 a15 a16 a17)[7]? = some a7 := rfl
@[simp] theorem Ev18_s7 : (Ev18 a0 a1 a2 a3 a4 a5 a6 a7 a8 a9 a10 a11 a12 a13 a14 a15 a16 a17).set 7 x = Ev18 a0 a1 a2 a3 a4 a5 a6 x a8 a9 a10 a11 a12 a13 a14 a15 a16 a17 := rfl
@[simp] theorem Ev18_g8 : (Ev18 a0 a1 a2 a3 a4 a5 a6 a7 a8 a9 a10 a11 a12 a13 a14 a15 a16 a17)[8]? = some a8 := rfl
@[simp] theorem Ev18_s8 : (Ev18 a0 a1 a2 a3 a4 a5 a6 a7 a8 a9 a10 a11 a12 a13 a14 a15 a16 a17).set 8 x = Ev18 a0 a1 a2 a3 a4 a5 a6 a7 x a9 a10 a11 a12 a13 a14 a15 a16 a17 := rfl
@[simp] theorem Ev18_g9 : (Ev18 a0 a1 a2 a3 a4 a5 a6 a7 a8 a9 a10 a11 a12 a13 a14 a15 a16 a17)[9]? = some a9 := rfl
@[simp] theorem Ev18_s9 : (Ev18 a0 a1 a2 a3 a4 a5 a6 a7 a8 a9 a10 a11 a12 a13 a14 a15 a16 a17).set 9 x = Ev18 a0 a1 a2 a3 a4 a5 a6 a7 a8 x a10 a11 a12 a13 a14 a15 a16 a17 := rfl
@[simp] theorem Ev18_g10 : (Ev18 a0 a1 a2 a3 a4 a5 a6 a7 a8 a9 a10 a11 a12 a13 a14 a15 a16 a17)[10]? = some a10 := rfl
@[simp] theorem Ev18_s10 : (Ev18 a0 a1 a2 a3 a4 a5 a6 a7 a8 a9 a10 a11 a12 a13 a14 a15 a16 a17).set 10 x = Ev18 a0 a1 a2 a3 a4 a5 a6 a7 a8 a9 x a11 a12 a13 a14 a15 a16 a17 := rfl
@[simp] theorem Ev18_g11 : (Ev18 a0 a1 a2 a3 a4 a5 a6 a7 a8 a9 a10 a11 a12 a13 a14 a15 a16 a17)[11]? = some a11 := rfl
@[simp] theorem Ev18_s11 : (Ev18 a0 a1 a2 a3 a4 a5 a6 a7 a8 a9 a10 a11 a12 a13 a14 a15 a16 a17).set 11 x = Ev18 a0 a1 a2 a3 a4 a5 a6 a7 a8 a9 a10 x a12 a13 a14 a15 a16 a17 := rfl
@[simp] theorem Ev18_g12 : (Ev18 a0 a1 a2 a3 a4 a5 a6 a7 a8 a9 a10 a11 a12 a13 a14 a15 a16 a17)[12]? = some a12 := rfl
@[simp] theorem Ev18_s12 : (Ev18 a0 a1 a2 a3 a4 a5 a6 a7 a8 a9 a10 a11 a12 a13 a14 a15 a16 a17).set 12 x = Ev18 a0 a1 a2 a3 a4 a5 a6 a7 a8 a9 a10 a11 x a13 a14 a15 a16 a17 := rfl
@[simp] theorem Ev18_g13 : (Ev18 a0 a1 a2 a3 a4 a5 a6 a7 a8 a9 a10 a11 a12 a13 a14 a15 a16 a17)[13]? = some a13 := rfl
@[simp] theorem Ev18_s13 : (Ev18 a0 a1 a2 a3 a4 a5 a6 a7 a8 a9 a10 a11 a12 a13 a14 a15 a16 a17).set 13 x = Ev18 a0 a1 a2 a3 a4 a5 a6 a7 a8 a9 a10 a11 a12 x a14 a15 a16 a17 := rfl
@[simp] theorem Ev18_g14 : (Ev18 a0 a1 a2 a3 a4 a5 a6 a7 a8 a9 a10 a11 a12 a13 a14 a15 a16 a17)[14]? = some a14 := rfl
@[simp] theorem Ev18_s14 : (Ev18 a0 a1 a2 a3 a4 a5 a6 a7 a8 a9 a10 a11 a12 a13 a14 a15 a16 a17).set 14 x = Ev18 a0 a1 a2 a3 a4 a5 a6 a7 a8 a9 a10 a11 a12 a13 x a15 a16 a17 := rfl
@[simp] theorem Ev18_g15 : (Ev18 a0 a1 a2 a3 a4 a5 a6 a7 a8 a9 a10 a11 a12 a13 a14 a15 a16 a17)[15]? = some a15 := rfl
@[simp] theorem Ev18_s15 : (Ev18 a0 a1 a2 a3 a4 a5 a6 a7 a8 a9 a10 a11 a12 a13 a14 a15 a16 a17).set 15 x = Ev18 a0 a1 a2 a3 a4 a5 a6 a7 a8 a9 a10 a11 a12 a13 a14 x a16 a17 := rfl
@[simp] theorem Ev18_g16 : (Ev18 a0 a1 a2 a3 a4 a5 a6 a7 a8 a9 a10 a11 a12 a13 a14 a15 a16 a17)[16]? = some a16 := rfl
@[simp] theorem Ev18_s16 : (Ev18 a0 a1 a2 a3 a4 a5 a6 a7 a8 a9 a10 a11 a12 a13 a14 a15 a16 a17).set 16 x = Ev18 a0 a1 a2 a3 a4 a5 a6 a7 a8 a9 a10 a11 a12 a13 a14 a15 x a17 := rfl
@[simp] theorem Ev18_g17 : (Ev18 a0 a1 a2 a3 a4 a5 a6 a7 a8 a9 a10 a11 a12 a13 a14 a15 a16 a17)[17]? = some a17 := rfl
@[simp] theorem Ev18_s17 : (Ev18 a0 a1 a2 a3 a4 a5 a6 a7 a8 a9 a10 a11 a12 a13 a14 a15 a16 a17).set 17 x = Ev18 a0 a1 a2 a3 a4 a5 a6 a7 a8 a9 a10 a11 a12 a13 a14 a15 a16 x := rfl
end
def Ev19 (a0 a1 a2 a3 a4 a5 a6 a7 a8 a9 a10 a11 a12 a13 a14 a15 a16 a17 a18 : Option PV) : NC.Env := [a0, a1, a2, a3, a4, a5, a6, a7, a8, a9, a10, a11, a12, a13, a14, a15, a16, a17, a18]
section
variable {a0 a1 a2 a3 a4 a5 a6 a7 a8 a9 a10 a11 a12 a13 a14 a15 a16 a17 a18 x : Option PV}
@[simp] theorem Ev19_l : (Ev19 a0 a1 a2 a3 a4 a5 a6 a7 a8 a9 a10 a11 a12 a13 a14 a15 a16 a17 a18).length = 19 := rfl
@[simp] theorem Ev19_g0 : (Ev19 a0 a1 a2 a3 a4 a5 a6 a7 a8 a9 a10 a11 a12 a13 a14 a15 a16 a17 a18)[0]? = some a0 := rfl
@[simp] theorem Ev19_s0 : (Ev19 a0 a1 a2 a3 a4 a5 a6 a7 a8 a9 a10 a11 a12 a13 a14 a15 a16 a17 a18).set 0 x = Ev19 x a1 a2 a3 a4 a5 a6 a7 a8 a9 a10 a11 a12 a13 a14 a15 a16 a17 a18 := rfl
@[simp] theorem Ev19_g1 : (Ev19 a0 a1 a2 a3 a4 a5 a6 a7 a8 a9 a10 a11 a12 a13 a14 a15 a16 a17 a18)[1]? = some a1 := rfl
@[simp] theorem Ev19_s1 : (Ev19 a0 a1 a2 a3 a4 a5 a6 a7 a8 a9 a10 a11 a12 a13 a14 a15 a16 a17 a18).set 1 x = Ev19 a0 x a2 a3 a4 a5 a6 a7 a8 a9 a10 a11 a12 a13 a14 a15 a16 a17 a18 := rfl
@[simp] theorem Ev19_g2 : (Ev19 a0 a1 a2 a3 a4 a5 a6 a7 a8 a9 a10 a11 a12 a13 a14 a15 a16 a17 a18)[2]? = some a2 := rfl
@[simp] theorem Ev19_s2 : (Ev19 a0 a1 a2 a3 a4 a5 a6 a7 a8 a9 a10 a11 a12 a13 a14 a15 a16 a17 a18).set 2 x = Ev19 a0 a1 x a3 a4 a5 a6 a7 a8 a9 a10 a11 a12 a13 a14 a15 a16 a17 a18 := rfl
@[simp] theorem Ev19_g3 : (Ev19 a0 a1 a2 a3 a4 a5 a6 a7 a8 a9 a10 a11 a12 a13 a14 a15 a16 a17 a18)[3]? = some a3 := rfl
@[simp] theorem Ev19_s3 : (Ev19 a0 a1 a2 a3 a4 a5 a6 a7 a8 a9 a10 a11 a12 a13 a14 a15 a16 a17 a18).set 3 x = Ev19 a0 a1 a2 x a4 a5 a6 a7 a8 a9 a10 a11 a12 a13 a14 a15 a16 a17 a18 := rfl
@[simp] theorem Ev19_g4 : (Ev19 a0 a1 a2 a3 a4 a5 a6 a7 a8 a9 a10 a11 a12 a13 a14 a15 a16 a17 a18)[4]? = some a4 := rfl
@[simp] theorem Ev19_s4 : (Ev19 a0 a1 a2 a3 a4 a5 a6 a7 a8 a9 a10 a11 a12 a13 a14 a15 a16 a17 a18).set 4 x = Ev19 a0 a1 a2 a3 x a5 a6 a7 a8 a9 a10 a11 a12 a13 a14 a15 a16 a17 a18 := rfl
@[simp] theorem Ev19_g5 : (Ev19 a0 a1 a2 a3 a4 a5 a6 a7 a8 a9 a10 a11 a12 a13 a14 a15 a16 a17 a18)[5]? = some a5 := rfl
@[simp] theorem Ev19_s5 : (Ev19 a0 a1 a2 a3 a4 a5 a6 a7 a8 a9 a10 a11 a12 a13 a14 a15 a16 a17 a18).set 5 x = Ev19 a0 a1 a2 a3 a4 x a6 a7 a8 a9 a10 a11 a12 a13 a14 a15 a16 a17 a18 := rfl
@[simp] theorem Ev19_g6 : (Ev19 a0 a1 a2 a3 a4 a5 a6 a7 a8 a9 a10 a11 a12 a13 a14 a15 a16 a17 a18)[6]? = some a6 := rfl
@[simp] theorem Ev19_s6 : (Ev19 a0 a1 a2 a3 a4 a5 a6 a7 a8 a9 a10 a11 a12 a13 a14 a15 a16 a17 a18).set 6 x = Ev19 a0 a1 a2 a3 a4 a5 x a7 a8 a9 a10 a11 a12 a13 a14 a15 a16 a17 a18 := rfl
@[simp] theorem Ev19_g7 : (Ev19 a0 a1 a2 a3 a4 a5 a6 a7 a8 a9 a10 a11 a12 a13 a14 a15 a16 a17 a18)[7]? = some a7 := rfl
@[simp] theorem Ev19_s7 : (Ev19 a0 a1 a2 a3 a4 a5 a6 a7 a8 a9 a10 a11 a12 a13 a14 a15 a16 a17 a18).set 7 x = Ev19 a0 a1 a2 a3 a4 a5 a6 x a8 a9 a10 a11 a12 a13 a14 a15 a16 a17 a18 := rfl
@[simp] theorem Ev19_g8 : (Ev19 a0 a1 a2 a3 a4 a5 a6 a7 a8 a9 a10 a11 a12 a13 a14 a15 a16 a17 a18)[8]? = some a8 := rfl
@[simp] theorem Ev19_s8 : (Ev19 a0 a1 a2 a3 a4 a5 a6 a7 a8 a9 a10 a11 a12 a13 a14 a15 a16 a17 a18).set 8 x = Ev19 a0 a1 a2 a3 a4 a5 a6 a7 x a9 a10 a11 a12 a13 a14 a15 a16 a17 a18 := rfl
@[simp] theorem Ev19_g9 : (Ev19 a0 a1 a2 a3 a4 a5 a6 a7 a8 a9 a10 a11 a12 a13 a14 a15 a16 a17 a18)[9]? = some a9 := rfl
@[simp] theorem Ev19_s9 : (Ev19 a0 a1 a2 a3 a4 a5 a6 a7 a8 a9 a10 a11 a12 a13 a14 a15 a16 a17 a18).set 9 x = Ev19 a0 a1 a2 a3 a4 a5 a6 a7 a8 x a10 a11 a12 a13 a14 a15 a16 a17 a18 := rfl
@[simp] theorem Ev19_g10 : (Ev19 a0 a1 a2 a3 a4 a5 a6 a7 a8 a9 a10 a11 a12 a13 a14 a15 a16 a17 a18)[10]? = some a10 := rfl
@[simp] theorem Ev19_s10 : (Ev19 a0 a1 a2 a3 a4 a5 a6 a7 a8 a9 a10 a11 a12 a13 a14 a15 a16 a17 a18).set 10 x = Ev19 a0 a1 a2 a3 a4 a5 a6 a7 a8 a9 x a11 a12 a13 a14 a15 a16 a17 a18 := rfl
@[simp] theorem Ev19_g11 : (Ev19 a0 a1 a2 a3 a4 a5 a6 a7 a8 a9 a10 a11 a12 a13 a14 a15 a16 a17 a18)[11]? = some a11 := rfl
@[simp] theorem Ev19_s11 : (Ev19 a0 a1 a2 a3 a4 a5 a6 a7 a8 a9 a10 a11 a12 a13 a14 a15 a16 a17 a18).set 11 x = Ev19 a0 a1 a2 a3 a4 a5 a6 a7 a8 a9 a10 x a12 a13 a14 a15 a16 a17 a18 := rfl
@[simp] theorem Ev19_g12 : (Ev19 a0 a1 a2 a3 a4 a5 a6 a7 a8 a9 a10 a11 a12 a13 a14 a15 a16 a17 a18)[12]? = some a12 := rfl
@[simp] theorem Ev19_s12 : (Ev19 a0 a1 a2 a3 a4 a5 a6 a7 a8 a9 a10 a11 a12 a13 a14 a15 a16 a17 a18).set 12 x = Ev19 a0 a1 a2 a3 a4 a5 a6 a7 a8 a9 a10 a11 x a13 a14 a15 a16 a17 a18 := rfl
@[simp] theorem Ev19_g13 : (Ev19 a0 a1 a2 a3 a4 a5 a6 a7 a8 a9 a10 a11 a12 a13 a14 a15 a16 a17 a18)[13]? = some a13 := rfl
@[simp] theorem Ev19_s13 : (Ev19 a0 a1 a2 a3 a4 a5 a6 a7 a8 a9 a10 a11 a12 a13 a14 a15 a16 a17 a18).set 13 x = Ev19 a0 a1 a2 a3 a4 a5 a6 a7 a8 a9 a10 a11 a12 x a14 a15 a16 a17 a18 := rfl
@[simp] theorem Ev19_g14 : (Ev19 a0 a1 a2 a3 a4 a5 a6 a7 a8 a9 a10 a11 a12 a13 a14 a15 a16 a17 a18)[14]? = some a14 := rfl
@[simp] theorem Ev19_s14 : (Ev19 a0 a1 a2 a3 a4 a5 a6 a7 a8 a9 a10 a11 a12 a13 a14 a15 a16 a17 a18).set 14 x = Ev19 a0 a1 a2 a3 a4 a5 a6 a7 a8 a9 a10 a11 a12 a13 x a15 a16 a17 a18 := rfl
@[simp] theorem Ev19_g15 : (Ev19 a0 a1 a2 a3 a4 a5 a6 a7 a8 a9 a10 a11 a12 a13 a14 a15 a16 a17 a18)[15]? = some a15 := rfl
@[simp] theorem Ev19_s15 : (Ev19 a0 a1 a2 a3 a4 a5 a6 a7 a8 a9 a10 a11 a12 a13 a14 a15 a16 a17 a18).set 15 x = Ev19 a0 a1 a2 a3 a4 a5 a6 a7 a8 a9 a10 a11 a12 a13 a14 x a16 a17 a18 := rfl
@[simp] theorem Ev19_g16 : (Ev19 a0 a1 a2 a3 a4 a5 a6 a7 a8 a9 a10 a11 a12 a13 a14 a15 a16 a17 a18)[16]? = some a16 := rfl
@[simp] theorem Ev19_s16 : (Ev19 a0 a1 a2 a3 a4 a5 a6 a7 a8 a9 a10 a11 a12 a13 a14 a15 a16 a17 a18).set 16 x = Ev19 a0 a1 a2 a3 a4 a5 a6 a7 a8 a9 a10 a11 a12 a13 a14 a15 x a17 a18 := rfl
@[simp] theorem Ev19_g17 : (Ev19 a0 a1 a2 a3 a4 a5 a6 a7 a8 a9 a10 a11 a12 a13 a14 a15 a16 a17 a18)[17]? = some a17 := rfl
@[simp] theorem Ev19_s17 : (Ev19 a0 a1 a2 a3 a4 a5 a6 a7 a8 a9 a10 a11 a12 a13 a14 a15 a16 a17 a18).set 17 x = Ev19 a0 a1 a2 a3 a4 a5 a6 a7 a8 a9 a10 a11 a12 a13 a14 a15 a16 x a18 := rfl
@[simp] theorem Ev19_g18 : (Ev19 a0 a1 a2 a3 a4 a5 a6 a7 a8 a9 a10 a11 a12 a13 a14 a15 a16 a17 a18)[18]? = some a18 := rfl
@[simp] theorem Ev19_s18 : (Ev19 a0 a1 a2 a3 a4 a5 a6 a7 a8 a9 a10 a11 a12 a13 a14 a15 a16 a17 a18).set 18 x = Ev19 a0 a1 a2 a3 a4 a5 a6 a7 a8 a9 a10 a11 a12 a13 a14 a15 a16 a17 x := rfl
end
def Ev20 (a0 a1 a2 a3 a4 a5 a6 a7 a8 a9 a10 a11 a12 a13 a14 a15 a16 a17 a18 a19 : Option PV) : NC.Env := [a0, a1, a2, a3, a4, a5, a6, a7, a8, a9, a10, a11, a12, a13, a14, a15, a16, a17, a18, a19]
section
variable {a0 a1 a2 a3 a4 a5 a6 a7 a8 a9 a10 a11 a12 a13 a14 a15 a16 a17 a18 a19 x : Option PV}
@[simp] theorem Ev20_l : (Ev20 a0 a1 a2 a3 a4 a5 a6 a7 a8 a9 a10 a11 a12 a13 a14 a15 a16 a17 a18 a19).length = 20 := rfl
@[simp] theorem Ev20_g0 : (Ev20 a0 a1 a2 a3 a4 a5 a6 a7 a8 a9 a10 a11 a12 a13 a14 a15 a16 a17 a18 a19)[0]? = some a0 := rfl
@[simp] theorem Ev20_s0 : (Ev20 a0 a1 a2 a3 a4 a5 a6 a7 a8 a9 a10 a11 a12 a13 a14 a15 a16 a17 a18 a19).set 0 x = Ev20 x a1 a2 a3 a4 a5 a6 a7 a8 a9 a10 a11 a12 a13 a14 a15 a16 a17 a18 a19 := rfl
@[simp] theorem Ev20_g1 : (Ev20 a0 a1 a2 a3 a4 a5 a6 a7 a8 a9 a10 a11 a12 a13 a14 a15 a16 a17 a18 a19)[1]? = some a1 := rfl
@[simp] theorem Ev20_s1 : (Ev20 a0 a1 a2 a3 a4 a5 a6 a7 a8 a9 a10 a11 a12 a13 a14 a15 a16 a17 a18 a19).set 1 x = Ev20 a0 x a2 a3 a4 a5 a6 a7 a8 a9 a10 a11 a12 a13 a14 a15 a16 a17 a18 a19 := rfl
@[simp] theorem Ev20_g2 : (Ev20 a0 a1 a2 a3 a4 a5 a6 a7 a8 a9 a10 a11 a12 a13 a14 a15 a16 a17 a18 a19)[2]? = some a2 := rfl
@[simp] theorem Ev20_s2 : (Ev20 a0 a1 a2 a3 a4 a5 a6 a7 a8 a9 a10 a11 a12 a13 a14 a15 a16 a17 a18 a19).set 2 x = Ev20 a0 a1 x a3 a4 a5 a6 a7 a8 a9 a10 a11 a12 a13 a14 a15 a16 a17 a18 a19 := rfl
@[simp] theorem Ev20_g3 : (Ev20 a0 a1 a2 a3 a4 a5 a6 a7 a8 a9 a10 a11 a12 a13 a14 a15 a16 a17 a18 a19)[3]? = some a3 := rfl
@[simp] theorem Ev20_s3 : (Ev20 a0 a1 a2 a3 a4 a5 a6 a7 a8 a9 a10 a11 a12 a13 a14 a15 a16 a17 a18 a19).set 3 x = Ev20 a0 a1 a2 x a4 a5 a6 a7 a8 a9 a10 a11 a12 a13 a14 a15 a16 a17 a18 a19 := rfl
@[simp] theorem Ev20_g4 : (Ev20 a0 a1 a2 a3 a4 a5 a6 a7 a8 a9 a10 a11 a12 a13 a14 a15 a16 a17 a18 a19)[4]? = some a4 := rfl
@[simp] theorem Ev20_s4 : (Ev20 a0 a1 a2 a3 a4 a5 a6 a7 a8 a9 a10 a11 a12 a13 a14 a15 a16 a17 a18 a19).set 4 x = Ev20 a0 a1 a2 a3 x a5 a6 a7 a8 a9 a10 a11 a12 a13 a14 a15 a16 a17 a18 a19 := rfl
@[simp] theorem Ev20_g5 : (Ev20 a0 a1 a2 a3 a4 a5 a6 a7 a8 a9 a10 a11 a12 a13 a14 a15 a16 a17 a18 a19)[5]? = some a5 := rfl
@[simp] theorem Ev20_s5 : (Ev20 a0 a1 a2 a3 a4 a5 a6 a7 a8 a9 a10 a11 a12 a13 a14 a15 a16 a17 a18 a19).set 5 x = Ev20 a0 a1 a2 a3 a4 x a6 a7 a8 a9 a10 a11 a12 a13 a14 a15 a16 a17 a18 a19 := rfl
@[simp] theorem Ev20_g6 : (Ev20 a0 a1 a2 a3 a4 a5 a6 a7 a8 a9 a10 a11 a12 a13 a14 a15 a16 a17 a18 a19)[6]? = some a6 := rfl
@[simp] theorem Ev20_s6 : (Ev20 a0 a1 a2 a3 a4 a5 a6 a7 a8 a9 a10 a11 a12 a13 a14 a15 a16 a17 a18 a19).set 6 x = Ev20 a0 a1 a2 a3 a4 a5 x a7 a8 a9 a10 a11 a12 a13 a14 a15 a16 a17 a18 a19 := rfl
@[simp] theorem Ev20_g7 : (Ev20 a0 a1 a2 a3 a4 a5 a6 a7 a8 a9 a10 a11 a12 a13 a14 a15 a16 a17 a18 a19)[7]? = some a7 := rfl
@[simp] theorem Ev20_s7 : (Ev20 a0 a1 a2 a3 a4 a5 a6 a7 a8 a9 a10 a11 a12 a13 a14 a15 a16 a17 a18 a19).set 7 x = Ev20 a0 a1 a2 a3 a4 a5 a6 x a8 a9 a10 a11 a12 a13 a14 a15 a16 a17 a18 a19 := rfl
@[simp] theorem Ev20_g8 : (Ev20 a0 a1 a2 a3 a4 a5 a6 a7 a8 a9 a10 a11 a12 a13 a14 a15 a16 a17 a18 a19)[8]? = some a8 := rfl
@[simp] theorem Ev20_s8 : (Ev20 a0 a1 a2 a3 a4 a5 a6 a7 a8 a9 a10 a11 a12 a13 a14 a15 a16 a17 a18 a19).set 8 x = Ev20 a0 a1 a2 a3 a4 a5 a6 a7 x a9 a10 a11 a12 a13 a14 a15 a16 a17 a18 a19 := rfl
@[simp] theorem Ev20_g9 : (Ev20 a0 a1 a2 a3 a4 a5 a6 a7 a8 a9 a10 a11 a12 a13 a14 a15 a16 a17 a18 a19)[9]? = some a9 := rfl
@[simp] theorem Ev20_s9 : (Ev20 a0 a1 a2 a3 a4 a5 a6 a7 a8 a9 a10 a11 a12 a13 a14 a15 a16 a17 a18 a19).set 9 x = Ev20 a0 a1 a2 a3 a4 a5 a6 a7 a8 x a10 a11 a12 a13 a14 a15 a16 a17 a18 a19 := rfl
@[simp] theorem Ev20_g10 : (Ev20 a0 a1 a2 a3 a4 a5 a6 a7 a8 a9 a10 a11 a12 a13 a14 a15 a16 a17 a18 a19)[10]? = some a10 := rfl
@[simp] theorem Ev20_s10 : (Ev20 a0 a1 a2 a3 a4 a5 a6 a7 a8 a9 a10 a11 a12 a13 a14 a15 a16 a17 a18 a19).set 10 x = Ev20 a0 a1 a2 a3 a4 a5 a6 a7 a8 a9 x a11 a12 a13 a14 a15 a16 a17 a18 a19 := rfl
@[simp] theorem Ev20_g11 : (Ev20 a0 a1 a2 a3 a4 a5 a6 a7 a8 a9 a10 a11 a12 a13 a14 a15 a16 a17 a18 a19)[11]? = some a11 := rfl
@[simp] theorem Ev20_s11 : (Ev20 a0 a1 a2 a3 a4 a5 a6 a7 a8 a9 a10 a11 a12 a13 a14 a15 a16 a17 a18 a19).set 11 x = Ev20 a0 a1 a2 a3 a4 a5 a6 a7 a8 a9 a10 x a12 a13 a14 a15 a16 a17 a18 a19 := rfl
@[simp] theorem Ev20_g12 : (Ev20 a0 a1 a2 a3 a4 a5 a6 a7 a8 a9 a10 a11 a12 a13 a14 a15 a16 a17 a18 a19)[12]? = some a12 := rfl
@[simp] theorem Ev20_s12 : (Ev20 a0 a1 a2 a3 a4 a5 a6 a7 a8 a9 a10 a11 a12 a13 a14 a15 a16 a17 a18 a19).set 12 x = Ev20 a0 a1 a2 a3 a4 a5 a6 a7 a8 a9 a10 a11 x a13 a14 a15 a16 a17 a18 a19 := rfl
@[simp] theorem Ev20_g13 : (Ev20 a0 a1 a2 a3 a4 a5 a6 a7 a8 a9 a10 a11 a12 a13 a14 a15 a16 a17 a18 a19)[13]? = some a13 := rfl
@[simp] theorem Ev20_s13 : (Ev20 a0 a1 a2 a3 a4 a5 a6 a7 a8 a9 a10 a11 a12 a13 a14 a15 a16 a17 a18 a19).set 13 x = Ev20 a0 a1 a2 a3 a4 a5 a6 a7 a8 a9 a10 a11 a12 x a14 a15 a16 a17 a18 a19 := rfl
@[simp] theorem Ev20_g14 : (Ev20 a0 a1 a2 a3 a4 a5 a6 a7 a8 a9 a10 a11 a12 a13 a14 a15 a16 a17 a18 a19)[14]? = some a14 := rfl
@[simp] theorem Ev20_s14 : (Ev20 a0 a1 a2 a3 a4 a5 a6 a7 a8 a9 a10 a11 a12 a13 a14 a15 a16 a17 a18 a19).set 14 x = Ev20 a0 a1 a2 a3 a4 a5 a6 a7 a8 a9 a10 a11 a12 a13 x a15 a16 a17 a18 a19 := rfl
@[simp] theorem Ev20_g15 : (Ev20 a0 a1 a2 a3 a4 a5 a6 a7 a8 a9 a10 a11 a12 a13 a14 a15 a16 a17 a18 a19)[15]? = some a15 := rfl
@[simp] theorem Ev20_s15 : (Ev20 a0 a1 a2 a3 a4 a5 a6 a7 a8 a9 a10 a11 a12 a13 a14 a15 a16 a17 a18 a19).set 15 x = Ev20 a0 a1 a2 a3 a4 a5 a6 a7 a8 a9 a10 a11 a12 a13 a14 x a16 a17 a18 a19 := rfl
@[simp] theorem Ev20_g16 : (Ev20 a0 a1 a2 a3 a4 a5 a6 a7 a8 a9 a10 a11 a12 a13 a14 a15 a16 a17 a18 a19)[16]? = some a16 := rfl
@[simp] theorem Ev20_s16 : (Ev20 a0 a1 a2 a3 a4 a5 a6 a7 a8 a9 a10 a11 a12 a13 a14 a15 a16 a17 a18 a19).set 16 x = Ev20 a0 a1 a2 a3 a4 a5 a6 a7 a8 a9 a10 a11 a12 a13 a14 a15 x a17 a18 a19 := rfl
@[simp] theorem Ev20_g17 : (Ev20 a0 a1 a2 a3 a4 a5 a6 a7 a8 a9 a10 a11 a12 a13 a14 a15 a16 a17 a18 a19)[17]? = some a17 := rfl
@[simp] theorem Ev20_s17 : (Ev20 a0 a1 a2 a3 a4 a5 a6 a7 a8 a9 a10 a11 a12 a13 a14 a15 a16 a17 a18 a19).set 17 x = Ev20 a0 a1 a2 a3 a4 a5 a6 a7 a8 a9 a10 a11 a12 a13 a14 a15 a16 x a18 a19 := rfl
@[simp] theorem Ev20_g18 : (Ev20 a0 a1 a2 a3 a4 a5 a6 a7 a8 a9 a10 a11 a12 a13 a14 a15 a16 a17 a18 a19)[18]? = some a18 := rfl
@[simp] theorem Ev20_s18 : (Ev20 a0 a1 a2 a3 a4 a5 a6 a7 a8 a9 a10 a11 a12 a13 a14 a15 a16 a17 a18 a19).set 18 x = Ev20 a0 a1 a2 a3 a4 a5 a6 a7 a8 a9 a10 a11 a12 a13 a14 a15 a16 a17 x a19 := rfl
@[simp] theorem Ev20_g19 : (Ev20 a0 a1 a2 a3 a4 a5 a6 a7 a8 a9 a10 a11 a12 a13 a14 a15 a16 a17 a18 a19)[19]? = some a19 := rfl
@[simp] theorem Ev20_s19 : (Ev20 a0 a1 a2 a3 a4 a5 a6 a7 a8 a9 a10 a11 a12 a13 a14 a15 a16 a17 a18 a19).set 19 x = Ev20 a0 a1 a2 a3 a4 a5 a6 a7 a8 a9 a10 a11 a12 a13 a14 a15 a16 a17 a18 x := rfl
end
def Ev21 (a0 a1 a2 a3 a4 a5 a6 a7 a8 a9 a10 a11 a12 a13 a14 a15 a16 a17 a18 a19 a20 : Option PV) : NC.Env := [a0, a1, a2, a3, a4, a5, a6, a7, a8, a9, a10, a11, a12, a13, a14, a15, a16, a17, a18, a19, a20]
section
variable {a0 a1 a2 a3 a4 a5 a6 a7 a8 a9 a10 a11 a12 a13 a14 a15 a16 a17 a18 a19 a20 x : Option PV}
@[simp] theorem Ev21_l : (Ev21 a0 a1 a2 a3 a4 a5 a6 a7 a8 a9 a10 a11 a12 a13 a14 a15 a16 a17 a18 a19 a20).length = 21 := rfl
@[simp] theorem Ev21_g0 : (Ev21 a0 a1 a2 a3 a4 a5 a6 a7 a8 a9 a10 a11 a12 a13 a14 a15 a16 a17 a18 a19 a20)[0]? = some a0 := rfl
@[simp] theorem Ev21_s0 : (Ev21 a0 a1 a2 a3 a4 a5 a6 a7 a8 a9 a10 a11 a12 a13 a14 a15 a16 a17 a18 a19 a20).set 0 x = Ev21 x a1 a2 a3 a4 a5 a6 a7 a8 a9 a10 a11 a12 a13 a14 a15 a16 a17 a18 a19 a20 := rfl
@[simp] theorem Ev21_g1 : (Ev21 a0 a1 a2 a3 a4 a5 a6 a7 a8 a9 a10 a11 a12 a13 a14 a15 a16 a17 a18 a19 a20)[1]? = some a1 := rfl
@[simp] theorem Ev21_s1 : (Ev21 a0 a1 a2 a3 a4 a5 a6 a7 a8 a9 a10 a11 a12 a13 a14 a15 a16 a17 a18 a19 a20).set 1 x = Ev21 a0 x a2 a3 a4 a5 a6 a7 a8 a9 a10 a11 a12 a13 a14 a15 a16 a17 a18 a19 a20 := rfl
@[simp] theorem Ev21_g2 : (Ev21 a0 a1 a2 a3 a4 a5 a6 a7 a8 a9 a10 a11 a12 a13 a14 a15 a16 a17 a18 a19 a20)[2]? = some a2 := rfl
@[simp] theorem Ev21_s2 : (Ev21 a0 a1 a2 a3 a4 a5 a6 a7 a8 a9 a10 a11 a12 a13 a14 a15 a16 a17 a18 a19 a20).set 2 x = Ev21 a0 a1 x a3 a4 a5 a6 a7 a8 a9 a10 a11 a12 a13 a14 a15 a16 a17 a18 a19 a20 := rfl
@[simp] theorem Ev21_g3 : (Ev21 a0 a1 a2 a3 a4 a5 a6 a7 a8 a9 a10 a11 a12 a13 a14 a15 a16 a17 a18 a19 a20)[3]? = some a3 := rfl
@[simp] theorem Ev21_s3 : (Ev21 a0 a1 a2 a3 a4 a5 a6 a7 a8 a9 a10 a11 a12 a13 a14 a15 a16 a17 a18 a19 a20).set 3 x = Ev21 a0 a1 a2 x a4 a5 a6 a7 a8 a9 a10 a11 a12 a13 a14 a15 a16 a17 a18 a19 a20 := rfl
@[simp] theorem Ev21_g4 : (Ev21 a0 a1 a2 a3 a4 a5 a6 a7 a8 a9 a10 a11 a12 a13 a14 a15 a16 a17 a18 a19 a20)[4]? = some a4 := rfl
@[simp] theorem Ev21_s4 : (Ev21 a0 a1 a2 a3 a4 a5 a6 a7 a8 a9 a10 a11 a12 a13 a14 a15 a16 a17 a18 a19 a20).set 4 x = Ev21 a0 a1 a2 a3 x a5 a6 a7 a8 a9 a10 a11 a12 a13 a14 a15 a16 a17 a18 a19 a20 := rfl
@[simp] theorem Ev21_g5 : (Ev21 a0 a1 a2 a3 a4 a5 a6 a7 a8 a9 a10 a11 a12 a13 a14 a15 a16 a17 a18 a19 a20)[5]? = some a5 := rfl
@[simp] theorem Ev21_s5 : (Ev21 a0 a1 a2 a3 a4 a5 a6 a7 a8 a9 a10 a11 a12 a13 a14 a15 a16 a17 a18 a19 a20).set 5 x = Ev21 a0 a1 a2 a3 a4 x a6 a7 a8 a9 a10 a11 a12 a13 a14 a15 a16 a17 a18 a19 a20 := rfl
@[simp] theorem Ev21_g6 : (Ev21 a0 a1 a2 a3 a4 a5 a6 a7 a8 a9 a10 a11 a12 a13 a14 a15 a16 a17 a18 a19 a20)[6]? = some a6 := rfl
@[simp] theorem Ev21_s6 : (Ev21 a0 a1 a2 a3 a4 a5 a6 a7 a8 a9 a10 a11 a12 a13 a14 a15 a16 a17 a18 a19 a20).set 6 x = Ev21 a0 a1 a2 a3 a4 a5 x a7 a8 a9 a10 a11 a12 a13 a14 a15 a16 a17 a18 a19 a20 := rfl
@[simp] theorem Ev21_g7 : (Ev21 a0 a1 a2 a3 a4 a5 a6 a7 a8 a9 a10 a11 a12 a13 a14 a15 a16 a17 a18 a19 a20)[7]? = some a7 := rfl
@[simp] theorem Ev21_s7 : (Ev21 a0 a1 a2 a3 a4 a5 a6 a7 a8 a9 a10 a11 a12 a13 a14 a15 a16 a17 a18 a19 a20).set 7 x = Ev21 a0 a1 a2 a3 a4 a5 a6 x a8 a9 a10 a11 a12 a13 a14 a15 a16 a17 a18 a19 a20 := rfl
@[simp] theorem Ev21_g8 : (Ev21 a0 a1 a2 a3 a4 a5 a6 a7 a8 a9 a10 a11 a12 a13 a14 a15 a16 a17 a18 a19 a20)[8]? = some a8 := rfl
@[simp] theorem Ev21_s8 : (Ev21 a0 a1 a2 a3 a4 a5 a6 a7 a8 a9 a10 a11 a12 a13 a14 a15 a16 a17 a18 a19 a20).set 8 x = Ev21 a0 a1 a2 a3 a4 a5 a6 a7 x a9 a10 a11 a12 a13 a14 a15 a16 a17 a18 a19 a20 := rfl
@[simp] theorem Ev21_g9 : (Ev21 a0 a1 a2 a3 a4 a5 a6 a7 a8 a9 a10 a11 a12 a13 a14 a15 a16 a17 a18 a19 a20)[9]? = some a9 := rfl
@[simp] theorem Ev21_s9 : (Ev21 a0 a1 a2 a3 a4 a5 a6 a7 a8 a9 a10 a11 a12 a13 a14 a15 a16 a17 a18 a19 a20).set 9 x = Ev21 a0 a1 a2 a3 a4 a5 a6 a7 a8 x a10 a11 a12 a13 a14 a15 a16 a17 a18 a19 a20 := rfl
@[simp] theorem Ev21_g10 : (Ev21 a0 a1 a2 a3 a4 a5 a6 a7 a8 a9 a10 a11 a12 a13 a14 a15 a16 a17 a18 a19 a20)[10]? = some a10 := rfl
@[simp] theorem Ev21_s10 : (Ev21 a0 a1 a2 a3 a4 a5 a6 a7 a8 a9 a10 a11 a12 a13 a14 a15 a16 a17 a18 a19 a20).set 10 x = Ev21 a0 a1 a2 a3 a4 a5 a6 a7 a8 a9 x a11 a12 a13 a14 a15 a16 a17 a18 a19 a20 := rfl
@[simp] theorem Ev21_g11 : (Ev21 a0 a1 a2 a3 a4 a5 a6 a7 a8 a9 a10 a11 a12 a13 a14 a15 a16 a17 a18 a19 a20)[11]? = some a11 := rfl
@[simp] theorem Ev21_s11 : (Ev21 a0 a1 a2 a3 a4 a5 a6 a7 a8 a9 a10 a11 a12 a13 a14 a15 a16 a17 a18 a19 a20).set 11 x = Ev21 a0 a1 a2 a3 a4 a5 a6 a7 a8 a9 a10 x a12 a13 a14 a15 a16 a17 a18 a19 a20 := rfl
@[simp] theorem Ev21_g12 : (Ev21 a0 a1 a2 a3 a4 a5 a6 a7 a8 a9 a10 a11 a12 a13 a14 a15 a16 a17 a18 a19 a20)[12]? = some a12 := rfl
@[simp] theorem Ev21_s12 : (Ev21 a0 a1 a2 a3 a4 a5 a6 a7 a8 a9 a10 a11 a12 a13 a14 a15 a16 a17 a18 a19 a20).set 12 x = Ev21 a0 a1 a2 a3 a4 a5 a6 a7 a8 a9 a10 a11 x a13 a14 a15 a16 a17 a18 a19 a20 := rfl
@[simp] theorem Ev21_g13 : (Ev21 a0 a1 a2 a3 a4 a5 a6 a7 a8 a9 a10 a11 a12 a13 a14 a15 a16 a17 a18 a19 a20)[13]? = some a13 := rfl
@[simp] theorem Ev21_s13 : (Ev21 a0 a1 a2 a3 a4 a5 a6 a7 a8 a9 a10 a11 a12 a13 a14 a15 a16 a17 a18 a19 a20).set 13 x = Ev21 a0 a1 a2 a3 a4 a5 a6 a7 a8 a9 a10 a11 a12 x a14 a15 a16 a17 a18 a19 a20 := rfl
@[simp] theorem Ev21_g14 : (Ev21 a0 a1 a2 a3 a4 a5 a6 a7 a8 a9 a10 a11 a12 a13 a14 a15 a16 a17 a18 a19 a20)[14]? = some a14 := rfl
@[simp] theorem Ev21_s14 : (Ev21 a0 a1 a2 a3 a4 a5 a6 a7 a8 a9 a10 a11 a12 a13 a14 a15 a16 a17 a18 a19 a20).set 14 x = Ev21 a0 a1 a2 a3 a4 a5 a6 a7 a8 a9 a10 a11 a12 a13 x a15 a16 a17 a18 a19 a20 := rfl
@[simp] theorem Ev21_g15 : (Ev21 a0 a1 a2 a3 a4 a5 a6 a7 a8 a9 a10 a11 a12 a13 a14 a15 a16 a17 a18 a19 a20)[15]? = some a15 := rfl
@[simp] theorem Ev21_s15 : (Ev21 a0 a1 a2 a3 a4 a5 a6 a7 a8 a9 a10 a11 a12 a13 a14 a15 a16 a17 a18 a19 a20).set 15 x = Ev21 a0 a1 a2 a3 a4 a5 a6 a7 a8 a9 a10 a11 a12 a13 a14 x a16 a17 a18 a19 a20 := rfl
@[simp] theorem Ev21_g16 : (Ev21 a0 a1 a2 a3 a4 a5 a6 a7 a8 a9 a10 a11 a12 a13 a14 a15 a16 a17 a18 a19 a20)[16]? = some a16 := rfl
@[simp] theorem Ev21_s16 : (Ev21 a0 a1 a2 a3 a4 a5 a6 a7 a8 a9 a10 a11 a12 a13 a14 a15 a16 a17 a18 a19 a20).set 16 x = Ev21 a0 a1 a2 a3 a4 a5 a6 a7 a8 a9 a10 a11 a12 a13 a14 a15 x a17 a18 a19 a20 := rfl
@[simp] theorem Ev21_g17 : (Ev21 a0 a1 a2 a3 a4 a5 a6 a7 a8 a9 a10 a11 a12 a13 a14 a15 a16 a17 a18 a19 a20)[17]? = some a17 := rfl
@[simp] theorem Ev21_s17 : (Ev21 a0 a1 a2 a3 a4 a5 a6 a7 a8 a9 a10 a11 a12 a13 a14 a15 a16 a17 a18 a19 a20).set 17 x = Ev21 a0 a1 a2 a3 a4 a5 a6 a7 a8 a9 a10 a11 a12 a13 a14 a15 a16 x a18 a19 a20 := rfl
@[simp] theorem Ev21_g18 : (Ev21 a0 a1 a2 a3 a4 a5 a6 a7 a8 a9 a10 a11 a12 a13 a14 a15 a16 a17 a18 a19 a20)[18]? = some a18 := rfl
@[simp] theorem Ev21_s18 : (Ev21 a0 a1 a2 a3 a4 a5 a6 a7 a8 a9 a10 a11 a12 a13 a14 a15 a16 a17 a18 a19 a20).set 18 x = Ev21 a0 a1 a2 a3 a4 a5 a6 a7 a8 a9 a10 a11 a12 a13 a14 a15 a16 a17 x a19 a20 := rfl
@[simp] theorem Ev21_g19 : (Ev21 a0 a1 a2 a3 a4 a5 a6 a7 a8 a9 a10 a11 a12 a13 a14 a15 a16 a17 a18 a19 a20)[19]? = some a19 := rfl
@[simp] theorem Ev21_s19 : (Ev21 a0 a1 a2 a3 a4 a5 a6 a7 a8 a9 a10 a11 a12 a13 a14 a15 a16 a17 a18 a19 a20).set 19 x = Ev21 a0 a1 a2 a3 a4 a5 a6 a7 a8 a9 a10 a11 a12 a13 a14 a15 a16 a17 a18 x a20 := rfl
@[simp] theorem Ev21_g20 : (Ev21 a0 a1 a2 a3 a4 a5 a6 a7 a8 a9 a10 a11 a12 a13 a14 a15 a16 a17 a18 a19 a20)[20]? = some a20 := rfl
@[simp] theorem Ev21_s20 : (Ev21 a0 a1 a2 a3 a4 a5 a6 a7 a8 a9 a10 a11 a12 a13 a14 a15 a16 a17 a18 a19 a20).set 20 x = Ev21 a0 a1 a2 a3 a4 a5 a6 a7 a8 a9 a10 a11 a12 a13 a14 a15 a16 a17 a18 a19 x := rfl
end
def Ev22 (a0 a1 a2 a3 a4 a5 a6 a7 a8 a9 a10 a11 a12 a13 a14 a15 a16 a17 a18 a19 a20 a21 : Option PV) : NC.Env := [a0, a1, a2, a3, a4, a5, a6, a7, a8, a9, a10, a11, a12, a13, a14, a15, a16, a17, a18, a19, a20, a21]
section
variable {a0 a1 a2 a3 a4 a5 a6 a7 a8 a9 a10 a11 a12 a13 a14 a15 a16 a17 a18 a19 a20 a21 x : Option PV}
@[simp] theorem Ev22_l : (Ev22 a0 a1 a2 a3 a4 a5 a6 a7 a8 a9 a10 a11 a12 a13 a14 a15 a16 a17 a18 a19 a20 a21).length = 22 := rfl
@[simp] theorem Ev22_g0 : (Ev22 a0 a1 a2 a3 a4 a5 a6 a7 a8 a9 a10 a11 a12 a13 a14 a15 a16 a17 a18 a19 a20 a21)[0]? = some a0 := rfl
@[simp] theorem Ev22_s0 : (Ev22 a0 a1 a2 a3 a4 a5 a6 a7 a8 a9 a10 a11 a12 a13 a14 a15 a16 a17 a18 a19 a20 a21).set 0 x = Ev22 x a1 a2 a3 a4 a5 a6 a7 a8 a9 a10 a11 a12 a13 a14 a15 a16 a17 a18 a19 a20 a21 := rfl
@[simp] theorem Ev22_g1 : (Ev22 a0 a1 a2 a3 a4 a5 a6 a7 a8 a9 a10 a11 a12 a13 a14 a15 a16 a17 a18 a19 a20 a21)[1]? = some a1 := rfl
@[simp] theorem Ev22_s1 : (Ev22 a0 a1 a2 a3 a4 a5 a6 a7 a8 a9 a10 a11 a12 a13 a14 a15 a16 a17 a18 a19 a20 a21).set 1 x = Ev22 a0 x a2 a3 a4 a5 a6 a7 a8 a9 a10 a11 a12 a13 a14 a15 a16 a17 a18 a19 a20 a21 := rfl
@[simp] theorem Ev22_g2 : (Ev22 a0 a1 a2 a3 a4 a5 a6 a7 a8 a9 a10 a11 a12 a13 a14 a15 a16 a17 a18 a19 a20 a21)[2]? = some a2 := rfl
@[simp] theorem Ev22_s2 : (Ev22 a0 a1 a2 a3 a4 a5 a6 a7 a8 a9 a10 a11 a12 a13 a14 a15 a16 a17 a18 a19 a20 a21).set 2 x = Ev22 a0 a1 x a3 a4 a5 a6 a7 a8 a9 a10 a11 a12 a13 a14 a15 a16 a17 a18 a19 a20 a21 := rfl
@[simp] theorem Ev22_g3 : (Ev22 a0 a1 a2 a3 a4 a5 a6 a7 a8 a9 a10 a11 a12 a13 a14 a15 a16 a17 a18 a19 a20 a21)[3]? = some a3 := rfl
@[simp] theorem Ev22_s3 : (Ev22 a0 a1 a2 a3 a4 a5 a6 a7 a8 a9 a10 a11 a12 a13 a14 a15 a16 a17 a18 a19 a20 a21).set 3 x = Ev22 a0 a1 a2 x a4 a5 a6 a7 a8 a9 a10 a11 a12 a13 a14 a15 a16 a17 a18 a19 a20 a21 := rfl
@[simp] theorem Ev22_g4 : (Ev22 a0 a1 a2 a3 a4 a5 a6 a7 a8 a9 a10 a11 a12 a13 a14 a15 a16 a17 a18 a19 a20 a21)[4]? = some a4 := rfl
@[simp] theorem Ev22_s4 : (Ev22 a0 a1 a2 a3 a4 a5 a6 a7 a8 a9 a10 a11 a12 a13 a14 a15 a16 a17 a18 a19 a20 a21).set 4 x = Ev22 a0 a1 a2 a3 x a5 a6 a7 a8 a9 a10 a11 a12 a13 a14 a15 a16 a17 a18 a19 a20 a21 := rfl
@[simp] theorem Ev22_g5 : (Ev22 a0 a1 a2 a3 a4 a5 a6 a7 a8 a9 a10 a11 a12 a13 a14 a15 a16 a17 a18 a19 a20 a21)[5]? = some a5 := rfl
@[simp] theorem Ev22_s5 : (Ev22 a0 a1 a2 a3 a4 a5 a6 a7 a8 a9 a10 a11 a12 a13 a14 a15 a16 a17 a18 a19 a20 a21).set 5 x = Ev22 a0 a1 a2 a3 a4 x a6 a7 a8 a9 a10 a11 a12 a13 a14 a15 a16 a17 a18 a19 a20 a21 := rfl
@[simp] theorem Ev22_g6 : (Ev22 a0 a1 a2 a3 a4 a5 a6 a7 a8 a9 a10 a11 a12 a13 a14 a15 a16 a17 a18 a19 a20 a21)[6]? = some a6 := rfl
@[simp] theorem Ev22_s6 : (Ev22 a0 a1 a2 a3 a4 a5 a6 a7 a8 a9 a10 a11 a12 a13 a14 a15 a16 a17 a18 a19 a20 a21).set 6 x = Ev22 a0 a1 a2 a3 a4 a5 x a7 a8 a9 a10 a11 a12 a13 a14 a15 a16 a17 a18 a19 a20 a21 := rfl
@[simp] theorem Ev22_g7 : (Ev22 a0 a1 a2 a3 a4 a5 a6 a7 a8 a9 a10 a11 a12 a13 a14 a15 a16 a17 a18 a19 a20 a21)[7]? = some a7 := rfl
@[simp] theorem Ev22_s7 : (Ev22 a0 a1 a2 a3 a4 a5 a6 a7 a8 a9 a10 a11 a12 a13 a14 a15 a16 a17 a18 a19 a20 a21).set 7 x = Ev22 a0 a1 a2 a3 a4 a5 a6 x a8 a9 a10 a11 a12 a13 a14 a15 a16 a17 a18 a19 a20 a21 := rfl
@[simp] theorem Ev22_g8 : (Ev22 a0 a1 a2 a3 a4 a5 a6 a7 a8 a9 a10 a11 a12 a13 a14 a15 a16 a17 a18 a19 a20 a21)[8]? = some a8 := rfl
@[simp] theorem Ev22_s8 : (Ev22 a0 a1 a2 a3 a4 a5 a6 a7 a8 a9 a10 a11 a12 a13 a14 a15 a16 a17 a18 a19 a20 a21).set 8 x = Ev22 a0 a1 a2 a3 a4 a5 a6 a7 x a9 a10 a11 a12 a13 a14 a15 a16 a17 a18 a19 a20 a21 := rfl
@[simp] theorem Ev22_g9 : (Ev22 a0 a1 a2 a3 a4 a5 a6 a7 a8 a9 a10 a11 a12 a13 a14 a15 a16 a17 a18 a19 a20 a21)[9]? = some a9 := rfl
@[simp] theorem Ev22_s9 : (Ev22 a0 a1 a2 a3 a4 a5 a6 a7 a8 a9 a10 a11 a12 a13 a14 a15 a16 a17 a18 a19 a20 a21).set 9 x = Ev22 a0 a1 a2 a3 a4 a5 a6 a7 a8 x a10 a11 a12 a13 a14 a15 a16 a17 a18 a19 a20 a21 := rfl
@[simp] theorem Ev22_g10 : (Ev22 a0 a1 a2 a3 a4 a5 a6 a7 a8 a9 a10 a11 a12 a13 a14 a15 a16 a17 a18 a19 a20 a21)[10]? = some a10 := rfl
@[simp] theorem Ev22_s10 : (Ev22 a0 a1 a2 a3 a4 a5 a6 a7 a8 a9 a10 a11 a12 a13 a14 a15 a16 a17 a18 a19 a20 a21).set 10 x = Ev22 a0 a1 a2 a3 a4 a5 a6 a7 a8 a9 x a11 a12 a13 a14 a15 a16 a17 a18 a19 a20 a21 := rfl
@[simp] theorem Ev22_g11 : (Ev22 a0 a1 a2 a3 a4 a5 a6 a7 a8 a9 a10 a11 a12 a13 a14 a15 a16 a17 a18 a19 a20 a21)[11]? = some a11 := rfl
@[simp] theorem Ev22_s11 : (Ev22 a0 a1 a2 a3 a4 a5 a6 a7 a8 a9 a10 a11 a12 a13 a14 a15 a16 a17 a18 a19 a20 a21).set 11 x = Ev22 a0 a1 a2 a3 a4 a5 a6 a7 a8 a9 a10 x a12 a13 a14 a15 a16 a17 a18 a19 a20 a21 := rfl
@[simp] theorem Ev22_g12 : (Ev22 a0 a1 a2 a3 a4 a5 a6 a7 a8 a9 a10 a11 a12 a13 a14 a15 a16 a17 a18 a19 a20 a21)[12]? = some a12 := rfl
@[simp] theorem Ev22_s12 : (Ev22 a0 a1 a2 a3 a4 a5 a6 a7 a8 a9 a10 a11 a12 a13 a14 a15 a16 a17 a18 a19 a20 a21).set 12 x = Ev22 a0 a1 a2 a3 a4 a5 a6 a7 a8 a9 a10 a11 x a13 a14 a15 a16 a17 a18 a19 a20 a21 := rfl
@[simp] theorem Ev22_g13 : (Ev22 a0 a1 a2 a3 a4 a5 a6 a7 a8 a9 a10 a11 a12 a13 a14 a15 a16 a17 a18 a19 a20 a21)[13]? = some a13 := rfl
@[simp] theorem Ev22_s13 : (Ev22 a0 a1 a2 a3 a4 a5 a6 a7 a8 a9 a10 a11 a12 a13 a14 a15 a16 a17 a18 a19 a20 a21).set 13 x = Ev22 a0 a1 a2 a3 a4 a5 a6 a7 a8 a9 a10 a11 a12 x a14 a15 a16 a17 a18 a19 a20 a21 := rfl
@[simp] theorem Ev22_g14 : (Ev22 a0 a1 a2 a3 a4 a5 a6 a7 a8 a9 a10 a11 a12 a13 a14 a15 a16 a17 a18 a19 a20 a21)[14]? = some a14 := rfl
@[simp] theorem Ev22_s14 : (Ev22 a0 a1 a2 a3 a4 a5 a6 a7 a8 a9 a10 a11 a12 a13 a14 a15 a16 a17 a18 a19 a20 a21).set 14 x = Ev22 a0 a1 a2 a3 a4 a5 a6 a7 a8 a9 a10 a11 a12 a13 x a15 a16 a17 a18 a19 a20 a21 := rfl
@[simp] theorem Ev22_g15 : (Ev22 a0 a1 a2 a3 a4 a5 a6 a7 a8 a9 a10 a11 a12 a13 a14 a15 a16 a17 a18 a19 a20 a21)[15]? = some a15 := rfl
@[simp] theorem Ev22_s15 : (Ev22 a0 a1 a2 a3 a4 a5 a6 a7 a8 a9 a10 a11 a12 a13 a14 a15 a16 a17 a18 a19 a20 a21).set 15 x = Ev22 a0 a1 a2 a3 a4 a5 a6 a7 a8 a9 a10 a11 a12 a13 a14 x a16 a17 a18 a19 a20 a21 := rfl
@[simp] theorem Ev22_g16 : (Ev22 a0 a1 a2 a3 a4 a5 a6 a7 a8 a9 a10 a11 a12 a13 a14 a15 a16 a17 a18 a19 a20 a21)[16]? = some a16 := rfl
@[simp] theorem Ev22_s16 : (Ev22 a0 a1 a2 a3 a4 a5 a6 a7 a8 a9 a10 a11 a12 a13 a14 a15 a16 a17 a18 a19 a20 a21).set 16 x = Ev22 a0 a1 a2 a3 a4 a5 a6 a7 a8 a9 a10 a11 a12 a13 a14 a15 x a17 a18 a19 a20 a21 := rfl
@[simp] theorem Ev22_g17 : (Ev22 a0 a1 a2 a3 a4 a5 a6 a7 a8 a9 a10 a11 a12 a13 a14 a15 a16 a17 a18 a19 a20 a21)[17]? = some a17 := rfl
@[simp] theorem Ev22_s17 : (Ev22 a0 a1 a2 a3 a4 a5 a6 a7 a8 a9 a10 a11 a12 a13 a14 a15 a16 a17 a18 a19 a20 a21).set 17 x = Ev22 a0 a1 a2 a3 a4 a5 a6 a7 a8 a9 a10 a11 a12 a13 a14 a15 a16 x a18 a19 a20 a21 := rfl
@[simp] theorem Ev22_g18 : (Ev22 a0 a1 a2 a3 a4 a5 a6 a7 a8 a9 a10 a11 a12 a13 a14 a15 a16 a17 a18 a19 a20 a21)[18]? = some a18 := rfl
@[simp] theorem Ev22_s18 : (Ev22 a0 a1 a2 a3 a4 a5 a6 a7 a8 a9 a10 a11 a12 a13 a14 a15 a16 a17 a18 a19 a20 a21).set 18 x = Ev22 a0 a1 a2 a3 a4 a5 a6 a7 a8 a9 a10 a11 a12 a13 a14 a15 a16 a17 x a19 a20 a21 := rfl
@[simp] theorem Ev22_g19 : (Ev22 a0 a1 a2 a3 a4 a5 a6 a7 a8 a9 a10 a11 a12 a13 a14 a15 a16 a17 a18 a19 a20 a21)[19]? = some a19 := rfl
@[simp] theorem Ev22_s19 : (Ev22 a0 a1 a2 a3 a4 a5 a6 a7 a8 a9 a10 a11 a12 a13 a14 a15 a16 a17 a18 a19 a20 a21).set 19 x = Ev22 a0 a1 a2 a3 a4 a5 a6 a7 a8 a9 a10 a11 a12 a13 a14 a15 a16 a17 a18 x a20 a21 := rfl
@[simp] theorem Ev22_g20 : (Ev22 a0 a1 a2 a3 a4 a5 a6 a7 a8 a9 a10 a11 a12 a13 a14 a15 a16 a17 a18 a19 a20 a21)[20]? = some a20 := rfl
@[simp] theorem Ev22_s20 : (Ev22 a0 a1 a2 a3 a4 a5 a6 a7 a8 a9 a10 a11 a12 a13 a14 a15 a16 a17 a18 a19 a20 a21).set 20 x = Ev22 a0 a1 a2 a3 a4 a5 a6 a7 a8 a9 a10 a11 a12 a13 a14 a15 a16 a17 a18 a19 x a21 := rfl
@[simp] theorem Ev22_g21 : (Ev22 a0 a1 a2 a3 a4 a5 a6 a7 a8 a9 a10 a11 a12 a13 a14 a15 a16 a17 a18 a19 a20 a21)[21]? = some a21 := rfl
@[simp] theorem Ev22_s21 : (Ev22 a0 a1 a2 a3 a4 a5 a6 a7 a8 a9 a10 a11 a12 a13 a14 a15 a16 a17 a18 a19 a20 a21).set 21 x = Ev22 a0 a1 a2 a3 a4 a5 a6 a7 a8 a9 a10 a11 a12 a13 a14 a15 a16 a17 a18 a19 a20 x := rfl
end
def Ev23 (a0 a1 a2 a3 a4 a5 a6 a7 a8 a9 a10 a11 a12 a13 a14 a15 a16 a17 a18 a19 a20 a21 a22 : Option PV) : NC.Env := [a0, a1, a2, a3, a4, a5, a6, a7, a8, a9, a10, a11, a12, a13, a14, a15, a16, a17, a18, a19, a20, a21, a22]
section
variable {a0 a1 a2 a3 a4 a5 a6 a7 a8 a9 a10 a11 a12 a13 a14 a15 a16 a17 a18 a19 a20 a21 a22 x : Option PV}
@[simp] theorem Ev23_l : (Ev23 a0 a1 a2 a3 a4 a5 a6 a7 a8 a9 a10 a11 a12 a13 a14 a15 a16 a17 a18 a19 a20 a21 a22).length = 23 := rfl
@[simp] theorem Ev23_g0 : (Ev23 a0 a1 a2 a3 a4 a5 a6 a7 a8 a9 a10 a11 a12 a13 a14 a15 a16 a17 a18 a19 a20 a21 a22)[0]? = some a0 := rfl
@[simp] theorem Ev23_s0 : (Ev23 a0 a1 a2 a3 a4 a5 a6 a7 a8 a9 a10 a11 a12 a13 a14 a15 a16 a17 a18 a19 a20 a21 a22).set 0 x = Ev23 x a1 a2 a3 a4 a5 a6 a7 a8 a9 a10 a11 a12 a13 a14 a15 a16 a17 a18 a19 a20 a21 a22 := rfl
@[simp] theorem Ev23_g1 : (Ev23 a0 a1 a2 a3 a4 a5 a6 a7 a8 a9 a10 a11 a12 a13 a14 a15 a16 a17 a18 a19 a20 a21 a22)[1]? = some a1 := rfl
@[simp] theorem Ev23_s1 : (Ev23 a0 a1 a2 a3 a4 a5 a6 a7 a8 a9 a10 a11 a12 a13 a14 a15 a16 a17 a18 a19 a20 a21 a22).set 1 x = Ev23 a0 x a2 a3 a4 a5 a6 a7 a8 a9 a10 a11 a12 a13 a14 a15 a16 a17 a18 a19 a20 a21 a22 := rfl
@[simp] theorem Ev23_g2 : (Ev23 a0 a1 a2 a3 a4 a5 a6 a7 a8 a9 a10 a11 a12 a13 a14 a15 a16 a17 a18 a19 a20 a21 a22)[2]? = some a2 := rfl
@[simp] theorem Ev23_s2 : (Ev23 a0 a1 a2 a3 a4 a5 a6 a7 a8 a9 a10 a11 a12 a13 a14 a15 a16 a17 a18 a19 a20 a21 a22).set 2 x = Ev23 a0 a1 x a3 a4 a5 a6 a7 a8 a9 a10 a11 a12 a13 a14 a15 a16 a17 a18 a19 a20 a21 a22 := rfl
@[simp] theorem Ev23_g3 : (Ev23 a0 a1 a2 a3 a4 a5 a6 a7 a8 a9 a10 a11 a12 a13 a14 a15 a16 a17 a18 a19 a20 a21 a22)[3]? = some a3 := rfl
@[simp] theorem Ev23_s3 : (Ev23 a0 a1 a2 a3 a4 a5 a6 a7 a8 a9 a10 a11 a12 a13 a14 a15 a16 a17 a18 a19 a20 a21 a22).set 3 x = Ev23 a0 a1 a2 x a4 a5 a6 a7 a8 a9 a10 a11 a12 a13 a14 a15 a16 a17 a18 a19 a20 a21 a22 := rfl
@[simp] theorem Ev23_g4 : (Ev23 a0 a1 a2 a3 a4 a5 a6 a7 a8 a9 a10 a11 a12 a13 a14 a15 a16 a17 a18 a19 a20 a21 a22)[4]? = some a4 := rfl
@[simp] theorem Ev23_s4 : (Ev23 a0 a1 a2 a3 a4 a5 a6 a7 a8 a9 a10 a11 a12 a13 a14 a15 a16 a17 a18 a19 a20 a21 a22).set 4 x = Ev23 a0 a1 a2 a3 x a5 a6 a7 a8 a9 a10 a11 a12 a13 a14 a15 a16 a17 a18 a19 a20 a21 a22 := rfl
@[simp] theorem Ev23_g5 : (Ev23 a0 a1 a2 a3 a4 a5 a6 a7 a8 a9 a10 a11 a12 a13 a14 a15 a16 a17 a18 a19 a20 a21 a22)[5]? = some a5 := rfl
@[simp] theorem Ev23_s5 : (Ev23 a0 a1 a2 a3 a4 a5 a6 a7 a8 a9 a10 a11 a12 a13 a14 a15 a16 a17 a18 a19 a20 a21 a22).set 5 x = Ev23 a0 a1 a2 a3 a4 x a6 a7 a8 a9 a10 a11 a12 a13 a14 a15 a16 a17 a18 a19 a20 a21 a22 := rfl
@[simp] theorem Ev23_g6 : (Ev23 a0 a1 a2 a3 a4 a5 a6 a7 a8 a9 a10 a11 a12 a13 a14 a15 a16 a17 a18 a19 a20 a21 a22)[6]? = some a6 := rfl
@[simp] theorem Ev23_s6 : (Ev23 a0 a1 a2 a3 a4 a5 a6 a7 a8 a9 a10 a11 a12 a13 a14 a15 a16 a17 a18 a19 a20 a21 a22).set 6 x = Ev23 a0 a1 a2 a3 a4 a5 x a7 a8 a9 a10 a11 a12 a13 a14 a15 a16 a17 a18 a19 a20 a21 a22 := rfl
@[simp] theorem Ev23_g7 : (Ev23 a0 a1 a2 a3 a4 a5 a6 a7 a8 a9 a10 a11 a12 a13 a14 a15 a16 a17 a18 a19 a20 a21 a22)[7]? = some a7 := rfl
@[simp] theorem Ev23_s7 : (Ev23 a0 a1 a2 a3 a4 a5 a6 a7 a8 a9 a10 a11 a12 a13 a14 a15 a16 a17 a18 a19 a20 a21 a22).set 7 x = Ev23 a0 a1 a2 a3 a4 a5 a6 x a8 a9 a10 a11 a12 a13 a14 a15 a16 a17 a18 a19 a20 a21 a22 := rfl
@[simp] theorem Ev23_g8 : (Ev23 a0 a1 a2 a3 a4 a5 a6 a7 a8 a9 a10 a11 a12 a13 a14 a15 a16 a17 a18 a19 a20 a21 a22)[8]? = some a8 := rfl
@[simp] theorem Ev23_s8 : (Ev23 a0 a1 a2 a3 a4 a5 a6 a7 a8 a9 a10 a11 a12 a13 a14 a15 a16 a17 a18 a19 a20 a21 a22).set 8 x = Ev23 a0 a1 a2 a3 a4 a5 a6 a7 x a9 a10 a11 a12 a13 a14 a15 a16 a17 a18 a19 a20 a21 a22 := rfl
@[simp] theorem Ev23_g9 : (Ev23 a0 a1 a2 a3 a4 a5 a6 a7 a8 a9 a10 a11 a12 a13 a14 a15 a16 a17 a18 a19 a20 a21 a22)[9]? = some a9 := rfl
@[simp] theorem Ev23_s9 : (Ev23 a0 a1 a2 a3 a4 a5 a6 a7 a8 a9 a10 a11 a12 a13 a14 a15 a16 a17 a18 a19 a20 a21 a22).set 9 x = Ev23 a0 a1 a2 a3 a4 a5 a6 a7 a8 x a10 a11 a12 a13 a14 a15 a16 a17 a18 a19 a20 a21 a22 := rfl
@[simp] theorem Ev23_g10 : (Ev23 a0 a1 a2 a3 a4 a5 a6 a7 a8 a9 a10 a11 a12 a13 a14 a15 a16 a17 a18 a19 a20 a21 a22)[10]? = some a10 := rfl
@[simp] theorem Ev23_s10 : (Ev23 a0 a1 a2 a3 a4 a5 a6 a7 a8 a9 a10 a11 a12 a13 a14 a15 a16 a17 a18 a19 a20 a21 a22).set 10 x = Ev23 a0 a1 a2 a3 a4 a5 a6 a7 a8 a9 x a11 a12 a13 a14 a15 a16 a17 a18 a19 a20 a21 a22 := rfl
@[simp] theorem Ev23_g11 : (Ev23 a0 a1 a2 a3 a4 a5 a6 a7 a8 a9 a10 a11 a12 a13 a14 a15 a16 a17 a18 a19 a20 a21 a22)[11]? = some a11 := rfl
@[simp] theorem Ev23_s11 : (Ev23 a0 a1 a2 a3 a4 a5 a6 a7 a8 a9 a10 a11 a12 a13 a14 a15 a16 a17 a18 a19 a20 a21 a22).set 11 x = Ev23 a0 a1 a2 a3 a4 a5 a6 a7 a8 a9 a10 x a12 a13 a14 a15 a16 a17 a18 a19 a20 a21 a22 := rfl
@[simp] theorem Ev23_g12 : (Ev23 a0 a1 a2 a3 a4 a5 a6 a7 a8 a9 a10 a11 a12 a13 a14 a15 a16 a17 a18 a19 a20 a21 a22)[12]? = some a12 := rfl
@[simp] theorem Ev23_s12 : (Ev23 a0 a1 a2 a3 a4 a5 a6 a7 a8 a9 a10 a11 a12 a13 a14 a15 a16 a17 a18 a19 a20 a21 a22).set 12 x = Ev23 a0 a1 a2 a3 a4 a5 a6 a7 a8 a9 a10 a11 x a13 a14 a15 a16 a17 a18 a19 a20 a21 a22 := rfl
@[simp] theorem Ev23_g13 : (Ev23 a0 a1 a2 a3 a4 a5 a6 a7 a8 a9 a10 a11 a12 a13 a14 a15 a16 a17 a18 a19 a20 a21 a22)[13]? = some a13 := rfl
@[simp] theorem Ev23_s13 : (Ev23 a0 a1 a2 a3 a4 a5 a6 a7 a8 a9 a10 a11 a12 a13 a14 a15 a16 a17 a18 a19 a20 a21 a22).set 13 x = Ev23 a0 a1 a2 a3 a4 a5 a6 a7 a8 a9 a10 a11 a12 x a14 a15 a16 a17 a18 a19 a20 a21 a22 := rfl
@[simp] theorem Ev23_g14 : (Ev23 a0 a1 a2 a3 a4 a5 a6 a7 a8 a9 a10 a11 a12 a13 a14 a15 a16 a17 a18 a19 a20 a21 a22)[14]? = some a14 := rfl
@[simp] theorem Ev23_s14 : (Ev23 a0 a1 a2 a3 a4 a5 a6 a7 a8 a9 a10 a11 a12 a13 a14 a15 a16 a17 a18 a19 a20 a21 a22).set 14 x = Ev23 a0 a1 a2 a3 a4 a5 a6 a7 a8 a9 a10 a11 a12 a13 x a15 a16 a17 a18 a19 a20 a21 a22 := rfl
@[simp] theorem Ev23_g15 : (Ev23 a0 a1 a2 a3 a4 a5 a6 a7 a8 a9 a10 a11 a12 a13 a14 a15 a16 a17 a18 a19 a20 a21 a22)[15]? = some a15 := rfl
@[simp] theorem Ev23_s15 : (Ev23 a0 a1 a2 a3 a4 a5 a6 a7 a8 a9 a10 a11 a12 a13 a14 a15 a16 a17 a18 a19 a20 a21 a22).set 15 x = Ev23 a0 a1 a2 a3 a4 a5 a6 a7 a8 a9 a10 a11 a12 a13 a14 x a16 a17 a18 a19 a20 a21 a22 := rfl
@[simp] theorem Ev23_g16 : (Ev23 a0 a1 a2 a3 a4 a5 a6 a7 a8 a9 a10 a11 a12 a13 a14 a15 a16 a17 a18 a19 a20 a21 a22)[16]? = some a16 := rfl
@[simp] theorem Ev23_s16 : (Ev23 a0 a1 a2 a3 a4 a5 a6 a7 a8 a9 a10 a11 a12 a13 a14 a15 a16 a17 a18 a19 a20 a21 a22).set 16 x = Ev23 a0 a1 a2 a3 a4 a5 a6 a7 a8 a9 a10 a11 a12 a13 a14 a15 x a17 a18 a19 a20 a21 a22 := rfl
@[simp] theorem Ev23_g17 : (Ev23 a0 a1 a2 a3 a4 a5 a6 a7 a8 a9 a10 a11 a12 a13 a14 a15 a16 a17 a18 a19 a20 a21 a22)[17]? = some a17 := rfl
@[simp] theorem Ev23_s17 : (Ev23 a0 a1 a2 a3 a4 a5 a6 a7 a8 a9 a10 a11 a12 a13 a14 a15 a16 a17 a18 a19 a20 a21 a22).set 17 x = Ev23 a0 a1 a2 a3 a4 a5 a6 a7 a8 a9 a10 a11 a12 a13 a14 a15 a16 x a18 a19 a20 a21 a22 := rfl
@[simp] theorem Ev23_g18 : (Ev23 a0 a1 a2 a3 a4 a5 a6 a7 a8 a9 a10 a11 a12 a13 a14 a15 a16 a17 a18 a19 a20 a21 a22)[18]? = some a18 := rfl
@[simp] theorem Ev23_s18 : (Ev23 a0 a1 a2 a3 a4 a5 a6 a7 a8 a9 a10 a11 a12 a13 a14 a15 a16 a17 a18 a19 a20 a21 a22).set 18 x = Ev23 a0 a1 a2 a3 a4 a5 a6 a7 a8 a9 a10 a11 a12 a13 a14 a15 a16 a17 x a19 a20 a21 a22 := rfl
@[simp] theorem Ev23_g19 : (Ev23 a0 a1 a2 a3 a4 a5 a6 a7 a8 a9 a10 a11 a12 a13 a14 a15 a16 a17 a18 a19 a20 a21 a22)[19]? = some a19 := rfl
@[simp] theorem Ev23_s19 : (Ev23 a0 a1 a2 a3 a4 a5 a6 a7 a8 a9 a10 a11 a12 a13 a14 a15 a16 a17 a18 a19 a20 a21 a22).set 19 x = Ev23 a0 a1 a2 a3 a4 a5 a6 a7 a8 a9 a10 a11 a12 a13 a14 a15 a16 a17 a18 x a20 a21 a22 := rfl
@[simp] theorem Ev23_g20 : (Ev23 a0 a1 a2 a3 a4 a5 a6 a7 a8 a9 a10 a11 a12 a13 a14 a15 a16 a17 a18 a19 a20 a21 a22)[20]? = some a20 := rfl
@[simp] theorem Ev23_s20 : (Ev23 a0 a1 a2 a3 a4 a5 a6 a7 a8 a9 a10 a11 a12 a13 a14 a15 a16 a17 a18 a19 a20 a21 a22).set 20 x = Ev23 a0 a1 a2 a3 a4 a5 a6 a7 a8 a9 a10 a11 a12 a13 a14 a15 a16 a17 a18 a19 x a21 a22 := rfl
@[simp] theorem Ev23_g21 : (Ev23 a0 a1 a2 a3 a4 a5 a6 a7 a8 a9 a10 a11 a12 a13 a14 a15 a16 a17 a18 a19 a20 a21 a22)[21]? = some a21 := rfl
@[simp] theorem Ev23_s21 : (Ev23 a0 a1 a2 a3 a4 a5 a6 a7 a8 a9 a10 a11 a12 a13 a14 a15 a16 a17 a18 a19 a20 a21 a22).set 21 x = Ev23 a0 a1 a2 a3 a4 a5 a6 a7 a8 a9 a10 a11 a12 a13 a14 a15 a16 a17 a18 a19 a20 x a22 := rfl
@[simp] theorem Ev23_g22 : (Ev23 a0 a1 a2 a3 a4 a5 a6 a7 a8 a9 a10 a11 a12 a13 a14 a15 a16 a17 a18 a19 a20 a21 a22)[22]? = some a22 := rfl
@[simp] theorem Ev23_s22 : (Ev23 a0 a1 a2 a3 a4 a5 a6 a7 a8 a9 a10 a11 a12 a13 a14 a15 a16 a17 a18 a19 a20 a21 a22).set 22 x = Ev23 a0 a1 a2 a3 a4 a5 a6 a7 a8 a9 a10 a11 a12 a13 a14 a15 a16 a17 a18 a19 a20 a21 x := rfl
end
def Ev24 (a0 a1 a2 a3 a4 a5 a6 a7 a8 a9 a10 a11 a12 a13 a14 a15 a16 a17 a18 a19 a20 a21 a22 a23 : Option PV) : NC.Env := [a0, a1, a2, a3, a4, a5, a6, a7, a8, a9, a10, a11, a12, a13, a14, a15, a16, a17, a18, a19, a20, a21, a22, a23]
section
variable {a0 a1 a2 a3 a4 a5 a6 a7 a8 a9 a10 a11 a12 a13 a14 a15 a16 a17 a18 a19 a20 a21 a22 a23 x : Option PV}
@[simp] theorem Ev24_l : (Ev24 a0 a1 a2 a3 a4 a5 a6 a7 a8 a9 a10 a11 a12 a13 a14 a15 a16 a17 a18 a19 a20 a21 a22 a23).length = 24 := rfl
@[simp] theorem Ev24_g0 : (Ev24 a0 a1 a2 a3 a4 a5 a6 a7 a8 a9 a10 a11 a12 a13 a14 a15 a16 a17 a18 a19 a20 a21 a22 a23)[0]? = some a0 := rfl
@[simp] theorem Ev24_s0 : (Ev24 a0 a1 a2 a3 a4 a5 a6 a7 a8 a9 a10 a11 a12 a13 a14 a15 a16 a17 a18 a19 a20 a21 a22 a23).set 0 x = Ev24 x a1 a2 a3 a4 a5 a6 a7 a8 a9 a10 a11 a12 a13 a14 a15 a16 a17 a18 a19 a20 a21 a22 a23 := rfl
@[simp] theorem Ev24_g1 : (Ev24 a0 a1 a2 a3 a4 a5 a6 a7 a8 a9 a10 a11 a12 a13 a14 a15 a16 a17 a18 a19 a20 a21 a22 a23)[1]? = some a1 := rfl
@[simp] theorem Ev24_s1 : (Ev24 a0 a1 a2 a3 a4 a5 a6 a7 a8 a9 a10 a11 a12 a13 a14 a15 a16 a17 a18 a19 a20 a21 a22 a23).set 1 x = Ev24 a0 x a2 a3 a4 a5 a6 a7 a8 a9 a10 a11 a12 a13 a14 a15 a16 a17 a18 a19 a20 a21 a22 a23 := rfl
@[simp] theorem Ev24_g2 : (Ev24 a0 a1 a2 a3 a4 a5 a6 a7 a8 a9 a10 a11 a12 a13 a14 a15 a16 a17 a18 a19 a20 a21 a22 a23)[2]? = some a2 := rfl
@[simp] theorem Ev24_s2 : (Ev24 a0 a1 a2 a3 a4 a5 a6 a7 a8 a9 a10 a11 a12 a13 a14 a15 a16 a17 a18 a19 a20 a21 a22 a23).set 2 x = Ev24 a0 a1 x a3 a4 a5 a6 a7 a8 a9 a10 a11 a12 a13 a14 a15 a16 a17 a18 a19 a20 a21 a22 a23 := rfl
@[simp] theorem Ev24_g3 : (Ev24 a0 a1 a2 a3 a4 a5 a6 a7 a8 a9 a10 a11 a12 a13 a14 a15 a16 a17 a18 a19 a20 a21 a22 a23)[3]? = some a3 := rfl
@[simp] theorem Ev24_s3 : (Ev24 a0 a1 a2 a3 a4 a5 a6 a7 a8 a9 a10 a11 a12 a13 a14 a15 a16 a17 a18 a19 a20 a21 a22 a23).set 3 x = Ev24 a0 a1 a2 x a4 a5 a6 a7 a8 a9 a10 a11 a12 a13 a14 a15 a16 a17 a18 a19 a20 a21 a22 a23 := rfl
@[simp] theorem Ev24_g4 : (Ev24 a0 a1 a2 a3 a4 a5 a6 a7 a8 a9 a10 a11 a12 a13 a14 a15 a16 a17 a18 a19 a20 a21 a22 a23)[4]? = some a4 := rfl
@[simp] theorem Ev24_s4 : (Ev24 a0 a1 a2 a3 a4 a5 a6 a7 a8 a9 a10 a11 a12 a13 a14 a15 a16 a17 a18 a19 a20 a21 a22 a23).set 4 x = Ev24 a0 a1 a2 a3 x a5 a6 a7 a8 a9 a10 a11 a12 a13 a14 a15 a16 a17 a18 a19 a20 a21 a22 a23 := rfl
@[simp] theorem Ev24_g5 : (Ev24 a0 a1 a2 a3 a4 a5 a6 a7 a8 a9 a10 a11 a12 a13 a14 a15 a16 a17 a18 a19 a20 a21 a22 a23)[5]? = some a5 := rfl
@[simp] theorem Ev24_s5 : (Ev24 a0 a1 a2 a3 a4 a5 a6 a7 a8 a9 a10 a11 a12 a13 a14 a15 a16 a17 a18 a19 a20 a21 a22 a23).set 5 x = Ev24 a0 a1 a2 a3 a4 x a6 a7 a8 a9 a10 a11 a12 a13 a14 a15 a16 a17 a18 a19 a20 a21 a22 a23 := rfl
@[simp] theorem Ev24_g6 : (Ev24 a0 a1 a2 a3 a4 a5 a6 a7 a8 a9 a10 a11 a12 a13 a14 a15 a16 a17 a18 a19 a20 a21 a22 a23)[6]? = some a6 := rfl
@[simp] theorem Ev24_s6 : (Ev24 a0 a1 a2 a3 a4 a5 a6 a7 a8 a9 a10 a11 a12 a13 a14 a15 a16 a17 a18 a19 a20 a21 a22 a23).set 6 x = Ev24 a0 a1 a2 a3 a4 a5 x a7 a8 a9 a10 a11 a12 a13 a14 a15 a16 a17 a18 a19 a20 a21 a22 a23 := rfl
@[simp] theorem Ev24_g7 : (Ev24 a0 a1 a2 a3 a4 a5 a6 a7 a8 a9 a10 a11 a12 a13 a14 a15 a16 a17 a18 a19 a20 a21 a22 a23)[7]? = some a7 := rfl
@[simp] theorem Ev24_s7 : (Ev24 a0 a1 a2 a3 a4 a5 a6 a7 a8 a9 a10 a11 a12 a13 a14 a15 a16 a17 a18 a19 a20 a21 a22 a23).set 7 x = Ev24 a0 a1 a2 a3 a4 a5 a6 x a8 a9 a10 a11 a12 a13 a14 a15 a16 a17 a18 a19 a20 a21 a22 a23 := rfl
@[simp] theorem Ev24_g8 : (Ev24 a0 a1 a2 a3 a4 a5 a6 a7 a8 a9 a10 a11 a12 a13 a14 a15 a16 a17 a18 a19 a20 a21 a22 a23)[8]? = some a8 := rfl
@[simp] theorem Ev24_s8 : (Ev24 a0 a1 a2 a3 a4 a5 a6 a7 a8 a9 a10 a11 a12 a13 a14 a15 a16 a17 a18 a19 a20 a21 a22 a23).set 8 x = Ev24 a0 a1 a2 a3 a4 a5 a6 a7 x a9 a10 a11 a12 a13 a14 a15 a16 a17 a18 a19 a20 a21 a22 a23 := rfl
@[simp] theorem Ev24_g9 : (Ev24 a0 a1 a2 a3 a4 a5 a6 a7 a8 a9 a10 a11 a12 a13 a14 a15 a16 a17 a18 a19 a20 a21 a22 a23)[9]? = some a9 := rfl
@[simp] theorem Ev24_s9 : (Ev24 a0 a1 a2 a3 a4 a5 a6 a7 a8 a9 a10 a11 a12 a13 a14 a15 a16 a17 a18 a19 a20 a21 a22 a23).set 9 x = Ev24 a0 a1 a2 a3 a4 a5 a6 a7 a8 x a10 a11 a12 a13 a14 a15 a16 a17 a18 a19 a20 a21 a22 a23 := rfl
@[simp] theorem Ev24_g10 : (Ev24 a0 a1 a2 a3 a4 a5 a6 a7 a8 a9 a10 a11 a12 a13 a14 a15 a16 a17 a18 a19 a20 a21 a22 a23)[10]? = some a10 := rfl
@[simp] theorem Ev24_s10 : (Ev24 a0 a1 a2 a3 a4 a5 a6 a7 a8 a9 a10 a11 a12 a13 a14 a15 a16 a17 a18 a19 a20 a21 a22 a23).set 10 x = Ev24 a0 a1 a2 a3 a4 a5 a6 a7 a8 a9 x a11 a12 a13 a14 a15 a16 a17 a18 a19 a20 a21 a22 a23 := rfl
@[simp] theorem Ev24_g11 : (Ev24 a0 a1 a2 a3 a4 a5 a6 a7 a8 a9 a10 a11 a12 a13 a14 a15 a16 a17 a18 a19 a20 a21 a22 a23)[11]? = some a11 := rfl
@[simp] theorem Ev24_s11 : (Ev24 a0 a1 a2 a3 a4 a5 a6 a7 a8 a9 a10 a11 a12 a13 a14 a15 a16 a17 a18 a19 a20 a21 a22 a23).set 11 x = Ev24 a0 a1 a2 a3 a4 a5 a6 a7 a8 a9 a10 x a12 a13 a14 a15 a16 a17 a18 a19 a20 a21 a22 a23 := rfl
@[simp] theorem Ev24_g12 : (Ev24 a0 a1 a2 a3 a4 a5 a6 a7 a8 a9 a10 a11 a12 a13 a14 a15 a16 a17 a18 a19 a20 a21 a22 a23)[12]? = some a12 := rfl
@[simp] theorem Ev24_s12 : (Ev24 a0 a1 a2 a3 a4 a5 a6 a7 a8 a9 a10 a11 a12 a13 a14 a15 a16 a17 a18 a19 a20 a21 a22 a23).set 12 x = Ev24 a0 a1 a2 a3 a4 a5 a6 a7 a8 a9 a10 a11 x a13 a14 a15 a16 a17 a18 a19 a20 a21 a22 a23 := rfl
@[simp] theorem Ev24_g13 : (Ev24 a0 a1 a2 a3 a4 a5 a6 a7 a8 a9 a10 a11 a12 a13 a14 a15 a16 a17 a18 a19 a20 a21 a22 a23)[13]? = some a13 := rfl
@[simp] theorem Ev24_s13 : (Ev24 a0 a1 a2 a3 a4 a5 a6 a7 a8 a9 a10 a11 a12 a13 a14 a15 a16 a17 a18 a19 a20 a21 a22 a23).set 13 x = Ev24 a0 a1 a2 a3 a4 a5 a6 a7 a8 a9 a10 a11 a12 x a14 a15 a16 a17 a18 a19 a20 a21 a22 a23 := rfl
@[simp] theorem Ev24_g14 : (Ev24 a0 a1 a2 a3 a4 a5 a6 a7 a8 a9 a10 a11 a12 a13 a14 a15 a16 a17 a18 a19 a20 a21 a22 a23)[14]? = some a14 := rfl
@[simp] theorem Ev24_s14 : (Ev24 a0 a1 a2 a3 a4 a5 a6 a7 a8 a9 a10 a11 a12 a13 a14 a15 a16 a17 a18 a19 a20 a21 a22 a23).set 14 x = Ev24 a0 a1 a2 a3 a4 a5 a6 a7 a8 a9 a10 a11 a12 a13 x a15 a16 a17 a18 a19 a20 a21 a22 a23 := rfl
@[simp] theorem Ev24_g15 : (Ev24 a0 a1 a2 a3 a4 a5 a6 a7 a8 a9 a10 a11 a12 a13 a14 a15 a16 a17 a18 a19 a20 a21 a22 a23)[15]? = some a15 := rfl
@[simp] theorem Ev24_s15 : (Ev24 a0 a1 a2 a3 a4 a5 a6 a7 a8 a9 a10 a11 a12 a13 a14 a15 a16 a17 a18 a19 a20 a21 a22 a23).set 15 x = Ev24 a0 a1 a2 a3 a4 a5 a6 a7 a8 a9 a10 a11 a12 a13 a14 x a16 a17 a18 a19 a20 a21 a22 a23 := rfl
@[simp] theorem Ev24_g16 : (Ev24 a0 a1 a2 a3 a4 a5 a6 a7 a8 a9 a10 a11 a12 a13 a14 a15 a16 a17 a18 a19 a20 a21 a22 a23)[16]? = some a16 := rfl
@[simp] theorem Ev24_s16 : (Ev24 a0 a1 a2 a3 a4 a5 a6 a7 a8 a9 a10 a11 a12 a13 a14 a15 a16 a17 a18 a19 a20 a21 a22 a23).set 16 x = Ev24 a0 a1 a2 a3 a4 a5 a6 a7 a8 a9 a10 a11 a12 a13 a14 a15 x a17 a18 a19 a20 a21 a22 a23 := rfl
@[simp] theorem Ev24_g17 : (Ev24 a0 a1 a2 a3 a4 a5 a6 a7 a8 a9 a10 a11 a12 a13 a14 a15 a16 a17 a18 a19 a20 a21 a22 a23)[17]? = some a17 := rfl
@[simp] theorem Ev24_s17 : (Ev24 a0 a1 a2 a3 a4 a5 a6 a7 a8 a9 a10 a11 a12 a13 a14 a15 a16 a17 a18 a19 a20 a21 a22 a23).set 17 x = Ev24 a0 a1 a2 a3 a4 a5 a6 a7 a8 a9 a10 a11 a12 a13 a14 a15 a16 x a18 a19 a20 a21 a22 a23 := rfl
@[simp] theorem Ev24_g18 : (Ev24 a0 a1 a2 a3 a4 a5 a6 a7 a8 a9 a10 a11 a12 a13 a14 a15 a16 a17 a18 a19 a20 a21 a22 a23)[18]? = some a18 := rfl
@[simp] theorem Ev24_s18 : (Ev24 a0 a1 a2 a3 a4 a5 a6 a7 a8 a9 a10 a11 a12 a13 a14 a15 a16 a17 a18 a19 a20 a21 a22 a23).set 18 x = Ev24 a0 a1 a2 a3 a4 a5 a6 a7 a8 a9 a10 a11 a12 a13 a14 a15 a16 a17 x a19 a20 a21 a22 a23 := rfl
@[simp] theorem Ev24_g19 : (Ev24 a0 a1 a2 a3 a4 a5 a6 a7 a8 a9 a10 a11 a12 a13 a14 a15 a16 a17 a18 a19 a20 a21 a22 a23)[19]? = some a19 := rfl
@[simp] theorem Ev24_s19 : (Ev24 a0 a1 a2 a3 a4 a5 a6 a7 a8 a9 a10 a11 a12 a13 a14 a15 a16 a17 a18 a19 a20 a21 a22 a23).set 19 x = Ev24 a0 a1 a2 a3 a4 a5 a6 a7 a8 a9 a10 a11 a12 a13 a14 a15 a16 a17 a18 x a20 a21 a22 a23 := rfl
@[simp] theorem Ev24_g20 : (Ev24 a0 a1 a2 a3 a4 a5 a6 a7 a8 a9 a10 a11 a12 a13 a14 a15 a16 a17 a18 a19 a20 a21 a22 a23)[20]? = some a20 := rfl
@[simp] theorem Ev24_s20 : (Ev24 a0 a1 a2 a3 a4 a5 a6 a7 a8 a9 a10 a11 a12 a13 a14 a15 a16 a17 a18 a19 a20 a21 a22 a23).set 20 x = Ev24 a0 a1 a2 a3 a4 a5 a6 a7 a8 a9 a10 a11 a12 a13 a14 a15 a16 a17 a18 a19 x a21 a22 a23 := rfl
@[simp] theorem Ev24_g21 : (Ev24 a0 a1 a2 a3 a4 a5 a6 a7 a8 a9 a10 a11 a12 a13 a14 a15 a16 a17 a18 a19 a20 a21 a22 a23)[21]? = some a21 := rfl
@[simp] theorem Ev24_s21 : (Ev24 a0 a1 a2 a3 a4 a5 a6 a7 a8 a9 a10 a11 a12 a13 a14 a15 a16 a17 a18 a19 a20 a21 a22 a23).set 21 x = Ev24 a0 a1 a2 a3 a4 a5 a6 a7 a8 a9 a10 a11 a12 a13 a14 a15 a16 a17 a18 a19 a20 x a22 a23 := rfl
@[simp] theorem Ev24_g22 : (Ev24 a0 a1 a2 a3 a4 a5 a6 a7 a8 a9 a10 a11 a12 a13 a14 a15 a16 a17 a18 a19 a20 a21 a22 a23)[22]? = some a22 := rfl
@[simp] theorem Ev24_s22 : (Ev24 a0 a1 a2 a3 a4 a5 a6 a7 a8 a9 a10 a11 a12 a13 a14 a15 a16 a17 a18 a19 a20 a21 a22 a23).set 22 x = Ev24 a0 a1 a2 a3 a4 a5 a6 a7 a8 a9 a10 a11 a12 a13 a14 a15 a16 a17 a18 a19 a20 a21 x a23 := rfl
@[simp] theorem Ev24_g23 : (Ev24 a0 a1 a2 a3 a4 a5 a6 a7 a8 a9 a10 a11 a12 a13 a14 a15 a16 a17 a18 a19 a20 a21 a22 a23)[23]? = some a23 := rfl
@[simp] theorem Ev24_s23 : (Ev24 a0 a1 a2 a3 a4 a5 a6 a7 a8 a9 a10 a11 a12 a13 a14 a15 a16 a17 a18 a19 a20 a21 a22 a23).set 23 x = Ev24 a0 a1 a2 a3 a4 a5 a6 a7 a8 a9 a10 a11 a12 a13 a14 a15 a16 a17 a18 a19 a20 a21 a22 x := rfl
end
def Ev25 (a0 a1 a2 a3 a4 a5 a6 a7 a8 a9 a10 a11 a12 a13 a14 a15 a16 a17 a18 a19 a20 a21 a22 a23 a24 : Option PV) : NC.Env := [a0, a1, a2, a3, a4, a5, a6, a7, a8, a9, a10, a11, a12, a13, a14, a15, a16, a17, a18, a19, a20, a21, a22, a23, a24]
section
variable {a0 a1 a2 a3 a4 a5 a6 a7 a8 a9 a10 a11 a12 a13 a14 a15 a16 a17 a18 a19 a20 a21 a22 a23 a24 x : Option PV}
@[simp] theorem Ev25_l : (Ev25 a0 a1 a2 a3 a4 a5 a6 a7 a8 a9 a10 a11 a12 a13 a14 a15 a16 a17 a18 a19 a20 a21 a22 a23 a24).length = 25 := rfl
@[simp] theorem Ev25_g0 : (Ev25 a0 a1 a2 a3 a4 a5 a6 a7 a8 a9 a10 a11 a12 a13 a14 a15 a16 a17 a18 a19 a20 a21 a22 a23 a24)[0]? = some a0 := rfl
@[simp] theorem Ev25_s0 : (Ev25 a0 a1 a2 a3 a4 a5 a6 a7 a8 a9 a10 a11 a12 a13 a14 a15 a16 a17 a18 a19 a20 a21 a22 a23 a24).set 0 x = Ev25 x a1 a2 a3 a4 a5 a6 a7 a8 a9 a10 a11 a12 a13 a14 a15 a16 a17 a18 a19 a20 a21 a22 a23 a24 := rfl
@[simp] theorem Ev25_g1 : (Ev25 a0 a1 a2 a3 a4 a5 a6 a7 a8 a9 a10 a11 a12 a13 a14 a15 a16 a17 a18 a19 a20 a21 a22 a23 a24)[1]? = some a1 := rfl
@[simp] theorem Ev25_s1 : (Ev25 a0 a1 a2 a3 a4 a5 a6 a7 a8 a9 a10 a11 a12 a13 a14 a15 a16 a17 a18 a19 a20 a21 a22 a23 a24).set 1 x = Ev25 a0 x a2 a3 a4 a5 a6 a7 a8 a9 a10 a11 a12 a13 a14 a15 a16 a17 a18 a19 a20 a21 a22 a23 a24 := rfl
@[simp] theorem Ev25_g2 : (Ev25 a0 a1 a2 a3 a4 a5 a6 a7 a8 a9 a10 a11 a12 a13 a14 a15 a16 a17 a18 a19 a20 a21 a22 a23 a24)[2]? = some a2 := rfl
@[simp] theorem Ev25_s2 : (Ev25 a0 a1 a2 a3 a4 a5 a6 a7 a8 a9 a10 a11 a12 a13 a14 a15 a16 a17 a18 a19 a20 a21 a22 a23 a24).set 2 x = Ev25 a0 a1 x a3 a4 a5 a6 a7 a8 a9 a10 a11 a12 a13 a14 a15 a16 a17 a18 a19 a20 a21 a22 a23 a24 := rfl
@[simp] theorem Ev25_g3 : (Ev25 a0 a1 a2 a3 a4 a5 a6 a7 a8 a9 a10 a11 a12 a13 a14 a15 a16 a17 a18 a19 a20 a21 a22 a23 a24)[3]? = some a3 := rfl
@[simp] theorem Ev25_s3 : (Ev25 a0 a1 a2 a3 a4 a5 a6 a7 a8 a9 a10 a11 a12 a13 a14 a15 a16 a17 a18 a19 a20 a21 a22 a23 a24).set 3 x = Ev25 a0 a1 a2 x a4 a5 a6 a7 a8 a9 a10 a11 a12 a13 a14 a15 a16 a17 a18 a19 a20 a21 a22 a23 a24 := rfl
@[simp] theorem Ev25_g4 : (Ev25 a0 a1 a2 a3 a4 a5 a6 a7 a8 a9 a10 a11 a12 a13 a14 a15 a16 a17 a18 a19 a20 a21 a22 a23 a24)[4]? = some a4 := rfl
@[simp] theorem Ev25_s4 : (Ev25 a0 a1 a2 a3 a4 a5 a6 a7 a8 a9 a10 a11 a12 a13 a14 a15 a16 a17 a18 a19 a20 a21 a22 a23 a24).set 4 x = Ev25 a0 a1 a2 a3 x a5 a6 a7 a8 a9 a10 a11 a12 a13 a14 a15 a16 a17 a18 a19 a20 a21 a22 a23 a24 := rfl
@[simp] theorem Ev25_g5 : (Ev25 a0 a1 a2 a3 a4 a5 a6 a7 a8 a9 a10 a11 a12 a13 a14 a15 a16 a17 a18 a19 a20 a21 a22 a23 a24)[5]? = some a5 := rfl
@[simp] theorem Ev25_s5 : (Ev25 a0 a1 a2 a3 a4 a5 a6 a7 a8 a9 a10 a11 a12 a13 a14 a15 a16 a17 a18 a19 a20 a21 a22 a23 a24).set 5 x = Ev25 a0 a1 a2 a3 a4 x a6 a7 a8 a9 a10 a11 a12 a13 a14 a15 a16 a17 a18 a19 a20 a21 a22 a23 a24 := rfl
@[simp] theorem Ev25_g6 : (Ev25 a0 a1 a2 a3 a4 a5 a6 a7 a8 a9 a10 a11 a12 a13 a14 a15 a16 a17 a18 a19 a20 a21 a22 a23 a24)[6]? = some a6 := rfl
@[simp] theorem Ev25_s6 : (Ev25 a0 a1 a2 a3 a4 a5 a6 a7 a8 a9 a10 a11 a12 a13 a14 a15 a16 a17 a18 a19 a20 a21 a22 a23 a24).set 6 x = Ev25 a0 a1 a2 a3 a4 a5 x a7 a8 a9 a10 a11 a12 a13 a14 a15 a16 a17 a18 a19 a20 a21 a22 a23 a24 := rfl
@[simp] theorem Ev25_g7 : (Ev25 a0 a1 a2 a3 a4 a5 a6 a7 a8 a9 a10 a11 a12 a13 a14 a15 a16 a17 a18 a19 a20 a21 a22 a23 a24)[7]? = some a7 := rfl
@[simp] theorem Ev25_s7 : (Ev25 a0 a1 a2 a3 a4 a5 a6 a7 a8 a9 a10 a11 a12 a13 a14 a15 a16 a17 a18 a19 a20 a21 a22 a23 a24).set 7 x = Ev25 a0 a1 a2 a3 a4 a5 a6 x a8 a9 a10 a11 a12 a13 a14 a15 a16 a17 a18 a19 a20 a21 a22 a23 a24 := rfl
@[simp] theorem Ev25_g8 : (Ev25 a0 a1 a2 a3 a4 a5 a6 a7 a8 a9 a10 a11 a12 a13 a14 a15 a16 a17 a18 a19 a20 a21 a22 a23 a24)[8]? = some a8 := rfl
@[simp] theorem Ev25_s8 : (Ev25 a0 a1 a2 a3 a4 a5 a6 a7 a8 a9 a10 a11 a12 a13 a14 a15 a16 a17 a18 a19 a20 a21 a22 a23 a24).set 8 x = Ev25 a0 a1 a2 a3 a4 a5 a6 a7 x a9 a10 a11 a12 a13 a14 a15 a16 a17 a18 a19 a20 a21 a22 a23 a24 := rfl
@[simp] theorem Ev25_g9 : (Ev25 a0 a1 a2 a3 a4 a5 a6 a7 a8 a9 a10 a11 a12 a13 a14 a15 a16 a17 a18 a19 a20 a21 a22 a23 a24)[9]? = some a9 := rfl
@[simp] theorem Ev25_s9 : (Ev25 a0 a1 a2 a3 a4 a5 a6 a7 a8 a9 a10 a11 a12 a13 a14 a15 a16 a17 a18 a19 a20 a21 a22 a23 a24).set 9 x = Ev25 a0 a1 a2 a3 a4 a5 a6 a7 a8 x a10 a11 a12 a13 a14 a15 a16 a17 a18 a19 a20 a21 a22 a23 a24 := rfl
@[simp] theorem Ev25_g10 : (Ev25 a0 a1 a2 a3 a4 a5 a6 a7 a8 a9 a10 a11 a12 a13 a14 a15 a16 a17 a18 a19 a20 a21 a22 a23 a24)[10]? = some a10 := rfl
@[simp] theorem Ev25_s10 : (Ev25 a0 a1 a2 a3 a4 a5 a6 a7 a8 a9 a10 a11 a12 a13 a14 a15 a16 a17 a18 a19 a20 a21 a22 a23 a24).set 10 x = Ev25 a0 a1 a2 a3 a4 a5 a6 a7 a8 a9 x a11 a12 a13 a14 a15 a16 a17 a18 a19 a20 a21 a22 a23 a24 := rfl
@[simp] theorem Ev25_g11 : (Ev25 a0 a1 a2 a3 a4 a5 a6 a7 a8 a9 a10 a11 a12 a13 a14 a15 a16 a17 a18 a19 a20 a21 a22 a23 a24)[11]? = some a11 := rfl
@[simp] theorem Ev25_s11 : (Ev25 a0 a1 a2 a3 a4 a5 a6 a7 a8 a9 a10 a11 a12 a13 a14 a15 a16 a17 a18 a19 a20 a21 a22 a23 a24).set 11 x = Ev25 a0 a1 a2 a3 a4 a5 a6 a7 a8 a9 a10 x a12 a13 a14 a15 a16 a17 a18 a19 a20 a21 a22 a23 a24 := rfl
@[simp] theorem Ev25_g12 : (Ev25 a0 a1 a2 a3 a4 a5 a6 a7 a8 a9 a10 a11 a12 a13 a14 a15 a16 a17 a18 a19 a20 a21 a22 a23 a24)[12]? = some a12 := rfl
@[simp] theorem Ev25_s12 : (Ev25 a0 a1 a2 a3 a4 a5 a6 a7 a8 a9 a10 a11 a12 a13 a14 a15 a16 a17 a18 a19 a20 a21 a22 a23 a24).set 12 x = Ev25 a0 a1 a2 a3 a4 a5 a6 a7 a8 a9 a10 a11 x a13 a14 a15 a16 a17 a18 a19 a20 a21 a22 a23 a24 := rfl
@[simp] theorem Ev25_g13 : (Ev25 a0 a1 a2 a3 a4 a5 a6 a7 a8 a9 a10 a11 a12 a13 a14 a15 a16 a17 a18 a19 a20 a21 a22 a23 a24)[13]? = some a13 := rfl
@[simp] theorem Ev25_s13 : (Ev25 a0 a1 a2 a3 a4 a5 a6 a7 a8 a9 a10 a11 a12 a13 a14 a15 a16 a17 a18 a19 a20 a21 a22 a23 a24).set 13 x = Ev25 a0 a1 a2 a3 a4 a5 a6 a7 a8 a9 a10 a11 a12 x a14 a15 a16 a17 a18 a19 a20 a21 a22 a23 a24 := rfl
@[simp] theorem Ev25_g14 : (Ev25 a0 a1 a2 a3 a4 a5 a6 a7 a8 a9 a10 a11 a12 a13 a14 a15 a16 a17 a18 a19 a20 a21 a22 a23 a24)[14]? = some a14 := rfl
@[simp] theorem Ev25_s14 : (Ev25 a0 a1 a2 a3 a4 a5 a6 a7 a8 a9 a10 a11 a12 a13 a14 a15 a16 a17 a18 a19 a20 a21 a22 a23 a24).set 14 x = Ev25 a0 a1 a2 a3 a4 a5 a6 a7 a8 a9 a10 a11 a12 a13 x a15 a16 a17 a18 a19 a20 a21 a22 a23 a24 := rfl
@[simp] theorem Ev25_g15 : (Ev25 a0 a1 a2 a3 a4 a5 a6 a7 a8 a9 a10 a11 a12 a13 a14 a15 a16 a17 a18 a19 a20 a21 a22 a23 a24)[15]? = some a15 := rfl
@[simp] theorem Ev25_s15 : (Ev25 a0 a1 a2 a3 a4 a5 a6 a7 a8 a9 a10 a11 a12 a13 a14 a15 a16 a17 a18 a19 a20 a21 a22 a23 a24).set 15 x = Ev25 a0 a1 a2 a3 a4 a5 a6 a7 a8 a9 a10 a11 a12 a13 a14 x a16 a17 a18 a19 a20 a21 a22 a23 a24 := rfl
@[simp] theorem Ev25_g16 : (Ev25 a0 a1 a2 a3 a4 a5 a6 a7 a8 a9 a10 a11 a12 a13 a14 a15 a16 a17 a18 a19 a20 a21 a22 a23 a24)[16]? = some a16 := rfl
@[simp] theorem Ev25_s16 : (Ev25 a0 a1 a2 a3 a4 a5 a6 a7 a8 a9 a10 a11 a12 a13 a14 a15 a16 a17 a18 a19 a20 a21 a22 a23 a24).set 16 x = Ev25 a0 a1 a2 a3 a4 a5 a6 a7 a8 a9 a10 a11 a12 a13 a14 a15 x a17 a18 a19 a20 a21 a22 a23 a24 := rfl
@[simp] theorem Ev25_g17 : (Ev25 a0 a1 a2 a3 a4 a5 a6 a7 a8 a9 a10 a11 a12 a13 a14 a15 a16 a17 a18 a19 a20 a21 a22 a23 a24)[17]? = some a17 := rfl
@[simp] theorem Ev25_s17 : (Ev25 a0 a1 a2 a3 a4 a5 a6 a7 a8 a9 a10 a11 a12 a13 a14 a15 a16 a17 a18 a19 a20 a21 a22 a23 a24).set 17 x = Ev25 a0 a1 a2 a3 a4 a5 a6 a7 a8 a9 a10 a11 a12 a13 a14 a15 a16 x a18 a19 a20 a21 a22 a23 a24 := rfl
@[simp] theorem Ev25_g18 : (Ev25 a0 a1 a2 a3 a4 a5 a6 a7 a8 a9 a10 a11 a12 a13 a14 a15 a16 a17 a18 a19 a20 a21 a22 a23 a24)[18]? = some a18 := rfl
@[simp] theorem Ev25_s18 : (Ev25 a0 a1 a2 a3 a4 a5 a6 a7 a8 a9 a10 a11 a12 a13 a14 a15 a16 a17 a18 a19 a20 a21 a22 a23 a24).set 18 x = Ev25 a0 a1 a2 a3 a4 a5 a6 a7 a8 a9 a10 a11 a12 a13 a14 a15 a16 a17 x a19 a20 a21 a22 a23 a24 := rfl
@[simp] theorem Ev25_g19 : (Ev25 a0 a1 a2 a3 a4 a5 a6 a7 a8 a9 a10 a11 a12 a13 a14 a15 a16 a17 a18 a19 a20 a21 a22 a23 a24)[19]? = some a19 := rfl
@[simp] theorem Ev25_s19 : (Ev25 a0 a1 a2 a3 a4 a5 a6 a7 a8 a9 a10 a11 a12 a13 a14 a15 a16 a17 a18 a19 a20 a21 a22 a23 a24).set 19 x = Ev25 a0 a1 a2 a3 a4 a5 a6 a7 a8 a9 a10 a11 a12 a13 a14 a15 a16 a17 a18 x a20 a21 a22 a23 a24 := rfl
@[simp] theorem Ev25_g20 : (Ev25 a0 a1 a2 a3 a4 a5 a6 a7 a8 a9 a10 a11 a12 a13 a14 a15 a16 a17 a18 a19 a20 a21 a22 a23 a24)[20]? = some a20 := rfl
@[simp] theorem Ev25_s20 : (Ev25 a0 a1 a2 a3 a4 a5 a6 a7 a8 a9 a10 a11 a12 a13 a14 a15 a16 a17 a18 a19 a20 a21 a22 a23 a24).set 20 x = Ev25 a0 a1 a2 a3 a4 a5 a6 a7 a8 a9 a10 a11 a12 a13 a14 a15 a16 a17 a18 a19 x a21 a22 a23 a24 := rfl
@[simp] theorem Ev25_g21 : (Ev25 a0 a1 a2 a3 a4 a5 a6 a7 a8 a9 a10 a11 a12 a13 a14 a15 a16 a17 a18 a19 a20 a21 a22 a23 a24)[21]? = some a21 := rfl
@[simp] theorem Ev25_s21 : (Ev25 a0 a1 a2 a3 a4 a5 a6 a7 a8 a9 a10 a11 a12 a13 a14 a15 a16 a17 a18 a19 a20 a21 a22 a23 a24).set 21 x = Ev25 a0 a1 a2 a3 a4 a5 a6 a7 a8 a9 a10 a11 a12 a13 a14 a15 a16 a17 a18 a19 a20 x a22 a23 a24 := rfl
@[simp] theorem Ev25_g22 : (Ev25 a0 a1 a2 a3 a4 a5 a6 a7 a8 a9 a10 a11 a12 a13 a14 a15 a16 a17 a18 a19 a20 a21 a22 a23 a24)[22]? = some a22 := rfl
@[simp] theorem Ev25_s22 : (Ev25 a0 a1 a2 a3 a4 a5 a6 a7 a8 a9 a10 a11 a12 a13 a14 a15 a16 a17 a18 a19 a20 a21 a22 a23 a24).set 22 x = Ev25 a0 a1 a2 a3 a4 a5 a6 a7 a8 a9 a10 a11 a12 a13 a14 a15 a16 a17 a18 a19 a20 a21 x a23 a24 := rfl
@[simp] theorem Ev25_g23 : (Ev25 a0 a1 a2 a3 a4 a5 a6 a7 a8 a9 a10 a11 a12 a13 a14 a15 a16 a17 a18 a19 a20 a21 a22 a23 a24)[23]? = some a23 := rfl
@[simp] theorem Ev25_s23 : (Ev25 a0 a1 a2 a3 a4 a5 a6 a7 a8 a9 a10 a11 a12 a13 a14 a15 a16 a17 a18 a19 a20 a21 a22 a23 a24).set 23 x = Ev25 a0 a1 a2 a3 a4 a5 a6 a7 a8 a9 a10 a11 a12 a13 a14 a15 a16 a17 a18 a19 a20 a21 a22 x a24 := rfl
@[simp] theorem Ev25_g24 : (Ev25 a0 a1 a2 a3 a4 a5 a6 a7 a8 a9 a10 a11 a12 a13 a14 a15 a16 a17 a18 a19 a20 a21 a22 a23 a24)[24]? = some a24 := rfl
@[simp] theorem Ev25_s24 : (Ev25 a0 a1 a2 a3 a4 a5 a6 a7 a8 a9 a10 a11 a12 a13 a14 a15 a16 a17 a18 a19 a20 a21 a22 a23 a24).set 24 x = Ev25 a0 a1 a2 a3 a4 a5 a6 a7 a8 a9 a10 a11 a12 a13 a14 a15 a16 a17 a18 a19 a20 a21 a22 a23 x := rfl
end
def Ev26 (a0 a1 a2 a3 a4 a5 a6 a7 a8 a9 a10 a11 a12 a13 a14 a15 a16 a17 a18 a19 a20 a21 a22 a23 a24 a25 : Option PV) : NC.Env := [a0, a1, a2, a3, a4, a5, a6, a7, a8, a9, a10, a11, a12, a13, a14, a15, a16, a17, a18, a19, a20, a21, a22, a23, a24, a25]
section
variable {a0 a1 a2 a3 a4 a5 a6 a7 a8 a9 a10 a11 a12 a13 a14 a15 a16 a17 a18 a19 a20 a21 a22 a23 a24 a25 x : Option PV}
@[simp] theorem Ev26_l : (Ev26 a0 a1 a2 a3 a4 a5 a6 a7 a8 a9 a10 a11 a12 a13 a14 a15 a16 a17 a18 a19 a20 a21 a22 a23 a24 a25).length = 26 := rfl
@[simp] theorem Ev26_g0 : (Ev26 a0 a1 a2 a3 a4 a5 a6 a7 a8 a9 a10 a11 a12 a13 a14 a15 a16 a17 a18 a19 a20 a21 a22 a23 a24 a25)[0]? = some a0 := rfl
@[simp] theorem Ev26_s0 : (Ev26 a0 a1 a2 a3 a4 a5 a6 a7 a8 a9 a10 a11 a12 a13 a14 a15 a16 a17 a18 a19 a20 a21 a22 a23 a24 a25).set 0 x = Ev26 x a1 a2 a3 a4 a5 a6 a7 a8 a9 a10 a11 a12 a13 a14 a15 a16 a17 a18 a19 a20 a21 a22 a23 a24 a25 := rfl
@[simp] theorem Ev26_g1 : (Ev26 a0 a1 a2 a3 a4 a5 a6 a7 a8 a9 a10 a11 a12 a13 a14 a15 a16 a17 a18 a19 a20 a21 a22 a23 a24 a25)[1]? = some a1 := rfl
@[simp] theorem Ev26_s1 : (Ev26 a0 a1 a2 a3 a4 a5 a6 a7 a8 a9 a10 a11 a12 a13 a14 a15 a16 a17 a18 a19 a20 a21 a22 a23 a24 a25).set 1 x = Ev26 a0 x a2 a3 a4 a5 a6 a7 a8 a9 a10 a11 a12 a13 a14 a15 a16 a17 a18 a19 a20 a21 a22 a23 a24 a25 := rfl
@[simp] theorem Ev26_g2 : (Ev26 a0 a1 a2 a3 a4 a5 a6 a7 a8 a9 a10 a11 a12 a13 a14 a15 a16 a17 a18 a19 a20 a21 a22 a23 a24 a25)[2]? = some a2 := rfl
@[simp] theorem Ev26_s2 : (Ev26 a0 a1 a2 a3 a4 a5 a6 a7 a8 a9 a10 a11 a12 a13 a14 a15 a16 a17 a18 a19 a20 a21 a22 a23 a24 a25).set 2 x = Ev26 a0 a1 x a3 a4 a5 a6 a7 a8 a9 a10 a11 a12 a13 a14 a15 a16 a17 a18 a19 a20 a21 a22 a23 a24 a25 := rfl
@[simp] theorem Ev26_g3 : (Ev26 a0 a1 a2 a3 a4 a5 a6 a7 a8 a9 a10 a11 a12 a13 a14 a15 a16 a17 a18 a19 a20 a21 a22 a23 a24 a25)[3]? = some a3 := rfl
@[simp] theorem Ev26_s3 : (Ev26 a0 a1 a2 a3 a4 a5 a6 a7 a8 a9 a10 a11 a12 a13 a14 a15 a16 a17 a18 a19 a20 a21 a22 a23 a24 a25).set 3 x = Ev26 a0 a1 a2 x a4 a5 a6 a7 a8 a9 a10 a11 a12 a13 a14 a15 a16 a17 a18 a19 a20 a21 a22 a23 a24 a25 := rfl
@[simp] theorem Ev26_g4 : (Ev26 a0 a1 a2 a3 a4 a5 a6 a7 a8 a9 a10 a11 a12 a13 a14 a15 a16 a17 a18 a19 a20 a21 a22 a23 a24 a25)[4]? = some a4 := rfl
@[simp] theorem Ev26_s4 : (Ev26 a0 a1 a2 a3 a4 a5 a6 a7 a8 a9 a10 a11 a12 a13 a14 a15 a16 a17 a18 a19 a20 a21 a22 a23 a24 a25).set 4 x = Ev26 a0 a1 a2 a3 x a5 a6 a7 a8 a9 a10 a11 a12 a13 a14 a15 a16 a17 a18 a19 a20 a21 a22 a23 a24 a25 := rfl
@[simp] theorem Ev26_g5 : (Ev26 a0 a1 a2 a3 a4 a5 a6 a7 a8 a9 a10 a11 a12 a13 a14 a15 a16 a17 a18 a19 a20 a21 a22 a23 a24 a25)[5]? = some a5 := rfl
@[simp] theorem Ev26_s5 : (Ev26 a0 a1 a2 a3 a4 a5 a6 a7 a8 a9 a10 a11 a12 a13 a14 a15 a16 a17 a18 a19 a20 a21 a22 a23 a24 a25).set 5 x = Ev26 a0 a1 a2 a3 a4 x a6 a7 a8 a9 a10 a11 a12 a13 a14 a15 a16 a17 a18 a19 a20 a21 a22 a23 a24 a25 := rfl
@[simp] theorem Ev26_g6 : (Ev26 a0 a1 a2 a3 a4 a5 a6 a7 a8 a9 a10 a11 a12 a13 a14 a15 a16 a17 a18 a19 a20 a21 a22 a23 a24 a25)[6]? = some a6 := rfl
@[simp] theorem Ev26_s6 : (Ev26 a0 a1 a2 a3 a4 a5 a6 a7 a8 a9 a10 a11 a12 a13 a14 a15 a16 a17 a18 a19 a20 a21 a22 a23 a24 a25).set 6 x = Ev26 a0 a1 a2 a3 a4 a5 x a7 a8 a9 a10 a11 a12 a13 a14 a15 a16 a17 a18 a19 a20 a21 a22 a23 a24 a25 := rfl
@[simp] theorem Ev26_g7 : (Ev26 a0 a1 a2 a3 a4 a5 a6 a7 a8 a9 a10 a11 a12 a13 a14 a15 a16 a17 a18 a19 a20 a21 a22 a23 a24 a25)[7]? = some a7 := rfl
@[simp] theorem Ev26_s7 : (Ev26 a0 a1 a2 a3 a4 a5 a6 a7 a8 a9 a10 a11 a12 a13 a14 a15 a16 a17 a18 a19 a20 a21 a22 a23 a24 a25).set 7 x = Ev26 a0 a1 a2 a3 a4 a5 a6 x a8 a9 a10 a11 a12 a13 a14 a15 a16 a17 a18 a19 a20 a21 a22 a23 a24 a25 := rfl
@[simp] theorem Ev26_g8 : (Ev26 a0 a1 a2 a3 a4 a5 a6 a7 a8 a9 a10 a11 a12 a13 a14 a15 a16 a17 a18 a19 a20 a21 a22 a23 a24 a25)[8]? = some a8 := rfl
@[simp] theorem Ev26_s8 : (Ev26 a0 a1 a2 a3 a4 a5 a6 a7 a8 a9 a10 a11 a12 a13 a14 a15 a16 a17 a18 a19 a20 a21 a22 a23 a24 a25).set 8 x = Ev26 a0 a1 a2 a3 a4 a5 a6 a7 x a9 a10 a11 a12 a13 a14 a15 a16 a17 a18 a19 a20 a21 a22 a23 a24 a25 := rfl
@[simp] theorem Ev26_g9 : (Ev26 a0 a1 a2 a3 a4 a5 a6 a7 a8 a9 a10 a11 a12 a13 a14 a15 a16 a17 a18 a19 a20 a21 a22 a23 a24 a25)[9]? = some a9 := rfl
@[simp] theorem Ev26_s9 : (Ev26 a0 a1 a2 a3 a4 a5 a6 a7 a8 a9 a10 a11 a12 a13 a14 a15 a16 a17 a18 a19 a20 a21 a22 a23 a24 a25).set 9 x = Ev26 a0 a1 a2 a3 a4 a5 a6 a7 a8 x a10 a11 a12 a13 a14 a15 a16 a17 a18 a19 a20 a21 a22 a23 a24 a25 := rfl
@[simp] theorem Ev26_g10 : (Ev26 a0 a1 a2 a3 a4 a5 a6 a7 a8 a9 a10 a11 a12 a13 a14 a15 a16 a17 a18 a19 a20 a21 a22 a23 a24 a25)[10]? = some a10 := rfl
@[simp] theorem Ev26_s10 : (Ev26 a0 a1 a2 a3 a4 a5 a6 a7 a8 a9 a10 a11 a12 a13 a14 a15 a16 a17 a18 a19 a20 a21 a22 a23 a24 a25).set 10 x = Ev26 a0 a1 a2 a3 a4 a5 a6 a7 a8 a9 x a11 a12 a13 a14 a15 a16 a17 a18 a19 a20 a21 a22 a23 a24 a25 := rfl
@[simp] theorem Ev26_g11 : (Ev26 a0 a1 a2 a3 a4 a5 a6 a7 a8 a9 a10 a11 a12 a13 a14 a15 a16 a17 a18 a19 a20 a21 a22 a23 a24 a25)[11]? = some a11 := rfl
@[simp] theorem Ev26_s11 : (Ev26 a0 a1 a2 a3 a4 a5 a6 a7 a8 a9 a10 a11 a12 a13 a14 a15 a16 a17 a18 a19 a20 a21 a22 a23 a24 a25).set 11 x = Ev26 a0 a1 a2 a3 a4 a5 a6 a7 a8 a9 a10 x a12 a13 a14 a15 a16 a17 a18 a19 a20 a21 a22 a23 a24 a25 := rfl
@[simp] theorem Ev26_g12 : (Ev26 a0 a1 a2 a3 a4 a5 a6 a7 a8 a9 a10 a11 a12 a13 a14 a15 a16 a17 a18 a19 a20 a21 a22 a23 a24 a25)[12]? = some a12 := rfl
@[simp] theorem Ev26_s12 : (Ev26 a0 a1 a2 a3 a4 a5 a6 a7 a8 a9 a10 a11 a12 a13 a14 a15 a16 a17 a18 a19 a20 a21 a22 a23 a24 a25).set 12 x = Ev26 a0 a1 a2 a3 a4 a5 a6 a7 a8 a9 a10 a11 x a13 a14 a15 a16 a17 a18 a19 a20 a21 a22 a23 a24 a25 := rfl
@[simp] theorem Ev26_g13 : (Ev26 a0 a1 a2 a3 a4 a5 a6 a7 a8 a9 a10 a11 a12 a13 a14 a15 a16 a17 a18 a19 a20 a21 a22 a23 a24 a25)[13]? = some a13 := rfl
@[simp] theorem Ev26_s13 : (Ev26 a0 a1 a2 a3 a4 a5 a6 a7 a8 a9 a10 a11 a12 a13 a14 a15 a16 a17 a18 a19 a20 a21 a22 a23 a24 a25).set 13 x = Ev26 a0 a1 a2 a3 a4 a5 a6 a7 a8 a9 a10 a11 a12 x a14 a15 a16 a17 a18 a19 a20 a21 a22 a23 a24 a25 := rfl
@[simp] theorem Ev26_g14 : (Ev26 a0 a1 a2 a3 a4 a5 a6 a7 a8 a9 a10 a11 a12 a13 a14 a15 a16 a17 a18 a19 a20 a21 a22 a23 a24 a25)[14]? = some a14 := rfl
@[simp] theorem Ev26_s14 : (Ev26 a0 a1 a2 a3 a4 a5 a6 a7 a8 a9 a10 a11 a12 a13 a14 a15 a16 a17 a18 a19 a20 a21 a22 a23 a24 a25).set 14 x = Ev26 a0 a1 a2 a3 a4 a5 a6 a7 a8 a9 a10 a11 a12 a13 x a15 a16 a17 a18 a19 a20 a21 a22 a23 a24 a25 := rfl
@[simp] theorem Ev26_g15 : (Ev26 a0 a1 a2 a3 a4 a5 a6 a7 a8 a9 a10 a11 a12 a13 a14 a15 a16 a17 a18 a19 a20 a21 a22 a23 a24 a25)[15]? = some a15 := rfl
@[simp] theorem Ev26_s15 : (Ev26 a0 a1 a2 a3 a4 a5 a6 a7 a8 a9 a10 a11 a12 a13 a14 a15 a16 a17 a18 a19 a20 a21 a22 a23 a24 a25).set 15 x = Ev26 a0 a1 a2 a3 a4 a5 a6 a7 a8 a9 a10 a11 a12 a13 a14 x a16 a17 a18 a19 a20 a21 a22 a23 a24 a25 := rfl
@[simp] theorem Ev26_g16 : (Ev26 a0 a1 a2 a3 a4 a5 a6 a7 a8 a9 a10 a11 a12 a13 a14 a15 a16 a17 a18 a19 a20 a21 a22 a23 a24 a25)[16]? = some a16 := rfl
@[simp] theorem Ev26_s16 : (Ev26 a0 a1 a2 a3 a4 a5 a6 a7 a8 a9 a10 a11 a12 a13 a14 a15 a16 a17 a18 a19 a20 a21 a22 a23 a24 a25).set 16 x = Ev26 a0 a1 a2 a3 a4 a5 a6 a7 a8 a9 a10 a11 a12 a13 a14 a15 x a17 a18 a19 a20 a21 a22 a23 a24 a25 := rfl
@[simp] theorem Ev26_g17 : (Ev26 a0 a1 a2 a3 a4 a5 a6 a7 a8 a9 a10 a11 a12 a13 a14 a15 a16 a17 a18 a19 a20 a21 a22 a23 a24 a25)[17]? = some a17 := rfl
@[simp] theorem Ev26_s17 : (Ev26 a0 a1 a2 a3 a4 a5 a6 a7 a8 a9 a10 a11 a12 a13 a14 a15 a16 a17 a18 a19 a20 a21 a22 a23 a24 a25).set 17 x = Ev26 a0 a1 a2 a3 a4 a5 a6 a7 a8 a9 a10 a11 a12 a13 a14 a15 a16 x a18 a19 a20 a21 a22 a23 a24 a25 := rfl
@[simp] theorem Ev26_g18 : (Ev26 a0 a1 a2 a3 a4 a5 a6 a7 a8 a9 a10 a11 a12 a13 a14 a15 a16 a17 a18 a19 a20 a21 a22 a23 a24 a25)[18]? = some a18 := rfl
@[simp] theorem Ev26_s18 : (Ev26 a0 a1 a2 a3 a4 a5 a6 a7 a8 a9 a10 a11 a12 a13 a14 a15 a16 a17 a18 a19 a20 a21 a22 a23 a24 a25).set 18 x = Ev26 a0 a1 a2 a3 a4 a5 a6 a7 a8 a9 a10 a11 a12 a13 a14 a15 a16 a17 x a19 a20 a21 a22 a23 a24 a25 := rfl
@[simp] theorem Ev26_g19 : (Ev26 a0 a1 a2 a3 a4 a5 a6 a7 a8 a9 a10 a11 a12 a13 a14 a15 a16 a17 a18 a19 a20 a21 a22 a23 a24 a25)[19]? = some a19 := rfl
@[simp] theorem Ev26_s19 : (Ev26 a0 a1 a2 a3 a4 a5 a6 a7 a8 a9 a10 a11 a12 a13 a14 a15 a16 a17 a18 a19 a20 a21 a22 a23 a24 a25).set 19 x = Ev26 a0 a1 a2 a3 a4 a5 a6 a7 a8 a9 a10 a11 a12 a13 a14 a15 a16 a17 a18 x a20 a21 a22 a23 a24 a25 := rfl
@[simp] theorem Ev26_g20 : (Ev26 a0 a1 a2 a3 a4 a5 a6 a7 a8 a9 a10 a11 a12 a13 a14 a15 a16 a17 a18 a19 a20 a21 a22 a23 a24 a25)[20]? = some a20 := rfl
@[simp] theorem Ev26_s20 : (Ev26 a0 a1 a2 a3 a4 a5 a6 a7 a8 a9 a10 a11 a12 a13 a14 a15 a16 a17 a18 a19 a20 a21 a22 a23 a24 a25).set 20 x = Ev26 a0 a1 a2 a3 a4 a5 a6 a7 a8 a9 a10 a11 a12 a13 a14 a15 a16 a17 a18 a19 x a21 a22 a23 a24 a25 := rfl
@[simp] theorem Ev26_g21 : (Ev26 a0 a1 a2 a3 a4 a5 a6 a7 a8 a9 a10 a11 a12 a13 a14 a15 a16 a17 a18 a19 a20 a21 a22 a23 a24 a25)[21]? = some a21 := rfl
@[simp] theorem Ev26_s21 : (Ev26 a0 a1 a2 a3 a4 a5 a6 a7 a8 a9 a10 a11 a12 a13 a14 a15 a16 a17 a18 a19 a20 a21 a22 a23 a24 a25).set 21 x = Ev26 a0 a1 a2 a3 a4 a5 a6 a7 a8 a9 a10 a11 a12 a13 a14 a15 a16 a17 a18 a19 a20 x a22 a23 a24 a25 := rfl
@[simp] theorem Ev26_g22 : (Ev26 a0 a1 a2 a3 a4 a5 a6 a7 a8 a9 a10 a11 a12 a13 a14 a15 a16 a17 a18 a19 a20 a21 a22 a23 a24 a25)[22]? = some a22 := rfl
@[simp] theorem Ev26_s22 : (Ev26 a0 a1 a2 a3 a4 a5 a6 a7 a8 a9 a10 a11 a12 a13 a14 a15 a16 a17 a18 a19 a20 a21 a22 a23 a24 a25).set 22 x = Ev26 a0 a1 a2 a3 a4 a5 a6 a7 a8 a9 a10 a11 a12 a13 a14 a15 a16 a17 a18 a19 a20 a21 x a23 a24 a25 := rfl
@[simp] theorem Ev26_g23 : (Ev26 a0 a1 a2 a3 a4 a5 a6 a7 a8 a9 a10 a11 a12 a13 a14 a15 a16 a17 a18 a19 a20 a21 a22 a23 a24 a25)[23]? = some a23 := rfl
@[simp] theorem Ev26_s23 : (Ev26 a0 a1 a2 a3 a4 a5 a6 a7 a8 a9 a10 a11 a12 a13 a14 a15 a16 a17 a18 a19 a20 a21 a22 a23 a24 a25).set 23 x = Ev26 a0 a1 a2 a3 a4 a5 a6 a7 a8 a9 a10 a11 a12 a13 a14 a15 a16 a17 a18 a19 a20 a21 a22 x a24 a25 := rfl
@[simp] theorem Ev26_g24 : (Ev26 a0 a1 a2 a3 a4 a5 a6 a7 a8 a9 a10 a11 a12 a13 a14 a15 a16 a17 a18 a19 a20 a21 a22 a23 a24 a25)[24]? = some a24 := rfl
@[simp] theorem Ev26_s24 : (Ev26 a0 a1 a2 a3 a4 a5 a6 a7 a8 a9 a10 a11 a12 a13 a14 a15 a16 a17 a18 a19 a20 a21 a22 a23 a24 a25).set 24 x = Ev26 a0 a1 a2 a3 a4 a5 a6 a7 a8 a9 a10 a11 a12 a13 a14 a15 a16 a17 a18 a19 a20 a21 a22 a23 x a25 := rfl
@[simp] theorem Ev26_g25 : (Ev26 a0 a1 a2 a3 a4 a5 a6 a7 a8 a9 a10 a11 a12 a13 a14 a15 a16 a17 a18 a19 a20 a21 a22 a23 a24 a25)[25]? = some a25 := rfl
@[simp] theorem Ev26_s25 : (Ev26 a0 a1 a2 a3 a4 a5 a6 a7 a8 a9 a10 a11 a12 a13 a14 a15 a16 a17 a18 a19 a20 a21 a22 a23 a24 a25).set 25 x = Ev26 a0 a1 a2 a3 a4 a5 a6 a7 a8 a9 a10 a11 a12 a13 a14 a15 a16 a17 a18 a19 a20 a21 a22 a23 a24 x := rfl
end
end NC
namespace NC
open PySem PySem.Spec PyProof.Rows L2
/-! the defs of the module directions (written by a program from the text) -/
/-- is_direction: thing -/
def f_is_direction : Df := { np := 1, ns := 1, cl := true, body := [(.ret (.and (.isi .str (.var 0)) (.cmp .inn (.var 0) (.gc (.tuple [.str "any", .str "down", .str "flat", .str "up"])))))] }
/-- check_direction: thing -/
def f_check_direction : Df := { np := 1, ns := 1, cl := true, body := [(.ifS (.not (.call "is_direction" [(.var 0)])) [(.raiseS "NoDirection" [])] [])] }
/-- raw_joined: one, other -/
def f_raw_joined : Df := { np := 2, ns := 2, cl := true, body := [(.ifS (.or (.cmp .eq (.var 0) (.gc (.str "flat"))) (.cmp .eq (.var 0) (.var 1))) [(.ret (.var 1))] []), (.ret (.ite (.cmp .eq (.var 1) (.gc (.str "flat"))) (.var 0) (.gc (.str "any"))))] }
/-- raw_turned: one -/
def f_raw_turned : Df := { np := 1, ns := 1, cl := true, body := [(.ifS (.cmp .inn (.var 0) (.tup [(.gc (.str "flat")), (.gc (.str "any"))])) [(.ret (.var 0))] []), (.ret (.ite (.cmp .eq (.var 0) (.gc (.str "up"))) (.gc (.str "down")) (.gc (.str "up"))))] }
/-- raw_led: one, other -/
def f_raw_led : Df := { np := 2, ns := 2, cl := true, body := [(.ifS (.cmp .inn (.gc (.str "flat")) (.tup [(.var 0), (.var 1)])) [(.ret (.gc (.str "flat")))] []), (.ifS (.cmp .inn (.gc (.str "any")) (.tup [(.var 0), (.var 1)])) [(.ret (.gc (.str "any")))] []), (.ret (.ite (.cmp .eq (.var 0) (.var 1)) (.gc (.str "up")) (.gc (.str "down"))))] }
/-- joined: one, other -/
def f_joined : Df := { np := 2, ns := 2, cl := true, body := [(.expr (.call "check_direction" [(.var 0)])), (.expr (.call "check_direction" [(.var 1)])), (.ret (.call "raw_joined" [(.var 0), (.var 1)]))] }
/-- turned: one -/
def f_turned : Df := { np := 1, ns := 1, cl := true, body := [(.expr (.call "check_direction" [(.var 0)])), (.ret (.call "raw_turned" [(.var 0)]))] }
/-- led: one, other -/
def f_led : Df := { np := 2, ns := 2, cl := true, body := [(.expr (.call "check_direction" [(.var 0)])), (.expr (.call "check_direction" [(.var 1)])), (.ret (.call "raw_led" [(.var 0), (.var 1)]))] }
/-- scaled: x, one -/
def f_scaled : Df := { np := 2, ns := 2, cl := true, body := [(.ifS (.cmp .eq (.ix (.var 0) (.cst (.int 0))) (.cst (.int 0))) [(.ret (.gc (.str "flat")))] []), (.ret (.ite (.cmp .gt (.ix (.var 0) (.cst (.int 0))) (.cst (.int 0))) (.var 1) (.call "raw_turned" [(.var 1)])))] }
/-- Glancer.__init__: self, book, name, many, node, i -/
def f_Glancer_init__ : Df := { np := 2, ns := 6, cl := false, body := [(.setF "Glancer" (.var 0) "numbers" (.call "rule_numbers" [(.var 1)])), (.setF "Glancer" (.var 0) "known" (.lst true [])), (.forS (.tup [(.var 2), (.var 3), (.var 4)]) (.of (.var 1)) [(.expr (.meth (.fld "Glancer" (.var 0) "known") "append" [(.bi .tuple (.comp false [5] (.ocall "Glancer" "seen" "Glancer.seen" (.var 0) [(.var 4), (.var 5), .dnew]) (.var 5) (.range1 (.var 3)) none))]))])] }
/-- Glancer.seen: self, node, i, names, word, more, one, other -/
def f_Glancer_seen : Df := { np := 4, ns := 8, cl := true, body := [(.asg (.var 4) (.ix (.var 1) (.cst (.int 0)))), (.ifS (.cmp .eq (.var 4) (.gc (.str "num"))) [(.ret (.gc (.str "flat")))] []), (.ifS (.cmp .eq (.var 4) (.gc (.str "in"))) [(.ret (.ite (.cmp .eq (.ix (.var 1) (.cst (.int 1))) (.var 2)) (.gc (.str "up")) (.gc (.str "flat"))))] []), (.ifS (.cmp .eq (.var 4) (.gc (.str "var"))) [(.ret (.ix (.var 3) (.ix (.var 1) (.cst (.int 1)))))] []), (.ifS (.cmp .eq (.var 4) (.gc (.str "times"))) [(.ret (.call "scaled" [(.ix (.var 1) (.cst (.int 1))), (.ocall "Glancer" "seen" "Glancer.seen" (.var 0) [(.ix (.var 1) (.cst (.int 2))), (.var 2), (.var 3)])]))] []), (.ifS (.cmp .eq (.var 4) (.gc (.str "let"))) [(.asg (.var 5) (.bi .dict (.var 3))), (.setI (.var 5) (.ix (.var 1) (.cst (.int 1))) (.ocall "Glancer" "seen" "Glancer.seen" (.var 0) [(.ix (.var 1) (.cst (.int 2))), (.var 2), (.var 3)])), (.ret (.ocall "Glancer" "seen" "Glancer.seen" (.var 0) [(.ix (.var 1) (.cst (.int 3))), (.var 2), (.var 5)]))] []), (.ifS (.cmp .inn (.var 4) (.gc (.tuple [.str "below", .str "upto"]))) [(.ifS (.cmp .ne (.ocall "Glancer" "seen" "Glancer.seen" (.var 0) [(.ix (.var 1) (.cst (.int 1))), (.var 2), (.var 3)]) (.gc (.str "flat"))) [(.ret (.gc (.str "any")))] []), (.ret (.call "raw_joined" [(.ocall "Glancer" "seen" "Glancer.seen" (.var 0) [(.ix (.var 1) (.cst (.int 3))), (.var 2), (.var 3)]), (.ocall "Glancer" "seen" "Glancer.seen" (.var 0) [(.ix (.var 1) (.cst (.int 4))), (.var 2), (.var 3)])]))] []), (.ifS (.cmp .eq (.var 4) (.gc (.str "call"))) [(.ret (.ocall "Glancer" "seen_call" "Glancer.seen_call" (.var 0) [(.var 1), (.var 2), (.var 3)]))] []), (.par 6 7 (.ocall "Glancer" "seen" "Glancer.seen" (.var 0) [(.ix (.var 1) (.cst (.int 1))), (.var 2), (.var 3)]) (.ocall "Glancer" "seen" "Glancer.seen" (.var 0) [(.ix (.var 1) (.cst (.int 2))), (.var 2), (.var 3)])), (.ret (.call "raw_joined" [(.var 6), (.ite (.cmp .eq (.var 4) (.gc (.str "less"))) (.call "raw_turned" [(.var 7)]) (.var 7))]))] }
/-- Glancer.seen_call: self, node, i, names, found, part, own -/
def f_Glancer_seen_call : Df := { np := 4, ns := 7, cl := true, body := [(.asg (.var 4) (.gc (.str "flat"))), (.forS (.tup [(.var 5), (.var 6)]) (.zip2 (.ix (.var 1) (.cst (.int 2))) (.ix (.fld "Glancer" (.var 0) "known") (.ix (.fld "Glancer" (.var 0) "numbers") (.ix (.var 1) (.cst (.int 1)))))) [(.asg (.var 4) (.call "raw_joined" [(.var 4), (.call "raw_led" [(.ocall "Glancer" "seen" "Glancer.seen" (.var 0) [(.var 5), (.var 2), (.var 3)]), (.var 6)])]))]), (.ret (.var 4))] }
/-- direction: book, r, i -/
def f_direction : Df := { np := 3, ns := 3, cl := true, body := [(.expr (.call "check_amount" [(.var 0), (.var 1), (.var 2)])), (.ret (.ix (.ix (.fld "Glancer" (.mk "Glancer" "Glancer.__init__" [(.var 0)]) "known") (.var 1)) (.var 2)))] }
/-- directions: book -/
def f_directions : Df := { np := 1, ns := 1, cl := true, body := [(.expr (.call "check_book" [(.var 0)])), (.ret (.bi .tuple (.fld "Glancer" (.mk "Glancer" "Glancer.__init__" [(.var 0)]) "known")))] }
/-- surely_never_falls: book, found, r, told, i, one -/
def f_surely_never_falls : Df := { np := 1, ns := 6, cl := true, body := [(.expr (.call "check_book" [(.var 0)])), (.asg (.var 1) (.lst true [])), (.forS (.tup [(.var 2), (.var 3)]) (.enum (.fld "Glancer" (.mk "Glancer" "Glancer.__init__" [(.var 0)]) "known")) [(.expr (.meth (.var 1) "extend" [(.comp false [4, 5] (.tup [(.var 2), (.var 4)]) (.tup [(.var 4), (.var 5)]) (.enum (.var 3)) (some (.cmp .inn (.var 5) (.tup [(.gc (.str "flat")), (.gc (.str "up"))]))))]))]), (.ret (.bi .tuple (.var 1)))] }
def PT_directions : List (Str × Df) := [(("is_direction" : Str), f_is_direction), (("check_direction" : Str), f_check_direction), (("raw_joined" : Str), f_raw_joined), (("raw_turned" : Str), f_raw_turned), (("raw_led" : Str), f_raw_led), (("joined" : Str), f_joined), (("turned" : Str), f_turned), (("led" : Str), f_led), (("scaled" : Str), f_scaled), (("Glancer.__init__" : Str), f_Glancer_init__), (("Glancer.seen" : Str), f_Glancer_seen), (("Glancer.seen_call" : Str), f_Glancer_seen_call), (("direction" : Str), f_direction), (("directions" : Str), f_directions), (("surely_never_falls" : Str), f_surely_never_falls)]
structure T_directions (T : Tab) : Prop where
  f_is_direction : T "is_direction" = some NC.f_is_direction
  f_check_direction : T "check_direction" = some NC.f_check_direction
  f_raw_joined : T "raw_joined" = some NC.f_raw_joined
  f_raw_turned : T "raw_turned" = some NC.f_raw_turned
  f_raw_led : T "raw_led" = some NC.f_raw_led
  f_joined : T "joined" = some NC.f_joined
  f_turned : T "turned" = some NC.f_turned
  f_led : T "led" = some NC.f_led
  f_scaled : T "scaled" = some NC.f_scaled
  f_Glancer_init__ : T "Glancer.__init__" = some NC.f_Glancer_init__
  f_Glancer_seen : T "Glancer.seen" = some NC.f_Glancer_seen
  f_Glancer_seen_call : T "Glancer.seen_call" = some NC.f_Glancer_seen_call
  f_direction : T "direction" = some NC.f_direction
  f_directions : T "directions" = some NC.f_directions
  f_surely_never_falls : T "surely_never_falls" = some NC.f_surely_never_falls
end NC
namespace NC
open PySem PySem.Spec PyProof.Rows L2
/-! ### the table of the defs (written by a program from the text) -/
def sd_law_said : Sdt := ⟨"_law_said", "let", [("NoDirection" : Str)], [("NoBook", "NoBook"), ("NoPlace", "NoPlace"), ("NoDirection", "NoDirection"), ("NoPoint", "NoPoint"), ("NoBox", "NoBox"), ("NoNumber", "NoNumber"), ("NoWord", "NoWord"), ("NoKnown", "NoKnown"), ("NoPaper", "NoPaper"), ("BadOctets", "BadOctets"), ("TooMany", "TooMany")]⟩
/-- _law_hand: script, cells_own, digit_own -/
def g_law_hand : Df := { np := 1, ns := 3, cl := false, body := [(.asg (.var 1) (.comp false [2] (.bi .abs (.bi .int (.var 2))) (.var 2) (.of (.slc (.var 0) none (some (.cst (.int 63))))) none)), (.ret (.lst true [(.var 1), (.cst (.int 0)), (.cst (.int 0)), (.bin .add (.cst (.int 6001)) (.bin .mul (.cst (.int 7)) (.bi .len (.var 1)))), (.cst (.int 0))]))] }
/-- _law_junk: hand, some -/
def g_law_junk : Df := { np := 1, ns := 2, cl := true, body := [(.asg (.var 1) (.lst false [(.cst .none), (.cst (.bool true)), (.cst (.str "int")), (.tup []), (.lst false []), .dz, (.neg (.cst (.int 1))), (.tup [(.cst (.str "x"))]), (.tup [(.cst (.int 0)), (.cst (.int 1))]), (.lst false [(.tup [(.cst (.str "a"))])]), (.bin .pow (.cst (.int 10)) (.cst (.int 18))), (.cst (.str "A")), (.cst (.str ""))])), (.ret (.call "_law_any" [(.var 0), (.bin .add (.var 1) (.lst false [(.call "_law_deep" [(.var 0)])]))]))] }
/-- law: script, hand, some, one, lap_on, other, third, bad, good -/
def f_law : Df := { np := 1, ns := 9, cl := true, body := [(.asg (.var 1) (.call "_law_hand" [(.var 0)])), (.asg (.var 2) (.lst false [(.cst (.str "flat")), (.cst (.str "up")), (.cst (.str "down")), (.cst (.str "any"))])), (.forS (.var 3) (.of (.var 2)) [(.ifS (.or (.cmp .isn (.call "is_direction" [(.var 3)]) (.cst (.bool true))) (.or (.cmp .ne (.call "turned" [(.var 3)]) (.call "_law_turn" [(.var 3)])) (.cmp .ne (.call "turned" [(.call "turned" [(.var 3)])]) (.var 3)))) [(.ret (.cst (.bool false)))] []), (.forS (.var 5) (.of (.var 2)) [(.ifS (.or (.cmp .ne (.call "joined" [(.var 3), (.var 5)]) (.call "_law_join" [(.var 3), (.var 5)])) (.cmp .ne (.call "joined" [(.var 5), (.var 3)]) (.call "_law_join" [(.var 3), (.var 5)]))) [(.ret (.cst (.bool false)))] []), (.ifS (.or (.cmp .ne (.call "led" [(.var 3), (.var 5)]) (.call "_law_lead" [(.var 3), (.var 5)])) (.cmp .ne (.call "led" [(.var 5), (.var 3)]) (.call "_law_lead" [(.var 3), (.var 5)]))) [(.ret (.cst (.bool false)))] []), (.ifS (.cmp .ne (.call "turned" [(.call "joined" [(.var 3), (.var 5)])]) (.call "joined" [(.call "turned" [(.var 3)]), (.call "turned" [(.var 5)])])) [(.ret (.cst (.bool false)))] []), (.ifS (.cmp .ne (.call "led" [(.call "turned" [(.var 3)]), (.var 5)]) (.call "turned" [(.call "led" [(.var 3), (.var 5)])])) [(.ret (.cst (.bool false)))] []), (.asg (.var 6) (.call "_law_any" [(.var 1), (.var 2)])), (.ifS (.cmp .ne (.call "joined" [(.var 3), (.call "joined" [(.var 5), (.var 6)])]) (.call "joined" [(.call "joined" [(.var 3), (.var 5)]), (.var 6)])) [(.ret (.cst (.bool false)))] []), (.ifS (.and (.cmp .ne (.call "led" [(.var 3), (.call "joined" [(.var 5), (.var 6)])]) (.call "joined" [(.call "led" [(.var 3), (.var 5)]), (.call "led" [(.var 3), (.var 6)])])) (.cmp .nin (.cst (.str "any")) (.tup [(.var 3), (.var 5), (.var 6), (.call "joined" [(.var 5), (.var 6)])]))) [(.ret (.cst (.bool false)))] [])])]), (.forS (.var 4) (.range1 (.cst (.int 6))) [(.asg (.tup [(.var 7), (.var 8)]) (.tup [(.call "_law_any" [(.var 1), (.lst false [(.call "_law_junk" [(.var 1)]), (.cst (.str "Up")), (.cst (.str "none")), (.tup [(.cst (.str "up"))]), (.cst (.int 1)), (.lst false [(.cst (.str "flat"))])])]), (.call "_law_any" [(.var 1), (.var 2)])])), (.ifS (.or (.cmp .isn (.call "is_direction" [(.var 7)]) (.cst (.bool false))) (.cmp .ne (.said sd_law_said (.call "turned" [(.var 7)])) (.cst (.str "NoDirection")))) [(.ret (.cst (.bool false)))] []), (.ifS (.cmp .ne (.said sd_law_said (.call "joined" [(.var 7), (.var 8)])) (.cst (.str "NoDirection"))) [(.ret (.cst (.bool false)))] []), (.ifS (.cmp .ne (.said sd_law_said (.call "led" [(.var 8), (.var 7)])) (.cst (.str "NoDirection"))) [(.ret (.cst (.bool false)))] [])]), (.ret (.cst (.bool true)))] }
def Ds : Nm := { fns := [("is_direction" : Str), ("check_direction" : Str), ("raw_joined" : Str), ("raw_turned" : Str), ("raw_led" : Str), ("joined" : Str), ("turned" : Str), ("led" : Str), ("_law_hand" : Str), ("_law_draw" : Str), ("_law_any" : Str), ("_law_join" : Str), ("_law_turn" : Str), ("_law_lead" : Str), ("_law_deep" : Str), ("_law_junk" : Str), ("law" : Str)], exs := [("NoDirection" : Str)], mks := [], mts := [], fld := [], kds := [], gcs := [("ANY", .str "any"), ("DOWN", .str "down"), ("FLAT", .str "flat"), ("UP", .str "up"), ("DIRECTIONS", .tuple [.str "any", .str "down", .str "flat", .str "up"])], sds := [sd_law_said], lms := [("law" : Str)] }
def tab : Tab := fun x => ([(("_law_made" : Str), g_law_made_B), (("_law_hand" : Str), g_law_hand), (("_law_draw" : Str), g_law_draw_B), (("_law_any" : Str), g_law_any_B), (("_law_join" : Str), g_law_join_B), (("_law_turn" : Str), g_law_turn_B), (("_law_lead" : Str), g_law_lead_B), (("_law_deep" : Str), g_law_deep_B), (("_law_junk" : Str), g_law_junk), (("law" : Str), f_law)] ++ PT_directions).lookup x
theorem t_g_law_made : tab "_law_made" = some g_law_made_B := by rfl
theorem t_g_law_hand : tab "_law_hand" = some g_law_hand := by rfl
theorem t_g_law_draw : tab "_law_draw" = some g_law_draw_B := by rfl
theorem t_g_law_any : tab "_law_any" = some g_law_any_B := by rfl
theorem t_g_law_join : tab "_law_join" = some g_law_join_B := by rfl
theorem t_g_law_turn : tab "_law_turn" = some g_law_turn_B := by rfl
theorem t_g_law_lead : tab "_law_lead" = some g_law_lead_B := by rfl
theorem t_g_law_deep : tab "_law_deep" = some g_law_deep_B := by rfl
theorem t_g_law_junk : tab "_law_junk" = some g_law_junk := by rfl
theorem t_f_law : tab "law" = some f_law := by rfl
theorem tt_directions : T_directions tab := ⟨by rfl, by rfl, by rfl, by rfl, by rfl, by rfl, by rfl, by rfl, by rfl, by rfl, by rfl, by rfl, by rfl, by rfl, by rfl⟩
theorem t_f_is_direction : tab "is_direction" = some f_is_direction := by rfl
theorem t_f_check_direction : tab "check_direction" = some f_check_direction := by rfl
theorem t_f_raw_joined : tab "raw_joined" = some f_raw_joined := by rfl
theorem t_f_raw_turned : tab "raw_turned" = some f_raw_turned := by rfl
theorem t_f_raw_led : tab "raw_led" = some f_raw_led := by rfl
theorem t_f_joined : tab "joined" = some f_joined := by rfl
theorem t_f_turned : tab "turned" = some f_turned := by rfl
theorem t_f_led : tab "led" = some f_led := by rfl
def gls : Gls := fun x => [].lookup x
abbrev stm (i : Nat) : Stmt := PySem.Challenge.pw_nocliff_k31_directions_put_together.main.body.getD i (.Pass ⟨0, 0, 0, 0⟩)
theorem c_f_is_direction : chkDef Ds "is_direction" f_is_direction [("thing" : Str)] [("thing" : Str)] (stm 19) = true := by decide +kernel
theorem c_f_check_direction : chkDef Ds "check_direction" f_check_direction [("thing" : Str)] [("thing" : Str)] (stm 20) = true := by decide +kernel
theorem c_f_raw_joined : chkDef Ds "raw_joined" f_raw_joined [("one" : Str), ("other" : Str)] [("one" : Str), ("other" : Str)] (stm 21) = true := by decide +kernel
theorem c_f_raw_turned : chkDef Ds "raw_turned" f_raw_turned [("one" : Str)] [("one" : Str)] (stm 22) = true := by decide +kernel
theorem c_f_raw_led : chkDef Ds "raw_led" f_raw_led [("one" : Str), ("other" : Str)] [("one" : Str), ("other" : Str)] (stm 23) = true := by decide +kernel
theorem c_f_joined : chkDef Ds "joined" f_joined [("one" : Str), ("other" : Str)] [("one" : Str), ("other" : Str)] (stm 24) = true := by decide +kernel
theorem c_f_turned : chkDef Ds "turned" f_turned [("one" : Str)] [("one" : Str)] (stm 25) = true := by decide +kernel
theorem c_f_led : chkDef Ds "led" f_led [("one" : Str), ("other" : Str)] [("one" : Str), ("other" : Str)] (stm 26) = true := by decide +kernel
theorem c_g_law_hand : chkDef Ds "_law_hand" g_law_hand [("script" : Str), ("cells_own" : Str), ("digit_own" : Str)] [("script" : Str)] (stm 28) = true := by decide +kernel
theorem c_g_law_draw : chkDef Ds "_law_draw" g_law_draw_B [("hand" : Str), ("below" : Str), ("number" : Str), ("digit_own" : Str), ("digit" : Str)] [("hand" : Str), ("below" : Str)] (stm 29) = true := by decide +kernel
theorem c_g_law_any : chkDef Ds "_law_any" g_law_any_B [("hand" : Str), ("some" : Str)] [("hand" : Str), ("some" : Str)] (stm 30) = true := by decide +kernel
theorem c_g_law_join : chkDef Ds "_law_join" g_law_join_B [("one" : Str), ("other" : Str)] [("one" : Str), ("other" : Str)] (stm 31) = true := by decide +kernel
theorem c_g_law_turn : chkDef Ds "_law_turn" g_law_turn_B [("one" : Str)] [("one" : Str)] (stm 32) = true := by decide +kernel
theorem c_g_law_lead : chkDef Ds "_law_lead" g_law_lead_B [("one" : Str), ("other" : Str)] [("one" : Str), ("other" : Str)] (stm 33) = true := by decide +kernel
theorem c_g_law_deep : chkDef Ds "_law_deep" g_law_deep_B [("hand" : Str), ("thing" : Str), ("lap_on" : Str)] [("hand" : Str)] (stm 34) = true := by decide +kernel
theorem c_g_law_junk : chkDef Ds "_law_junk" g_law_junk [("hand" : Str), ("some" : Str)] [("hand" : Str)] (stm 35) = true := by decide +kernel
theorem c_f_law : chkDef Ds "law" f_law [("script" : Str), ("hand" : Str), ("some" : Str), ("one" : Str), ("lap_on" : Str), ("other" : Str), ("third" : Str), ("bad" : Str), ("good" : Str)] [("script" : Str)] (stm 37) = true := by decide +kernel
theorem sdc_0 : saidB sd_law_said (defScope (stm 36)) (defBody (stm 36)) = true := by decide +kernel
theorem module_is {w : World} {K : PySem.W.Frag} {h : Heap} {mg : Str → Option Value} (X : K.In h) (N : h.Ns mainGlobals mg) {f0 f1 f2 f3 f4 f5 f6 f7 f8 f9 f10 f11 f12 f13 f14 f15 f16 : Addr} {od0 an0 od1 an1 od2 an2 od3 an3 od4 an4 od5 an5 od6 an6 od7 an7 od8 an8 od9 an9 od10 an10 od11 an11 od12 an12 od13 an13 od14 an14 od15 an15 od16 an16 : Option Addr} {sl0 sl1 sl2 sl3 sl4 sl5 sl6 sl7 sl8 sl9 sl10 sl11 sl12 sl13 sl14 sl15 sl16 : Array (Option Value)} {oc0 kV0 dc0 pm0 cd0 ct0 oc1 kV1 dc1 pm1 cd1 ct1 oc2 kV2 dc2 pm2 cd2 ct2 oc3 kV3 dc3 pm3 cd3 ct3 oc4 kV4 dc4 pm4 cd4 ct4 oc5 kV5 dc5 pm5 cd5 ct5 oc6 kV6 dc6 pm6 cd6 ct6 oc7 kV7 dc7 pm7 cd7 ct7 oc8 kV8 dc8 pm8 cd8 ct8 oc9 kV9 dc9 pm9 cd9 ct9 oc10 kV10 dc10 pm10 cd10 ct10 oc11 kV11 dc11 pm11 cd11 ct11 oc12 kV12 dc12 pm12 cd12 ct12 oc13 kV13 dc13 pm13 cd13 ct13 oc14 kV14 dc14 pm14 cd14 ct14 oc15 kV15 dc15 pm15 cd15 ct15 oc16 kV16 dc16 pm16 cd16 ct16 : Value} {e0 : Addr} {y0 y1 y2 y3 : Tok} {p_DIRECTIONS : Addr} {n_DIRECTIONS : Nat} {o_DIRECTIONS : Option Addr} {s_DIRECTIONS : Array (Option Value)} {w_DIRECTIONS_0 w_DIRECTIONS_1 w_DIRECTIONS_2 w_DIRECTIONS_3 : Tok} {sg0 : Addr} {sod0 san0 : Option Addr} {ssl0 : Array (Option Value)} {soc0 skV0 sdc0 spm0 scd0 sct0 : Value} {ha0 ha1 ha2 ha3 ha4 ha5 ha6 ha7 ha8 ha9 : Addr}
    (a0 : PySem.W.nsIn K mainGlobals "is_direction" = some (some (.ref f0))) (l0 : K.lookup f0 = some ⟨oc0, od0, .func (PySem.W.fnOf "is_direction" "is_direction" (defArgs (stm 19)) (defBody (stm 19)) (defScope (stm 19)) .none kV0 dc0 pm0 an0 cd0 ct0), sl0⟩) (d0 : PySem.W.codeIn K cd0 "is_direction" = true) (k0 : PySem.W.keepIn K (.ref f0) = true)
    (a1 : PySem.W.nsIn K mainGlobals "check_direction" = some (some (.ref f1))) (l1 : K.lookup f1 = some ⟨oc1, od1, .func (PySem.W.fnOf "check_direction" "check_direction" (defArgs (stm 20)) (defBody (stm 20)) (defScope (stm 20)) .none kV1 dc1 pm1 an1 cd1 ct1), sl1⟩) (d1 : PySem.W.codeIn K cd1 "check_direction" = true) (k1 : PySem.W.keepIn K (.ref f1) = true)
    (a2 : PySem.W.nsIn K mainGlobals "raw_joined" = some (some (.ref f2))) (l2 : K.lookup f2 = some ⟨oc2, od2, .func (PySem.W.fnOf "raw_joined" "raw_joined" (defArgs (stm 21)) (defBody (stm 21)) (defScope (stm 21)) .none kV2 dc2 pm2 an2 cd2 ct2), sl2⟩) (d2 : PySem.W.codeIn K cd2 "raw_joined" = true) (k2 : PySem.W.keepIn K (.ref f2) = true)
    (a3 : PySem.W.nsIn K mainGlobals "raw_turned" = some (some (.ref f3))) (l3 : K.lookup f3 = some ⟨oc3, od3, .func (PySem.W.fnOf "raw_turned" "raw_turned" (defArgs (stm 22)) (defBody (stm 22)) (defScope (stm 22)) .none kV3 dc3 pm3 an3 cd3 ct3), sl3⟩) (d3 : PySem.W.codeIn K cd3 "raw_turned" = true) (k3 : PySem.W.keepIn K (.ref f3) = true)
    (a4 : PySem.W.nsIn K mainGlobals "raw_led" = some (some (.ref f4))) (l4 : K.lookup f4 = some ⟨oc4, od4, .func (PySem.W.fnOf "raw_led" "raw_led" (defArgs (stm 23)) (defBody (stm 23)) (defScope (stm 23)) .none kV4 dc4 pm4 an4 cd4 ct4), sl4⟩) (d4 : PySem.W.codeIn K cd4 "raw_led" = true) (k4 : PySem.W.keepIn K (.ref f4) = true)
    (a5 : PySem.W.nsIn K mainGlobals "joined" = some (some (.ref f5))) (l5 : K.lookup f5 = some ⟨oc5, od5, .func (PySem.W.fnOf "joined" "joined" (defArgs (stm 24)) (defBody (stm 24)) (defScope (stm 24)) .none kV5 dc5 pm5 an5 cd5 ct5), sl5⟩) (d5 : PySem.W.codeIn K cd5 "joined" = true) (k5 : PySem.W.keepIn K (.ref f5) = true)
    (a6 : PySem.W.nsIn K mainGlobals "turned" = some (some (.ref f6))) (l6 : K.lookup f6 = some ⟨oc6, od6, .func (PySem.W.fnOf "turned" "turned" (defArgs (stm 25)) (defBody (stm 25)) (defScope (stm 25)) .none kV6 dc6 pm6 an6 cd6 ct6), sl6⟩) (d6 : PySem.W.codeIn K cd6 "turned" = true) (k6 : PySem.W.keepIn K (.ref f6) = true)
    (a7 : PySem.W.nsIn K mainGlobals "led" = some (some (.ref f7))) (l7 : K.lookup f7 = some ⟨oc7, od7, .func (PySem.W.fnOf "led" "led" (defArgs (stm 26)) (defBody (stm 26)) (defScope (stm 26)) .none kV7 dc7 pm7 an7 cd7 ct7), sl7⟩) (d7 : PySem.W.codeIn K cd7 "led" = true) (k7 : PySem.W.keepIn K (.ref f7) = true)
    (a8 : PySem.W.nsIn K mainGlobals "_law_hand" = some (some (.ref f8))) (l8 : K.lookup f8 = some ⟨oc8, od8, .func (PySem.W.fnOf "_law_hand" "_law_hand" (defArgs (stm 28)) (defBody (stm 28)) (defScope (stm 28)) .none kV8 dc8 pm8 an8 cd8 ct8), sl8⟩) (d8 : PySem.W.codeIn K cd8 "_law_hand" = true) (k8 : PySem.W.keepIn K (.ref f8) = true)
    (a9 : PySem.W.nsIn K mainGlobals "_law_draw" = some (some (.ref f9))) (l9 : K.lookup f9 = some ⟨oc9, od9, .func (PySem.W.fnOf "_law_draw" "_law_draw" (defArgs (stm 29)) (defBody (stm 29)) (defScope (stm 29)) .none kV9 dc9 pm9 an9 cd9 ct9), sl9⟩) (d9 : PySem.W.codeIn K cd9 "_law_draw" = true) (k9 : PySem.W.keepIn K (.ref f9) = true)
    (a10 : PySem.W.nsIn K mainGlobals "_law_any" = some (some (.ref f10))) (l10 : K.lookup f10 = some ⟨oc10, od10, .func (PySem.W.fnOf "_law_any" "_law_any" (defArgs (stm 30)) (defBody (stm 30)) (defScope (stm 30)) .none kV10 dc10 pm10 an10 cd10 ct10), sl10⟩) (d10 : PySem.W.codeIn K cd10 "_law_any" = true) (k10 : PySem.W.keepIn K (.ref f10) = true)
    (a11 : PySem.W.nsIn K mainGlobals "_law_join" = some (some (.ref f11))) (l11 : K.lookup f11 = some ⟨oc11, od11, .func (PySem.W.fnOf "_law_join" "_law_join" (defArgs (stm 31)) (defBody (stm 31)) (defScope (stm 31)) .none kV11 dc11 pm11 an11 cd11 ct11), sl11⟩) (d11 : PySem.W.codeIn K cd11 "_law_join" = true) (k11 : PySem.W.keepIn K (.ref f11) = true)
    (a12 : PySem.W.nsIn K mainGlobals "_law_turn" = some (some (.ref f12))) (l12 : K.lookup f12 = some ⟨oc12, od12, .func (PySem.W.fnOf "_law_turn" "_law_turn" (defArgs (stm 32)) (defBody (stm 32)) (defScope (stm 32)) .none kV12 dc12 pm12 an12 cd12 ct12), sl12⟩) (d12 : PySem.W.codeIn K cd12 "_law_turn" = true) (k12 : PySem.W.keepIn K (.ref f12) = true)
    (a13 : PySem.W.nsIn K mainGlobals "_law_lead" = some (some (.ref f13))) (l13 : K.lookup f13 = some ⟨oc13, od13, .func (PySem.W.fnOf "_law_lead" "_law_lead" (defArgs (stm 33)) (defBody (stm 33)) (defScope (stm 33)) .none kV13 dc13 pm13 an13 cd13 ct13), sl13⟩) (d13 : PySem.W.codeIn K cd13 "_law_lead" = true) (k13 : PySem.W.keepIn K (.ref f13) = true)
    (a14 : PySem.W.nsIn K mainGlobals "_law_deep" = some (some (.ref f14))) (l14 : K.lookup f14 = some ⟨oc14, od14, .func (PySem.W.fnOf "_law_deep" "_law_deep" (defArgs (stm 34)) (defBody (stm 34)) (defScope (stm 34)) .none kV14 dc14 pm14 an14 cd14 ct14), sl14⟩) (d14 : PySem.W.codeIn K cd14 "_law_deep" = true) (k14 : PySem.W.keepIn K (.ref f14) = true)
    (a15 : PySem.W.nsIn K mainGlobals "_law_junk" = some (some (.ref f15))) (l15 : K.lookup f15 = some ⟨oc15, od15, .func (PySem.W.fnOf "_law_junk" "_law_junk" (defArgs (stm 35)) (defBody (stm 35)) (defScope (stm 35)) .none kV15 dc15 pm15 an15 cd15 ct15), sl15⟩) (d15 : PySem.W.codeIn K cd15 "_law_junk" = true) (k15 : PySem.W.keepIn K (.ref f15) = true)
    (a16 : PySem.W.nsIn K mainGlobals "law" = some (some (.ref f16))) (l16 : K.lookup f16 = some ⟨oc16, od16, .func (PySem.W.fnOf "law" "law" (defArgs (stm 37)) (defBody (stm 37)) (defScope (stm 37)) .none kV16 dc16 pm16 an16 cd16 ct16), sl16⟩) (d16 : PySem.W.codeIn K cd16 "law" = true) (k16 : PySem.W.keepIn K (.ref f16) = true)
    (b0 : PySem.W.nsIn K mainGlobals "abs" = some none)
    (b1 : PySem.W.nsIn K mainGlobals "len" = some none)
    (b2 : PySem.W.nsIn K mainGlobals "int" = some none)
    (b3 : PySem.W.nsIn K mainGlobals "repr" = some none)
    (b4 : PySem.W.nsIn K mainGlobals "all" = some none)
    (b5 : PySem.W.nsIn K mainGlobals "any" = some none)
    (b6 : PySem.W.nsIn K mainGlobals "tuple" = some none)
    (b7 : PySem.W.nsIn K mainGlobals "list" = some none)
    (b8 : PySem.W.nsIn K mainGlobals "range" = some none)
    (b9 : PySem.W.nsIn K mainGlobals "zip" = some none)
    (b10 : PySem.W.nsIn K mainGlobals "enumerate" = some none)
    (b11 : PySem.W.nsIn K mainGlobals "isinstance" = some none)
    (b12 : PySem.W.nsIn K mainGlobals "bool" = some none)
    (b13 : PySem.W.nsIn K mainGlobals "str" = some none)
    (b14 : PySem.W.nsIn K mainGlobals "dict" = some none)
    (b15 : PySem.W.nsIn K mainGlobals "sum" = some none)
    (b16 : PySem.W.nsIn K mainGlobals "max" = some none)
    (b17 : PySem.W.nsIn K mainGlobals "min" = some none)
    (b18 : PySem.W.nsIn K mainGlobals "sorted" = some none)
    (b19 : PySem.W.nsIn K mainGlobals "set" = some none)
    (x0 : PySem.W.nsIn K mainGlobals "NoDirection" = some (some (.ref e0))) (xe0 : PySem.W.excIn K e0 [.type "ValueError", .type "Exception", .type "BaseException", .type "object"] "ValueError.__new__" = true) (xk0 : PySem.W.keepIn K (.ref e0) = true) (xs0 : PySem.W.subIn K (.ref e0) (.type "BaseException") = some true) (xt0 : PySem.W.typeIn K (.ref e0) = some (.type "type"))
    (gi0 : PySem.W.nsIn K mainGlobals "ANY" = some (some (.str "any" y0)))
    (gi1 : PySem.W.nsIn K mainGlobals "DOWN" = some (some (.str "down" y1)))
    (gi2 : PySem.W.nsIn K mainGlobals "FLAT" = some (some (.str "flat" y2)))
    (gi3 : PySem.W.nsIn K mainGlobals "UP" = some (some (.str "up" y3)))
    (gt_DIRECTIONS : PySem.W.nsIn K mainGlobals "DIRECTIONS" = some (some (.ref p_DIRECTIONS)))
    (tl_DIRECTIONS : K.lookup p_DIRECTIONS = some ⟨.type "tuple", o_DIRECTIONS, .seq #[.str "any" w_DIRECTIONS_0, .str "down" w_DIRECTIONS_1, .str "flat" w_DIRECTIONS_2, .str "up" w_DIRECTIONS_3] n_DIRECTIONS, s_DIRECTIONS⟩)
    (sa0 : PySem.W.nsIn K mainGlobals "_law_said" = some (some (.ref sg0))) (sl_0 : K.lookup sg0 = some ⟨soc0, sod0, .func (PySem.W.fnOf "_law_said" "_law_said" (defArgs (stm 36)) (defBody (stm 36)) (defScope (stm 36)) .none skV0 sdc0 spm0 san0 scd0 sct0), ssl0⟩) (sd_0 : PySem.W.codeIn K scd0 "_law_said" = true) (sk_0 : PySem.W.keepIn K (.ref sg0) = true)
    (hx0 : PySem.W.nsIn K mainGlobals "NoBook" = some (some (.ref ha0))) (hs0 : PySem.W.subIn K (.ref ha0) (.type "BaseException") = some true) (ht0 : PySem.W.typeIn K (.ref ha0) = some (.type "type"))
    (hx1 : PySem.W.nsIn K mainGlobals "NoPlace" = some (some (.ref ha1))) (hs1 : PySem.W.subIn K (.ref ha1) (.type "BaseException") = some true) (ht1 : PySem.W.typeIn K (.ref ha1) = some (.type "type"))
    (hx2 : PySem.W.nsIn K mainGlobals "NoPoint" = some (some (.ref ha2))) (hs2 : PySem.W.subIn K (.ref ha2) (.type "BaseException") = some true) (ht2 : PySem.W.typeIn K (.ref ha2) = some (.type "type"))
    (hx3 : PySem.W.nsIn K mainGlobals "NoBox" = some (some (.ref ha3))) (hs3 : PySem.W.subIn K (.ref ha3) (.type "BaseException") = some true) (ht3 : PySem.W.typeIn K (.ref ha3) = some (.type "type"))
    (hx4 : PySem.W.nsIn K mainGlobals "NoNumber" = some (some (.ref ha4))) (hs4 : PySem.W.subIn K (.ref ha4) (.type "BaseException") = some true) (ht4 : PySem.W.typeIn K (.ref ha4) = some (.type "type"))
    (hx5 : PySem.W.nsIn K mainGlobals "NoWord" = some (some (.ref ha5))) (hs5 : PySem.W.subIn K (.ref ha5) (.type "BaseException") = some true) (ht5 : PySem.W.typeIn K (.ref ha5) = some (.type "type"))
    (hx6 : PySem.W.nsIn K mainGlobals "NoKnown" = some (some (.ref ha6))) (hs6 : PySem.W.subIn K (.ref ha6) (.type "BaseException") = some true) (ht6 : PySem.W.typeIn K (.ref ha6) = some (.type "type"))
    (hx7 : PySem.W.nsIn K mainGlobals "NoPaper" = some (some (.ref ha7))) (hs7 : PySem.W.subIn K (.ref ha7) (.type "BaseException") = some true) (ht7 : PySem.W.typeIn K (.ref ha7) = some (.type "type"))
    (hx8 : PySem.W.nsIn K mainGlobals "BadOctets" = some (some (.ref ha8))) (hs8 : PySem.W.subIn K (.ref ha8) (.type "BaseException") = some true) (ht8 : PySem.W.typeIn K (.ref ha8) = some (.type "type"))
    (hx9 : PySem.W.nsIn K mainGlobals "TooMany" = some (some (.ref ha9))) (hs9 : PySem.W.subIn K (.ref ha9) (.type "BaseException") = some true) (ht9 : PySem.W.typeIn K (.ref ha9) = some (.type "type"))
    (pp0_NoDirection_0 : PySem.W.subIn K (.ref e0) (.ref ha0) = some false)
    (pp0_NoDirection_1 : PySem.W.subIn K (.ref e0) (.ref ha1) = some false)
    (pp0_NoDirection_2 : PySem.W.subIn K (.ref e0) (.ref e0) = some true)
    (pp0_NoDirection_3 : PySem.W.subIn K (.ref e0) (.ref ha2) = some false)
    (pp0_NoDirection_4 : PySem.W.subIn K (.ref e0) (.ref ha3) = some false)
    (pp0_NoDirection_5 : PySem.W.subIn K (.ref e0) (.ref ha4) = some false)
    (pp0_NoDirection_6 : PySem.W.subIn K (.ref e0) (.ref ha5) = some false)
    (pp0_NoDirection_7 : PySem.W.subIn K (.ref e0) (.ref ha6) = some false)
    (pp0_NoDirection_8 : PySem.W.subIn K (.ref e0) (.ref ha7) = some false)
    (pp0_NoDirection_9 : PySem.W.subIn K (.ref e0) (.ref ha8) = some false)
    (pp0_NoDirection_10 : PySem.W.subIn K (.ref e0) (.ref ha9) = some false)
    : MdF w K mg Ds gls tab := by
  refine ⟨fun x hx => ?_, fun x v hx => ?_, fun x hx => ?_, fun x hx => ?_, fun x hx => ?_, fun x hx => ?_, fun x hx => ?_, fun x hx => ?_, fun x hx => ?_, fun x hx => ?_, by decide +kernel, by decide +kernel⟩
  · simp only [blts, List.mem_cons, List.not_mem_nil, or_false] at hx
    rcases hx with rfl | rfl | rfl | rfl | rfl | rfl | rfl | rfl | rfl | rfl | rfl | rfl | rfl | rfl | rfl | rfl | rfl | rfl | rfl | rfl
    · exact PySem.W.mg_none_of X N b0
    · exact PySem.W.mg_none_of X N b1
    · exact PySem.W.mg_none_of X N b2
    · exact PySem.W.mg_none_of X N b3
    · exact PySem.W.mg_none_of X N b4
    · exact PySem.W.mg_none_of X N b5
    · exact PySem.W.mg_none_of X N b6
    · exact PySem.W.mg_none_of X N b7
    · exact PySem.W.mg_none_of X N b8
    · exact PySem.W.mg_none_of X N b9
    · exact PySem.W.mg_none_of X N b10
    · exact PySem.W.mg_none_of X N b11
    · exact PySem.W.mg_none_of X N b12
    · exact PySem.W.mg_none_of X N b13
    · exact PySem.W.mg_none_of X N b14
    · exact PySem.W.mg_none_of X N b15
    · exact PySem.W.mg_none_of X N b16
    · exact PySem.W.mg_none_of X N b17
    · exact PySem.W.mg_none_of X N b18
    · exact PySem.W.mg_none_of X N b19
  · cases hx
  · simp only [Ds, List.mem_cons, List.not_mem_nil, or_false] at hx
    rcases hx with rfl
    · exact ⟨e0, _, _, _, _, PySem.F.excBase_ValueError, xe0, PySem.W.mg_of X N x0, xk0, xs0, xt0⟩
  · simp only [Ds, List.mem_cons, List.not_mem_nil, or_false] at hx
    rcases hx with rfl | rfl | rfl | rfl | rfl | rfl | rfl | rfl | rfl | rfl | rfl | rfl | rfl | rfl | rfl | rfl | rfl
    · have F := fun_mk (st := stm 19) l0 d0 k0
      exact ⟨f0, _, [("thing" : Str)], PySem.W.mg_of X N a0, ⟨stm 19, "is_direction", [("thing" : Str)], f_is_direction, k0, F.binds fun _ _ _ _ _ _ us hl => match us, hl with | [_], _ => rfl, F, t_f_is_direction, c_f_is_direction⟩⟩
    · have F := fun_mk (st := stm 20) l1 d1 k1
      exact ⟨f1, _, [("thing" : Str)], PySem.W.mg_of X N a1, ⟨stm 20, "check_direction", [("thing" : Str)], f_check_direction, k1, F.binds fun _ _ _ _ _ _ us hl => match us, hl with | [_], _ => rfl, F, t_f_check_direction, c_f_check_direction⟩⟩
    · have F := fun_mk (st := stm 21) l2 d2 k2
      exact ⟨f2, _, [("one" : Str), ("other" : Str)], PySem.W.mg_of X N a2, ⟨stm 21, "raw_joined", [("one" : Str), ("other" : Str)], f_raw_joined, k2, F.binds fun _ _ _ _ _ _ us hl => match us, hl with | [_, _], _ => rfl, F, t_f_raw_joined, c_f_raw_joined⟩⟩
    · have F := fun_mk (st := stm 22) l3 d3 k3
      exact ⟨f3, _, [("one" : Str)], PySem.W.mg_of X N a3, ⟨stm 22, "raw_turned", [("one" : Str)], f_raw_turned, k3, F.binds fun _ _ _ _ _ _ us hl => match us, hl with | [_], _ => rfl, F, t_f_raw_turned, c_f_raw_turned⟩⟩
    · have F := fun_mk (st := stm 23) l4 d4 k4
      exact ⟨f4, _, [("one" : Str), ("other" : Str)], PySem.W.mg_of X N a4, ⟨stm 23, "raw_led", [("one" : Str), ("other" : Str)], f_raw_led, k4, F.binds fun _ _ _ _ _ _ us hl => match us, hl with | [_, _], _ => rfl, F, t_f_raw_led, c_f_raw_led⟩⟩
    · have F := fun_mk (st := stm 24) l5 d5 k5
      exact ⟨f5, _, [("one" : Str), ("other" : Str)], PySem.W.mg_of X N a5, ⟨stm 24, "joined", [("one" : Str), ("other" : Str)], f_joined, k5, F.binds fun _ _ _ _ _ _ us hl => match us, hl with | [_, _], _ => rfl, F, t_f_joined, c_f_joined⟩⟩
    · have F := fun_mk (st := stm 25) l6 d6 k6
      exact ⟨f6, _, [("one" : Str)], PySem.W.mg_of X N a6, ⟨stm 25, "turned", [("one" : Str)], f_turned, k6, F.binds fun _ _ _ _ _ _ us hl => match us, hl with | [_], _ => rfl, F, t_f_turned, c_f_turned⟩⟩
    · have F := fun_mk (st := stm 26) l7 d7 k7
      exact ⟨f7, _, [("one" : Str), ("other" : Str)], PySem.W.mg_of X N a7, ⟨stm 26, "led", [("one" : Str), ("other" : Str)], f_led, k7, F.binds fun _ _ _ _ _ _ us hl => match us, hl with | [_, _], _ => rfl, F, t_f_led, c_f_led⟩⟩
    · have F := fun_mk (st := stm 28) l8 d8 k8
      exact ⟨f8, _, [("script" : Str)], PySem.W.mg_of X N a8, ⟨stm 28, "_law_hand", [("script" : Str), ("cells_own" : Str), ("digit_own" : Str)], g_law_hand, k8, F.binds fun _ _ _ _ _ _ us hl => match us, hl with | [_], _ => rfl, F, t_g_law_hand, c_g_law_hand⟩⟩
    · have F := fun_mk (st := stm 29) l9 d9 k9
      exact ⟨f9, _, [("hand" : Str), ("below" : Str)], PySem.W.mg_of X N a9, ⟨stm 29, "_law_draw", [("hand" : Str), ("below" : Str), ("number" : Str), ("digit_own" : Str), ("digit" : Str)], g_law_draw_B, k9, F.binds fun _ _ _ _ _ _ us hl => match us, hl with | [_, _], _ => rfl, F, t_g_law_draw, c_g_law_draw⟩⟩
    · have F := fun_mk (st := stm 30) l10 d10 k10
      exact ⟨f10, _, [("hand" : Str), ("some" : Str)], PySem.W.mg_of X N a10, ⟨stm 30, "_law_any", [("hand" : Str), ("some" : Str)], g_law_any_B, k10, F.binds fun _ _ _ _ _ _ us hl => match us, hl with | [_, _], _ => rfl, F, t_g_law_any, c_g_law_any⟩⟩
    · have F := fun_mk (st := stm 31) l11 d11 k11
      exact ⟨f11, _, [("one" : Str), ("other" : Str)], PySem.W.mg_of X N a11, ⟨stm 31, "_law_join", [("one" : Str), ("other" : Str)], g_law_join_B, k11, F.binds fun _ _ _ _ _ _ us hl => match us, hl with | [_, _], _ => rfl, F, t_g_law_join, c_g_law_join⟩⟩
    · have F := fun_mk (st := stm 32) l12 d12 k12
      exact ⟨f12, _, [("one" : Str)], PySem.W.mg_of X N a12, ⟨stm 32, "_law_turn", [("one" : Str)], g_law_turn_B, k12, F.binds fun _ _ _ _ _ _ us hl => match us, hl with | [_], _ => rfl, F, t_g_law_turn, c_g_law_turn⟩⟩
    · have F := fun_mk (st := stm 33) l13 d13 k13
      exact ⟨f13, _, [("one" : Str), ("other" : Str)], PySem.W.mg_of X N a13, ⟨stm 33, "_law_lead", [("one" : Str), ("other" : Str)], g_law_lead_B, k13, F.binds fun _ _ _ _ _ _ us hl => match us, hl with | [_, _], _ => rfl, F, t_g_law_lead, c_g_law_lead⟩⟩
    · have F := fun_mk (st := stm 34) l14 d14 k14
      exact ⟨f14, _, [("hand" : Str)], PySem.W.mg_of X N a14, ⟨stm 34, "_law_deep", [("hand" : Str), ("thing" : Str), ("lap_on" : Str)], g_law_deep_B, k14, F.binds fun _ _ _ _ _ _ us hl => match us, hl with | [_], _ => rfl, F, t_g_law_deep, c_g_law_deep⟩⟩
    · have F := fun_mk (st := stm 35) l15 d15 k15
      exact ⟨f15, _, [("hand" : Str)], PySem.W.mg_of X N a15, ⟨stm 35, "_law_junk", [("hand" : Str), ("some" : Str)], g_law_junk, k15, F.binds fun _ _ _ _ _ _ us hl => match us, hl with | [_], _ => rfl, F, t_g_law_junk, c_g_law_junk⟩⟩
    · have F := fun_mk (st := stm 37) l16 d16 k16
      exact ⟨f16, _, [("script" : Str)], PySem.W.mg_of X N a16, ⟨stm 37, "law", [("script" : Str), ("hand" : Str), ("some" : Str), ("one" : Str), ("lap_on" : Str), ("other" : Str), ("third" : Str), ("bad" : Str), ("good" : Str)], f_law, k16, F.binds fun _ _ _ _ _ _ us hl => match us, hl with | [_], _ => rfl, F, t_f_law, c_f_law⟩⟩
  · cases hx
  · cases hx
  · cases hx
  · cases hx
  · simp only [Ds, List.mem_cons, List.not_mem_nil, or_false] at hx
    rcases hx with rfl | rfl | rfl | rfl | rfl
    · exact ⟨_, .str _, PySem.W.mg_of X N gi0, ⟨_, rfl⟩, fun _ _ => .str _⟩
    · exact ⟨_, .str _, PySem.W.mg_of X N gi1, ⟨_, rfl⟩, fun _ _ => .str _⟩
    · exact ⟨_, .str _, PySem.W.mg_of X N gi2, ⟨_, rfl⟩, fun _ _ => .str _⟩
    · exact ⟨_, .str _, PySem.W.mg_of X N gi3, ⟨_, rfl⟩, fun _ _ => .str _⟩
    · exact ⟨_, .ref p_DIRECTIONS, PySem.W.mg_of X N gt_DIRECTIONS, rfl, fun _ _ => .tup (ktup (vs := [.str "any", .str "down", .str "flat", .str "up"]) tl_DIRECTIONS (by rw [sizeLine_eq]; show 4 ≤ 16777216; decide) (.cons ⟨_, rfl⟩ (.cons ⟨_, rfl⟩ (.cons ⟨_, rfl⟩ (.cons ⟨_, rfl⟩ .nil))))) (.cons (.str _) (.cons (.str _) (.cons (.str _) (.cons (.str _) .nil))))⟩
  · simp only [Ds, List.mem_cons, List.not_mem_nil, or_false] at hx
    rcases hx with rfl
    · have F := fun_mk (st := stm 36) sl_0 sd_0 sk_0
      refine ⟨sg0, _, stm 36, PySem.W.mg_of X N sa0, sk_0, F.binds fun _ _ _ _ _ _ us hl => match us, hl with | [_], _ => rfl, F, sdc_0, fun b hb => ?_, fun a ha b hb A B eA eB => ?_⟩
      · simp only [sd_law_said, List.mem_cons, List.not_mem_nil, or_false] at hb
        rcases hb with rfl | rfl | rfl | rfl | rfl | rfl | rfl | rfl | rfl | rfl | rfl
        · exact ⟨_, PySem.W.mg_of X N hx0⟩
        · exact ⟨_, PySem.W.mg_of X N hx1⟩
        · exact ⟨_, PySem.W.mg_of X N x0⟩
        · exact ⟨_, PySem.W.mg_of X N hx2⟩
        · exact ⟨_, PySem.W.mg_of X N hx3⟩
        · exact ⟨_, PySem.W.mg_of X N hx4⟩
        · exact ⟨_, PySem.W.mg_of X N hx5⟩
        · exact ⟨_, PySem.W.mg_of X N hx6⟩
        · exact ⟨_, PySem.W.mg_of X N hx7⟩
        · exact ⟨_, PySem.W.mg_of X N hx8⟩
        · exact ⟨_, PySem.W.mg_of X N hx9⟩
      · simp only [sd_law_said, List.mem_cons, List.not_mem_nil, or_false] at ha hb
        rcases ha with rfl
        · rcases hb with rfl | rfl | rfl | rfl | rfl | rfl | rfl | rfl | rfl | rfl | rfl
          · exact exm_at (PySem.W.mg_of X N x0) (PySem.W.mg_of X N hx0) eA eB hs0 ht0 pp0_NoDirection_0 (by decide +kernel)
          · exact exm_at (PySem.W.mg_of X N x0) (PySem.W.mg_of X N hx1) eA eB hs1 ht1 pp0_NoDirection_1 (by decide +kernel)
          · exact exm_at (PySem.W.mg_of X N x0) (PySem.W.mg_of X N x0) eA eB xs0 xt0 pp0_NoDirection_2 (by decide +kernel)
          · exact exm_at (PySem.W.mg_of X N x0) (PySem.W.mg_of X N hx2) eA eB hs2 ht2 pp0_NoDirection_3 (by decide +kernel)
          · exact exm_at (PySem.W.mg_of X N x0) (PySem.W.mg_of X N hx3) eA eB hs3 ht3 pp0_NoDirection_4 (by decide +kernel)
          · exact exm_at (PySem.W.mg_of X N x0) (PySem.W.mg_of X N hx4) eA eB hs4 ht4 pp0_NoDirection_5 (by decide +kernel)
          · exact exm_at (PySem.W.mg_of X N x0) (PySem.W.mg_of X N hx5) eA eB hs5 ht5 pp0_NoDirection_6 (by decide +kernel)
          · exact exm_at (PySem.W.mg_of X N x0) (PySem.W.mg_of X N hx6) eA eB hs6 ht6 pp0_NoDirection_7 (by decide +kernel)
          · exact exm_at (PySem.W.mg_of X N x0) (PySem.W.mg_of X N hx7) eA eB hs7 ht7 pp0_NoDirection_8 (by decide +kernel)
          · exact exm_at (PySem.W.mg_of X N x0) (PySem.W.mg_of X N hx8) eA eB hs8 ht8 pp0_NoDirection_9 (by decide +kernel)
          · exact exm_at (PySem.W.mg_of X N x0) (PySem.W.mg_of X N hx9) eA eB hs9 ht9 pp0_NoDirection_10 (by decide +kernel)
theorem lam_is {K : PySem.W.Frag} {h : Heap} {mg : Str → Option Value} (X : K.In h) (N : h.Ns mainGlobals mg) {f0 c0 P0 : Addr} {od0 dd0 : Option Addr} {fd0 : FuncData} {oc0 ee0 : Value} {us0 : Array Value} {sl0 sm0 : Array (Option Value)}
    (a0 : PySem.W.nsIn K mainGlobals "law" = some (some (.ref f0))) (l0 : K.lookup f0 = some ⟨oc0, od0, .func fd0, sl0⟩) (q0 : fd0.qualname = "law") (c_0 : fd0.code = .ref c0) (m0 : K.lookup c0 = some ⟨ee0, dd0, .fields us0, sm0⟩) (p0 : us0[11]? = some (.ref P0)) (n0 : K.lookup P0 = none)
    (nd : [P0].Nodup) : ∃ Ps : List (Str × Addr), Ps.map (·.1) = Ds.lms ∧ (Ps.map (·.2)).Nodup ∧ ∀ p ∈ Ps, ∃ f, mg p.1 = some (.ref f) ∧ LamK K p.1 f p.2 := by
  refine ⟨[("law", P0)], rfl, nd, fun p hp => ?_⟩
  simp only [List.mem_cons, List.not_mem_nil, or_false] at hp
  rcases hp with rfl
  · exact ⟨f0, PySem.W.mg_of X N a0, _, _, fd0, _, c0, _, _, us0, _, l0, q0, c_0, m0, p0, n0⟩
end NC
set_option maxHeartbeats 4000000

/-! The law k31. -/
namespace NC
open PySem
open L2 (Room)
def ds4 : List Str := ["flat", "up", "down", "any"]
@[simp] theorem w4_01 : (("flat" : Str) == "up") = false := by decide +kernel
@[simp] theorem w4_02 : (("flat" : Str) == "down") = false := by decide +kernel
@[simp] theorem w4_03 : (("flat" : Str) == "any") = false := by decide +kernel
@[simp] theorem w4_10 : (("up" : Str) == "flat") = false := by decide +kernel
@[simp] theorem w4_12 : (("up" : Str) == "down") = false := by decide +kernel
@[simp] theorem w4_13 : (("up" : Str) == "any") = false := by decide +kernel
@[simp] theorem w4_20 : (("down" : Str) == "flat") = false := by decide +kernel
@[simp] theorem w4_21 : (("down" : Str) == "up") = false := by decide +kernel
@[simp] theorem w4_23 : (("down" : Str) == "any") = false := by decide +kernel
@[simp] theorem w4_30 : (("any" : Str) == "flat") = false := by decide +kernel
@[simp] theorem w4_31 : (("any" : Str) == "up") = false := by decide +kernel
@[simp] theorem w4_32 : (("any" : Str) == "down") = false := by decide +kernel
def jn (a b : Str) : Str := if a == "flat" || a == b then b else if b == "flat" then a else "any"
def tn (a : Str) : Str := if a == "up" then "down" else if a == "down" then "up" else a
def ld (a b : Str) : Str := if a == "flat" || b == "flat" then "flat" else if a == "any" || b == "any" then "any" else if a == b then "up" else "down"
theorem ds4_c {a : Str} (h : a ∈ ds4) : a = "flat" ∨ a = "up" ∨ a = "down" ∨ a = "any" := by simpa [ds4] using h
theorem tn_in : ∀ a ∈ ds4, tn a ∈ ds4 := by decide +kernel
theorem jn_in : ∀ a ∈ ds4, ∀ b ∈ ds4, jn a b ∈ ds4 := by decide +kernel
theorem ld_in : ∀ a ∈ ds4, ∀ b ∈ ds4, ld a b ∈ ds4 := by decide +kernel
theorem tn_tn : ∀ a ∈ ds4, tn (tn a) = a := by decide +kernel
theorem jn_co : ∀ a ∈ ds4, ∀ b ∈ ds4, jn b a = jn a b := by decide +kernel
theorem ld_co : ∀ a ∈ ds4, ∀ b ∈ ds4, ld b a = ld a b := by decide +kernel
theorem tn_jn : ∀ a ∈ ds4, ∀ b ∈ ds4, jn (tn a) (tn b) = tn (jn a b) := by decide +kernel
theorem tn_ld : ∀ a ∈ ds4, ∀ b ∈ ds4, tn (ld a b) = ld (tn a) b := by decide +kernel
theorem jn_as : ∀ a ∈ ds4, ∀ b ∈ ds4, ∀ c ∈ ds4, jn (jn a b) c = jn a (jn b c) := by decide +kernel
theorem ld_jn : ∀ a ∈ ds4, ∀ b ∈ ds4, ∀ c ∈ ds4, ld a (jn b c) = jn (ld a b) (ld a c) ∨ ("any" : Str) ∈ [a, b, c, jn b c] := by decide +kernel
theorem in_ws4 {x : Str} {ws : List Str} {h : Hv} : cm .inn (.d (.str x)) (.d (.tuple (ws.map .str))) h = .ok (.d (.bool (ws.any fun y => y == x))) h := by
  have e : ((ws.map PyData.str).all flatD) = true := by simp [flatD]
  show (if (flatD (.str x) && (ws.map PyData.str).all flatD) || _ then Res.ok (PV.d (.bool ((ws.map PyData.str).any fun y => PyData.eqv y (.str x)))) h else .bad) = _
  rw [e]
  simp [flatD, List.any_map, Function.comp_def, eqv_str]
theorem nin_ws4 {x : Str} {ws : List Str} {h : Hv} : cm .nin (.d (.str x)) (.d (.tuple (ws.map .str))) h = .ok (.d (.bool (!(ws.any fun y => y == x)))) h := by
  have e : ((ws.map PyData.str).all flatD) = true := by simp [flatD]
  show (if (flatD (.str x) && (ws.map PyData.str).all flatD) || _ then Res.ok (PV.d (.bool (!(ws.map PyData.str).any fun y => PyData.eqv y (.str x)))) h else .bad) = _
  rw [e]
  simp [flatD, List.any_map, Function.comp_def, eqv_str]
theorem in_2 {x a b : Str} {h : Hv} : cm .inn (.d (.str x)) (.d (.tuple [.str a, .str b])) h = .ok (.d (.bool (a == x || b == x))) h := by
  simpa using in_ws4 (ws := [a, b]) (x := x) (h := h)
theorem in_4 {x a b c d : Str} {h : Hv} : cm .inn (.d (.str x)) (.d (.tuple [.str a, .str b, .str c, .str d])) h = .ok (.d (.bool (a == x || (b == x || (c == x || d == x))))) h := by
  simpa using in_ws4 (ws := [a, b, c, d]) (x := x) (h := h)
theorem nin_4 {x a b c d : Str} {h : Hv} : cm .nin (.d (.str x)) (.d (.tuple [.str a, .str b, .str c, .str d])) h = .ok (.d (.bool (!(a == x || (b == x || (c == x || d == x)))))) h := by
  have := nin_ws4 (ws := [a, b, c, d]) (x := x) (h := h)
  simp only [List.map_cons, List.map_nil, List.any_cons, List.any_nil, Bool.or_false] at this
  exact this
@[simp] theorem ne_s {a b : Str} {h : Hv} : cm .ne (.d (.str a)) (.d (.str b)) h = .ok (.d (.bool (!(a == b)))) h := by
  show (if eqOk (.str a) (.str b) then Res.ok (PV.d (.bool (!PyData.eqv (.str a) (.str b)))) h else .bad) = _
  rw [if_pos (show eqOk (.str a) (.str b) = true from rfl), eqv_str]
/-- a direction -/
def isDr : PyData → Bool
  | .str s => ("any" : Str) == s || (("down" : Str) == s || (("flat" : Str) == s || ("up" : Str) == s))
  | _ => false
section
variable {G : Gls} {T : Tab} (D : T_directions T) {k : Nat} {h : Hv}
include D
theorem s_is_direction {x : PyData} : call G T (k + 1) "is_direction" [.d x] h = .ok (.d (.bool (isDr x))) h := by
  rw [call_run D.f_is_direction]
  cases x <;> simp [f_is_direction, run, back, isTy, isDr, in_4]
theorem s_chk_ok {x : PyData} (hx : isDr x = true) : call G T (k + 2) "check_direction" [.d x] h = .ok (.d .none) h := by
  rw [call_run D.f_check_direction]
  simp [f_check_direction, run, back, s_is_direction D, hx]
theorem s_chk_no {x : PyData} (hx : isDr x = false) : call G T (k + 2) "check_direction" [.d x] h = .exc "NoDirection" [] h := by
  rw [call_run D.f_check_direction]
  simp [f_check_direction, run, s_is_direction D, hx]
theorem isDr_4 {a : Str} (h : a ∈ ds4) : isDr (.str a) = true := by
  rcases ds4_c h with rfl | rfl | rfl | rfl <;> decide +kernel
theorem s_turned {a : Str} (ha : a ∈ ds4) : call G T (k + 3) "turned" [.d (.str a)] h = .ok (.d (.str (tn a))) h := by
  have c := fun h : Hv => s_chk_ok D (G := G) (k := k) (h := h) (isDr_4 D ha)
  have r : ∀ h : Hv, call G T (k + 2) "raw_turned" [.d (.str a)] h = .ok (.d (.str (tn a))) h := fun h => by
    rw [call_run D.f_raw_turned]
    rcases ds4_c ha with rfl | rfl | rfl | rfl <;> simp [f_raw_turned, run, back, in_2, tn, lnOk]
  rw [call_run D.f_turned]
  simp [f_turned, run, back, c, r]
theorem s_joined {a b : Str} (ha : a ∈ ds4) (hb : b ∈ ds4) : call G T (k + 3) "joined" [.d (.str a), .d (.str b)] h = .ok (.d (.str (jn a b))) h := by
  have c := fun h : Hv => s_chk_ok D (G := G) (k := k) (h := h) (isDr_4 D ha)
  have c2 := fun h : Hv => s_chk_ok D (G := G) (k := k) (h := h) (isDr_4 D hb)
  have r : ∀ h : Hv, call G T (k + 2) "raw_joined" [.d (.str a), .d (.str b)] h = .ok (.d (.str (jn a b))) h := fun h => by
    rw [call_run D.f_raw_joined]
    rcases ds4_c ha with rfl | rfl | rfl | rfl <;> rcases ds4_c hb with rfl | rfl | rfl | rfl <;> simp [f_raw_joined, run, back, jn]
  rw [call_run D.f_joined]
  simp [f_joined, run, back, c, c2, r]
theorem s_led {a b : Str} (ha : a ∈ ds4) (hb : b ∈ ds4) : call G T (k + 3) "led" [.d (.str a), .d (.str b)] h = .ok (.d (.str (ld a b))) h := by
  have c := fun h : Hv => s_chk_ok D (G := G) (k := k) (h := h) (isDr_4 D ha)
  have c2 := fun h : Hv => s_chk_ok D (G := G) (k := k) (h := h) (isDr_4 D hb)
  have r : ∀ h : Hv, call G T (k + 2) "raw_led" [.d (.str a), .d (.str b)] h = .ok (.d (.str (ld a b))) h := fun h => by
    rw [call_run D.f_raw_led]
    rcases ds4_c ha with rfl | rfl | rfl | rfl <;> rcases ds4_c hb with rfl | rfl | rfl | rfl <;> simp [f_raw_led, run, back, ld, in_2, lnOk]
  rw [call_run D.f_led]
  simp [f_led, run, back, c, c2, r]
theorem s_turned_no {x : PyData} (hx : isDr x = false) : call G T (k + 3) "turned" [.d x] h = .exc "NoDirection" [] h := by
  have c := fun h : Hv => s_chk_no D (G := G) (k := k) (h := h) hx
  rw [call_run D.f_turned]
  simp [f_turned, run, c]
theorem s_joined_no {x y : PyData} (hx : isDr x = false) : call G T (k + 3) "joined" [.d x, .d y] h = .exc "NoDirection" [] h := by
  have c := fun h : Hv => s_chk_no D (G := G) (k := k) (h := h) hx
  rw [call_run D.f_joined]
  simp [f_joined, run, c]
theorem s_led_no {x : PyData} {a : Str} (ha : a ∈ ds4) (hx : isDr x = false) : call G T (k + 3) "led" [.d (.str a), .d x] h = .exc "NoDirection" [] h := by
  have c := fun h : Hv => s_chk_no D (G := G) (k := k) (h := h) hx
  have c2 := fun h : Hv => s_chk_ok D (G := G) (k := k) (h := h) (isDr_4 D ha)
  rw [call_run D.f_led]
  simp [f_led, run, c, c2]
end
theorem HB : T_B tab := ⟨t_g_law_draw, t_g_law_any, t_g_law_made⟩
section
variable {G : Gls} {T : Tab} (HB : T_B T)
include HB
theorem s_deep {k u : Nat} {h : Hv} {n : Nat} {o : Ob} (ed : T "_law_deep" = some g_law_deep_B) (e : h.os[n]? = some o) (g : Hand u o) (hu : u ≤ 500000) :
    ∃ x o', call G T (k + 2) "_law_deep" [.ref n] h = .ok (.d x) (setO h n o') ∧ Hand (u + 41) o' ∧ isDr x = false := by
  have l : n < h.os.length := (List.getElem?_eq_some_iff.mp e).1
  obtain ⟨d, o1, p1, d0, d1, g1⟩ := s_draw HB (G := G) (k := k) (h := ⟨h.os, h.os.length⟩) (m := 40) e g (by omega) (by decide) (Lt_of (by decide))
  obtain ⟨j, hj⟩ : ∃ j : Nat, 1 + d = (j : Int) := ⟨(1 + d).toNat, by omega⟩
  obtain ⟨e', h', q, x, w, o2, rfl, rfl, g2, hx⟩ := for_run (tg := .var 2) (body := fun e h => execs G (call G T (k + 1)) [(.asg (.var 1) (.ite (.cmp .eq (.call "_law_draw" [(.var 0), (.cst (.int 2))]) (.cst (.int 0))) (.tup [(.var 1)]) (.lst false [(.var 1)])))] e h) (J := j)
    (P := fun i e h' => ∃ x w o2, e = (Ev3 (some (.ref n)) (some (.d x)) w) ∧ h' = setO ⟨h.os, h.os.length⟩ n o2 ∧ Hand (u + 1 + i) o2 ∧ isDr x = false) (rngs 0 j) 0 (Ev3 (some (.ref n)) (some (.d .none)) none) (setO ⟨h.os, h.os.length⟩ n o1) (by
    rintro y hy i e h' hi ⟨x, w, o2, rfl, rfl, g2, hx⟩
    obtain ⟨c, o3, p3, c0, c1, g3⟩ := s_draw HB (G := G) (k := k) (h := setO ⟨h.os, h.os.length⟩ n o2) (m := 2) (setO_get l) g2 (by omega) (by decide) (Lt_of (by decide))
    rw [setO_two] at p3
    refine ⟨_, by rw [store_v]; rfl, ?_⟩
    by_cases hc : c = 0
    · refine ⟨(Ev3 (some (.ref n)) (some (.d (.tuple [x]))) (some y)), setO ⟨h.os, h.os.length⟩ n o3, ?_, .tuple [x], _, o3, rfl, rfl, g3.mono (by omega), rfl⟩
      have p4 : call G T (k + 1) "_law_draw" [.ref n, .d (.int 2)] (setO ⟨h.os, h.os.length⟩ n o2) = .ok (.d (.int 0)) (setO ⟨h.os, h.os.length⟩ n o3) := by rw [p3, hc]
      simp [p4, lnOk]
    · refine ⟨(Ev3 (some (.ref n)) (some (.d (.list [x]))) (some y)), setO ⟨h.os, h.os.length⟩ n o3, ?_, .list [x], _, o3, rfl, rfl, g3.mono (by omega), rfl⟩
      simp [p3, hc, lnOk, allD]) ⟨.none, none, o1, rfl, rfl, g1, rfl⟩ (by rw [rngs_len]; omega)
  refine ⟨x, o2, ?_, g2.mono (by rw [rngs_len]; omega), hx⟩
  rw [call_run ed, run_finC rfl rfl]
  have eb : g_law_deep_B.body = [(.asg (.var 1) (.cst .none)), (.forS (.var 2) (.range1 (.bin .add (.cst (.int 1)) (.call "_law_draw" [(.var 0), (.cst (.int 40))]))) [(.asg (.var 1) (.ite (.cmp .eq (.call "_law_draw" [(.var 0), (.cst (.int 2))]) (.cst (.int 0))) (.tup [(.var 1)]) (.lst false [(.var 1)])))]), (.ret (.var 1))] := rfl
  rw [eb]
  show finC h (execs G _ _ (Ev3 (some (.ref n)) none none) _) = _
  rw [exs_nx (e1 := (Ev3 (some (.ref n)) (some (.d .none)) none)) (h1 := ⟨h.os, h.os.length⟩) (by simp)]
  rw [exs_nx (e1 := (Ev3 (some (.ref n)) (some (.d x)) w)) (h1 := setO ⟨h.os, h.os.length⟩ n o2) (by
    rw [ex_for, walk_r1 (i := (j : Int)) (h1 := setO ⟨h.os, h.os.length⟩ n o1) (by simp [p1, hj]) (b62_of (by omega) (by omega))]
    exact q)]
  rw [exs_rt (v := .d x) (h1 := setO ⟨h.os, h.os.length⟩ n o2) (by simp)]
  exact finC_d
end
def j13 : List PyData := [.none, .bool true, .str "int", .tuple [], .list [], .dict [], .int (-1), .tuple [.str "x"], .tuple [.int 0, .int 1], .list [.tuple [.str "a"]], .int (10 ^ 18), .str "A", .str ""]
theorem j13_no : ∀ x ∈ j13, isDr x = false := by decide +kernel
theorem s_junk {k u : Nat} {h : Hv} {n : Nat} {o : Ob} (e : h.os[n]? = some o) (g : Hand u o) (hu : u ≤ 500000) :
    ∃ x o', call gls tab (k + 3) "_law_junk" [.ref n] h = .ok (.d x) (setO h n o') ∧ Hand (u + 42) o' ∧ isDr x = false := by
  have l : n < h.os.length := (List.getElem?_eq_some_iff.mp e).1
  obtain ⟨y, o1, p1, g1, hy⟩ := s_deep HB (G := gls) (k := k) (h := ⟨h.os, h.os.length⟩) t_g_law_deep e g hu
  obtain ⟨x, hx, o2, p2, g2⟩ := s_some HB (G := gls) (k := k) (h := setO ⟨h.os, h.os.length⟩ n o1) (xs := j13 ++ [y]) (setO_get l) g1 (by omega) (by simp [j13]) (by simp [j13])
  rw [setO_two] at p2
  refine ⟨x, o2, ?_, g2, ?_⟩
  · rw [call_run t_g_law_junk, run_finC rfl rfl]
    have eb : g_law_junk.body = (g_law_junk.body.getD 0 .pass) :: [(.ret (.call "_law_any" [(.var 0), (.bin .add (.var 1) (.lst false [(.call "_law_deep" [(.var 0)])]))]))] := rfl
    rw [eb]
    show finC h (execs gls _ _ (Ev2 (some (.ref n)) none) _) = _
    rw [exs_nx (e1 := (Ev2 (some (.ref n)) (some (.d (.list j13))))) (h1 := ⟨h.os, h.os.length⟩) (by
      have pw : powOk 10 18 = true := by decide
      simp only [g_law_junk, List.getD_cons_zero]
      simp [lnOk, allD, j13, pw])]
    have ad : ∀ h : Hv, op .add (.d (.list j13)) (.d (.list [y])) h = .ok (.d (.list (j13 ++ [y]))) h := fun h => by
      show (if lnOk (j13.length + [y].length) then Res.ok (PV.d (.list (j13 ++ [y]))) h else .bad) = _
      exact if_pos (show lnOk (13 + 1) = true from by decide)
    rw [exs_rt (v := .d x) (h1 := setO ⟨h.os, h.os.length⟩ n o2) (by simp [p1, p2, ad, lnOk, allD])]
    exact finC_d
  · rcases List.mem_append.mp hx with hx | hx
    · exact j13_no x hx
    · simp at hx; rw [hx]; exact hy
def d4D : PyData := .list (ds4.map .str)
/-- what the defs do -/
structure Fx (C : Fns) : Prop where
  di : ∀ x h, C "is_direction" [.d x] h = .ok (.d (.bool (isDr x))) h
  tu : ∀ a ∈ ds4, ∀ h, C "turned" [.d (.str a)] h = .ok (.d (.str (tn a))) h
  lt : ∀ a ∈ ds4, ∀ h, C "_law_turn" [.d (.str a)] h = .ok (.d (.str (tn a))) h
  jo : ∀ a ∈ ds4, ∀ b ∈ ds4, ∀ h, C "joined" [.d (.str a), .d (.str b)] h = .ok (.d (.str (jn a b))) h
  lj : ∀ a ∈ ds4, ∀ b ∈ ds4, ∀ h, C "_law_join" [.d (.str a), .d (.str b)] h = .ok (.d (.str (jn a b))) h
  le : ∀ a ∈ ds4, ∀ b ∈ ds4, ∀ h, C "led" [.d (.str a), .d (.str b)] h = .ok (.d (.str (ld a b))) h
  ll : ∀ a ∈ ds4, ∀ b ∈ ds4, ∀ h, C "_law_lead" [.d (.str a), .d (.str b)] h = .ok (.d (.str (ld a b))) h
  tN : ∀ x, isDr x = false → ∀ h, C "turned" [.d x] h = .exc "NoDirection" [] h
  jN : ∀ x y, isDr x = false → ∀ h, C "joined" [.d x, .d y] h = .exc "NoDirection" [] h
  lN : ∀ a ∈ ds4, ∀ x, isDr x = false → ∀ h, C "led" [.d (.str a), .d x] h = .exc "NoDirection" [] h
  an : ∀ (u : Nat) (o : Ob) (Y : List Ob) (xs : List PyData), Hand u o → u ≤ 1000 → xs ≠ [] → xs.length ≤ 1000 → ∃ x ∈ xs, ∃ o', C "_law_any" [.ref 0, .d (.list xs)] ⟨o :: Y, 0⟩ = .ok (.d x) ⟨o' :: Y, 0⟩ ∧ Hand (u + 1) o'
  ju : ∀ (u : Nat) (o : Ob) (Y : List Ob), Hand u o → u ≤ 1000 → ∃ x o', C "_law_junk" [.ref 0] ⟨o :: Y, 0⟩ = .ok (.d x) ⟨o' :: Y, 0⟩ ∧ Hand (u + 42) o' ∧ isDr x = false
theorem fx (k : Nat) : Fx (call gls tab (k + 10)) where
  di x h := s_is_direction tt_directions (k := k + 9)
  tu a ha h := s_turned tt_directions (k := k + 7) ha
  lt a ha h := by
    rw [show k + 10 = (k + 9) + 1 from rfl, call_run t_g_law_turn]
    rcases ds4_c ha with rfl | rfl | rfl | rfl <;> simp [g_law_turn_B, run, back, tn]
  jo a ha b hb h := s_joined tt_directions (k := k + 7) ha hb
  lj a ha b hb h := by
    rw [show k + 10 = (k + 9) + 1 from rfl, call_run t_g_law_join]
    rcases ds4_c ha with rfl | rfl | rfl | rfl <;> rcases ds4_c hb with rfl | rfl | rfl | rfl <;> simp [g_law_join_B, run, back, jn]
  le a ha b hb h := s_led tt_directions (k := k + 7) ha hb
  ll a ha b hb h := by
    rw [show k + 10 = (k + 9) + 1 from rfl, call_run t_g_law_lead]
    rcases ds4_c ha with rfl | rfl | rfl | rfl <;> rcases ds4_c hb with rfl | rfl | rfl | rfl <;> simp [g_law_lead_B, run, back, ld, in_2, lnOk]
  tN x hx h := s_turned_no tt_directions (k := k + 7) hx
  jN x y hx h := s_joined_no tt_directions (k := k + 7) hx
  lN a ha x hx h := s_led_no tt_directions (k := k + 7) ha hx
  an u o Y xs g hu l0 l1 := by
    obtain ⟨x, hx, o', p, g'⟩ := s_some HB (G := gls) (k := k + 8) (h := ⟨o :: Y, 0⟩) (n := 0) rfl g (by omega) l0 (by omega)
    exact ⟨x, hx, o', p, g'⟩
  ju u o Y g hu := by
    obtain ⟨x, o', p, g', hx⟩ := s_junk (k := k + 7) (h := ⟨o :: Y, 0⟩) (n := 0) rfl g (by omega)
    exact ⟨x, o', p, g', hx⟩
end NC
set_option maxHeartbeats 4000000

/-! The law k31: the walk. -/
namespace NC
open PySem
open L2 (Room)
def forB : S → List S
  | .forS _ _ b => b
  | _ => []
def oB : List S := forB (f_law.body.getD 2 .pass)
def inB : List S := forB (oB.getD 1 .pass)
def lapB : List S := forB (f_law.body.getD 3 .pass)
section
variable {G : Gls} {C : Fns} (F : Fx C)
include F
theorem in_core {s : PV} {v4 v6 v7 v8 : Option PV} {a b : Str} {u : Nat} {o : Ob} {Y : List Ob} (ha : a ∈ ds4) (hb : b ∈ ds4) (g : Hand u o) (hu : u ≤ 1000) :
    ∃ c o', execs G C inB (Ev9 (some s) (some (.ref 0)) (some (.d d4D)) (some (.d (.str a))) v4 (some (.d (.str b))) v6 v7 v8) ⟨o :: Y, 0⟩ = .ok (.nx (Ev9 (some s) (some (.ref 0)) (some (.d d4D)) (some (.d (.str a))) v4 (some (.d (.str b))) (some (.d (.str c))) v7 v8)) ⟨o' :: Y, 0⟩ ∧ Hand (u + 1) o' := by
  obtain ⟨x, hx, o', pa, g'⟩ := F.an u o Y (ds4.map .str) g hu (by simp [ds4]) (by simp [ds4])
  obtain ⟨c, hc, rfl⟩ := List.mem_map.mp hx
  refine ⟨c, o', ?_, g'⟩
  have pa' : C "_law_any" [.ref 0, .d d4D] ⟨o :: Y, 0⟩ = .ok (.d (.str c)) ⟨o' :: Y, 0⟩ := pa
  have eb : inB = (inB.getD 0 .pass) :: (inB.getD 1 .pass) :: (inB.getD 2 .pass) :: (inB.getD 3 .pass) :: (inB.getD 4 .pass) :: (inB.getD 5 .pass) :: (inB.getD 6 .pass) :: [] := rfl
  have ta := tn_in a ha; have tb := tn_in b hb
  have jab := jn_in a ha b hb; have jbc := jn_in b hb c hc; have lab := ld_in a ha b hb; have lac := ld_in a ha c hc
  have j1 := F.jo a ha b hb; have j2 := F.jo b hb a ha; have j3 := F.lj a ha b hb
  have l1 := F.le a ha b hb; have l2 := F.le b hb a ha; have l3 := F.ll a ha b hb
  have t1 := F.tu _ jab; have t2 := F.tu a ha; have t3 := F.tu b hb; have j4 := F.jo _ ta _ tb
  have l4 := F.le _ ta b hb; have t4 := F.tu _ lab
  have j5 := F.jo b hb c hc; have j6 := F.jo a ha _ jbc; have j7 := F.jo _ jab c hc
  have l5 := F.le a ha _ jbc; have l6 := F.le a ha c hc; have j8 := F.jo _ lab _ lac
  have e1 := jn_co a ha b hb; have e2 := ld_co a ha b hb; have e3 := tn_jn a ha b hb; have e4 := tn_ld a ha b hb; have e5 := jn_as a ha b hb c hc; have e6 := ld_jn a ha b hb c hc
  generalize hE : (Ev9 (some s) (some (.ref 0)) (some (.d d4D)) (some (.d (.str a))) v4 (some (.d (.str b))) v6 v7 v8) = E
  have st : ∀ i, i < 4 → exec G C (inB.getD i .pass) E ⟨o :: Y, 0⟩ = .ok (.nx E) ⟨o :: Y, 0⟩ := fun i hi => by
    subst hE
    have : i = 0 ∨ i = 1 ∨ i = 2 ∨ i = 3 := by omega
    rcases this with rfl | rfl | rfl | rfl
    · simp only [inB, oB, f_law, forB, List.getD_cons_succ, List.getD_cons_zero]
      simp [j1, j2, j3, e1]
    · simp only [inB, oB, f_law, forB, List.getD_cons_succ, List.getD_cons_zero]
      simp [l1, l2, l3, e2]
    · simp only [inB, oB, f_law, forB, List.getD_cons_succ, List.getD_cons_zero]
      simp [j1, t1, t2, t3, j4, e3]
    · simp only [inB, oB, f_law, forB, List.getD_cons_succ, List.getD_cons_zero]
      simp [l1, t2, t4, l4, e4]
  rw [eb, exs_nx (st 0 (by decide)), exs_nx (st 1 (by decide)), exs_nx (st 2 (by decide)), exs_nx (st 3 (by decide))]
  subst hE
  rw [exs_nx (e1 := (Ev9 (some s) (some (.ref 0)) (some (.d d4D)) (some (.d (.str a))) v4 (some (.d (.str b))) (some (.d (.str c))) v7 v8)) (h1 := ⟨o' :: Y, 0⟩) (by
    simp only [inB, oB, f_law, forB, List.getD_cons_succ, List.getD_cons_zero]
    simp [pa'])]
  rw [exs_nx (e1 := (Ev9 (some s) (some (.ref 0)) (some (.d d4D)) (some (.d (.str a))) v4 (some (.d (.str b))) (some (.d (.str c))) v7 v8)) (h1 := ⟨o' :: Y, 0⟩) (by
    simp only [inB, oB, f_law, forB, List.getD_cons_succ, List.getD_cons_zero]
    simp [j5, j6, j1, j7, e5])]
  rw [exs_nx (e1 := (Ev9 (some s) (some (.ref 0)) (some (.d d4D)) (some (.d (.str a))) v4 (some (.d (.str b))) (some (.d (.str c))) v7 v8)) (h1 := ⟨o' :: Y, 0⟩) (by
    simp only [inB, oB, f_law, forB, List.getD_cons_succ, List.getD_cons_zero]
    rcases e6 with e6 | e6
    · simp [j5, l5, l1, l6, j8, e6]
    · have any : (a == ("any" : Str) || (b == ("any" : Str) || (c == ("any" : Str) || jn b c == ("any" : Str)))) = true := by
        simp only [List.mem_cons, List.not_mem_nil, or_false] at e6
        rcases e6 with e | e | e | e <;> rw [← e] <;> simp
      have nn := fun h => nin_4 (x := "any") (a := a) (b := b) (c := c) (d := jn b c) (h := h)
      rw [any] at nn
      by_cases q : ld a (jn b c) = jn (ld a b) (ld a c)
      · simp [j5, l5, l1, l6, j8, q]
      · simp [j5, l5, l1, l6, j8, q, nn, mkTup, allD, lnOk])]
  rw [exs_nil]
theorem o_core {s : PV} {v4 v5 v6 v7 v8 : Option PV} {a : Str} {u : Nat} {o : Ob} {Y : List Ob} (ha : a ∈ ds4) (g : Hand u o) (hu : u ≤ 900) :
    ∃ v5' v6' o', execs G C oB (Ev9 (some s) (some (.ref 0)) (some (.d d4D)) (some (.d (.str a))) v4 v5 v6 v7 v8) ⟨o :: Y, 0⟩ = .ok (.nx (Ev9 (some s) (some (.ref 0)) (some (.d d4D)) (some (.d (.str a))) v4 v5' v6' v7 v8)) ⟨o' :: Y, 0⟩ ∧ Hand (u + 4) o' := by
  obtain ⟨e', h', q, w5, w6, o', rfl, rfl, g'⟩ := for_run (tg := .var 5) (body := fun e h => execs G C inB e h) (J := 4)
    (P := fun i e h' => ∃ w5 w6 o2, e = (Ev9 (some s) (some (.ref 0)) (some (.d d4D)) (some (.d (.str a))) v4 w5 w6 v7 v8) ∧ h' = ⟨o2 :: Y, 0⟩ ∧ Hand (u + i) o2) (ds4.map fun x => PV.d (.str x)) 0 (Ev9 (some s) (some (.ref 0)) (some (.d d4D)) (some (.d (.str a))) v4 v5 v6 v7 v8) ⟨o :: Y, 0⟩ (by
    rintro y hy i e h' hi ⟨w5, w6, o2, rfl, rfl, g2⟩
    obtain ⟨b, hb, rfl⟩ := List.mem_map.mp hy
    obtain ⟨c, o3, p, g3⟩ := in_core F (G := G) (s := s) (v4 := v4) (v6 := w6) (v7 := v7) (v8 := v8) (Y := Y) ha hb g2 (by omega)
    exact ⟨_, by rw [store_v]; rfl, _, _, p, _, _, o3, rfl, rfl, g3.mono (by omega)⟩) ⟨_, _, o, rfl, rfl, g⟩ (by simp [ds4])
  refine ⟨w5, w6, o', ?_, g'.mono (by simp [ds4])⟩
  have eb : oB = (oB.getD 0 .pass) :: (.forS (.var 5) (.of (.var 2)) inB) :: [] := rfl
  have d1 := F.di (.str a); have t1 := F.tu a ha; have t2 := F.lt a ha; have t3 := F.tu _ (tn_in a ha)
  have i4 : isDr (.str a) = true := by rcases ds4_c ha with rfl | rfl | rfl | rfl <;> decide +kernel
  have tt := tn_tn a ha
  rw [eb]
  rw [exs_nx (e1 := (Ev9 (some s) (some (.ref 0)) (some (.d d4D)) (some (.d (.str a))) v4 v5 v6 v7 v8)) (h1 := ⟨o :: Y, 0⟩) (by
    simp only [oB, f_law, forB, List.getD_cons_succ, List.getD_cons_zero]
    simp [d1, i4, t1, t2, t3, tt])]
  rw [exs_nx (e1 := (Ev9 (some s) (some (.ref 0)) (some (.d d4D)) (some (.d (.str a))) v4 w5 w6 v7 v8)) (h1 := ⟨o' :: Y, 0⟩) (by
    rw [ex_for]
    have wk : walk G C (.of (.var 2)) (Ev9 (some s) (some (.ref 0)) (some (.d d4D)) (some (.d (.str a))) v4 v5 v6 v7 v8) ⟨o :: Y, 0⟩ = .ok ⟨ds4.map fun x => .d (.str x), .no⟩ ⟨o :: Y, 0⟩ := by
      simp [walk, walk1, d4D] <;> rfl
    rw [wk]
    exact q)]
  rw [exs_nil]
theorem l_core {s : PV} {v3 v4 v5 v6 v7 v8 : Option PV} {u : Nat} {o : Ob} {Y : List Ob} (g : Hand u o) (hu : u ≤ 900) :
    ∃ v7' v8' o', execs G C lapB (Ev9 (some s) (some (.ref 0)) (some (.d d4D)) v3 v4 v5 v6 v7 v8) ⟨o :: Y, 0⟩ = .ok (.nx (Ev9 (some s) (some (.ref 0)) (some (.d d4D)) v3 v4 v5 v6 v7' v8')) ⟨o' :: Y, 0⟩ ∧ Hand (u + 44) o' := by
  obtain ⟨y, o1, p1, g1, hy⟩ := F.ju u o Y g (by omega)
  obtain ⟨x, hx, o2, p2, g2⟩ := F.an (u + 42) o1 Y [y, .str "Up", .str "none", .tuple [.str "up"], .int 1, .list [.str "flat"]] g1 (by omega) (by simp) (by simp)
  obtain ⟨z, hz, o3, p3, g3⟩ := F.an (u + 42 + 1) o2 Y (ds4.map .str) g2 (by omega) (by simp [ds4]) (by simp [ds4])
  obtain ⟨c, hc, rfl⟩ := List.mem_map.mp hz
  have p3' : C "_law_any" [.ref 0, .d d4D] ⟨o2 :: Y, 0⟩ = .ok (.d (.str c)) ⟨o3 :: Y, 0⟩ := p3
  have xn : isDr x = false := by
    simp only [List.mem_cons, List.not_mem_nil, or_false] at hx
    rcases hx with rfl | rfl | rfl | rfl | rfl | rfl
    · exact hy
    all_goals decide +kernel
  refine ⟨some (.d x), some (.d (.str c)), o3, ?_, g3⟩
  have eb : lapB = (lapB.getD 0 .pass) :: (lapB.getD 1 .pass) :: (lapB.getD 2 .pass) :: (lapB.getD 3 .pass) :: [] := rfl
  have d1 := F.di x; have t1 := F.tN x xn; have t2 := fun y => F.jN x y xn; have t3 := F.lN c hc x xn
  have sd : ∀ h : Hv, saidR sd_law_said (.exc "NoDirection" [] h) = .ok (.d (.str "NoDirection")) h := fun h => saidR_exc (by decide +kernel) (by decide +kernel)
  have ss : (("NoDirection" : Str) == "NoDirection") = true := by simp
  rw [eb]
  rw [exs_nx (e1 := (Ev9 (some s) (some (.ref 0)) (some (.d d4D)) v3 v4 v5 v6 (some (.d x)) (some (.d (.str c))))) (h1 := ⟨o3 :: Y, 0⟩) (by
    simp only [lapB, f_law, forB, List.getD_cons_succ, List.getD_cons_zero]
    have st : ∀ h : Hv, storeH (.tup [.var 7, .var 8]) (.d (.tuple [x, .str c])) (Ev9 (some s) (some (.ref 0)) (some (.d d4D)) v3 v4 v5 v6 v7 v8) h = some (Ev9 (some s) (some (.ref 0)) (some (.d d4D)) v3 v4 v5 v6 (some (.d x)) (some (.d (.str c)))) := fun h => rfl
    simp [p1, p2, p3', lnOk, allD, st])]
  rw [exs_nx (e1 := (Ev9 (some s) (some (.ref 0)) (some (.d d4D)) v3 v4 v5 v6 (some (.d x)) (some (.d (.str c))))) (h1 := ⟨o3 :: Y, 0⟩) (by
    simp only [lapB, f_law, forB, List.getD_cons_succ, List.getD_cons_zero]
    simp [d1, xn, t1, sd])]
  rw [exs_nx (e1 := (Ev9 (some s) (some (.ref 0)) (some (.d d4D)) v3 v4 v5 v6 (some (.d x)) (some (.d (.str c))))) (h1 := ⟨o3 :: Y, 0⟩) (by
    simp only [lapB, f_law, forB, List.getD_cons_succ, List.getD_cons_zero]
    simp [t2, sd])]
  rw [exs_nx (e1 := (Ev9 (some s) (some (.ref 0)) (some (.d d4D)) v3 v4 v5 v6 (some (.d x)) (some (.d (.str c))))) (h1 := ⟨o3 :: Y, 0⟩) (by
    simp only [lapB, f_law, forB, List.getD_cons_succ, List.getD_cons_zero]
    simp [t3, sd])]
  rw [exs_nil]
end
def depth : Nat := 12
theorem law_room : Room (rho Ds "law" depth) callerA := by
  have e : rho Ds "law" depth = 26 := by decide +kernel
  rw [e]
  exact ⟨rfl, by decide, by decide⟩
theorem law_in : ("law" : Str) ∈ Ds.fns := by decide
theorem hand_is : tab "_law_hand" = some (handB 6001) := t_g_law_hand
theorem law_is (ns : List Int) (hn : ns.length ≤ 63) (hb : ∀ z ∈ ns, Builtin.Int.intBits z ≤ 1048576) : ∃ h, call gls tab depth "law" [.scr (ns.map .int)] h00 = .ok (.d (.bool true)) h := by
  obtain ⟨o, p, g⟩ := s_handB (G := gls) (k := 10) hand_is hn hb (by decide) (by decide)
  have F : Fx (call gls tab 11) := fx 1
  have er : ∀ vs, call gls tab depth "law" vs h00 = run gls (call gls tab 11) f_law vs h00 := fun vs => by rw [show depth = 11 + 1 from rfl, call_run t_f_law]
  rw [er]
  generalize call gls tab 11 = C at F p
  generalize PV.scr (ns.map .int) = s at p
  obtain ⟨e1, h1, q1, w3, w4, w5, w6, w7, w8, o1, rfl, rfl, g1⟩ := for_run (tg := .var 3) (body := fun e h => execs gls C oB e h) (J := 4)
    (P := fun i e h' => ∃ w3 w4 w5 w6 w7 w8 o2, e = (Ev9 (some s) (some (.ref 0)) (some (.d d4D)) w3 w4 w5 w6 w7 w8) ∧ h' = ⟨[o2], 0⟩ ∧ Hand (4 * i) o2) (ds4.map fun x => PV.d (.str x)) 0 (Ev9 (some s) (some (.ref 0)) (some (.d d4D)) none none none none none none) ⟨[o], 0⟩ (by
    rintro y hy i e h' hi ⟨w3, w4, w5, w6, w7, w8, o2, rfl, rfl, g2⟩
    obtain ⟨a, ha, rfl⟩ := List.mem_map.mp hy
    obtain ⟨v5, v6, o3, p, g3⟩ := o_core F (G := gls) (s := s) (v4 := w4) (v5 := w5) (v6 := w6) (v7 := w7) (v8 := w8) (Y := []) ha g2 (by omega)
    exact ⟨_, by rw [store_v]; rfl, _, _, p, _, _, _, _, _, _, o3, rfl, rfl, g3.mono (by omega)⟩) ⟨_, _, _, _, _, _, o, rfl, rfl, g⟩ (by simp [ds4])
  obtain ⟨e2, h2, q2, x3, x4, x5, x6, x7, x8, o2, rfl, rfl, g2⟩ := for_run (tg := .var 4) (body := fun e h => execs gls C lapB e h) (J := 6)
    (P := fun i e h' => ∃ w3 w4 w5 w6 w7 w8 o2, e = (Ev9 (some s) (some (.ref 0)) (some (.d d4D)) w3 w4 w5 w6 w7 w8) ∧ h' = ⟨[o2], 0⟩ ∧ Hand (16 + 44 * i) o2) (rngs 0 6) 0 (Ev9 (some s) (some (.ref 0)) (some (.d d4D)) w3 w4 w5 w6 w7 w8) ⟨[o1], 0⟩ (by
    rintro y hy i e h' hi ⟨w3, w4, w5, w6, w7, w8, o2, rfl, rfl, g2⟩
    obtain ⟨v7, v8, o3, p, g3⟩ := l_core F (G := gls) (s := s) (v3 := w3) (v4 := some y) (v5 := w5) (v6 := w6) (v7 := w7) (v8 := w8) (Y := []) g2 (by omega)
    exact ⟨_, by rw [store_v]; rfl, _, _, p, _, _, _, _, _, _, o3, rfl, rfl, g3.mono (by omega)⟩) ⟨_, _, _, _, _, _, o1, rfl, rfl, g1.mono (by simp [ds4])⟩ (by rw [rngs_len]; decide)
  refine ⟨⟨[], 0⟩, ?_⟩
  rw [run_finC rfl rfl]
  have eb : f_law.body = (.asg (.var 1) (.call "_law_hand" [(.var 0)])) :: (f_law.body.getD 1 .pass) :: (.forS (.var 3) (.of (.var 2)) oB) :: (.forS (.var 4) (.range1 (.cst (.int 6))) lapB) :: [(.ret (.cst (.bool true)))] := rfl
  rw [eb]
  show finC h00 (execs gls C _ (Ev9 (some s) none none none none none none none none) h00) = _
  rw [exs_nx (e1 := (Ev9 (some s) (some (.ref 0)) none none none none none none none)) (h1 := ⟨[o], 0⟩) (by simp [p])]
  rw [exs_nx (e1 := (Ev9 (some s) (some (.ref 0)) (some (.d d4D)) none none none none none none)) (h1 := ⟨[o], 0⟩) (by
    simp only [f_law, List.getD_cons_succ, List.getD_cons_zero]
    simp [lnOk, allD, d4D, ds4])]
  rw [exs_nx (e1 := (Ev9 (some s) (some (.ref 0)) (some (.d d4D)) w3 w4 w5 w6 w7 w8)) (h1 := ⟨[o1], 0⟩) (by
    rw [ex_for]
    have wk : walk gls C (.of (.var 2)) (Ev9 (some s) (some (.ref 0)) (some (.d d4D)) none none none none none none) ⟨[o], 0⟩ = .ok ⟨ds4.map fun x => .d (.str x), .no⟩ ⟨[o], 0⟩ := by
      simp [walk, walk1, d4D] <;> rfl
    rw [wk]
    exact q1)]
  rw [exs_nx (e1 := (Ev9 (some s) (some (.ref 0)) (some (.d d4D)) x3 x4 x5 x6 x7 x8)) (h1 := ⟨[o2], 0⟩) (by
    rw [ex_for, walk_r1 (i := 6) (h1 := ⟨[o1], 0⟩) (by simp) (by decide)]
    exact q2)]
  simp [finC, back, h00]
end NC
open PySem PySem.W PyProof.Rows
set_option maxRecDepth 100000 in
set_option maxHeartbeats 0 in
theorem PySem.Challenge.cw_nocliff_k31_directions_put_together_holds : PySem.Challenge.rw_nocliff_k31_directions_put_together.Holds := by
  w_on; o_law; k_head; (case hw => w_witness2)
  k_fill
  refine NC.the_end (k := NC.depth) (D := NC.Ds) (Gs := NC.gls) (T := NC.tab) (l := PySem.Challenge.rw_nocliff_k31_directions_put_together) rfl (by decide) rfl NC.law_in NC.law_room (fun w h Y => PySem.W.km_in_of Y) ?F ?L ?R NC.law_is
  case F =>
    intro w mg h KX N
    refine' NC.module_is KX N ?a0 ?l0 ?d0 ?k0 ?a1 ?l1 ?d1 ?k1 ?a2 ?l2 ?d2 ?k2 ?a3 ?l3 ?d3 ?k3 ?a4 ?l4 ?d4 ?k4 ?a5 ?l5 ?d5 ?k5 ?a6 ?l6 ?d6 ?k6 ?a7 ?l7 ?d7 ?k7 ?a8 ?l8 ?d8 ?k8 ?a9 ?l9 ?d9 ?k9 ?a10 ?l10 ?d10 ?k10 ?a11 ?l11 ?d11 ?k11 ?a12 ?l12 ?d12 ?k12 ?a13 ?l13 ?d13 ?k13 ?a14 ?l14 ?d14 ?k14 ?a15 ?l15 ?d15 ?k15 ?a16 ?l16 ?d16 ?k16 ?b0 ?b1 ?b2 ?b3 ?b4 ?b5 ?b6 ?b7 ?b8 ?b9 ?b10 ?b11 ?b12 ?b13 ?b14 ?b15 ?b16 ?b17 ?b18 ?b19 ?x0 ?xe0 ?xk0 ?xs0 ?xt0 ?gi0 ?gi1 ?gi2 ?gi3 ?gt_DIRECTIONS ?tl_DIRECTIONS ?sa0 ?sl_0 ?sd_0 ?sk_0 ?hx0 ?hs0 ?ht0 ?hx1 ?hs1 ?ht1 ?hx2 ?hs2 ?ht2 ?hx3 ?hs3 ?ht3 ?hx4 ?hs4 ?ht4 ?hx5 ?hs5 ?ht5 ?hx6 ?hs6 ?ht6 ?hx7 ?hs7 ?ht7 ?hx8 ?hs8 ?ht8 ?hx9 ?hs9 ?ht9 ?pp0_NoDirection_0 ?pp0_NoDirection_1 ?pp0_NoDirection_2 ?pp0_NoDirection_3 ?pp0_NoDirection_4 ?pp0_NoDirection_5 ?pp0_NoDirection_6 ?pp0_NoDirection_7 ?pp0_NoDirection_8 ?pp0_NoDirection_9 ?pp0_NoDirection_10
    case gt_DIRECTIONS => k_is
    case a0 => k_is
    case l0 => k_is
    case d0 => k_is
    case k0 => k_is
    case a1 => k_is
    case l1 => k_is
    case d1 => k_is
    case k1 => k_is
    case a2 => k_is
    case l2 => k_is
    case d2 => k_is
    case k2 => k_is
    case a3 => k_is
    case l3 => k_is
    case d3 => k_is
    case k3 => k_is
    case a4 => k_is
    case l4 => k_is
    case d4 => k_is
    case k4 => k_is
    case a5 => k_is
    case l5 => k_is
    case d5 => k_is
    case k5 => k_is
    case a6 => k_is
    case l6 => k_is
    case d6 => k_is
    case k6 => k_is
    case a7 => k_is
    case l7 => k_is
    case d7 => k_is
    case k7 => k_is
    case a8 => k_is
    case l8 => k_is
    case d8 => k_is
    case k8 => k_is
    case a9 => k_is
    case l9 => k_is
    case d9 => k_is
    case k9 => k_is
    case a10 => k_is
    case l10 => k_is
    case d10 => k_is
    case k10 => k_is
    case a11 => k_is
    case l11 => k_is
    case d11 => k_is
    case k11 => k_is
    case a12 => k_is
    case l12 => k_is
    case d12 => k_is
    case k12 => k_is
    case a13 => k_is
    case l13 => k_is
    case d13 => k_is
    case k13 => k_is
    case a14 => k_is
    case l14 => k_is
    case d14 => k_is
    case k14 => k_is
    case a15 => k_is
    case l15 => k_is
    case d15 => k_is
    case k15 => k_is
    case a16 => k_is
    case l16 => k_is
    case d16 => k_is
    case k16 => k_is
    case b0 => k_is
    case b1 => k_is
    case b2 => k_is
    case b3 => k_is
    case b4 => k_is
    case b5 => k_is
    case b6 => k_is
    case b7 => k_is
    case b8 => k_is
    case b9 => k_is
    case b10 => k_is
    case b11 => k_is
    case b12 => k_is
    case b13 => k_is
    case b14 => k_is
    case b15 => k_is
    case b16 => k_is
    case b17 => k_is
    case b18 => k_is
    case b19 => k_is
    case x0 => k_is
    case xe0 => k_exc
    case xk0 => k_is
    case xs0 => k_is
    case xt0 => k_is
    case gi0 => k_is
    case gi1 => k_is
    case gi2 => k_is
    case gi3 => k_is
    case tl_DIRECTIONS => k_is
    case sa0 => k_is
    case sl_0 => k_is
    case sd_0 => k_is
    case sk_0 => k_is
    case hx0 => k_is
    case hs0 => k_is
    case ht0 => k_is
    case hx1 => k_is
    case hs1 => k_is
    case ht1 => k_is
    case hx2 => k_is
    case hs2 => k_is
    case ht2 => k_is
    case hx3 => k_is
    case hs3 => k_is
    case ht3 => k_is
    case hx4 => k_is
    case hs4 => k_is
    case ht4 => k_is
    case hx5 => k_is
    case hs5 => k_is
    case ht5 => k_is
    case hx6 => k_is
    case hs6 => k_is
    case ht6 => k_is
    case hx7 => k_is
    case hs7 => k_is
    case ht7 => k_is
    case hx8 => k_is
    case hs8 => k_is
    case ht8 => k_is
    case hx9 => k_is
    case hs9 => k_is
    case ht9 => k_is
    case pp0_NoDirection_0 => k_is
    case pp0_NoDirection_1 => k_is
    case pp0_NoDirection_2 => k_is
    case pp0_NoDirection_3 => k_is
    case pp0_NoDirection_4 => k_is
    case pp0_NoDirection_5 => k_is
    case pp0_NoDirection_6 => k_is
    case pp0_NoDirection_7 => k_is
    case pp0_NoDirection_8 => k_is
    case pp0_NoDirection_9 => k_is
    case pp0_NoDirection_10 => k_is
  case L =>
    intro w mg h KX N
    refine' NC.lam_is KX N ?a0 ?l0 ?q0 ?c_0 ?m0 ?p0 ?n0 ?nd
    case a0 => k_is
    case l0 => k_is
    case q0 => rfl
    case c_0 => rfl
    case m0 => k_is
    case p0 => rfl
    case n0 => rfl
    case nd => decide
  case R => rfl
