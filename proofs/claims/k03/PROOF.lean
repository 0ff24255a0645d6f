import PyProof.Rows.All
import Wide.All
import OpenK.AllK
import Wide.FinOn
import HandS.ForSpec
import HandS.Wide
import HandS.WideBits
import HandS.IsInst
import HandS.ForMost
import HandS.TryMany
import HandS.Style
import HandS.TupMul
import HandS.TupAny
import HandS.TupLe
import HandS.Zip
import HandS.Deep
import HandS.NoneIn
import HandS.EndBits
import PySem.Challenge.RW_nocliff_k03_whole_points_and_boxes
set_option Elab.async false
set_option linter.all false
set_option maxRecDepth 100000
set_option maxHeartbeats 2000000
/-! Semantics: values, a small syntax, its evaluator. -/
namespace NC
open PySem

/-- a value: data (never changed), an object of the small heap, a tuple that holds what is no data, a def, the script -/
inductive PV where
  | d (x : PyData)
  | ref (n : Nat)
  | tup (xs : List PV)
  | fn (x : Str)
  | scr (xs : List PyData)
/-- an object that may change -/
inductive Ob where
  | lst (xs : List PyData)
  | ins (c : Str) (fs : List (Str × PV))
structure Hv where
  os : List Ob
  lim : Nat
inductive Res (α : Type) where
  | ok (a : α) (h : Hv)
  | exc (c : Str) (fs : List (Str × PyData)) (h : Hv)
  | bad
def Res.bind {α β : Type} (r : Res α) (f : α → Hv → Res β) : Res β :=
  match r with
  | .ok a h => f a h
  | .exc c fs h => .exc c fs h
  | .bad => .bad
@[simp] theorem Res.bind_ok {α β : Type} (a : α) (h : Hv) (f : α → Hv → Res β) : Res.bind (.ok a h) f = f a h := rfl
@[simp] theorem Res.bind_exc {α β : Type} (c : Str) (fs) (h : Hv) (f : α → Hv → Res β) : Res.bind (.exc c fs h) f = .exc c fs h := rfl
@[simp] theorem Res.bind_bad {α β : Type} (f : α → Hv → Res β) : Res.bind (.bad : Res α) f = .bad := rfl

abbrev Env := List (Option PV)
inductive Op where
  | add | sub | mul | fdiv | mod | pow
  deriving DecidableEq
inductive Cm where
  | eq | ne | lt | le | gt | ge | is | isn | inn | nin
  deriving DecidableEq
/-- types that isinstance is asked about -/
inductive Ty where
  | int | bool | str | tuple | list | dict
  deriving DecidableEq
/-- built-in functions by name -/
inductive Bi where
  | abs | len | int | repr | all | any | tuple | list
  deriving DecidableEq
/-- targets -/
inductive Tg where
  | var (i : Nat)
  | tup (ts : List Tg)
mutual
def Tg.vars : Tg → List Nat
  | .var i => [i]
  | .tup ts => Tg.varsL ts
def Tg.varsL : List Tg → List Nat
  | [] => []
  | t :: ts => t.vars ++ Tg.varsL ts
end
mutual
inductive E where
  | cst (c : PyData)
  | var (i : Nat)
  | glb (x : Str)
  | bin (o : Op) (a b : E)
  | neg (a : E)
  | not (a : E)
  | and (a b : E)
  | or (a b : E)
  | cmp (o : Cm) (a b : E)
  | cmp2 (o o' : Cm) (a b c : E)
  | ite (c a b : E)
  | call (x : Str) (es : List E)
  | callv (f : E) (es : List E)
  | bi (b : Bi) (a : E)
  | isi (t : Ty) (a : E)
  | tup (es : List E)
  | lst (m : Bool) (es : List E)
  | ix (a i : E)
  | slc (a : E) (lo hi : Option E)
  | comp (own : List Nat) (elt : E) (tg : Tg) (it : It) (cond : Option E)
  | meth (a : E) (m : Str) (es : List E)
inductive It where
  | of (a : E)
  | range1 (a : E)
  | range2 (a b : E)
  | zip2 (a b : E)
  | enum (a : E)
end
inductive S where
  | ret (e : E)
  | retN
  | asg (tg : Tg) (e : E)
  | par (i j : Nat) (a b : E)
  | setI (o i e : E)
  | aug (i : Nat) (op : Op) (e : E)
  | expr (e : E)
  | ifS (c : E) (a b : List S)
  | forS (tg : Tg) (it : It) (body : List S)
  | whileS (c : E) (body : List S)
  | raiseS (c : Str) (es : List E)
  | pass | brk | ct
inductive Flow where
  | nx (e : Env)
  | ret (v : PV)
  | brk (e : Env)
  | ct (e : Env)

/-! ### values -/
def isD : PV → Option PyData
  | .d x => some x
  | _ => none
def allD : List PV → Option (List PyData)
  | [] => some []
  | .d x :: r => (allD r).map (x :: ·)
  | _ :: _ => none
@[simp] theorem allD_nil : allD [] = some [] := rfl
@[simp] theorem allD_d (x : PyData) (r : List PV) : allD (.d x :: r) = (allD r).map (x :: ·) := rfl
@[simp] theorem allD_map (xs : List PyData) : allD (xs.map PV.d) = some xs := by
  induction xs with
  | nil => rfl
  | cons x xs ih => simp [ih]
def mkTup (vs : List PV) : PV :=
  match allD vs with
  | some ds => .d (.tuple ds)
  | none => .tup vs
@[simp] theorem mkTup_nil : mkTup [] = .d (.tuple []) := rfl
@[simp] theorem mkTup_map (ds : List PyData) : mkTup (ds.map PV.d) = .d (.tuple ds) := by simp [mkTup]
/-- an int is not so great that the machine stops at a product or a quotient -/
def szOk (i : Int) : Bool := decide (i.natAbs.log2 < 60000000)
def dvOk (i : Int) : Bool := decide (i ≠ 0) && decide (i.natAbs.log2 < 8999)
def powOk (i j : Int) : Bool := decide (0 ≤ j) && decide (j ≤ 1000000) && decide (i.natAbs.log2 < 63)
def lnOk (n : Nat) : Bool := decide (n ≤ 16777216)
def op (o : Op) (x y : PV) (h : Hv) : Res PV :=
  match o, x, y with
  | .add, .d (.int i), .d (.int j) => .ok (.d (.int (i + j))) h
  | .sub, .d (.int i), .d (.int j) => .ok (.d (.int (i - j))) h
  | .mul, .d (.int i), .d (.int j) => if szOk i && szOk j then .ok (.d (.int (i * j))) h else .bad
  | .fdiv, .d (.int i), .d (.int j) => if dvOk j then .ok (.d (.int (i.fdiv j))) h else .bad
  | .mod, .d (.int i), .d (.int j) => if decide (j ≠ 0) then .ok (.d (.int (i.fmod j))) h else .bad
  | .pow, .d (.int i), .d (.int j) => if powOk i j then .ok (.d (.int (i ^ j.toNat))) h else .bad
  | .add, .d (.str a), .d (.str b) => if lnOk (a.length + b.length) then .ok (.d (.str (a ++ b))) h else .bad
  | .add, .d (.tuple a), .d (.tuple b) => if lnOk (a.length + b.length) then .ok (.d (.tuple (a ++ b))) h else .bad
  | .add, .d (.list a), .d (.list b) => if lnOk (a.length + b.length) then .ok (.d (.list (a ++ b))) h else .bad
  | _, _, _ => .bad
/-- x op= y -/
def augop (o : Op) (x y : PV) (h : Hv) : Res PV :=
  match o, x, y with
  | .add, .d (.int i), .d (.int j) => .ok (.d (.int (i + j))) h
  | .sub, .d (.int i), .d (.int j) => .ok (.d (.int (i - j))) h
  | .add, .d (.str a), .d (.str b) => if lnOk (a.length + b.length) then .ok (.d (.str (a ++ b))) h else .bad
  | _, _, _ => .bad
def flatD : PyData → Bool
  | .none | .bool _ | .int _ | .str _ => true
  | _ => false
def bothStr : PyData → PyData → Bool
  | .str _, .str _ => true
  | _, _ => false
def eqOk (x y : PyData) : Bool := bothStr x y || (SeqAt.shaped x && SeqAt.shaped y)
def itemsD : PyData → Option (List PyData)
  | .list xs => some xs
  | .tuple xs => some xs
  | _ => none
def cm (o : Cm) (x y : PV) (h : Hv) : Res PV :=
  match o, x, y with
  | .eq, .d a, .d b => if eqOk a b then .ok (.d (.bool (PyData.eqv a b))) h else .bad
  | .ne, .d a, .d b => if eqOk a b then .ok (.d (.bool (!PyData.eqv a b))) h else .bad
  | .lt, .d (.int i), .d (.int j) => .ok (.d (.bool (decide (i < j)))) h
  | .le, .d (.int i), .d (.int j) => .ok (.d (.bool (decide (i ≤ j)))) h
  | .gt, .d (.int i), .d (.int j) => .ok (.d (.bool (decide (j < i)))) h
  | .ge, .d (.int i), .d (.int j) => .ok (.d (.bool (decide (j ≤ i)))) h
  | .is, .d (.bool a), .d (.bool b) => .ok (.d (.bool (a == b))) h
  | .isn, .d (.bool a), .d (.bool b) => .ok (.d (.bool (!(a == b)))) h
  | .inn, .d a, .d b => match itemsD b with
    | some xs => if flatD a && xs.all flatD then .ok (.d (.bool (xs.any fun y => PyData.eqv y a))) h else .bad
    | none => .bad
  | .nin, .d a, .d b => match itemsD b with
    | some xs => if flatD a && xs.all flatD then .ok (.d (.bool (!xs.any fun y => PyData.eqv y a))) h else .bad
    | none => .bad
  | _, _, _ => .bad
def isTy (t : Ty) : PyData → Bool
  | .none => false
  | .bool _ => t == .bool || t == .int
  | .int _ => t == .int
  | .str _ => t == .str
  | .tuple _ => t == .tuple
  | .list _ => t == .list
  | .dict _ => t == .dict
def allB : List PyData → Option (List Bool)
  | [] => some []
  | .bool b :: r => (allB r).map (b :: ·)
  | _ :: _ => none
@[simp] theorem allB_map (bs : List Bool) : allB (bs.map PyData.bool) = some bs := by
  induction bs with
  | nil => rfl
  | cons b bs ih => simp [allB, ih]
def bi (b : Bi) (x : PV) (h : Hv) : Res PV :=
  match b, x with
  | .abs, .d (.int i) => .ok (.d (.int (if i < 0 then -i else i))) h
  | .len, .d (.str z) => if lnOk z.length then .ok (.d (.int z.length)) h else .bad
  | .len, .d (.tuple xs) => .ok (.d (.int xs.length)) h
  | .len, .d (.list xs) => .ok (.d (.int xs.length)) h
  | .len, .scr xs => .ok (.d (.int xs.length)) h
  | .len, .ref n => match h.os[n]? with
    | some (.lst xs) => .ok (.d (.int xs.length)) h
    | _ => .bad
  | .int, .d (.int i) => .ok (.d (.int i)) h
  | .int, .d (.bool b) => .ok (.d (.int (if b then 1 else 0))) h
  | .repr, .d x => if (itemsD x).isSome && SeqAt.shaped x && x.showable && lnOk x.shown.length then .ok (.d (.str x.shown)) h else .bad
  | .all, .d (.list xs) => match allB xs with
    | some bs => .ok (.d (.bool (bs.all id))) h
    | none => .bad
  | .any, .d (.list xs) => match allB xs with
    | some bs => .ok (.d (.bool (bs.any id))) h
    | none => .bad
  | .tuple, .d (.list xs) => .ok (.d (.tuple xs)) h
  | .tuple, .d (.tuple xs) => .ok (.d (.tuple xs)) h
  | .list, .d (.list xs) => .ok (.d (.list xs)) h
  | .list, .d (.tuple xs) => .ok (.d (.list xs)) h
  | .tuple, .ref n => match h.os[n]? with
    | some (.lst xs) => .ok (.d (.tuple xs)) h
    | _ => .bad
  | .list, .ref n => match h.os[n]? with
    | some (.lst xs) => .ok (.d (.list xs)) h
    | _ => .bad
  | _, _ => .bad
def ixD {α : Type} (xs : List α) (i : Int) : Option α := L2.atI xs i
def ix (x i : PV) (h : Hv) : Res PV :=
  match x, i with
  | .d (.tuple xs), .d (.int i) => match L2.atI xs i with
    | some v => .ok (.d v) h
    | none => .bad
  | .d (.list xs), .d (.int i) => match L2.atI xs i with
    | some v => .ok (.d v) h
    | none => .bad
  | .d (.str z), .d (.int i) => if lnOk z.length then (match L2.atI z.cps.toList i with
    | some c => .ok (.d (.str ⟨#[c]⟩)) h
    | none => .bad) else .bad
  | .ref n, .d (.int i) => match h.os[n]? with
    | some (.lst xs) => match L2.atI xs i with
      | some v => .ok (.d v) h
      | none => .bad
    | _ => .bad
  | _, _ => .bad
def cut {α : Type} (xs : List α) (lo hi : Option Int) : List α := (xs.drop (HT.sIx xs.length 0 lo)).take (HT.sIx xs.length xs.length hi - HT.sIx xs.length 0 lo)
def slc (x : PV) (lo hi : Option Int) (h : Hv) : Res PV :=
  match x with
  | .d (.tuple xs) => .ok (.d (.tuple (cut xs lo hi))) h
  | .d (.list xs) => .ok (.d (.list (cut xs lo hi))) h
  | .scr xs => .ok (.d (.list (cut xs lo hi))) h
  | .ref n => match h.os[n]? with
    | some (.lst xs) => .ok (.d (.list (cut xs lo hi))) h
    | _ => .bad
  | _ => .bad
def newO (o : Ob) (h : Hv) : Res PV := .ok (.ref h.os.length) { h with os := h.os ++ [o] }
def setO (h : Hv) (n : Nat) (o : Ob) : Hv := { h with os := h.os.set n o }
def setI (x i v : PV) (h : Hv) : Res PV :=
  match x, i, v with
  | .ref n, .d (.int i), .d v => match h.os[n]? with
    | some (.lst xs) => match L2.ixN xs.length i with
      | some j => .ok (.d .none) (setO h n (.lst (xs.set j v)))
      | none => .bad
    | _ => .bad
  | _, _, _ => .bad
def meth (m : Str) (x : PV) (vs : List PV) (h : Hv) : Res PV :=
  match x with
  | .ref n => match h.os[n]? with
    | some (.lst xs) =>
      if m = "append" then (match vs with
        | [.d v] => if lnOk (xs.length + 1) then .ok (.d .none) (setO h n (.lst (xs ++ [v]))) else .bad
        | _ => .bad)
      else if m = "extend" then (match vs with
        | [.d (.list ys)] => if lnOk (xs.length + ys.length) then .ok (.d .none) (setO h n (.lst (xs ++ ys))) else .bad
        | _ => .bad)
      else if m = "pop" then (match vs with
        | [] => match xs[xs.length - 1]? with
          | some y => .ok (.d y) (setO h n (.lst xs.dropLast))
          | none => .bad
        | _ => .bad)
      else .bad
    | _ => .bad
  | _ => .bad

def isLst (x : PV) (h : Hv) : Bool := match x with
  | .ref n => match h.os[n]? with
    | some (.lst _) => true
    | _ => false
  | _ => false

/-! ### targets, walks -/
mutual
def store : Tg → PV → Env → Option Env
  | .var i, v, e => if i < e.length then some (e.set i (some v)) else none
  | .tup ts, .d (.tuple xs), e => storeD ts xs e
  | .tup ts, .d (.list xs), e => storeD ts xs e
  | .tup ts, .tup vs, e => storeP ts vs e
  | .tup _, _, _ => none
def storeD : List Tg → List PyData → Env → Option Env
  | [], [], e => some e
  | t :: ts, x :: xs, e => (store t (.d x) e).bind fun e1 => storeD ts xs e1
  | _, _, _ => none
def storeP : List Tg → List PV → Env → Option Env
  | [], [], e => some e
  | t :: ts, x :: xs, e => (store t x e).bind fun e1 => storeP ts xs e1
  | _, _, _ => none
end
/-- the same from a list that may change -/
def storeH (tg : Tg) (x : PV) (e : Env) (h : Hv) : Option Env :=
  match tg, x with
  | .tup ts, .ref n => (match h.os[n]? with
    | some (.lst xs) => storeD ts xs e
    | _ => none)
  | tg, x => store tg x e
def wipe : Env → List Nat → Env
  | e, [] => e
  | e, v :: vs => (wipe e vs).set v none
/-- what must stay as it is while it is walked -/
inductive Gd where
  | no
  | obj (n : Nat) (o : Ob)
def Gd.ok : Gd → Hv → Prop
  | .no, _ => True
  | .obj n o, h => h.os[n]? = some o
structure Walk where
  xs : List PV
  gd : Gd
def rngs (lo : Int) (n : Nat) : List PV := (List.range n).map fun (k : Nat) => PV.d (.int (lo + (k : Int)))
def b62 (i : Int) : Bool := decide (-(2 ^ 62) ≤ i) && decide (i < 2 ^ 62)
def walk1 (x : PV) (h : Hv) : Res Walk :=
  match x with
  | .d (.list xs) => .ok ⟨xs.map PV.d, .no⟩ h
  | .d (.tuple xs) => .ok ⟨xs.map PV.d, .no⟩ h
  | .tup xs => .ok ⟨xs, .no⟩ h
  | .scr xs => .ok ⟨xs.map PV.d, .no⟩ h
  | .ref n => match h.os[n]? with
    | some (.lst xs) => .ok ⟨xs.map PV.d, .obj n (.lst xs)⟩ h
    | _ => .bad
  | _ => .bad
open Classical in
/-- the loop of a for -/
noncomputable def forL (gd : Gd) (tg : Tg) (body : Env → Hv → Res Flow) : List PV → Env → Hv → Res Flow
  | [], e, h => if gd.ok h then .ok (.nx e) h else .bad
  | x :: xs, e, h => if gd.ok h then (match store tg x e with
    | none => .bad
    | some e1 => (body e1 h).bind fun f h1 => match f with
      | .nx e2 => forL gd tg body xs e2 h1
      | .ct e2 => forL gd tg body xs e2 h1
      | .brk e2 => .ok (.nx e2) h1
      | .ret v => .ok (.ret v) h1) else .bad
/-- a test's answer -/
def tst (r : Res PV) (f : Bool → Hv → Res β) : Res β := r.bind fun v h => match v with
  | .d (.bool b) => f b h
  | _ => .bad
@[simp] theorem tst_ok {β : Type} (b : Bool) (h : Hv) (f : Bool → Hv → Res β) : tst (.ok (.d (.bool b)) h) f = f b h := rfl
/-- a while's run of so many turns -/
inductive WRun (t : Env → Hv → Res PV) (b : Env → Hv → Res Flow) : Nat → Env → Hv → Res Flow → Prop
  | done {e h h'} : t e h = .ok (.d (.bool false)) h' → WRun t b 0 e h (.ok (.nx e) h')
  | texc {e h c fs h'} : t e h = .exc c fs h' → WRun t b 0 e h (.exc c fs h')
  | bexc {e h h1 c fs h'} : t e h = .ok (.d (.bool true)) h1 → b e h1 = .exc c fs h' → WRun t b 0 e h (.exc c fs h')
  | ret {e h h1 v h'} : t e h = .ok (.d (.bool true)) h1 → b e h1 = .ok (.ret v) h' → WRun t b 0 e h (.ok (.ret v) h')
  | brk {e h h1 e2 h'} : t e h = .ok (.d (.bool true)) h1 → b e h1 = .ok (.brk e2) h' → WRun t b 0 e h (.ok (.nx e2) h')
  | nx {e h h1 e2 h2 n r} : t e h = .ok (.d (.bool true)) h1 → b e h1 = .ok (.nx e2) h2 → WRun t b n e2 h2 r → WRun t b (n + 1) e h r
  | ct {e h h1 e2 h2 n r} : t e h = .ok (.d (.bool true)) h1 → b e h1 = .ok (.ct e2) h2 → WRun t b n e2 h2 r → WRun t b (n + 1) e h r
open Classical in
noncomputable def whileL (t : Env → Hv → Res PV) (b : Env → Hv → Res Flow) (e : Env) (h : Hv) : Res Flow :=
  if q : ∃ r, ∃ n, WRun t b n e h r then choose q else .bad
theorem WRun.det {t : Env → Hv → Res PV} {b : Env → Hv → Res Flow} : ∀ {n m : Nat} {e : Env} {h : Hv} {r r' : Res Flow}, WRun t b n e h r → WRun t b m e h r' → r = r' := by
  intro n m e h r r' x
  induction x generalizing m r' with
  | done e1 => intro y; cases y <;> simp_all
  | texc e1 => intro y; cases y <;> simp_all
  | bexc e1 e2 => intro y; cases y <;> simp_all
  | ret e1 e2 => intro y; cases y <;> simp_all
  | brk e1 e2 => intro y; cases y <;> simp_all
  | nx e1 e2 _ ih =>
    intro y
    cases y with
    | nx f1 f2 w => rw [e1] at f1; cases f1; rw [e2] at f2; cases f2; exact ih w
    | ct f1 f2 w => rw [e1] at f1; cases f1; rw [e2] at f2; cases f2
    | _ => simp_all
  | ct e1 e2 _ ih =>
    intro y
    cases y with
    | ct f1 f2 w => rw [e1] at f1; cases f1; rw [e2] at f2; cases f2; exact ih w
    | nx f1 f2 w => rw [e1] at f1; cases f1; rw [e2] at f2; cases f2
    | _ => simp_all
theorem whileL_run {t : Env → Hv → Res PV} {b : Env → Hv → Res Flow} {n : Nat} {e : Env} {h : Hv} {r : Res Flow} (x : WRun t b n e h r) : whileL t b e h = r := by
  have q : ∃ r, ∃ n, WRun t b n e h r := ⟨r, n, x⟩
  unfold whileL
  rw [dif_pos q]
  obtain ⟨m, y⟩ := Classical.choose_spec q
  exact y.det x
theorem whileL_bad {t : Env → Hv → Res PV} {b : Env → Hv → Res Flow} {e : Env} {h : Hv} (x : ¬ ∃ r n, WRun t b n e h r) : whileL t b e h = .bad := by
  unfold whileL
  rw [dif_neg x]
theorem whileL_cases (t : Env → Hv → Res PV) (b : Env → Hv → Res Flow) (e : Env) (h : Hv) : (∃ n, WRun t b n e h (whileL t b e h)) ∨ whileL t b e h = .bad := by
  by_cases q : ∃ r, ∃ n, WRun t b n e h r
  · obtain ⟨r, n, x⟩ := q
    exact .inl ⟨n, by rw [whileL_run x]; exact x⟩
  · exact .inr (whileL_bad q)
theorem WRun.ne {t : Env → Hv → Res PV} {b : Env → Hv → Res Flow} {n : Nat} {e : Env} {h : Hv} {r : Res Flow} (x : WRun t b n e h r) : r ≠ .bad := by
  induction x with
  | nx _ _ _ ih => exact ih
  | ct _ _ _ ih => exact ih
  | _ => exact fun z => nomatch z
theorem WRun.not {t : Env → Hv → Res PV} {b : Env → Hv → Res Flow} {n : Nat} {e : Env} {h : Hv} {r : Res Flow} (x : WRun t b n e h r) : whileL t b e h ≠ .bad := by
  rw [whileL_run x]; exact x.ne
/-- one turn -/
theorem whileL_eq (t : Env → Hv → Res PV) (b : Env → Hv → Res Flow) (e : Env) (h : Hv) :
    whileL t b e h = tst (t e h) fun c h1 => if c = true then (b e h1).bind fun f h2 => match f with
      | .nx e2 => whileL t b e2 h2
      | .ct e2 => whileL t b e2 h2
      | .brk e2 => .ok (.nx e2) h2
      | .ret v => .ok (.ret v) h2 else .ok (.nx e) h1 := by
  cases ht : t e h with
  | bad => exact whileL_bad fun ⟨r, n, x⟩ => by cases x <;> simp_all
  | exc c fs h1 => exact whileL_run (.texc ht)
  | ok v h1 =>
    by_cases hv : ∃ c, v = .d (.bool c)
    · obtain ⟨c, rfl⟩ := hv
      cases c with
      | false => exact whileL_run (.done ht)
      | true =>
        show whileL t b e h = (b e h1).bind _
        cases hb : b e h1 with
        | bad => exact whileL_bad fun ⟨r, n, x⟩ => by cases x <;> simp_all
        | exc c fs h2 => exact whileL_run (.bexc ht hb)
        | ok f h2 =>
          cases f with
          | ret v => exact whileL_run (.ret ht hb)
          | brk e2 => exact whileL_run (.brk ht hb)
          | nx e2 =>
            rcases whileL_cases t b e2 h2 with ⟨n, x⟩ | x
            · exact whileL_run (.nx ht hb x)
            · show _ = whileL t b e2 h2
              rw [x]
              refine whileL_bad fun ⟨r, n, y⟩ => ?_
              cases y with
              | nx f1 f2 w => rw [ht] at f1; cases f1; rw [hb] at f2; cases f2; exact w.not x
              | ct f1 f2 w => rw [ht] at f1; cases f1; rw [hb] at f2; cases f2
              | _ => simp_all
          | ct e2 =>
            rcases whileL_cases t b e2 h2 with ⟨n, x⟩ | x
            · exact whileL_run (.ct ht hb x)
            · show _ = whileL t b e2 h2
              rw [x]
              refine whileL_bad fun ⟨r, n, y⟩ => ?_
              cases y with
              | ct f1 f2 w => rw [ht] at f1; cases f1; rw [hb] at f2; cases f2; exact w.not x
              | nx f1 f2 w => rw [ht] at f1; cases f1; rw [hb] at f2; cases f2
              | _ => simp_all
    · have z : ∀ f : Bool → Hv → Res Flow, tst (.ok v h1) f = .bad := by
        intro f
        cases v with
        | d x => cases x <;> first | rfl | exact absurd ⟨_, rfl⟩ hv
        | _ => rfl
      rw [z]
      refine whileL_bad fun ⟨r, n, y⟩ => ?_
      cases y with
      | done q => rw [ht] at q; cases q; exact hv ⟨_, rfl⟩
      | texc q => rw [ht] at q; cases q
      | bexc q _ => rw [ht] at q; cases q; exact hv ⟨_, rfl⟩
      | ret q _ => rw [ht] at q; cases q; exact hv ⟨_, rfl⟩
      | brk q _ => rw [ht] at q; cases q; exact hv ⟨_, rfl⟩
      | nx q _ _ => rw [ht] at q; cases q; exact hv ⟨_, rfl⟩
      | ct q _ _ => rw [ht] at q; cases q; exact hv ⟨_, rfl⟩

/-! ### the evaluator -/
/-- what stands around: the defs by name, one level down -/
abbrev Fns := Str → List PV → Hv → Res PV
/-- constants of the module -/
abbrev Gls := Str → Option PV
def optI : Res (Option PV) → (Option Int → Hv → Res PV) → Res PV := fun r f => r.bind fun o h => match o with
  | none => f none h
  | some (.d (.int i)) => f (some i) h
  | some _ => .bad
open Classical in
/-- the loop of a comprehension -/
noncomputable def compL (gd : Gd) (tg : Tg) (cond : Env → Hv → Res PV) (elt : Env → Hv → Res PV) (e : Env) : List PV → List PyData → Hv → Res PV
  | [], acc, h => if gd.ok h then .ok (.d (.list acc)) h else .bad
  | x :: xs, acc, h => if gd.ok h then (match store tg x e with
    | none => .bad
    | some e1 => tst (cond e1 h) fun b h1 => if b = true then (elt e1 h1).bind fun v h2 => (match v with
        | .d y => if lnOk (acc.length + 1) then compL gd tg cond elt e xs (acc ++ [y]) h2 else .bad
        | _ => .bad) else compL gd tg cond elt e xs acc h1) else .bad
/-- what comes in a comprehension's block may not raise -/
def noexc {α : Type} : Res α → Res α
  | .exc _ _ _ => .bad
  | r => r
mutual
noncomputable def ev (G : Gls) (C : Fns) : E → Env → Hv → Res PV
  | .cst c, _, h => .ok (.d c) h
  | .var i, e, h => match e[i]? with
    | some (some v) => .ok v h
    | _ => .bad
  | .glb x, _, h => match G x with
    | some v => .ok v h
    | none => .bad
  | .bin o a b, e, h => (ev G C a e h).bind fun x h1 => (ev G C b e h1).bind fun y h2 => op o x y h2
  | .neg a, e, h => (ev G C a e h).bind fun x h1 => match x with
    | .d (.int i) => .ok (.d (.int (-i))) h1
    | _ => .bad
  | .not a, e, h => tst (ev G C a e h) fun b h1 => .ok (.d (.bool (!b))) h1
  | .and a b, e, h => tst (ev G C a e h) fun c h1 => if c = true then tst (ev G C b e h1) (fun c h2 => .ok (.d (.bool c)) h2) else .ok (.d (.bool false)) h1
  | .or a b, e, h => tst (ev G C a e h) fun c h1 => if c = true then .ok (.d (.bool true)) h1 else tst (ev G C b e h1) (fun c h2 => .ok (.d (.bool c)) h2)
  | .cmp o a b, e, h => (ev G C a e h).bind fun x h1 => (ev G C b e h1).bind fun y h2 => cm o x y h2
  | .cmp2 o o' a b c, e, h => (ev G C a e h).bind fun x h1 => (ev G C b e h1).bind fun y h2 => tst (cm o x y h2) fun k h3 =>
      if k = true then (ev G C c e h3).bind fun z h4 => cm o' y z h4 else .ok (.d (.bool false)) h3
  | .ite c a b, e, h => tst (ev G C c e h) fun k h1 => if k = true then ev G C a e h1 else ev G C b e h1
  | .call x es, e, h => (evs G C es e h).bind fun vs h1 => C x vs h1
  | .callv f es, e, h => (ev G C f e h).bind fun v h1 => (evs G C es e h1).bind fun vs h2 => match v with
    | .fn x => C x vs h2
    | _ => .bad
  | .bi b a, e, h => (ev G C a e h).bind fun x h1 => bi b x h1
  | .isi t a, e, h => (ev G C a e h).bind fun x h1 => match x with
    | .d y => .ok (.d (.bool (isTy t y))) h1
    | _ => .bad
  | .tup es, e, h => (evs G C es e h).bind fun vs h1 => if lnOk vs.length then .ok (mkTup vs) h1 else .bad
  | .lst m es, e, h => (evs G C es e h).bind fun vs h1 => match allD vs with
    | some ds => if lnOk ds.length then (if m then newO (.lst ds) h1 else .ok (.d (.list ds)) h1) else .bad
    | none => .bad
  | .ix a i, e, h => (ev G C a e h).bind fun x h1 => (ev G C i e h1).bind fun y h2 => ix x y h2
  | .slc a lo hi, e, h => (ev G C a e h).bind fun x h1 => optI (evo G C lo e h1) fun l h2 => optI (evo G C hi e h2) fun r h3 => slc x l r h3
  | .comp own elt tg it cond, e, h => (walk G C it e h).bind fun w h1 =>
      compL w.gd tg (fun e h => noexc (match cond with
        | none => .ok (.d (.bool true)) h
        | some c => ev G C c e h)) (fun e h => noexc (ev G C elt e h)) (wipe e own) w.xs [] h1
  | .meth a m es, e, h => (ev G C a e h).bind fun x h1 => if isLst x h1 then (evs G C es e h1).bind fun vs h2 => meth m x vs h2 else .bad
noncomputable def evs (G : Gls) (C : Fns) : List E → Env → Hv → Res (List PV)
  | [], _, h => .ok [] h
  | a :: r, e, h => (ev G C a e h).bind fun x h1 => (evs G C r e h1).bind fun xs h2 => .ok (x :: xs) h2
noncomputable def evo (G : Gls) (C : Fns) : Option E → Env → Hv → Res (Option PV)
  | none, _, h => .ok none h
  | some a, e, h => (ev G C a e h).bind fun x h1 => .ok (some x) h1
noncomputable def walk (G : Gls) (C : Fns) : It → Env → Hv → Res Walk
  | .of a, e, h => (ev G C a e h).bind fun x h1 => walk1 x h1
  | .range1 a, e, h => (ev G C a e h).bind fun x h1 => match x with
    | .d (.int j) => if b62 j then .ok ⟨rngs 0 j.toNat, .no⟩ h1 else .bad
    | _ => .bad
  | .range2 a b, e, h => (ev G C a e h).bind fun x h1 => (ev G C b e h1).bind fun y h2 => match x, y with
    | .d (.int i), .d (.int j) => if b62 i && b62 j then .ok ⟨rngs i (j - i).toNat, .no⟩ h2 else .bad
    | _, _ => .bad
  | .zip2 a b, e, h => (ev G C a e h).bind fun x h1 => (ev G C b e h1).bind fun y h2 => match x, y with
    | .d (.list xs), .d (.list ys) => .ok ⟨(xs.zip ys).map fun p => .d (.tuple [p.1, p.2]), .no⟩ h2
    | .d (.tuple xs), .d (.tuple ys) => .ok ⟨(xs.zip ys).map fun p => .d (.tuple [p.1, p.2]), .no⟩ h2
    | _, _ => .bad
  | .enum a, e, h => (ev G C a e h).bind fun x h1 => match x with
    | .d (.list xs) => .ok ⟨xs.zipIdx.map fun p => .d (.tuple [.int (p.2 : Nat), p.1]), .no⟩ h1
    | _ => .bad
end
mutual
def S.vars : S → List Nat
  | .asg tg _ => tg.vars
  | .par i j _ _ => [i, j]
  | .aug i _ _ => [i]
  | .ifS _ a b => S.varsL a ++ S.varsL b
  | .forS tg _ b => tg.vars ++ S.varsL b
  | .whileS _ b => S.varsL b
  | _ => []
def S.varsL : List S → List Nat
  | [] => []
  | s :: r => s.vars ++ S.varsL r
end
mutual
noncomputable def exec (G : Gls) (C : Fns) : S → Env → Hv → Res Flow
  | .ret a, e, h => (ev G C a e h).bind fun x h1 => .ok (.ret x) h1
  | .retN, _, h => .ok (.ret (.d .none)) h
  | .asg tg a, e, h => (ev G C a e h).bind fun x h1 => match storeH tg x e h1 with
    | some e1 => .ok (.nx e1) h1
    | none => .bad
  | .par i j a b, e, h => (ev G C a e h).bind fun x h1 => (ev G C b e h1).bind fun y h2 => if i < e.length && j < e.length then .ok (.nx ((e.set i (some x)).set j (some y))) h2 else .bad
  | .setI o i a, e, h => (ev G C a e h).bind fun v h1 => (ev G C o e h1).bind fun x h2 => (ev G C i e h2).bind fun y h3 => (setI x y v h3).bind fun _ h4 => .ok (.nx e) h4
  | .aug i o a, e, h => match e[i]? with
    | some (some x) => (ev G C a e h).bind fun y h1 => (augop o x y h1).bind fun z h2 => if i < e.length then .ok (.nx (e.set i (some z))) h2 else .bad
    | _ => .bad
  | .expr a, e, h => (ev G C a e h).bind fun _ h1 => .ok (.nx e) h1
  | .ifS c a b, e, h => tst (ev G C c e h) fun k h1 => if k = true then execs G C a e h1 else execs G C b e h1
  | .forS tg it body, e, h => (walk G C it e h).bind fun w h1 => forL w.gd tg (fun e h => execs G C body e h) w.xs e h1
  | .whileS c body, e, h => whileL (fun e h => ev G C c e h) (fun e h => execs G C body e h) e h
  | .raiseS c es, e, h => (evs G C es e h).bind fun vs h1 => match es with
    | [] => .exc c [] h1
    | _ => .bad
  | .pass, e, h => .ok (.nx e) h
  | .brk, e, h => .ok (.brk e) h
  | .ct, e, h => .ok (.ct e) h
noncomputable def execs (G : Gls) (C : Fns) : List S → Env → Hv → Res Flow
  | [], e, h => .ok (.nx e) h
  | s :: r, e, h => (exec G C s e h).bind fun f h1 => match f with
    | .nx e1 => execs G C r e1 h1
    | .ret v => .ok (.ret v) h1
    | .brk e1 => .ok (.brk e1) h1
    | .ct e1 => .ok (.ct e1) h1
end
/-- a def: how many parameters, the names in its slots (the parameters first), its body; cl: what it hands back is data, and the objects that it made are let go -/
structure Df where
  np : Nat
  ns : Nat
  body : List S
  cl : Bool := true
def back (cl : Bool) (h0 : Hv) (v : PV) (h : Hv) : Res PV :=
  if cl then (match v with
    | .d x => .ok (.d x) ⟨h.os.take h0.os.length, h0.lim⟩
    | .fn x => .ok (.fn x) ⟨h.os.take h0.os.length, h0.lim⟩
    | .ref n => (match h.os[n]? with
      | some (.lst xs) => if h0.os.length ≤ n then .ok (.d (.list xs)) ⟨h.os.take h0.os.length, h0.lim⟩ else .bad
      | _ => .bad)
    | _ => .bad) else .ok v h
noncomputable def run (G : Gls) (C : Fns) (f : Df) (vs : List PV) (h : Hv) : Res PV :=
  if vs.length = f.np then
    match execs G C f.body (vs.map some ++ List.replicate (f.ns - f.np) none) (if f.cl then ⟨h.os, h.os.length⟩ else h) with
    | .ok (.ret v) h1 => back f.cl h v h1
    | .ok (.nx _) h1 => back f.cl h (.d .none) h1
    | .ok _ _ => .bad
    | .exc c fs h1 => if f.cl then .exc c fs ⟨h1.os.take h.os.length, h.lim⟩ else .exc c fs h1
    | .bad => .bad
  else .bad
abbrev Tab := Str → Option Df
/-- the defs, so many calls deep -/
noncomputable def call (G : Gls) (T : Tab) : Nat → Fns
  | 0, _, _, _ => .bad
  | k + 1, x, vs, h => match T x with
    | some f => run G (call G T k) f vs h
    | none => .bad
end NC
/-! The checker: does a piece of the program's text say what a piece of the small syntax says? -/
namespace NC
open PySem

def okName (x : Str) : Bool := !(x == ("__debug__" : Str)) && !(x == ("__classdict__" : Str)) && !(x == ("__name__" : Str))
def visB (sc : Scope) (x : Str) : Bool := match sc.names.lookup x with
  | some .local => true
  | some .cell => true
  | some .free => true
  | _ => false
def locB (sc : Scope) (x : Str) : Bool := match sc.names.lookup x with
  | some .local => true
  | some .cell => true
  | _ => false
def loc1B (sc : Scope) (x : Str) : Bool := match sc.names.lookup x with
  | some .local => true
  | _ => false
def glbB (sc : Scope) (x : Str) : Bool := match sc.names.lookup x with
  | some .globalImplicit => okName x
  | _ => false
def chkC : PyData → Const → Bool
  | .int i, .int j => i == j
  | .str x, .str y => x == y
  | .bool a, .bool b => a == b
  | .none, .none => true
  | _, _ => false
def chkOp : Op → Operator → Bool
  | .add, .Add => true
  | .sub, .Sub => true
  | .mul, .Mult => true
  | .fdiv, .FloorDiv => true
  | .mod, .Mod => true
  | .pow, .Pow => true
  | _, _ => false
def chkCm : Cm → CmpOp → Bool
  | .eq, .Eq => true
  | .ne, .NotEq => true
  | .lt, .Lt => true
  | .le, .LtE => true
  | .gt, .Gt => true
  | .ge, .GtE => true
  | .is, .Is => true
  | .isn, .IsNot => true
  | .inn, .In => true
  | .nin, .NotIn => true
  | _, _ => false
def Ty.nm : Ty → Str
  | .int => "int" | .bool => "bool" | .str => "str" | .tuple => "tuple" | .list => "list" | .dict => "dict"
def Bi.nm : Bi → Str
  | .abs => "abs" | .len => "len" | .int => "int" | .repr => "repr" | .all => "all" | .any => "any" | .tuple => "tuple" | .list => "list"
def bmName (m : Str) (es : List E) : Bool := match es with
  | [_] => decide (m = "append") || decide (m = "extend")
  | [] => decide (m = "pop")
  | _ => false
def isComp : Expr → Bool
  | .ListComp .. | .SetComp .. | .DictComp .. | .Set .. => true
  | _ => false
mutual
def chkTg (sc : Scope) (N : List Str) : Tg → Expr → Bool
  | .var i, .Name x _ => decide (N[i]? = some x) && locB sc x && okName x
  | .tup ts, .Tuple es _ _ => chkTgs sc N ts es
  | _, _ => false
def chkTgs (sc : Scope) (N : List Str) : List Tg → List Expr → Bool
  | [], [] => true
  | t :: ts, e :: es => chkTg sc N t e && chkTgs sc N ts es
  | _, _ => false
end
def needsTup : NC.It → Bool
  | .zip2 .. => true
  | .enum .. => true
  | _ => false
def isTupX : Expr → Bool
  | .Tuple .. => true
  | _ => false
mutual
def chkE (D : List Str) (sc : Scope) (N : List Str) : E → Expr → Bool
  | .cst c, .Constant k _ _ => chkC c k
  | .var i, .Name x _ => decide (N[i]? = some x) && visB sc x && okName x
  | .glb x, .Name y _ => decide (x = y) && glbB sc x
  | .bin o a b, .BinOp ea op eb _ => chkOp o op && chkE D sc N a ea && chkE D sc N b eb
  | .neg a, .UnaryOp .USub ea _ => chkE D sc N a ea
  | .not a, .UnaryOp .Not ea _ => chkE D sc N a ea
  | .and a b, .BoolOp .And (ea :: eb :: r) p => chkE D sc N a ea && chkE D sc N b (match r with | [] => eb | _ => .BoolOp .And (eb :: r) p)
  | .or a b, .BoolOp .Or (ea :: eb :: r) p => chkE D sc N a ea && chkE D sc N b (match r with | [] => eb | _ => .BoolOp .Or (eb :: r) p)
  | .cmp o a b, .Compare ea [op] [eb] _ => chkCm o op && !behindInMarks op eb && chkE D sc N a ea && chkE D sc N b eb
  | .cmp2 o o' a b c, .Compare ea [op, op'] [eb, ec] _ => chkCm o op && chkCm o' op' && !behindInMarks op' ec && chkE D sc N a ea && chkE D sc N b eb && chkE D sc N c ec
  | .ite c a b, .IfExp ec ea eb _ => chkE D sc N c ec && chkE D sc N a ea && chkE D sc N b eb
  | .call x es, .Call (.Name y _) ees [] _ => decide (x = y) && glbB sc x && decide (x ∈ D) && chkEs D sc N es ees
  | .bi b a, .Call (.Name y _) [ea] [] _ => decide (b.nm = y) && glbB sc y && chkE D sc N a ea
  | .isi t a, .Call (.Name y _) [ea, .Name z _] [] _ => decide (y = ("isinstance" : Str)) && glbB sc y && decide (z = t.nm) && glbB sc z && chkE D sc N a ea
  | .tup es, .Tuple ees _ _ => chkEs D sc N es ees
  | .lst _ es, .List ees _ => chkEs D sc N es ees
  | .ix a i, .Subscript ea ei _ => chkE D sc N a ea && chkE D sc N i ei
  | .slc a lo hi, .Subscript ea (.Slice l r none _) _ => chkE D sc N a ea && chkEo D sc N lo l && chkEo D sc N hi r
  | .comp own elt tg it cond, .ListComp eelt [⟨etg, eit, eifs, asy⟩] scope _ => decide (asy = 0) && L2.blkC N sc scope (own.map fun i => ((N[i]?).getD "", i)) && chkIt D sc N it eit && (!needsTup it || isTupX etg) && (tg.vars.all fun i => decide (i ∈ own)) && chkTg scope N tg etg && chkE D (L2.relS scope sc) N elt eelt &&
      (match cond, eifs with
        | none, [] => true
        | some c, [ec] => chkE D (L2.relS scope sc) N c ec
        | _, _ => false)
  | .meth (.var i) m es, .Call (.Attribute (.Name x p) m' apos) ees [] pos => decide (m = m') && bmName m es && (apos.endLine == pos.line) && decide (N[i]? = some x) && visB sc x && okName x && chkEs D sc N es ees
  | _, _ => false
def chkEs (D : List Str) (sc : Scope) (N : List Str) : List E → List Expr → Bool
  | [], [] => true
  | a :: r, ea :: er => chkE D sc N a ea && chkEs D sc N r er
  | _, _ => false
def chkEo (D : List Str) (sc : Scope) (N : List Str) : Option E → Option Expr → Bool
  | none, none => true
  | some a, some ea => chkE D sc N a ea
  | _, _ => false
def chkIt (D : List Str) (sc : Scope) (N : List Str) : It → Expr → Bool
  | .of a, e => chkE D sc N a e
  | .range1 a, e => match e with
    | .Call (.Name y _) [ea] [] _ => decide (y = ("range" : Str)) && glbB sc y && chkE D sc N a ea
    | _ => false
  | .range2 a b, e => match e with
    | .Call (.Name y _) [ea, eb] [] _ => decide (y = ("range" : Str)) && glbB sc y && chkE D sc N a ea && chkE D sc N b eb
    | _ => false
  | .zip2 a b, e => match e with
    | .Call (.Name y _) [ea, eb] [] _ => decide (y = ("zip" : Str)) && glbB sc y && chkE D sc N a ea && chkE D sc N b eb
    | _ => false
  | .enum a, e => match e with
    | .Call (.Name y _) [ea] [] _ => decide (y = ("enumerate" : Str)) && glbB sc y && chkE D sc N a ea
    | _ => false
end
/-- a, b = x, y where the machine stores without making a pair -/
def parB (sc : Scope) (N : List Str) (i j : Nat) (x y : Str) (px py : Pos) (ea eb : Expr) : Bool :=
  decide (N[i]? = some x) && decide (N[j]? = some y) && loc1B sc x && loc1B sc y && decide (i ≠ j) && decide (x ≠ y) && (px.line == py.line) && okName x && okName y &&
  !([ea, eb].all (foldedForSure 8)) && !([ea, eb].all (constantsAlone 8))
/-- no target, or no value, of the kind that is stored without a tuple -/
def unswB (sc : Scope) (ts : List Expr) (value : Expr) : Bool := match value with
  | .Tuple vs _ _ => !(ts.length == 2 || ts.length == 3) || vs.length != ts.length || ts.any fun
    | .Name id _ => !loc1B sc id
    | _ => true
  | _ => true
mutual
def chkS (D : List Str) (Dx : List Str) (sc : Scope) (N : List Str) : S → Stmt → Bool
  | .ret a, st => match st with
    | .Return (some ea) _ => chkE D sc N a ea
    | _ => false
  | .retN, st => match st with
    | .Return none _ => true
    | _ => false
  | .asg tg a, st => match st with
    | .Assign [t] ea _ => chkTg sc N tg t && chkE D sc N a ea && (match t with
      | .Name _ _ => true
      | .Tuple es _ _ => unswB sc es ea
      | _ => false)
    | _ => false
  | .par i j a b, st => match st with
    | .Assign [.Tuple [.Name x px, .Name y py] _ _] (.Tuple [ea, eb] _ _) _ => parB sc N i j x y px py ea eb && chkE D sc N a ea && chkE D sc N b eb
    | _ => false
  | .setI o i a, st => match st with
    | .Assign [.Subscript eo ei _] ea _ => chkE D sc N o eo && chkE D sc N i ei && chkE D sc N a ea
    | _ => false
  | .aug i op a, st => match st with
    | .AugAssign (.Name x p) eop ea _ => chkTg sc N (.var i) (.Name x p) && chkOp op eop && chkE D sc N a ea
    | _ => false
  | .expr a, st => match st with
    | .Expr ea _ => chkE D sc N a ea && !isComp ea
    | _ => false
  | .ifS c a b, st => match st with
    | .If ec ea eb _ => chkE D sc N c ec && chkSs D Dx sc N a ea && chkSs D Dx sc N b eb
    | _ => false
  | .forS tg it body, st => match st with
    | .For etg eit ebody [] _ => chkTg sc N tg etg && chkIt D sc N it eit && (!needsTup it || isTupX etg) && chkSs D Dx sc N body ebody
    | _ => false
  | .whileS c body, st => match st with
    | .While ec ebody [] _ => chkE D sc N c ec && chkSs D Dx sc N body ebody
    | _ => false
  | .raiseS c es, st => match st with
    | .Raise (some (.Call (.Name y _) ees [] _)) none _ => decide (c = y) && glbB sc y && decide (y ∈ Dx) && es.isEmpty && ees.isEmpty
    | _ => false
  | .pass, st => match st with
    | .Pass _ => true
    | _ => false
  | .brk, st => match st with
    | .Break _ => true
    | _ => false
  | .ct, st => match st with
    | .Continue _ => true
    | _ => false
def chkSs (D : List Str) (Dx : List Str) (sc : Scope) (N : List Str) : List S → List Stmt → Bool
  | [], [] => true
  | s :: r, es :: er => chkS D Dx sc N s es && chkSs D Dx sc N r er
  | _, _ => false
end
end NC
/-! How values and objects of the small semantics lie in the machine's heap. -/
namespace NC
open PySem PySem.Spec PyProof.Rows L2

def noHp : Hp := fun _ => none
theorem noRd {a : Addr} {u : HO} (h : Rd noHp a u) : False := by
  rcases h with h | ⟨o, h⟩ <;> cases h
/-- the script: locked, or a constant of the module -/
def ZL (K : PySem.W.Frag) (H : Hp) (a : Addr) (vs : List V) : Prop := (∃ o, H a = some (.frz o (.lst vs))) ∨ SqL K noHp a vs
theorem ZL.sq {K : PySem.W.Frag} {H : Hp} {a : Addr} {vs : List V} (h : ZL K H a vs) : SqL K H a vs := by
  rcases h with h | h
  · exact .inl (.inr h)
  · rcases h with h | h
    · exact (noRd h).elim
    · exact .inr h
/-- nothing that does not change has changed: tuples, locked things, the lists of F (those that stay as they are) -/
structure Kp (F : Addr → Prop) (H : Hp) (F' : Addr → Prop) (H' : Hp) : Prop where
  tup : ∀ a vs, H a = some (.tup vs) → H' a = some (.tup vs)
  frz : ∀ a o u, H a = some (.frz o u) → H' a = some (.frz o u)
  fix : ∀ a, F a → F' a ∧ H' a = H a
theorem Kp.refl {F : Addr → Prop} {H : Hp} : Kp F H F H := ⟨fun _ _ h => h, fun _ _ _ h => h, fun _ h => ⟨h, rfl⟩⟩
theorem Kp.trans {M1 M2 M3 : Addr → Prop} {H1 H2 H3 : Hp} (a : Kp M1 H1 M2 H2) (b : Kp M2 H2 M3 H3) : Kp M1 H1 M3 H3 :=
  ⟨fun x vs h => b.tup x vs (a.tup x vs h), fun x o u h => b.frz x o u (a.frz x o u h), fun x h => ⟨(b.fix x (a.fix x h).1).1, (b.fix x (a.fix x h).1).2.trans (a.fix x h).2⟩⟩
theorem Kp.rdT {M M' : Addr → Prop} {H H' : Hp} (k : Kp M H M' H') {a : Addr} {vs : List V} (r : Rd H a (.tup vs)) : Rd H' a (.tup vs) := by
  rcases r with r | ⟨o, r⟩
  · exact .inl (k.tup a _ r)
  · exact .inr ⟨o, k.frz a _ _ r⟩
theorem Kp.zl {K : PySem.W.Frag} {M M' : Addr → Prop} {H H' : Hp} (k : Kp M H M' H') {a : Addr} {vs : List V} (z : ZL K H a vs) : ZL K H' a vs := by
  rcases z with ⟨o, z⟩ | z
  · exact .inl ⟨o, k.frz _ _ _ z⟩
  · exact .inr z
theorem Kp.zt {K : PySem.W.Frag} {M M' : Addr → Prop} {H H' : Hp} (k : Kp M H M' H') {a : Addr} {vs : List V} (z : SqT K H a vs) : SqT K H' a vs := by
  rcases z with z | z
  · exact .inl (k.rdT z)
  · exact .inr z
/-- a new object -/
theorem Kp.new {M : Addr → Prop} {H : Hp} {p : Addr} {o : HO} (h : H p = none) (hm : ∀ a, M a → H a ≠ none) : Kp M H M (upd H p o) :=
  ⟨fun a vs e => by rw [upd_ne (ne_of_none e h)]; exact e, fun a u v e => by rw [upd_ne (ne_of_none e h)]; exact e, fun a m => ⟨m, upd_ne fun z => hm a m (by rw [z]; exact h)⟩⟩
/-- what is neither a tuple nor locked, nor of F, is changed -/
theorem Kp.set {M : Addr → Prop} {H : Hp} {p : Addr} {o : HO} (ht : ∀ vs, H p ≠ some (.tup vs)) (hf : ∀ ob u, H p ≠ some (.frz ob u)) (h : ¬ M p) : Kp M H M (upd H p o) :=
  ⟨fun a vs e => by rw [upd_ne (fun z : a = p => ht vs (by rw [← z]; exact e))]; exact e, fun a ob u e => by rw [upd_ne (fun z : a = p => hf ob u (by rw [← z]; exact e))]; exact e,
    fun a m => ⟨m, upd_ne fun z : a = p => h (by rw [← z]; exact m)⟩⟩
theorem Kp.more {M M' : Addr → Prop} {H : Hp} (h : ∀ a, M a → M' a) : Kp M H M' H := ⟨fun _ _ h => h, fun _ _ _ h => h, fun a m => ⟨h a m, rfl⟩⟩

/-! ### data -/
mutual
inductive RD (K : PySem.W.Frag) (Mu : Addr → Prop) (H : Hp) : PyData → V → Prop
  | non : RD K Mu H .none .non
  | bl (b : Bool) : RD K Mu H (.bool b) (.bl b)
  | int (i : Int) : RD K Mu H (.int i) (.int i)
  | str (x : Str) : RD K Mu H (.str x) (.str x)
  | lst {a : Addr} {vs : List V} {ds : List PyData} : H a = some (.lst vs) → Mu a → RDs K Mu H ds vs → RD K Mu H (.list ds) (.ref a)
  | tup {a : Addr} {vs : List V} {ds : List PyData} : SqT K H a vs → RDs K Mu H ds vs → RD K Mu H (.tuple ds) (.ref a)
inductive RDs (K : PySem.W.Frag) (Mu : Addr → Prop) (H : Hp) : List PyData → List V → Prop
  | nil : RDs K Mu H [] []
  | cons {d : PyData} {ds : List PyData} {v : V} {vs : List V} : RD K Mu H d v → RDs K Mu H ds vs → RDs K Mu H (d :: ds) (v :: vs)
end
section
variable {K : PySem.W.Frag} {M M' : Addr → Prop} {H H' : Hp}
mutual
theorem RD.mono (k : Kp M H M' H') : ∀ (d : PyData) (v : V), RD K M H d v → RD K M' H' d v
  | .none, _, r => by cases r; exact .non
  | .bool _, _, r => by cases r; exact .bl _
  | .int _, _, r => by cases r; exact .int _
  | .str _, _, r => by cases r; exact .str _
  | .list ds, _, r => by cases r with | lst z m q => exact .lst ((k.fix _ m).2.trans z) (k.fix _ m).1 (RDs.mono k ds _ q)
  | .tuple ds, _, r => by cases r with | tup z q => exact .tup (k.zt z) (RDs.mono k ds _ q)
  | .dict _, _, r => by cases r
theorem RDs.mono (k : Kp M H M' H') : ∀ (ds : List PyData) (vs : List V), RDs K M H ds vs → RDs K M' H' ds vs
  | [], _, r => by cases r; exact .nil
  | d :: ds, _, r => by cases r with | cons a b => exact .cons (RD.mono k d _ a) (RDs.mono k ds _ b)
end
mutual
theorem RD.dp : ∀ (d : PyData) (v : V), RD K M H d v → Dp K H v d
  | .none, _, r => by cases r; exact .non
  | .bool _, _, r => by cases r; exact .bl _
  | .int _, _, r => by cases r; exact .int _
  | .str _, _, r => by cases r; exact .str _
  | .list ds, _, r => by cases r with | lst z m q => exact .lst (.of z) (RDs.dp ds _ q)
  | .tuple ds, _, r => by cases r with | tup z q => exact .tup z (RDs.dp ds _ q)
  | .dict _, _, r => by cases r
theorem RDs.dp : ∀ (ds : List PyData) (vs : List V), RDs K M H ds vs → DpAll K H vs ds
  | [], _, r => by cases r; exact .nil
  | d :: ds, _, r => by cases r with | cons a b => exact .cons (RD.dp d _ a) (RDs.dp ds _ b)
end
theorem RDs.length : ∀ {ds : List PyData} {vs : List V}, RDs K M H ds vs → ds.length = vs.length
  | _, _, .nil => rfl
  | _, _, .cons _ b => congrArg (· + 1) (RDs.length b)
theorem RDs.get : ∀ {ds : List PyData} {vs : List V} {i : Nat} {d : PyData}, RDs K M H ds vs → ds[i]? = some d → ∃ v, vs[i]? = some v ∧ RD K M H d v
  | _, _, _, _, .nil, e => by simp at e
  | _, _, 0, _, .cons a _, e => by simp at e; subst e; exact ⟨_, rfl, a⟩
  | _, _, i + 1, d, .cons _ b, e => by
    obtain ⟨v, h1, h2⟩ := RDs.get (i := i) (d := d) b (by simpa using e)
    exact ⟨v, by simpa using h1, h2⟩
theorem RDs.get' : ∀ {ds : List PyData} {vs : List V} {i : Nat} {v : V}, RDs K M H ds vs → vs[i]? = some v → ∃ d, ds[i]? = some d ∧ RD K M H d v
  | _, _, _, _, .nil, e => by simp at e
  | _, _, 0, _, .cons a _, e => by simp at e; subst e; exact ⟨_, rfl, a⟩
  | _, _, i + 1, d, .cons _ b, e => by
    obtain ⟨v, h1, h2⟩ := RDs.get' (i := i) (v := d) b (by simpa using e)
    exact ⟨v, by simpa using h1, h2⟩
theorem RDs.append : ∀ {xs ys : List PyData} {us ws : List V}, RDs K M H xs us → RDs K M H ys ws → RDs K M H (xs ++ ys) (us ++ ws)
  | _, _, _, _, .nil, s => s
  | _, _, _, _, .cons r t, s => .cons r (RDs.append t s)
theorem RDs.set {d : PyData} {v : V} (r : RD K M H d v) : ∀ {ds : List PyData} {vs : List V} (i : Nat), RDs K M H ds vs → RDs K M H (ds.set i d) (vs.set i v)
  | _, _, _, .nil => .nil
  | _, _, 0, .cons _ t => .cons r t
  | _, _, i + 1, .cons q t => .cons q (RDs.set r i t)
theorem RDs.take : ∀ {ds : List PyData} {vs : List V} (n : Nat), RDs K M H ds vs → RDs K M H (ds.take n) (vs.take n)
  | _, _, 0, _ => .nil
  | _, _, _ + 1, .nil => .nil
  | _, _, n + 1, .cons r t => .cons r (RDs.take n t)
theorem RDs.drop : ∀ {ds : List PyData} {vs : List V} (n : Nat), RDs K M H ds vs → RDs K M H (ds.drop n) (vs.drop n)
  | _, _, 0, r => r
  | _, _, _ + 1, .nil => .nil
  | _, _, n + 1, .cons _ t => RDs.drop n t
theorem RDs.dropLast {ds : List PyData} {vs : List V} (r : RDs K M H ds vs) : RDs K M H ds.dropLast vs.dropLast := by
  rw [List.dropLast_eq_take, List.dropLast_eq_take, r.length]
  exact r.take _
theorem RDs.cut {ds : List PyData} {vs : List V} (r : RDs K M H ds vs) (lo hi : Option Int) : RDs K M H (cut ds lo hi) (cutV vs lo hi) := by
  unfold NC.cut cutV
  rw [r.length]
  exact (r.drop _).take _
theorem RDs.at {ds : List PyData} {vs : List V} {i : Int} {d : PyData} (r : RDs K M H ds vs) (h : atI ds i = some d) : ∃ v, atI vs i = some v ∧ RD K M H d v := by
  unfold atI at h ⊢
  rw [← r.length]
  cases q : ixN ds.length i with
  | none => rw [q] at h; cases h
  | some k =>
    rw [q] at h
    exact r.get h
end

/-! ### values, objects, names -/
/-- where the changing objects stand; which lists stay as they are -/
structure Gh where
  at_ : Nat → Addr
  F : Addr → Prop
mutual
inductive RV (K : PySem.W.Frag) (mg : Str → Option Value) (j : Gh) (n : Nat) (H : Hp) : PV → V → Prop
  | d {x : PyData} {v : V} : RD K j.F H x v → RV K mg j n H (.d x) v
  | ref {i : Nat} : i < n → RV K mg j n H (.ref i) (.ref (j.at_ i))
  | tup {a : Addr} {vs : List V} {ps : List PV} : SqT K H a vs → RVs K mg j n H ps vs → RV K mg j n H (.tup ps) (.ref a)
  | fn {x : Str} {f : Addr} : mg x = some (.ref f) → RV K mg j n H (.fn x) (.ref f)
  | scr {a : Addr} {vs : List V} {ds : List PyData} : ZL K H a vs → RDs K j.F H ds vs → RV K mg j n H (.scr ds) (.ref a)
inductive RVs (K : PySem.W.Frag) (mg : Str → Option Value) (j : Gh) (n : Nat) (H : Hp) : List PV → List V → Prop
  | nil : RVs K mg j n H [] []
  | cons {p : PV} {ps : List PV} {v : V} {vs : List V} : RV K mg j n H p v → RVs K mg j n H ps vs → RVs K mg j n H (p :: ps) (v :: vs)
end
mutual
def PV.refs : PV → List Nat
  | .d _ => []
  | .ref n => [n]
  | .tup xs => PV.refsL xs
  | .fn _ => []
  | .scr _ => []
def PV.refsL : List PV → List Nat
  | [] => []
  | x :: xs => x.refs ++ PV.refsL xs
end
def Ob.refs : Ob → List Nat
  | .lst _ => []
  | .ins _ fs => PV.refsL (fs.map (·.2))
def RFs (K : PySem.W.Frag) (mg : Str → Option Value) (j : Gh) (n : Nat) (H : Hp) : List (Str × PV) → List (Str × V) → Prop
  | [], [] => True
  | (f, p) :: r, (g, v) :: s => f = g ∧ RV K mg j n H p v ∧ RFs K mg j n H r s
  | _, _ => False
def RO (K : PySem.W.Frag) (mg : Str → Option Value) (j : Gh) (n : Nat) (H : Hp) (a : Addr) : Ob → Prop
  | .lst xs => ∃ vs, H a = some (.lst vs) ∧ RDs K j.F H xs vs
  | .ins c fs => ∃ C dx fv, H a = some (.ins C dx fv) ∧ mg c = some (.ref C) ∧ RFs K mg j n H fs fv
/-- what the abstract semantics never does: an object older than lim is given no new object to hold -/
structure Shr (h h' : Hv) : Prop where
  lim : h'.lim = h.lim
  le : h.os.length ≤ h'.os.length
  sub : ∀ (i : Nat) (o' : Ob), i < h.lim → h'.os[i]? = some o' → ∃ o, h.os[i]? = some o ∧ ∀ r ∈ o'.refs, r ∈ o.refs
theorem Shr.refl {h : Hv} : Shr h h := ⟨rfl, Nat.le_refl _, fun _ o' _ e => ⟨o', e, fun _ z => z⟩⟩
theorem Shr.trans {a b c : Hv} (x : Shr a b) (y : Shr b c) : Shr a c := ⟨y.lim.trans x.lim, Nat.le_trans x.le y.le, fun i o' hi e => by
  obtain ⟨o1, e1, s1⟩ := y.sub i o' (by rw [x.lim]; exact hi) e
  obtain ⟨o, e2, s2⟩ := x.sub i o1 hi e1
  exact ⟨o, e2, fun r z => s2 r (s1 r z)⟩⟩
structure Rl (K : PySem.W.Frag) (mg : Str → Option Value) (j : Gh) (h : Hv) (H : Hp) : Prop where
  inj : ∀ i i', i < h.os.length → i' < h.os.length → j.at_ i = j.at_ i' → i = i'
  obj : ∀ i o, h.os[i]? = some o → RO K mg j h.os.length H (j.at_ i) o
  lim : h.lim ≤ h.os.length
  nf : ∀ i, i < h.os.length → ¬ j.F (j.at_ i)
  fd : ∀ a, j.F a → H a ≠ none
structure Tr (j : Gh) (h : Hv) (H : Hp) (j' : Gh) (h' : Hv) (H' : Hp) : Prop where
  ag : ∀ i, i < h.os.length → j'.at_ i = j.at_ i
  kp : Kp j.F H j'.F H'
  sh : Shr h h'
  fr : ∀ a o, H a = some o → (∀ i, i < h.os.length → j.at_ i ≠ a) → H' a = some o ∧ (j'.F a → j.F a) ∧ ∀ i, i < h'.os.length → j'.at_ i ≠ a
theorem Tr.refl {j : Gh} {h : Hv} {H : Hp} : Tr j h H j h H := ⟨fun _ _ => rfl, Kp.refl, Shr.refl, fun _ _ e n => ⟨e, id, n⟩⟩
theorem Tr.trans {j1 j2 j3 : Gh} {h1 h2 h3 : Hv} {H1 H2 H3 : Hp} (a : Tr j1 h1 H1 j2 h2 H2) (b : Tr j2 h2 H2 j3 h3 H3) : Tr j1 h1 H1 j3 h3 H3 :=
  ⟨fun i hi => (b.ag i (Nat.lt_of_lt_of_le hi a.sh.le)).trans (a.ag i hi), a.kp.trans b.kp, a.sh.trans b.sh, fun x o e n =>
    let ⟨e1, f1, n1⟩ := a.fr x o e n
    let ⟨e2, f2, n2⟩ := b.fr x o e1 n1
    ⟨e2, fun z => f1 (f2 z), n2⟩⟩
section
variable {K : PySem.W.Frag} {mg : Str → Option Value} {j j' : Gh} {n n' : Nat} {H H' : Hp}
mutual
theorem RV.mono (ag : ∀ i, i < n → j'.at_ i = j.at_ i) (le : n ≤ n') (k : Kp j.F H j'.F H') : ∀ (p : PV) (v : V), RV K mg j n H p v → RV K mg j' n' H' p v
  | .d x, _, r => by cases r with | d r => exact .d (RD.mono k x _ r)
  | .ref i, _, r => by
    cases r with
    | ref hi => rw [← ag i hi]; exact .ref (Nat.lt_of_lt_of_le hi le)
  | .tup ps, _, r => by cases r with | tup z q => exact .tup (k.zt z) (RVs.mono ag le k ps _ q)
  | .fn _, _, r => by cases r with | fn e => exact .fn e
  | .scr _, _, r => by cases r with | scr z q => exact .scr (k.zl z) (RDs.mono k _ _ q)
theorem RVs.mono (ag : ∀ i, i < n → j'.at_ i = j.at_ i) (le : n ≤ n') (k : Kp j.F H j'.F H') : ∀ (ps : List PV) (vs : List V), RVs K mg j n H ps vs → RVs K mg j' n' H' ps vs
  | [], _, r => by cases r; exact .nil
  | p :: ps, _, r => by cases r with | cons a b => exact .cons (RV.mono ag le k p _ a) (RVs.mono ag le k ps _ b)
end
theorem RV.tr {h h' : Hv} (t : Tr j h H j' h' H') {p : PV} {v : V} (r : RV K mg j h.os.length H p v) : RV K mg j' h'.os.length H' p v := RV.mono t.ag t.sh.le t.kp p v r
theorem RVs.tr {h h' : Hv} (t : Tr j h H j' h' H') {p : List PV} {v : List V} (r : RVs K mg j h.os.length H p v) : RVs K mg j' h'.os.length H' p v := RVs.mono t.ag t.sh.le t.kp p v r
theorem RVs.length : ∀ {ps : List PV} {vs : List V}, RVs K mg j n H ps vs → ps.length = vs.length
  | _, _, .nil => rfl
  | _, _, .cons _ b => congrArg (· + 1) (RVs.length b)
theorem RVs.get : ∀ {ps : List PV} {vs : List V} {i : Nat} {d : PV}, RVs K mg j n H ps vs → ps[i]? = some d → ∃ v, vs[i]? = some v ∧ RV K mg j n H d v
  | _, _, _, _, .nil, e => by simp at e
  | _, _, 0, _, .cons a _, e => by simp at e; subst e; exact ⟨_, rfl, a⟩
  | _, _, i + 1, d, .cons _ b, e => by
    obtain ⟨v, h1, h2⟩ := RVs.get (i := i) (d := d) b (by simpa using e)
    exact ⟨v, by simpa using h1, h2⟩
theorem RVs.get' : ∀ {ps : List PV} {vs : List V} {i : Nat} {v : V}, RVs K mg j n H ps vs → vs[i]? = some v → ∃ d, ps[i]? = some d ∧ RV K mg j n H d v
  | _, _, _, _, .nil, e => by simp at e
  | _, _, 0, _, .cons a _, e => by simp at e; subst e; exact ⟨_, rfl, a⟩
  | _, _, i + 1, d, .cons _ b, e => by
    obtain ⟨v, h1, h2⟩ := RVs.get' (i := i) (v := d) b (by simpa using e)
    exact ⟨v, by simpa using h1, h2⟩
theorem RVs.ofD : ∀ {ds : List PyData} {vs : List V}, RDs K j.F H ds vs → RVs K mg j n H (ds.map PV.d) vs
  | _, _, .nil => .nil
  | _, _, .cons a b => .cons (.d a) (RVs.ofD b)
theorem RVs.toD : ∀ {ps : List PV} {ds : List PyData} {vs : List V}, allD ps = some ds → RVs K mg j n H ps vs → RDs K j.F H ds vs
  | [], _, _, e, r => by cases r; cases e; exact .nil
  | .d x :: ps, _, _, e, r => by
    cases r with
    | cons a b =>
      cases a with
      | d a =>
        rw [allD_d] at e
        cases q : allD ps with
        | none => rw [q] at e; cases e
        | some ds => rw [q] at e; cases e; exact .cons a (RVs.toD q b)
  | .ref _ :: _, _, _, e, _ => by cases e
  | .tup _ :: _, _, _, e, _ => by cases e
  | .fn _ :: _, _, _, e, _ => by cases e
  | .scr _ :: _, _, _, e, _ => by cases e
/-- what stands nowhere is none of ours -/
theorem Rl.noMu {h : Hv} (R : Rl K mg j h H) {p : Addr} (hp : H p = none) : ∀ i, i < h.os.length → j.at_ i ≠ p := by
  rintro i hi rfl
  have o := R.obj i h.os[i] (by simp [hi])
  cases q : h.os[i] with
  | lst xs => rw [q] at o; obtain ⟨vs, e, _⟩ := o; rw [hp] at e; cases e
  | ins c fs => rw [q] at o; obtain ⟨C, dx, fv, e, _⟩ := o; rw [hp] at e; cases e
theorem Rl.kp {h : Hv} (R : Rl K mg j h H) {p : Addr} {o : HO} (hp : H p = none) : Kp j.F H j.F (upd H p o) := .new hp R.fd
/-- a new tuple -/
theorem RV.mkTup {h : Hv} (R : Rl K mg j h H) {ps : List PV} {vs : List V} {p : Addr} (hp : H p = none) (r : RVs K mg j h.os.length H ps vs) : RV K mg j h.os.length (upd H p (.tup vs)) (mkTup ps) (.ref p) := by
  have k := R.kp (o := .tup vs) hp
  have z : SqT K (upd H p (.tup vs)) p vs := .of upd_same
  unfold NC.mkTup
  cases q : allD ps with
  | some ds => exact .d (.tup z (RDs.mono k _ _ (r.toD q)))
  | none => exact .tup z (RVs.mono (fun _ _ => rfl) (Nat.le_refl _) k _ _ r)
theorem RFs.mono (ag : ∀ i, i < n → j'.at_ i = j.at_ i) (le : n ≤ n') (k : Kp j.F H j'.F H') : ∀ {fs : List (Str × PV)} {vs : List (Str × V)}, RFs K mg j n H fs vs → RFs K mg j' n' H' fs vs
  | [], [], _ => trivial
  | _ :: _, _ :: _, ⟨a, b, c⟩ => ⟨a, RV.mono ag le k _ _ b, RFs.mono ag le k c⟩
  | [], _ :: _, z => z.elim
  | _ :: _, [], z => z.elim
/-- an object of which nothing changed -/
theorem RO.mono (ag : ∀ i, i < n → j'.at_ i = j.at_ i) (le : n ≤ n') (k : Kp j.F H j'.F H') {a : Addr} (e : H' a = H a) {o : Ob} (r : RO K mg j n H a o) : RO K mg j' n' H' a o := by
  cases o with
  | lst xs => obtain ⟨vs, h1, h2⟩ := r; exact ⟨vs, by rw [e]; exact h1, RDs.mono k _ _ h2⟩
  | ins c fs => obtain ⟨C, dx, fv, h1, h2, h3⟩ := r; exact ⟨C, dx, fv, by rw [e]; exact h1, h2, RFs.mono ag le k h3⟩
/-- a new object that is none of ours -/
theorem Rl.new {h : Hv} (R : Rl K mg j h H) {p : Addr} {o : HO} (hp : H p = none) : Rl K mg j h (upd H p o) := by
  refine ⟨R.inj, fun i ob e => ?_, R.lim, R.nf, fun a m => ?_⟩
  · have hi : i < h.os.length := (List.getElem?_eq_some_iff.mp e).1
    exact RO.mono (fun _ _ => rfl) (Nat.le_refl _) (R.kp hp) (upd_ne (R.noMu hp i hi)) (R.obj i ob e)
  · rw [((R.kp (o := o) hp).fix a m).2]; exact R.fd a m
theorem Tr.new {h : Hv} {p : Addr} {o : HO} (R : Rl K mg j h H) (hp : H p = none) : Tr j h H j h (upd H p o) := ⟨fun _ _ => rfl, R.kp hp, Shr.refl, fun a u e n => ⟨by rw [upd_ne (ne_of_none e hp)]; exact e, id, n⟩⟩
/-- a list that from now on stays as it is -/
def Gh.fix (j : Gh) (p : Addr) : Gh := ⟨j.at_, fun a => j.F a ∨ a = p⟩
theorem Rl.fix {h : Hv} (R : Rl K mg j h H) {p : Addr} (hp : ∀ i, i < h.os.length → j.at_ i ≠ p) (hn : H p ≠ none) : Rl K mg (j.fix p) h H := by
  refine ⟨R.inj, fun i ob e => ?_, R.lim, fun i hi z => z.elim (R.nf i hi) (hp i hi), fun a m => m.elim (R.fd a) fun e => by rw [e]; exact hn⟩
  exact RO.mono (j := j) (j' := j.fix p) (fun _ _ => rfl) (Nat.le_refl _) (.more fun _ m => .inl m) rfl (R.obj i ob e)
theorem Tr.fix {h : Hv} {p : Addr} {j0 : Gh} {h0 : Hv} {H0 : Hp} (t : Tr j0 h0 H0 j h H) (hp : H0 p = none) : Tr j0 h0 H0 (j.fix p) h H :=
  ⟨t.ag, t.kp.trans (.more fun _ m => .inl m), t.sh, fun a o e n =>
    let ⟨e1, f1, n1⟩ := t.fr a o e n
    ⟨e1, fun z => z.elim f1 fun q => (ne_of_none e hp q).elim, n1⟩⟩
theorem Rl.kset {h : Hv} (R : Rl K mg j h H) {i : Nat} {o : HO} (hi : i < h.os.length) : Kp j.F H j.F (upd H (j.at_ i) o) := by
  have r := R.obj i h.os[i] (by simp [hi])
  refine .set (fun vs e => ?_) (fun ob u e => ?_) (R.nf i hi)
  · cases q : h.os[i] with
    | lst xs => rw [q] at r; obtain ⟨vs, e', _⟩ := r; rw [e] at e'; cases e'
    | ins c fs => rw [q] at r; obtain ⟨C, dx, fv, e', _⟩ := r; rw [e] at e'; cases e'
  · cases q : h.os[i] with
    | lst xs => rw [q] at r; obtain ⟨vs, e', _⟩ := r; rw [e] at e'; cases e'
    | ins c fs => rw [q] at r; obtain ⟨C, dx, fv, e', _⟩ := r; rw [e] at e'; cases e'
/-- one of ours changes -/
theorem Rl.set {h : Hv} (R : Rl K mg j h H) {i : Nat} {u : Ob} {o : HO} (hi : i < h.os.length) (new : RO K mg j h.os.length (upd H (j.at_ i) o) (j.at_ i) u) : Rl K mg j (setO h i u) (upd H (j.at_ i) o) := by
  have hl : (setO h i u).os.length = h.os.length := by simp [setO]
  refine ⟨fun a b ha hb => R.inj a b (by rw [← hl]; exact ha) (by rw [← hl]; exact hb), fun k ob e => ?_, by rw [hl]; exact R.lim, by rw [hl]; exact R.nf, fun a m => ?_⟩
  · rw [hl]
    have e' : (h.os.set i u)[k]? = some ob := e
    by_cases hk : k = i
    · subst hk
      rw [List.getElem?_set_self hi] at e'
      cases e'
      exact new
    · rw [List.getElem?_set_ne (Ne.symm hk)] at e'
      have hk' : k < h.os.length := (List.getElem?_eq_some_iff.mp e').1
      exact RO.mono (fun _ _ => rfl) (Nat.le_refl _) (R.kset hi) (upd_ne fun z => hk (R.inj _ _ hk' hi z)) (R.obj k ob e')
  · rw [((R.kset (o := o) hi).fix a m).2]; exact R.fd a m
theorem Tr.set {h : Hv} (R : Rl K mg j h H) {i : Nat} {u : Ob} {o : HO} (hi : i < h.os.length) (hr : ∀ ob, h.os[i]? = some ob → ∀ r ∈ u.refs, r ∈ ob.refs) : Tr j h H j (setO h i u) (upd H (j.at_ i) o) := by
  have hl : (setO h i u).os.length = h.os.length := by simp [setO]
  refine ⟨fun _ _ => rfl, R.kset hi, ⟨rfl, by rw [hl]; exact Nat.le_refl _, fun k o' hk e => ?_⟩, fun a u e n => ⟨by rw [upd_ne (Ne.symm (n i hi))]; exact e, id, by rw [hl]; exact n⟩⟩
  have e' : (h.os.set i u)[k]? = some o' := e
  by_cases hki : k = i
  · subst hki
    rw [List.getElem?_set_self hi] at e'
    cases e'
    exact ⟨h.os[k], by simp [hi], hr _ (by simp [hi])⟩
  · rw [List.getElem?_set_ne (Ne.symm hki)] at e'
    exact ⟨o', e', fun _ z => z⟩
/-- a new object of ours -/
def Gh.grow (j : Gh) (n : Nat) (p : Addr) : Gh := ⟨fun i => if i = n then p else j.at_ i, j.F⟩
theorem grow_lt {i : Nat} {p : Addr} (h : i < n) : (j.grow n p).at_ i = j.at_ i := if_neg (Nat.ne_of_lt h)
theorem grow_eq {p : Addr} : (j.grow n p).at_ n = p := if_pos rfl
theorem Rl.add {h : Hv} (R : Rl K mg j h H) {p : Addr} {u : Ob} {o : HO} (hp : H p = none)
    (new : RO K mg (j.grow h.os.length p) (h.os.length + 1) (upd H p o) p u) : Rl K mg (j.grow h.os.length p) { h with os := h.os ++ [u] } (upd H p o) := by
  have hl : ({ h with os := h.os ++ [u] } : Hv).os.length = h.os.length + 1 := by simp
  refine ⟨fun a b ha hb e => ?_, fun k ob e => ?_, by rw [hl]; exact Nat.le_succ_of_le R.lim, fun i hi => ?_, fun a m => ?_⟩
  · rw [hl] at ha hb
    by_cases a1 : a = h.os.length
    · by_cases b1 : b = h.os.length
      · omega
      · rw [a1, grow_eq, grow_lt (by omega)] at e
        exact (R.noMu hp b (by omega) e.symm).elim
    · by_cases b1 : b = h.os.length
      · rw [b1, grow_eq, grow_lt (by omega)] at e
        exact (R.noMu hp a (by omega) e).elim
      · rw [grow_lt (by omega), grow_lt (by omega)] at e
        exact R.inj a b (by omega) (by omega) e
  · rw [hl]
    have e' : (h.os ++ [u])[k]? = some ob := e
    by_cases hk : k < h.os.length
    · rw [List.getElem?_append_left hk] at e'
      rw [grow_lt hk]
      exact RO.mono (j' := j.grow h.os.length p) (fun i hi => grow_lt hi) (Nat.le_succ _) (R.kp hp) (upd_ne (R.noMu hp k hk)) (R.obj k ob e')
    · have hk2 : k = h.os.length := by
        have := (List.getElem?_eq_some_iff.mp e').1
        simp at this
        omega
      subst hk2
      rw [grow_eq]
      simp at e'
      subst e'
      exact new
  · rw [hl] at hi
    by_cases h1 : i = h.os.length
    · rw [h1, grow_eq]
      exact fun m => R.fd p m hp
    · rw [grow_lt (by omega)]
      exact R.nf i (by omega)
  · rw [((R.kp (o := o) hp).fix a m).2]; exact R.fd a m
theorem Tr.add {h : Hv} (R : Rl K mg j h H) {p : Addr} {u : Ob} {o : HO} (hp : H p = none) : Tr j h H (j.grow h.os.length p) { h with os := h.os ++ [u] } (upd H p o) := by
  have hl : ({ h with os := h.os ++ [u] } : Hv).os.length = h.os.length + 1 := by simp
  refine ⟨fun i hi => grow_lt hi, R.kp hp, ⟨rfl, by rw [hl]; exact Nat.le_succ _, fun k o' hk e => ?_⟩, fun a v e n => ⟨by rw [upd_ne (ne_of_none e hp)]; exact e, id, fun i hi => ?_⟩⟩
  rotate_left
  · rw [hl] at hi
    by_cases h1 : i = h.os.length
    · rw [h1, grow_eq]; exact Ne.symm (ne_of_none e hp)
    · rw [grow_lt (by omega)]; exact n i (by omega)
  have e' : (h.os ++ [u])[k]? = some o' := e
  have hk2 : k < h.os.length := Nat.lt_of_lt_of_le hk R.lim
  rw [List.getElem?_append_left hk2] at e'
  exact ⟨o', e', fun _ z => z⟩
end
/-- the names' slots -/
def REnv (K : PySem.W.Frag) (mg : Str → Option Value) (j : Gh) (n : Nat) (H : Hp) (e : Env) (σ : L2.St) : Prop :=
  e.length = σ.length ∧ ∀ (i : Nat) (p : PV), e[i]? = some (some p) → ∃ v, σ[i]? = some (some v) ∧ RV K mg j n H p v
section
variable {K : PySem.W.Frag} {mg : Str → Option Value} {j j' : Gh} {n n' : Nat} {H H' : Hp} {e : Env} {σ : L2.St}
theorem REnv.mono (ag : ∀ i, i < n → j'.at_ i = j.at_ i) (le : n ≤ n') (k : Kp j.F H j'.F H') (r : REnv K mg j n H e σ) : REnv K mg j' n' H' e σ :=
  ⟨r.1, fun i p h => let ⟨v, h1, h2⟩ := r.2 i p h; ⟨v, h1, RV.mono ag le k _ _ h2⟩⟩
theorem REnv.tr {h h' : Hv} (t : Tr j h H j' h' H') (r : REnv K mg j h.os.length H e σ) : REnv K mg j' h'.os.length H' e σ := r.mono t.ag t.sh.le t.kp
theorem REnv.set {i : Nat} {p : PV} {v : V} (r : REnv K mg j n H e σ) (hv : RV K mg j n H p v) : REnv K mg j n H (e.set i (some p)) (σ.set i (some v)) := by
  refine ⟨by simp [r.1], fun k q h => ?_⟩
  by_cases hk : k = i
  · subst hk
    by_cases hl : k < e.length
    · rw [List.getElem?_set_self hl] at h
      cases h
      exact ⟨v, List.getElem?_set_self (by rw [← r.1]; exact hl), hv⟩
    · rw [List.getElem?_eq_none (by simp; omega)] at h
      cases h
  · rw [List.getElem?_set_ne (Ne.symm hk)] at h
    obtain ⟨v', h1, h2⟩ := r.2 k q h
    exact ⟨v', by rw [List.getElem?_set_ne (Ne.symm hk)]; exact h1, h2⟩
theorem REnv.unset {i : Nat} (r : REnv K mg j n H e σ) : REnv K mg j n H (e.set i none) (σ.set i none) := by
  refine ⟨by simp [r.1], fun k q h => ?_⟩
  by_cases hk : k = i
  · subst hk
    by_cases hl : k < e.length
    · rw [List.getElem?_set_self hl] at h
      cases h
    · rw [List.getElem?_eq_none (by simp; omega)] at h
      cases h
  · rw [List.getElem?_set_ne (Ne.symm hk)] at h
    obtain ⟨v', h1, h2⟩ := r.2 k q h
    exact ⟨v', by rw [List.getElem?_set_ne (Ne.symm hk)]; exact h1, h2⟩
theorem REnv.wipe (r : REnv K mg j n H e σ) : ∀ vs : List Nat, REnv K mg j n H (NC.wipe e vs) (L2.wipe σ vs)
  | [] => r
  | v :: vs => (REnv.wipe r vs).unset
end
end NC
/-! Readings of the small syntax; rules by values. -/
namespace NC
open PySem PySem.Spec PyProof.Rows L2

theorem _root_.L2.PE.imp {X : Cx} {e : Expr} {t t' : TE} (h : PE X e t) (w : ∀ σ H Q, t' σ H Q → t σ H Q) : PE X e t' := ⟨fun pins s σ H Q I q => h.run pins s σ H Q I (w σ H Q q)⟩
theorem _root_.L2.PT.imp {X : Cx} {e : Expr} {t t' : TT} (h : PT X e t) (w : ∀ σ H Q, t' σ H Q → t σ H Q) : PT X e t' := ⟨fun pins s σ H Q I q => h.run pins s σ H Q I (w σ H Q q)⟩
theorem _root_.L2.PW.imp {X : Cx} {e : Expr} {t t' : TT} (h : PW X e t) (w : ∀ σ H Q, t' σ H Q → t σ H Q) : PW X e t' := ⟨fun wh pins s σ H Q I q => h.run wh pins s σ H Q I (w σ H Q q)⟩
theorem _root_.L2.PA.imp {X : Cx} {e : List Expr} {t t' : TA} (h : PA X e t) (w : ∀ σ H Q, t' σ H Q → t σ H Q) : PA X e t' := ⟨fun pos pins s σ H Q I q => h.run pos pins s σ H Q I (w σ H Q q)⟩
theorem _root_.L2.PS.imp {X : Cx} {e : Stmt} {t t' : TS} (h : PS X e t) (w : ∀ D σ H, t' D σ H → t D σ H) : PS X e t' := ⟨fun pins s σ H D I q => h.run pins s σ H D I (w D σ H q)⟩
theorem _root_.L2.PSs.imp {X : Cx} {e : List Stmt} {t t' : TS} (h : PSs X e t) (w : ∀ D σ H, t' D σ H → t D σ H) : PSs X e t' := ⟨fun pins s σ H D I q => h.run pins s σ H D I (w D σ H q)⟩
theorem _root_.L2.PI.imp {X : Cx} {tg e : Expr} {t t' : TI} (h : PI X tg e t) (w : ∀ σ H Q, t' σ H Q → t σ H Q) : PI X tg e t' := ⟨fun pins s σ H R I q => h.run pins s σ H R I (w σ H R q)⟩
theorem _root_.L2.PO.imp {X : Cx} {e : Option Expr} {t t' : TO} (h : PO X e t) (w : ∀ σ H Q, t' σ H Q → t σ H Q) : PO X e t' := ⟨fun pins s σ H Q I q => h.run pins s σ H Q I (w σ H Q q)⟩

/-- an exception of an own class without fields -/
def RX (mg : Str → Option Value) (c : Str) (fs : List (Str × PyData)) (cls : Value) (d : Option Addr) (H : Hp) : Prop := ∃ C, cls = .ref C ∧ mg c = some (.ref C) ∧ fs = [] ∧ d = none
/-- what an answer of the small semantics means -/
def Pst {α : Type} (K : PySem.W.Frag) (mg : Str → Option Value) (j : Gh) (h : Hv) (H : Hp) (r : Res α) (okk : α → Gh → Hv → Hp → Prop) (ek : XK) : Prop :=
  match r with
  | .ok a h' => ∀ j' H', Tr j h H j' h' H' → Rl K mg j' h' H' → okk a j' h' H'
  | .exc c fs h' => ∀ j' H' cls d, Tr j h H j' h' H' → Rl K mg j' h' H' → RX mg c fs cls d H' → ek cls d H'
  | .bad => False
section
variable {α β : Type} {K : PySem.W.Frag} {mg : Str → Option Value} {j j1 : Gh} {h h1 : Hv} {H H1 : Hp} {r : Res α} {ok1 ok2 : α → Gh → Hv → Hp → Prop} {ek ek' : XK}
theorem Pst.at (p : Pst K mg j h H r ok1 ek) (t : Tr j h H j1 h1 H1) : Pst K mg j1 h1 H1 r ok1 ek := by
  cases r with
  | ok a h' => exact fun j' H' t' R => p j' H' (t.trans t') R
  | exc c fs h' => exact fun j' H' cls d t' R x => p j' H' cls d (t.trans t') R x
  | bad => exact p
theorem Pst.imp (p : Pst K mg j h H r ok1 ek) (w : ∀ a j' h' H', Tr j h H j' h' H' → Rl K mg j' h' H' → ok1 a j' h' H' → ok2 a j' h' H') : Pst K mg j h H r ok2 ek := by
  cases r with
  | ok a h' => exact fun j' H' t R => w a j' h' H' t R (p j' H' t R)
  | exc c fs h' => exact p
  | bad => exact p
theorem Pst.impE (p : Pst K mg j h H r ok1 ek) (w : ∀ cls d H', ek cls d H' → ek' cls d H') : Pst K mg j h H r ok1 ek' := by
  cases r with
  | ok a h' => exact p
  | exc c fs h' => exact fun j' H' cls d t R x => w _ _ _ (p j' H' cls d t R x)
  | bad => exact p
theorem Pst.bind {f : α → Hv → Res β} {okb : β → Gh → Hv → Hp → Prop} (p : Pst K mg j h H (r.bind f) okb ek) : Pst K mg j h H r (fun a j' h' H' => Pst K mg j' h' H' (f a h') okb ek) ek := by
  cases r with
  | ok a h' => exact fun j' H' t R => Pst.at (r := f a h') p t
  | exc c fs h' => exact p
  | bad => exact p
theorem Pst.here {a : α} (p : Pst K mg j h H (.ok a h) ok1 ek) (R : Rl K mg j h H) : ok1 a j h H := p j H Tr.refl R
end

/-- a wish of a value -/
abbrev okV (K : PySem.W.Frag) (mg : Str → Option Value) (Q : VK) : PV → Gh → Hv → Hp → Prop := fun v j h H => ∀ u, RV K mg j h.os.length H v u → Q u H
abbrev okVs (K : PySem.W.Frag) (mg : Str → Option Value) (Q : List V → Hp → Prop) : List PV → Gh → Hv → Hp → Prop := fun v j h H => ∀ u, RVs K mg j h.os.length H v u → Q u H
abbrev okB (Q : Bool → Hp → Prop) : PV → Gh → Hv → Hp → Prop := fun v j h H => ∃ b, v = .d (.bool b) ∧ Q b H
abbrev okO (Q : Option Int → Hp → Prop) : Option PV → Gh → Hv → Hp → Prop := fun v j h H => ∃ o, Q o H ∧ match v, o with
  | none, none => True
  | some (.d (.int i)), some k => i = k
  | _, _ => False
/-- the situation of a reading: names and objects lie as the small state says -/
def At (K : PySem.W.Frag) (mg : Str → Option Value) (σ : L2.St) (H : Hp) (f : Gh → Env → Hv → Prop) : Prop := ∃ j e h, Rl K mg j h H ∧ REnv K mg j h.os.length H e σ ∧ f j e h
def tE (K : PySem.W.Frag) (mg : Str → Option Value) (W : WX) (x : Env → Hv → Res PV) : TE := fun σ H Q => At K mg σ H fun j e h => Pst K mg j h H (x e h) (okV K mg Q) fun c d H' => W c d σ H'
def tT (K : PySem.W.Frag) (mg : Str → Option Value) (W : WX) (x : Env → Hv → Res PV) : TT := fun σ H Q => At K mg σ H fun j e h => Pst K mg j h H (x e h) (okB Q) fun c d H' => W c d σ H'
def tA (K : PySem.W.Frag) (mg : Str → Option Value) (W : WX) (x : Env → Hv → Res (List PV)) : TA := fun σ H Q => At K mg σ H fun j e h => Pst K mg j h H (x e h) (okVs K mg Q) fun c d H' => W c d σ H'
def tO (K : PySem.W.Frag) (mg : Str → Option Value) (W : WX) (x : Env → Hv → Res (Option PV)) : TO := fun σ H Q => At K mg σ H fun j e h => Pst K mg j h H (x e h) (okO Q) fun c d H' => W c d σ H'
section
variable {K : PySem.W.Frag} {mg : Str → Option Value} {W : WX} {σ : L2.St} {H : Hp} {j : Gh} {e : Env} {h : Hv}
/-- a part, then the rest -/
theorem thenE {x : Env → Hv → Res PV} {f : PV → Hv → Res β} {okb : β → Gh → Hv → Hp → Prop} {Q : VK} (R : Rl K mg j h H) (E : REnv K mg j h.os.length H e σ) (p : Pst K mg j h H ((x e h).bind f) okb fun c d H' => W c d σ H')
    (w : ∀ v u j1 h1 H1, Tr j h H j1 h1 H1 → Rl K mg j1 h1 H1 → REnv K mg j1 h1.os.length H1 e σ → RV K mg j1 h1.os.length H1 v u → Pst K mg j1 h1 H1 (f v h1) okb (fun c d H' => W c d σ H') → Q u H1) : tE K mg W x σ H Q :=
  ⟨j, e, h, R, E, p.bind.imp fun v j1 h1 H1 t R1 q u ru => w v u j1 h1 H1 t R1 (E.tr t) ru q⟩
theorem thenA {x : Env → Hv → Res (List PV)} {f : List PV → Hv → Res β} {okb : β → Gh → Hv → Hp → Prop} {Q : List V → Hp → Prop} (R : Rl K mg j h H) (E : REnv K mg j h.os.length H e σ) (p : Pst K mg j h H ((x e h).bind f) okb fun c d H' => W c d σ H')
    (w : ∀ v u j1 h1 H1, Tr j h H j1 h1 H1 → Rl K mg j1 h1 H1 → REnv K mg j1 h1.os.length H1 e σ → RVs K mg j1 h1.os.length H1 v u → Pst K mg j1 h1 H1 (f v h1) okb (fun c d H' => W c d σ H') → Q u H1) : tA K mg W x σ H Q :=
  ⟨j, e, h, R, E, p.bind.imp fun v j1 h1 H1 t R1 q u ru => w v u j1 h1 H1 t R1 (E.tr t) ru q⟩
theorem thenT {x : Env → Hv → Res PV} {f : Bool → Hv → Res β} {okb : β → Gh → Hv → Hp → Prop} {Q : Bool → Hp → Prop} (R : Rl K mg j h H) (E : REnv K mg j h.os.length H e σ) (p : Pst K mg j h H (tst (x e h) f) okb fun c d H' => W c d σ H')
    (w : ∀ b j1 h1 H1, Tr j h H j1 h1 H1 → Rl K mg j1 h1 H1 → REnv K mg j1 h1.os.length H1 e σ → Pst K mg j1 h1 H1 (f b h1) okb (fun c d H' => W c d σ H') → Q b H1) : tT K mg W x σ H Q := by
  refine ⟨j, e, h, R, E, (Pst.bind p).imp fun v j1 h1 H1 t R1 q => ?_⟩
  cases v with
  | d y =>
    cases y with
    | bool b => exact ⟨b, rfl, w b j1 h1 H1 t R1 (E.tr t) q⟩
    | _ => exact (show False from q).elim
  | _ => exact (show False from q).elim
/-- the same where a test is read as a value -/
theorem thenV {x : Env → Hv → Res PV} {f : Bool → Hv → Res β} {okb : β → Gh → Hv → Hp → Prop} {Q : VK} (R : Rl K mg j h H) (E : REnv K mg j h.os.length H e σ) (p : Pst K mg j h H (tst (x e h) f) okb fun c d H' => W c d σ H')
    (w : ∀ b j1 h1 H1, Tr j h H j1 h1 H1 → Rl K mg j1 h1 H1 → REnv K mg j1 h1.os.length H1 e σ → Pst K mg j1 h1 H1 (f b h1) okb (fun c d H' => W c d σ H') → Q (.bl b) H1) : tE K mg W x σ H Q := by
  refine ⟨j, e, h, R, E, (Pst.bind p).imp fun v j1 h1 H1 t R1 q u ru => ?_⟩
  cases v with
  | d y =>
    cases y with
    | bool b =>
      cases ru with
      | d ru => cases ru; exact w b j1 h1 H1 t R1 (E.tr t) q
    | _ => exact (show False from q).elim
  | _ => exact (show False from q).elim
theorem tT_of {x : Env → Hv → Res PV} {Q : Bool → Hp → Prop} (h : tT K mg W x σ H Q) : tE K mg W x σ H fun v H1 => ∃ c, v = .bl c ∧ Q c H1 := by
  obtain ⟨j, e, hh, R, E, p⟩ := h
  refine ⟨j, e, hh, R, E, p.imp fun v j1 h1 H1 t R1 q u ru => ?_⟩
  obtain ⟨b, rfl, q⟩ := q
  cases ru with
  | d ru => cases ru; exact ⟨b, rfl, q⟩
end

/-! ### rules by values -/
section
variable {X : Cx} {K : PySem.W.Frag} {mg : Str → Option Value} {j : Gh} {h : Hv} {H : Hp}
/-- what a rule of two values has to serve -/
def Srv2 (K : PySem.W.Frag) (mg : Str → Option Value) (f : PV → PV → Hv → Res PV) (r : R2) : Prop :=
  ∀ (x y : PV) (u v : V) (j : Gh) (h : Hv) (H : Hp) (Q : VK) (ek : XK), Rl K mg j h H → RV K mg j h.os.length H x u → RV K mg j h.os.length H y v → Pst K mg j h H (f x y h) (okV K mg Q) ek → r u v H Q
def Srv1 (K : PySem.W.Frag) (mg : Str → Option Value) (f : PV → Hv → Res PV) (r : V → Hp → VK → Prop) : Prop :=
  ∀ (x : PV) (u : V) (j : Gh) (h : Hv) (H : Hp) (Q : VK) (ek : XK), Rl K mg j h H → RV K mg j h.os.length H x u → Pst K mg j h H (f x h) (okV K mg Q) ek → r u H Q
/-- a new tuple, a new list that stays as it is -/
theorem fin_tup {Q : VK} {ek : XK} {ds : List PyData} {vs : List V} (R : Rl K mg j h H) (r : RDs K j.F H ds vs) (p : Pst K mg j h H (.ok (.d (.tuple ds)) h) (okV K mg Q) ek) :
    ∀ a, H a = none → Q (.ref a) (upd H a (.tup vs)) := fun a ha =>
  p j _ (Tr.new R ha) (R.new ha) _ (.d (.tup (.of upd_same) (RDs.mono (R.kp ha) _ _ r)))
theorem fin_lst {Q : VK} {ek : XK} {ds : List PyData} {vs : List V} (R : Rl K mg j h H) (r : RDs K j.F H ds vs) (p : Pst K mg j h H (.ok (.d (.list ds)) h) (okV K mg Q) ek) :
    ∀ a, H a = none → Q (.ref a) (upd H a (.lst vs)) := fun a ha =>
  p (j.fix a) _ ((Tr.new R ha).fix ha) ((R.new ha).fix (R.noMu ha) (by rw [upd_same]; exact fun z => nomatch z)) _ (.d (.lst upd_same (.inr rfl) (RDs.mono ((R.kp ha).trans (.more fun _ m => .inl m)) _ _ r)))
theorem line16 : sizeLine = 16777216 := by show 2 ^ 24 = 16777216; decide
/-- a // b, b not 0, of whatever sign -/
theorem op_fdivZ {X : Cx} : OpR X (binaryOp .FloorDiv) (rI (fun _ j => dvOk j = true) fun i j => .int (i.fdiv j)) := opI fun i j _ _ _ _ _ hc q => by
  have hc' : (decide (j ≠ 0) && decide (j.natAbs.log2 < 8999)) = true := hc
  rw [Bool.and_eq_true] at hc'
  exact floordiv_int (of_decide_eq_true hc'.1) q (.inl (PyProof.noPylong_of_log2 (Nat.lt_trans (of_decide_eq_true hc'.2) (by decide))))
theorem powOk_ok {i j : Int} (h : powOk i j = true) : CPow i j := by
  unfold powOk at h
  rw [Bool.and_eq_true, Bool.and_eq_true] at h
  refine ⟨of_decide_eq_true h.1.1, of_decide_eq_true h.1.2, Nat.lt_of_lt_of_le Nat.lt_log2_self (Nat.pow_le_pow_right (by decide) ?_)⟩
  have := of_decide_eq_true h.2
  omega
theorem lnOk_le {n : Nat} (h : lnOk n = true) : n ≤ sizeLine := by rw [line16]; exact of_decide_eq_true h
theorem szOk_mul {i j : Int} (h1 : szOk i = true) (h2 : szOk j = true) : CMulX i j := by
  have a : i.natAbs.log2 < 60000000 := of_decide_eq_true h1
  have b : j.natAbs.log2 < 60000000 := of_decide_eq_true h2
  exact mulx_ok (a := 60000000) (b := 60000000) (Nat.lt_of_lt_of_le Nat.lt_log2_self (Nat.pow_le_pow_right (by decide) a)) (Nat.lt_of_lt_of_le Nat.lt_log2_self (Nat.pow_le_pow_right (by decide) b)) (by decide)
end
end NC
/-! Operators and comparisons: what the small semantics tells, the machine does. -/
namespace NC
open PySem PySem.Spec PyProof.Rows L2
section
variable {X : Cx} {K : PySem.W.Frag} {mg : Str → Option Value} {j : Gh} {h : Hv} {H : Hp}
theorem op_snd {o : Op} {opr : Operator} (hc : chkOp o opr = true) : ∃ r, OpR X (binaryOp opr) r ∧ Srv2 X.K X.mg (NC.op o) r := by
  cases o <;> cases opr <;> first | (exact absurd hc (by decide)) | skip
  · refine ⟨_, op_add.or (op_add_str.or (op_catA.or op_cat)), fun x y u v j h H Q ek R rx ry p => ?_⟩
    unfold NC.op at p
    split at p <;> first | (rename_i q _ _; exact absurd q (by decide)) | (rename_i q _; exact absurd q (by decide)) | (rename_i q; exact absurd q (by decide)) | skip
    · cases rx with | d rx => cases rx; cases ry with | d ry => cases ry; exact .inl ⟨_, _, rfl, rfl, p.here R _ (.d (.int _))⟩
    · cases rx with | d rx => cases rx; cases ry with | d ry => cases ry; split at p; exact .inr (.inl ⟨_, _, rfl, rfl, lnOk_le ‹_›, p.here R _ (.d (.str _))⟩); exact p.elim
    · cases rx with
      | d rx =>
        cases ry with
        | d ry =>
          cases rx with
          | tup zx qx =>
            cases ry with
            | tup zy qy =>
              split at p
              · refine .inr (.inr (.inl ⟨_, _, _, _, rfl, rfl, zx, zy, by rw [← qx.length, ← qy.length]; exact lnOk_le ‹_›, fun e => ?_, fun _ e => ?_, fun _ _ => fin_tup R (qx.append qy) p⟩))
                · subst e
                  cases qx
                  exact p.here R _ (.d (.tup zy qy))
                · subst e
                  cases qy
                  rw [List.append_nil] at p
                  exact p.here R _ (.d (.tup zx qx))
              · exact p.elim
    · cases rx with
      | d rx =>
        cases ry with
        | d ry =>
          cases rx with
          | lst zx mx qx =>
            cases ry with
            | lst zy my qy =>
              split at p
              · exact .inr (.inr (.inr ⟨_, _, _, _, rfl, rfl, zx, zy, by rw [← qx.length, ← qy.length]; exact lnOk_le ‹_›, fin_lst R (qx.append qy) p⟩))
              · exact p.elim
    · exact p.elim
  · refine ⟨_, op_sub, fun x y u v j h H Q ek R rx ry p => ?_⟩
    unfold NC.op at p
    split at p <;> first | (rename_i q _ _; exact absurd q (by decide)) | (rename_i q _; exact absurd q (by decide)) | (rename_i q; exact absurd q (by decide)) | skip
    · cases rx with | d rx => cases rx; cases ry with | d ry => cases ry; exact ⟨_, _, rfl, rfl, p.here R _ (.d (.int _))⟩
    · exact p.elim
  · refine ⟨_, op_mulX, fun x y u v j h H Q ek R rx ry p => ?_⟩
    unfold NC.op at p
    split at p <;> first | (rename_i q _ _; exact absurd q (by decide)) | (rename_i q _; exact absurd q (by decide)) | (rename_i q; exact absurd q (by decide)) | skip
    · split at p
      · rename_i hz
        rw [Bool.and_eq_true] at hz
        cases rx with | d rx => cases rx; cases ry with | d ry => cases ry; exact ⟨_, _, rfl, rfl, szOk_mul hz.1 hz.2, p.here R _ (.d (.int _))⟩
      · exact p.elim
    · exact p.elim
  · refine ⟨_, op_fdivZ, fun x y u v j h H Q ek R rx ry p => ?_⟩
    unfold NC.op at p
    split at p <;> first | (rename_i q _ _; exact absurd q (by decide)) | (rename_i q _; exact absurd q (by decide)) | (rename_i q; exact absurd q (by decide)) | skip
    · split at p
      · cases rx with | d rx => cases rx; cases ry with | d ry => cases ry; exact ⟨_, _, rfl, rfl, ‹_›, p.here R _ (.d (.int _))⟩
      · exact p.elim
    · exact p.elim
  · refine ⟨_, op_modN, fun x y u v j h H Q ek R rx ry p => ?_⟩
    unfold NC.op at p
    split at p <;> first | (rename_i q _ _; exact absurd q (by decide)) | (rename_i q _; exact absurd q (by decide)) | (rename_i q; exact absurd q (by decide)) | skip
    · split at p
      · cases rx with | d rx => cases rx; cases ry with | d ry => cases ry; exact ⟨_, _, rfl, rfl, of_decide_eq_true ‹_›, p.here R _ (.d (.int _))⟩
      · exact p.elim
    · exact p.elim
  · refine ⟨_, op_pow, fun x y u v j h H Q ek R rx ry p => ?_⟩
    unfold NC.op at p
    split at p <;> first | (rename_i q _ _; exact absurd q (by decide)) | (rename_i q _; exact absurd q (by decide)) | (rename_i q; exact absurd q (by decide)) | skip
    · split at p
      · cases rx with | d rx => cases rx; cases ry with | d ry => cases ry; exact ⟨_, _, rfl, rfl, powOk_ok ‹_›, p.here R _ (.d (.int _))⟩
      · exact p.elim
    · exact p.elim
/-- what is asked about room -/
structure Roomy (A : Around) : Prop where
  un : A.units + 200 < cLine
  gd : A.guards = some []
theorem flat_of {M : Addr → Prop} {d : PyData} {v : V} (r : RD K M H d v) (f : flatD d = true) : flatV v = true := by
  cases r <;> first | rfl | exact absurd f (by simp [flatD])
theorem eqv_of {M : Addr → Prop} {d e : PyData} {v u : V} (r : RD K M H d v) (q : RD K M H e u) (f : flatD d = true) (g : flatD e = true) : PyData.eqv d e = eqV v u := by
  cases r <;> cases q <;> first | (simp [PyData.eqv, eqV]; done) | exact absurd f (by simp [flatD]) | exact absurd g (by simp [flatD])
theorem flats_of {M : Addr → Prop} : ∀ {ds : List PyData} {vs : List V}, RDs K M H ds vs → ds.all flatD = true → vs.all flatV = true
  | _, _, .nil, _ => rfl
  | _, _, .cons a b, f => by
    rw [List.all_cons, Bool.and_eq_true] at f ⊢
    exact ⟨flat_of a f.1, flats_of b f.2⟩
theorem inV_of {M : Addr → Prop} {x : PyData} {u : V} (rx : RD K M H x u) (fx : flatD x = true) : ∀ {ds : List PyData} {vs : List V}, RDs K M H ds vs → ds.all flatD = true → (ds.any fun y => PyData.eqv y x) = inV u vs
  | _, _, .nil, _ => rfl
  | _, _, .cons a b, f => by
    rw [List.all_cons, Bool.and_eq_true] at f
    unfold inV
    rw [List.any_cons, List.any_cons, eqv_of a rx f.1 fx]
    exact congrArg _ (inV_of rx fx b f.2)
theorem items_sq {M : Addr → Prop} {d : PyData} {xs : List PyData} {v : V} (r : RD K M H d v) (h : itemsD d = some xs) : ∃ a vs, v = .ref a ∧ (SqL K H a vs ∨ SqT K H a vs) ∧ RDs K M H xs vs := by
  cases r with
  | lst z m q => cases h; exact ⟨_, _, rfl, .inl (.of z), q⟩
  | tup z q => cases h; exact ⟨_, _, rfl, .inr z, q⟩
  | _ => cases h
theorem cm_snd {o : Cm} {opr : CmpOp} (A : Roomy X.A) (hc : chkCm o opr = true) : ∃ r, OpR X (compareOp opr) r ∧ Srv2 X.K X.mg (NC.cm o) r := by
  have hu : X.A.units + 64 < cLine := by have := A.un; omega
  cases o <;> cases opr <;> first | (exact absurd hc (by decide)) | skip
  · refine ⟨_, (op_eqD hu).or op_eq, fun x y u v j h H Q ek R rx ry p => ?_⟩
    unfold NC.cm at p
    split at p <;> first | (rename_i q _ _; exact absurd q (by decide)) | (rename_i q _; exact absurd q (by decide)) | (rename_i q; exact absurd q (by decide)) | skip
    · cases rx with | d rx => cases ry with | d ry =>
      split at p
      · rename_i hz
        unfold eqOk at hz
        rw [Bool.or_eq_true, Bool.and_eq_true] at hz
        rcases hz with hz | hz
        · cases rx <;> cases ry <;> first | (simp [bothStr] at hz; done) | skip
          refine .inr ⟨rfl, ?_⟩
          have := p.here R _ (.d (.bl _))
          rw [dec_str]
          simpa [PyData.eqv] using this
        · exact .inl ⟨_, _, rx.dp, ry.dp, hz.1, hz.2, p.here R _ (.d (.bl _))⟩
      · exact p.elim
    · exact p.elim
  · refine ⟨_, (op_neD hu).or op_ne, fun x y u v j h H Q ek R rx ry p => ?_⟩
    unfold NC.cm at p
    split at p <;> first | (rename_i q _ _; exact absurd q (by decide)) | (rename_i q _; exact absurd q (by decide)) | (rename_i q; exact absurd q (by decide)) | skip
    · cases rx with | d rx => cases ry with | d ry =>
      split at p
      · rename_i hz
        unfold eqOk at hz
        rw [Bool.or_eq_true, Bool.and_eq_true] at hz
        rcases hz with hz | hz
        · cases rx <;> cases ry <;> first | (simp [bothStr] at hz; done) | skip
          refine .inr ⟨rfl, ?_⟩
          have := p.here R _ (.d (.bl _))
          rw [dec_str]
          simpa [PyData.eqv] using this
        · exact .inl ⟨_, _, rx.dp, ry.dp, hz.1, hz.2, p.here R _ (.d (.bl _))⟩
      · exact p.elim
    · exact p.elim
  · refine ⟨_, op_lt, fun x y u v j h H Q ek R rx ry p => ?_⟩
    unfold NC.cm at p
    split at p <;> first | (rename_i q _ _; exact absurd q (by decide)) | (rename_i q _; exact absurd q (by decide)) | (rename_i q; exact absurd q (by decide)) | skip
    · cases rx with | d rx => cases rx; cases ry with | d ry => cases ry; exact ⟨_, _, rfl, rfl, p.here R _ (.d (.bl _))⟩
    · exact p.elim
  · refine ⟨_, op_le, fun x y u v j h H Q ek R rx ry p => ?_⟩
    unfold NC.cm at p
    split at p <;> first | (rename_i q _ _; exact absurd q (by decide)) | (rename_i q _; exact absurd q (by decide)) | (rename_i q; exact absurd q (by decide)) | skip
    · cases rx with | d rx => cases rx; cases ry with | d ry => cases ry; exact ⟨_, _, rfl, rfl, p.here R _ (.d (.bl _))⟩
    · exact p.elim
  · refine ⟨_, op_gt, fun x y u v j h H Q ek R rx ry p => ?_⟩
    unfold NC.cm at p
    split at p <;> first | (rename_i q _ _; exact absurd q (by decide)) | (rename_i q _; exact absurd q (by decide)) | (rename_i q; exact absurd q (by decide)) | skip
    · cases rx with | d rx => cases rx; cases ry with | d ry => cases ry; exact ⟨_, _, rfl, rfl, p.here R _ (.d (.bl _))⟩
    · exact p.elim
  · refine ⟨_, op_ge, fun x y u v j h H Q ek R rx ry p => ?_⟩
    unfold NC.cm at p
    split at p <;> first | (rename_i q _ _; exact absurd q (by decide)) | (rename_i q _; exact absurd q (by decide)) | (rename_i q; exact absurd q (by decide)) | skip
    · cases rx with | d rx => cases rx; cases ry with | d ry => cases ry; exact ⟨_, _, rfl, rfl, p.here R _ (.d (.bl _))⟩
    · exact p.elim
  · refine ⟨_, op_isBl.or op_isN, fun x y u v j h H Q ek R rx ry p => ?_⟩
    unfold NC.cm at p
    split at p <;> first | (rename_i q _ _; exact absurd q (by decide)) | (rename_i q _; exact absurd q (by decide)) | (rename_i q; exact absurd q (by decide)) | skip
    · cases rx with | d rx => cases rx; cases ry with | d ry => cases ry; exact .inl ⟨_, _, rfl, rfl, by rw [← Bool.beq_eq_decide_eq]; exact p.here R _ (.d (.bl _))⟩
    · exact p.elim
  · refine ⟨_, op_notBl.or op_notN, fun x y u v j h H Q ek R rx ry p => ?_⟩
    unfold NC.cm at p
    split at p <;> first | (rename_i q _ _; exact absurd q (by decide)) | (rename_i q _; exact absurd q (by decide)) | (rename_i q; exact absurd q (by decide)) | skip
    · cases rx with | d rx => cases rx; cases ry with | d ry => cases ry; exact .inl ⟨_, _, rfl, rfl, by rw [← Bool.beq_eq_decide_eq]; exact p.here R _ (.d (.bl _))⟩
    · exact p.elim
  · refine ⟨_, op_in_seq, fun x y u v j h H Q ek R rx ry p => ?_⟩
    unfold NC.cm at p
    split at p <;> first | (rename_i q _ _; exact absurd q (by decide)) | (rename_i q _; exact absurd q (by decide)) | (rename_i q; exact absurd q (by decide)) | skip
    · cases rx with | d rx => cases ry with | d ry =>
      split at p
      · rename_i xs hxs
        split at p
        · rename_i hf
          rw [Bool.and_eq_true] at hf
          obtain ⟨a, vs, rfl, hs, q⟩ := items_sq ry hxs
          refine ⟨a, vs, rfl, hs, flat_of rx hf.1, flats_of q hf.2, ?_⟩
          rw [inV_of rx hf.1 q hf.2] at p
          exact p.here R _ (.d (.bl _))
        · exact p.elim
      · exact p.elim
    · exact p.elim
  · refine ⟨_, op_notIn_seq, fun x y u v j h H Q ek R rx ry p => ?_⟩
    unfold NC.cm at p
    split at p <;> first | (rename_i q _ _; exact absurd q (by decide)) | (rename_i q _; exact absurd q (by decide)) | (rename_i q; exact absurd q (by decide)) | skip
    · cases rx with | d rx => cases ry with | d ry =>
      split at p
      · rename_i xs hxs
        split at p
        · rename_i hf
          rw [Bool.and_eq_true] at hf
          obtain ⟨a, vs, rfl, hs, q⟩ := items_sq ry hxs
          refine ⟨a, vs, rfl, hs, flat_of rx hf.1, flats_of q hf.2, ?_⟩
          rw [inV_of rx hf.1 q hf.2] at p
          exact p.here R _ (.d (.bl _))
        · exact p.elim
      · exact p.elim
    · exact p.elim
end
end NC
/-! Built-in functions, subscripts, slices, methods of lists, stores: what the small semantics tells, the machine does. -/
namespace NC
open PySem PySem.Spec PyProof.Rows L2

theorem chk_nostar {D : List Str} {sc : Scope} {N : List Str} {a : E} {v : Expr} {p : Pos} : chkE D sc N a (.Starred v p) = false := by
  cases a <;> first | rfl | (rename_i o _ _; cases o <;> rfl)
theorem star_cons {e : Expr} {es : List Expr} {env : PySem.Env} (h : ∀ v p, e ≠ .Starred v p) : starEach (e :: es) env = (false, eval e env) :: starEach es env := by
  cases e <;> first | rfl | exact absurd rfl (h _ _)
theorem chk_ns {D : List Str} {sc : Scope} {N : List Str} {a : E} {e : Expr} (h : chkE D sc N a e = true) : ∀ v p, e ≠ .Starred v p := by
  rintro v p rfl
  rw [chk_nostar] at h
  cases h
section
variable {X : Cx} {K : PySem.W.Frag} {mg : Str → Option Value} {j : Gh} {h : Hv} {H : Hp}
/-- a built-in of one argument -/
def CallP (X : Cx) (x : Str) (r : V → Hp → VK → Prop) : Prop :=
  ∀ (e : Expr) (t : TE) (p pos : Pos), (∀ v q, e ≠ .Starred v q) → PE X e t → Gl X x → X.mg x = none → PE X (.Call (.Name x p) [e] [] pos) (tUn r t)
theorem callP_B {x : Str} {id : String} {r : List V → Hp → VK → Prop} (hc : CallR X (.builtin id) r) (hv : bootBuiltins x = some (.builtin id)) (hn : x ≠ "__name__") (hdb : (x == ("__debug__" : Str)) = false) : CallP X x (fun u H Q => r [u] H Q) :=
  fun e t p pos ns he hg hm => (pe_callB hc hg hm hv (pa_cons he pa_nil (star_cons ns)) hn hdb (star_cons ns) rfl).imp fun _ _ _ q => q
theorem callP_T {x : Str} {id : String} {r : List V → Hp → VK → Prop} (hc : CallR X (.type id) r) (hv : bootBuiltins x = some (.type id)) (hn : x ≠ "__name__") (hdb : (x == ("__debug__" : Str)) = false) : CallP X x (fun u H Q => r [u] H Q) :=
  fun e t p pos ns he hg hm => (pe_callTy hc hg hm hv (pa_cons he pa_nil (star_cons ns)) hn hdb (star_cons ns) rfl).imp fun _ _ _ q => q
theorem CallR.or {f : Value} {r r' : List V → Hp → VK → Prop} (h : CallR X f r) (h' : CallR X f r') : CallR X f fun xs H Q => r xs H Q ∨ r' xs H Q := by
  intro pins s σ H xs us Q I rx q
  rcases q with q | q
  · exact h pins s σ H xs us Q I rx q
  · exact h' pins s σ H xs us Q I rx q
/-- repr of a list, a tuple -/
theorem call_reprD (A : Roomy X.A) : CallR X (.builtin "repr") (fun xs H Q => ∃ a d, xs = [.ref a] ∧ Dp X.K H (.ref a) d ∧ d.showable = true ∧ d.hasDict = false ∧ d.depth ≤ 64 ∧ d.shown.length ≤ sizeLine ∧ Q (.str d.shown) H) := by
  intro pins s σ H xs us Q I rx q
  obtain ⟨a, d, rfl, hd, hs, hn, h64, hz, q⟩ := q
  obtain ⟨u, rfl, ru⟩ := vals1 rx
  cases ru
  obtain ⟨as, rd⟩ := Dp.reads I d _ _ hd (show RelV (.ref a) (.ref a) from rfl)
  refine repr_of_reads' rd hs (PyData.noDict_hsm hn) A.gd (by have := A.un; omega) (fun _ _ e => e) (fun h' u tk hk => ?_) hz
  exact ⟨.str d.shown, H, I.kept hk, ⟨u, rfl⟩, q⟩
theorem allB_bl {M : Addr → Prop} : ∀ {ds : List PyData} {vs : List V} {bs : List Bool}, RDs K M H ds vs → allB ds = some bs → vs = bs.map V.bl
  | _, _, _, .nil, e => by cases e; rfl
  | .bool b :: ds, _, _, .cons a r, e => by
    cases a
    unfold allB at e
    cases q : allB ds with
    | none => rw [q] at e; cases e
    | some cs =>
      rw [q] at e
      cases e
      rw [allB_bl r q]
      rfl
  | .none :: _, _, _, .cons _ _, e => by cases e
  | .int _ :: _, _, _, .cons _ _, e => by cases e
  | .str _ :: _, _, _, .cons _ _, e => by cases e
  | .list _ :: _, _, _, .cons _ _, e => by cases e
  | .tuple _ :: _, _, _, .cons _ _, e => by cases e
  | .dict _ :: _, _, _, .cons _ _, e => by cases e
theorem shaped_dict {d : PyData} (h : SeqAt.shaped d = true) : d.hasDict = false := PyData.hasDict_of_canLay d (SeqAt.canLay_of_shaped h)
theorem obj_lst (R : Rl K mg j h H) {n : Nat} {xs : List PyData} (e : h.os[n]? = some (.lst xs)) : n < h.os.length ∧ ∃ vs, H (j.at_ n) = some (.lst vs) ∧ RDs K j.F H xs vs :=
  ⟨(List.getElem?_eq_some_iff.mp e).1, R.obj n _ e⟩
theorem bi_snd (b : Bi) (A : Roomy X.A) (hc : X.calm = true) : ∃ r, CallP X b.nm r ∧ Srv1 X.K X.mg (NC.bi b) r := by
  cases b
  · refine ⟨_, callP_B call_abs (by decide +kernel) (by decide) (by decide), fun x u j h H Q ek R rx p => ?_⟩
    unfold NC.bi at p
    split at p <;> first | (rename_i q _; exact absurd q (by decide)) | (rename_i q; exact absurd q (by decide)) | skip
    · cases rx with | d rx => cases rx; exact ⟨_, rfl, p.here R _ (.d (.int _))⟩
    · exact p.elim
  · refine ⟨_, callP_B call_len PySem.boot_len (by decide) (by decide), fun x u j h H Q ek R rx p => ?_⟩
    unfold NC.bi at p
    split at p <;> first | (rename_i q _; exact absurd q (by decide)) | (rename_i q; exact absurd q (by decide)) | skip
    · cases rx with | d rx =>
      cases rx
      split at p
      · exact ⟨_, _, rfl, ⟨lnOk_le ‹_›, rfl⟩, p.here R _ (.d (.int _))⟩
      · exact p.elim
    · cases rx with | d rx => cases rx with | tup z q => exact ⟨_, _, rfl, .inr ⟨_, z, q.length⟩, p.here R _ (.d (.int _))⟩
    · cases rx with | d rx => cases rx with | lst z m q => exact ⟨_, _, rfl, .inl ⟨_, .of z, q.length⟩, p.here R _ (.d (.int _))⟩
    · cases rx with | scr z q => exact ⟨_, _, rfl, .inl ⟨_, z.sq, q.length⟩, p.here R _ (.d (.int _))⟩
    · split at p
      · rename_i e
        obtain ⟨hn, vs, e1, q⟩ := obj_lst R e
        cases rx with | ref hi => exact ⟨_, _, rfl, .inl ⟨_, .of e1, q.length⟩, p.here R _ (.d (.int _))⟩
      · exact p.elim
    · exact p.elim
  · refine ⟨_, callP_T call_int1 (by decide +kernel) (by decide) (by decide), fun x u j h H Q ek R rx p => ?_⟩
    unfold NC.bi at p
    split at p <;> first | (rename_i q _; exact absurd q (by decide)) | (rename_i q; exact absurd q (by decide)) | skip
    · cases rx with | d rx => cases rx; exact .inl ⟨_, rfl, p.here R _ (.d (.int _))⟩
    · cases rx with | d rx => cases rx; exact .inr ⟨_, rfl, p.here R _ (.d (.int _))⟩
    · exact p.elim
  · refine ⟨_, callP_B (call_reprD A) (by decide +kernel) (by decide) (by decide), fun x u j h H Q ek R rx p => ?_⟩
    unfold NC.bi at p
    split at p <;> first | (rename_i q _; exact absurd q (by decide)) | (rename_i q; exact absurd q (by decide)) | skip
    · rename_i d
      cases rx with | d rx =>
      split at p
      · rename_i hz
        rw [Bool.and_eq_true, Bool.and_eq_true, Bool.and_eq_true] at hz
        obtain ⟨⟨⟨h1, h2⟩, h3⟩, h4⟩ := hz
        obtain ⟨xs, hx⟩ := Option.isSome_iff_exists.mp h1
        obtain ⟨a, vs, rfl, _, _⟩ := items_sq rx hx
        exact ⟨a, _, rfl, rx.dp, h3, shaped_dict h2, SeqAt.depth_of_shaped h2, lnOk_le h4, p.here R _ (.d (.str _))⟩
      · exact p.elim
    · exact p.elim
  · refine ⟨_, callP_B (cr_all hc) (by decide +kernel) (by decide) (by decide), fun x u j h H Q ek R rx p => ?_⟩
    unfold NC.bi at p
    split at p <;> first | (rename_i q _; exact absurd q (by decide)) | (rename_i q; exact absurd q (by decide)) | skip
    · cases rx with | d rx =>
      cases rx with | lst z m q =>
      split at p
      · rename_i e
        have := allB_bl q e
        subst this
        exact ⟨_, _, rfl, .of z, p.here R _ (.d (.bl _))⟩
      · exact p.elim
    · exact p.elim
  · refine ⟨_, callP_B (cr_any hc) (by decide +kernel) (by decide) (by decide), fun x u j h H Q ek R rx p => ?_⟩
    unfold NC.bi at p
    split at p <;> first | (rename_i q _; exact absurd q (by decide)) | (rename_i q; exact absurd q (by decide)) | skip
    · cases rx with | d rx =>
      cases rx with | lst z m q =>
      split at p
      · rename_i e
        have := allB_bl q e
        subst this
        exact ⟨_, _, rfl, .of z, p.here R _ (.d (.bl _))⟩
      · exact p.elim
    · exact p.elim
  · refine ⟨_, callP_T call_tuple_of (by decide +kernel) (by decide) (by decide), fun x u j h H Q ek R rx p => ?_⟩
    unfold NC.bi at p
    split at p <;> first | (rename_i q _; exact absurd q (by decide)) | (rename_i q; exact absurd q (by decide)) | skip
    · cases rx with | d rx => cases rx with | lst z m q => exact ⟨_, _, rfl, .inl ⟨.of z, fin_tup R q p⟩⟩
    · cases rx with | d rx => cases rx with | tup z q => exact ⟨_, _, rfl, .inr ⟨z, p.here R _ (.d (.tup z q))⟩⟩
    · split at p
      · rename_i e
        obtain ⟨hn, vs, e1, q⟩ := obj_lst R e
        cases rx with | ref hi => exact ⟨_, _, rfl, .inl ⟨.of e1, fin_tup R q p⟩⟩
      · exact p.elim
    · exact p.elim
  · refine ⟨_, callP_T call_list_of (by decide +kernel) (by decide) (by decide), fun x u j h H Q ek R rx p => ?_⟩
    unfold NC.bi at p
    split at p <;> first | (rename_i q _; exact absurd q (by decide)) | (rename_i q; exact absurd q (by decide)) | skip
    · cases rx with | d rx => cases rx with | lst z m q => exact ⟨_, _, rfl, .inl (.of z), fin_lst R q p⟩
    · cases rx with | d rx => cases rx with | tup z q => exact ⟨_, _, rfl, .inr z, fin_lst R q p⟩
    · split at p
      · rename_i e
        obtain ⟨hn, vs, e1, q⟩ := obj_lst R e
        cases rx with | ref hi => exact ⟨_, _, rfl, .inl (.of e1), fin_lst R q p⟩
      · exact p.elim
    · exact p.elim
/-- isinstance -/
def Ty.s : Ty → String
  | .int => "int" | .bool => "bool" | .str => "str" | .tuple => "tuple" | .list => "list" | .dict => "dict"
def tag : PyData → String
  | .none => "NoneType" | .bool _ => "bool" | .int _ => "int" | .str _ => "str" | .list _ => "list" | .tuple _ => "tuple" | .dict _ => "dict"
def tagIs (t : Ty) (a : String) : Bool := a == t.s || (t == .int && a == "bool")
theorem kit_tab : (["NoneType", "bool", "int", "str", "list", "tuple", "dict"].all fun a => [Ty.int, .bool, .str, .tuple, .list, .dict].all fun t => kitB a t.s == some (tagIs t a)) = true := by decide +kernel
theorem isTy_tag (t : Ty) (d : PyData) : isTy t d = tagIs t (tag d) := by cases t <;> cases d <;> rfl
theorem kit_isTy (t : Ty) (d : PyData) : kitB (tag d) t.s = some (isTy t d) := by
  rw [isTy_tag]
  have h := List.all_eq_true.mp (List.all_eq_true.mp kit_tab (tag d) (by cases d <;> simp [tag])) t (by cases t <;> simp)
  exact beq_iff_eq.mp h
theorem RD.ty {M : Addr → Prop} {d : PyData} {v : V} (r : RD K M H d v) : TyX K H v (.type (tag d)) := by
  cases r with
  | non => exact .base .non
  | bl b => exact .base (.bl b)
  | int i => exact .base (.int i)
  | str x => exact .base (.str x)
  | lst z m q => exact .base (.lst z)
  | tup z q =>
    rcases z with (z | ⟨o, z⟩) | ⟨o, its, n, h1, h2, _⟩
    · exact .base (.tup z)
    · exact .fTuple z
    · exact .kTuple h1 h2
theorem isi_snd (t : Ty) : ∃ r, (∀ (e : Expr) (te : TE) (p p2 pos : Pos), (∀ v q, e ≠ .Starred v q) → PE X e te → Gl X "isinstance" → X.mg "isinstance" = none → Gl X t.nm → X.mg t.nm = none → PE X (.Call (.Name "isinstance" p) [e, .Name t.nm p2] [] pos) (tUn r te)) ∧
    Srv1 X.K X.mg (fun x h => match x with | .d y => .ok (.d (.bool (isTy t y))) h | _ => .bad) r := by
  have hn : bootBuiltins t.nm = some (.type t.s) := by cases t <;> decide +kernel
  have dn : t.nm ≠ "__name__" := by cases t <;> decide
  have dd : (t.nm == ("__debug__" : Str)) = false := by cases t <;> decide
  refine ⟨fun u H Q => rIsi X.K [u, .ty t.s] H Q, fun e te p p2 pos ns he g1 m1 g2 m2 => ?_, fun x u j h H Q ek R rx p => ?_⟩
  · refine (pe_callB call_isi g1 m1 PyProof.Rows.boot_isinstance (pa_cons he (pa_cons (pe_bltn (v := .ty t.s) g2 m2 hn rfl dn dd) pa_nil) (star_cons ns)) (by decide) (by decide) (star_cons ns) rfl).imp fun σ H Q q => ?_
    exact q
  · cases rx with
    | d rx => exact ⟨_, _, _, _, _, rfl, .ty _, rx.ty, kit_ty (kit_isTy t _), p.here R _ (.d (.bl _))⟩
    | _ => exact (show False from p).elim

/-! ### subscripts, slices -/
theorem ix_snd : ∃ r, IxR X r ∧ Srv2 X.K X.mg NC.ix r := by
  refine ⟨_, ix_seq, fun x y u v j h H Q ek R rx ry p => ?_⟩
  unfold NC.ix at p
  split at p
  · cases rx with | d rx => cases ry with | d ry => cases ry; cases rx with | tup z q =>
    split at p
    · rename_i e
      obtain ⟨w, h1, h2⟩ := q.at e
      exact .inr (.inl ⟨_, _, _, _, rfl, rfl, z, h1, p.here R _ (.d h2)⟩)
    · exact p.elim
  · cases rx with | d rx => cases ry with | d ry => cases ry; cases rx with | lst z m q =>
    split at p
    · rename_i e
      obtain ⟨w, h1, h2⟩ := q.at e
      exact .inl ⟨_, _, _, _, rfl, rfl, .of z, h1, p.here R _ (.d h2)⟩
    · exact p.elim
  · cases rx with | d rx => cases ry with | d ry => cases ry; cases rx with | str _ =>
    split at p
    · split at p
      · exact .inr (.inr ⟨_, _, _, rfl, rfl, lnOk_le ‹_›, ‹_›, p.here R _ (.d (.str _))⟩)
      · exact p.elim
    · exact p.elim
  · cases ry with | d ry => cases ry; cases rx with | ref hi =>
    split at p
    · rename_i e
      obtain ⟨hn, vs, e1, q⟩ := obj_lst R e
      split at p
      · rename_i e2
        obtain ⟨w, h1, h2⟩ := q.at e2
        exact .inl ⟨_, _, _, _, rfl, rfl, .of e1, h1, p.here R _ (.d h2)⟩
      · exact p.elim
    · exact p.elim
  · exact p.elim
theorem cutV_whole {xs : List PyData} {lo hi : Option Int} (h : HT.sIx xs.length 0 lo = 0 ∧ HT.sIx xs.length xs.length hi = xs.length) : cut xs lo hi = xs := by
  unfold cut
  rw [h.1, h.2]
  simp
theorem slc_snd : ∃ r, SlR X r ∧ ∀ (x : PV) (u : V) (lo hi : Option Int) (j : Gh) (h : Hv) (H : Hp) (Q : VK) (ek : XK), Rl X.K X.mg j h H → RV X.K X.mg j h.os.length H x u → Pst X.K X.mg j h H (NC.slc x lo hi h) (okV X.K X.mg Q) ek → r u lo hi H Q := by
  refine ⟨_, sl_tupA.or sl_list, fun x u lo hi j h H Q ek R rx p => ?_⟩
  unfold NC.slc at p
  split at p
  · cases rx with | d rx => cases rx with | tup z q =>
    refine .inl ⟨_, _, rfl, z, fun hw => ?_, fun _ => fin_tup R (q.cut lo hi) p⟩
    rw [← q.length] at hw
    rw [cutV_whole hw] at p
    exact p.here R _ (.d (.tup z q))
  · cases rx with | d rx => cases rx with | lst z m q => exact .inr ⟨_, _, rfl, .of z, fin_lst R (q.cut lo hi) p⟩
  · cases rx with | scr z q => exact .inr ⟨_, _, rfl, z.sq, fin_lst R (q.cut lo hi) p⟩
  · cases rx with | ref hi' =>
    split at p
    · rename_i e
      obtain ⟨hn, vs, e1, q⟩ := obj_lst R e
      exact .inr ⟨_, _, rfl, .of e1, fin_lst R (q.cut lo hi) p⟩
    · exact p.elim
  · exact p.elim

/-! ### lists that change -/
theorem lst_set (R : Rl K mg j h H) {n : Nat} {xs ys : List PyData} {vs ws : List V} (e : h.os[n]? = some (.lst xs)) (q : RDs K j.F H ys ws) :
    Tr j h H j (setO h n (.lst ys)) (upd H (j.at_ n) (.lst ws)) ∧ Rl K mg j (setO h n (.lst ys)) (upd H (j.at_ n) (.lst ws)) := by
  have hn := (List.getElem?_eq_some_iff.mp e).1
  exact ⟨Tr.set R hn fun _ _ _ z => by simp [Ob.refs] at z, R.set hn ⟨ws, upd_same, RDs.mono (R.kset hn) _ _ q⟩⟩
theorem setI_snd : ∀ (x y z : PV) (o i v : V) (j : Gh) (h : Hv) (H : Hp) (Q : Hp → Prop) (ek : XK), Rl X.K X.mg j h H → RV X.K X.mg j h.os.length H x o → RV X.K X.mg j h.os.length H y i → RV X.K X.mg j h.os.length H z v →
    Pst X.K X.mg j h H (NC.setI x y z h) (fun _ _ _ H' => Q H') ek → rSetL o i v H Q := by
  intro x y z o i v j h H Q ek R rx ry rz p
  unfold NC.setI at p
  split at p
  · cases ry with | d ry => cases ry; cases rx with | ref hi => cases rz with | d rz =>
    split at p
    · rename_i e
      obtain ⟨hn, vs, e1, q⟩ := obj_lst R e
      split at p
      · rename_i e2
        obtain ⟨t, R'⟩ := lst_set (vs := vs) R e (RDs.set rz _ q)
        exact ⟨_, _, _, _, rfl, rfl, e1, by rw [← q.length]; exact e2, p j _ t R'⟩
      · exact p.elim
    · exact p.elim
  · exact p.elim
/-- append, extend, pop -/
def rMeth (m : Str) : V → List V → Hp → VK → Prop := fun x vs H Q => if m = "append" then rAppend x vs H Q else if m = "extend" then rExtend x vs H Q else rPop x vs H Q
theorem meth_snd (m : Str) : ∀ (x : PV) (ys : List PV) (u : V) (vs : List V) (j : Gh) (h : Hv) (H : Hp) (Q : VK) (ek : XK), Rl X.K X.mg j h H → RV X.K X.mg j h.os.length H x u → RVs X.K X.mg j h.os.length H ys vs →
    Pst X.K X.mg j h H (NC.meth m x ys h) (okV X.K X.mg Q) ek → rMeth m u vs H Q := by
  intro x ys u vs j h H Q ek R rx ry p
  unfold NC.meth at p
  unfold rMeth
  split at p
  · cases rx with | ref hi =>
    split at p
    · rename_i xs e
      obtain ⟨hn, ws, e1, q⟩ := obj_lst R e
      by_cases h1 : m = "append"
      · rw [if_pos h1] at p ⊢
        split at p
        · rename_i v
          cases ry with | cons a b => cases b; cases a with | d a =>
          split at p
          · obtain ⟨t, R'⟩ := lst_set (vs := ws) R e (q.append (.cons a .nil))
            refine ⟨_, _, _, rfl, rfl, e1, ?_, p j _ t R' _ (.d .non)⟩
            have := lnOk_le ‹_›
            rw [← q.length]; omega
          · exact p.elim
        · exact p.elim
      · rw [if_neg h1] at p ⊢
        by_cases h2 : m = "extend"
        · rw [if_pos h2] at p ⊢
          split at p
          · rename_i ys'
            cases ry with | cons a b => cases b; cases a with | d a => cases a with | lst z mm q2 =>
            split at p
            · obtain ⟨t, R'⟩ := lst_set (vs := ws) R e (q.append q2)
              refine ⟨_, _, _, _, rfl, rfl, e1, z, ?_, p j _ t R' _ (.d .non)⟩
              have := lnOk_le ‹_›
              rw [← q.length, ← q2.length]; exact this
            · exact p.elim
          · exact p.elim
        · rw [if_neg h2] at p ⊢
          split at p
          · split at p
            · split at p
              · rename_i y e2
                cases ry
                obtain ⟨w, e3, q3⟩ := q.get e2
                obtain ⟨t, R'⟩ := lst_set (vs := ws) R e q.dropLast
                exact ⟨_, _, w, rfl, rfl, e1, by rw [← q.length]; exact e3, p j _ t R' _ (RV.tr t (.d q3))⟩
              · exact p.elim
            · exact p.elim
          · exact p.elim
    · exact p.elim
  · exact p.elim
end
end NC
/-! Targets, and what is walked. -/
namespace NC
open PySem PySem.Spec PyProof.Rows L2

/-! ### targets -/
section
variable {X : Cx}
/-- only these slots may have changed -/
def Chg (vs : List Nat) (σ σ' : L2.St) : Prop := σ'.length = σ.length ∧ ∀ i, i ∉ vs → σ'[i]? = σ[i]?
/-- what a store of a value means -/
def tG (K : PySem.W.Frag) (mg : Str → Option Value) (t : Tg) : TG := fun v σ H Q => ∃ j e h x, Rl K mg j h H ∧ REnv K mg j h.os.length H e σ ∧ RV K mg j h.os.length H x v ∧
  ∃ e', store t x e = some e' ∧ ∀ σ', REnv K mg j h.os.length H e' σ' → Chg t.vars σ σ' → Q σ' H
def tGs (K : PySem.W.Frag) (mg : Str → Option Value) (ts : List Tg) : TGs := fun vs σ H Q => ∃ j e h, Rl K mg j h H ∧ REnv K mg j h.os.length H e σ ∧
  ((∃ xs, RDs K j.F H xs vs ∧ ∃ e', storeD ts xs e = some e' ∧ ∀ σ', REnv K mg j h.os.length H e' σ' → Chg (Tg.varsL ts) σ σ' → Q σ' H) ∨
   (∃ xs, RVs K mg j h.os.length H xs vs ∧ ∃ e', storeP ts xs e = some e' ∧ ∀ σ', REnv K mg j h.os.length H e' σ' → Chg (Tg.varsL ts) σ σ' → Q σ' H))
theorem Chg.trans {vs ws : List Nat} {a b c : L2.St} (x : Chg vs a b) (y : Chg ws b c) : Chg (vs ++ ws) a c :=
  ⟨y.1.trans x.1, fun i h => (y.2 i fun z => h (List.mem_append_right _ z)).trans (x.2 i fun z => h (List.mem_append_left _ z))⟩
theorem wipe_get (σ : L2.St) : ∀ (vs : List Nat) (i : Nat), (L2.wipe σ vs)[i]? = if i ∈ vs then (if i < σ.length then some none else none) else σ[i]?
  | [], i => by simp [L2.wipe]
  | v :: vs, i => by
    unfold L2.wipe
    by_cases h : i = v
    · subst h
      rw [if_pos List.mem_cons_self]
      by_cases hl : i < σ.length
      · rw [if_pos hl, List.getElem?_set_self (by rw [L2.wipe_length]; exact hl)]
      · rw [if_neg hl, List.getElem?_eq_none (by simp [L2.wipe_length]; omega)]
    · rw [List.getElem?_set_ne (Ne.symm h), wipe_get σ vs i]
      simp [h]
theorem Chg.wipe {vs ws : List Nat} {a b : L2.St} (x : Chg vs a b) (h : ∀ i ∈ vs, i ∈ ws) : L2.wipe b ws = L2.wipe a ws := by
  apply List.ext_getElem?
  intro i
  rw [wipe_get, wipe_get, x.1]
  by_cases hi : i ∈ ws
  · rw [if_pos hi, if_pos hi]
  · rw [if_neg hi, if_neg hi]
    exact x.2 i fun z => hi (h i z)
theorem wipe_idem (a : L2.St) (ws : List Nat) : L2.wipe (L2.wipe a ws) ws = L2.wipe a ws := by
  apply List.ext_getElem?
  intro i
  rw [wipe_get, L2.wipe_length, wipe_get]
  by_cases hi : i ∈ ws
  · rw [if_pos hi, if_pos hi]
  · rw [if_neg hi, if_neg hi]
theorem vis_of {sc : Scope} {x : Str} (h : visB sc x = true) : Vis sc x := by
  unfold visB at h
  split at h <;> first | exact .inl ‹_› | exact .inr (.inl ‹_›) | exact .inr (.inr ‹_›) | cases h
theorem loc_of {sc : Scope} {x : Str} (h : locB sc x = true) : Loc sc x := by
  unfold locB at h
  split at h <;> first | exact .inl ‹_› | exact .inr ‹_› | cases h
theorem loc1_of {sc : Scope} {x : Str} (h : loc1B sc x = true) : sc.names.lookup x = some .local := by
  unfold loc1B at h
  split at h <;> first | assumption | cases h
theorem glb_of {x : Str} (h : glbB X.env.scope x = true) : Gl X x ∧ okName x = true := by
  unfold glbB at h
  split at h
  · exact ⟨‹_›, h⟩
  · cases h
theorem okn {x : Str} (h : okName x = true) : (x == ("__debug__" : Str)) = false ∧ (x == ("__classdict__" : Str)) = false ∧ x ≠ "__name__" := by
  unfold okName at h
  rw [Bool.and_eq_true, Bool.and_eq_true] at h
  refine ⟨by simpa using h.1.1, by simpa using h.1.2, fun e => ?_⟩
  subst e
  exact absurd h.2 (by decide)
/-- may these names be stored to here -/
def FnAll (X : Cx) (sc : Scope) : Prop := ∀ x, locB sc x = true → Loc X.env.scope x ∧ (X.fn x = true ∨ X.env.scope.names.lookup x = some .local)
theorem each_len (sc : Scope) (N : List Str) : ∀ (ts : List Tg) (es : List Expr) (env : PySem.Env), chkTgs sc N ts es = true → (assignEach es env).length = ts.length ∧ (assignEach es env).findIdx? (·.1) = none
  | [], [], _, _ => ⟨rfl, rfl⟩
  | t :: ts, e :: es, env, h => by
    unfold chkTgs at h
    rw [Bool.and_eq_true] at h
    obtain ⟨h1, h2⟩ := h
    obtain ⟨a, b⟩ := each_len sc N ts es env h2
    have q : assignEach (e :: es) env = (false, assign e env) :: assignEach es env := by
      cases e <;> first | rfl | (cases t <;> simp [chkTg] at h1)
    rw [q]
    refine ⟨by simp [a], ?_⟩
    rw [List.findIdx?_cons]
    simp [b]
  | [], _ :: _, _, h => by simp [chkTgs] at h
  | _ :: _, [], _, h => by simp [chkTgs] at h
mutual
theorem tg_snd (hc : X.calm = true) (nd : X.N.Nodup) {sc : Scope} (hf : FnAll X sc) : ∀ (t : Tg) (e : Expr), chkTg sc X.N t e = true → PG X e (tG X.K X.mg t)
  | .var i, e, h => by
    cases e <;> first | (simp [chkTg] at h; done) | skip
    rename_i x p
    simp only [chkTg, Bool.and_eq_true] at h
    have hx := of_decide_eq_true h.1.1
    refine ⟨fun pins s σ H v u Q I r q => ?_⟩
    obtain ⟨j, e, hh, x', R, E, rv, e', hs, q⟩ := q
    refine (pg_name nd hx (hf _ h.1.2).1 (hf _ h.1.2).2).run pins s σ H v u Q I r ?_
    unfold store at hs
    split at hs
    · cases hs
      exact q _ (E.set rv) ⟨by simp, fun k hk => List.getElem?_set_ne fun z => hk (by rw [z]; exact List.mem_singleton_self _)⟩
    · cases hs
  | .tup ts, e, h => by
    cases e <;> first | (simp [chkTg] at h; done) | skip
    rename_i es k p
    simp only [chkTg] at h
    have hl := each_len sc X.N ts es X.env h
    refine ⟨fun pins s σ H v u Q I r q => ?_⟩
    have T := pg_tup (k := k) (pos := p) hc (tgs_snd hc nd hf ts es h) hl.1 hl.2
    have U := pg_unl (k := k) (pos := p) hc (tgs_snd hc nd hf ts es h) hl.1 hl.2
    obtain ⟨j, e, hh, x', R, E, rv, e', hs, q⟩ := q
    cases x' with
    | d y =>
      cases rv with
      | d rv =>
        cases y <;> first | (simp [store] at hs; done) | skip
        case list =>
          cases rv with
          | lst z m rs =>
            simp only [store] at hs
            refine U.run pins s σ H _ u Q I r ⟨_, _, rfl, .of z, ?_, j, e, hh, R, E, .inl ⟨_, rs, e', hs, q⟩⟩
            rw [← rs.length]
            exact lenD _ _ _ _ hs
        case tuple =>
          cases rv with
          | tup z rs =>
            simp only [store] at hs
            refine T.run pins s σ H _ u Q I r ⟨_, _, rfl, z, ?_, j, e, hh, R, E, .inl ⟨_, rs, e', hs, q⟩⟩
            rw [← rs.length]
            exact lenD _ _ _ _ hs
    | tup ys =>
      cases rv with
      | tup z rs =>
        simp only [store] at hs
        refine T.run pins s σ H _ u Q I r ⟨_, _, rfl, z, ?_, j, e, hh, R, E, .inr ⟨_, rs, e', hs, q⟩⟩
        rw [← rs.length]
        exact lenP _ _ _ _ hs
    | ref n => simp [store] at hs
    | fn n => simp [store] at hs
    | scr n => simp [store] at hs
theorem tgs_snd (hc : X.calm = true) (nd : X.N.Nodup) {sc : Scope} (hf : FnAll X sc) : ∀ (ts : List Tg) (es : List Expr), chkTgs sc X.N ts es = true → PGs X es (tGs X.K X.mg ts)
  | [], es, h => by
    cases es with
    | cons _ _ => simp [chkTgs] at h
    | nil =>
      refine ⟨fun pins s σ H vs us Q I r q => pgs_nil.run pins s σ H vs us Q I r ?_⟩
      obtain ⟨j, e, hh, R, E, q⟩ := q
      rcases q with ⟨xs, rs, e', hs, q⟩ | ⟨xs, rs, e', hs, q⟩
      · cases rs with
        | nil => simp only [storeD, Option.some.injEq] at hs; subst hs; exact ⟨rfl, q _ E ⟨rfl, fun _ _ => rfl⟩⟩
        | cons _ _ => simp [storeD] at hs
      · cases rs with
        | nil => simp only [storeP, Option.some.injEq] at hs; subst hs; exact ⟨rfl, q _ E ⟨rfl, fun _ _ => rfl⟩⟩
        | cons _ _ => simp [storeP] at hs
  | t :: ts, es, h => by
    cases es with
    | nil => simp [chkTgs] at h
    | cons e es =>
      have h0 := h
      unfold chkTgs at h
      rw [Bool.and_eq_true] at h
      have q0 : assignEach (e :: es) X.env = (false, assign e X.env) :: assignEach es X.env := by
        cases e <;> first | rfl | (have := h.1; cases t <;> simp [chkTg] at this)
      refine ⟨fun pins s σ H vs us Q I r q => (pgs_cons (tg_snd hc nd hf t e h.1) (tgs_snd hc nd hf ts es h.2) (by rw [q0]; rfl)).run pins s σ H vs us Q I r ?_⟩
      obtain ⟨j, e, hh, R, E, q⟩ := q
      rcases q with ⟨xs, rs, e', hs, q⟩ | ⟨xs, rs, e', hs, q⟩
      · cases rs with
        | nil => simp [storeD] at hs
        | cons a b =>
          simp only [storeD] at hs
          obtain ⟨e1, h1, h2⟩ := Option.bind_eq_some_iff.mp hs
          exact ⟨_, _, rfl, j, e, hh, _, R, E, .d a, e1, h1, fun σ' E' c1 => ⟨j, e1, hh, R, E', .inl ⟨_, b, e', h2, fun σ2 E2 c2 => q σ2 E2 (c1.trans c2)⟩⟩⟩
      · cases rs with
        | nil => simp [storeP] at hs
        | cons a b =>
          simp only [storeP] at hs
          obtain ⟨e1, h1, h2⟩ := Option.bind_eq_some_iff.mp hs
          exact ⟨_, _, rfl, j, e, hh, _, R, E, a, e1, h1, fun σ' E' c1 => ⟨j, e1, hh, R, E', .inr ⟨_, b, e', h2, fun σ2 E2 c2 => q σ2 E2 (c1.trans c2)⟩⟩⟩
theorem lenD : ∀ (ts : List Tg) (xs : List PyData) (e e' : NC.Env), storeD ts xs e = some e' → xs.length = ts.length
  | [], [], _, _, _ => rfl
  | t :: ts, x :: xs, e, e', h => by
    simp only [storeD] at h
    obtain ⟨e1, _, h2⟩ := Option.bind_eq_some_iff.mp h
    exact congrArg (· + 1) (lenD ts xs e1 e' h2)
  | [], _ :: _, _, _, h => by simp [storeD] at h
  | _ :: _, [], _, _, h => by simp [storeD] at h
theorem lenP : ∀ (ts : List Tg) (xs : List PV) (e e' : NC.Env), storeP ts xs e = some e' → xs.length = ts.length
  | [], [], _, _, _ => rfl
  | t :: ts, x :: xs, e, e', h => by
    simp only [storeP] at h
    obtain ⟨e1, _, h2⟩ := Option.bind_eq_some_iff.mp h
    exact congrArg (· + 1) (lenP ts xs e1 e' h2)
  | [], _ :: _, _, _, h => by simp [storeP] at h
  | _ :: _, [], _, _, h => by simp [storeP] at h
end
/-- a tuple target from a value, or from a list that may change -/
def tGH (K : PySem.W.Frag) (mg : Str → Option Value) (t : Tg) : TG := fun v σ H Q => ∃ j e h x, Rl K mg j h H ∧ REnv K mg j h.os.length H e σ ∧ RV K mg j h.os.length H x v ∧
  ∃ e', storeH t x e h = some e' ∧ ∀ σ', REnv K mg j h.os.length H e' σ' → Chg t.vars σ σ' → Q σ' H
theorem tgh_snd (hc : X.calm = true) (nd : X.N.Nodup) {sc : Scope} (hf : FnAll X sc) (ts : List Tg) (e : Expr) (h : chkTg sc X.N (.tup ts) e = true) : PG X e (tGH X.K X.mg (.tup ts)) := by
  refine ⟨fun pins s σ H v u Q I r q => ?_⟩
  obtain ⟨j, e0, hh, x, R, E, rv, e', hs, q⟩ := q
  cases x with
  | ref n =>
    unfold storeH at hs
    dsimp only at hs
    split at hs
    · rename_i xs ho
      cases rv with
      | ref hn =>
        obtain ⟨vs, z, rs⟩ := R.obj n _ ho
        cases e <;> first | (simp [chkTg] at h; done) | skip
        rename_i es k p
        simp only [chkTg] at h
        have hl := each_len sc X.N ts es X.env h
        refine (pg_unl (k := k) (pos := p) hc (tgs_snd hc nd hf ts es h) hl.1 hl.2).run pins s σ H _ u Q I r ⟨_, _, rfl, .of z, ?_, j, e0, hh, R, E, .inl ⟨_, rs, e', hs, q⟩⟩
        rw [← rs.length]
        exact lenD (X := X) _ _ _ _ hs
    · cases hs
  | _ => exact (tg_snd hc nd hf (.tup ts) e h).run pins s σ H v u Q I r ⟨j, e0, hh, _, R, E, rv, e', hs, q⟩
end
end NC
/-! What is walked. -/
namespace NC
open PySem PySem.Spec PyProof.Rows L2

/-- an iterator of the layer yields what the small semantics walks -/
structure ItOk (K : PySem.W.Frag) (mg : Str → Option Value) (J : L2.It) (w : Walk) (j0 : Gh) (h0 : Hv) (H0 : Hp) : Prop where
  go : ∀ j h H, Tr j0 h0 H0 j h H → Rl K mg j h H → w.gd.ok h → ∀ (i : Nat) x, w.xs[i]? = some x → J.go i H
  stop : ∀ j h H, Tr j0 h0 H0 j h H → Rl K mg j h H → w.gd.ok h → ∀ i : Nat, w.xs.length ≤ i → J.stop i H
  yld : ∀ j h H, Tr j0 h0 H0 j h H → Rl K mg j h H → w.gd.ok h → ∀ (i : Nat) x, w.xs[i]? = some x → ∀ u H', J.yld i H u H' →
    (H' = H ∨ ∃ T vs, H T = none ∧ H' = upd H T (.tup vs)) ∧ RV K mg j h.os.length H' x u
section
variable {K : PySem.W.Frag} {mg : Str → Option Value} {j0 : Gh} {h0 : Hv} {H0 : Hp}
/-- behind a yield all lies as before -/
theorem yld_tr {j : Gh} {h : Hv} {H H' : Hp} (R : Rl K mg j h H) (q : H' = H ∨ ∃ T vs, H T = none ∧ H' = upd H T (.tup vs)) : Tr j h H j h H' ∧ Rl K mg j h H' := by
  rcases q with rfl | ⟨T, vs, hT, rfl⟩
  · exact ⟨Tr.refl, R⟩
  · exact ⟨Tr.new R hT, R.new hT⟩
theorem itok_list {a : Addr} {ds : List PyData} {vs : List V} (z : ∀ j h H, Tr j0 h0 H0 j h H → SqL K H a vs) (q : RDs K j0.F H0 ds vs) : ItOk K mg (Itl K a) ⟨ds.map PV.d, .no⟩ j0 h0 H0 where
  go := fun j h H t R _ i x e => by
    obtain ⟨v, h1, _⟩ := (RVs.ofD (mg := mg) (n := h0.os.length) q).get e
    exact ⟨vs, v, (z _ _ _ t), h1⟩
  stop := fun j h H t R _ i e => ⟨vs, (z _ _ _ t), by rw [← q.length]; simpa using e⟩
  yld := fun j h H t R _ i x e u H' y => by
    obtain ⟨v, h1, r⟩ := (RVs.ofD (mg := mg) (n := h0.os.length) q).get e
    obtain ⟨rfl, y⟩ := y
    have := y vs (z _ _ _ t)
    rw [h1] at this
    cases this
    exact ⟨.inl rfl, r.tr t⟩
theorem itok_tup {a : Addr} {ps : List PV} {vs : List V} (z : SqT K H0 a vs) (q : RVs K mg j0 h0.os.length H0 ps vs) : ItOk K mg (Itt K a) ⟨ps, .no⟩ j0 h0 H0 where
  go := fun j h H t R _ i x e => by
    obtain ⟨v, h1, _⟩ := q.get e
    exact ⟨vs, v, (t.kp.zt z), h1⟩
  stop := fun j h H t R _ i e => ⟨vs, (t.kp.zt z), by rw [← q.length]; exact e⟩
  yld := fun j h H t R _ i x e u H' y => by
    obtain ⟨v, h1, r⟩ := q.get e
    obtain ⟨rfl, y⟩ := y
    have := y vs (t.kp.zt z)
    rw [h1] at this
    cases this
    exact ⟨.inl rfl, r.tr t⟩
theorem itok_ref {n : Nat} {xs : List PyData} (hn : n < h0.os.length) : ItOk K mg (Itl K (j0.at_ n)) ⟨xs.map PV.d, .obj n (.lst xs)⟩ j0 h0 H0 where
  go := fun j h H t R g i x e => by
    obtain ⟨_, vs, h1, q⟩ := obj_lst R g
    rw [t.ag n hn] at h1
    obtain ⟨v, h2, _⟩ := (RVs.ofD (mg := mg) (n := h.os.length) q).get e
    exact ⟨vs, v, .of h1, h2⟩
  stop := fun j h H t R g i e => by
    obtain ⟨_, vs, h1, q⟩ := obj_lst R g
    rw [t.ag n hn] at h1
    exact ⟨vs, .of h1, by rw [← q.length]; simpa using e⟩
  yld := fun j h H t R g i x e u H' y => by
    obtain ⟨_, vs, h1, q⟩ := obj_lst R g
    rw [t.ag n hn] at h1
    obtain ⟨v, h2, r⟩ := (RVs.ofD (mg := mg) (n := h.os.length) q).get e
    obtain ⟨rfl, y⟩ := y
    have := y vs (.of h1)
    rw [h2] at this
    cases this
    exact ⟨.inl rfl, r⟩
theorem itok_range {lo : Int} {n : Nat} : ItOk K mg (Itr lo n) ⟨rngs lo n, .no⟩ j0 h0 H0 where
  go := fun j h H t R _ i x e => by
    have q := (List.getElem?_eq_some_iff.mp e).1
    show i < n
    simpa [rngs] using q
  stop := fun j h H t R _ i e => by
    have e' : (rngs lo n).length ≤ i := e
    show n ≤ i
    simpa [rngs] using e'
  yld := fun j h H t R _ i x e u H' y => by
    obtain ⟨rfl, rfl⟩ := y
    obtain ⟨hl, e2⟩ := List.getElem?_eq_some_iff.mp e
    have : x = .d (.int (lo + (i : Int))) := by rw [← e2]; simp [rngs]
    subst this
    exact ⟨.inl rfl, .d (.int _)⟩
theorem pair_rd {M : Addr → Prop} {H : Hp} {T : Addr} {x y : PyData} {u v : V} (hT : H T = none) (hm : ∀ a, M a → H a ≠ none) (rx : RD K M H x u) (ry : RD K M H y v) : RD K M (upd H T (.tup [u, v])) (.tuple [x, y]) (.ref T) :=
  .tup (.of upd_same) (.cons (RD.mono (Kp.new hT hm) _ _ rx) (.cons (RD.mono (Kp.new hT hm) _ _ ry) .nil))
theorem zip_get {xs ys : List PyData} {i : Nat} {x : PV} (e : ((xs.zip ys).map fun p => PV.d (.tuple [p.1, p.2]))[i]? = some x) : ∃ a b, xs[i]? = some a ∧ ys[i]? = some b ∧ x = .d (.tuple [a, b]) := by
  rw [List.getElem?_map] at e
  obtain ⟨p, h1, h2⟩ := Option.map_eq_some_iff.mp e
  obtain ⟨h3, h4⟩ := List.getElem?_zip_eq_some.mp h1
  exact ⟨_, _, h3, h4, h2.symm⟩
theorem zip_len {xs ys : List PyData} {i : Nat} (e : ((xs.zip ys).map fun p => PV.d (.tuple [p.1, p.2])).length ≤ i) : xs.length ≤ i ∨ ys.length ≤ i := by
  rw [List.length_map, List.length_zip] at e
  omega
theorem itok_zipL {a b : Addr} {xs ys : List PyData} {us vs : List V} (z1 : H0 a = some (.lst us)) (m1 : j0.F a) (z2 : H0 b = some (.lst vs)) (m2 : j0.F b)
    (q1 : RDs K j0.F H0 xs us) (q2 : RDs K j0.F H0 ys vs) : ItOk K mg (Itz K a b) ⟨(xs.zip ys).map fun p => .d (.tuple [p.1, p.2]), .no⟩ j0 h0 H0 where
  go := fun j h H t R _ i x e => by
    obtain ⟨x1, y1, h1, h2, _⟩ := zip_get e
    obtain ⟨u, h3, _⟩ := q1.get h1
    obtain ⟨v, h4, _⟩ := q2.get h2
    exact ⟨us, vs, u, v, .of ((t.kp.fix _ m1).2.trans z1), .of ((t.kp.fix _ m2).2.trans z2), h3, h4⟩
  stop := fun j h H t R _ i e => ⟨us, vs, .of ((t.kp.fix _ m1).2.trans z1), .of ((t.kp.fix _ m2).2.trans z2), by rw [← q1.length, ← q2.length]; exact zip_len e⟩
  yld := fun j h H t R _ i x e u H' y => by
    obtain ⟨x1, y1, h1, h2, rfl⟩ := zip_get e
    obtain ⟨u1, h3, r1⟩ := q1.get h1
    obtain ⟨v1, h4, r2⟩ := q2.get h2
    obtain ⟨T, u2, v2, rfl, hT, rfl, k1, k2⟩ := y
    have e1 := k1 us (.of ((t.kp.fix _ m1).2.trans z1))
    have e2 := k2 vs (.of ((t.kp.fix _ m2).2.trans z2))
    rw [h3] at e1; cases e1
    rw [h4] at e2; cases e2
    exact ⟨.inr ⟨T, _, hT, rfl⟩, .d (pair_rd hT R.fd (RD.mono t.kp _ _ r1) (RD.mono t.kp _ _ r2))⟩
theorem itok_zipT {a b : Addr} {xs ys : List PyData} {us vs : List V} (z1 : SqT K H0 a us) (z2 : SqT K H0 b vs)
    (q1 : RDs K j0.F H0 xs us) (q2 : RDs K j0.F H0 ys vs) : ItOk K mg (RZ.ItzT K a b) ⟨(xs.zip ys).map fun p => .d (.tuple [p.1, p.2]), .no⟩ j0 h0 H0 where
  go := fun j h H t R _ i x e => by
    obtain ⟨x1, y1, h1, h2, _⟩ := zip_get e
    obtain ⟨u, h3, _⟩ := q1.get h1
    obtain ⟨v, h4, _⟩ := q2.get h2
    exact ⟨us, vs, u, v, (t.kp.zt z1), (t.kp.zt z2), h3, h4⟩
  stop := fun j h H t R _ i e => ⟨us, vs, (t.kp.zt z1), (t.kp.zt z2), by rw [← q1.length, ← q2.length]; exact zip_len e⟩
  yld := fun j h H t R _ i x e u H' y => by
    obtain ⟨x1, y1, h1, h2, rfl⟩ := zip_get e
    obtain ⟨u1, h3, r1⟩ := q1.get h1
    obtain ⟨v1, h4, r2⟩ := q2.get h2
    obtain ⟨T, u2, v2, rfl, hT, rfl, k1, k2⟩ := y
    have e1 := k1 us (t.kp.zt z1)
    have e2 := k2 vs (t.kp.zt z2)
    rw [h3] at e1; cases e1
    rw [h4] at e2; cases e2
    exact ⟨.inr ⟨T, _, hT, rfl⟩, .d (pair_rd hT R.fd (RD.mono t.kp _ _ r1) (RD.mono t.kp _ _ r2))⟩
theorem enum_get {xs : List PyData} {i : Nat} {x : PV} (e : (xs.zipIdx.map fun p => PV.d (.tuple [.int (p.2 : Nat), p.1]))[i]? = some x) : ∃ a, xs[i]? = some a ∧ x = .d (.tuple [.int (i : Nat), a]) := by
  rw [List.getElem?_map] at e
  obtain ⟨p, h1, h2⟩ := Option.map_eq_some_iff.mp e
  rw [List.getElem?_zipIdx] at h1
  obtain ⟨a, h3, h4⟩ := Option.map_eq_some_iff.mp h1
  subst h4
  exact ⟨a, h3, by rw [← h2]; simp⟩
theorem itok_enum {a : Addr} {xs : List PyData} {us : List V} (z1 : H0 a = some (.lst us)) (m1 : j0.F a) (q1 : RDs K j0.F H0 xs us) :
    ItOk K mg (Ite K a) ⟨xs.zipIdx.map fun p => .d (.tuple [.int (p.2 : Nat), p.1]), .no⟩ j0 h0 H0 where
  go := fun j h H t R _ i x e => by
    obtain ⟨x1, h1, _⟩ := enum_get e
    obtain ⟨u, h3, _⟩ := q1.get h1
    exact ⟨us, u, .of ((t.kp.fix _ m1).2.trans z1), h3⟩
  stop := fun j h H t R _ i e => ⟨us, .of ((t.kp.fix _ m1).2.trans z1), by
    rw [← q1.length]
    have e' : (xs.zipIdx.map fun p => PV.d (.tuple [.int (p.2 : Nat), p.1])).length ≤ i := e
    simpa using e'⟩
  yld := fun j h H t R _ i x e u H' y => by
    obtain ⟨x1, h1, rfl⟩ := enum_get e
    obtain ⟨u1, h3, r1⟩ := q1.get h1
    obtain ⟨T, u2, rfl, hT, rfl, k1⟩ := y
    have e1 := k1 us (.of ((t.kp.fix _ m1).2.trans z1))
    rw [h3] at e1; cases e1
    exact ⟨.inr ⟨T, _, hT, rfl⟩, .d (pair_rd hT R.fd (.int _) (RD.mono t.kp _ _ r1))⟩
end

/-! ### a list or a tuple, whichever comes -/
section
variable {X : Cx} {tg : Expr}
def iSeq (K : PySem.W.Frag) (tl : TE) : TI := fun σ H R => tl σ H fun x H1 => ∃ a, x = .ref a ∧ (((∃ xs, SqL K H1 a xs) ∧ R (Itl K a) H1) ∨ ((∃ xs, SqT K H1 a xs) ∧ R (Itt K a) H1))
theorem pi_seq {l : Expr} {tl : TE} (hl : PE X l tl) : PI X tg l (iSeq X.K tl) := by
  constructor
  intro pins s σ H R I h
  refine thn (hl.run pins s σ H _ I h) ?_
  rintro v s1 ⟨x, H1, I1, r1, a, rfl, q⟩
  cases r1
  have fresh : ∀ b ∈ [s1.heap.objs.size], FpOk X pins H1 b := fun b hb => by
    have e : b = s1.heap.objs.size := by simpa using hb
    rw [e]
    exact I1.fpOk (Nat.le_refl _) (I1.hok.fresh (Nat.le_refl _))
  have stay : ∀ o : PySem.Obj, Inv X pins σ H1 { s1 with heap := s1.heap.push o } := fun o => I1.kept (t' := s1.toks) fun b u e => Heap.get?_push_of_some _ e
  rcases q with ⟨⟨xs, hq⟩, q⟩ | ⟨⟨xs, hq⟩, q⟩
  · obtain ⟨its, rv, p, hz⟩ := I1.list hq
    exact wpAny_pyIter_list p.isList ⟨_, [s1.heap.objs.size], _, _, H1, rfl, stay _, turn_list a _, ⟨_, Heap.get?_push_size _ rfl, rfl, rfl⟩, fresh, q⟩
  · obtain ⟨its, rv, p, hz⟩ := I1.tuple hq
    exact wpAny_pyIter_tuple (show s1.heap.IsTuple a its.toArray from p) ⟨_, [s1.heap.objs.size], _, _, H1, rfl, stay _, turn_tuple a _, ⟨_, Heap.get?_push_size _ rfl, rfl, rfl⟩, fresh, q⟩
end
/-- the reading of what is walked -/
def tI (K : PySem.W.Frag) (mg : Str → Option Value) (W : WX) (x : NC.Env → Hv → Res Walk) : TI := fun σ H R => At K mg σ H fun j e h =>
  Pst K mg j h H (x e h) (fun w j1 h1 H1 => ∀ J, ItOk K mg J w j1 h1 H1 → R J H1) fun c d H' => W c d σ H'
end NC
/-! Calls, the situation of a body, expressions. -/
namespace NC
open PySem PySem.Spec PyProof.Rows L2

/-- a def keeps a promise (where nothing is being shown) -/
structure FnG (P : Program) (w : World) (K : PySem.W.Frag) (mg : Str → Option Value) (base : Heap) (k : Nat) (f : Addr) (fd : FuncData) (ps : List Str) (sp : Sp) : Prop where
  len : ∀ vs H Q E, sp vs H Q E → vs.length = ps.length
  run : ∀ (A : Around) (outer : List PySem.Env) (s : Shared) (H : Hp) (args : Args) (us : List Value) (vs : List V) (Q : VK) (E : XK), Room k A → A.guards = some [] → Env0 P w K mg base A outer s H →
    BindsTo s fd args (ps.zip us) → Vals vs us → sp vs H Q E → codeAny (model P w) A (.call (.ref f) args) (CR (L2.CX P w) outer P w H s Q E) s
/-- what a def of the small semantics promises -/
def spF (K : PySem.W.Frag) (mg : Str → Option Value) (C : Fns) (x : Str) : Sp := fun vs H Q E => ∃ j h args, Rl K mg j h H ∧ RVs K mg j h.os.length H args vs ∧ Pst K mg j h H (C x args h) (okV K mg Q) E
/-- the built-in names that are met -/
def blts : List Str := ["abs", "len", "int", "repr", "all", "any", "tuple", "list", "range", "zip", "enumerate", "isinstance", "bool", "str", "dict"]
/-- an own exception class without own __init__ -/
def ExOk (K : PySem.W.Frag) (mg : Str → Option Value) (x : Str) : Prop := ∃ C bmB B newId initId, ExcBaseFacts B newId initId bmB ∧ PySem.W.excIn K C bmB newId = true ∧ mg x = some (.ref C) ∧ PySem.W.keepIn K (.ref C) = true ∧
  PySem.W.subIn K (.ref C) (.type "BaseException") = some true ∧ PySem.W.typeIn K (.ref C) = some (.type "type")
/-- the situation of a body: D the defs, Dx the exceptions that may be raised -/
structure Ctx (X : Cx) (W : WX) (D Dx : List Str) (G : Gls) (C : Fns) : Prop where
  calm : X.calm = true
  nd : X.N.Nodup
  roomy : Roomy X.A
  tk : Takes X W
  pass : PassesOwn (model X.prog X.w) X.A X.env X.xe
  blt : ∀ x ∈ blts, X.mg x = none
  gls : ∀ x v, G x = some v → ∃ u cv, X.mg x = some u ∧ RelV cv u ∧ ∀ j n H, RV X.K X.mg j n H v cv
  exs : ∀ x ∈ Dx, ExOk X.K X.mg x
  fns : ∀ x ∈ D, ∃ f fd ps k, X.mg x = some (.ref f) ∧ PySem.W.keepIn X.K (.ref f) = true ∧ Binds X.K fd ps [] ∧ Room k X.A ∧ FnG X.prog X.w X.K X.mg X.base k f fd ps (spF X.K X.mg C x)
theorem back_plain {D : List Str} {sc : Scope} {N : List Str} (env : PySem.Env) (pos : Pos) : ∀ {as : List E} {es : List Expr}, chkEs D sc N as es = true → (backTo pos (starEach es env)).any (·.1) = false
  | [], [], _ => rfl
  | a :: as, e :: es, h => by
    unfold chkEs at h
    rw [Bool.and_eq_true] at h
    rw [star_cons (chk_ns h.1)]
    have := back_plain env pos h.2
    show (false || _) = false
    rw [Bool.false_or]
    exact this
  | [], _ :: _, h => by simp [chkEs] at h
  | _ :: _, [], h => by simp [chkEs] at h
section
variable {X : Cx} {W : WX} {D Dx : List Str} {G : Gls} {C : Fns}
theorem run_fnG {k : Nat} {f : Addr} {fd : FuncData} {ps : List Str} {sp : Sp} {pins : List (Addr × PySem.Obj)} {σ : L2.St} {H : Hp} {s : Shared} {Q : VK} {us : List Value} {vs : List V} (F : FnG X.prog X.w X.K X.mg X.base k f fd ps sp) (hr : Room k X.A) (hg : X.A.guards = some [])
    (hb : Binds X.K fd ps []) (tk : Takes X W) (I : Inv X pins σ H s) (r : Vals vs us) (h : sp vs H Q fun c d H' => W c d σ H') : wpAny (model X.prog X.w) X.A (PySem.call (.ref f) us) (EP X pins σ Q) X.xe s := by
  have hl : (us ++ []).length = ps.length := by rw [List.append_nil, ← r.length]; exact F.len _ _ _ _ h
  have b := hb s us I.kIn hl
  rw [List.append_nil] at b
  refine wpAny_call (codeAny_mono (F.run X.A X.stack s H ⟨us, []⟩ us vs Q _ hr hg I.env0 b r h) ?_)
  rintro (e | fl) s' hq
  · exact passAt tk σ pins H s e s' I hq
  · cases fl <;> first | exact I.after hq | exact False.elim hq
/-- f(..), f a def of the module -/
theorem pe_callG0 (c : Ctx X W D Dx G C) {x : Str} {p pos : Pos} (hx : x ∈ D) (hg : Gl X x) (ho : okName x = true) :
    PE X (.Call (.Name x p) [] [] pos) fun σ H Q => spF X.K X.mg C x [] H Q fun cl d H' => W cl d σ H' := by
  obtain ⟨f, fd, ps, k, hm, hk, hb, hr, F⟩ := c.fns x hx
  constructor
  intro pins s σ H Q I h
  refine wpAny_Call_Name_kw (ld_glob I hg hm ?_ (okn ho).1)
  exact PySem.W.callWith_K0 I.kIn hk (run_fnG (us := []) F hr c.roomy.gd hb c.tk I .nil h)
theorem pe_callG (c : Ctx X W D Dx G C) {x : Str} {p pos : Pos} {a : E} {as : List E} {e : Expr} {es : List Expr} {sc : Scope} {ta : TA} (hx : x ∈ D) (hg : Gl X x) (ho : okName x = true) (hs : chkEs D sc X.N (a :: as) (e :: es) = true) (ha : PA X (e :: es) ta) :
    PE X (.Call (.Name x p) (e :: es) [] pos) fun σ H Q => ta σ H fun vs H1 => spF X.K X.mg C x vs H1 Q fun cl d H' => W cl d σ H' := by
  obtain ⟨f, fd, ps, k, hm, hk, hb, hr, F⟩ := c.fns x hx
  unfold chkEs at hs
  rw [Bool.and_eq_true] at hs
  constructor
  intro pins s σ H Q I h
  refine wpAny_Call_Name_kw (ld_glob I hg hm ?_ (okn ho).1)
  refine PySem.W.callWith_K (h₀ := X.base) I.ok.mod.kin hk (thn (ha.run pos pins s σ H _ I h) ?_) (star_cons (chk_ns hs.1)) (back_plain _ _ hs.2)
  rintro us s1 ⟨vs, H1, I1, r, q⟩
  exact ⟨I1.kIn, run_fnG F hr c.roomy.gd hb c.tk I1 r q⟩
/-- the situation of a comprehension's block -/
theorem Ctx.blk (c : Ctx X W D Dx G C) (s : Shared) (H : Hp) (scope : Scope) (cl : List (Str × Addr)) (Ca : Addr) (fp : List Addr) : Ctx (X.blk s H scope (compEnvC scope cl Ca X.env) fp) (fun _ _ _ _ => False) D Dx G C :=
  ⟨c.calm, c.nd, c.roomy, takes0, .never, c.blt, c.gls, c.exs, c.fns⟩
theorem blk_scope (s : Shared) (H : Hp) (scope : Scope) (cl : List (Str × Addr)) (Ca : Addr) (fp : List Addr) : (X.blk s H scope (compEnvC scope cl Ca X.env) fp).env.scope = relS scope X.env.scope := rfl
theorem glb_ok {x : Str} {sc : Scope} (hs : X.env.scope = sc) (h : glbB sc x = true) : Gl X x ∧ okName x = true := by
  subst hs
  exact glb_of h
end
end NC
/-! Comprehensions. -/
namespace NC
open PySem PySem.Spec PyProof.Rows L2

section
variable {K : PySem.W.Frag} {mg : Str → Option Value} {α β : Type} {j : Gh} {h : Hv} {H : Hp}
theorem Pst.noexc {r : Res α} {okk : α → Gh → Hv → Hp → Prop} {ek ek' : XK} (p : Pst K mg j h H (NC.noexc r) okk ek) : Pst K mg j h H r okk ek' := by
  cases r with
  | ok a h' => exact p
  | exc c fs h' => exact (show False from p).elim
  | bad => exact p
theorem tE.noexc {W W' : WX} {x : NC.Env → Hv → Res PV} {σ : L2.St} {Q : VK} (q : tE K mg W (fun e h => NC.noexc (x e h)) σ H Q) : tE K mg W' x σ H Q := by
  obtain ⟨j, e, h, R, E, p⟩ := q
  exact ⟨j, e, h, R, E, p.noexc⟩
theorem tT.noexc {W W' : WX} {x : NC.Env → Hv → Res PV} {σ : L2.St} {Q : Bool → Hp → Prop} (q : tT K mg W (fun e h => NC.noexc (x e h)) σ H Q) : tT K mg W' x σ H Q := by
  obtain ⟨j, e, h, R, E, p⟩ := q
  exact ⟨j, e, h, R, E, p.noexc⟩
/-- a tracked list that is none of ours is written -/
theorem Rl.other {D : Addr} {l : List V} {o : HO} (R : Rl K mg j h H) (hD : H D = some (.lst l)) (nF : ¬ j.F D) (nj : ∀ i, i < h.os.length → j.at_ i ≠ D) : Kp j.F H j.F (upd H D o) ∧ Rl K mg j h (upd H D o) := by
  have k : Kp j.F H j.F (upd H D o) := .set (fun vs e => by rw [hD] at e; cases e) (fun ob u e => by rw [hD] at e; cases e) nF
  refine ⟨k, R.inj, fun i ob e => ?_, R.lim, R.nf, fun a m => ?_⟩
  · exact RO.mono (fun _ _ => rfl) (Nat.le_refl _) k (upd_ne (nj i (List.getElem?_eq_some_iff.mp e).1)) (R.obj i ob e)
  · rw [(k.fix a m).2]; exact R.fd a m
theorem Tr.other {D : Addr} {o : HO} {j0 : Gh} {h0 : Hv} {H0 : Hp} (t : Tr j0 h0 H0 j h H) (h0D : H0 D = none) (k : Kp j.F H j.F (upd H D o)) : Tr j0 h0 H0 j h (upd H D o) :=
  ⟨t.ag, t.kp.trans k, t.sh, fun a u e n =>
    let ⟨e1, f1, n1⟩ := t.fr a u e n
    ⟨by rw [upd_ne (ne_of_none e h0D)]; exact e1, f1, n1⟩⟩
/-- where a comprehension stands: the list at D so far -/
structure CSt (K : PySem.W.Frag) (mg : Str → Option Value) (j0 : Gh) (h0 : Hv) (H0 : Hp) (D : Addr) (acc : List PyData) (j : Gh) (h : Hv) (H : Hp) : Prop where
  t : Tr j0 h0 H0 j h H
  R : Rl K mg j h H
  nF : ¬ j.F D
  nj : ∀ i, i < h.os.length → j.at_ i ≠ D
  ex : ∃ vs, H D = some (.lst vs) ∧ RDs K j.F H acc vs
theorem CSt.next {j0 : Gh} {h0 : Hv} {H0 : Hp} {D : Addr} {acc : List PyData} {j' : Gh} {h' : Hv} {H' : Hp} (c : CSt K mg j0 h0 H0 D acc j h H) (t : Tr j h H j' h' H') (R : Rl K mg j' h' H') : CSt K mg j0 h0 H0 D acc j' h' H' := by
  obtain ⟨vs, e, q⟩ := c.ex
  obtain ⟨e1, f1, n1⟩ := t.fr D _ e c.nj
  exact ⟨c.t.trans t, R, fun z => c.nF (f1 z), n1, vs, e1, RDs.mono t.kp _ _ q⟩
theorem comp_snd {σ : L2.St} {vs : List Nat} {tg : Tg} {cond elt : NC.Env → Hv → Res PV} {e0 : NC.Env} {w : Walk} {J : L2.It} {j0 : Gh} {h0 : Hv} {H0 : Hp} {Q : VK} {ek : XK} {W0 : WX}
    (hJ : ItOk K mg J w j0 h0 H0) (R0 : Rl K mg j0 h0 H0) (E0 : REnv K mg j0 h0.os.length H0 e0 (L2.wipe σ vs)) (hv : ∀ i ∈ tg.vars, i ∈ vs)
    (p : Pst K mg j0 h0 H0 (compL w.gd tg (fun e h => NC.noexc (cond e h)) (fun e h => NC.noexc (elt e h)) e0 w.xs [] h0) (okV K mg Q) ek) :
    ∀ D, H0 D = none → ∃ W : Nat → Nat → Hp → Prop, (∃ m, W 0 m (upd H0 D (.lst []))) ∧ ∀ i m H, W i m H →
      (J.stop i H ∧ Q (.ref D) H) ∨ (J.go i H ∧ ∃ Nx : Hp → Prop, (∀ H', Nx H' → ∃ m', m' < m ∧ W (i + 1) m' H') ∧ ∀ x H', J.yld i H x H' → tG K mg tg x (L2.wipe σ vs) H' fun σ2 H2 => L2.wipe σ2 vs = L2.wipe σ vs ∧ tT K mg W0 cond σ2 H2 fun b H3 =>
        if b = true then tE K mg W0 elt σ2 H3 fun y H4 => ∃ acc, H4 D = some (.lst acc) ∧ acc.length < sizeLine ∧ Nx (upd H4 D (.lst (acc ++ [y]))) else Nx H3) := by
  intro D hD
  -- what holds at the start of turn i
  let Pv : Nat → Hp → Prop := fun i H => ∃ j h acc, CSt K mg j0 h0 H0 D acc j h H ∧ Pst K mg j0 h0 H0 (compL w.gd tg (fun e h => NC.noexc (cond e h)) (fun e h => NC.noexc (elt e h)) e0 (w.xs.drop i) acc h) (okV K mg Q) ek
  refine ⟨fun i m H => m = w.xs.length - i ∧ i ≤ w.xs.length ∧ Pv i H, ⟨w.xs.length, by simp, Nat.zero_le _, j0, h0, [], ⟨Tr.new R0 hD, R0.new hD, fun z => R0.fd D z hD, R0.noMu hD, [], upd_same, .nil⟩, p⟩, ?_⟩
  rintro i m H ⟨rfl, hi, j, h, acc, c, p⟩
  by_cases hlt : i < w.xs.length
  · rw [List.drop_eq_getElem_cons hlt] at p
    unfold compL at p
    split at p
    rotate_left
    · exact (show False from p).elim
    rename_i hgd
    have hx : w.xs[i]? = some w.xs[i] := by simp [hlt]
    refine .inr ⟨hJ.go _ _ _ c.t c.R hgd i _ hx, Pv (i + 1), fun H' q => ⟨w.xs.length - (i + 1), by omega, rfl, hlt, q⟩, fun u H' y => ?_⟩
    obtain ⟨y1, y2⟩ := hJ.yld _ _ _ c.t c.R hgd i _ hx u H' y
    obtain ⟨t1, R1⟩ := yld_tr c.R y1
    have c1 := c.next t1 R1
    split at p
    · exact (show False from p).elim
    rename_i e1 hs
    refine ⟨j, e0, h, _, R1, E0.tr c1.t, y2, e1, hs, fun σ' E1 hc => ⟨(hc.wipe hv).trans (wipe_idem σ vs), j, e1, h, R1, E1, ?_⟩⟩
    cases hcd : cond e1 h with
    | bad => rw [hcd] at p; exact (show False from p).elim
    | exc _ _ _ => rw [hcd] at p; exact (show False from p).elim
    | ok v h2 =>
      rw [hcd] at p
      cases v with
      | d b =>
        cases b with
        | bool b =>
          rw [hcd]
          refine fun j2 H2 t2 R2 => ⟨b, rfl, ?_⟩
          have c2 := c1.next t2 R2
          have E2 := E1.tr t2
          cases b with
          | false => exact ⟨j2, h2, acc, c2, p⟩
          | true =>
            show tE K mg W0 elt σ' H2 _
            refine ⟨j2, e1, h2, R2, E2, ?_⟩
            cases hel : elt e1 h2 with
            | bad => have p' : Pst K mg j0 h0 H0 (Res.bind (NC.noexc (elt e1 h2)) _) _ _ := p; rw [hel] at p'; exact (show False from p').elim
            | exc _ _ _ => have p' : Pst K mg j0 h0 H0 (Res.bind (NC.noexc (elt e1 h2)) _) _ _ := p; rw [hel] at p'; exact (show False from p').elim
            | ok v3 h3 =>
              have p' : Pst K mg j0 h0 H0 (Res.bind (NC.noexc (elt e1 h2)) _) _ _ := p
              rw [hel] at p' ⊢
              refine fun j3 H3 t3 R3 u3 r3 => ?_
              have c3 := c2.next t3 R3
              obtain ⟨vs3, e3, q3⟩ := c3.ex
              cases v3 with
              | d y3 =>
                cases r3 with
                | d r3 =>
                  have p4 : Pst K mg j0 h0 H0 (if lnOk (acc.length + 1) then compL w.gd tg (fun e h => NC.noexc (cond e h)) (fun e h => NC.noexc (elt e h)) e0 (w.xs.drop (i + 1)) (acc ++ [y3]) h3 else .bad) (okV K mg Q) ek := p'
                  split at p4
                  · rename_i hz
                    obtain ⟨k, R4⟩ := R3.other (o := .lst (vs3 ++ [u3])) e3 c3.nF c3.nj
                    have t4 : Tr j0 h0 H0 j3 h3 (upd H3 D (.lst (vs3 ++ [u3]))) := c3.t.other hD k
                    refine ⟨vs3, e3, ?_, j3, h3, acc ++ [y3], ⟨t4, R4, c3.nF, c3.nj, _, upd_same, RDs.mono k _ _ (q3.append (.cons r3 .nil))⟩, p4⟩
                    have := lnOk_le hz
                    rw [← q3.length]; omega
                  · exact (show False from p4).elim
              | _ => exact (show False from p').elim
        | _ => exact (show False from p).elim
      | _ => exact (show False from p).elim
  · have hi2 : w.xs.length ≤ i := by omega
    rw [List.drop_eq_nil_of_le hi2] at p
    unfold compL at p
    split at p
    · rename_i hgd
      obtain ⟨vs, e, q⟩ := c.ex
      refine .inl ⟨hJ.stop _ _ _ c.t c.R hgd i hi2, ?_⟩
      exact p (j.fix D) H (c.t.fix hD) (c.R.fix c.nj (by rw [e]; exact fun z => nomatch z)) _ (.d (.lst e (.inr rfl) (RDs.mono (.more fun _ m => .inl m) _ _ q)))
    · exact (show False from p).elim
end
end NC
/-! Expressions: what the evaluator tells, the machine does. -/
namespace NC
open PySem PySem.Spec PyProof.Rows L2

theorem compLoc {scope sc : Scope} {x : Str} (h : locB scope x = true) : Loc (relS scope sc) x ∧ ((scope.names.lookup x == some .cell) = true ∨ (relS scope sc).names.lookup x = some .local) := by
  rcases loc_of h with k | k
  · exact ⟨.inl (lookup_relS_keep (by decide) k), .inr (lookup_relS_keep (by decide) k)⟩
  · exact ⟨.inr (lookup_relS_keep (by decide) k), .inl (by rw [k]; rfl)⟩
section
variable {X : Cx}
/-- a if t else b as a test -/
theorem pt_ifE {c a b : Expr} {tc ta tb : TT} {pos : Pos} (hc : PT X c tc) (ha : PT X a ta) (hb : PT X b tb) : PT X (.IfExp c a b pos) fun σ H Q => tc σ H fun k H1 => if k = true then ta σ H1 Q else tb σ H1 Q := by
  constructor
  intro pins s σ H Q I h
  show wpAny _ _ (do if ← isTrue c X.env (eval c X.env) then isTrue a X.env (eval a X.env) else isTrue b X.env (eval b X.env)) _ _ _
  refine wpAny_bind (thn (hc.run pins s σ H _ I h) ?_)
  rintro d s1 ⟨H1, I1, q1⟩
  cases d with
  | true => exact ha.run pins s1 σ H1 Q I1 q1
  | false => exact hb.run pins s1 σ H1 Q I1 q1
end
/-- what is told of an expression -/
structure Snd (X : Cx) (W : WX) (e : Expr) (x : NC.Env → Hv → Res PV) : Prop where
  pe : PE X e (tE X.K X.mg W x)
  pt : PT X e (tT X.K X.mg W x)
  pw : ∀ op vs p, e = .BoolOp op vs p → PW X e (tT X.K X.mg W x)
section
variable {X : Cx} {W : WX}
/-- the common way: the test is the value's truth -/
theorem Snd.val {e : Expr} {x : NC.Env → Hv → Res PV} (h : PE X e (tE X.K X.mg W x)) (he : ∀ whole, isTrue e X.env whole = (do let v ← whole; standAt e.pos; holding [v] (truthy v))) (hb : ∀ op vs p, e ≠ .BoolOp op vs p) : Snd X W e x :=
  ⟨h, (pt_val h he).imp fun _ _ _ q => tT_of q, fun op vs p z => absurd z (hb op vs p)⟩
theorem sq1 {r : V → Hp → VK → Prop} {x : NC.Env → Hv → Res PV} {f : PV → Hv → Res PV} {σ : L2.St} {H : Hp} {Q : VK} (hs : Srv1 X.K X.mg f r) (q : tE X.K X.mg W (fun e h => (x e h).bind fun v h1 => f v h1) σ H Q) : tUn r (tE X.K X.mg W x) σ H Q := by
  obtain ⟨j, e, h, R, E, p⟩ := q
  exact thenE R E p fun v u j1 h1 H1 t R1 E1 ru p1 => hs _ _ _ _ _ _ _ R1 ru p1
theorem sq2 {r : R2} {x y : NC.Env → Hv → Res PV} {f : PV → PV → Hv → Res PV} {σ : L2.St} {H : Hp} {Q : VK} (hs : Srv2 X.K X.mg f r) (q : tE X.K X.mg W (fun e h => (x e h).bind fun v h1 => (y e h1).bind fun w h2 => f v w h2) σ H Q) : tOp r (tE X.K X.mg W x) (tE X.K X.mg W y) σ H Q := by
  obtain ⟨j, e, h, R, E, p⟩ := q
  exact thenE R E p fun v u j1 h1 H1 t R1 E1 ru p1 => thenE R1 E1 p1 fun v2 u2 j2 h2 H2 t2 R2 E2 ru2 p2 => hs _ _ _ _ _ _ _ _ _ R2 (ru.tr t2) ru2 p2
/-- a chain, as a value -/
theorem sqC {r r' : R2} {x y z : NC.Env → Hv → Res PV} {f f' : PV → PV → Hv → Res PV} {σ : L2.St} {H : Hp} {Q : VK} (hs : Srv2 X.K X.mg f r) (hs' : Srv2 X.K X.mg f' r')
    (q : tE X.K X.mg W (fun e h => (x e h).bind fun v h1 => (y e h1).bind fun w h2 => tst (f v w h2) fun k h3 => if k = true then (z e h3).bind fun t h4 => f' w t h4 else .ok (.d (.bool false)) h3) σ H Q) :
    tChain r r' (tE X.K X.mg W x) (tE X.K X.mg W y) (tE X.K X.mg W z) σ H Q := by
  obtain ⟨j, e, h, R, E, p⟩ := q
  refine thenE R E p fun v u j1 h1 H1 t R1 E1 ru p1 => thenE R1 E1 p1 fun v2 u2 j2 h2 H2 t2 R2 E2 ru2 p2 => ?_
  refine hs _ _ _ _ _ _ _ _ (fun c d H' => W c d σ H') R2 (ru.tr t2) ru2 (Pst.imp (Pst.bind (show Pst X.K X.mg j2 h2 H2 (Res.bind (f v v2 h2) _) _ _ from p2)) fun v3 j3 h3 H3 t3 R3 p3 u3 ru3 => ?_)
  cases v3 with
  | d y3 =>
    cases y3 with
    | bool k =>
      cases ru3 with
      | d ru3 =>
        cases ru3
        refine ⟨k, rfl, ?_⟩
        cases k with
        | false => exact (Pst.here (ok1 := okV X.K X.mg Q) p3 R3) _ (.d (.bl _))
        | true => exact thenE R3 ((E2.tr t3)) p3 fun v4 u4 j4 h4 H4 t4 R4 E4 ru4 p4 => hs' _ _ _ _ _ _ _ _ _ R4 (ru2.tr (t3.trans t4)) ru4 p4
    | _ => exact (show False from p3).elim
  | _ => exact (show False from p3).elim
end
theorem ne_bool_name {x : Str} {p : Pos} : ∀ op vs q, Expr.Name x p ≠ .BoolOp op vs q := fun _ _ _ z => nomatch z
theorem mem_blts {x : Str} (h : x ∈ blts) : x ∈ blts := h
theorem bi_mem (b : Bi) : b.nm ∈ blts := by cases b <;> decide
theorem ty_mem (t : Ty) : t.nm ∈ blts := by cases t <;> decide
theorem chkC_pe {X : Cx} {W : WX} {c : PyData} {k : Const} {n : Nat} {p : Pos} {G : Gls} {C : Fns} (h : chkC c k = true) : PE X (.Constant k n p) (tE X.K X.mg W (ev G C (.cst c))) := by
  have go : ∀ v : V, (∀ (F : Addr → Prop) (H : Hp), RD X.K F H c v) → PE X (.Constant k n p) (tC v) → PE X (.Constant k n p) (tE X.K X.mg W (ev G C (.cst c))) := fun v hv hp =>
    hp.imp fun σ H Q q => by
      obtain ⟨j, e, hh, R, E, p⟩ := q
      exact (show Pst X.K X.mg j hh H (.ok (.d c) hh) (okV X.K X.mg Q) _ from p).here R _ (.d (hv _ _))
  cases c <;> cases k <;> first | (simp [chkC] at h; done) | skip
  · exact go .non (fun _ _ => .non) pe_non
  · simp only [chkC, beq_iff_eq] at h
    subst h
    exact go _ (fun _ _ => .bl _) pe_bl
  · simp only [chkC, beq_iff_eq] at h
    subst h
    exact go _ (fun _ _ => .int _) pe_int
  · simp only [chkC, beq_iff_eq] at h
    subst h
    exact go _ (fun _ _ => .str _) pe_str
theorem tA_nil {X : Cx} {W : WX} {G : Gls} {C : Fns} : PA X [] (tA X.K X.mg W (evs G C [])) := pa_nil.imp fun σ H Q q => by
  obtain ⟨j, e, h, R, E, p⟩ := q
  exact (show Pst X.K X.mg j h H (.ok [] h) (okVs X.K X.mg Q) _ from p).here R _ .nil
theorem itIs {X : Cx} {x : Str} {p pos : Pos} : True := trivial
end NC
set_option maxHeartbeats 1000000
/-! Expressions: the induction. -/
namespace NC
open PySem PySem.Spec PyProof.Rows L2

theorem chk_noslice {D : List Str} {sc : Scope} {N : List Str} {a : E} {l r s : Option Expr} {p : Pos} : chkE D sc N a (.Slice l r s p) = false := by
  cases a <;> first | rfl | (rename_i o _ _; cases o <;> rfl)
theorem plain_ix {D : List Str} {sc : Scope} {N : List Str} {a : E} {e : Expr} (h : chkE D sc N a e = true) : PlainIx e := by
  cases e <;> first | exact fun _ _ => rfl | (rw [chk_noslice] at h; cases h)
theorem fold_ok {D : List Str} {sc : Scope} {N : List Str} {it : NC.It} {e : Expr} (h : chkIt D sc N it e = true) (env : PySem.Env) : ∀ x, foldedSetIterable e env x = pure x := by
  cases e <;> first | exact fun _ => rfl | skip
  cases it with
  | of a => simp only [chkIt] at h; cases a <;> simp [chkE] at h
  | _ => simp [chkIt] at h
section
variable {K : PySem.W.Frag} {mg : Str → Option Value} {W : WX} {σ : L2.St} {H : Hp} {j : Gh} {e : NC.Env} {h : Hv}
theorem thenO {x : NC.Env → Hv → Res (Option PV)} {f : Option Int → Hv → Res PV} {okb : PV → Gh → Hv → Hp → Prop} {Q : Option Int → Hp → Prop} (R : Rl K mg j h H) (E : REnv K mg j h.os.length H e σ) (p : Pst K mg j h H (optI (x e h) f) okb fun c d H' => W c d σ H')
    (w : ∀ o j1 h1 H1, Tr j h H j1 h1 H1 → Rl K mg j1 h1 H1 → REnv K mg j1 h1.os.length H1 e σ → Pst K mg j1 h1 H1 (f o h1) okb (fun c d H' => W c d σ H') → Q o H1) : tO K mg W x σ H Q := by
  refine ⟨j, e, h, R, E, (Pst.bind p).imp fun v j1 h1 H1 t R1 q => ?_⟩
  cases v with
  | none => exact ⟨none, w none j1 h1 H1 t R1 (E.tr t) q, trivial⟩
  | some v =>
    cases v with
    | d y =>
      cases y with
      | int i => exact ⟨some i, w (some i) j1 h1 H1 t R1 (E.tr t) q, rfl⟩
      | _ => exact (show False from q).elim
    | _ => exact (show False from q).elim
end
variable {D Dx : List Str} {G : Gls} {C : Fns}
theorem isLst_ty {X : Cx} {j : Gh} {h : Hv} {H : Hp} {v : PV} {u : V} (R : Rl X.K X.mg j h H) (rv : RV X.K X.mg j h.os.length H v u) (hl : isLst v h = true) : tyV X.K "list" u H := by
  unfold isLst at hl
  split at hl
  · split at hl
    · rename_i e
      cases rv with
      | ref hi =>
        obtain ⟨_, vs, e1, _⟩ := obj_lst R e
        exact .inl ⟨rfl, _, .of e1⟩
    · cases hl
  · cases hl
/-- a method of one argument -/
theorem call1 {X : Cx} {W : WX} {x : NC.Env → Hv → Res PV} {f : PV → List PV → Hv → Res PV} {r : V → List V → Hp → VK → Prop} {j : Gh} {e : NC.Env} {h : Hv} {H : Hp} {σ : L2.St} {v : PV} {u : V} {Q : VK} (R : Rl X.K X.mg j h H) (E : REnv X.K X.mg j h.os.length H e σ) (rv : RV X.K X.mg j h.os.length H v u)
    (p : Pst X.K X.mg j h H (if isLst v h then (Res.bind (Res.bind (x e h) fun y h1 => (Res.ok [] h1).bind fun xs h2 => .ok (y :: xs) h2)) fun vs h2 => f v vs h2 else .bad) (okV X.K X.mg Q) fun c d H' => W c d σ H')
    (hs : ∀ {v : PV} {ys : List PV} {u : V} {vs : List V} {j : Gh} {h : Hv} {H : Hp} {Q : VK} {ek : XK}, Rl X.K X.mg j h H → RV X.K X.mg j h.os.length H v u → RVs X.K X.mg j h.os.length H ys vs → Pst X.K X.mg j h H (f v ys h) (okV X.K X.mg Q) ek → r u vs H Q) :
    tyV X.K "list" u H ∧ tCons (tE X.K X.mg W x) tNil σ H fun xs H2 => r u xs H2 Q := by
  split at p
  · rename_i hl
    refine ⟨isLst_ty R rv hl, ?_⟩
    have p' : Pst X.K X.mg j h H ((x e h).bind fun y h1 => f v [y] h1) (okV X.K X.mg Q) fun c d H' => W c d σ H' := by
      revert p
      cases x e h <;> exact id
    exact thenE R E p' fun y w j1 h1 H1 t R1 E1 rw p1 => hs R1 (rv.tr t) (.cons rw .nil) p1
  · exact (show False from p).elim
theorem meth_pe (X : Cx) (W : WX) {i : Nat} {m x : Str} {es : List E} {ees : List Expr} {px apos pos : Pos} (hm : bmName m es = true) (hl : (apos.endLine == pos.line) = true) (hN : X.N[i]? = some x) (hv : visB X.env.scope x = true) (ho : okName x = true) (hs : chkEs D X.env.scope X.N es ees = true)
  (ih : ∀ a ea, es = [a] → ees = [ea] → PE X ea (tE X.K X.mg W (ev G C a))) : PE X (.Call (.Attribute (.Name x px) m apos) ees [] pos) (tE X.K X.mg W (ev G C (.meth (.var i) m es))) := by
  have pv := pe_var (X := X) (pos := px) hN (vis_of hv) (okn ho).1 (okn ho).2.1
  have var : ∀ {σ : L2.St} {H : Hp} {Q : VK} {β : Type} {f : PV → Hv → Res β} {okb : β → Gh → Hv → Hp → Prop} {j e hh}, Rl X.K X.mg j hh H → REnv X.K X.mg j hh.os.length H e σ → Pst X.K X.mg j hh H ((ev G C (.var i) e hh).bind f) okb (fun c d H' => W c d σ H') →
      (∀ v u, RV X.K X.mg j hh.os.length H v u → Pst X.K X.mg j hh H (f v hh) okb (fun c d H' => W c d σ H') → Q u H) → tVar i σ H Q := fun {σ H Q β f okb j e hh} R E p w => by
    unfold ev at p
    split at p
    · rename_i v hv
      obtain ⟨u, h1, h2⟩ := E.2 i v hv
      exact ⟨u, h1, w v u h2 p⟩
    · exact (show False from p).elim
  match es, ees, hm, hs with
  | [], [], hm, hs =>
    have e1 : m = "pop" := by simpa [bmName] using hm
    subst e1
    refine (pe_bm0 PySem.F.plainAttrs_list PySem.F.slot_list_pop PySem.F.type_list_pop mt_pop pv rfl hl).imp fun σ H Q q => ?_
    obtain ⟨j, e, hh, R, E, p⟩ := q
    refine var R E p fun v u rv p1 => ?_
    have p2 : Pst X.K X.mg j hh H (if isLst v hh then NC.meth "pop" v [] hh else .bad) (okV X.K X.mg Q) fun c d H' => W c d σ H' := p1
    split at p2
    · rename_i hl
      exact ⟨isLst_ty R rv hl, meth_snd (X := X) "pop" v [] u [] j hh H Q _ R rv .nil p2⟩
    · exact (show False from p2).elim
  | [a], [ea], hm, hs =>
    simp only [chkEs, Bool.and_eq_true] at hs
    have iha := ih a ea rfl rfl
    have hst := star_cons (es := []) (env := X.env) (chk_ns hs.1)
    by_cases e1 : m = "append"
    · subst e1
      refine (pe_bm PySem.F.plainAttrs_list PySem.F.slot_list_append PySem.F.type_list_append mt_append pv (pa_cons iha pa_nil hst) rfl (by rw [hst]; rfl) hl hst rfl).imp fun σ H Q q => ?_
      obtain ⟨j, e, hh, R, E, p⟩ := q
      refine var R E p fun v u rv p1 => ?_
      have p2 : Pst X.K X.mg j hh H (if isLst v hh then (Res.bind (Res.bind (ev G C a e hh) fun x h1 => (Res.ok [] h1).bind fun xs h2 => .ok (x :: xs) h2)) fun vs h2 => NC.meth "append" v vs h2 else .bad) (okV X.K X.mg Q) fun c d H' => W c d σ H' := p1
      exact call1 (x := ev G C a) (f := NC.meth "append") (r := rAppend) R E rv p2 (fun {v ys u vs j h H Q ek} R rv rvs p => meth_snd (X := X) "append" v ys u vs j h H Q ek R rv rvs p)
    · have e2 : m = "extend" := by simpa [bmName, e1] using hm
      subst e2
      refine (pe_bm PySem.F.plainAttrs_list PySem.F.slot_list_extend PySem.F.type_list_extend mt_extend pv (pa_cons iha pa_nil hst) rfl (by rw [hst]; rfl) hl hst rfl).imp fun σ H Q q => ?_
      obtain ⟨j, e, hh, R, E, p⟩ := q
      refine var R E p fun v u rv p1 => ?_
      have p2 : Pst X.K X.mg j hh H (if isLst v hh then (Res.bind (Res.bind (ev G C a e hh) fun x h1 => (Res.ok [] h1).bind fun xs h2 => .ok (x :: xs) h2)) fun vs h2 => NC.meth "extend" v vs h2 else .bad) (okV X.K X.mg Q) fun c d H' => W c d σ H' := p1
      exact call1 (x := ev G C a) (f := NC.meth "extend") (r := rExtend) R E rv p2 (fun {v ys u vs j h H Q ek} R rv rvs p => meth_snd (X := X) "extend" v ys u vs j h H Q ek R rv rvs p)
  | [], _ :: _, _, hs => simp [chkEs] at hs
  | [_], [], _, hs => simp [chkEs] at hs
  | [_], _ :: _ :: _, _, hs => simp [chkEs] at hs
  | _ :: _ :: _, _, hm, _ => simp [bmName] at hm
mutual
theorem e_snd : ∀ (a : E) (X : Cx) (W : WX), Ctx X W D Dx G C → ∀ (e : Expr), chkE D X.env.scope X.N a e = true → Snd X W e (ev G C a)
  | .cst c, X, W, ct, e, h => by
    cases e <;> first | (simp [chkE] at h; done) | skip
    simp only [chkE] at h
    exact .val (chkC_pe h) (fun _ => rfl) (fun _ _ _ z => nomatch z)
  | .var i, X, W, ct, e, h => by
    cases e <;> first | (simp [chkE] at h; done) | skip
    simp only [chkE, Bool.and_eq_true] at h
    refine .val ((pe_var (of_decide_eq_true h.1.1) (vis_of h.1.2) (okn h.2).1 (okn h.2).2.1).imp fun σ H Q q => ?_) (fun _ => rfl) (fun _ _ _ z => nomatch z)
    obtain ⟨j, e, hh, R, E, p⟩ := q
    unfold ev at p
    split at p
    · rename_i v hv
      obtain ⟨u, h1, h2⟩ := E.2 i v hv
      exact ⟨u, h1, p.here R _ h2⟩
    · exact (show False from p).elim
  | .glb x, X, W, ct, e, h => by
    cases e <;> first | (simp [chkE] at h; done) | skip
    rename_i y pos
    simp only [chkE, Bool.and_eq_true, decide_eq_true_eq] at h
    obtain ⟨rfl, h⟩ := h
    obtain ⟨hg, ho⟩ := glb_of h
    have pe : PE X (.Name x pos) (tE X.K X.mg W (ev G C (.glb x))) := by
      cases hG : G x with
      | none =>
        refine ⟨fun pins s σ H Q I q => ?_⟩
        obtain ⟨j, e, hh, R, E, p⟩ := q
        unfold ev at p
        rw [hG] at p
        exact (show False from p).elim
      | some v =>
        obtain ⟨u, cv, hm, r, hr⟩ := ct.gls x v hG
        refine (pe_glob hg hm r (okn ho).1).imp fun σ H Q q => ?_
        obtain ⟨j, e, hh, R, E, p⟩ := q
        unfold ev at p
        rw [hG] at p
        exact (Pst.here (ok1 := okV X.K X.mg Q) p R) _ (hr _ _ _)
    exact .val pe (fun _ => rfl) (fun _ _ _ z => nomatch z)
  | .bin o a b, X, W, ct, e, h => by
    cases e <;> first | (simp [chkE] at h; done) | skip
    simp only [chkE, Bool.and_eq_true] at h
    obtain ⟨r, ho, hs⟩ := op_snd (X := X) h.1.1
    exact .val ((pe_op ho (e_snd a X W ct _ h.1.2).pe (e_snd b X W ct _ h.2).pe).imp fun σ H Q q => sq2 hs q) (fun _ => rfl) (fun _ _ _ z => nomatch z)
  | .neg a, X, W, ct, e, h => by
    cases e <;> first | (simp [chkE] at h; done) | skip
    rename_i op ea p
    cases op <;> first | (simp [chkE] at h; done) | skip
    simp only [chkE] at h
    refine .val ((pe_un un_neg (e_snd a X W ct _ h).pe).imp fun σ H Q q => ?_) (fun _ => rfl) (fun _ _ _ z => nomatch z)
    refine sq1 (f := fun x h1 => match x with | .d (.int i) => .ok (.d (.int (-i))) h1 | _ => .bad) (fun x u j hh H Q ek R rx p => ?_) q
    dsimp only at p
    split at p
    · cases rx with | d rx => cases rx with | int _ => exact ⟨_, rfl, p.here R _ (.d (.int _))⟩
    · exact (show False from p).elim
  | .not a, X, W, ct, e, h => by
    cases e <;> first | (simp [chkE] at h; done) | skip
    rename_i op ea p
    cases op <;> first | (simp [chkE] at h; done) | skip
    simp only [chkE] at h
    have ih := e_snd a X W ct _ h
    refine ⟨(pe_not ih.pe).imp fun σ H Q q => ?_, (pt_not ih.pt).imp fun σ H Q q => ?_, fun _ _ _ z => nomatch z⟩
    · obtain ⟨j, e, hh, R, E, p⟩ := q
      exact thenV R E p fun b j1 h1 H1 t R1 E1 p1 => ⟨b, rfl, (Pst.here (ok1 := okV X.K X.mg Q) p1 R1) _ (.d (.bl _))⟩
    · obtain ⟨j, e, hh, R, E, p⟩ := q
      refine thenT R E p fun b j1 h1 H1 t R1 E1 p1 => ?_
      obtain ⟨b', e1, q1⟩ := Pst.here (ok1 := okB Q) p1 R1
      cases e1
      exact q1
  | .and a b, X, W, ct, e, h => by
    cases e <;> first | (simp [chkE] at h; done) | skip
    rename_i op vs p
    cases op <;> first | (simp [chkE] at h; done) | skip
    match vs, h with
    | [], h => simp [chkE] at h
    | [_], h => simp [chkE] at h
    | ea :: eb :: r, h =>
    simp only [chkE, Bool.and_eq_true] at h
    have iha := e_snd a X W ct _ h.1
    have ihb := e_snd b X W ct _ h.2
    have hb : PE X (.BoolOp .And (eb :: r) p) (tE X.K X.mg W (ev G C b)) ∧ PW X (.BoolOp .And (eb :: r) p) (tT X.K X.mg W (ev G C b)) := by
      cases r with
      | nil => exact ⟨pe_one ihb.pe, pw_and1 ihb.pt⟩
      | cons ec r => exact ⟨ihb.pe, ihb.pw _ _ _ rfl⟩
    have tt : ∀ σ H Q, tT X.K X.mg W (ev G C (.and a b)) σ H Q → tAnd (tT X.K X.mg W (ev G C a)) (tT X.K X.mg W (ev G C b)) σ H Q := fun σ H Q q => by
      obtain ⟨j, e, hh, R, E, p⟩ := q
      refine thenT R E p fun c j1 h1 H1 t R1 E1 p1 => ?_
      cases c with
      | false =>
        obtain ⟨b', e1, q1⟩ := Pst.here (ok1 := okB Q) p1 R1
        cases e1
        exact q1
      | true =>
        refine thenT R1 E1 p1 fun c j2 h2 H2 t2 R2 E2 p2 => ?_
        obtain ⟨b', e1, q1⟩ := Pst.here (ok1 := okB Q) p2 R2
        cases e1
        exact q1
    refine ⟨(pe_and iha.pe hb.1).imp fun σ H Q q => ?_, (pw_and iha.pt hb.2).pt.imp tt, fun op' vs' p' z => ?_⟩
    · obtain ⟨j, e, hh, R, E, p⟩ := q
      refine thenV R E p fun c j1 h1 H1 t R1 E1 p1 => ⟨c, rfl, ?_⟩
      cases c with
      | false => exact (Pst.here (ok1 := okV X.K X.mg Q) p1 R1) _ (.d (.bl _))
      | true =>
        refine thenV R1 E1 p1 fun c j2 h2 H2 t2 R2 E2 p2 => ?_
        exact (Pst.here (ok1 := okV X.K X.mg Q) p2 R2) _ (.d (.bl _))
    · cases z
      exact (pw_and iha.pt hb.2).imp tt
  | .or a b, X, W, ct, e, h => by
    cases e <;> first | (simp [chkE] at h; done) | skip
    rename_i op vs p
    cases op <;> first | (simp [chkE] at h; done) | skip
    match vs, h with
    | [], h => simp [chkE] at h
    | [_], h => simp [chkE] at h
    | ea :: eb :: r, h =>
    simp only [chkE, Bool.and_eq_true] at h
    have iha := e_snd a X W ct _ h.1
    have ihb := e_snd b X W ct _ h.2
    have hb : PE X (.BoolOp .Or (eb :: r) p) (tE X.K X.mg W (ev G C b)) ∧ PW X (.BoolOp .Or (eb :: r) p) (tT X.K X.mg W (ev G C b)) := by
      cases r with
      | nil => exact ⟨pe_one ihb.pe, pw_or1 ihb.pt⟩
      | cons ec r => exact ⟨ihb.pe, ihb.pw _ _ _ rfl⟩
    have tt : ∀ σ H Q, tT X.K X.mg W (ev G C (.or a b)) σ H Q → tOr (tT X.K X.mg W (ev G C a)) (tT X.K X.mg W (ev G C b)) σ H Q := fun σ H Q q => by
      obtain ⟨j, e, hh, R, E, p⟩ := q
      refine thenT R E p fun c j1 h1 H1 t R1 E1 p1 => ?_
      cases c with
      | true =>
        obtain ⟨b', e1, q1⟩ := Pst.here (ok1 := okB Q) p1 R1
        cases e1
        exact q1
      | false =>
        refine thenT R1 E1 p1 fun c j2 h2 H2 t2 R2 E2 p2 => ?_
        obtain ⟨b', e1, q1⟩ := Pst.here (ok1 := okB Q) p2 R2
        cases e1
        exact q1
    refine ⟨(pe_or iha.pe hb.1).imp fun σ H Q q => ?_, (pw_or iha.pt hb.2).pt.imp tt, fun op' vs' p' z => ?_⟩
    · obtain ⟨j, e, hh, R, E, p⟩ := q
      refine thenV R E p fun c j1 h1 H1 t R1 E1 p1 => ⟨c, rfl, ?_⟩
      cases c with
      | true => exact (Pst.here (ok1 := okV X.K X.mg Q) p1 R1) _ (.d (.bl _))
      | false =>
        refine thenV R1 E1 p1 fun c j2 h2 H2 t2 R2 E2 p2 => ?_
        exact (Pst.here (ok1 := okV X.K X.mg Q) p2 R2) _ (.d (.bl _))
    · cases z
      exact (pw_or iha.pt hb.2).imp tt
  | .cmp o a b, X, W, ct, e, h => by
    cases e <;> first | (simp [chkE] at h; done) | skip
    rename_i ea ops es p
    match ops, es, h with
    | [op], [eb], h =>
      simp only [chkE, Bool.and_eq_true, Bool.not_eq_true'] at h
      obtain ⟨r, ho, hs⟩ := cm_snd (X := X) ct.roomy h.1.1.1
      have iha := e_snd a X W ct _ h.1.2
      have ihb := e_snd b X W ct _ h.2
      exact ⟨(pe_cmpR ho iha.pe ihb.pe h.1.1.2).imp fun σ H Q q => sq2 hs q, (pt_cmpR ho iha.pe ihb.pe h.1.1.2).imp fun σ H Q q => sq2 hs (tT_of q), fun _ _ _ z => nomatch z⟩
    | [], _, h => simp [chkE] at h
    | [_], [], h => simp [chkE] at h
    | [_], _ :: _ :: _, h => simp [chkE] at h
    | _ :: _ :: _, _, h => simp [chkE] at h
  | .cmp2 o o' a b c, X, W, ct, e, h => by
    cases e <;> first | (simp [chkE] at h; done) | skip
    rename_i ea ops es p
    match ops, es, h with
    | [op, op'], [eb, ec], h =>
      simp only [chkE, Bool.and_eq_true, Bool.not_eq_true'] at h
      obtain ⟨⟨⟨⟨⟨h1, h2⟩, h3⟩, h4⟩, h5⟩, h6⟩ := h
      obtain ⟨r, ho, hs⟩ := cm_snd (X := X) ct.roomy h1
      obtain ⟨r', ho', hs'⟩ := cm_snd (X := X) ct.roomy h2
      have iha := e_snd a X W ct _ h4
      have ihb := e_snd b X W ct _ h5
      have ihc := e_snd c X W ct _ h6
      have hm : lastMarks [op, op'] [eb, ec] = false := h3
      exact ⟨(pe_chain ho ho' iha.pe ihb.pe ihc.pe hm).imp fun σ H Q q => sqC hs hs' q, (pt_chain ho ho' iha.pe ihb.pe ihc.pe hm).imp fun σ H Q q => sqC hs hs' (tT_of q), fun _ _ _ z => nomatch z⟩
    | [], _, h => simp [chkE] at h
    | [_], _, h => simp [chkE] at h
    | [_, _], [], h => simp [chkE] at h
    | [_, _], [_], h => simp [chkE] at h
    | [_, _], _ :: _ :: _ :: _, h => simp [chkE] at h
    | _ :: _ :: _ :: _, _, h => simp [chkE] at h
  | .ite c a b, X, W, ct, e, h => by
    cases e <;> first | (simp [chkE] at h; done) | skip
    simp only [chkE, Bool.and_eq_true] at h
    have ihc := e_snd c X W ct _ h.1.1
    have iha := e_snd a X W ct _ h.1.2
    have ihb := e_snd b X W ct _ h.2
    refine ⟨(pe_ifExp ihc.pt iha.pe ihb.pe).imp fun σ H Q q => ?_, (pt_ifE ihc.pt iha.pt ihb.pt).imp fun σ H Q q => ?_, fun _ _ _ z => nomatch z⟩
    · obtain ⟨j, e, hh, R, E, p⟩ := q
      refine thenT R E p fun k j1 h1 H1 t R1 E1 p1 => ?_
      cases k with
      | true => exact ⟨j1, e, h1, R1, E1, p1⟩
      | false => exact ⟨j1, e, h1, R1, E1, p1⟩
    · obtain ⟨j, e, hh, R, E, p⟩ := q
      refine thenT R E p fun k j1 h1 H1 t R1 E1 p1 => ?_
      cases k with
      | true => exact ⟨j1, e, h1, R1, E1, p1⟩
      | false => exact ⟨j1, e, h1, R1, E1, p1⟩
  | .call x es, X, W, ct, e, h => by
    cases e <;> first | (simp [chkE] at h; done) | skip
    rename_i ef ees kws p
    cases ef <;> first | (simp [chkE] at h; done) | skip
    cases kws <;> first | (simp [chkE] at h; done) | skip
    rename_i y py
    simp only [chkE, Bool.and_eq_true, decide_eq_true_eq] at h
    obtain ⟨⟨⟨rfl, hg⟩, hx⟩, hs⟩ := h
    obtain ⟨g1, g2⟩ := glb_of hg
    have ih := es_snd es X W ct _ hs
    refine .val ?_ (fun _ => rfl) (fun _ _ _ z => nomatch z)
    cases es with
    | nil =>
      cases ees with
      | cons _ _ => simp [chkEs] at hs
      | nil =>
        refine (pe_callG0 ct hx g1 g2).imp fun σ H Q q => ?_
        obtain ⟨j, e, hh, R, E, p⟩ := q
        exact ⟨j, hh, [], R, .nil, p⟩
    | cons a as =>
      cases ees with
      | nil => simp [chkEs] at hs
      | cons e0 es0 =>
        refine (pe_callG ct hx g1 g2 hs ih).imp fun σ H Q q => ?_
        obtain ⟨j, e, hh, R, E, p⟩ := q
        exact thenA R E p fun vs us j1 h1 H1 t R1 E1 rv p1 => ⟨j1, h1, vs, R1, rv, p1⟩
  | .callv f es, X, W, ct, e, h => by
    cases e <;> simp [chkE] at h
  | .bi b a, X, W, ct, e, h => by
    cases e <;> first | (simp [chkE] at h; done) | skip
    rename_i ef ees kws p
    cases ef <;> first | (simp [chkE] at h; done) | skip
    cases kws <;> first | (simp [chkE] at h; done) | skip
    match ees, h with
    | [ea], h =>
      simp only [chkE, Bool.and_eq_true, decide_eq_true_eq] at h
      obtain ⟨⟨rfl, hg⟩, h'⟩ := h
      obtain ⟨r, hc, hs⟩ := bi_snd (X := X) b ct.roomy ct.calm
      exact .val ((hc _ _ _ _ (chk_ns h') (e_snd a X W ct _ h').pe (glb_of hg).1 (ct.blt _ (bi_mem b))).imp fun σ H Q q => sq1 hs q) (fun _ => rfl) (fun _ _ _ z => nomatch z)
    | [], h => simp [chkE] at h
    | _ :: _ :: _, h => simp [chkE] at h
  | .isi t a, X, W, ct, e, h => by
    cases e <;> first | (simp [chkE] at h; done) | skip
    rename_i ef ees kws p
    cases ef <;> first | (simp [chkE] at h; done) | skip
    cases kws <;> first | (simp [chkE] at h; done) | skip
    match ees, h with
    | [ea, et], h =>
      cases et <;> first | (simp [chkE] at h; done) | skip
      simp only [chkE, Bool.and_eq_true, decide_eq_true_eq] at h
      obtain ⟨⟨⟨⟨rfl, hg⟩, rfl⟩, hg2⟩, h'⟩ := h
      obtain ⟨r, hc, hs⟩ := isi_snd (X := X) t
      exact .val ((hc _ _ _ _ _ (chk_ns h') (e_snd a X W ct _ h').pe (glb_of hg).1 (ct.blt _ (by decide)) (glb_of hg2).1 (ct.blt _ (ty_mem t))).imp fun σ H Q q => sq1 hs q) (fun _ => rfl) (fun _ _ _ z => nomatch z)
    | [], h => simp [chkE] at h
    | [_], h => simp [chkE] at h
    | _ :: _ :: _ :: _, h => simp [chkE] at h
  | .tup es, X, W, ct, e, h => by
    cases e <;> first | (simp [chkE] at h; done) | skip
    simp only [chkE] at h
    refine .val ((pe_tup (es_snd es X W ct _ h)).imp fun σ H Q q => ?_) (fun _ => rfl) (fun _ _ _ z => nomatch z)
    obtain ⟨j, e, hh, R, E, p⟩ := q
    refine thenA R E p fun vs us j1 h1 H1 t R1 E1 rv p1 => ?_
    split at p1
    · rename_i hz
      exact ⟨by rw [← rv.length]; exact lnOk_le hz, fun a ha => p1 j1 _ (Tr.new R1 ha) (R1.new ha) _ (RV.mkTup R1 ha rv)⟩
    · exact (show False from p1).elim
  | .lst m es, X, W, ct, e, h => by
    cases e <;> first | (simp [chkE] at h; done) | skip
    simp only [chkE] at h
    refine .val ((pe_lst (es_snd es X W ct _ h)).imp fun σ H Q q => ?_) (fun _ => rfl) (fun _ _ _ z => nomatch z)
    obtain ⟨j, e, hh, R, E, p⟩ := q
    refine thenA R E p fun vs us j1 h1 H1 t R1 E1 rv p1 => ?_
    split at p1
    · rename_i ds hd
      have rd := rv.toD hd
      split at p1
      · rename_i hz
        refine ⟨by rw [← rd.length]; exact lnOk_le hz, ?_⟩
        split at p1
        · intro a ha
          have q := p1 (j1.grow h1.os.length a) _ (Tr.add R1 ha) (R1.add ha (u := .lst ds) ⟨us, upd_same, RDs.mono (R1.kp ha) _ _ rd⟩) _ (.ref (by simp))
          rw [grow_eq] at q
          exact q
        · exact fin_lst R1 rd p1
      · exact (show False from p1).elim
    · exact (show False from p1).elim
  | .ix a i, X, W, ct, e, h => by
    cases e <;> first | (simp [chkE] at h; done) | skip
    simp only [chkE, Bool.and_eq_true] at h
    obtain ⟨r, hr, hs⟩ := ix_snd (X := X)
    exact .val ((pe_ix hr (e_snd a X W ct _ h.1).pe (e_snd i X W ct _ h.2).pe (plain_ix h.2)).imp fun σ H Q q => sq2 hs q) (fun _ => rfl) (fun _ _ _ z => nomatch z)
  | .slc a lo hi, X, W, ct, e, h => by
    cases e <;> first | (simp [chkE] at h; done) | skip
    rename_i ea es p
    cases es <;> first | (simp [chkE] at h; done) | skip
    rename_i el er est p2
    cases est <;> first | (simp [chkE] at h; done) | skip
    simp only [chkE, Bool.and_eq_true] at h
    obtain ⟨r, hr, hs⟩ := slc_snd (X := X)
    refine .val ((pe_slice hr (e_snd a X W ct _ h.1.1).pe (eo_snd lo X W ct _ h.1.2) (eo_snd hi X W ct _ h.2)).imp fun σ H Q q => ?_) (fun _ => rfl) (fun _ _ _ z => nomatch z)
    obtain ⟨j, e, hh, R, E, p⟩ := q
    refine thenE R E p fun v u j1 h1 H1 t R1 E1 ru p1 => thenO R1 E1 p1 fun l j2 h2 H2 t2 R2 E2 p2 => thenO R2 E2 p2 fun r' j3 h3 H3 t3 R3 E3 p3 => ?_
    exact hs _ _ _ _ _ _ _ _ _ R3 (ru.tr (t2.trans t3)) p3
  | .comp own elt tg it cond, X, W, ct, e, h => by
    cases e <;> first | (simp [chkE] at h; done) | skip
    rename_i eelt gens scope p
    match gens, h with
    | [⟨etg, eit, eifs, asy⟩], h =>
        unfold chkE at h
        simp only [Bool.and_eq_true, decide_eq_true_eq] at h
        obtain ⟨⟨⟨⟨⟨⟨⟨rfl, hb⟩, hi⟩, ht⟩, hv⟩, htg⟩, hel⟩, hc⟩ := h
        have ok := blkOk_by hb
        have hown : (own.map fun i => ((X.N[i]?).getD ("" : Str), i)).map (·.2) = own := by simp [Function.comp_def]
        have hv' : ∀ i ∈ tg.vars, i ∈ own := fun i hi => of_decide_eq_true (List.all_eq_true.mp hv i hi)
        have cb := fun (s : Shared) (H : Hp) (cl : List (Str × Addr)) (Ca : Addr) (fp : List Addr) => ct.blk s H scope cl Ca fp
        have hcd : ∀ (s : Shared) (H : Hp) (Ca : Addr) (cl : List (Str × Addr)) (fp : List Addr), PTs (X.blk s H scope (compEnvC scope cl Ca X.env) fp) eifs (tT X.K X.mg (fun _ _ _ _ => False) fun e0 h0 => match (generalizing := false) cond with
            | none => .ok (.d (.bool true)) h0
            | some c => ev G C c e0 h0) := by
          intro s H Ca cl fp
          cases cond with
          | none =>
            cases eifs with
            | cons _ _ => simp at hc
            | nil =>
              refine ⟨fun pins s' σ H' Q I q => pts_nil.run pins s' σ H' Q I ?_⟩
              obtain ⟨j, e, hh, R, E, p⟩ := q
              obtain ⟨b, e1, q1⟩ := Pst.here (ok1 := okB Q) p R
              cases e1
              exact q1
          | some c =>
            match eifs, hc with
            | [ec], hc =>
              exact pts_one (e_snd c (X.blk s H scope (compEnvC scope cl Ca X.env) fp) _ (cb s H cl Ca fp) ec hc).pt
            | [], hc => simp at hc
            | _ :: _ :: _, hc => simp at hc
        refine .val ((pe_lc (g := tG X.K X.mg tg) (te := tE X.K X.mg (fun _ _ _ _ => False) (ev G C elt)) ct.calm ct.nd (it_snd it X W ct etg eit hi ht) ok (fun s H Ca cl fp => tg_snd (X := X.blk s H scope (compEnvC scope cl Ca X.env) fp) (sc := scope) ct.calm ct.nd (fun x hx => compLoc hx) tg etg htg) hcd
          (fun s H Ca cl fp => (e_snd elt (X.blk s H scope (compEnvC scope cl Ca X.env) fp) _ (cb s H cl Ca fp) eelt hel).pe) (fold_ok hi X.env)).imp fun σ H Q q => ?_) (fun _ => rfl) (fun _ _ _ z => nomatch z)
        rw [hown]
        obtain ⟨j, e, hh, R, E, p⟩ := q
        unfold ev at p
        refine ⟨j, e, hh, R, E, Pst.imp (Pst.bind p) fun w j1 h1 H1 t R1 p1 J hJ => ?_⟩
        exact comp_snd hJ R1 ((E.tr t).wipe own) hv' p1
    | [], h => simp [chkE] at h
    | _ :: _ :: _, h => simp [chkE] at h
  | .meth o m es, X, W, ct, e, h => by
    cases o <;> first | (cases e <;> simp [chkE] at h; done) | skip
    rename_i i
    cases e <;> first | (simp [chkE] at h; done) | skip
    rename_i ef ees kws pos
    cases ef <;> first | (simp [chkE] at h; done) | skip
    cases kws <;> first | (simp [chkE] at h; done) | skip
    rename_i eo m' apos
    cases eo <;> first | (simp [chkE] at h; done) | skip
    simp only [chkE, Bool.and_eq_true, decide_eq_true_eq] at h
    obtain ⟨⟨⟨⟨⟨⟨h1, hm⟩, hl⟩, hN⟩, hv⟩, ho⟩, hs⟩ := h
    subst h1
    refine .val (meth_pe X W hm hl hN hv ho hs fun a ea e1 e2 => ?_) (fun _ => rfl) (fun _ _ _ z => nomatch z)
    subst e1
    subst e2
    simp only [chkEs, Bool.and_eq_true] at hs
    exact (e_snd a X W ct _ hs.1).pe
theorem es_snd : ∀ (as : List E) (X : Cx) (W : WX), Ctx X W D Dx G C → ∀ (es : List Expr), chkEs D X.env.scope X.N as es = true → PA X es (tA X.K X.mg W (evs G C as))
  | [], X, W, ct, es, h => by
    cases es with
    | nil => exact tA_nil
    | cons _ _ => simp [chkEs] at h
  | a :: as, X, W, ct, es, h => by
    cases es with
    | nil => simp [chkEs] at h
    | cons e es =>
      simp only [chkEs, Bool.and_eq_true] at h
      refine (pa_cons (e_snd a X W ct _ h.1).pe (es_snd as X W ct _ h.2) (star_cons (chk_ns h.1))).imp fun σ H Q q => ?_
      obtain ⟨j, e, hh, R, E, p⟩ := q
      refine thenE R E p fun v u j1 h1 H1 t R1 E1 ru p1 => thenA R1 E1 p1 fun vs us j2 h2 H2 t2 R2 E2 rv p2 => ?_
      exact (Pst.here (ok1 := okVs X.K X.mg Q) p2 R2) _ (.cons (ru.tr t2) rv)
theorem eo_snd : ∀ (a : Option E) (X : Cx) (W : WX), Ctx X W D Dx G C → ∀ (e : Option Expr), chkEo D X.env.scope X.N a e = true → PO X e (tO X.K X.mg W (evo G C a))
  | none, X, W, ct, e, h => by
    cases e with
    | some _ => simp [chkEo] at h
    | none =>
      refine po_none.imp fun σ H Q q => ?_
      obtain ⟨j, e, hh, R, E, p⟩ := q
      obtain ⟨o, q, m⟩ := Pst.here (ok1 := okO Q) p R
      cases o with
      | none => exact q
      | some _ => exact m.elim
  | some a, X, W, ct, e, h => by
    cases e with
    | none => simp [chkEo] at h
    | some e =>
      simp only [chkEo] at h
      refine (po_some (e_snd a X W ct _ h).pe).imp fun σ H Q q => ?_
      obtain ⟨j, e, hh, R, E, p⟩ := q
      refine thenE R E p fun v u j1 h1 H1 t R1 E1 ru p1 => ?_
      obtain ⟨o, q, m⟩ := Pst.here (ok1 := okO Q) p1 R1
      cases o with
      | none =>
        cases v with
        | d y => cases y <;> exact (show False from m).elim
        | _ => exact (show False from m).elim
      | some k =>
        cases v with
        | d y =>
          cases ru with
          | d ru =>
            cases ru with
            | int i => exact ⟨i, rfl, by rw [show i = k from m]; exact q⟩
            | _ => exact (show False from m).elim
        | _ => exact (show False from m).elim
theorem it_snd : ∀ (a : NC.It) (X : Cx) (W : WX), Ctx X W D Dx G C → ∀ (tg e : Expr), chkIt D X.env.scope X.N a e = true → (!needsTup a || isTupX tg) = true → PI X tg e (tI X.K X.mg W (walk G C a))
  | .of a, X, W, ct, tg, e, h, ht => by
    simp only [chkIt] at h
    refine (pi_seq (e_snd a X W ct _ h).pe).imp fun σ H R q => ?_
    obtain ⟨j, e, hh, Rr, E, p⟩ := q
    refine thenE Rr E p fun v u j1 h1 H1 t R1 E1 ru p1 => ?_
    unfold walk1 at p1
    split at p1
    · cases ru with | d ru => cases ru with | lst z m q =>
      exact ⟨_, rfl, .inl ⟨⟨_, .of z⟩, p1 _ _ Tr.refl R1 _ (itok_list (fun j h H t => .of ((t.kp.fix _ m).2.trans z)) q)⟩⟩
    · cases ru with | d ru => cases ru with | tup z q =>
      exact ⟨_, rfl, .inr ⟨⟨_, z⟩, p1 _ _ Tr.refl R1 _ (itok_tup z (.ofD q))⟩⟩
    · cases ru with | tup z q =>
      exact ⟨_, rfl, .inr ⟨⟨_, z⟩, p1 _ _ Tr.refl R1 _ (itok_tup z q)⟩⟩
    · cases ru with | scr z q =>
      exact ⟨_, rfl, .inl ⟨⟨_, z.sq⟩, p1 _ _ Tr.refl R1 _ (itok_list (fun j h H t => (t.kp.zl z).sq) q)⟩⟩
    · cases ru with | ref hi =>
      split at p1
      · rename_i xs hx
        obtain ⟨_, vs, e1, _⟩ := obj_lst R1 hx
        exact ⟨_, rfl, .inl ⟨⟨_, .of e1⟩, p1 _ _ Tr.refl R1 _ (itok_ref hi)⟩⟩
      · exact (show False from p1).elim
    · exact (show False from p1).elim
  | .range1 a, X, W, ct, tg, e, h, ht => by
    simp only [chkIt] at h
    split at h
    rotate_left
    · cases h
    rename_i y py ea pp
    simp only [Bool.and_eq_true, decide_eq_true_eq] at h
    obtain ⟨⟨rfl, hg⟩, h'⟩ := h
    have hst := star_cons (es := []) (env := X.env) (chk_ns h')
    refine (pi_range1 (glb_of hg).1 (ct.blt _ (by decide)) (pa_cons (e_snd a X W ct _ h').pe pa_nil hst) hst).imp fun σ H R q => ?_
    obtain ⟨j, e, hh, Rr, E, p⟩ := q
    refine thenE Rr E p fun v u j1 h1 H1 t R1 E1 ru p1 => ?_
    split at p1
    · rename_i i
      split at p1
      · rename_i hb
        cases ru with | d ru => cases ru with | int _ =>
        unfold b62 at hb
        rw [Bool.and_eq_true] at hb
        exact ⟨i, rfl, of_decide_eq_true hb.1, of_decide_eq_true hb.2, p1 _ _ Tr.refl R1 _ itok_range⟩
      · exact (show False from p1).elim
    · exact (show False from p1).elim
  | .range2 a b, X, W, ct, tg, e, h, ht => by
    simp only [chkIt] at h
    split at h
    rotate_left
    · cases h
    simp only [Bool.and_eq_true, decide_eq_true_eq] at h
    obtain ⟨⟨⟨rfl, hg⟩, h'⟩, h2⟩ := h
    rename_i ea eb pp
    have hst := star_cons (es := [eb]) (env := X.env) (chk_ns h')
    have hst2 := star_cons (es := []) (env := X.env) (chk_ns h2)
    refine (pi_range2 (glb_of hg).1 (ct.blt _ (by decide)) (pa_cons (e_snd a X W ct _ h').pe (pa_cons (e_snd b X W ct _ h2).pe pa_nil hst2) hst) (by rw [hst, hst2]; rfl) hst2).imp fun σ H R q => ?_
    obtain ⟨j, e, hh, Rr, E, p⟩ := q
    refine thenE Rr E p fun v u j1 h1 H1 t R1 E1 ru p1 => thenE R1 E1 p1 fun v2 u2 j2 hh2 H2 t2 R2 E2 ru2 p2 => ?_
    split at p2
    · split at p2
      · rename_i i k hb
        rw [Bool.and_eq_true] at hb
        unfold b62 at hb
        rw [Bool.and_eq_true, Bool.and_eq_true] at hb
        cases ru with | d ru => cases ru with | int _ => cases ru2 with | d ru2 => cases ru2 with | int _ =>
        exact ⟨_, _, rfl, ⟨of_decide_eq_true hb.1.1, of_decide_eq_true hb.1.2, of_decide_eq_true hb.2.1, of_decide_eq_true hb.2.2⟩, p2 _ _ Tr.refl R2 _ itok_range⟩
      · exact (show False from p2).elim
    · exact (show False from p2).elim
  | .zip2 a b, X, W, ct, tg, e, h, ht => by
    simp only [chkIt] at h
    split at h
    rotate_left
    · cases h
    cases tg <;> first | (simp [needsTup, isTupX] at ht; done) | skip
    simp only [Bool.and_eq_true, decide_eq_true_eq] at h
    obtain ⟨⟨⟨rfl, hg⟩, h'⟩, h2⟩ := h
    rename_i ea eb _ _ _ _
    have hst := star_cons (es := [eb]) (env := X.env) (chk_ns h')
    have hst2 := star_cons (es := []) (env := X.env) (chk_ns h2)
    refine (RZ.pi_zipA (glb_of hg).1 (ct.blt _ (by decide)) (pa_cons (e_snd a X W ct _ h').pe (pa_cons (e_snd b X W ct _ h2).pe pa_nil hst2) hst) hst (by rw [hst2]; rfl)).imp fun σ H R q => ?_
    obtain ⟨j, e, hh, Rr, E, p⟩ := q
    refine thenE Rr E p fun v u j1 h1 H1 t R1 E1 ru p1 => thenE R1 E1 p1 fun v2 u2 j2 hh2 H2 t2 R2 E2 ru2 p2 => ?_
    have ru' := ru.tr t2
    split at p2
    · cases ru' with | d ru' => cases ru' with | lst z m q => cases ru2 with | d ru2 => cases ru2 with | lst z2 m2 q2 =>
      exact ⟨_, _, _, _, rfl, .inl ⟨.of z, .of z2, p2 _ _ Tr.refl R2 _ (itok_zipL z m z2 m2 q q2)⟩⟩
    · cases ru' with | d ru' => cases ru' with | tup z q => cases ru2 with | d ru2 => cases ru2 with | tup z2 q2 =>
      exact ⟨_, _, _, _, rfl, .inr ⟨z, z2, p2 _ _ Tr.refl R2 _ (itok_zipT z z2 q q2)⟩⟩
    · exact (show False from p2).elim
  | .enum a, X, W, ct, tg, e, h, ht => by
    simp only [chkIt] at h
    split at h
    rotate_left
    · cases h
    cases tg <;> first | (simp [needsTup, isTupX] at ht; done) | skip
    rename_i y py ea pp
    simp only [Bool.and_eq_true, decide_eq_true_eq] at h
    obtain ⟨⟨rfl, hg⟩, h'⟩ := h
    have hst := star_cons (es := []) (env := X.env) (chk_ns h')
    refine (pi_enum (glb_of hg).1 (ct.blt _ (by decide)) (pa_cons (e_snd a X W ct _ h').pe pa_nil hst) hst).imp fun σ H R q => ?_
    obtain ⟨j, e, hh, Rr, E, p⟩ := q
    refine thenE Rr E p fun v u j1 h1 H1 t R1 E1 ru p1 => ?_
    split at p1
    · cases ru with | d ru => cases ru with | lst z m q =>
      exact ⟨_, _, rfl, .of z, p1 _ _ Tr.refl R1 _ (itok_enum z m q)⟩
    · exact (show False from p1).elim
end
end NC
set_option maxHeartbeats 1000000
/-! Statements. -/
namespace NC
open PySem PySem.Spec PyProof.Rows L2

/-- X(), X an own exception class without own __init__ -/
theorem pmk_own0 {X : Cx} {x : Str} {p pos : Pos} {C : Addr} {bmB : List Value} {B newId initId : String} (F : ExcBaseFacts B newId initId bmB) (q : PySem.W.excIn X.K C bmB newId = true) (gC : X.mg x = some (.ref C))
    (kC : PySem.W.keepIn X.K (.ref C) = true) (r : Raises X (.ref C)) (hg : Gl X x) (hdb : (x == ("__debug__" : Str)) = false) : PMk X (.Call (.Name x p) [] [] pos) (fun _ H Q => Q (.ref C) none H) := by
  intro pins s σ H Q I h
  refine wpAny_Call_Name_kw (ld_glob I hg gC ?_ hdb)
  refine PySem.W.callWith_K0 I.kIn kC ?_
  show wpAny _ _ (PySem.call (.ref C) []) _ _ _
  obtain ⟨bm, N, nm, qn, bs, hdct, sn, sub, ab, col, dd, k0, k1, k2, k3, k5, mN, hC, hN, hni, T⟩ := exc_obj I.kIn q
  exact wpAny_call_exc_subT F T hC hN hni (fun h' e hm => mk_of I hm r h (I.hok.gone hm.new)) (Nat.zero_le _)
/-- what the ends of a statement mean -/
abbrev okF (K : PySem.W.Frag) (mg : Str → Option Value) (vs : List Nat) (σ0 : L2.St) (D : Ends) : Flow → Gh → Hv → Hp → Prop := fun f j h H => match f with
  | .nx e => ∀ σ, REnv K mg j h.os.length H e σ → Chg vs σ0 σ → D.nx σ H
  | .ret v => ∀ u, RV K mg j h.os.length H v u → D.rt u H
  | .brk e => ∀ σ, REnv K mg j h.os.length H e σ → Chg vs σ0 σ → D.bk σ H
  | .ct e => ∀ σ, REnv K mg j h.os.length H e σ → Chg vs σ0 σ → D.ct σ H
/-- what an exception means: the slots of vs may be anything -/
abbrev ekF (W : WX) (vs : List Nat) (σ0 : L2.St) : XK := fun c d H => ∀ σ, Chg vs σ0 σ → W c d σ H
def tS (K : PySem.W.Frag) (mg : Str → Option Value) (W : WX) (vs : List Nat) (x : NC.Env → Hv → Res Flow) : TS := fun D σ H => ∃ σ0, Chg vs σ0 σ ∧ At K mg σ H fun j e h => Pst K mg j h H (x e h) (okF K mg vs σ0 D) (ekF W vs σ0)
theorem Chg.refl {vs : List Nat} {σ : L2.St} : Chg vs σ σ := ⟨rfl, fun _ _ => rfl⟩
theorem Chg.more {vs ws : List Nat} {a b c : L2.St} (x : Chg vs a b) (y : Chg ws b c) (h : ∀ i ∈ ws, i ∈ vs) : Chg vs a c := ⟨y.1.trans x.1, fun i hi => (y.2 i fun z => hi (h i z)).trans (x.2 i hi)⟩
theorem Chg.set {vs : List Nat} {a b : L2.St} {i : Nat} {v : Option V} (x : Chg vs a b) (h : i ∈ vs) : Chg vs a (b.set i v) := ⟨by simp [x.1], fun k hk => by
  rw [List.getElem?_set_ne fun z => hk (by rw [← z]; exact h)]
  exact x.2 k hk⟩
section
variable {K : PySem.W.Frag} {mg : Str → Option Value} {W : WX} {vs : List Nat} {σ0 σ : L2.St} {H : Hp} {j : Gh} {e : NC.Env} {h : Hv}
/-- a part of a statement: what is wished of exceptions at these slots -/
theorem ekF.at {β : Type} {r : Res β} {okk : β → Gh → Hv → Hp → Prop} (p : Pst K mg j h H r okk (ekF W vs σ0)) (c : Chg vs σ0 σ) : Pst K mg j h H r okk fun a d H' => W a d σ H' := p.impE fun _ _ _ q => q σ c
/-- a part, then the rest -/
theorem thenE' {β : Type} {x : NC.Env → Hv → Res PV} {f : PV → Hv → Res β} {okb : β → Gh → Hv → Hp → Prop} {Q : VK} (R : Rl K mg j h H) (E : REnv K mg j h.os.length H e σ) (c : Chg vs σ0 σ) (p : Pst K mg j h H ((x e h).bind f) okb (ekF W vs σ0))
    (w : ∀ v u j1 h1 H1, Tr j h H j1 h1 H1 → Rl K mg j1 h1 H1 → REnv K mg j1 h1.os.length H1 e σ → RV K mg j1 h1.os.length H1 v u → Pst K mg j1 h1 H1 (f v h1) okb (ekF W vs σ0) → Q u H1) : tE K mg W x σ H Q :=
  ⟨j, e, h, R, E, (Pst.impE p.bind fun _ _ _ q => q σ c).imp fun v j1 h1 H1 t R1 q u ru => w v u j1 h1 H1 t R1 (E.tr t) ru q⟩
theorem thenT' {β : Type} {x : NC.Env → Hv → Res PV} {f : Bool → Hv → Res β} {okb : β → Gh → Hv → Hp → Prop} {Q : Bool → Hp → Prop} (R : Rl K mg j h H) (E : REnv K mg j h.os.length H e σ) (c : Chg vs σ0 σ) (p : Pst K mg j h H (tst (x e h) f) okb (ekF W vs σ0))
    (w : ∀ b j1 h1 H1, Tr j h H j1 h1 H1 → Rl K mg j1 h1 H1 → REnv K mg j1 h1.os.length H1 e σ → Pst K mg j1 h1 H1 (f b h1) okb (ekF W vs σ0) → Q b H1) : tT K mg W x σ H Q := by
  refine ⟨j, e, h, R, E, (Pst.impE (Pst.bind p) fun _ _ _ q => q σ c).imp fun v j1 h1 H1 t R1 q => ?_⟩
  cases v with
  | d y =>
    cases y with
    | bool b => exact ⟨b, rfl, w b j1 h1 H1 t R1 (E.tr t) q⟩
    | _ => exact (show False from q).elim
  | _ => exact (show False from q).elim
end
theorem swaps_no {e : Expr} {t : Option Expr} {l : Nat} {env : PySem.Env} (h : isComp e = false) : swapsWith e t l env = pure false := by
  cases e <;> first | rfl | simp [isComp] at h
theorem swaps_other {e : Expr} {t : Expr} {l : Nat} {env : PySem.Env} (h : ∀ x p, t ≠ .Name x p) : swapsWith e (some t) l env = pure false := by
  cases e <;> first | rfl | (cases t <;> first | rfl | exact absurd rfl (h _ _))
theorem fm_lt {α β : Type} {f : α → Option β} : ∀ {l : List α}, (l.any fun x => (f x).isNone) = true → (l.filterMap f).length < l.length
  | [], h => by simp at h
  | a :: l, h => by
    rw [List.any_cons, Bool.or_eq_true] at h
    have le := List.length_filterMap_le f l
    cases q : f a with
    | none => rw [List.filterMap_cons_none q]; simp; omega
    | some b =>
      rw [List.filterMap_cons_some q]
      rcases h with h | h
      · rw [q] at h; cases h
      · have q2 := fm_lt h
        simp only [List.length_cons]; omega
theorem swapped_no {ts : List Expr} {k : Nat} {p : Pos} {value : Expr} {env : PySem.Env} (hk : env.blockKind = .function) (h : unswB env.scope ts value = true) : swappedStores [.Tuple ts k p] value env = pure none := by
  cases value <;> first | rfl | skip
  rename_i vs k2 p2
  unfold unswB at h
  simp only [Bool.or_eq_true, bne_iff_ne, ne_eq] at h
  unfold swappedStores
  simp only [pure_bind, bind_pure_comp]
  split
  · rfl
  · rename_i h1
    split
    · rfl
    · split
      · rfl
      · rename_i h3
        exfalso
        rcases h with (h | h) | h
        · exact h1 (by rw [h]; rfl)
        · exact h1 (by simp [h])
        · simp only [Bool.or_eq_true, bne_iff_ne, ne_eq, not_or, Decidable.not_not] at h3
          refine absurd h3.1 (Nat.ne_of_lt (fm_lt ?_))
          rw [List.any_eq_true] at h ⊢
          obtain ⟨x, hx, q⟩ := h
          refine ⟨x, hx, ?_⟩
          cases x <;> first | rfl | skip
          rename_i id pos
          have q' : loc1B env.scope id = false := by simpa using q
          have : (env.kindOf id == some NameKind.local) = false := by
            unfold loc1B at q'
            unfold Env.kindOf
            cases hl : env.scope.names.lookup id with
            | none => rfl
            | some kd =>
              rw [hl] at q'
              cases kd <;> first | rfl | cases q'
          simp [this]
theorem swapped_par {N : List Str} {i j : Nat} {x y : Str} {px py pt p2 : Pos} {k k2 : Nat} {ea eb : Expr} {env : PySem.Env} (hk : env.blockKind = .function) (h : parB env.scope N i j x y px py ea eb = true) (sa : ∀ v p, ea ≠ .Starred v p) (sb : ∀ v p, eb ≠ .Starred v p) :
    swappedStores [.Tuple [.Name x px, .Name y py] k pt] (.Tuple [ea, eb] k2 p2) env = pure (some [x, y]) := by
  unfold parB at h
  simp only [Bool.and_eq_true] at h
  obtain ⟨⟨⟨⟨⟨⟨⟨⟨⟨⟨_, _⟩, hx⟩, hy⟩, _⟩, hne⟩, hl⟩, _⟩, _⟩, hf⟩, hc⟩ := h
  have kx : env.kindOf x = some NameKind.local := loc1_of hx
  have ky : env.kindOf y = some NameKind.local := loc1_of hy
  have px' : (Expr.Name x px).pos = px := rfl
  have hl' : px.line = py.line := by simpa using hl
  have hne' : x ≠ y := of_decide_eq_true hne
  have s1 : (match (generalizing := false) ea with | .Starred .. => true | _ => false) = false := by cases ea <;> first | rfl | exact absurd rfl (sa _ _)
  have s2 : (match (generalizing := false) eb with | .Starred .. => true | _ => false) = false := by cases eb <;> first | rfl | exact absurd rfl (sb _ _)
  have ed : ([x, y] : List Str).eraseDups = [x, y] := by simp [List.eraseDups_cons, hne'.symm, Ne.symm hne']
  unfold swappedStores
  simp only [pure_bind, bind_pure_comp]
  rw [if_neg (by simp [hk]), if_neg (by simp [s1, s2]), if_neg (by simp [List.filterMap_cons, kx, ky, px', hl', ed]), if_neg (by intro z; rw [z] at hf; cases hf), if_neg (by intro z; rw [z] at hc; cases hc)]
  simp [List.filterMap_cons, kx, ky, px', hl']
end NC
/-! Statements: the induction. -/
namespace NC
open PySem PySem.Spec PyProof.Rows L2

section
variable {X : Cx} {W : WX} {D Dx : List Str} {G : Gls} {C : Fns}
/-- name = [..]: the machine may store within the comprehension's frame -/
theorem set_comp (ct : Ctx X W D Dx G C) {a : E} {i : Nat} {x : Str} {p spos : Pos} {elt : Expr} {gens : List Comprehension} {scope : Scope} {pos : Pos} (hN : X.N[i]? = some x) (hx : X.env.scope.names.lookup x = some .local) (hsw : swapsWith (.ListComp elt gens scope pos) (some (.Name x p)) spos.line X.env = pure true)
    (h : chkE D X.env.scope X.N a (.ListComp elt gens scope pos) = true) : PS X (.Assign [.Name x p] (.ListComp elt gens scope pos) spos) (tAsg (tE X.K X.mg W (ev G C a)) (gName i)) := by
  cases a with
  | comp own elt' tg it cond =>
    match gens, h, hsw with
    | [⟨etg, eit, eifs, asy⟩], h, hsw =>
        unfold chkE at h
        simp only [Bool.and_eq_true, decide_eq_true_eq] at h
        obtain ⟨⟨⟨⟨⟨⟨⟨rfl, hb⟩, hi⟩, ht⟩, hv⟩, htg⟩, hel⟩, hc⟩ := h
        have ok := blkOk_by hb
        have hown : (own.map fun i => ((X.N[i]?).getD ("" : Str), i)).map (·.2) = own := by simp [Function.comp_def]
        have hv' : ∀ i ∈ tg.vars, i ∈ own := fun i hi => of_decide_eq_true (List.all_eq_true.mp hv i hi)
        have cb := fun (s : Shared) (H : Hp) (cl : List (Str × Addr)) (Ca : Addr) (fp : List Addr) => ct.blk s H scope cl Ca fp
        have hcd : ∀ (s : Shared) (H : Hp) (Ca : Addr) (cl : List (Str × Addr)) (fp : List Addr), PTs (X.blk s H scope (compEnvC scope cl Ca X.env) fp) eifs (tT X.K X.mg (fun _ _ _ _ => False) fun e0 h0 => match (generalizing := false) cond with
            | none => .ok (.d (.bool true)) h0
            | some c => ev G C c e0 h0) := by
          intro s H Ca cl fp
          cases cond with
          | none =>
            cases eifs with
            | cons _ _ => simp at hc
            | nil =>
              refine ⟨fun pins s' σ H' Q I q => pts_nil.run pins s' σ H' Q I ?_⟩
              obtain ⟨j, e, hh, R, E, p⟩ := q
              obtain ⟨b, e1, q1⟩ := Pst.here (ok1 := okB Q) p R
              cases e1
              exact q1
          | some c =>
            match eifs, hc with
            | [ec], hc =>
              exact pts_one (e_snd c (X.blk s H scope (compEnvC scope cl Ca X.env) fp) _ (cb s H cl Ca fp) ec hc).pt
            | [], hc => simp at hc
            | _ :: _ :: _, hc => simp at hc
        refine (ps_setLc (i := i) (g := tG X.K X.mg tg) (te := tE X.K X.mg (fun _ _ _ _ => False) (ev G C elt')) ct.calm ct.nd hN hx hsw (it_snd it X W ct etg eit hi ht) ok (fun s H Ca cl fp => tg_snd (X := X.blk s H scope (compEnvC scope cl Ca X.env) fp) (sc := scope) ct.calm ct.nd (fun x hx => compLoc hx) tg etg htg) hcd
          (fun s H Ca cl fp => (e_snd elt' (X.blk s H scope (compEnvC scope cl Ca X.env) fp) _ (cb s H cl Ca fp) elt hel).pe) (fold_ok hi X.env)).imp fun Dd σ H q => ?_
        obtain ⟨j, e, hh, R, E, p⟩ := q
        unfold ev at p
        rw [hown]
        refine ⟨j, e, hh, R, E, Pst.imp (Pst.bind p) fun w j1 h1 H1 t R1 p1 J hJ => ?_⟩
        exact comp_snd hJ R1 ((E.tr t).wipe own) hv' p1
    | [], h, _ => simp [chkE] at h
    | _ :: _ :: _, h, _ => simp [chkE] at h
  | _ => simp [chkE] at h
end
/-- the situation of a def's own body -/
structure DCtx (X : Cx) : Prop where
  fa : FnAll X X.env.scope
  bk : X.env.blockKind = .function
  stk : X.stack = X.env :: X.outer
  frm : X.env.frame = some X.env.locals
variable {D Dx : List Str} {G : Gls} {C : Fns}
theorem notComp {D : List Str} {sc : Scope} {N : List Str} {a : E} {e : Expr} (h : chkE D sc N a e = true) : isComp e = false ∨ ∃ elt g s p, e = .ListComp elt g s p := by
  cases e <;> first | exact .inl rfl | exact .inr ⟨_, _, _, _, rfl⟩ | (cases a <;> first | (simp [chkE] at h; done) | (rename_i o _ _; cases o <;> simp [chkE] at h))
/-- value to name -/
theorem asg_var {X : Cx} {W : WX} (ct : Ctx X W D Dx G C) (dc : DCtx X) {vs : List Nat} {i : Nat} {a : E} {x : Str} {p spos : Pos} {e : Expr} (ht : chkTg X.env.scope X.N (.var i) (.Name x p) = true) (he : chkE D X.env.scope X.N a e = true) (hv : i ∈ vs) :
    PS X (.Assign [.Name x p] e spos) (tS X.K X.mg W vs (exec G C (.asg (.var i) a))) := by
  simp only [chkTg, Bool.and_eq_true, decide_eq_true_eq] at ht
  have hl := dc.fa _ ht.1.2
  have base : PS X (.Assign [.Name x p] e spos) (tAsg (tE X.K X.mg W (ev G C a)) (gName i)) := by
    have plain : swapsWith e (some (.Name x p)) spos.line X.env = pure false → PS X (.Assign [.Name x p] e spos) (tAsg (tE X.K X.mg W (ev G C a)) (gName i)) := fun hs => ps_set ct.nd ht.1.1 hl.1 (e_snd a X W ct e he).pe hs hl.2
    rcases notComp he with h | ⟨elt, g, s, q, rfl⟩
    · exact plain (swaps_no h)
    · cases hb : (X.env.blockKind == .function && X.env.kindOf x == some .local && p.line == q.line && !(s.names.any fun (n, k) => n == x && (k == .local || k == .cell))) with
      | false =>
        refine plain ?_
        show (pure (X.env.blockKind == .function && X.env.kindOf x == some .local && p.line == q.line && !(s.names.any fun (n, k) => n == x && (k == .local || k == .cell))) : Sem Bool) = pure false
        rw [hb]
      | true =>
        have hx : X.env.scope.names.lookup x = some .local := by
          simp only [Bool.and_eq_true] at hb
          exact beq_iff_eq.mp hb.1.1.2
        refine set_comp ct ht.1.1 hx ?_ he
        show (pure (X.env.blockKind == .function && X.env.kindOf x == some .local && p.line == q.line && !(s.names.any fun (n, k) => n == x && (k == .local || k == .cell))) : Sem Bool) = pure true
        rw [hb]
  refine base.imp fun Dd σ H q => ?_
  obtain ⟨σ0, c, j, e, hh, R, E, pp⟩ := q
  refine thenE' R E c pp fun v u j1 h1 H1 t R1 E1 ru p1 => ?_
  split at p1
  · rename_i e1 hs
    unfold storeH store at hs
    dsimp only at hs
    split at hs
    · cases hs
      exact (Pst.here (ok1 := okF X.K X.mg vs σ0 Dd) p1 R1) _ (E1.set ru) (c.set hv)
    · cases hs
  · exact (show False from p1).elim
/-- the loop of a for -/
theorem for_snd {K : PySem.W.Frag} {mg : Str → Option Value} {W : WX} {vs : List Nat} {σ0 : L2.St} {tg : Tg} {body : NC.Env → Hv → Res Flow} {w : Walk} {J : L2.It} {j0 : Gh} {h0 : Hv} {H0 : Hp} {Dd : Ends} {e0 : NC.Env} {σ : L2.St}
    (hJ : ItOk K mg J w j0 h0 H0) (R0 : Rl K mg j0 h0 H0) (E0 : REnv K mg j0 h0.os.length H0 e0 σ) (c0 : Chg vs σ0 σ) (hv : ∀ i ∈ tg.vars, i ∈ vs)
    (p : Pst K mg j0 h0 H0 (forL w.gd tg body w.xs e0 h0) (okF K mg vs σ0 Dd) (ekF W vs σ0)) :
    ∃ W' : Nat → Nat → L2.St → Hp → Prop, (∃ m, W' 0 m σ H0) ∧ ∀ i m σ H, W' i m σ H → (J.stop i H ∧ Dd.nx σ H) ∨ (J.go i H ∧ ∃ N : L2.St → Hp → Prop, (∀ σ' H', N σ' H' → ∃ m', m' < m ∧ W' (i + 1) m' σ' H') ∧
      ∀ x H', J.yld i H x H' → tG K mg tg x σ H' fun σ2 H2 => tS K mg W vs body { Dd with nx := N, ct := N, bk := Dd.nx } σ2 H2) := by
  let Pv : Nat → L2.St → Hp → Prop := fun i σ H => ∃ j e h, Tr j0 h0 H0 j h H ∧ Rl K mg j h H ∧ REnv K mg j h.os.length H e σ ∧ Chg vs σ0 σ ∧ Pst K mg j h H (forL w.gd tg body (w.xs.drop i) e h) (okF K mg vs σ0 Dd) (ekF W vs σ0)
  refine ⟨fun i m σ H => m = w.xs.length - i ∧ i ≤ w.xs.length ∧ Pv i σ H, ⟨_, rfl, Nat.zero_le _, j0, e0, h0, Tr.refl, R0, E0, c0, p⟩, ?_⟩
  rintro i m σ1 H ⟨rfl, hi, j, e, h, t, R, E, c, p⟩
  by_cases hlt : i < w.xs.length
  · rw [List.drop_eq_getElem_cons hlt] at p
    unfold forL at p
    split at p
    rotate_left
    · exact (show False from p).elim
    rename_i hgd
    have hx : w.xs[i]? = some w.xs[i] := by simp [hlt]
    refine .inr ⟨hJ.go _ _ _ t R hgd i _ hx, Pv (i + 1), fun σ' H' q => ⟨w.xs.length - (i + 1), by omega, rfl, hlt, q⟩, fun u H' y => ?_⟩
    obtain ⟨y1, y2⟩ := hJ.yld _ _ _ t R hgd i _ hx u H' y
    obtain ⟨t1, R1⟩ := yld_tr R y1
    have p1 := Pst.at p t1
    split at p1
    · exact (show False from p1).elim
    rename_i e1 hs
    refine ⟨j, e, h, _, R1, E.tr t1, y2, e1, hs, fun σ' E1 hc => ⟨σ0, c.more hc hv, j, e1, h, R1, E1, ?_⟩⟩
    refine (Pst.bind p1).imp fun f j2 h2 H2 t2 R2 p2 => ?_
    cases f with
    | nx e2 => exact fun σ'' E2 c2 => ⟨j2, e2, h2, t.trans (t1.trans t2), R2, E2, c2, p2⟩
    | ct e2 => exact fun σ'' E2 c2 => ⟨j2, e2, h2, t.trans (t1.trans t2), R2, E2, c2, p2⟩
    | brk e2 => exact fun σ'' E2 c2 => (Pst.here (ok1 := okF K mg vs σ0 Dd) p2 R2) σ'' E2 c2
    | ret v => exact fun u ru => (Pst.here (ok1 := okF K mg vs σ0 Dd) p2 R2) u ru
  · have hi2 : w.xs.length ≤ i := by omega
    rw [List.drop_eq_nil_of_le hi2] at p
    unfold forL at p
    split at p
    · rename_i hgd
      exact .inl ⟨hJ.stop _ _ _ t R hgd i hi2, (Pst.here (ok1 := okF K mg vs σ0 Dd) p R) σ1 E c⟩
    · exact (show False from p).elim
/-- the loop of a while -/
theorem while_snd {K : PySem.W.Frag} {mg : Str → Option Value} {W : WX} {vs : List Nat} {tst : NC.Env → Hv → Res PV} {body : NC.Env → Hv → Res Flow} {Dd : Ends} {σ : L2.St} {H : Hp}
    (q : tS K mg W vs (whileL tst body) Dd σ H) : tWhile (tT K mg W tst) (tS K mg W vs body) Dd σ H := by
  obtain ⟨σ0, c, j, e, h, R, E, p⟩ := q
  let Pv : Nat → L2.St → Hp → Prop := fun n σ H => ∃ j e h r, Rl K mg j h H ∧ REnv K mg j h.os.length H e σ ∧ Chg vs σ0 σ ∧ WRun tst body n e h r ∧ Pst K mg j h H r (okF K mg vs σ0 Dd) (ekF W vs σ0)
  refine ⟨Pv, ?_, ?_⟩
  · rcases whileL_cases tst body e h with ⟨n, x⟩ | x
    · exact ⟨n, j, e, h, _, R, E, c, x, p⟩
    · rw [x] at p; exact (show False from p).elim
  rintro m σ1 H1 ⟨j1, e1, h1, r, R1, E1, c1, x, p⟩
  cases x with
  | done ht =>
    refine ⟨j1, e1, h1, R1, E1, ?_⟩
    dsimp only
    rw [ht]
    exact fun j2 H2 t2 R2 => ⟨false, rfl, (Pst.here (ok1 := okF K mg vs σ0 Dd) (Pst.at p t2) R2) σ1 (E1.tr t2) c1⟩
  | texc ht =>
    refine ⟨j1, e1, h1, R1, E1, ?_⟩
    dsimp only
    rw [ht]
    exact fun j2 H2 cls d t2 R2 rx => p j2 H2 cls d t2 R2 rx σ1 c1
  | bexc ht hb =>
    refine ⟨j1, e1, h1, R1, E1, ?_⟩
    dsimp only
    rw [ht]
    refine fun j2 H2 t2 R2 => ⟨true, rfl, fun _ _ => False, fun _ _ z => z.elim, σ0, c1, j2, e1, _, R2, E1.tr t2, ?_⟩
    dsimp only
    rw [hb]
    exact Pst.at p t2
  | ret ht hb =>
    refine ⟨j1, e1, h1, R1, E1, ?_⟩
    dsimp only
    rw [ht]
    refine fun j2 H2 t2 R2 => ⟨true, rfl, fun _ _ => False, fun _ _ z => z.elim, σ0, c1, j2, e1, _, R2, E1.tr t2, ?_⟩
    dsimp only
    rw [hb]
    exact fun j3 H3 t3 R3 => p j3 H3 (t2.trans t3) R3
  | brk ht hb =>
    refine ⟨j1, e1, h1, R1, E1, ?_⟩
    dsimp only
    rw [ht]
    refine fun j2 H2 t2 R2 => ⟨true, rfl, fun _ _ => False, fun _ _ z => z.elim, σ0, c1, j2, e1, _, R2, E1.tr t2, ?_⟩
    dsimp only
    rw [hb]
    exact fun j3 H3 t3 R3 => p j3 H3 (t2.trans t3) R3
  | nx ht hb w =>
    rename_i n
    refine ⟨j1, e1, h1, R1, E1, ?_⟩
    dsimp only
    rw [ht]
    refine fun j2 H2 t2 R2 => ⟨true, rfl, Pv n, fun σ' H' z => ⟨n, Nat.lt_succ_self n, z⟩, σ0, c1, j2, e1, _, R2, E1.tr t2, ?_⟩
    dsimp only
    rw [hb]
    exact fun j3 H3 t3 R3 σ' E3 c3 => ⟨j3, _, _, _, R3, E3, c3, w, Pst.at p (t2.trans t3)⟩
  | ct ht hb w =>
    rename_i n
    refine ⟨j1, e1, h1, R1, E1, ?_⟩
    dsimp only
    rw [ht]
    refine fun j2 H2 t2 R2 => ⟨true, rfl, Pv n, fun σ' H' z => ⟨n, Nat.lt_succ_self n, z⟩, σ0, c1, j2, e1, _, R2, E1.tr t2, ?_⟩
    dsimp only
    rw [hb]
    exact fun j3 H3 t3 R3 σ' E3 c3 => ⟨j3, _, _, _, R3, E3, c3, w, Pst.at p (t2.trans t3)⟩
theorem sub_assign {D : List Str} {sc : Scope} {N : List Str} {a : E} {o i : Expr} {p : Pos} {env : PySem.Env} (h : chkE D sc N a i = true) : ∀ v, assign (.Subscript o i p) env v = (do
      let ov ← holding [v] (eval o env)
      let iv ← holding [v, ov] (eval i env)
      standAt p
      holding [v, ov, iv] (setItem ov iv v)
      release [v, ov, iv] []) := by
  cases i <;> first | exact fun _ => rfl | (rw [chk_noslice] at h; cases h)
theorem iop_sub_none {X : Cx} {f : Value → Value → Sem Value} : OpR X f (fun _ _ _ _ => False) := fun _ _ _ _ _ _ _ _ _ _ _ _ q => q.elim
theorem aug_snd {X : Cx} {o : Op} {opr : Operator} (hc : chkOp o opr = true) : ∃ r, OpR X (inplaceOp opr) r ∧ Srv2 X.K X.mg (NC.augop o) r := by
  cases o <;> cases opr <;> first | (exact absurd hc (by decide)) | skip
  · refine ⟨_, iop_add.or iop_add_str, fun x y u v j h H Q ek R rx ry p => ?_⟩
    unfold NC.augop at p
    split at p <;> first | (rename_i q _ _; exact absurd q (by decide)) | (rename_i q _; exact absurd q (by decide)) | (rename_i q; exact absurd q (by decide)) | skip
    · cases rx with | d rx => cases rx; cases ry with | d ry => cases ry; exact .inl ⟨_, _, rfl, rfl, p.here R _ (.d (.int _))⟩
    · cases rx with | d rx => cases rx; cases ry with | d ry => cases ry; split at p; exact .inr ⟨_, _, rfl, rfl, lnOk_le ‹_›, p.here R _ (.d (.str _))⟩; exact p.elim
    · exact p.elim
  · refine ⟨_, iop_sub, fun x y u v j h H Q ek R rx ry p => ?_⟩
    unfold NC.augop at p
    split at p <;> first | (rename_i q _ _; exact absurd q (by decide)) | (rename_i q _; exact absurd q (by decide)) | (rename_i q; exact absurd q (by decide)) | skip
    · cases rx with | d rx => cases rx; cases ry with | d ry => cases ry; exact ⟨_, _, rfl, rfl, p.here R _ (.d (.int _))⟩
    · exact p.elim
  all_goals
    refine ⟨_, iop_sub_none, fun x y u v j h H Q ek R rx ry p => ?_⟩
    unfold NC.augop at p
    split at p <;> first | (rename_i q _ _; exact absurd q (by decide)) | (rename_i q _; exact absurd q (by decide)) | (rename_i q; exact absurd q (by decide)) | exact p.elim
theorem swaps_sole {t v : Expr} {l : Nat} {env : PySem.Env} (h : ∀ x q, t ≠ .Name x q) : swapsWithSole [t] v l env = pure false := swaps_other h
mutual
theorem s_snd : ∀ (s : S) (X : Cx) (W : WX) (vs : List Nat), Ctx X W D Dx G C → DCtx X → (∀ i ∈ s.vars, i ∈ vs) → ∀ (st : Stmt), chkS D Dx X.env.scope X.N s st = true → PS X st (tS X.K X.mg W vs (exec G C s))
  | .ret a, X, W, vs, ct, dc, hv, st, h => by
    rw [chkS.eq_def] at h
    dsimp only at h
    split at h
    rotate_left
    · cases h
    refine (ps_ret (e_snd a X W ct _ h).pe).imp fun Dd σ H q => ?_
    obtain ⟨σ0, c, j, e, hh, R, E, p⟩ := q
    exact thenE' R E c p fun v u j1 h1 H1 t R1 E1 ru p1 => (Pst.here (ok1 := okF X.K X.mg vs σ0 Dd) p1 R1) u ru
  | .retN, X, W, vs, ct, dc, hv, st, h => by
    rw [chkS.eq_def] at h
    dsimp only at h
    split at h
    rotate_left
    · cases h
    refine ps_retN.imp fun Dd σ H q => ?_
    obtain ⟨σ0, c, j, e, hh, R, E, p⟩ := q
    exact (Pst.here (ok1 := okF X.K X.mg vs σ0 Dd) p R) _ (.d .non)
  | .asg tg a, X, W, vs, ct, dc, hv, st, h => by
    rw [chkS.eq_def] at h
    dsimp only at h
    split at h
    rotate_left
    · cases h
    rename_i t e pos
    simp only [Bool.and_eq_true] at h
    obtain ⟨⟨hg, he⟩, hs⟩ := h
    cases t <;> first | (cases hs; done) | skip
    case Name x p =>
      cases tg with
      | var i => exact asg_var ct dc hg he (hv i (by simp [S.vars, Tg.vars]))
      | tup ts => simp [chkTg] at hg
    case Tuple es k p =>
      cases tg with
      | var i => simp [chkTg] at hg
      | tup ts =>
      have h1 : (assignEach [Expr.Tuple es k p] X.env).map (·.2) = [assign (.Tuple es k p) X.env] := rfl
      refine (ps_asg (e_snd a X W ct _ he).pe (tgh_snd ct.calm ct.nd dc.fa _ _ hg) (swaps_sole (by intro x q z; cases z)) (swapped_no dc.bk hs) h1).imp fun Dd σ H q => ?_
      obtain ⟨σ0, c, j, e, hh, R, E, p⟩ := q
      refine thenE' R E c p fun v u j1 h1 H1 t R1 E1 ru p1 => ?_
      split at p1
      · rename_i e1 hs
        exact ⟨j1, e, h1, v, R1, E1, ru, e1, hs, fun σ' E' c' => (Pst.here (ok1 := okF X.K X.mg vs σ0 Dd) p1 R1) σ' E' (c.more c' fun i hi => hv i (by simpa [S.vars] using hi))⟩
      · exact (show False from p1).elim
  | .par i k a b, X, W, vs, ct, dc, hv, st, h => by
    rw [chkS.eq_def] at h
    dsimp only at h
    split at h
    rotate_left
    · cases h
    rename_i x px y py kk p ea eb k2 p2 pos
    simp only [Bool.and_eq_true] at h
    have hp := h.1.1
    unfold parB at hp
    simp only [Bool.and_eq_true, decide_eq_true_eq] at hp
    obtain ⟨⟨⟨⟨⟨⟨⟨⟨⟨⟨n1, n2⟩, hx⟩, hy⟩, hij⟩, _⟩, _⟩, _⟩, _⟩, _⟩, _⟩ := hp
    have sa := chk_ns h.1.2
    have sb := chk_ns h.2
    refine (ps_par ct.calm ct.nd n1 n2 hij (loc1_of hx) (loc1_of hy) (pa_cons (e_snd a X W ct _ h.1.2).pe (pa_cons (e_snd b X W ct _ h.2).pe pa_nil (star_cons sb)) (star_cons sa)) (swapped_par dc.bk h.1.1 sa sb) (swaps_sole (by intro x q z; cases z))).imp fun Dd σ H q => ?_
    obtain ⟨σ0, c, j, e, hh, R, E, p⟩ := q
    refine thenE' R E c p fun v u j1 h1 H1 t R1 E1 ru p1 => thenE' R1 E1 c p1 fun v2 u2 j2 h2 H2 t2 R2 E2 ru2 p2 => ?_
    split at p2
    · exact ⟨u, u2, rfl, (Pst.here (ok1 := okF X.K X.mg vs σ0 Dd) p2 R2) _ ((E2.set (ru.tr t2)).set ru2) ((c.set (hv i (by simp [S.vars]))).set (hv k (by simp [S.vars])))⟩
    · exact (show False from p2).elim
  | .setI o i a, X, W, vs, ct, dc, hv, st, h => by
    rw [chkS.eq_def] at h
    dsimp only at h
    split at h
    rotate_left
    · cases h
    rename_i eo ei p ee pos
    simp only [Bool.and_eq_true] at h
    have hps : PSet X rSetL := set_list
    have hw : swappedStores [Expr.Subscript eo ei p] ee X.env = pure none := rfl
    have h1 : (assignEach [Expr.Subscript eo ei p] X.env).map (·.2) = [assign (.Subscript eo ei p) X.env] := rfl
    refine (ps_asg (e_snd a X W ct _ h.2).pe (pg_sub (e_snd o X W ct _ h.1.1).pe (e_snd i X W ct _ h.1.2).pe hps (sub_assign h.1.2)) (swaps_sole (by intro x q z; cases z)) hw h1).imp fun Dd σ H q => ?_
    obtain ⟨σ0, c, j, e, hh, R, E, p⟩ := q
    refine thenE' R E c p fun v u j1 h1 H1 t R1 E1 ru p1 => thenE' R1 E1 c p1 fun v2 u2 j2 h2 H2 t2 R2 E2 ru2 p2 => thenE' R2 E2 c p2 fun v3 u3 j3 h3 H3 t3 R3 E3 ru3 p3 => ?_
    refine setI_snd (X := X) v2 v3 v u2 u3 u j3 h3 H3 _ (ekF W vs σ0) R3 (ru2.tr t3) ru3 (ru.tr (t2.trans t3)) ((Pst.bind p3).imp fun w j4 h4 H4 t4 R4 p4 => ?_)
    exact (Pst.here (ok1 := okF X.K X.mg vs σ0 Dd) p4 R4) _ (E3.tr t4) c
  | .aug i op a, X, W, vs, ct, dc, hv, st, h => by
    rw [chkS.eq_def] at h
    dsimp only at h
    split at h
    rotate_left
    · cases h
    rename_i x p eop e pos
    simp only [chkTg, Bool.and_eq_true, decide_eq_true_eq] at h
    obtain ⟨⟨⟨⟨hN, hl⟩, _⟩, ho⟩, he⟩ := h
    have hl' := dc.fa _ hl
    obtain ⟨r, hr, hs⟩ := aug_snd (X := X) ho
    have hp : PIp X eop r := fun pins s σ H x y v u Q I r1 r2 q => hr pins s σ H x y v u Q I r1 r2 q
    refine (ps_aug ct.nd hN hl'.1 (e_snd a X W ct _ he).pe hp hl'.2).imp fun Dd σ H q => ?_
    obtain ⟨σ0, c, j, e, hh, R, E, p⟩ := q
    unfold exec at p
    split at p
    · rename_i x hx
      obtain ⟨u, h1, h2⟩ := E.2 i x hx
      refine ⟨u, h1, thenE' R E c p fun v u2 j1 h1 H1 t R1 E1 ru p1 => hs _ _ _ _ _ _ _ _ (ekF W vs σ0) R1 (h2.tr t) ru ((Pst.bind p1).imp fun z j2 h2 H2 t2 R2 p2 w rw => ?_)⟩
      split at p2
      · exact (Pst.here (ok1 := okF X.K X.mg vs σ0 Dd) p2 R2) _ ((E1.tr t2).set rw) (c.set (hv i (by simp [S.vars])))
      · exact (show False from p2).elim
    · exact (show False from p).elim
  | .expr a, X, W, vs, ct, dc, hv, st, h => by
    rw [chkS.eq_def] at h
    dsimp only at h
    split at h
    rotate_left
    · cases h
    simp only [Bool.and_eq_true, Bool.not_eq_true'] at h
    refine (ps_expr (e_snd a X W ct _ h.1).pe (swaps_no h.2)).imp fun Dd σ H q => ?_
    obtain ⟨σ0, c, j, e, hh, R, E, p⟩ := q
    exact thenE' R E c p fun v u j1 h1 H1 t R1 E1 ru p1 => (Pst.here (ok1 := okF X.K X.mg vs σ0 Dd) p1 R1) σ E1 c
  | .ifS c a b, X, W, vs, ct, dc, hv, st, h => by
    rw [chkS.eq_def] at h
    dsimp only at h
    split at h
    rotate_left
    · cases h
    simp only [Bool.and_eq_true] at h
    refine (ps_if (e_snd c X W ct _ h.1.1).pt (ss_snd a X W vs ct dc (fun i hi => hv i (by simp [S.vars, hi])) _ h.1.2) (ss_snd b X W vs ct dc (fun i hi => hv i (by simp [S.vars, hi])) _ h.2)).imp fun Dd σ H q => ?_
    obtain ⟨σ0, c, j, e, hh, R, E, p⟩ := q
    refine thenT' R E c p fun k j1 h1 H1 t R1 E1 p1 => ?_
    cases k with
    | true => exact ⟨σ0, c, j1, e, h1, R1, E1, p1⟩
    | false => exact ⟨σ0, c, j1, e, h1, R1, E1, p1⟩
  | .forS tg it body, X, W, vs, ct, dc, hv, st, h => by
    rw [chkS.eq_def] at h
    dsimp only at h
    split at h
    rotate_left
    · cases h
    rename_i etg eit ebody pos
    simp only [Bool.and_eq_true] at h
    refine (ps_for ct.pass ct.calm (it_snd it X W ct etg eit h.1.1.2 h.1.2) (tg_snd ct.calm ct.nd dc.fa tg etg h.1.1.1) (ss_snd body X W vs ct dc (fun i hi => hv i (by simp [S.vars, hi])) _ h.2) (fold_ok h.1.1.2 X.env)).imp fun Dd σ H q => ?_
    obtain ⟨σ0, c, j, e, hh, R, E, p⟩ := q
    refine ⟨j, e, hh, R, E, (Pst.impE (Pst.bind p) fun _ _ _ q => q σ c).imp fun w j1 h1 H1 t R1 p1 J hJ => ?_⟩
    exact for_snd hJ R1 (E.tr t) c (fun i hi => hv i (by simp [S.vars, hi])) p1
  | .whileS c body, X, W, vs, ct, dc, hv, st, h => by
    rw [chkS.eq_def] at h
    dsimp only at h
    split at h
    rotate_left
    · cases h
    simp only [Bool.and_eq_true] at h
    exact (ps_while ct.pass (e_snd c X W ct _ h.1).pt (ss_snd body X W vs ct dc (fun i hi => hv i (by simp [S.vars, hi])) _ h.2)).imp fun Dd σ H q => while_snd q
  | .raiseS c es, X, W, vs, ct, dc, hv, st, h => by
    rw [chkS.eq_def] at h
    dsimp only at h
    split at h
    rotate_left
    · cases h
    simp only [Bool.and_eq_true, decide_eq_true_eq, List.isEmpty_iff] at h
    obtain ⟨⟨⟨⟨h1, hg⟩, hx⟩, he⟩, hee⟩ := h
    subst h1
    subst he
    subst hee
    obtain ⟨Ca, bmB, B, newId, initId, F, q1, q2, q3, q4, q5⟩ := ct.exs _ hx
    refine (ps_raise ct.calm ct.tk (pmk_own0 F q1 q2 q3 (raises_own q4 q5) (glb_of hg).1 (okn (glb_of hg).2).1)).imp fun Dd σ H q => ?_
    obtain ⟨σ0, c, j, e, hh, R, E, p⟩ := q
    exact (show Pst X.K X.mg j hh H (.exc _ [] hh) _ (ekF W vs σ0) from p) j H _ _ Tr.refl R ⟨Ca, rfl, q2, rfl, rfl⟩ σ c
  | .pass, X, W, vs, ct, dc, hv, st, h => by
    rw [chkS.eq_def] at h
    dsimp only at h
    split at h
    rotate_left
    · cases h
    refine ps_pass.imp fun Dd σ H q => ?_
    obtain ⟨σ0, c, j, e, hh, R, E, p⟩ := q
    exact (Pst.here (ok1 := okF X.K X.mg vs σ0 Dd) p R) σ E c
  | .brk, X, W, vs, ct, dc, hv, st, h => by
    rw [chkS.eq_def] at h
    dsimp only at h
    split at h
    rotate_left
    · cases h
    refine ps_break.imp fun Dd σ H q => ?_
    obtain ⟨σ0, c, j, e, hh, R, E, p⟩ := q
    exact (Pst.here (ok1 := okF X.K X.mg vs σ0 Dd) p R) σ E c
  | .ct, X, W, vs, ct, dc, hv, st, h => by
    rw [chkS.eq_def] at h
    dsimp only at h
    split at h
    rotate_left
    · cases h
    refine ps_continue.imp fun Dd σ H q => ?_
    obtain ⟨σ0, c, j, e, hh, R, E, p⟩ := q
    exact (Pst.here (ok1 := okF X.K X.mg vs σ0 Dd) p R) σ E c
theorem ss_snd : ∀ (s : List S) (X : Cx) (W : WX) (vs : List Nat), Ctx X W D Dx G C → DCtx X → (∀ i ∈ S.varsL s, i ∈ vs) → ∀ (st : List Stmt), chkSs D Dx X.env.scope X.N s st = true → PSs X st (tS X.K X.mg W vs (execs G C s))
  | [], X, W, vs, ct, dc, hv, st, h => by
    cases st with
    | cons _ _ => simp [chkSs] at h
    | nil =>
      refine pss_nil.imp fun Dd σ H q => ?_
      obtain ⟨σ0, c, j, e, hh, R, E, p⟩ := q
      exact (Pst.here (ok1 := okF X.K X.mg vs σ0 Dd) p R) σ E c
  | s :: r, X, W, vs, ct, dc, hv, st, h => by
    cases st with
    | nil => simp [chkSs] at h
    | cons e er =>
      simp only [chkSs, Bool.and_eq_true] at h
      refine (pss_cons (s_snd s X W vs ct dc (fun i hi => hv i (by simp [S.varsL, hi])) e h.1) (ss_snd r X W vs ct dc (fun i hi => hv i (by simp [S.varsL, hi])) er h.2)).imp fun Dd σ H q => ?_
      obtain ⟨σ0, c, j, e, hh, R, E, p⟩ := q
      refine ⟨σ0, c, j, e, hh, R, E, (Pst.bind p).imp fun f j1 h1 H1 t R1 p1 => ?_⟩
      cases f with
      | nx e1 => exact fun σ' E1 c1 => ⟨σ0, c1, j1, e1, h1, R1, E1, p1⟩
      | ret v => exact fun u ru => (Pst.here (ok1 := okF X.K X.mg vs σ0 Dd) p1 R1) u ru
      | brk e1 => exact fun σ' E1 c1 => (Pst.here (ok1 := okF X.K X.mg vs σ0 Dd) p1 R1) σ' E1 c1
      | ct e1 => exact fun σ' E1 c1 => (Pst.here (ok1 := okF X.K X.mg vs σ0 Dd) p1 R1) σ' E1 c1
end
end NC
/-! Defs: what a def of the table answers. -/
namespace NC
open PySem PySem.Spec PyProof.Rows L2

/-! ### objects let go at a def's end -/
mutual
theorem RV.cut {K : PySem.W.Frag} {mg : Str → Option Value} {j : Gh} {n m : Nat} {H : Hp} : ∀ (p : PV) (v : V), (∀ r ∈ p.refs, r < m) → RV K mg j n H p v → RV K mg j m H p v
  | .d x, _, _, r => by cases r with | d r => exact .d r
  | .ref i, _, h, r => by cases r with | ref _ => exact .ref (h i (by simp [PV.refs]))
  | .tup ps, _, h, r => by cases r with | tup z q => exact .tup z (RVs.cut ps _ (fun i hi => h i (by simpa [PV.refs] using hi)) q)
  | .fn _, _, _, r => by cases r with | fn e => exact .fn e
  | .scr _, _, _, r => by cases r with | scr z q => exact .scr z q
theorem RVs.cut {K : PySem.W.Frag} {mg : Str → Option Value} {j : Gh} {n m : Nat} {H : Hp} : ∀ (ps : List PV) (vs : List V), (∀ r ∈ PV.refsL ps, r < m) → RVs K mg j n H ps vs → RVs K mg j m H ps vs
  | [], _, _, r => by cases r; exact .nil
  | p :: ps, _, h, r => by cases r with | cons a b => exact .cons (RV.cut p _ (fun i hi => h i (by simp [PV.refsL, hi])) a) (RVs.cut ps _ (fun i hi => h i (by simp [PV.refsL, hi])) b)
end
mutual
theorem RV.lt {K : PySem.W.Frag} {mg : Str → Option Value} {j : Gh} {n : Nat} {H : Hp} : ∀ (p : PV) (v : V), RV K mg j n H p v → ∀ r ∈ p.refs, r < n
  | .d x, _, _, i, hi => by simp [PV.refs] at hi
  | .ref k, _, r, i, hi => by cases r with | ref q => simp [PV.refs] at hi; rw [hi]; exact q
  | .tup ps, _, r, i, hi => by cases r with | tup z q => exact RVs.lt ps _ q i (by simpa [PV.refs] using hi)
  | .fn _, _, _, i, hi => by simp [PV.refs] at hi
  | .scr _, _, _, i, hi => by simp [PV.refs] at hi
theorem RVs.lt {K : PySem.W.Frag} {mg : Str → Option Value} {j : Gh} {n : Nat} {H : Hp} : ∀ (ps : List PV) (vs : List V), RVs K mg j n H ps vs → ∀ r ∈ PV.refsL ps, r < n
  | [], _, _, i, hi => by simp [PV.refsL] at hi
  | p :: ps, _, r, i, hi => by
    cases r with
    | cons a b =>
      simp only [PV.refsL, List.mem_append] at hi
      rcases hi with hi | hi
      · exact RV.lt p _ a i hi
      · exact RVs.lt ps _ b i hi
end
section
variable {K : PySem.W.Frag} {mg : Str → Option Value} {j j1 : Gh} {h h1 : Hv} {n m : Nat} {H H1 : Hp}
theorem RFs.cut : ∀ {fs : List (Str × PV)} {vs : List (Str × V)}, (∀ r ∈ PV.refsL (fs.map (·.2)), r < m) → RFs K mg j n H fs vs → RFs K mg j m H fs vs
  | [], [], _, _ => trivial
  | (_, p) :: fs, _ :: _, h, ⟨a, b, c⟩ => ⟨a, RV.cut p _ (fun i hi => h i (by simp [PV.refsL, hi])) b, RFs.cut (fun i hi => h i (by simp [PV.refsL]; exact .inr (by simpa using hi))) c⟩
  | [], _ :: _, _, z => z.elim
  | _ :: _, [], _, z => z.elim
theorem RFs.lt : ∀ {fs : List (Str × PV)} {vs : List (Str × V)}, RFs K mg j n H fs vs → ∀ r ∈ PV.refsL (fs.map (·.2)), r < n
  | [], [], _, i, hi => by simp [PV.refsL] at hi
  | (_, p) :: fs, _ :: _, ⟨_, b, c⟩, i, hi => by
    simp only [List.map_cons, PV.refsL, List.mem_append] at hi
    rcases hi with hi | hi
    · exact RV.lt p _ b i hi
    · exact RFs.lt c i hi
  | [], _ :: _, z, _, _ => z.elim
  | _ :: _, [], z, _, _ => z.elim
theorem RO.lt {a : Addr} {o : Ob} (r : RO K mg j n H a o) : ∀ i ∈ o.refs, i < n := by
  cases o with
  | lst xs => intro i hi; simp [Ob.refs] at hi
  | ins c fs => obtain ⟨C, dx, fv, h1, h2, h3⟩ := r; exact RFs.lt h3
theorem RO.cut {a : Addr} {o : Ob} (h : ∀ i ∈ o.refs, i < m) (r : RO K mg j n H a o) : RO K mg j m H a o := by
  cases o with
  | lst xs => exact r
  | ins c fs => obtain ⟨C, dx, fv, h1, h2, h3⟩ := r; exact ⟨C, dx, fv, h1, h2, RFs.cut h h3⟩
/-- what stands of the older objects -/
def keep (h h1 : Hv) : Hv := ⟨h1.os.take h.os.length, h.lim⟩
theorem keep_len (t : Tr j ⟨h.os, h.os.length⟩ H j1 h1 H1) : (keep h h1).os.length = h.os.length := by
  have := t.sh.le
  simp only [keep, List.length_take]
  exact Nat.min_eq_left this
theorem keep_get {i : Nat} {o : Ob} (e : (keep h h1).os[i]? = some o) : i < h.os.length ∧ h1.os[i]? = some o := by
  have hi : i < h.os.length := by
    have := (List.getElem?_eq_some_iff.mp e).1
    simp only [keep, List.length_take] at this
    omega
  refine ⟨hi, ?_⟩
  have e' : (h1.os.take h.os.length)[i]? = some o := e
  rw [List.getElem?_take_of_lt hi] at e'
  exact e'
theorem Tr.keep (R : Rl K mg j h H) (t : Tr j ⟨h.os, h.os.length⟩ H j1 h1 H1) : Tr j h H j1 (keep h h1) H1 := by
  have hl := keep_len t
  refine ⟨t.ag, t.kp, ⟨rfl, by rw [hl]; exact Nat.le_refl _, fun i o' hi e => ?_⟩, fun a o e n => ?_⟩
  · obtain ⟨hn, e1⟩ := keep_get e
    exact t.sh.sub i o' hn e1
  · obtain ⟨a1, a2, a3⟩ := t.fr a o e n
    exact ⟨a1, a2, fun i hi => a3 i (by rw [hl] at hi; exact Nat.lt_of_lt_of_le hi t.sh.le)⟩
theorem Rl.keep (R : Rl K mg j h H) (t : Tr j ⟨h.os, h.os.length⟩ H j1 h1 H1) (R1 : Rl K mg j1 h1 H1) : Rl K mg j1 (keep h h1) H1 := by
  have hl := keep_len t
  have le : h.os.length ≤ h1.os.length := t.sh.le
  refine ⟨fun a b ha hb => R1.inj a b (by rw [hl] at ha; omega) (by rw [hl] at hb; omega), fun i o e => ?_, by rw [hl]; exact R.lim, fun i hi => R1.nf i (by rw [hl] at hi; omega), R1.fd⟩
  obtain ⟨hn, e1⟩ := keep_get e
  obtain ⟨o0, e0, s0⟩ := t.sh.sub i o hn e1
  rw [hl]
  exact RO.cut (fun r hr => (R.obj i o0 e0).lt r (s0 r hr)) (R1.obj i o e1)
end

/-! ### a def's body -/
theorem start_env {K : PySem.W.Frag} {mg : Str → Option Value} {j : Gh} {n k : Nat} {H : Hp} {N : List Str} {args : List PV} {vs : List V} (hk : k = N.length) (r : RVs K mg j n H args vs) : REnv K mg j n H (args.map some ++ List.replicate (k - args.length) none) (start N vs) := by
  subst hk
  have hl := r.length
  refine ⟨by simp [L2.start, hl], fun i p e => ?_⟩
  by_cases hi : i < args.length
  · rw [List.getElem?_append_left (by simpa using hi), List.getElem?_map] at e
    cases q : args[i]? with
    | none => rw [q] at e; cases e
    | some a =>
      rw [q] at e
      cases e
      obtain ⟨v, h1, h2⟩ := r.get q
      exact ⟨v, by unfold L2.start; rw [List.getElem?_append_left (by simp; omega), List.getElem?_map, h1]; rfl, h2⟩
  · rw [List.getElem?_append_right (by simpa using hi), List.getElem?_replicate] at e
    split at e <;> cases e
theorem run_snd {K : PySem.W.Frag} {mg : Str → Option Value} {G : Gls} {C : Fns} {f : Df} {j : Gh} {h : Hv} {H : Hp} {args : List PV} {vs : List V} {N : List Str} {Q : VK} {E : XK} {W : WX} {ws : List Nat} (hN : f.ns = N.length) (hp : args.length = f.np)
    (hW : ∀ c d σ H, E c d H → W c d σ H) (R : Rl K mg j h H) (r : RVs K mg j h.os.length H args vs) (p : Pst K mg j h H (run G C f args h) (okV K mg Q) E) :
    tS K mg W ws (execs G C f.body) { nx := fun _ H' => Q .non H', rt := Q } (start N vs) H := by
  have env := start_env (mg := mg) (k := f.ns) hN r
  rw [hp] at env
  unfold run at p
  rw [if_pos hp] at p
  cases hc : f.cl with
  | false =>
    rw [hc] at p
    refine ⟨_, .refl, j, _, h, R, env, ?_⟩
    simp only [back, Bool.false_eq_true, if_false] at p
    cases q : execs G C f.body (args.map some ++ List.replicate (f.ns - f.np) none) h with
    | ok fl h1 =>
      simp only [q] at p
      rw [q]
      cases fl with
      | ret v => exact p
      | nx e => exact fun j1 H1 t R1 σ _ _ => p j1 H1 t R1 _ (.d .non)
      | brk e => exact p.elim
      | ct e => exact p.elim
    | exc c fs h1 =>
      simp only [q] at p
      rw [q]
      exact fun j1 H1 cls d t R1 x σ _ => hW _ _ _ _ (p j1 H1 cls d t R1 x)
    | bad => simp only [q] at p; rw [q]; exact p
  | true =>
    rw [hc] at p
    have R' : Rl K mg j ⟨h.os, h.os.length⟩ H := ⟨R.inj, R.obj, Nat.le_refl _, R.nf, R.fd⟩
    refine ⟨_, .refl, j, _, ⟨h.os, h.os.length⟩, R', env, ?_⟩
    simp only [back, if_true] at p
    cases q : execs G C f.body (args.map some ++ List.replicate (f.ns - f.np) none) ⟨h.os, h.os.length⟩ with
    | ok fl h1 =>
      simp only [q] at p
      rw [q]
      cases fl with
      | ret v =>
        intro j1 H1 t R1 u ru
        cases v with
        | d x => cases ru with | d ru => exact p j1 H1 (Tr.keep R t) (Rl.keep R t R1) u (.d ru)
        | fn x => cases ru with | fn ru => exact p j1 H1 (Tr.keep R t) (Rl.keep R t R1) _ (.fn ru)
        | tup ps => exact (show False from p).elim
        | scr ps => exact (show False from p).elim
        | ref m =>
          dsimp only at p
          split at p
          rotate_left
          · exact (show False from p).elim
          rename_i xs ho
          split at p
          rotate_left
          · exact (show False from p).elim
          rename_i hm
          cases ru with
          | ref hm1 =>
            obtain ⟨zs, z, rs⟩ := R1.obj m _ ho
            have le : h.os.length ≤ h1.os.length := t.sh.le
            have nz : H1 (j1.at_ m) ≠ none := by rw [z]; exact fun q => nomatch q
            have no : ∀ i, i < (keep h h1).os.length → j1.at_ i ≠ j1.at_ m := fun i hi e => by
              rw [keep_len t] at hi
              have := R1.inj i m (by omega) hm1 e
              omega
            have hp0 : H (j1.at_ m) = none := by
              cases e0 : H (j1.at_ m) with
              | none => rfl
              | some o =>
                refine ((t.fr _ o e0 fun i hi e => ?_).2.2 m hm1 rfl).elim
                have hi' : i < h.os.length := hi
                have e2 := t.ag i hi
                have := R1.inj i m (by omega) hm1 (e2.trans e)
                omega
            exact p (j1.fix (j1.at_ m)) H1 ((Tr.keep R t).fix hp0) ((Rl.keep R t R1).fix no nz) _ (.d (.lst z (.inr rfl) (RDs.mono (.more fun _ m => .inl m) _ _ rs)))
      | nx e => exact fun j1 H1 t R1 σ _ _ => p j1 H1 (Tr.keep R t) (Rl.keep R t R1) _ (.d .non)
      | brk e => exact (show False from p).elim
      | ct e => exact (show False from p).elim
    | exc c fs h1 =>
      simp only [q] at p
      rw [q]
      exact fun j1 H1 cls d t R1 x σ _ => hW _ _ _ _ (p j1 H1 cls d (Tr.keep R t) (Rl.keep R t R1) x)
    | bad => simp only [q] at p; rw [q]; exact p
/-! ### the table -/
theorem lookup_mem {β : Type} {x : Str} {v : β} : ∀ {l : List (Str × β)}, l.lookup x = some v → (x, v) ∈ l
  | [], h => by cases h
  | (y, w) :: l, h => by
    rw [List.lookup_cons] at h
    by_cases q : x = y
    · subst q
      simp at h
      subst h
      exact List.mem_cons_self
    · have : (x == y) = false := by simpa using q
      rw [this] at h
      exact List.mem_cons_of_mem _ (lookup_mem h)
/-- a look at a def's names -/
def scB (N P : List Str) (sc : Scope) : Bool :=
  decide (sc.kind = .function) && !sc.isCoroutine && !sc.isGenerator && decide N.Nodup && decide (N.take P.length = P) && (P.all fun x => locB sc x) && (sc.names.all fun y => !decide (y.2 = .free))
theorem scope_by {N P : List Str} {sc : Scope} (h : scB N P sc = true) : FnScope N P sc := by
  unfold scB at h
  simp only [Bool.and_eq_true] at h
  obtain ⟨⟨⟨⟨⟨⟨a, b⟩, c⟩, d⟩, e⟩, f⟩, g⟩ := h
  exact ⟨of_decide_eq_true a, by simpa using b, by simpa using c, of_decide_eq_true d, of_decide_eq_true e, fun x hx => loc_of (List.all_eq_true.mp f x hx), fun y hy => by simpa using List.all_eq_true.mp g y hy⟩
/-- a def of the text beside a def of the table -/
def chkDef (D Dx : List Str) (x : Str) (f : Df) (N ps : List Str) (st : Stmt) : Bool :=
  scB N ps (defScope st) && decide (f.np = ps.length) && decide (f.ns = N.length) && chkSs D Dx (defScope st) N f.body (defBody st)
/-- one def of the table stands in the module at f -/
def DefF (K : PySem.W.Frag) (mg : Str → Option Value) (D Dx : List Str) (T : Tab) (x : Str) (f : Addr) (fd : FuncData) (ps : List Str) : Prop :=
  ∃ (st : Stmt) (qual : Str) (N : List Str) (df : Df), mg x = some (.ref f) ∧ PySem.W.keepIn K (.ref f) = true ∧ Binds K fd ps [] ∧ Fun K x qual st f fd ∧ T x = some df ∧ chkDef D Dx x df N ps st = true
/-- the defs of D stand in the module as the table says -/
structure MdF (K : PySem.W.Frag) (mg : Str → Option Value) (D Dx : List Str) (G : Gls) (T : Tab) : Prop where
  blt : ∀ x ∈ blts, mg x = none
  gls : ∀ x v, G x = some v → ∃ u cv, mg x = some u ∧ RelV cv u ∧ ∀ j n H, RV K mg j n H v cv
  exs : ∀ x ∈ Dx, ExOk K mg x
  fns : ∀ x ∈ D, ∃ f fd ps, DefF K mg D Dx T x f fd ps
theorem fnAll {sc : Scope} {X : Cx} (h : X.env.scope = sc) (hf : X.fn = fun _ => true) : FnAll X sc := fun x q => ⟨by rw [h]; exact loc_of q, .inl (by rw [hf])⟩
theorem guards_deeper {A : Around} {env : PySem.Env} (h : A.guards = some []) : (A.deeper env).guards = some [] := h
theorem room_roomy {k : Nat} {A : Around} (r : Room k A) (h : A.guards = some []) : Roomy A := ⟨by have := r.un; omega, h⟩
theorem Room.zero {k : Nat} {A : Around} (r : Room k A) : Room 0 A := r.mono (Nat.zero_le _)
theorem fn_all {P : Program} {w : World} {K : PySem.W.Frag} {mg : Str → Option Value} {base : Heap} {D Dx : List Str} {G : Gls} {T : Tab} (M : MdF K mg D Dx G T) : ∀ (k : Nat) (x : Str) (f : Addr) (fd : FuncData) (ps : List Str), DefF K mg D Dx T x f fd ps →
    FnG P w K mg base k f fd ps (spF K mg (call G T k) x) := by
  intro k
  induction k with
  | zero =>
    intro x f fd ps _
    have no : ∀ vs H Q E, ¬ spF K mg (call G T 0) x vs H Q E := fun vs H Q E ⟨j, h, args, _, _, p⟩ => p
    exact ⟨fun vs H Q E h => (no _ _ _ _ h).elim, fun _ _ _ _ _ _ _ _ _ _ _ _ _ _ h => (no _ _ _ _ h).elim⟩
  | succ k ih =>
    intro x f fd ps hD
    obtain ⟨st, qual, N, df, h1, h2, h3, hF, hT, hck⟩ := hD
    unfold chkDef at hck
    simp only [Bool.and_eq_true, decide_eq_true_eq] at hck
    obtain ⟨⟨⟨hsc, hnp⟩, hns⟩, hb⟩ := hck
    have S := scope_by hsc
    have eqc : ∀ args h, call G T (k + 1) x args h = run G (call G T k) df args h := fun args h => by simp only [call, hT]
    have hlen : ∀ vs H Q E, spF K mg (call G T (k + 1)) x vs H Q E → vs.length = ps.length := fun vs H Q E ⟨j, h, args, R, r, p⟩ => by
      rw [eqc] at p
      unfold run at p
      split at p
      · rename_i hl
        rw [← r.length, hl, hnp]
      · exact p.elim
    refine ⟨hlen, ?_⟩
    intro A outer s H args us vs Q E hr hg e0 hbind r hsp
    obtain ⟨oc, od, kV, doc, pm, an, cdv, ct, osl, rfl, lk, hcd⟩ := hF.ex
    have hl := hlen _ _ _ _ hsp
    have KX : K.In s.heap := e0.mod.kin.keeps fun b o e => (e0.bs b o e).1
    have lim : s.heap.NoLimit := e0.mod.nolimit.keeps fun b o e => (e0.bs b o e).1
    have kinds : ∀ y ∈ ps.zip us, (defScope st).names.lookup y.1 = some .local ∨ ((defScope st).names.lookup y.1 = some .cell ∧ ((cellsFrom (s.heap.objs.size + 1) (defScope st).names []).lookup y.1).isSome = true) := by
      intro y hy
      exact (S.par y.1 (List.of_mem_zip hy).1).imp id fun q => ⟨q, PySem.W.cellsFrom_some _ _ _ (.inl q)⟩
    refine codeAny_call_function hr.depth (KX _ _ lk) rfl S.co S.gen rfl (PySem.W.codeRec_of KX hcd) (hbind _ _ _ _ ?_)
    refine wpAny_newFunctionEnv_cells S.kind kinds fun env he s1 x1 => ?_
    subst he
    refine ⟨lim.keeps x1.toInCall.keep, codeAny_func ?_⟩
    let Xb := cxOf (L2.CX P w) P w K mg base N qual (defScope st) f cdv A outer s H E
    have I : Inv Xb [] (start N vs) H s1 := inv_start S hr.hd e0 hl r x1
    have room : Room k Xb.A := hr.deeper _
    have gd : Xb.A.guards = some [] := guards_deeper hg
    have ctx : Ctx Xb (fun c d _ H => E c d H) D Dx G (call G T k) := by
      refine ⟨rfl, S.nd, room_roomy room gd, takes_of rfl rfl rfl rfl, passes_of rfl, M.blt, M.gls, M.exs, fun y hy => ?_⟩
      obtain ⟨f', fd', ps', q⟩ := M.fns y hy
      have q4 := ih y f' fd' ps' q
      obtain ⟨_, _, _, _, q1, q2, q3, _⟩ := q
      exact ⟨f', fd', ps', k, q1, q2, q3, room, q4⟩
    have bk : Xb.env.blockKind = .function := by
      show PySem.Env.blockKind _ = _
      unfold PySem.Env.blockKind
      show (if (defScope st).kind.isAnnotationScope then ScopeKind.function else (defScope st).kind) = _
      rw [S.kind]
      rfl
    have dc : DCtx Xb := ⟨fnAll rfl rfl, bk, rfl, rfl⟩
    have PSb : PSs Xb (defBody st) (tS Xb.K Xb.mg (fun c d _ H => E c d H) (NC.S.varsL df.body) (execs G (call G T k) df.body)) := ss_snd df.body Xb _ _ ctx dc (fun _ h => h) _ hb
    obtain ⟨j, h, as, R, ra, p⟩ := hsp
    rw [eqc] at p
    have q := run_snd (ws := NC.S.varsL df.body) (W := fun c d _ H => E c d H) (N := N) hns (by rw [ra.length, hl, hnp]) (fun _ _ _ _ z => z) R ra p
    refine wpAny_mono (PSb.run [] s1 (start N vs) H _ I q) (fun fl s' hs => ?_) fun e s' hs => hs
    have fin : ∀ {σ' : L2.St} {H' : Hp} {v : V} {u : Value}, Inv Xb [] σ' H' s' → RelV v u → Q v H' → CE outer P w H s Q u s' := by
      intro σ' H' v u J rv qv
      exact ⟨v, H', J.os, J.bare, J.base, J.hok, rv, qv⟩
    match fl, hs with
    | .ret u, hs =>
      obtain ⟨v, σ', H', J, rv, q⟩ := hs
      exact fin J rv q
    | .next, hs =>
      obtain ⟨σ', H', J, q⟩ := hs
      exact fin (v := V.non) (u := Value.none) J rfl q
    | .brk, hs => exact hs.choose_spec.choose_spec.2.elim
    | .cont, hs => exact hs.choose_spec.choose_spec.2.elim
end NC
/-! The end: from the small semantics to the statement. -/
namespace NC
open PySem PySem.Spec PyProof.Rows L2

theorem rds_ints {K : PySem.W.Frag} {F : Addr → Prop} {H : Hp} : ∀ ns : List Int, RDs K F H (ns.map PyData.int) (ns.map V.int)
  | [] => .nil
  | _ :: r => .cons (.int _) (rds_ints r)
/-- the small semantics at the law's begin -/
def h00 : Hv := ⟨[], 0⟩
theorem law_sp {K : PySem.W.Frag} {mg : Str → Option Value} {C : Fns} {x : Str} {H : Hp} {a : Addr} {ns : List Int} {h : Hv} (z : ZL K H a (ns.map V.int)) (p : C x [.scr (ns.map .int)] h00 = .ok (.d (.bool true)) h) :
    spF K mg C x [.ref a] H (fun v _ => v = .bl true) fun _ _ _ => False := by
  refine ⟨⟨fun _ => 0, fun _ => False⟩, h00, [.scr (ns.map .int)], ⟨fun i _ hi => absurd hi (Nat.not_lt_zero i), fun i o e => ?_, Nat.le_refl _, fun i hi => absurd hi (Nat.not_lt_zero i), fun a m => m.elim⟩, .cons (.scr z (rds_ints ns)) .nil, ?_⟩
  · have e' : ([] : List Ob)[i]? = some o := e
    simp at e'
  · rw [p]
    intro j' H' t R u ru
    cases ru with | d ru => cases ru; rfl
/-- the call of the law at a heap in which nothing but the script is told -/
theorem call_at {P : Program} {w : World} {K : PySem.W.Frag} {mg mb : Str → Option Value} {k : Nat} {fa a : Addr} {fd : FuncData} {ps : List Str} {sp : Sp} {s : Shared} {vs : List Value} {H : Hp} {u : HO}
    (KX : K.In s.heap) (hns : s.heap.Ns mainGlobals mg) (hbn : s.heap.Ns builtinsNs mb) (hbb : ∀ x : Str, x ≠ "__name__" → mb x = bootBuiltins x) (hno : s.heap.NoLimit) (gens : s.gens = #[]) (room : Room k callerA)
    (obj : s.heap.get? a = some { cls := .type "list", data := .seq vs.toArray }) (ok : HOk P w H s.heap) (only : ∀ b, H b = none ∨ (b = a ∧ H b = some (.frz { cls := .type "list", data := .seq vs.toArray } u))) (apart : H a ≠ none → K.lookup a = none)
    (F : ∀ base : Heap, K.In base → FnG P w K mg base k fa fd ps sp) (hb : Binds K fd ps []) (h : sp [.ref a] H (fun v _ => v = .bl true) fun _ _ _ => False) :
    codeAny (model P w) callerA (.call (.ref fa) ⟨[.ref a], []⟩) (fun r s' => r = .ok (.ret (.bool true)) ∧ OldK s.heap s'.heap ∧ s'.os = s.os ∧ AllBare s'.gens) s := by
  have isA : ∀ b, H b ≠ none → b = a := fun b n => (only b).elim (fun z => (n z).elim) fun z => z.1
  have free : ∀ {b : Addr} {o : PySem.Obj} {es : Array DictEntry} {ep : Nat}, s.heap.get? b = some o → o.data = .dict es ep → H b = none := by
    intro b o es ep e d
    rcases only b with z | ⟨rfl, z⟩
    · exact z
    · rw [obj] at e
      cases e
      exact nomatch (show Data.seq vs.toArray _ = Data.dict es ep from d)
  have ns' : ∀ {b : Addr} {m : Str → Option Value}, s.heap.Ns b m → (hidT s.heap H).Ns b m := by
    rintro b m ⟨o, es, ep, e, d, r⟩
    exact ⟨o, es, ep, hidT_get e (free e d), d, r⟩
  have KB : K.In (hidT s.heap H) := by
    intro b o e
    refine hidT_get (KX b o e) ?_
    rcases only b with z | ⟨rfl, z⟩
    · exact z
    · rw [apart (by rw [z]; exact nofun)] at e
      cases e
  obtain ⟨mc, c1, c2⟩ := hno
  have e0 : Env0 P w K mg (hidT s.heap H) callerA [] s H := {
    frames := rfl
    mod := ⟨KB, ns' hns, ⟨mb, ns' hbn, hbb⟩, mc, ns' c1, c2⟩
    bs := fun b o e => of_hidT e
    bsz := Nat.le_of_eq (hidT_size _ _)
    funs := trivial
    frf := fun b z => nomatch z
    hok := ok
    bare := .of_eq gens }
  have hl : ps.length = 1 := ((F _ KB).len _ _ _ _ h).symm
  have bind := hb s [.ref a] KX (by rw [hl]; rfl)
  refine codeAny_mono ((F _ KB).run callerA [] s H ⟨[.ref a], []⟩ [.ref a] [.ref a] _ _ room rfl e0 bind (.cons rfl .nil) h) ?_
  rintro (e | fl) s' q
  · obtain ⟨_, _, _, _, _, _, _, _, _, _, _, _, q⟩ := q
    exact q.elim
  · cases fl with
    | ret u' =>
      obtain ⟨v, H', os, bare, un, ok', rv, q⟩ := q
      subst q
      cases rv
      refine ⟨rfl, OldK.of_keep fun b o e => ?_, os, bare⟩
      rcases only b with z | ⟨rfl, z⟩
      · exact un.keep b o e z (fun m => nomatch m) (fun m => nomatch m)
      · obtain ⟨e1, _⟩ := ok b _ z
        obtain ⟨e2, _⟩ := ok' b _ (un.frzs b _ _ z)
        rw [e1] at e
        cases e
        exact e2
    | next => exact q.elim
    | brk => exact q.elim
    | cont => exact q.elim
/-- a law whose defs the table tells, and that answers True by the table -/
theorem the_end {l : PySem.W.OpenLaw} {n k : Nat} {q : Program} {loose : List Str} {XP : (Str → Option Value) → Heap → Prop} {YP : World → Heap → Prop} {d : DefRec} {K : Params → PySem.W.Frag} {D Dx : List Str} {Gs : Gls} {T : Tab}
    (hn : l.most = some n) (hn2 : n ≤ 1000) (hdf : d.params.defaults = []) (hx : d.name ∈ D) (room : Room k callerA) (hY : ∀ (w : World) (h : Heap), YP w h → (K w.params).In h)
    (M : ∀ (w : World) (mg : Str → Option Value) (h : Heap), (K w.params).In h → h.Ns mainGlobals mg → MdF (K w.params) mg D Dx Gs T)
    (law : ∀ ns : List Int, ns.length ≤ n → (∀ z ∈ ns, Builtin.Int.intBits z ≤ 1048576) → ∃ h, call Gs T k d.name [.scr (ns.map .int)] h00 = .ok (.d (.bool true)) h) :
    PySem.W.WalkO q loose XP YP l.row.toRowW d [] (fun f vs => PySem.call f vs) := by
  refine Att.attach_callB hn hdf ?_
  intro w s0 s1 mg mb fa o pm cd doc a vs ns gr Y _ _ _ hmg obj ari hlen bits gens
  have KX := hY w _ Y
  have MD := M w mg _ KX gr.T.g
  obtain ⟨hr, hp⟩ := law ns hlen bits
  obtain ⟨fd, ps, hb, FF⟩ : ∃ fd ps, Binds (K w.params) fd ps [] ∧ ∀ base : Heap, (K w.params).In base → FnG l.prog w (K w.params) mg base k fa fd ps (spF (K w.params) mg (call Gs T k) d.name) := by
    obtain ⟨f, fd, ps, DF⟩ := MD.fns d.name hx
    have DF' := DF
    obtain ⟨_, _, _, _, q1, _, q3, _⟩ := DF
    rw [hmg] at q1
    cases q1
    exact ⟨fd, ps, q3, fun base _ => fn_all MD k d.name fa fd ps DF'⟩
  have rv := vals_ints ari
  cases hk : (K w.params).lookup a with
  | some o' =>
    have e := KX a o' hk
    rw [obj] at e
    cases e
    refine call_at (u := .lst []) (H := fun _ => none) KX gr.T.g gr.T.b gr.T.builtins gr.T.nolimit gens room obj (fun b u z => nomatch z) (fun b => .inl rfl) (fun z => (z rfl).elim) FF hb (law_sp (.inr (.inr ⟨_, vs.toArray, _, hk, rfl, rfl, rfl, ?_, by simpa using rv⟩)) hp)
    rw [List.size_toArray, ari.length]
    exact Nat.le_trans hlen (Nat.le_of_lt (small1000 hn2))
  | none =>
    refine call_at (u := .lst (ns.map V.int)) (H := upd noHp a (.frz { cls := .type "list", data := .seq vs.toArray } (.lst (ns.map V.int)))) KX gr.T.g gr.T.b gr.T.builtins gr.T.nolimit gens room obj ?_ (fun b => ?_) (fun _ => hk) FF hb (law_sp (.inl ⟨_, upd_same⟩) hp)
    · intro b u z
      by_cases e : b = a
      · subst e
        rw [upd_same] at z
        cases z
        exact ⟨obj, by rw [List.length_map]; exact Nat.le_trans hlen (Nat.le_of_lt (small1000 hn2)), vs, _, rv, obj⟩
      · rw [upd_ne e] at z
        exact nomatch z
    · by_cases e : b = a
      · subst e
        exact .inr ⟨rfl, upd_same⟩
      · exact .inl (upd_ne e)
end NC
/-! Plain facts: sizes, texts, fractions. -/
namespace NC
open PySem
/-! ### sizes -/
def Lt (n : Nat) (i : Int) : Prop := i.natAbs < 2 ^ n
instance (n : Nat) (i : Int) : Decidable (Lt n i) := inferInstanceAs (Decidable (i.natAbs < 2 ^ n))
theorem Lt.mono {n m : Nat} {i : Int} (h : Lt n i) (q : n ≤ m) : Lt m i := Nat.lt_of_lt_of_le h (Nat.pow_le_pow_right (by decide) q)
theorem Lt.mul {n m : Nat} {i j : Int} (h : Lt n i) (q : Lt m j) : Lt (n + m) (i * j) := by
  unfold Lt at *
  rw [Int.natAbs_mul, Nat.pow_add]
  exact Nat.mul_lt_mul'' h q
theorem Lt.add {n m : Nat} {i j : Int} (h : Lt n i) (q : Lt m j) : Lt (max n m + 1) (i + j) := by
  have h' := h.mono (Nat.le_max_left n m)
  have q' := q.mono (Nat.le_max_right n m)
  unfold Lt at *
  rw [Nat.pow_succ]
  omega
theorem Lt.neg {n : Nat} {i : Int} (h : Lt n i) : Lt n (-i) := by unfold Lt at *; omega
theorem Lt.sub {n m : Nat} {i j : Int} (h : Lt n i) (q : Lt m j) : Lt (max n m + 1) (i - j) := by rw [Int.sub_eq_add_neg]; exact h.add q.neg
theorem log_of {n : Nat} {i : Int} (h : Lt n i) : i.natAbs.log2 < n ∨ n = 0 := by
  unfold Lt at h
  by_cases h0 : i.natAbs = 0
  · rw [h0]
    cases n with
    | zero => exact .inr rfl
    | succ n => exact .inl (by rw [Nat.log2_zero]; exact Nat.succ_pos n)
  · exact .inl ((Nat.log2_lt h0).mpr h)
theorem szOk_of {n : Nat} {i : Int} (h : Lt n i) (q : n ≤ 60000000) : szOk i = true := by
  unfold szOk
  have := log_of (h.mono q)
  exact decide_eq_true (by omega)
theorem dvOk_of {n : Nat} {i : Int} (h : Lt n i) (q : n ≤ 8999) (z : i ≠ 0) : dvOk i = true := by
  unfold dvOk
  have := log_of (h.mono q)
  rw [decide_eq_true z, Bool.true_and]
  exact decide_eq_true (by omega)

/-! ### texts -/
structure Rp (n d : Nat) (x : PyData) : Prop where
  lay : x.canLay0 = true
  dep : x.depth ≤ d
  sh : x.showable = true
  len : x.shown.length ≤ n
theorem Rp.mono {n m d e : Nat} {x : PyData} (h : Rp n d x) (q : n ≤ m) (r : d ≤ e) : Rp m e x := ⟨h.lay, Nat.le_trans h.dep r, h.sh, Nat.le_trans h.len q⟩
theorem rp_int {n : Nat} {i : Int} (h : Lt n i) (q : n ≤ 1920) : Rp (n + 2) 0 (.int i) := by
  have h1 : i.natAbs.log2 < n + 1 := by have := log_of (h.mono (Nat.le_succ n)); omega
  have h2 : i.natAbs.log2 < 1920 := by have := log_of (h.mono q); omega
  refine ⟨rfl, Nat.le_refl _, decide_eq_true h2, ?_⟩
  have := int_text_length_le (k := n + 1) (Nat.succ_pos n) h1
  show (Str.ofString (toString i)).length ≤ _
  rw [PySem.ofString_length]
  exact this
theorem rp_bool {b : Bool} : Rp 5 0 (.bool b) := ⟨rfl, Nat.le_refl _, rfl, by cases b <;> decide⟩
theorem lay_all : ∀ {xs : List PyData}, (∀ x ∈ xs, x.canLay0 = true) → PyData.canLayAll0 xs = true
  | [], _ => rfl
  | x :: xs, h => by
    show (x.canLay0 && PyData.canLayAll0 xs) = true
    rw [h x List.mem_cons_self, lay_all fun y hy => h y (List.mem_cons_of_mem _ hy)]
    rfl
theorem sh_all : ∀ {xs : List PyData}, (∀ x ∈ xs, x.showable = true) → PyData.showableAll xs = true
  | [], _ => rfl
  | x :: xs, h => by
    show (x.showable && PyData.showableAll xs) = true
    rw [h x List.mem_cons_self, sh_all fun y hy => h y (List.mem_cons_of_mem _ hy)]
    rfl
theorem dep_all {d : Nat} : ∀ {xs : List PyData}, (∀ x ∈ xs, x.depth ≤ d) → PyData.depthAll xs ≤ d
  | [], _ => Nat.zero_le _
  | x :: xs, h => Nat.max_le.mpr ⟨h x List.mem_cons_self, dep_all fun y hy => h y (List.mem_cons_of_mem _ hy)⟩
theorem len_all {n : Nat} : ∀ {xs : List PyData}, (∀ x ∈ xs, x.shown.length ≤ n) → ((PyData.shownAll xs).map (·.length)).sum ≤ n * xs.length ∧ (PyData.shownAll xs).length = xs.length
  | [], _ => ⟨Nat.zero_le _, rfl⟩
  | x :: xs, h => by
    obtain ⟨a, b⟩ := len_all fun y hy => h y (List.mem_cons_of_mem x hy)
    have c := h x List.mem_cons_self
    refine ⟨?_, congrArg (· + 1) b⟩
    show ((x.shown :: PyData.shownAll xs).map (·.length)).sum ≤ _
    rw [List.map_cons, List.sum_cons, List.length_cons, Nat.mul_succ]
    omega
theorem rp_list {n d : Nat} {xs : List PyData} (h : ∀ x ∈ xs, Rp n d x) : Rp ((n + 2) * xs.length + 3) (d + 1) (.list xs) := by
  refine ⟨lay_all fun x hx => (h x hx).lay, Nat.succ_le_succ (dep_all fun x hx => (h x hx).dep), sh_all fun x hx => (h x hx).sh, ?_⟩
  obtain ⟨a, b⟩ := len_all fun x hx => (h x hx).len
  have := listText_len_le (PyData.shownAll xs)
  show (listText (PyData.shownAll xs)).length ≤ _
  rw [b] at this
  rw [Nat.add_mul]
  omega
theorem rp_tup {n d : Nat} {xs : List PyData} (h : ∀ x ∈ xs, Rp n d x) : Rp ((n + 2) * xs.length + 3) (d + 1) (.tuple xs) := by
  refine ⟨lay_all fun x hx => (h x hx).lay, Nat.succ_le_succ (dep_all fun x hx => (h x hx).dep), sh_all fun x hx => (h x hx).sh, ?_⟩
  obtain ⟨a, b⟩ := len_all fun x hx => (h x hx).len
  have := tupleText_len_le (PyData.shownAll xs)
  show (tupleText (PyData.shownAll xs)).length ≤ _
  rw [b] at this
  rw [Nat.add_mul]
  omega
theorem rep_ok {n d : Nat} {x : PyData} {h : Hv} (r : Rp n d x) (hn : n ≤ 16777216) (hd : d ≤ 64) (hi : (itemsD x).isSome = true) : bi .repr (.d x) h = .ok (.d (.str x.shown)) h := by
  have e : ((itemsD x).isSome && SeqAt.shaped x && x.showable && lnOk x.shown.length) = true := by
    rw [hi, r.sh]
    have h1 : SeqAt.shaped x = true := by
      unfold SeqAt.shaped
      rw [r.lay, decide_eq_true (Nat.le_trans r.dep hd)]
      rfl
    have h2 : lnOk x.shown.length = true := decide_eq_true (Nat.le_trans r.len hn)
    rw [h1, h2]
    rfl
  show (if _ then _ else _) = _
  rw [if_pos e]

/-! ### fractions -/
def dq (q : Rat) : PyData := .tuple [.int q.num, .int (q.den : Int)]
/-- the divisor with the bottom's sign -/
def sg (t b : Int) : Int := if b < 0 then -((Nat.gcd t.natAbs b.natAbs : Nat) : Int) else (Nat.gcd t.natAbs b.natAbs : Nat)
theorem gcd_pos {t b : Int} (hb : b ≠ 0) : 0 < Nat.gcd t.natAbs b.natAbs := Nat.gcd_pos_of_pos_right _ (by omega)
theorem sg_ne {t b : Int} (hb : b ≠ 0) : sg t b ≠ 0 := by
  have := gcd_pos (t := t) hb
  unfold sg
  split <;> omega
theorem sg_lt {n : Nat} {t b : Int} (hb : b ≠ 0) (h : Lt n b) : Lt n (sg t b) := by
  have h1 : Nat.gcd t.natAbs b.natAbs ≤ b.natAbs := Nat.gcd_le_right _ (by omega)
  unfold Lt at *
  unfold sg
  split <;> omega
theorem low_num {t b : Int} (hb : b ≠ 0) : t.fdiv (sg t b) = (Rat.divInt t b).num := by
  have hg := gcd_pos (t := t) hb
  have e : (b.gcd t : Nat) = Nat.gcd t.natAbs b.natAbs := Nat.gcd_comm _ _
  rw [Rat.num_divInt, e]
  obtain ⟨m, hm⟩ : ((Nat.gcd t.natAbs b.natAbs : Nat) : Int) ∣ t := Int.ofNat_dvd_left.mpr (Nat.gcd_dvd_left _ _)
  generalize hG : ((Nat.gcd t.natAbs b.natAbs : Nat) : Int) = g at *
  have hg' : 0 < g := by omega
  unfold sg
  rw [hG]
  split
  · rename_i hlt
    rw [Int.sign_eq_neg_one_of_neg hlt, hm]
    have e1 : -1 * (g * m) = g * (-m) := by rw [Int.neg_one_mul, Int.mul_neg]
    have e2 : g * m = (-g) * (-m) := by rw [Int.neg_mul_neg]
    rw [e1, Int.mul_ediv_cancel_left _ (by omega), e2, Int.mul_fdiv_cancel_left _ (by omega)]
  · rename_i hlt
    rw [Int.sign_eq_one_of_pos (by omega), hm, Int.one_mul, Int.mul_ediv_cancel_left _ (by omega), Int.mul_fdiv_cancel_left _ (by omega)]
theorem low_den {t b : Int} (hb : b ≠ 0) : b.fdiv (sg t b) = ((Rat.divInt t b).den : Int) := by
  have hg := gcd_pos (t := t) hb
  have e : (b.gcd t : Nat) = Nat.gcd t.natAbs b.natAbs := Nat.gcd_comm _ _
  rw [Rat.den_divInt, if_neg hb, e]
  obtain ⟨m, hm⟩ : ((Nat.gcd t.natAbs b.natAbs : Nat) : Int) ∣ b := Int.ofNat_dvd_left.mpr (Nat.gcd_dvd_right _ _)
  rw [Int.natCast_ediv]
  generalize hG : ((Nat.gcd t.natAbs b.natAbs : Nat) : Int) = g at *
  have hg' : 0 < g := by omega
  unfold sg
  rw [hG]
  split
  · rename_i hlt
    have e0 : (b.natAbs : Int) = g * (-m) := by rw [Int.mul_neg, ← hm]; omega
    have e2 : b = (-g) * (-m) := by rw [Int.neg_mul_neg]; exact hm
    rw [e0, Int.mul_ediv_cancel_left _ (by omega)]
    conv => lhs; rw [e2]
    rw [Int.mul_fdiv_cancel_left _ (by omega)]
  · rename_i hlt
    have e0 : (b.natAbs : Int) = g * m := by rw [← hm]; omega
    rw [e0, Int.mul_ediv_cancel_left _ (by omega)]
    conv => lhs; rw [hm]
    rw [Int.mul_fdiv_cancel_left _ (by omega)]
/-- small -/
def Sm (n : Nat) (q : Rat) : Prop := Lt n q.num ∧ q.den < 2 ^ n
theorem Sm.den {n : Nat} {q : Rat} (h : Sm n q) : Lt n (q.den : Int) := h.2
theorem Sm.mono {n m : Nat} {q : Rat} (h : Sm n q) (l : n ≤ m) : Sm m q := ⟨h.1.mono l, h.den.mono l⟩
theorem sm_div {n : Nat} {t b : Int} (hb : b ≠ 0) (ht : Lt n t) (hB : Lt n b) : Sm n (Rat.divInt t b) := by
  have hg := gcd_pos (t := t) hb
  refine ⟨?_, ?_⟩
  · obtain ⟨m, hm⟩ : ((Nat.gcd t.natAbs b.natAbs : Nat) : Int) ∣ t := Int.ofNat_dvd_left.mpr (Nat.gcd_dvd_left _ _)
    have e : (b.gcd t : Nat) = Nat.gcd t.natAbs b.natAbs := Nat.gcd_comm _ _
    rw [Rat.num_divInt, e]
    unfold Lt at *
    refine Nat.lt_of_le_of_lt ?_ ht
    refine Nat.le_trans (Int.natAbs_ediv_le_natAbs _ _) ?_
    rw [Int.natAbs_mul]
    have : b.sign.natAbs ≤ 1 := by rw [Int.natAbs_sign_of_ne_zero hb]; exact Nat.le_refl 1
    calc b.sign.natAbs * t.natAbs ≤ 1 * t.natAbs := Nat.mul_le_mul_right _ this
      _ = t.natAbs := Nat.one_mul _
  · rw [Rat.den_divInt, if_neg hb]
    exact Nat.lt_of_le_of_lt (Nat.div_le_self _ _) hB
theorem den_ne (q : Rat) : (q.den : Int) ≠ 0 := Int.natCast_ne_zero.mpr q.den_nz
theorem add_is (q r : Rat) : q + r = Rat.divInt (q.num * r.den + r.num * q.den) (q.den * r.den) := by
  conv => lhs; rw [← Rat.num_divInt_den q, ← Rat.num_divInt_den r]
  exact Rat.divInt_add_divInt _ _ (den_ne q) (den_ne r)
theorem sub_is (q r : Rat) : q - r = Rat.divInt (q.num * r.den - r.num * q.den) (q.den * r.den) := by
  conv => lhs; rw [← Rat.num_divInt_den q, ← Rat.num_divInt_den r]
  exact Rat.divInt_sub_divInt _ _ (den_ne q) (den_ne r)
theorem mul_is (q r : Rat) : q * r = Rat.divInt (q.num * r.num) (q.den * r.den) := by
  conv => lhs; rw [← Rat.num_divInt_den q, ← Rat.num_divInt_den r]
  exact Rat.divInt_mul_divInt _ _
theorem dd_ne (q r : Rat) : (q.den * r.den : Int) ≠ 0 := Int.mul_ne_zero (den_ne q) (den_ne r)
theorem Sm.dd {n m : Nat} {q r : Rat} (a : Sm n q) (b : Sm m r) : Lt (n + m) (q.den * r.den : Int) := a.den.mul b.den
theorem Sm.add {n m : Nat} {q r : Rat} (a : Sm n q) (b : Sm m r) : Sm (n + m + 1) (q + r) := by
  rw [add_is]
  refine sm_div (dd_ne q r) ?_ ((a.dd b).mono (Nat.le_succ _))
  have := (a.1.mul b.den).add (b.1.mul a.den)
  exact this.mono (by omega)
theorem Sm.sub {n m : Nat} {q r : Rat} (a : Sm n q) (b : Sm m r) : Sm (n + m + 1) (q - r) := by
  rw [sub_is]
  refine sm_div (dd_ne q r) ?_ ((a.dd b).mono (Nat.le_succ _))
  have := (a.1.mul b.den).sub (b.1.mul a.den)
  exact this.mono (by omega)
theorem Sm.mul {n m : Nat} {q r : Rat} (a : Sm n q) (b : Sm m r) : Sm (n + m) (q * r) := by
  rw [mul_is]
  exact sm_div (dd_ne q r) (a.1.mul b.1) (a.dd b)
theorem rp_dq {n : Nat} {q : Rat} (h : Sm n q) (hn : n ≤ 1920) : Rp (2 * n + 11) 1 (dq q) := by
  have := rp_tup (n := n + 2) (d := 0) (xs := [.int q.num, .int (q.den : Int)]) fun x hx => by
    simp only [List.mem_cons, List.not_mem_nil, or_false] at hx
    rcases hx with rfl | rfl
    · exact rp_int h.1 hn
    · exact rp_int h.den hn
  refine this.mono ?_ (Nat.le_refl _)
  simp
  omega
end NC
/-! The evaluator, by equations for simp. -/
namespace NC
open PySem
/-- a list of Bools -/
def bl (bs : List Bool) : PyData := .list (bs.map .bool)
section
variable {G : Gls} {C : Fns} {e : NC.Env} {h : Hv}
@[simp] theorem ev_cst {c : PyData} : ev G C (.cst c) e h = .ok (.d c) h := by simp only [ev] <;> rfl
@[simp] theorem ev_var {i : Nat} : ev G C (.var i) e h = (match e[i]? with
  | some (some x) => .ok x h
  | _ => .bad) := by simp only [ev] <;> rfl
@[simp] theorem ev_bin {o : Op} {a b : E} : ev G C (.bin o a b) e h = (ev G C a e h).bind fun x h1 => (ev G C b e h1).bind fun y h2 => op o x y h2 := by simp only [ev] <;> rfl
@[simp] theorem ev_neg_i {a : E} : ev G C (.neg a) e h = (ev G C a e h).bind fun x h1 => (match x with
  | .d (.int i) => .ok (.d (.int (-i))) h1
  | _ => .bad) := by simp only [ev] <;> rfl
@[simp] theorem ev_not {a : E} : ev G C (.not a) e h = tst (ev G C a e h) fun k h1 => .ok (.d (.bool (!k))) h1 := by simp only [ev] <;> rfl
@[simp] theorem ev_and {a b : E} : ev G C (.and a b) e h = tst (ev G C a e h) fun k h1 => if k = true then tst (ev G C b e h1) (fun c h2 => .ok (.d (.bool c)) h2) else .ok (.d (.bool false)) h1 := by simp only [ev] <;> rfl
@[simp] theorem ev_or {a b : E} : ev G C (.or a b) e h = tst (ev G C a e h) fun k h1 => if k = true then .ok (.d (.bool true)) h1 else tst (ev G C b e h1) (fun c h2 => .ok (.d (.bool c)) h2) := by simp only [ev] <;> rfl
@[simp] theorem ev_cmp {o : Cm} {a b : E} : ev G C (.cmp o a b) e h = (ev G C a e h).bind fun x h1 => (ev G C b e h1).bind fun y h2 => cm o x y h2 := by simp only [ev] <;> rfl
@[simp] theorem ev_ite {c a b : E} : ev G C (.ite c a b) e h = tst (ev G C c e h) fun k h1 => if k = true then ev G C a e h1 else ev G C b e h1 := by simp only [ev] <;> rfl
@[simp] theorem ev_call {x : Str} {es : List E} : ev G C (.call x es) e h = (evs G C es e h).bind fun vs h1 => C x vs h1 := by simp only [ev] <;> rfl
@[simp] theorem ev_bi {b : Bi} {a : E} : ev G C (.bi b a) e h = (ev G C a e h).bind fun x h1 => bi b x h1 := by simp only [ev] <;> rfl
@[simp] theorem ev_isi {t : Ty} {a : E} : ev G C (.isi t a) e h = (ev G C a e h).bind fun x h1 => (match x with
  | .d y => .ok (.d (.bool (isTy t y))) h1
  | _ => .bad) := by simp only [ev] <;> rfl
@[simp] theorem ev_tup {es : List E} : ev G C (.tup es) e h = (evs G C es e h).bind fun vs h1 => if lnOk vs.length then .ok (mkTup vs) h1 else .bad := by simp only [ev] <;> rfl
@[simp] theorem ev_lst {m : Bool} {es : List E} : ev G C (.lst m es) e h = (evs G C es e h).bind fun vs h1 => (match allD vs with
    | some ds => if lnOk ds.length then (if m then newO (.lst ds) h1 else .ok (.d (.list ds)) h1) else .bad
    | none => .bad) := by simp only [ev] <;> rfl
@[simp] theorem ev_ix {a i : E} : ev G C (.ix a i) e h = (ev G C a e h).bind fun x h1 => (ev G C i e h1).bind fun y h2 => ix x y h2 := by simp only [ev] <;> rfl
@[simp] theorem ev_slc {a : E} {lo hi : Option E} : ev G C (.slc a lo hi) e h = (ev G C a e h).bind fun x h1 => optI (evo G C lo e h1) fun l h2 => optI (evo G C hi e h2) fun r h3 => slc x l r h3 := by simp only [ev] <;> rfl
@[simp] theorem ev_comp {own : List Nat} {elt : E} {tg : Tg} {it : NC.It} {cond : Option E} : ev G C (.comp own elt tg it cond) e h = (walk G C it e h).bind fun w h1 =>
      compL w.gd tg (fun e h => noexc (match cond with
        | none => .ok (.d (.bool true)) h
        | some c => ev G C c e h)) (fun e h => noexc (ev G C elt e h)) (wipe e own) w.xs [] h1 := by simp only [ev] <;> rfl
@[simp] theorem ev_meth {a : E} {m : Str} {es : List E} : ev G C (.meth a m es) e h = (ev G C a e h).bind fun x h1 => if isLst x h1 then (evs G C es e h1).bind fun vs h2 => meth m x vs h2 else .bad := by simp only [ev] <;> rfl
@[simp] theorem evs_nil : evs G C [] e h = .ok [] h := by simp only [evs] <;> rfl
@[simp] theorem evs_cons {a : E} {r : List E} : evs G C (a :: r) e h = (ev G C a e h).bind fun x h1 => (evs G C r e h1).bind fun xs h2 => .ok (x :: xs) h2 := by simp only [evs] <;> rfl
@[simp] theorem evo_none : evo G C none e h = .ok none h := by simp only [evo] <;> rfl
@[simp] theorem evo_some {a : E} : evo G C (some a) e h = (ev G C a e h).bind fun x h1 => .ok (some x) h1 := by simp only [evo] <;> rfl
@[simp] theorem walk_of' {a : E} : walk G C (.of a) e h = (ev G C a e h).bind fun x h1 => walk1 x h1 := by simp only [walk] <;> rfl
@[simp] theorem ex_ret {a : E} : exec G C (.ret a) e h = (ev G C a e h).bind fun x h1 => .ok (.ret x) h1 := by simp only [exec] <;> rfl
@[simp] theorem ex_asg {tg : Tg} {a : E} : exec G C (.asg tg a) e h = (ev G C a e h).bind fun x h1 => (match storeH tg x e h1 with
    | some e1 => .ok (.nx e1) h1
    | none => .bad) := by simp only [exec] <;> rfl
@[simp] theorem ex_par {i j : Nat} {a b : E} : exec G C (.par i j a b) e h = (ev G C a e h).bind fun x h1 => (ev G C b e h1).bind fun y h2 => if i < e.length && j < e.length then .ok (.nx ((e.set i (some x)).set j (some y))) h2 else .bad := by simp only [exec] <;> rfl
@[simp] theorem ex_setI {o i a : E} : exec G C (.setI o i a) e h = (ev G C a e h).bind fun v h1 => (ev G C o e h1).bind fun x h2 => (ev G C i e h2).bind fun y h3 => (setI x y v h3).bind fun _ h4 => .ok (.nx e) h4 := by simp only [exec] <;> rfl
@[simp] theorem ex_aug {i : Nat} {o : Op} {a : E} : exec G C (.aug i o a) e h = (match e[i]? with
    | some (some x) => (ev G C a e h).bind fun y h1 => (augop o x y h1).bind fun z h2 => if i < e.length then .ok (.nx (e.set i (some z))) h2 else .bad
    | _ => .bad) := by simp only [exec] <;> rfl
@[simp] theorem ex_expr {a : E} : exec G C (.expr a) e h = (ev G C a e h).bind fun _ h1 => .ok (.nx e) h1 := by simp only [exec] <;> rfl
@[simp] theorem ex_if {c : E} {a b : List S} : exec G C (.ifS c a b) e h = tst (ev G C c e h) fun k h1 => if k = true then execs G C a e h1 else execs G C b e h1 := by simp only [exec] <;> rfl
theorem ex_for {tg : Tg} {it : NC.It} {b : List S} : exec G C (.forS tg it b) e h = (walk G C it e h).bind fun w h1 => forL w.gd tg (fun e h => execs G C b e h) w.xs e h1 := by simp only [exec] <;> rfl
theorem ex_while {c : E} {b : List S} : exec G C (.whileS c b) e h = whileL (fun e h => ev G C c e h) (fun e h => execs G C b e h) e h := by simp only [exec] <;> rfl
@[simp] theorem exs_nil : execs G C [] e h = .ok (.nx e) h := by simp only [execs] <;> rfl
@[simp] theorem exs_cons {s : S} {r : List S} : execs G C (s :: r) e h = (exec G C s e h).bind fun f h1 => (match f with
    | .nx e1 => execs G C r e1 h1
    | .ret v => .ok (.ret v) h1
    | .brk e1 => .ok (.brk e1) h1
    | .ct e1 => .ok (.ct e1) h1) := by simp only [execs] <;> rfl
/-! values -/
@[simp] theorem hv_eta (h : Hv) : (⟨h.os, h.lim⟩ : Hv) = h := rfl
@[simp] theorem add_i {i j : Int} : op .add (.d (.int i)) (.d (.int j)) h = .ok (.d (.int (i + j))) h := rfl
@[simp] theorem sub_i {i j : Int} : op .sub (.d (.int i)) (.d (.int j)) h = .ok (.d (.int (i - j))) h := rfl
@[simp] theorem mul_i {i j : Int} : op .mul (.d (.int i)) (.d (.int j)) h = if szOk i && szOk j then .ok (.d (.int (i * j))) h else .bad := rfl
@[simp] theorem fdiv_i {i j : Int} : op .fdiv (.d (.int i)) (.d (.int j)) h = if dvOk j then .ok (.d (.int (i.fdiv j))) h else .bad := rfl
@[simp] theorem mod_i {i j : Int} : op .mod (.d (.int i)) (.d (.int j)) h = if decide (j ≠ 0) then .ok (.d (.int (i.fmod j))) h else .bad := rfl
@[simp] theorem pow_i {i j : Int} : op .pow (.d (.int i)) (.d (.int j)) h = if powOk i j then .ok (.d (.int (i ^ j.toNat))) h else .bad := rfl
theorem eqv_int (i j : Int) : PyData.eqv (.int i) (.int j) = decide (i = j) := by simp [PyData.eqv]; rfl
theorem eqv_str (a b : Str) : PyData.eqv (.str a) (.str b) = (a == b) := by simp [PyData.eqv]
@[simp] theorem eq_i {i j : Int} : cm .eq (.d (.int i)) (.d (.int j)) h = .ok (.d (.bool (decide (i = j)))) h := by
  show (if eqOk (.int i) (.int j) then Res.ok (PV.d (.bool (PyData.eqv (.int i) (.int j)))) h else .bad) = _
  rw [if_pos (show eqOk (.int i) (.int j) = true from rfl), eqv_int]
@[simp] theorem ne_i {i j : Int} : cm .ne (.d (.int i)) (.d (.int j)) h = .ok (.d (.bool (!decide (i = j)))) h := by
  show (if eqOk (.int i) (.int j) then Res.ok (PV.d (.bool (!PyData.eqv (.int i) (.int j)))) h else .bad) = _
  rw [if_pos (show eqOk (.int i) (.int j) = true from rfl), eqv_int]
@[simp] theorem eq_s {a b : Str} : cm .eq (.d (.str a)) (.d (.str b)) h = .ok (.d (.bool (a == b))) h := by
  show (if eqOk (.str a) (.str b) then Res.ok (PV.d (.bool (PyData.eqv (.str a) (.str b)))) h else .bad) = _
  rw [if_pos (show eqOk (.str a) (.str b) = true from rfl), eqv_str]
@[simp] theorem lt_i {i j : Int} : cm .lt (.d (.int i)) (.d (.int j)) h = .ok (.d (.bool (decide (i < j)))) h := rfl
@[simp] theorem le_i {i j : Int} : cm .le (.d (.int i)) (.d (.int j)) h = .ok (.d (.bool (decide (i ≤ j)))) h := rfl
@[simp] theorem gt_i {i j : Int} : cm .gt (.d (.int i)) (.d (.int j)) h = .ok (.d (.bool (decide (j < i)))) h := rfl
@[simp] theorem ge_i {i j : Int} : cm .ge (.d (.int i)) (.d (.int j)) h = .ok (.d (.bool (decide (j ≤ i)))) h := rfl
@[simp] theorem abs_i {i : Int} : bi .abs (.d (.int i)) h = .ok (.d (.int (i.natAbs : Nat))) h := by
  show Res.ok _ h = _
  by_cases q : i < 0
  · rw [if_pos q]; congr 3; omega
  · rw [if_neg q]; congr 3; omega
@[simp] theorem int_i {i : Int} : bi .int (.d (.int i)) h = .ok (.d (.int i)) h := rfl
@[simp] theorem len_t {xs : List PyData} : bi .len (.d (.tuple xs)) h = .ok (.d (.int xs.length)) h := rfl
@[simp] theorem len_l {xs : List PyData} : bi .len (.d (.list xs)) h = .ok (.d (.int xs.length)) h := rfl
@[simp] theorem isi_i {i : Int} : isTy .int (.int i) = true := rfl
@[simp] theorem isb_i {i : Int} : isTy .bool (.int i) = false := rfl
@[simp] theorem ist_t {xs : List PyData} : isTy .tuple (.tuple xs) = true := rfl
@[simp] theorem ist_l {xs : List PyData} : isTy .tuple (.list xs) = false := rfl
@[simp] theorem ix_t0 {x : PyData} {xs : List PyData} : ix (.d (.tuple (x :: xs))) (.d (.int 0)) h = .ok (.d x) h := by simp [ix, L2.atI, L2.ixN]
@[simp] theorem ix_t1 {x y : PyData} {xs : List PyData} : ix (.d (.tuple (x :: y :: xs))) (.d (.int 1)) h = .ok (.d y) h := by
  have q : (1 : Int) < (xs.length : Int) + 1 + 1 := by omega
  simp [ix, L2.atI, L2.ixN, q]
@[simp] theorem st_v {i : Nat} {x : PV} {e : NC.Env} : storeH (.var i) x e h = if i < e.length then some (e.set i (some x)) else none := by cases x <;> rfl
@[simp] theorem ev_cmp2 {o o' : Cm} {a b c : E} : ev G C (.cmp2 o o' a b c) e h = (ev G C a e h).bind fun x h1 => (ev G C b e h1).bind fun y h2 => tst (cm o x y h2) fun k h3 => if k = true then (ev G C c e h3).bind fun z h4 => cm o' y z h4 else .ok (.d (.bool false)) h3 := by simp only [ev] <;> rfl
@[simp] theorem ev_glb {x : Str} : ev G C (.glb x) e h = (match G x with
  | some v => .ok v h
  | none => .bad) := by simp only [ev] <;> rfl
@[simp] theorem add_t {xs ys : List PyData} : op .add (.d (.tuple xs)) (.d (.tuple ys)) h = if lnOk (xs.length + ys.length) then .ok (.d (.tuple (xs ++ ys))) h else .bad := rfl
@[simp] theorem isn_b {a b : Bool} : cm .isn (.d (.bool a)) (.d (.bool b)) h = .ok (.d (.bool (!(a == b)))) h := rfl
@[simp] theorem is_b {a b : Bool} : cm .is (.d (.bool a)) (.d (.bool b)) h = .ok (.d (.bool (a == b))) h := rfl
theorem eqv_bool (a b : Bool) : PyData.eqv (.bool a) (.bool b) = (a == b) := by cases a <;> cases b <;> rfl
@[simp] theorem ne_b {a b : Bool} : cm .ne (.d (.bool a)) (.d (.bool b)) h = .ok (.d (.bool (!(a == b)))) h := by
  show (if eqOk (.bool a) (.bool b) then Res.ok (PV.d (.bool (!PyData.eqv (.bool a) (.bool b)))) h else .bad) = _
  rw [if_pos (show eqOk (.bool a) (.bool b) = true from rfl), eqv_bool]
@[simp] theorem eq_b {a b : Bool} : cm .eq (.d (.bool a)) (.d (.bool b)) h = .ok (.d (.bool (a == b))) h := by
  show (if eqOk (.bool a) (.bool b) then Res.ok (PV.d (.bool (PyData.eqv (.bool a) (.bool b)))) h else .bad) = _
  rw [if_pos (show eqOk (.bool a) (.bool b) = true from rfl), eqv_bool]
@[simp] theorem tup_l {xs : List PyData} : bi .tuple (.d (.list xs)) h = .ok (.d (.tuple xs)) h := rfl
@[simp] theorem lst_t {xs : List PyData} : bi .list (.d (.tuple xs)) h = .ok (.d (.list xs)) h := rfl
@[simp] theorem all_b {bs : List Bool} : bi .all (.d (.list (bs.map .bool))) h = .ok (.d (.bool (bs.all id))) h := by simp only [bi, allB_map]
@[simp] theorem any_b {bs : List Bool} : bi .any (.d (.list (bs.map .bool))) h = .ok (.d (.bool (bs.any id))) h := by simp only [bi, allB_map]
@[simp] theorem all_bl {bs : List Bool} : bi .all (.d (bl bs)) h = .ok (.d (.bool (bs.all id))) h := all_b
@[simp] theorem any_bl {bs : List Bool} : bi .any (.d (bl bs)) h = .ok (.d (.bool (bs.any id))) h := any_b
@[simp] theorem mkT1 {x : PyData} : mkTup [.d x] = .d (.tuple [x]) := rfl
@[simp] theorem mkT2 {x y : PyData} : mkTup [.d x, .d y] = .d (.tuple [x, y]) := rfl
@[simp] theorem mkT3 {x y z : PyData} : mkTup [.d x, .d y, .d z] = .d (.tuple [x, y, z]) := rfl
end
end NC
/-! Loops and comprehensions by invariants. -/
namespace NC
open PySem
@[simp] theorem noexc_ok {α : Type} {a : α} {h : Hv} : noexc (.ok a h) = .ok a h := rfl
@[simp] theorem optI_none {h : Hv} {f : Option Int → Hv → Res PV} : optI (.ok none h) f = f none h := rfl
@[simp] theorem optI_some {i : Int} {h : Hv} {f : Option Int → Hv → Res PV} : optI (.ok (some (.d (.int i))) h) f = f (some i) h := rfl
theorem comp_run {tg : Tg} {cond elt : NC.Env → Hv → Res PV} {e : NC.Env} {P : Nat → Hv → Prop} {R : PyData → Prop} {J : Nat} : ∀ (xs : List PV) (acc : List PyData) (j : Nat) (h : Hv),
    (∀ x ∈ xs, ∀ j h, j < J → P j h → ∃ e1, store tg x e = some e1 ∧ cond e1 h = .ok (.d (.bool true)) h ∧ ∃ y h', elt e1 h = .ok (.d y) h' ∧ R y ∧ P (j + 1) h') → P j h → j + xs.length ≤ J → acc.length + xs.length ≤ 16777216 →
    ∃ ys h', compL .no tg cond elt e xs acc h = .ok (.d (.list (acc ++ ys))) h' ∧ ys.length = xs.length ∧ (∀ y ∈ ys, R y) ∧ P (j + xs.length) h'
  | [], acc, j, h, _, p, _, _ => ⟨[], h, by simp [compL, Gd.ok], rfl, (fun _ z => nomatch z), p⟩
  | x :: xs, acc, j, h, s, p, lj, l => by
    rw [List.length_cons] at lj
    obtain ⟨e1, h1, h2, y, h', h3, h4, h5⟩ := s x List.mem_cons_self j h (by omega) p
    have l' : acc.length + (xs.length + 1) ≤ 16777216 := by simpa using l
    obtain ⟨ys, h'', q1, q2, q3, q4⟩ := comp_run xs (acc ++ [y]) (j + 1) h' (fun z hz => s z (List.mem_cons_of_mem _ hz)) h5 (by omega) (by simp; omega)
    refine ⟨y :: ys, h'', ?_, by simp [q2], fun z hz => ?_, by rw [List.length_cons, show j + (xs.length + 1) = j + 1 + xs.length by omega]; exact q4⟩
    · have lk : lnOk (acc.length + 1) = true := decide_eq_true (by omega)
      simp [compL, Gd.ok, h1, h2, h3, lk, q1]
    · rcases List.mem_cons.mp hz with rfl | hz
      · exact h4
      · exact q3 z hz
theorem comp_map {tg : Tg} {cond elt : NC.Env → Hv → Res PV} {e : NC.Env} {h : Hv} {f : PV → PyData} : ∀ (xs : List PV) (acc : List PyData),
    (∀ x ∈ xs, ∃ e1, store tg x e = some e1 ∧ cond e1 h = .ok (.d (.bool true)) h ∧ elt e1 h = .ok (.d (f x)) h) → acc.length + xs.length ≤ 16777216 →
    compL .no tg cond elt e xs acc h = .ok (.d (.list (acc ++ xs.map f))) h
  | [], acc, _, _ => by simp [compL, Gd.ok]
  | x :: xs, acc, s, l => by
    obtain ⟨e1, h1, h2, h3⟩ := s x List.mem_cons_self
    have l' : acc.length + (xs.length + 1) ≤ 16777216 := by simpa using l
    have lk : lnOk (acc.length + 1) = true := decide_eq_true (by omega)
    have q := comp_map (f := f) xs (acc ++ [f x]) (fun z hz => s z (List.mem_cons_of_mem _ hz)) (by simp; omega)
    simp [compL, Gd.ok, h1, h2, h3, lk, q]
theorem comp_maps {α : Type} {tg : Tg} {cond elt : NC.Env → Hv → Res PV} {e : NC.Env} {h : Hv} {g : α → PV} {f : α → PyData} {ps : List PV} {ds : List PyData} (xs : List α)
    (s : ∀ x ∈ xs, ∃ e1, store tg (g x) e = some e1 ∧ cond e1 h = .ok (.d (.bool true)) h ∧ elt e1 h = .ok (.d (f x)) h) (l : xs.length ≤ 16777216) (hp : ps = xs.map g) (hd : ds = xs.map f) :
    compL .no tg cond elt e ps [] h = .ok (.d (.list ds)) h := by
  subst hp
  subst hd
  have key : ∀ (xs : List α) (acc : List PyData), (∀ x ∈ xs, ∃ e1, store tg (g x) e = some e1 ∧ cond e1 h = .ok (.d (.bool true)) h ∧ elt e1 h = .ok (.d (f x)) h) → acc.length + xs.length ≤ 16777216 → compL .no tg cond elt e (xs.map g) acc h = .ok (.d (.list (acc ++ xs.map f))) h := by
    intro xs
    induction xs with
    | nil => intro acc _ _; simp [compL, Gd.ok]
    | cons x xs ih =>
      intro acc s l
      obtain ⟨e1, h1, h2, h3⟩ := s x List.mem_cons_self
      rw [List.length_cons] at l
      have lk : lnOk (acc.length + 1) = true := decide_eq_true (by omega)
      have q := ih (acc ++ [f x]) (fun z hz => s z (List.mem_cons_of_mem _ hz)) (by simp; omega)
      simp [compL, Gd.ok, h1, h2, h3, lk, q]
  simpa using key xs [] s (by simpa using l)
theorem for_run {tg : Tg} {body : NC.Env → Hv → Res NC.Flow} {P : Nat → NC.Env → Hv → Prop} {J : Nat} : ∀ (xs : List PV) (j : Nat) (e : NC.Env) (h : Hv),
    (∀ x ∈ xs, ∀ j e h, j < J → P j e h → ∃ e1, store tg x e = some e1 ∧ ∃ e2 h2, body e1 h = .ok (.nx e2) h2 ∧ P (j + 1) e2 h2) → P j e h → j + xs.length ≤ J →
    ∃ e' h', forL .no tg body xs e h = .ok (.nx e') h' ∧ P (j + xs.length) e' h'
  | [], j, e, h, _, p, _ => ⟨e, h, by simp [forL, Gd.ok], p⟩
  | x :: xs, j, e, h, s, p, lj => by
    rw [List.length_cons] at lj
    obtain ⟨e1, h1, e2, h2, h3, h4⟩ := s x List.mem_cons_self j e h (by omega) p
    obtain ⟨e', h', q1, q2⟩ := for_run xs (j + 1) e2 h2 (fun z hz => s z (List.mem_cons_of_mem _ hz)) h4 (by omega)
    refine ⟨e', h', ?_, by rw [List.length_cons, show j + (xs.length + 1) = j + 1 + xs.length by omega]; exact q2⟩
    simp [forL, Gd.ok, h1, h3, q1]
theorem b62_of {i : Int} (h0 : 0 ≤ i) (h1 : i ≤ 1000000) : b62 i = true := by
  have e : (2 : Int) ^ 62 = 4611686018427387904 := by decide
  unfold b62
  rw [e, Bool.and_eq_true]
  exact ⟨decide_eq_true (by omega), decide_eq_true (by omega)⟩
theorem walk_r1 {G : Gls} {C : Fns} {a : E} {e : NC.Env} {h h1 : Hv} {i : Int} (ha : ev G C a e h = .ok (.d (.int i)) h1) (hb : b62 i = true) : walk G C (.range1 a) e h = .ok ⟨rngs 0 i.toNat, .no⟩ h1 := by
  rw [walk, ha, Res.bind_ok]
  simp only [hb, if_true]
theorem rngs_len {i : Int} {m : Nat} : (rngs i m).length = m := by simp [rngs]
theorem all_true {ys : List PyData} {h : Hv} (q : ∀ y ∈ ys, y = .bool true) : bi .all (.d (.list ys)) h = .ok (.d (.bool true)) h := by
  have e : allB ys = some (List.replicate ys.length true) := by
    induction ys with
    | nil => rfl
    | cons y ys ih =>
      rw [q y List.mem_cons_self]
      simp [allB, ih fun z hz => q z (List.mem_cons_of_mem _ hz), List.replicate_succ]
  simp [bi, e]
theorem cut_map {α β : Type} (f : α → β) (xs : List α) (lo hi : Option Int) : cut (xs.map f) lo hi = (cut xs lo hi).map f := by simp [cut]
theorem cut_mem {α : Type} {xs : List α} {lo hi : Option Int} {x : α} (h : x ∈ cut xs lo hi) : x ∈ xs := List.mem_of_mem_drop (List.mem_of_mem_take h)
theorem cut_len {α : Type} {xs : List α} {lo hi : Option Int} : (cut xs lo hi).length ≤ xs.length := by
  unfold cut
  rw [List.length_take, List.length_drop]
  omega
/-! the same value twice -/
theorem shaped_dq (q : Rat) : SeqAt.shaped (dq q) = true := rfl
theorem eqv_dq (q : Rat) : PyData.eqv (dq q) (dq q) = true := by
  unfold dq
  simp [PyData.eqv, PyData.eqvAll]
@[simp] theorem ne_dq {q : Rat} {h : Hv} : cm .ne (.d (dq q)) (.d (dq q)) h = .ok (.d (.bool false)) h := by
  show (if eqOk (dq q) (dq q) then Res.ok (PV.d (.bool (!PyData.eqv (dq q) (dq q)))) h else .bad) = _
  rw [if_pos (show eqOk (dq q) (dq q) = true by unfold eqOk; rw [shaped_dq]; simp), eqv_dq]
  rfl
end NC
namespace NC
open PySem PySem.Spec PyProof.Rows L2
/-! ### the table of the defs (written by a program from the text) -/
/-- is_integer: thing -/
def f_is_integer : Df := { np := 1, ns := 1, cl := true, body := [(.ret (.and (.isi .int (.var 0)) (.not (.isi .bool (.var 0)))))] }
/-- divisor: x, y -/
def f_divisor : Df := { np := 2, ns := 2, cl := true, body := [(.whileS (.cmp .ne (.var 1) (.cst (.int 0))) [(.par 0 1 (.var 1) (.bin .mod (.bi .int (.var 0)) (.var 1)))]), (.ret (.var 0))] }
/-- is_fraction: thing -/
def f_is_fraction : Df := { np := 1, ns := 1, cl := true, body := [(.ifS (.or (.not (.isi .tuple (.var 0))) (.or (.cmp .ne (.bi .len (.var 0)) (.cst (.int 2))) (.or (.not (.call "is_integer" [(.ix (.var 0) (.cst (.int 0)))])) (.not (.call "is_integer" [(.ix (.var 0) (.cst (.int 1)))]))))) [(.ret (.cst (.bool false)))] []), (.ret (.and (.cmp .gt (.ix (.var 0) (.cst (.int 1))) (.cst (.int 0))) (.cmp .eq (.call "divisor" [(.bi .abs (.ix (.var 0) (.cst (.int 0)))), (.ix (.var 0) (.cst (.int 1)))]) (.cst (.int 1)))))] }
/-- made: top, bottom, by -/
def f_made : Df := { np := 2, ns := 3, cl := true, body := [(.asg (.var 2) (.call "divisor" [(.bi .abs (.var 0)), (.bi .abs (.var 1))])), (.ifS (.cmp .lt (.var 1) (.cst (.int 0))) [(.asg (.var 2) (.neg (.var 2)))] []), (.ret (.tup [(.bin .fdiv (.var 0) (.var 2)), (.bin .fdiv (.var 1) (.var 2))]))] }
/-- check_fraction: thing -/
def f_check_fraction : Df := { np := 1, ns := 1, cl := true, body := [(.ifS (.not (.call "is_fraction" [(.var 0)])) [(.raiseS "NoFraction" [])] [])] }
/-- raw_less: x, y -/
def f_raw_less : Df := { np := 2, ns := 2, cl := true, body := [(.ret (.call "made" [(.bin .sub (.bin .mul (.ix (.var 0) (.cst (.int 0))) (.ix (.var 1) (.cst (.int 1)))) (.bin .mul (.ix (.var 1) (.cst (.int 0))) (.ix (.var 0) (.cst (.int 1))))), (.bin .mul (.ix (.var 0) (.cst (.int 1))) (.ix (.var 1) (.cst (.int 1))))]))] }
/-- raw_at_most: x, y -/
def f_raw_at_most : Df := { np := 2, ns := 2, cl := true, body := [(.ret (.cmp .le (.bin .mul (.ix (.var 0) (.cst (.int 0))) (.ix (.var 1) (.cst (.int 1)))) (.bin .mul (.ix (.var 1) (.cst (.int 0))) (.ix (.var 0) (.cst (.int 1))))))] }
/-- less: x, y -/
def f_less : Df := { np := 2, ns := 2, cl := true, body := [(.expr (.call "check_fraction" [(.var 0)])), (.expr (.call "check_fraction" [(.var 1)])), (.ret (.call "raw_less" [(.var 0), (.var 1)]))] }
/-- at_most: x, y -/
def f_at_most : Df := { np := 2, ns := 2, cl := true, body := [(.expr (.call "check_fraction" [(.var 0)])), (.expr (.call "check_fraction" [(.var 1)])), (.ret (.call "raw_at_most" [(.var 0), (.var 1)]))] }
/-- are_fractions: thing, many, one -/
def f_are_fractions : Df := { np := 2, ns := 3, cl := true, body := [(.ret (.and (.isi .tuple (.var 0)) (.and (.cmp .eq (.bi .len (.var 0)) (.var 1)) (.bi .all (.comp [2] (.call "is_fraction" [(.var 2)]) (.var 2) (.of (.var 0)) none)))))] }
/-- is_point: thing -/
def f_is_point : Df := { np := 1, ns := 1, cl := true, body := [(.ret (.and (.isi .tuple (.var 0)) (.and (.cmp2 .le .le (.cst (.int 1)) (.bi .len (.var 0)) (.glb "MOST_AMOUNTS")) (.call "are_fractions" [(.var 0), (.bi .len (.var 0))]))))] }
/-- is_range: thing -/
def f_is_range : Df := { np := 1, ns := 1, cl := true, body := [(.ret (.and (.call "are_fractions" [(.var 0), (.cst (.int 2))]) (.call "raw_at_most" [(.ix (.var 0) (.cst (.int 0))), (.ix (.var 0) (.cst (.int 1)))])))] }
/-- is_box: thing, one -/
def f_is_box : Df := { np := 1, ns := 2, cl := true, body := [(.ret (.and (.isi .tuple (.var 0)) (.and (.cmp2 .le .le (.cst (.int 1)) (.bi .len (.var 0)) (.glb "MOST_AMOUNTS")) (.bi .all (.comp [1] (.call "is_range" [(.var 1)]) (.var 1) (.of (.var 0)) none)))))] }
/-- raw_is_inside: box, point, x, low, high -/
def f_raw_is_inside : Df := { np := 2, ns := 5, cl := true, body := [(.ret (.bi .all (.comp [2, 3, 4] (.and (.call "raw_at_most" [(.var 3), (.var 2)]) (.call "raw_at_most" [(.var 2), (.var 4)])) (.tup [(.tup [(.var 3), (.var 4)]), (.var 2)]) (.zip2 (.var 0) (.var 1)) none)))] }
/-- is_inside: box, thing -/
def f_is_inside : Df := { np := 2, ns := 2, cl := true, body := [(.ifS (.not (.call "is_box" [(.var 0)])) [(.raiseS "NoBox" [])] []), (.ret (.and (.call "are_fractions" [(.var 1), (.bi .len (.var 0))]) (.call "raw_is_inside" [(.var 0), (.var 1)])))] }
/-- _law_hand: script, cells, cell -/
def g_law_hand : Df := { np := 1, ns := 3, cl := false, body := [(.asg (.var 1) (.comp [2] (.bin .mod (.bi .int (.bi .abs (.bi .int (.var 2)))) (.bin .pow (.cst (.int 10)) (.cst (.int 36)))) (.var 2) (.of (.slc (.var 0) none (some (.cst (.int 63))))) none)), (.ret (.lst true [(.var 1), (.cst (.int 0)), (.cst (.int 0)), (.bin .add (.cst (.int 491)) (.bin .mul (.cst (.int 233)) (.bi .len (.var 1)))), (.cst (.int 0))]))] }
/-- _law_draw: hand, many, number, cell, digit -/
def g_law_draw : Df := { np := 2, ns := 5, cl := true, body := [(.ifS (.and (.cmp .eq (.ix (.var 0) (.cst (.int 2))) (.cst (.int 0))) (.cmp .lt (.ix (.var 0) (.cst (.int 1))) (.bi .len (.ix (.var 0) (.cst (.int 0)))))) [(.asg (.var 3) (.ix (.ix (.var 0) (.cst (.int 0))) (.ix (.var 0) (.cst (.int 1))))), (.setI (.var 0) (.cst (.int 1)) (.bin .add (.ix (.var 0) (.cst (.int 1))) (.cst (.int 1)))), (.setI (.var 0) (.cst (.int 3)) (.bin .mod (.bi .int (.bin .add (.bin .add (.bin .mul (.ix (.var 0) (.cst (.int 3))) (.cst (.int 69621))) (.bin .mul (.var 3) (.cst (.int 48271)))) (.cst (.int 17)))) (.cst (.int 2147483629)))), (.ifS (.cmp .ge (.var 3) (.bin .pow (.cst (.int 10)) (.cst (.int 18)))) [(.setI (.var 0) (.cst (.int 2)) (.var 3))] [])] []), (.ifS (.cmp .gt (.ix (.var 0) (.cst (.int 2))) (.cst (.int 0))) [(.asg (.var 4) (.bin .mod (.bi .int (.ix (.var 0) (.cst (.int 2)))) (.var 1))), (.setI (.var 0) (.cst (.int 2)) (.bin .fdiv (.ix (.var 0) (.cst (.int 2))) (.var 1))), (.ret (.var 4))] []), (.setI (.var 0) (.cst (.int 4)) (.bin .add (.ix (.var 0) (.cst (.int 4))) (.cst (.int 1)))), (.asg (.var 2) (.bin .mod (.bi .int (.bin .mul (.bi .int (.bin .add (.ix (.var 0) (.cst (.int 3))) (.bin .mul (.cst (.int 7919)) (.ix (.var 0) (.cst (.int 4)))))) (.cst (.int 40692)))) (.cst (.int 2147483647)))), (.asg (.var 2) (.bin .mod (.bi .int (.bin .mul (.var 2) (.bin .add (.bin .fdiv (.var 2) (.cst (.int 1009))) (.cst (.int 69621))))) (.cst (.int 2147483647)))), (.asg (.var 2) (.bin .mod (.bi .int (.bin .mul (.var 2) (.bin .add (.bin .fdiv (.var 2) (.cst (.int 2003))) (.cst (.int 40014))))) (.cst (.int 2147483563)))), (.ret (.bin .mod (.bi .int (.bin .fdiv (.var 2) (.cst (.int 16)))) (.var 1)))] }
/-- _law_some: hand, things -/
def g_law_some : Df := { np := 2, ns := 2, cl := true, body := [(.ret (.ix (.var 1) (.call "_law_draw" [(.var 0), (.bi .len (.var 1))])))] }
/-- _law_is: mine, yours -/
def g_law_is : Df := { np := 2, ns := 2, cl := true, body := [(.ret (.cmp .eq (.bi .repr (.var 0)) (.bi .repr (.var 1))))] }
/-- _law_low: top, bottom, one, other -/
def g_law_low : Df := { np := 2, ns := 4, cl := true, body := [(.par 2 3 (.bi .abs (.var 0)) (.bi .abs (.var 1))), (.whileS (.cmp .gt (.var 3) (.cst (.int 0))) [(.par 2 3 (.var 3) (.bin .mod (.bi .int (.var 2)) (.var 3)))]), (.asg (.var 2) (.ite (.cmp .gt (.var 1) (.cst (.int 0))) (.var 2) (.bin .sub (.cst (.int 0)) (.var 2)))), (.ret (.tup [(.bin .fdiv (.var 0) (.var 2)), (.bin .fdiv (.var 1) (.var 2))]))] }
/-- _law_sum: one, other -/
def g_law_sum : Df := { np := 2, ns := 2, cl := true, body := [(.ret (.call "_law_low" [(.bin .add (.bin .mul (.ix (.var 0) (.cst (.int 0))) (.ix (.var 1) (.cst (.int 1)))) (.bin .mul (.ix (.var 1) (.cst (.int 0))) (.ix (.var 0) (.cst (.int 1))))), (.bin .mul (.ix (.var 0) (.cst (.int 1))) (.ix (.var 1) (.cst (.int 1))))]))] }
/-- _law_gap: one, other -/
def g_law_gap : Df := { np := 2, ns := 2, cl := true, body := [(.ret (.call "_law_low" [(.bin .sub (.bin .mul (.ix (.var 0) (.cst (.int 0))) (.ix (.var 1) (.cst (.int 1)))) (.bin .mul (.ix (.var 1) (.cst (.int 0))) (.ix (.var 0) (.cst (.int 1))))), (.bin .mul (.ix (.var 0) (.cst (.int 1))) (.ix (.var 1) (.cst (.int 1))))]))] }
/-- _law_product: one, other -/
def g_law_product : Df := { np := 2, ns := 2, cl := true, body := [(.ret (.call "_law_low" [(.bin .mul (.ix (.var 0) (.cst (.int 0))) (.ix (.var 1) (.cst (.int 0)))), (.bin .mul (.ix (.var 0) (.cst (.int 1))) (.ix (.var 1) (.cst (.int 1))))]))] }
/-- _law_is_less: one, other -/
def g_law_is_less : Df := { np := 2, ns := 2, cl := true, body := [(.ret (.cmp .lt (.bin .mul (.ix (.var 0) (.cst (.int 0))) (.ix (.var 1) (.cst (.int 1)))) (.bin .mul (.ix (.var 1) (.cst (.int 0))) (.ix (.var 0) (.cst (.int 1))))))] }
/-- _law_number: hand -/
def g_law_number : Df := { np := 1, ns := 1, cl := true, body := [(.ret (.call "_law_some" [(.var 0), (.lst false [(.tup [(.cst (.int 0)), (.cst (.int 1))]), (.tup [(.cst (.int 1)), (.cst (.int 1))]), (.tup [(.neg (.cst (.int 1))), (.cst (.int 1))]), (.tup [(.cst (.int 2)), (.cst (.int 1))]), (.tup [(.cst (.int 5)), (.cst (.int 1))]), (.tup [(.neg (.cst (.int 3))), (.cst (.int 1))]), (.tup [(.cst (.int 1)), (.cst (.int 2))]), (.tup [(.neg (.cst (.int 5))), (.cst (.int 2))]), (.tup [(.cst (.int 7)), (.cst (.int 3))])])]))] }
/-- _law_box: hand, many, found, place, low -/
def g_law_box : Df := { np := 2, ns := 5, cl := true, body := [(.asg (.var 2) (.lst true [])), (.forS (.var 3) (.range1 (.var 1)) [(.asg (.var 4) (.call "_law_number" [(.var 0)])), (.expr (.meth (.var 2) "append" [(.tup [(.var 4), (.call "_law_sum" [(.var 4), (.call "_law_some" [(.var 0), (.lst false [(.tup [(.cst (.int 0)), (.cst (.int 1))]), (.tup [(.cst (.int 1)), (.cst (.int 2))]), (.tup [(.cst (.int 3)), (.cst (.int 1))]), (.tup [(.cst (.int 10)), (.cst (.int 1))])])])])])]))]), (.ret (.bi .tuple (.var 2)))] }
/-- _law_beside: hand, pair, some, low, high -/
def g_law_beside : Df := { np := 2, ns := 5, cl := true, body := [(.asg (.tup [(.var 3), (.var 4)]) (.var 1)), (.asg (.var 2) (.lst false [(.var 3), (.var 4), (.call "_law_product" [(.call "_law_sum" [(.var 3), (.var 4)]), (.tup [(.cst (.int 1)), (.cst (.int 2))])]), (.call "_law_gap" [(.var 3), (.tup [(.cst (.int 1)), (.cst (.int 7))])]), (.call "_law_sum" [(.var 4), (.tup [(.cst (.int 1)), (.cst (.int 9))])])])), (.ret (.call "_law_some" [(.var 0), (.var 2)]))] }
/-- _law_right: hand, many, box, turn, backward, is_thin, point, due, others, pair, one, low, high, x -/
def g_law_right : Df := { np := 1, ns := 14, cl := true, body := [(.asg (.var 1) (.bin .add (.cst (.int 1)) (.call "_law_draw" [(.var 0), (.cst (.int 3))]))), (.asg (.var 2) (.call "_law_box" [(.var 0), (.var 1)])), (.ifS (.cmp .isn (.call "is_box" [(.var 2)]) (.cst (.bool true))) [(.ret (.cst (.bool false)))] []), (.forS (.var 3) (.range1 (.cst (.int 4))) [(.asg (.var 6) (.bi .tuple (.comp [9] (.call "_law_beside" [(.var 0), (.var 9)]) (.var 9) (.of (.var 2)) none))), (.asg (.var 7) (.bi .all (.comp [13, 11, 12] (.and (.not (.call "_law_is_less" [(.var 13), (.var 11)])) (.not (.call "_law_is_less" [(.var 12), (.var 13)]))) (.tup [(.var 13), (.tup [(.var 11), (.var 12)])]) (.zip2 (.var 6) (.var 2)) none))), (.ifS (.not (.call "_law_is" [(.lst false [(.call "is_point" [(.var 6)]), (.call "is_inside" [(.var 2), (.var 6)])]), (.lst false [(.cst (.bool true)), (.var 7)])])) [(.ret (.cst (.bool false)))] []), (.ifS (.cmp .ne (.var 7) (.bi .all (.comp [13, 11, 12] (.and (.call "at_most" [(.var 11), (.var 13)]) (.cmp .ge (.ix (.call "less" [(.var 12), (.var 13)]) (.cst (.int 0))) (.cst (.int 0)))) (.tup [(.var 13), (.tup [(.var 11), (.var 12)])]) (.zip2 (.var 6) (.var 2)) none))) [(.ret (.cst (.bool false)))] []), (.asg (.var 8) (.lst false [(.bin .add (.var 6) (.tup [(.tup [(.cst (.int 0)), (.cst (.int 1))])])), (.slc (.var 6) none (some (.neg (.cst (.int 1))))), (.bi .list (.var 6)), (.tup [(.var 6)]), (.bin .add (.slc (.var 6) none (some (.neg (.cst (.int 1))))) (.tup [(.cst (.int 1))])), (.bin .add (.slc (.var 6) none (some (.neg (.cst (.int 1))))) (.tup [(.tup [(.cst (.int 2)), (.cst (.int 4))])]))])), (.ifS (.bi .any (.comp [10] (.cmp .isn (.call "is_inside" [(.var 2), (.var 10)]) (.cst (.bool false))) (.var 10) (.of (.var 8)) none)) [(.ret (.cst (.bool false)))] [])]), (.asg (.var 4) (.bi .tuple (.comp [11, 12] (.tup [(.var 12), (.var 11)]) (.tup [(.var 11), (.var 12)]) (.of (.var 2)) none))), (.asg (.var 5) (.bi .all (.comp [11, 12] (.cmp .eq (.var 11) (.var 12)) (.tup [(.var 11), (.var 12)]) (.of (.var 2)) none))), (.ifS (.not (.call "_law_is" [(.lst false [(.call "is_box" [(.var 4)]), (.call "is_box" [(.bi .list (.var 2))]), (.call "is_box" [(.bin .add (.bin .add (.bin .add (.var 2) (.var 2)) (.var 2)) (.var 2))])]), (.lst false [(.var 5), (.cst (.bool false)), (.cst (.bool false))])])) [(.ret (.cst (.bool false)))] []), (.ret (.and (.cmp .is (.call "is_point" [(.bi .tuple (.comp [11, 12] (.var 11) (.tup [(.var 11), (.var 12)]) (.of (.var 2)) none))]) (.cst (.bool true))) (.cmp .is (.call "is_inside" [(.var 2), (.var 2)]) (.cst (.bool false)))))] }
/-- law: script, hand, turn -/
def f_law : Df := { np := 1, ns := 3, cl := true, body := [(.asg (.var 1) (.call "_law_hand" [(.var 0)])), (.ret (.bi .all (.comp [2] (.call "_law_right" [(.var 1)]) (.var 2) (.range1 (.cst (.int 3))) none)))] }
def Ds : List Str := ["is_integer", "divisor", "is_fraction", "made", "check_fraction", "raw_less", "raw_at_most", "less", "at_most", "are_fractions", "is_point", "is_range", "is_box", "raw_is_inside", "is_inside", "_law_hand", "_law_draw", "_law_some", "_law_is", "_law_low", "_law_sum", "_law_gap", "_law_product", "_law_is_less", "_law_number", "_law_box", "_law_beside", "_law_right", "law"]
def Dxs : List Str := ["NoBox", "NoFraction"]
def tab : Tab := fun x => [(("is_integer" : Str), f_is_integer), (("divisor" : Str), f_divisor), (("is_fraction" : Str), f_is_fraction), (("made" : Str), f_made), (("check_fraction" : Str), f_check_fraction), (("raw_less" : Str), f_raw_less), (("raw_at_most" : Str), f_raw_at_most), (("less" : Str), f_less), (("at_most" : Str), f_at_most), (("are_fractions" : Str), f_are_fractions), (("is_point" : Str), f_is_point), (("is_range" : Str), f_is_range), (("is_box" : Str), f_is_box), (("raw_is_inside" : Str), f_raw_is_inside), (("is_inside" : Str), f_is_inside), (("_law_hand" : Str), g_law_hand), (("_law_draw" : Str), g_law_draw), (("_law_some" : Str), g_law_some), (("_law_is" : Str), g_law_is), (("_law_low" : Str), g_law_low), (("_law_sum" : Str), g_law_sum), (("_law_gap" : Str), g_law_gap), (("_law_product" : Str), g_law_product), (("_law_is_less" : Str), g_law_is_less), (("_law_number" : Str), g_law_number), (("_law_box" : Str), g_law_box), (("_law_beside" : Str), g_law_beside), (("_law_right" : Str), g_law_right), (("law" : Str), f_law)].lookup x
theorem t_f_is_integer : tab "is_integer" = some f_is_integer := by rfl
theorem t_f_divisor : tab "divisor" = some f_divisor := by rfl
theorem t_f_is_fraction : tab "is_fraction" = some f_is_fraction := by rfl
theorem t_f_made : tab "made" = some f_made := by rfl
theorem t_f_check_fraction : tab "check_fraction" = some f_check_fraction := by rfl
theorem t_f_raw_less : tab "raw_less" = some f_raw_less := by rfl
theorem t_f_raw_at_most : tab "raw_at_most" = some f_raw_at_most := by rfl
theorem t_f_less : tab "less" = some f_less := by rfl
theorem t_f_at_most : tab "at_most" = some f_at_most := by rfl
theorem t_f_are_fractions : tab "are_fractions" = some f_are_fractions := by rfl
theorem t_f_is_point : tab "is_point" = some f_is_point := by rfl
theorem t_f_is_range : tab "is_range" = some f_is_range := by rfl
theorem t_f_is_box : tab "is_box" = some f_is_box := by rfl
theorem t_f_raw_is_inside : tab "raw_is_inside" = some f_raw_is_inside := by rfl
theorem t_f_is_inside : tab "is_inside" = some f_is_inside := by rfl
theorem t_g_law_hand : tab "_law_hand" = some g_law_hand := by rfl
theorem t_g_law_draw : tab "_law_draw" = some g_law_draw := by rfl
theorem t_g_law_some : tab "_law_some" = some g_law_some := by rfl
theorem t_g_law_is : tab "_law_is" = some g_law_is := by rfl
theorem t_g_law_low : tab "_law_low" = some g_law_low := by rfl
theorem t_g_law_sum : tab "_law_sum" = some g_law_sum := by rfl
theorem t_g_law_gap : tab "_law_gap" = some g_law_gap := by rfl
theorem t_g_law_product : tab "_law_product" = some g_law_product := by rfl
theorem t_g_law_is_less : tab "_law_is_less" = some g_law_is_less := by rfl
theorem t_g_law_number : tab "_law_number" = some g_law_number := by rfl
theorem t_g_law_box : tab "_law_box" = some g_law_box := by rfl
theorem t_g_law_beside : tab "_law_beside" = some g_law_beside := by rfl
theorem t_g_law_right : tab "_law_right" = some g_law_right := by rfl
theorem t_f_law : tab "law" = some f_law := by rfl
def gls : Gls := fun x => [(("MOST_AMOUNTS" : Str), PV.d (.int 3))].lookup x
theorem v_MOST_AMOUNTS : gls "MOST_AMOUNTS" = some (.d (.int 3)) := by rfl
abbrev stm (i : Nat) : Stmt := PySem.Challenge.pw_nocliff_k03_whole_points_and_boxes.main.body.getD i (.Pass ⟨0, 0, 0, 0⟩)
theorem c_f_is_integer : chkDef Ds Dxs "is_integer" f_is_integer ["thing"] ["thing"] (stm 5) = true := by decide +kernel
theorem c_f_divisor : chkDef Ds Dxs "divisor" f_divisor ["x", "y"] ["x", "y"] (stm 6) = true := by decide +kernel
theorem c_f_is_fraction : chkDef Ds Dxs "is_fraction" f_is_fraction ["thing"] ["thing"] (stm 7) = true := by decide +kernel
theorem c_f_made : chkDef Ds Dxs "made" f_made ["top", "bottom", "by"] ["top", "bottom"] (stm 8) = true := by decide +kernel
theorem c_f_check_fraction : chkDef Ds Dxs "check_fraction" f_check_fraction ["thing"] ["thing"] (stm 9) = true := by decide +kernel
theorem c_f_raw_less : chkDef Ds Dxs "raw_less" f_raw_less ["x", "y"] ["x", "y"] (stm 10) = true := by decide +kernel
theorem c_f_raw_at_most : chkDef Ds Dxs "raw_at_most" f_raw_at_most ["x", "y"] ["x", "y"] (stm 11) = true := by decide +kernel
theorem c_f_less : chkDef Ds Dxs "less" f_less ["x", "y"] ["x", "y"] (stm 12) = true := by decide +kernel
theorem c_f_at_most : chkDef Ds Dxs "at_most" f_at_most ["x", "y"] ["x", "y"] (stm 13) = true := by decide +kernel
theorem c_f_are_fractions : chkDef Ds Dxs "are_fractions" f_are_fractions ["thing", "many", "one"] ["thing", "many"] (stm 16) = true := by decide +kernel
theorem c_f_is_point : chkDef Ds Dxs "is_point" f_is_point ["thing"] ["thing"] (stm 17) = true := by decide +kernel
theorem c_f_is_range : chkDef Ds Dxs "is_range" f_is_range ["thing"] ["thing"] (stm 18) = true := by decide +kernel
theorem c_f_is_box : chkDef Ds Dxs "is_box" f_is_box ["thing", "one"] ["thing"] (stm 19) = true := by decide +kernel
theorem c_f_raw_is_inside : chkDef Ds Dxs "raw_is_inside" f_raw_is_inside ["box", "point", "x", "low", "high"] ["box", "point"] (stm 20) = true := by decide +kernel
theorem c_f_is_inside : chkDef Ds Dxs "is_inside" f_is_inside ["box", "thing"] ["box", "thing"] (stm 21) = true := by decide +kernel
theorem c_g_law_hand : chkDef Ds Dxs "_law_hand" g_law_hand ["script", "cells", "cell"] ["script"] (stm 23) = true := by decide +kernel
theorem c_g_law_draw : chkDef Ds Dxs "_law_draw" g_law_draw ["hand", "many", "number", "cell", "digit"] ["hand", "many"] (stm 24) = true := by decide +kernel
theorem c_g_law_some : chkDef Ds Dxs "_law_some" g_law_some ["hand", "things"] ["hand", "things"] (stm 25) = true := by decide +kernel
theorem c_g_law_is : chkDef Ds Dxs "_law_is" g_law_is ["mine", "yours"] ["mine", "yours"] (stm 26) = true := by decide +kernel
theorem c_g_law_low : chkDef Ds Dxs "_law_low" g_law_low ["top", "bottom", "one", "other"] ["top", "bottom"] (stm 27) = true := by decide +kernel
theorem c_g_law_sum : chkDef Ds Dxs "_law_sum" g_law_sum ["one", "other"] ["one", "other"] (stm 28) = true := by decide +kernel
theorem c_g_law_gap : chkDef Ds Dxs "_law_gap" g_law_gap ["one", "other"] ["one", "other"] (stm 29) = true := by decide +kernel
theorem c_g_law_product : chkDef Ds Dxs "_law_product" g_law_product ["one", "other"] ["one", "other"] (stm 30) = true := by decide +kernel
theorem c_g_law_is_less : chkDef Ds Dxs "_law_is_less" g_law_is_less ["one", "other"] ["one", "other"] (stm 31) = true := by decide +kernel
theorem c_g_law_number : chkDef Ds Dxs "_law_number" g_law_number ["hand"] ["hand"] (stm 32) = true := by decide +kernel
theorem c_g_law_box : chkDef Ds Dxs "_law_box" g_law_box ["hand", "many", "found", "place", "low"] ["hand", "many"] (stm 41) = true := by decide +kernel
theorem c_g_law_beside : chkDef Ds Dxs "_law_beside" g_law_beside ["hand", "pair", "some", "low", "high"] ["hand", "pair"] (stm 42) = true := by decide +kernel
theorem c_g_law_right : chkDef Ds Dxs "_law_right" g_law_right ["hand", "many", "box", "turn", "backward", "is_thin", "point", "due", "others", "pair", "one", "low", "high", "x"] ["hand"] (stm 43) = true := by decide +kernel
theorem c_f_law : chkDef Ds Dxs "law" f_law ["script", "hand", "turn"] ["script"] (stm 44) = true := by decide +kernel
theorem module_is {K : PySem.W.Frag} {h : Heap} {mg : Str → Option Value} (X : K.In h) (N : h.Ns mainGlobals mg) {f0 f1 f2 f3 f4 f5 f6 f7 f8 f9 f10 f11 f12 f13 f14 f15 f16 f17 f18 f19 f20 f21 f22 f23 f24 f25 f26 f27 f28 : Addr} {od0 an0 od1 an1 od2 an2 od3 an3 od4 an4 od5 an5 od6 an6 od7 an7 od8 an8 od9 an9 od10 an10 od11 an11 od12 an12 od13 an13 od14 an14 od15 an15 od16 an16 od17 an17 od18 an18 od19 an19 od20 an20 od21 an21 od22 an22 od23 an23 od24 an24 od25 an25 od26 an26 od27 an27 od28 an28 : Option Addr} {sl0 sl1 sl2 sl3 sl4 sl5 sl6 sl7 sl8 sl9 sl10 sl11 sl12 sl13 sl14 sl15 sl16 sl17 sl18 sl19 sl20 sl21 sl22 sl23 sl24 sl25 sl26 sl27 sl28 : Array (Option Value)} {oc0 kV0 dc0 pm0 cd0 ct0 oc1 kV1 dc1 pm1 cd1 ct1 oc2 kV2 dc2 pm2 cd2 ct2 oc3 kV3 dc3 pm3 cd3 ct3 oc4 kV4 dc4 pm4 cd4 ct4 oc5 kV5 dc5 pm5 cd5 ct5 oc6 kV6 dc6 pm6 cd6 ct6 oc7 kV7 dc7 pm7 cd7 ct7 oc8 kV8 dc8 pm8 cd8 ct8 oc9 kV9 dc9 pm9 cd9 ct9 oc10 kV10 dc10 pm10 cd10 ct10 oc11 kV11 dc11 pm11 cd11 ct11 oc12 kV12 dc12 pm12 cd12 ct12 oc13 kV13 dc13 pm13 cd13 ct13 oc14 kV14 dc14 pm14 cd14 ct14 oc15 kV15 dc15 pm15 cd15 ct15 oc16 kV16 dc16 pm16 cd16 ct16 oc17 kV17 dc17 pm17 cd17 ct17 oc18 kV18 dc18 pm18 cd18 ct18 oc19 kV19 dc19 pm19 cd19 ct19 oc20 kV20 dc20 pm20 cd20 ct20 oc21 kV21 dc21 pm21 cd21 ct21 oc22 kV22 dc22 pm22 cd22 ct22 oc23 kV23 dc23 pm23 cd23 ct23 oc24 kV24 dc24 pm24 cd24 ct24 oc25 kV25 dc25 pm25 cd25 ct25 oc26 kV26 dc26 pm26 cd26 ct26 oc27 kV27 dc27 pm27 cd27 ct27 oc28 kV28 dc28 pm28 cd28 ct28 : Value} {e0 e1 : Addr} {y0 : Nat}
    (a0 : PySem.W.nsIn K mainGlobals "is_integer" = some (some (.ref f0))) (l0 : K.lookup f0 = some ⟨oc0, od0, .func (PySem.W.fnOf "is_integer" "is_integer" (defArgs (stm 5)) (defBody (stm 5)) (defScope (stm 5)) .none kV0 dc0 pm0 an0 cd0 ct0), sl0⟩) (d0 : PySem.W.codeIn K cd0 "is_integer" = true) (k0 : PySem.W.keepIn K (.ref f0) = true)
    (a1 : PySem.W.nsIn K mainGlobals "divisor" = some (some (.ref f1))) (l1 : K.lookup f1 = some ⟨oc1, od1, .func (PySem.W.fnOf "divisor" "divisor" (defArgs (stm 6)) (defBody (stm 6)) (defScope (stm 6)) .none kV1 dc1 pm1 an1 cd1 ct1), sl1⟩) (d1 : PySem.W.codeIn K cd1 "divisor" = true) (k1 : PySem.W.keepIn K (.ref f1) = true)
    (a2 : PySem.W.nsIn K mainGlobals "is_fraction" = some (some (.ref f2))) (l2 : K.lookup f2 = some ⟨oc2, od2, .func (PySem.W.fnOf "is_fraction" "is_fraction" (defArgs (stm 7)) (defBody (stm 7)) (defScope (stm 7)) .none kV2 dc2 pm2 an2 cd2 ct2), sl2⟩) (d2 : PySem.W.codeIn K cd2 "is_fraction" = true) (k2 : PySem.W.keepIn K (.ref f2) = true)
    (a3 : PySem.W.nsIn K mainGlobals "made" = some (some (.ref f3))) (l3 : K.lookup f3 = some ⟨oc3, od3, .func (PySem.W.fnOf "made" "made" (defArgs (stm 8)) (defBody (stm 8)) (defScope (stm 8)) .none kV3 dc3 pm3 an3 cd3 ct3), sl3⟩) (d3 : PySem.W.codeIn K cd3 "made" = true) (k3 : PySem.W.keepIn K (.ref f3) = true)
    (a4 : PySem.W.nsIn K mainGlobals "check_fraction" = some (some (.ref f4))) (l4 : K.lookup f4 = some ⟨oc4, od4, .func (PySem.W.fnOf "check_fraction" "check_fraction" (defArgs (stm 9)) (defBody (stm 9)) (defScope (stm 9)) .none kV4 dc4 pm4 an4 cd4 ct4), sl4⟩) (d4 : PySem.W.codeIn K cd4 "check_fraction" = true) (k4 : PySem.W.keepIn K (.ref f4) = true)
    (a5 : PySem.W.nsIn K mainGlobals "raw_less" = some (some (.ref f5))) (l5 : K.lookup f5 = some ⟨oc5, od5, .func (PySem.W.fnOf "raw_less" "raw_less" (defArgs (stm 10)) (defBody (stm 10)) (defScope (stm 10)) .none kV5 dc5 pm5 an5 cd5 ct5), sl5⟩) (d5 : PySem.W.codeIn K cd5 "raw_less" = true) (k5 : PySem.W.keepIn K (.ref f5) = true)
    (a6 : PySem.W.nsIn K mainGlobals "raw_at_most" = some (some (.ref f6))) (l6 : K.lookup f6 = some ⟨oc6, od6, .func (PySem.W.fnOf "raw_at_most" "raw_at_most" (defArgs (stm 11)) (defBody (stm 11)) (defScope (stm 11)) .none kV6 dc6 pm6 an6 cd6 ct6), sl6⟩) (d6 : PySem.W.codeIn K cd6 "raw_at_most" = true) (k6 : PySem.W.keepIn K (.ref f6) = true)
    (a7 : PySem.W.nsIn K mainGlobals "less" = some (some (.ref f7))) (l7 : K.lookup f7 = some ⟨oc7, od7, .func (PySem.W.fnOf "less" "less" (defArgs (stm 12)) (defBody (stm 12)) (defScope (stm 12)) .none kV7 dc7 pm7 an7 cd7 ct7), sl7⟩) (d7 : PySem.W.codeIn K cd7 "less" = true) (k7 : PySem.W.keepIn K (.ref f7) = true)
    (a8 : PySem.W.nsIn K mainGlobals "at_most" = some (some (.ref f8))) (l8 : K.lookup f8 = some ⟨oc8, od8, .func (PySem.W.fnOf "at_most" "at_most" (defArgs (stm 13)) (defBody (stm 13)) (defScope (stm 13)) .none kV8 dc8 pm8 an8 cd8 ct8), sl8⟩) (d8 : PySem.W.codeIn K cd8 "at_most" = true) (k8 : PySem.W.keepIn K (.ref f8) = true)
    (a9 : PySem.W.nsIn K mainGlobals "are_fractions" = some (some (.ref f9))) (l9 : K.lookup f9 = some ⟨oc9, od9, .func (PySem.W.fnOf "are_fractions" "are_fractions" (defArgs (stm 16)) (defBody (stm 16)) (defScope (stm 16)) .none kV9 dc9 pm9 an9 cd9 ct9), sl9⟩) (d9 : PySem.W.codeIn K cd9 "are_fractions" = true) (k9 : PySem.W.keepIn K (.ref f9) = true)
    (a10 : PySem.W.nsIn K mainGlobals "is_point" = some (some (.ref f10))) (l10 : K.lookup f10 = some ⟨oc10, od10, .func (PySem.W.fnOf "is_point" "is_point" (defArgs (stm 17)) (defBody (stm 17)) (defScope (stm 17)) .none kV10 dc10 pm10 an10 cd10 ct10), sl10⟩) (d10 : PySem.W.codeIn K cd10 "is_point" = true) (k10 : PySem.W.keepIn K (.ref f10) = true)
    (a11 : PySem.W.nsIn K mainGlobals "is_range" = some (some (.ref f11))) (l11 : K.lookup f11 = some ⟨oc11, od11, .func (PySem.W.fnOf "is_range" "is_range" (defArgs (stm 18)) (defBody (stm 18)) (defScope (stm 18)) .none kV11 dc11 pm11 an11 cd11 ct11), sl11⟩) (d11 : PySem.W.codeIn K cd11 "is_range" = true) (k11 : PySem.W.keepIn K (.ref f11) = true)
    (a12 : PySem.W.nsIn K mainGlobals "is_box" = some (some (.ref f12))) (l12 : K.lookup f12 = some ⟨oc12, od12, .func (PySem.W.fnOf "is_box" "is_box" (defArgs (stm 19)) (defBody (stm 19)) (defScope (stm 19)) .none kV12 dc12 pm12 an12 cd12 ct12), sl12⟩) (d12 : PySem.W.codeIn K cd12 "is_box" = true) (k12 : PySem.W.keepIn K (.ref f12) = true)
    (a13 : PySem.W.nsIn K mainGlobals "raw_is_inside" = some (some (.ref f13))) (l13 : K.lookup f13 = some ⟨oc13, od13, .func (PySem.W.fnOf "raw_is_inside" "raw_is_inside" (defArgs (stm 20)) (defBody (stm 20)) (defScope (stm 20)) .none kV13 dc13 pm13 an13 cd13 ct13), sl13⟩) (d13 : PySem.W.codeIn K cd13 "raw_is_inside" = true) (k13 : PySem.W.keepIn K (.ref f13) = true)
    (a14 : PySem.W.nsIn K mainGlobals "is_inside" = some (some (.ref f14))) (l14 : K.lookup f14 = some ⟨oc14, od14, .func (PySem.W.fnOf "is_inside" "is_inside" (defArgs (stm 21)) (defBody (stm 21)) (defScope (stm 21)) .none kV14 dc14 pm14 an14 cd14 ct14), sl14⟩) (d14 : PySem.W.codeIn K cd14 "is_inside" = true) (k14 : PySem.W.keepIn K (.ref f14) = true)
    (a15 : PySem.W.nsIn K mainGlobals "_law_hand" = some (some (.ref f15))) (l15 : K.lookup f15 = some ⟨oc15, od15, .func (PySem.W.fnOf "_law_hand" "_law_hand" (defArgs (stm 23)) (defBody (stm 23)) (defScope (stm 23)) .none kV15 dc15 pm15 an15 cd15 ct15), sl15⟩) (d15 : PySem.W.codeIn K cd15 "_law_hand" = true) (k15 : PySem.W.keepIn K (.ref f15) = true)
    (a16 : PySem.W.nsIn K mainGlobals "_law_draw" = some (some (.ref f16))) (l16 : K.lookup f16 = some ⟨oc16, od16, .func (PySem.W.fnOf "_law_draw" "_law_draw" (defArgs (stm 24)) (defBody (stm 24)) (defScope (stm 24)) .none kV16 dc16 pm16 an16 cd16 ct16), sl16⟩) (d16 : PySem.W.codeIn K cd16 "_law_draw" = true) (k16 : PySem.W.keepIn K (.ref f16) = true)
    (a17 : PySem.W.nsIn K mainGlobals "_law_some" = some (some (.ref f17))) (l17 : K.lookup f17 = some ⟨oc17, od17, .func (PySem.W.fnOf "_law_some" "_law_some" (defArgs (stm 25)) (defBody (stm 25)) (defScope (stm 25)) .none kV17 dc17 pm17 an17 cd17 ct17), sl17⟩) (d17 : PySem.W.codeIn K cd17 "_law_some" = true) (k17 : PySem.W.keepIn K (.ref f17) = true)
    (a18 : PySem.W.nsIn K mainGlobals "_law_is" = some (some (.ref f18))) (l18 : K.lookup f18 = some ⟨oc18, od18, .func (PySem.W.fnOf "_law_is" "_law_is" (defArgs (stm 26)) (defBody (stm 26)) (defScope (stm 26)) .none kV18 dc18 pm18 an18 cd18 ct18), sl18⟩) (d18 : PySem.W.codeIn K cd18 "_law_is" = true) (k18 : PySem.W.keepIn K (.ref f18) = true)
    (a19 : PySem.W.nsIn K mainGlobals "_law_low" = some (some (.ref f19))) (l19 : K.lookup f19 = some ⟨oc19, od19, .func (PySem.W.fnOf "_law_low" "_law_low" (defArgs (stm 27)) (defBody (stm 27)) (defScope (stm 27)) .none kV19 dc19 pm19 an19 cd19 ct19), sl19⟩) (d19 : PySem.W.codeIn K cd19 "_law_low" = true) (k19 : PySem.W.keepIn K (.ref f19) = true)
    (a20 : PySem.W.nsIn K mainGlobals "_law_sum" = some (some (.ref f20))) (l20 : K.lookup f20 = some ⟨oc20, od20, .func (PySem.W.fnOf "_law_sum" "_law_sum" (defArgs (stm 28)) (defBody (stm 28)) (defScope (stm 28)) .none kV20 dc20 pm20 an20 cd20 ct20), sl20⟩) (d20 : PySem.W.codeIn K cd20 "_law_sum" = true) (k20 : PySem.W.keepIn K (.ref f20) = true)
    (a21 : PySem.W.nsIn K mainGlobals "_law_gap" = some (some (.ref f21))) (l21 : K.lookup f21 = some ⟨oc21, od21, .func (PySem.W.fnOf "_law_gap" "_law_gap" (defArgs (stm 29)) (defBody (stm 29)) (defScope (stm 29)) .none kV21 dc21 pm21 an21 cd21 ct21), sl21⟩) (d21 : PySem.W.codeIn K cd21 "_law_gap" = true) (k21 : PySem.W.keepIn K (.ref f21) = true)
    (a22 : PySem.W.nsIn K mainGlobals "_law_product" = some (some (.ref f22))) (l22 : K.lookup f22 = some ⟨oc22, od22, .func (PySem.W.fnOf "_law_product" "_law_product" (defArgs (stm 30)) (defBody (stm 30)) (defScope (stm 30)) .none kV22 dc22 pm22 an22 cd22 ct22), sl22⟩) (d22 : PySem.W.codeIn K cd22 "_law_product" = true) (k22 : PySem.W.keepIn K (.ref f22) = true)
    (a23 : PySem.W.nsIn K mainGlobals "_law_is_less" = some (some (.ref f23))) (l23 : K.lookup f23 = some ⟨oc23, od23, .func (PySem.W.fnOf "_law_is_less" "_law_is_less" (defArgs (stm 31)) (defBody (stm 31)) (defScope (stm 31)) .none kV23 dc23 pm23 an23 cd23 ct23), sl23⟩) (d23 : PySem.W.codeIn K cd23 "_law_is_less" = true) (k23 : PySem.W.keepIn K (.ref f23) = true)
    (a24 : PySem.W.nsIn K mainGlobals "_law_number" = some (some (.ref f24))) (l24 : K.lookup f24 = some ⟨oc24, od24, .func (PySem.W.fnOf "_law_number" "_law_number" (defArgs (stm 32)) (defBody (stm 32)) (defScope (stm 32)) .none kV24 dc24 pm24 an24 cd24 ct24), sl24⟩) (d24 : PySem.W.codeIn K cd24 "_law_number" = true) (k24 : PySem.W.keepIn K (.ref f24) = true)
    (a25 : PySem.W.nsIn K mainGlobals "_law_box" = some (some (.ref f25))) (l25 : K.lookup f25 = some ⟨oc25, od25, .func (PySem.W.fnOf "_law_box" "_law_box" (defArgs (stm 41)) (defBody (stm 41)) (defScope (stm 41)) .none kV25 dc25 pm25 an25 cd25 ct25), sl25⟩) (d25 : PySem.W.codeIn K cd25 "_law_box" = true) (k25 : PySem.W.keepIn K (.ref f25) = true)
    (a26 : PySem.W.nsIn K mainGlobals "_law_beside" = some (some (.ref f26))) (l26 : K.lookup f26 = some ⟨oc26, od26, .func (PySem.W.fnOf "_law_beside" "_law_beside" (defArgs (stm 42)) (defBody (stm 42)) (defScope (stm 42)) .none kV26 dc26 pm26 an26 cd26 ct26), sl26⟩) (d26 : PySem.W.codeIn K cd26 "_law_beside" = true) (k26 : PySem.W.keepIn K (.ref f26) = true)
    (a27 : PySem.W.nsIn K mainGlobals "_law_right" = some (some (.ref f27))) (l27 : K.lookup f27 = some ⟨oc27, od27, .func (PySem.W.fnOf "_law_right" "_law_right" (defArgs (stm 43)) (defBody (stm 43)) (defScope (stm 43)) .none kV27 dc27 pm27 an27 cd27 ct27), sl27⟩) (d27 : PySem.W.codeIn K cd27 "_law_right" = true) (k27 : PySem.W.keepIn K (.ref f27) = true)
    (a28 : PySem.W.nsIn K mainGlobals "law" = some (some (.ref f28))) (l28 : K.lookup f28 = some ⟨oc28, od28, .func (PySem.W.fnOf "law" "law" (defArgs (stm 44)) (defBody (stm 44)) (defScope (stm 44)) .none kV28 dc28 pm28 an28 cd28 ct28), sl28⟩) (d28 : PySem.W.codeIn K cd28 "law" = true) (k28 : PySem.W.keepIn K (.ref f28) = true)
    (b0 : PySem.W.nsIn K mainGlobals "abs" = some none)
    (b1 : PySem.W.nsIn K mainGlobals "len" = some none)
    (b2 : PySem.W.nsIn K mainGlobals "int" = some none)
    (b3 : PySem.W.nsIn K mainGlobals "repr" = some none)
    (b4 : PySem.W.nsIn K mainGlobals "all" = some none)
    (b5 : PySem.W.nsIn K mainGlobals "any" = some none)
    (b6 : PySem.W.nsIn K mainGlobals "tuple" = some none)
    (b7 : PySem.W.nsIn K mainGlobals "list" = some none)
    (b8 : PySem.W.nsIn K mainGlobals "range" = some none)
    (b9 : PySem.W.nsIn K mainGlobals "zip" = some none)
    (b10 : PySem.W.nsIn K mainGlobals "enumerate" = some none)
    (b11 : PySem.W.nsIn K mainGlobals "isinstance" = some none)
    (b12 : PySem.W.nsIn K mainGlobals "bool" = some none)
    (b13 : PySem.W.nsIn K mainGlobals "str" = some none)
    (b14 : PySem.W.nsIn K mainGlobals "dict" = some none)
    (x0 : PySem.W.nsIn K mainGlobals "NoBox" = some (some (.ref e0))) (xe0 : PySem.W.excIn K e0 [.type "ValueError", .type "Exception", .type "BaseException", .type "object"] "ValueError.__new__" = true) (xk0 : PySem.W.keepIn K (.ref e0) = true) (xs0 : PySem.W.subIn K (.ref e0) (.type "BaseException") = some true) (xt0 : PySem.W.typeIn K (.ref e0) = some (.type "type"))
    (x1 : PySem.W.nsIn K mainGlobals "NoFraction" = some (some (.ref e1))) (xe1 : PySem.W.excIn K e1 [.type "ValueError", .type "Exception", .type "BaseException", .type "object"] "ValueError.__new__" = true) (xk1 : PySem.W.keepIn K (.ref e1) = true) (xs1 : PySem.W.subIn K (.ref e1) (.type "BaseException") = some true) (xt1 : PySem.W.typeIn K (.ref e1) = some (.type "type"))
    (gi0 : PySem.W.nsIn K mainGlobals "MOST_AMOUNTS" = some (some (.int 3 y0)))
    : MdF K mg Ds Dxs gls tab := by
  refine ⟨fun x hx => ?_, fun x v hx => ?_, fun x hx => ?_, fun x hx => ?_⟩
  · simp only [blts, List.mem_cons, List.not_mem_nil, or_false] at hx
    rcases hx with rfl | rfl | rfl | rfl | rfl | rfl | rfl | rfl | rfl | rfl | rfl | rfl | rfl | rfl | rfl
    · exact PySem.W.mg_none_of X N b0
    · exact PySem.W.mg_none_of X N b1
    · exact PySem.W.mg_none_of X N b2
    · exact PySem.W.mg_none_of X N b3
    · exact PySem.W.mg_none_of X N b4
    · exact PySem.W.mg_none_of X N b5
    · exact PySem.W.mg_none_of X N b6
    · exact PySem.W.mg_none_of X N b7
    · exact PySem.W.mg_none_of X N b8
    · exact PySem.W.mg_none_of X N b9
    · exact PySem.W.mg_none_of X N b10
    · exact PySem.W.mg_none_of X N b11
    · exact PySem.W.mg_none_of X N b12
    · exact PySem.W.mg_none_of X N b13
    · exact PySem.W.mg_none_of X N b14
  · have hm := lookup_mem hx
    simp only [List.mem_cons, List.not_mem_nil, or_false, Prod.mk.injEq] at hm
    rcases hm with ⟨rfl, rfl⟩
    · exact ⟨_, .int 3, PySem.W.mg_of X N gi0, ⟨_, rfl⟩, fun _ _ _ => .d (.int _)⟩
  · simp only [Dxs, List.mem_cons, List.not_mem_nil, or_false] at hx
    rcases hx with rfl | rfl
    · exact ⟨e0, _, _, _, _, PySem.F.excBase_ValueError, xe0, PySem.W.mg_of X N x0, xk0, xs0, xt0⟩
    · exact ⟨e1, _, _, _, _, PySem.F.excBase_ValueError, xe1, PySem.W.mg_of X N x1, xk1, xs1, xt1⟩
  · simp only [Ds, List.mem_cons, List.not_mem_nil, or_false] at hx
    rcases hx with rfl | rfl | rfl | rfl | rfl | rfl | rfl | rfl | rfl | rfl | rfl | rfl | rfl | rfl | rfl | rfl | rfl | rfl | rfl | rfl | rfl | rfl | rfl | rfl | rfl | rfl | rfl | rfl | rfl
    · have F := fun_mk (st := stm 5) l0 d0 k0
      exact ⟨f0, _, ["thing"], stm 5, "is_integer", ["thing"], f_is_integer, PySem.W.mg_of X N a0, k0, F.binds fun _ _ _ _ _ _ us hl => match us, hl with | [_], _ => rfl, F, t_f_is_integer, c_f_is_integer⟩
    · have F := fun_mk (st := stm 6) l1 d1 k1
      exact ⟨f1, _, ["x", "y"], stm 6, "divisor", ["x", "y"], f_divisor, PySem.W.mg_of X N a1, k1, F.binds fun _ _ _ _ _ _ us hl => match us, hl with | [_, _], _ => rfl, F, t_f_divisor, c_f_divisor⟩
    · have F := fun_mk (st := stm 7) l2 d2 k2
      exact ⟨f2, _, ["thing"], stm 7, "is_fraction", ["thing"], f_is_fraction, PySem.W.mg_of X N a2, k2, F.binds fun _ _ _ _ _ _ us hl => match us, hl with | [_], _ => rfl, F, t_f_is_fraction, c_f_is_fraction⟩
    · have F := fun_mk (st := stm 8) l3 d3 k3
      exact ⟨f3, _, ["top", "bottom"], stm 8, "made", ["top", "bottom", "by"], f_made, PySem.W.mg_of X N a3, k3, F.binds fun _ _ _ _ _ _ us hl => match us, hl with | [_, _], _ => rfl, F, t_f_made, c_f_made⟩
    · have F := fun_mk (st := stm 9) l4 d4 k4
      exact ⟨f4, _, ["thing"], stm 9, "check_fraction", ["thing"], f_check_fraction, PySem.W.mg_of X N a4, k4, F.binds fun _ _ _ _ _ _ us hl => match us, hl with | [_], _ => rfl, F, t_f_check_fraction, c_f_check_fraction⟩
    · have F := fun_mk (st := stm 10) l5 d5 k5
      exact ⟨f5, _, ["x", "y"], stm 10, "raw_less", ["x", "y"], f_raw_less, PySem.W.mg_of X N a5, k5, F.binds fun _ _ _ _ _ _ us hl => match us, hl with | [_, _], _ => rfl, F, t_f_raw_less, c_f_raw_less⟩
    · have F := fun_mk (st := stm 11) l6 d6 k6
      exact ⟨f6, _, ["x", "y"], stm 11, "raw_at_most", ["x", "y"], f_raw_at_most, PySem.W.mg_of X N a6, k6, F.binds fun _ _ _ _ _ _ us hl => match us, hl with | [_, _], _ => rfl, F, t_f_raw_at_most, c_f_raw_at_most⟩
    · have F := fun_mk (st := stm 12) l7 d7 k7
      exact ⟨f7, _, ["x", "y"], stm 12, "less", ["x", "y"], f_less, PySem.W.mg_of X N a7, k7, F.binds fun _ _ _ _ _ _ us hl => match us, hl with | [_, _], _ => rfl, F, t_f_less, c_f_less⟩
    · have F := fun_mk (st := stm 13) l8 d8 k8
      exact ⟨f8, _, ["x", "y"], stm 13, "at_most", ["x", "y"], f_at_most, PySem.W.mg_of X N a8, k8, F.binds fun _ _ _ _ _ _ us hl => match us, hl with | [_, _], _ => rfl, F, t_f_at_most, c_f_at_most⟩
    · have F := fun_mk (st := stm 16) l9 d9 k9
      exact ⟨f9, _, ["thing", "many"], stm 16, "are_fractions", ["thing", "many", "one"], f_are_fractions, PySem.W.mg_of X N a9, k9, F.binds fun _ _ _ _ _ _ us hl => match us, hl with | [_, _], _ => rfl, F, t_f_are_fractions, c_f_are_fractions⟩
    · have F := fun_mk (st := stm 17) l10 d10 k10
      exact ⟨f10, _, ["thing"], stm 17, "is_point", ["thing"], f_is_point, PySem.W.mg_of X N a10, k10, F.binds fun _ _ _ _ _ _ us hl => match us, hl with | [_], _ => rfl, F, t_f_is_point, c_f_is_point⟩
    · have F := fun_mk (st := stm 18) l11 d11 k11
      exact ⟨f11, _, ["thing"], stm 18, "is_range", ["thing"], f_is_range, PySem.W.mg_of X N a11, k11, F.binds fun _ _ _ _ _ _ us hl => match us, hl with | [_], _ => rfl, F, t_f_is_range, c_f_is_range⟩
    · have F := fun_mk (st := stm 19) l12 d12 k12
      exact ⟨f12, _, ["thing"], stm 19, "is_box", ["thing", "one"], f_is_box, PySem.W.mg_of X N a12, k12, F.binds fun _ _ _ _ _ _ us hl => match us, hl with | [_], _ => rfl, F, t_f_is_box, c_f_is_box⟩
    · have F := fun_mk (st := stm 20) l13 d13 k13
      exact ⟨f13, _, ["box", "point"], stm 20, "raw_is_inside", ["box", "point", "x", "low", "high"], f_raw_is_inside, PySem.W.mg_of X N a13, k13, F.binds fun _ _ _ _ _ _ us hl => match us, hl with | [_, _], _ => rfl, F, t_f_raw_is_inside, c_f_raw_is_inside⟩
    · have F := fun_mk (st := stm 21) l14 d14 k14
      exact ⟨f14, _, ["box", "thing"], stm 21, "is_inside", ["box", "thing"], f_is_inside, PySem.W.mg_of X N a14, k14, F.binds fun _ _ _ _ _ _ us hl => match us, hl with | [_, _], _ => rfl, F, t_f_is_inside, c_f_is_inside⟩
    · have F := fun_mk (st := stm 23) l15 d15 k15
      exact ⟨f15, _, ["script"], stm 23, "_law_hand", ["script", "cells", "cell"], g_law_hand, PySem.W.mg_of X N a15, k15, F.binds fun _ _ _ _ _ _ us hl => match us, hl with | [_], _ => rfl, F, t_g_law_hand, c_g_law_hand⟩
    · have F := fun_mk (st := stm 24) l16 d16 k16
      exact ⟨f16, _, ["hand", "many"], stm 24, "_law_draw", ["hand", "many", "number", "cell", "digit"], g_law_draw, PySem.W.mg_of X N a16, k16, F.binds fun _ _ _ _ _ _ us hl => match us, hl with | [_, _], _ => rfl, F, t_g_law_draw, c_g_law_draw⟩
    · have F := fun_mk (st := stm 25) l17 d17 k17
      exact ⟨f17, _, ["hand", "things"], stm 25, "_law_some", ["hand", "things"], g_law_some, PySem.W.mg_of X N a17, k17, F.binds fun _ _ _ _ _ _ us hl => match us, hl with | [_, _], _ => rfl, F, t_g_law_some, c_g_law_some⟩
    · have F := fun_mk (st := stm 26) l18 d18 k18
      exact ⟨f18, _, ["mine", "yours"], stm 26, "_law_is", ["mine", "yours"], g_law_is, PySem.W.mg_of X N a18, k18, F.binds fun _ _ _ _ _ _ us hl => match us, hl with | [_, _], _ => rfl, F, t_g_law_is, c_g_law_is⟩
    · have F := fun_mk (st := stm 27) l19 d19 k19
      exact ⟨f19, _, ["top", "bottom"], stm 27, "_law_low", ["top", "bottom", "one", "other"], g_law_low, PySem.W.mg_of X N a19, k19, F.binds fun _ _ _ _ _ _ us hl => match us, hl with | [_, _], _ => rfl, F, t_g_law_low, c_g_law_low⟩
    · have F := fun_mk (st := stm 28) l20 d20 k20
      exact ⟨f20, _, ["one", "other"], stm 28, "_law_sum", ["one", "other"], g_law_sum, PySem.W.mg_of X N a20, k20, F.binds fun _ _ _ _ _ _ us hl => match us, hl with | [_, _], _ => rfl, F, t_g_law_sum, c_g_law_sum⟩
    · have F := fun_mk (st := stm 29) l21 d21 k21
      exact ⟨f21, _, ["one", "other"], stm 29, "_law_gap", ["one", "other"], g_law_gap, PySem.W.mg_of X N a21, k21, F.binds fun _ _ _ _ _ _ us hl => match us, hl with | [_, _], _ => rfl, F, t_g_law_gap, c_g_law_gap⟩
    · have F := fun_mk (st := stm 30) l22 d22 k22
      exact ⟨f22, _, ["one", "other"], stm 30, "_law_product", ["one", "other"], g_law_product, PySem.W.mg_of X N a22, k22, F.binds fun _ _ _ _ _ _ us hl => match us, hl with | [_, _], _ => rfl, F, t_g_law_product, c_g_law_product⟩
    · have F := fun_mk (st := stm 31) l23 d23 k23
      exact ⟨f23, _, ["one", "other"], stm 31, "_law_is_less", ["one", "other"], g_law_is_less, PySem.W.mg_of X N a23, k23, F.binds fun _ _ _ _ _ _ us hl => match us, hl with | [_, _], _ => rfl, F, t_g_law_is_less, c_g_law_is_less⟩
    · have F := fun_mk (st := stm 32) l24 d24 k24
      exact ⟨f24, _, ["hand"], stm 32, "_law_number", ["hand"], g_law_number, PySem.W.mg_of X N a24, k24, F.binds fun _ _ _ _ _ _ us hl => match us, hl with | [_], _ => rfl, F, t_g_law_number, c_g_law_number⟩
    · have F := fun_mk (st := stm 41) l25 d25 k25
      exact ⟨f25, _, ["hand", "many"], stm 41, "_law_box", ["hand", "many", "found", "place", "low"], g_law_box, PySem.W.mg_of X N a25, k25, F.binds fun _ _ _ _ _ _ us hl => match us, hl with | [_, _], _ => rfl, F, t_g_law_box, c_g_law_box⟩
    · have F := fun_mk (st := stm 42) l26 d26 k26
      exact ⟨f26, _, ["hand", "pair"], stm 42, "_law_beside", ["hand", "pair", "some", "low", "high"], g_law_beside, PySem.W.mg_of X N a26, k26, F.binds fun _ _ _ _ _ _ us hl => match us, hl with | [_, _], _ => rfl, F, t_g_law_beside, c_g_law_beside⟩
    · have F := fun_mk (st := stm 43) l27 d27 k27
      exact ⟨f27, _, ["hand"], stm 43, "_law_right", ["hand", "many", "box", "turn", "backward", "is_thin", "point", "due", "others", "pair", "one", "low", "high", "x"], g_law_right, PySem.W.mg_of X N a27, k27, F.binds fun _ _ _ _ _ _ us hl => match us, hl with | [_], _ => rfl, F, t_g_law_right, c_g_law_right⟩
    · have F := fun_mk (st := stm 44) l28 d28 k28
      exact ⟨f28, _, ["script"], stm 44, "law", ["script", "hand", "turn"], f_law, PySem.W.mg_of X N a28, k28, F.binds fun _ _ _ _ _ _ us hl => match us, hl with | [_], _ => rfl, F, t_f_law, c_f_law⟩
end NC
namespace NC
open PySem
theorem call_run {k : Nat} {x : Str} {vs : List PV} {h : Hv} {f : Df} (e : tab x = some f) : call gls tab (k + 1) x vs h = run gls (call gls tab k) f vs h := by simp only [call, e]
/-- a clean def that makes no object -/
theorem back_d {h : Hv} {x : PyData} : back true h (.d x) ⟨h.os, h.os.length⟩ = .ok (.d x) h := by
  simp [back]
@[simp] theorem s_is_integer {k : Nat} {i : Int} {h : Hv} : call gls tab (k + 1) "is_integer" [.d (.int i)] h = .ok (.d (.bool true)) h := by
  rw [call_run t_f_is_integer]
  simp [f_is_integer, run, back]
@[simp] theorem gcd_while {C : Fns} {x y : Nat} {h : Hv} : exec gls C (.whileS (.cmp .ne (.var 1) (.cst (.int 0))) [(.par 0 1 (.var 1) (.bin .mod (.bi .int (.var 0)) (.var 1)))]) [some (.d (.int x)), some (.d (.int y))] h = .ok (.nx [some (.d (.int (Nat.gcd x y : Nat))), some (.d (.int 0))]) h := by
  rw [ex_while]
  induction y using Nat.strongRecOn generalizing x with
  | _ y ih =>
    rw [whileL_eq]
    by_cases hy : y = 0
    · subst hy
      simp
    · have e : Int.fmod (x : Int) (y : Int) = ((x % y : Nat) : Int) := by rw [Int.fmod_eq_emod_of_nonneg _ (by omega)]; rfl
      have g : Nat.gcd x y = Nat.gcd y (x % y) := by rw [Nat.gcd_comm x y, Nat.gcd_rec y x, Nat.gcd_comm]
      have := @ih (x % y) (Nat.mod_lt _ (by omega)) y
      rw [g, ← this]
      simp [hy, e]
@[simp] theorem s_divisor {k : Nat} {x y : Nat} {h : Hv} : call gls tab (k + 1) "divisor" [.d (.int x), .d (.int y)] h = .ok (.d (.int (Nat.gcd x y : Nat))) h := by
  rw [call_run t_f_divisor]
  simp [f_divisor, run, back]
theorem s_made {k : Nat} {t b : Int} {h : Hv} (hb : b ≠ 0) (hB : Lt 8000 b) : call gls tab (k + 2) "made" [.d (.int t), .d (.int b)] h = .ok (.d (dq (Rat.divInt t b))) h := by
  rw [call_run t_f_made]
  have d := dvOk_of (sg_lt (t := t) hb hB) (by decide) (sg_ne hb)
  have e1 := low_num (t := t) hb
  have e2 := low_den (t := t) hb
  unfold dq
  rw [← e1, ← e2]
  unfold sg at d ⊢
  by_cases hlt : b < 0
  · rw [if_pos hlt] at d
    simp [f_made, run, back, hlt, d, lnOk]
  · rw [if_neg hlt] at d
    simp [f_made, run, back, hlt, d, lnOk]
@[simp] theorem gcd_abs {a b : Int} : (a.natAbs : Int).natAbs = a.natAbs := by omega
/-- fractions of the text -/
@[simp] theorem s_is_fraction {k : Nat} {q : Rat} {h : Hv} : call gls tab (k + 2) "is_fraction" [.d (dq q)] h = .ok (.d (.bool true)) h := by
  rw [call_run t_f_is_fraction]
  have hp : (0 : Int) < (q.den : Int) := by have := q.den_pos; omega
  have hg : Nat.gcd q.num.natAbs q.den = 1 := q.reduced
  simp [f_is_fraction, run, back, dq, q.den_pos, hg]
theorem s_not_fraction {k : Nat} {t b : Int} {h : Hv} (hn : 0 < b → Nat.gcd t.natAbs b.natAbs ≠ 1) : call gls tab (k + 2) "is_fraction" [.d (.tuple [.int t, .int b])] h = .ok (.d (.bool false)) h := by
  rw [call_run t_f_is_fraction]
  by_cases hb : 0 < b
  · have := hn hb
    obtain ⟨m, rfl⟩ : ∃ m : Nat, b = (m : Int) := ⟨b.toNat, by omega⟩
    have q : ¬ ((Nat.gcd t.natAbs m : Nat) : Int) = 1 := by
      have := hn hb
      simp only [Int.natAbs_natCast] at this
      omega
    simp [f_is_fraction, run, back, hb, q]
  · simp [f_is_fraction, run, back, hb]
@[simp] theorem s_list_fraction {k : Nat} {xs : List PyData} {h : Hv} : call gls tab (k + 1) "is_fraction" [.d (.list xs)] h = .ok (.d (.bool false)) h := by
  rw [call_run t_f_is_fraction]
  simp [f_is_fraction, run, back]
@[simp] theorem s_check {k : Nat} {q : Rat} {h : Hv} : call gls tab (k + 3) "check_fraction" [.d (dq q)] h = .ok (.d .none) h := by
  rw [call_run t_f_check_fraction]
  simp [f_check_fraction, run, back]
theorem s_raw_less {k n : Nat} {q r : Rat} {h : Hv} (a : Sm n q) (b : Sm n r) (hn : n ≤ 3000) : call gls tab (k + 3) "raw_less" [.d (dq q), .d (dq r)] h = .ok (.d (dq (q - r))) h := by
  rw [call_run t_f_raw_less, sub_is]
  have h1 := szOk_of a.1 (by omega); have h2 := szOk_of a.den (by omega); have h3 := szOk_of b.1 (by omega); have h4 := szOk_of b.den (by omega)
  have m := fun t (h : Hv) => s_made (k := k) (t := t) (h := h) (dd_ne q r) ((a.dd b).mono (by omega))
  simp [f_raw_less, run, back]
  simp [dq, h1, h2, h3, h4, m]
theorem s_raw_at_most {k n : Nat} {q r : Rat} {h : Hv} (a : Sm n q) (b : Sm n r) (hn : n ≤ 3000) : call gls tab (k + 1) "raw_at_most" [.d (dq q), .d (dq r)] h = .ok (.d (.bool (decide (q ≤ r)))) h := by
  rw [call_run t_f_raw_at_most]
  have h1 := szOk_of a.1 (by omega); have h2 := szOk_of a.den (by omega); have h3 := szOk_of b.1 (by omega); have h4 := szOk_of b.den (by omega)
  have e : (decide (q ≤ r)) = decide (q.num * r.den ≤ r.num * q.den) := decide_eq_decide.mpr (Rat.le_iff q r)
  rw [e]
  simp [f_raw_at_most, run, back, dq, h1, h2, h3, h4]
theorem s_less {k n : Nat} {q r : Rat} {h : Hv} (a : Sm n q) (b : Sm n r) (hn : n ≤ 3000) : call gls tab (k + 4) "less" [.d (dq q), .d (dq r)] h = .ok (.d (dq (q - r))) h := by
  rw [call_run t_f_less]
  simp [f_less, run, back, s_raw_less a b hn]
theorem s_at_most {k n : Nat} {q r : Rat} {h : Hv} (a : Sm n q) (b : Sm n r) (hn : n ≤ 3000) : call gls tab (k + 4) "at_most" [.d (dq q), .d (dq r)] h = .ok (.d (.bool (decide (q ≤ r)))) h := by
  rw [call_run t_f_at_most]
  simp [f_at_most, run, back, s_raw_at_most a b hn]
/-! ### the law's own fractions -/
@[simp] theorem low_while {C : Fns} {x y : Nat} {e0 e1 : Option PV} {h : Hv} : exec gls C (.whileS (.cmp .gt (.var 3) (.cst (.int 0))) [(.par 2 3 (.var 3) (.bin .mod (.bi .int (.var 2)) (.var 3)))]) [e0, e1, some (.d (.int x)), some (.d (.int y))] h = .ok (.nx [e0, e1, some (.d (.int (Nat.gcd x y : Nat))), some (.d (.int 0))]) h := by
  rw [ex_while]
  induction y using Nat.strongRecOn generalizing x with
  | _ y ih =>
    rw [whileL_eq]
    by_cases hy : y = 0
    · subst hy
      simp
    · have e : Int.fmod (x : Int) (y : Int) = ((x % y : Nat) : Int) := by rw [Int.fmod_eq_emod_of_nonneg _ (by omega)]; rfl
      have g : Nat.gcd x y = Nat.gcd y (x % y) := by rw [Nat.gcd_comm x y, Nat.gcd_rec y x, Nat.gcd_comm]
      have := @ih (x % y) (Nat.mod_lt _ (by omega)) y
      have hy' : 0 < y := by omega
      rw [g, ← this]
      simp [hy, hy', e]
theorem s_low {k : Nat} {t b : Int} {h : Hv} (hb : b ≠ 0) (hB : Lt 8000 b) : call gls tab (k + 1) "_law_low" [.d (.int t), .d (.int b)] h = .ok (.d (dq (Rat.divInt t b))) h := by
  rw [call_run t_g_law_low]
  have d := dvOk_of (sg_lt (t := t) hb hB) (by decide) (sg_ne hb)
  have e1 := low_num (t := t) hb
  have e2 := low_den (t := t) hb
  unfold dq
  rw [← e1, ← e2]
  unfold sg at d ⊢
  by_cases hlt : b < 0
  · have hgt : ¬ 0 < b := by omega
    rw [if_pos hlt] at d
    simp [g_law_low, run, back, hlt, hgt, d, lnOk]
  · have hgt : 0 < b := by omega
    rw [if_neg hlt] at d
    simp [g_law_low, run, back, hlt, hgt, d, lnOk]
theorem s_lsum {k n : Nat} {q r : Rat} {h : Hv} (a : Sm n q) (b : Sm n r) (hn : n ≤ 3000) : call gls tab (k + 2) "_law_sum" [.d (dq q), .d (dq r)] h = .ok (.d (dq (q + r))) h := by
  rw [call_run t_g_law_sum, add_is]
  have h1 := szOk_of a.1 (by omega); have h2 := szOk_of a.den (by omega); have h3 := szOk_of b.1 (by omega); have h4 := szOk_of b.den (by omega)
  have m := fun t (h : Hv) => s_low (k := k) (t := t) (h := h) (dd_ne q r) ((a.dd b).mono (by omega))
  simp [g_law_sum, run, back]
  simp [dq, h1, h2, h3, h4, m]
theorem s_lgap {k n : Nat} {q r : Rat} {h : Hv} (a : Sm n q) (b : Sm n r) (hn : n ≤ 3000) : call gls tab (k + 2) "_law_gap" [.d (dq q), .d (dq r)] h = .ok (.d (dq (q - r))) h := by
  rw [call_run t_g_law_gap, sub_is]
  have h1 := szOk_of a.1 (by omega); have h2 := szOk_of a.den (by omega); have h3 := szOk_of b.1 (by omega); have h4 := szOk_of b.den (by omega)
  have m := fun t (h : Hv) => s_low (k := k) (t := t) (h := h) (dd_ne q r) ((a.dd b).mono (by omega))
  simp [g_law_gap, run, back]
  simp [dq, h1, h2, h3, h4, m]
theorem s_lprod {k n : Nat} {q r : Rat} {h : Hv} (a : Sm n q) (b : Sm n r) (hn : n ≤ 3000) : call gls tab (k + 2) "_law_product" [.d (dq q), .d (dq r)] h = .ok (.d (dq (q * r))) h := by
  rw [call_run t_g_law_product, mul_is]
  have h1 := szOk_of a.1 (by omega); have h2 := szOk_of a.den (by omega); have h3 := szOk_of b.1 (by omega); have h4 := szOk_of b.den (by omega)
  have m := fun t (h : Hv) => s_low (k := k) (t := t) (h := h) (dd_ne q r) ((a.dd b).mono (by omega))
  simp [g_law_product, run, back]
  simp [dq, h1, h2, h3, h4, m]
theorem s_lless {k n : Nat} {q r : Rat} {h : Hv} (a : Sm n q) (b : Sm n r) (hn : n ≤ 3000) : call gls tab (k + 1) "_law_is_less" [.d (dq q), .d (dq r)] h = .ok (.d (.bool (decide (q < r)))) h := by
  rw [call_run t_g_law_is_less]
  have h1 := szOk_of a.1 (by omega); have h2 := szOk_of a.den (by omega); have h3 := szOk_of b.1 (by omega); have h4 := szOk_of b.den (by omega)
  have e : (decide (q < r)) = decide (q.num * r.den < r.num * q.den) := decide_eq_decide.mpr (Rat.lt_iff q r)
  rw [e]
  simp [g_law_is_less, run, back, dq, h1, h2, h3, h4]
theorem s_is {k n d : Nat} {x : PyData} {h : Hv} (r : Rp n d x) (hn : n ≤ 16777216) (hd : d ≤ 64) (hi : (itemsD x).isSome = true) : call gls tab (k + 1) "_law_is" [.d x, .d x] h = .ok (.d (.bool true)) h := by
  rw [call_run t_g_law_is]
  have e := fun h => rep_ok (h := h) r hn hd hi
  simp [g_law_is, run, back, e]
/-! ### draws -/
def hnd (c : List Int) (a b s t : Int) : Ob := .lst [.list (c.map .int), .int a, .int b, .int s, .int t]
structure Good (u : Nat) (c : List Int) (a b s t : Int) : Prop where
  c : ∀ x ∈ c, 0 ≤ x ∧ Lt 120 x
  a0 : 0 ≤ a
  b0 : 0 ≤ b
  b1 : Lt 120 b
  s0 : 0 ≤ s
  s1 : s < 2147483629
  t0 : 0 ≤ t
  t1 : t ≤ u
/-- a hand after at most u draws -/
def Hand (u : Nat) (o : Ob) : Prop := ∃ c a b s t, o = hnd c a b s t ∧ Good u c a b s t
theorem Hand.mono {u v : Nat} {o : Ob} (h : Hand u o) (l : u ≤ v) : Hand v o := by
  obtain ⟨c, a, b, s, t, e, g⟩ := h
  exact ⟨c, a, b, s, t, e, ⟨g.c, g.a0, g.b0, g.b1, g.s0, g.s1, g.t0, by have := g.t1; omega⟩⟩
@[simp] theorem setO_get {h : Hv} {n : Nat} {o : Ob} (l : n < h.os.length) : (setO h n o).os[n]? = some o := by simp [setO, l]
@[simp] theorem setO_len {h : Hv} {n : Nat} {o : Ob} : (setO h n o).os.length = h.os.length := by simp [setO]
@[simp] theorem setO_lim {h : Hv} {n : Nat} {o : Ob} : (setO h n o).lim = h.lim := rfl
@[simp] theorem setO_two {h : Hv} {n : Nat} {o o' : Ob} : setO (setO h n o) n o' = setO h n o' := by simp [setO]
theorem setO_same {h : Hv} {n : Nat} {o : Ob} (e : h.os[n]? = some o) : setO h n o = h := by
  obtain ⟨l, q⟩ := List.getElem?_eq_some_iff.mp e
  unfold setO
  rw [← q, List.set_getElem_self]
theorem ix_r {h : Hv} {n : Nat} {xs : List PyData} {i : Int} {v : PyData} (e : h.os[n]? = some (.lst xs)) (q : L2.atI xs i = some v) : ix (.ref n) (.d (.int i)) h = .ok (.d v) h := by
  simp only [ix, e, q]
theorem setI_r {h : Hv} {n m : Nat} {xs : List PyData} {i : Int} {v : PyData} (e : h.os[n]? = some (.lst xs)) (q : L2.ixN xs.length i = some m) : NC.setI (.ref n) (.d (.int i)) (.d v) h = .ok (.d .none) (setO h n (.lst (xs.set m v))) := by
  simp only [NC.setI, e, q]
section
variable {c : List Int} {a b s t : Int} {h : Hv} {n : Nat}
theorem h_0 (e : h.os[n]? = some (hnd c a b s t)) : ix (.ref n) (.d (.int 0)) h = .ok (.d (.list (c.map .int))) h := ix_r e rfl
theorem h_1 (e : h.os[n]? = some (hnd c a b s t)) : ix (.ref n) (.d (.int 1)) h = .ok (.d (.int a)) h := ix_r e rfl
theorem h_2 (e : h.os[n]? = some (hnd c a b s t)) : ix (.ref n) (.d (.int 2)) h = .ok (.d (.int b)) h := ix_r e rfl
theorem h_3 (e : h.os[n]? = some (hnd c a b s t)) : ix (.ref n) (.d (.int 3)) h = .ok (.d (.int s)) h := ix_r e rfl
theorem h_4 (e : h.os[n]? = some (hnd c a b s t)) : ix (.ref n) (.d (.int 4)) h = .ok (.d (.int t)) h := ix_r e rfl
theorem g_1 {v : Int} (e : h.os[n]? = some (hnd c a b s t)) : NC.setI (.ref n) (.d (.int 1)) (.d (.int v)) h = .ok (.d .none) (setO h n (hnd c v b s t)) := setI_r (m := 1) e rfl
theorem g_2 {v : Int} (e : h.os[n]? = some (hnd c a b s t)) : NC.setI (.ref n) (.d (.int 2)) (.d (.int v)) h = .ok (.d .none) (setO h n (hnd c a v s t)) := setI_r (m := 2) e rfl
theorem g_3 {v : Int} (e : h.os[n]? = some (hnd c a b s t)) : NC.setI (.ref n) (.d (.int 3)) (.d (.int v)) h = .ok (.d .none) (setO h n (hnd c a b v t)) := setI_r (m := 3) e rfl
theorem g_4 {v : Int} (e : h.os[n]? = some (hnd c a b s t)) : NC.setI (.ref n) (.d (.int 4)) (.d (.int v)) h = .ok (.d .none) (setO h n (hnd c a b s v)) := setI_r (m := 4) e rfl
end
theorem exs_nx {G : Gls} {C : Fns} {s : S} {r : List S} {e e1 : NC.Env} {h h1 : Hv} (p : exec G C s e h = .ok (.nx e1) h1) : execs G C (s :: r) e h = execs G C r e1 h1 := by rw [exs_cons, p]; rfl
theorem exs_rt {G : Gls} {C : Fns} {s : S} {r : List S} {e : NC.Env} {h h1 : Hv} {v : PV} (p : exec G C s e h = .ok (.ret v) h1) : execs G C (s :: r) e h = .ok (.ret v) h1 := by rw [exs_cons, p]; rfl
theorem atI_ints {c : List Int} {a : Int} (h0 : 0 ≤ a) (h1 : a < (c.length : Int)) : ∃ x ∈ c, L2.atI (c.map PyData.int) a = some (.int x) := by
  obtain ⟨k, rfl⟩ : ∃ k : Nat, a = (k : Int) := ⟨a.toNat, by omega⟩
  have l : k < c.length := by omega
  exact ⟨c[k], List.getElem_mem l, L2.atI_nat (by simp [l])⟩
theorem fm_pos (a : Int) {m : Int} (h : 0 < m) : 0 ≤ a.fmod m ∧ a.fmod m < m := ⟨Int.fmod_nonneg_of_pos a h, Int.fmod_lt_of_pos a h⟩
theorem powOk_1018 : powOk 10 18 = true := by decide
def dIf1 : S := g_law_draw.body.headD .pass
def dRest : List S := g_law_draw.body.tail
theorem Lt_of {n : Nat} {i : Int} (h : -(2 ^ n) < i ∧ i < 2 ^ n) : Lt n i := by
  unfold Lt
  have e : ((2 ^ n : Nat) : Int) = (2 : Int) ^ n := by simp
  omega
theorem Lt.lt {n : Nat} {i : Int} (h : Lt n i) : -(2 ^ n) < i ∧ i < 2 ^ n := by
  unfold Lt at h
  have e : ((2 ^ n : Nat) : Int) = (2 : Int) ^ n := by simp
  omega
theorem draw_1 {C : Fns} {u : Nat} {c : List Int} {a b s t : Int} {h : Hv} {n : Nat} {m : PV} (e : h.os[n]? = some (hnd c a b s t)) (g : Good u c a b s t) :
    ∃ v o, exec gls C dIf1 [some (.ref n), some m, none, none, none] h = .ok (.nx [some (.ref n), some m, none, v, none]) (setO h n o) ∧ Hand u o := by
  have l : n < h.os.length := (List.getElem?_eq_some_iff.mp e).1
  by_cases hc : b = 0 ∧ a < (c.length : Int)
  · obtain ⟨hb, ha⟩ := hc
    obtain ⟨x, hx, ex⟩ := atI_ints g.a0 ha
    obtain ⟨x0, x1⟩ := g.c x hx
    have ix0 : ∀ h, ix (.d (.list (c.map .int))) (.d (.int a)) h = .ok (.d (.int x)) h := fun h => by simp only [ix, ex]
    have z1 : szOk s = true := szOk_of (n := 40) (Lt_of (by have := g.s0; have := g.s1; omega)) (by decide)
    have z2 : szOk x = true := szOk_of x1 (by decide)
    have z3 : szOk 69621 = true := by decide
    have z4 : szOk 48271 = true := by decide
    obtain ⟨f0, f1⟩ := fm_pos (s * 69621 + x * 48271 + 17) (m := 2147483629) (by decide)
    by_cases hx8 : (1000000000000000000 : Int) ≤ x
    · refine ⟨some (.d (.int x)), hnd c (a + 1) x ((s * 69621 + x * 48271 + 17).fmod 2147483629) t, ?_, _, _, _, _, _, rfl, ⟨g.c, by have := g.a0; omega, x0, x1, f0, f1, g.t0, g.t1⟩⟩
      have q1 := setO_get (h := h) (o := hnd c (a + 1) b s t) l
      have q2 := setO_get (h := h) (o := hnd c (a + 1) b ((s * 69621 + x * 48271 + 17).fmod 2147483629) t) l
      subst hb
      simp [dIf1, g_law_draw, h_0 e, h_1 e, h_2 e, ha, ix0, g_1 e, h_3 q1, g_3 q1, g_2 q2, z1, z2, z3, z4, powOk_1018, hx8]
    · refine ⟨some (.d (.int x)), hnd c (a + 1) b ((s * 69621 + x * 48271 + 17).fmod 2147483629) t, ?_, _, _, _, _, _, rfl, ⟨g.c, by have := g.a0; omega, g.b0, g.b1, f0, f1, g.t0, g.t1⟩⟩
      have q1 := setO_get (h := h) (o := hnd c (a + 1) b s t) l
      subst hb
      simp [dIf1, g_law_draw, h_0 e, h_1 e, h_2 e, ha, ix0, g_1 e, h_3 q1, g_3 q1, z1, z2, z3, z4, powOk_1018, hx8]
  · refine ⟨none, hnd c a b s t, ?_, _, _, _, _, _, rfl, g⟩
    rw [setO_same e]
    by_cases hb : b = 0
    · have ha : ¬ a < (c.length : Int) := fun q => hc ⟨hb, q⟩
      subst hb
      simp [dIf1, g_law_draw, h_0 e, h_1 e, h_2 e, ha]
    · simp [dIf1, g_law_draw, h_0 e, h_1 e, h_2 e, hb]
theorem draw_2 {C : Fns} {u : Nat} {c : List Int} {a b s t m : Int} {h : Hv} {n : Nat} {v : Option PV} (e : h.os[n]? = some (hnd c a b s t)) (g : Good u c a b s t) (hu : u ≤ 1000000) (m0 : 0 < m) (m1 : Lt 60 m) :
    ∃ d o, execs gls C dRest [some (.ref n), some (.d (.int m)), none, v, none] h = .ok (.ret (.d (.int d))) (setO h n o) ∧ 0 ≤ d ∧ d < m ∧ Hand (u + 1) o := by
  have l : n < h.os.length := (List.getElem?_eq_some_iff.mp e).1
  have dm : dvOk m = true := dvOk_of m1 (by decide) (by omega)
  have mz : m ≠ 0 := by omega
  by_cases hb : 0 < b
  · obtain ⟨f0, f1⟩ := fm_pos b m0
    have e1 : b.fdiv m = b / m := Int.fdiv_eq_ediv_of_nonneg _ (by omega)
    have e2 : 0 ≤ b / m := Int.ediv_nonneg g.b0 (by omega)
    have e3 : (b / m).natAbs ≤ b.natAbs := Int.natAbs_ediv_le_natAbs _ _
    refine ⟨b.fmod m, hnd c a (b / m) s t, ?_, f0, f1, _, _, _, _, _, rfl, ⟨g.c, g.a0, e2, Nat.lt_of_le_of_lt e3 g.b1, g.s0, g.s1, g.t0, by have := g.t1; omega⟩⟩
    simp [dRest, g_law_draw, h_2 e, hb, mz, dm, g_2 e, e1]
  · have hb0 : b = 0 := by have := g.b0; omega
    subst hb0
    have q1 := setO_get (h := h) (o := hnd c a 0 s (t + 1)) l
    have s0 := g.s0; have s1 := g.s1; have t0 := g.t0; have t1 := g.t1
    have z0 : szOk 7919 = true := by decide
    have z1 : szOk (t + 1) = true := szOk_of (n := 40) (Lt_of (by omega)) (by decide)
    have z2 : szOk (s + 7919 * (t + 1)) = true := szOk_of (n := 60) (Lt_of (by omega)) (by decide)
    have z3 : szOk 40692 = true := by decide
    obtain ⟨a0, a1⟩ := fm_pos ((s + 7919 * (t + 1)) * 40692) (m := 2147483647) (by decide)
    generalize hx1 : ((s + 7919 * (t + 1)) * 40692).fmod 2147483647 = x1 at a0 a1
    have d1 : x1.fdiv 1009 = x1 / 1009 := Int.fdiv_eq_ediv_of_nonneg _ (by decide)
    have y1 : szOk x1 = true := szOk_of (n := 60) (Lt_of (by omega)) (by decide)
    have y2 : szOk (x1 / 1009 + 69621) = true := szOk_of (n := 60) (Lt_of (by omega)) (by decide)
    obtain ⟨b0, b1⟩ := fm_pos (x1 * (x1 / 1009 + 69621)) (m := 2147483647) (by decide)
    generalize hx2 : (x1 * (x1 / 1009 + 69621)).fmod 2147483647 = x2 at b0 b1
    have d2 : x2.fdiv 2003 = x2 / 2003 := Int.fdiv_eq_ediv_of_nonneg _ (by decide)
    have w1 : szOk x2 = true := szOk_of (n := 60) (Lt_of (by omega)) (by decide)
    have w2 : szOk (x2 / 2003 + 40014) = true := szOk_of (n := 60) (Lt_of (by omega)) (by decide)
    obtain ⟨c0, c1⟩ := fm_pos (x2 * (x2 / 2003 + 40014)) (m := 2147483563) (by decide)
    generalize hx3 : (x2 * (x2 / 2003 + 40014)).fmod 2147483563 = x3 at c0 c1
    obtain ⟨f0, f1⟩ := fm_pos (x3.fdiv 16) m0
    have k1 : dvOk 1009 = true := by decide
    have k2 : dvOk 2003 = true := by decide
    have k3 : dvOk 16 = true := by decide
    refine ⟨(x3.fdiv 16).fmod m, hnd c a 0 s (t + 1), ?_, f0, f1, _, _, _, _, _, rfl, ⟨g.c, g.a0, g.b0, g.b1, s0, s1, by omega, by omega⟩⟩
    simp [dRest, g_law_draw, h_2 e, h_4 e, g_4 e, h_3 q1, h_4 q1, mz, z0, z1, z2, z3, hx1, d1, y1, y2, hx2, d2, w1, w2, hx3, k1, k2, k3]
theorem s_draw {k u : Nat} {h : Hv} {n : Nat} {o : Ob} {m : Int} (e : h.os[n]? = some o) (g : Hand u o) (hu : u ≤ 1000000) (m0 : 0 < m) (m1 : Lt 60 m) :
    ∃ d o', call gls tab (k + 1) "_law_draw" [.ref n, .d (.int m)] h = .ok (.d (.int d)) (setO h n o') ∧ 0 ≤ d ∧ d < m ∧ Hand (u + 1) o' := by
  obtain ⟨c, a, b, s, t, rfl, g⟩ := g
  have l : n < h.os.length := (List.getElem?_eq_some_iff.mp e).1
  obtain ⟨v, o1, p1, g1⟩ := draw_1 (C := call gls tab k) (h := ⟨h.os, h.os.length⟩) (m := .d (.int m)) e g
  obtain ⟨c1, a1, b1, s1, t1, rfl, g1⟩ := g1
  obtain ⟨d, o2, p2, d0, d1, g2⟩ := draw_2 (C := call gls tab k) (h := setO ⟨h.os, h.os.length⟩ n (hnd c1 a1 b1 s1 t1)) (v := v) (setO_get l) g1 hu m0 m1
  refine ⟨d, o2, ?_, d0, d1, g2⟩
  rw [call_run t_g_law_draw]
  have eb : g_law_draw.body = dIf1 :: dRest := rfl
  unfold run
  rw [if_pos (show [PV.ref n, PV.d (.int m)].length = g_law_draw.np from rfl), eb]
  show (match execs gls (call gls tab k) (dIf1 :: dRest) [some (.ref n), some (.d (.int m)), none, none, none] ⟨h.os, h.os.length⟩ with
    | .ok (.ret v) h1 => back true h v h1
    | .ok (.nx _) h1 => back true h (.d .none) h1
    | .ok _ _ => .bad
    | .exc c fs h1 => if true then .exc c fs ⟨h1.os.take h.os.length, h.lim⟩ else .exc c fs h1
    | .bad => .bad) = _
  rw [exs_nx p1, p2]
  simp [back, setO]
  exact List.take_of_length_le (by simp)
theorem store_v {i : Nat} {x : PV} {e : NC.Env} : store (.var i) x e = if i < e.length then some (e.set i (some x)) else none := by simp only [store]
theorem s_some {k u : Nat} {h : Hv} {n : Nat} {o : Ob} {xs : List PyData} (e : h.os[n]? = some o) (g : Hand u o) (hu : u ≤ 1000000) (l0 : xs ≠ []) (l1 : xs.length ≤ 1000000) :
    ∃ x ∈ xs, ∃ o', call gls tab (k + 2) "_law_some" [.ref n, .d (.list xs)] h = .ok (.d x) (setO h n o') ∧ Hand (u + 1) o' := by
  have l : n < h.os.length := (List.getElem?_eq_some_iff.mp e).1
  have hp : 0 < xs.length := List.length_pos_iff.mpr l0
  obtain ⟨d, o', p, d0, d1, g'⟩ := s_draw (k := k) (h := ⟨h.os, h.os.length⟩) (m := (xs.length : Int)) e g hu (by omega) (Lt_of (by omega))
  obtain ⟨m, rfl⟩ : ∃ m : Nat, d = (m : Int) := ⟨d.toNat, by omega⟩
  have hm : m < xs.length := by omega
  have at_ : L2.atI xs (m : Int) = some xs[m] := L2.atI_nat (by simp [hm])
  refine ⟨xs[m], List.getElem_mem hm, o', ?_, g'⟩
  rw [call_run t_g_law_some]
  simp [g_law_some, run, back, p, ix, at_, setO]
  exact List.take_of_length_le (by simp)
theorem rp3 {n d : Nat} {x y z : PyData} (a : Rp n d x) (b : Rp n d y) (c : Rp n d z) : Rp ((n + 2) * 3 + 3) (d + 1) (.list [x, y, z]) := by
  refine (rp_list (n := n) (d := d) (xs := [x, y, z]) fun w hw => ?_).mono (by simp) (Nat.le_refl _)
  simp only [List.mem_cons, List.not_mem_nil, or_false] at hw
  rcases hw with rfl | rfl | rfl <;> assumption
theorem rp2 {n d : Nat} {x y : PyData} (a : Rp n d x) (b : Rp n d y) : Rp ((n + 2) * 2 + 3) (d + 1) (.list [x, y]) := by
  refine (rp_list (n := n) (d := d) (xs := [x, y]) fun w hw => ?_).mono (by simp) (Nat.le_refl _)
  simp only [List.mem_cons, List.not_mem_nil, or_false] at hw
  rcases hw with rfl | rfl <;> assumption
theorem by_ok {q r : Rat} (hr : r.num ≠ 0) : Rat.divInt ((q * r).num * r.den) ((q * r).den * r.num) = q := by
  have d1 : ((q * r).den * r.num : Int) ≠ 0 := Int.mul_ne_zero (den_ne _) hr
  refine ((Rat.divInt_eq_divInt_iff d1 (den_ne q)).mpr ?_).trans (Rat.num_divInt_den q)
  have e : Rat.divInt (q * r).num (q * r).den = Rat.divInt (q.num * r.num) (q.den * r.den) := (Rat.num_divInt_den _).trans (mul_is q r)
  have e := (Rat.divInt_eq_divInt_iff (den_ne _) (dd_ne q r)).mp e
  calc (q * r).num * r.den * q.den = (q * r).num * (q.den * r.den) := by rw [Int.mul_assoc, Int.mul_comm (r.den : Int)]
    _ = q.num * r.num * (q * r).den := e
    _ = q.num * ((q * r).den * r.num) := by rw [Int.mul_assoc, Int.mul_comm r.num]
theorem not_lt_dec (q r : Rat) : (!decide (q < r)) = decide (r ≤ q) := by
  by_cases h : q < r
  · have : ¬ r ≤ q := Rat.not_le.mpr h
    simp [h, this]
  · have : r ≤ q := Rat.not_lt.mp h
    simp [h, this]
def cells (ns : List Int) : List Int := (cut ns none (some 63)).map fun i => ((i.natAbs : Nat) : Int).fmod (10 ^ 36)
theorem s_hand {k : Nat} {ns : List Int} (l : ns.length ≤ 63) : ∃ o, call gls tab (k + 1) "_law_hand" [.scr (ns.map .int)] h00 = .ok (.ref 0) ⟨[o], 0⟩ ∧ Hand 0 o := by
  have lc : (cells ns).length ≤ 63 := by
    unfold cells
    rw [List.length_map]
    exact Nat.le_trans cut_len l
  have hp : ((10 : Int) ^ 36) = 1000000000000000000000000000000000000 := by decide
  refine ⟨hnd (cells ns) 0 0 (491 + 233 * ((cells ns).length : Int)) 0, ?_, _, _, _, _, _, rfl, ⟨fun x hx => ?_, by decide, by decide, Lt_of (by decide), by omega, by omega, by decide, by decide⟩⟩
  · have w : powOk 10 36 = true := by decide
    have cm := comp_map (tg := .var 2) (cond := fun e h => noexc (.ok (.d (.bool true)) h)) (elt := fun e h => noexc (ev gls (call gls tab k) (.bin .mod (.bi .int (.bi .abs (.bi .int (.var 2)))) (.bin .pow (.cst (.int 10)) (.cst (.int 36)))) e h)) (e := [some (.scr (ns.map .int)), none, none]) (h := h00) (f := fun v => match v with
        | .d (.int i) => .int (((i.natAbs : Nat) : Int).fmod (10 ^ 36))
        | _ => .none) ((cut (ns.map PyData.int) none (some 63)).map PV.d) [] (fun x hx => by
          obtain ⟨d, hd, rfl⟩ := List.mem_map.mp hx
          obtain ⟨i, _, rfl⟩ := List.mem_map.mp (cut_mem hd)
          refine ⟨_, by rw [store_v]; rfl, rfl, ?_⟩
          simp [w, hp]) (by
          simp
          have := cut_len (xs := ns.map PyData.int) (lo := none) (hi := some 63)
          simp at this
          omega)
    have em : ((cut (ns.map PyData.int) none (some 63)).map PV.d).map (fun v => match v with
        | .d (.int i) => PyData.int (((i.natAbs : Nat) : Int).fmod (10 ^ 36))
        | _ => .none) = (cells ns).map PyData.int := by
      rw [cut_map]
      unfold cells
      simp
    rw [em] at cm
    rw [call_run t_g_law_hand]
    have e1 : exec gls (call gls tab k) (.asg (.var 1) (.comp [2] (.bin .mod (.bi .int (.bi .abs (.bi .int (.var 2)))) (.bin .pow (.cst (.int 10)) (.cst (.int 36)))) (.var 2) (.of (.slc (.var 0) none (some (.cst (.int 63))))) none)) [some (.scr (ns.map .int)), none, none] h00 = .ok (.nx [some (.scr (ns.map .int)), some (.d (.list ((cells ns).map .int))), none]) h00 := by
      rw [ex_asg, ev_comp]
      have wk : walk gls (call gls tab k) (.of (.slc (.var 0) none (some (.cst (.int 63))))) [some (.scr (ns.map .int)), none, none] h00 = .ok ⟨(cut (ns.map PyData.int) none (some 63)).map PV.d, .no⟩ h00 := by simp [slc, walk1]
      rw [wk]
      show (compL .no (.var 2) (fun e h => noexc (.ok (.d (.bool true)) h)) _ [some (.scr (ns.map .int)), none, none] _ [] h00).bind _ = _
      rw [cm]
      simp
    have z1 : szOk 233 = true := by decide
    have z2 : szOk ((cells ns).length : Int) = true := szOk_of (n := 20) (Lt_of (by omega)) (by decide)
    have eb : g_law_hand.body = [(.asg (.var 1) (.comp [2] (.bin .mod (.bi .int (.bi .abs (.bi .int (.var 2)))) (.bin .pow (.cst (.int 10)) (.cst (.int 36)))) (.var 2) (.of (.slc (.var 0) none (some (.cst (.int 63))))) none)), (.ret (.lst true [(.var 1), (.cst (.int 0)), (.cst (.int 0)), (.bin .add (.cst (.int 491)) (.bin .mul (.cst (.int 233)) (.bi .len (.var 1)))), (.cst (.int 0))]))] := rfl
    show (match execs gls (call gls tab k) g_law_hand.body [some (.scr (ns.map .int)), none, none] h00 with
      | .ok (.ret v) h1 => back false h00 v h1
      | .ok (.nx _) h1 => back false h00 (.d .none) h1
      | .ok _ _ => .bad
      | .exc c fs h1 => if false then .exc c fs ⟨h1.os.take h00.os.length, h00.lim⟩ else .exc c fs h1
      | .bad => .bad) = _
    rw [eb, exs_nx e1]
    simp [lnOk, newO, back, z1, z2, hnd, h00]
  · obtain ⟨i, _, rfl⟩ := List.mem_map.mp hx
    obtain ⟨f0, f1⟩ := fm_pos ((i.natAbs : Nat) : Int) (m := 10 ^ 36) (by decide)
    rw [hp] at f0 f1 ⊢
    exact ⟨f0, Lt_of (by omega)⟩
end NC
namespace NC
open PySem
/-! ### what is a fraction, a point, a box -/
def isI : PyData → Bool
  | .int _ => true
  | _ => false
def isF : PyData → Bool
  | .tuple [.int t, .int b] => decide (0 < b) && decide (Nat.gcd t.natAbs b.natAbs = 1)
  | _ => false
theorem isF_dq (q : Rat) : isF (dq q) = true := by
  have h1 : (0 : Int) < (q.den : Int) := by have := q.den_pos; omega
  have h2 : Nat.gcd q.num.natAbs q.den = 1 := q.reduced
  simp [isF, dq, q.den_pos, h2]
theorem s_isint {k : Nat} {x : PyData} {h : Hv} : call gls tab (k + 1) "is_integer" [.d x] h = .ok (.d (.bool (isI x))) h := by
  rw [call_run t_f_is_integer]
  cases x <;> simp [f_is_integer, run, back, isTy, isI]
theorem s_isf {k : Nat} {x : PyData} {h : Hv} : call gls tab (k + 2) "is_fraction" [.d x] h = .ok (.d (.bool (isF x))) h := by
  by_cases hx : ∃ t b, x = .tuple [.int t, .int b]
  · obtain ⟨t, b, rfl⟩ := hx
    by_cases q : 0 < b ∧ Nat.gcd t.natAbs b.natAbs = 1
    · obtain ⟨q1, q2⟩ := q
      obtain ⟨m, rfl⟩ : ∃ m : Nat, b = (m : Int) := ⟨b.toNat, by omega⟩
      have e : (PyData.tuple [.int t, .int (m : Int)]) = dq ⟨t, m, by omega, q2⟩ := rfl
      rw [e, isF_dq]
      exact s_is_fraction
    · rw [s_not_fraction fun h1 h2 => q ⟨h1, h2⟩]
      have : isF (.tuple [.int t, .int b]) = false := by
        simp only [isF, Bool.and_eq_false_iff, decide_eq_false_iff_not]
        by_cases q1 : 0 < b
        · exact .inr fun q2 => q ⟨q1, q2⟩
        · exact .inl q1
      rw [this]
  · rw [call_run t_f_is_fraction]
    cases x with
    | tuple xs =>
      match xs, hx with
      | [], _ => simp [f_is_fraction, run, back, isF]
      | [a], _ => simp [f_is_fraction, run, back, isF]
      | [a, b], hx =>
        have f : isF (.tuple [a, b]) = false := by
          unfold isF
          split
          · rename_i t b' e
            exact absurd ⟨_, _, e⟩ hx
          · rfl
        have g : isI a = false ∨ (isI a = true ∧ isI b = false) := by
          cases a <;> cases b <;> first | exact .inl rfl | exact .inr ⟨rfl, rfl⟩ | exact absurd ⟨_, _, rfl⟩ hx
        rw [f]
        rcases g with g | ⟨g, g'⟩
        · simp [f_is_fraction, run, back, s_isint, g]
        · simp [f_is_fraction, run, back, s_isint, g, g']
      | a :: b :: c :: r, _ =>
        have e : ¬ ((r.length : Int) + 1 + 1 + 1 = 2) := by omega
        simp [f_is_fraction, run, back, e, isF]
    | _ => simp [f_is_fraction, run, back, isTy, isF]
def isFs : PyData → Int → Bool
  | .tuple xs, m => decide ((xs.length : Int) = m) && xs.all isF
  | _, _ => false
/-- a comprehension without a condition over frozen data whose element is a Bool -/
theorem comp_bool {own : List Nat} {elt : E} {i : Nat} {it : NC.It} {C : Fns} {e : NC.Env} {h : Hv} {xs : List PyData} {f : PyData → Bool} (w : walk gls C it e h = .ok ⟨xs.map PV.d, .no⟩ h) (hi : i < (wipe e own).length)
    (s : ∀ x ∈ xs, ev gls C elt ((wipe e own).set i (some (.d x))) h = .ok (.d (.bool (f x))) h) (l : xs.length ≤ 16777216) : ev gls C (.comp own elt (.var i) it none) e h = .ok (.d (bl (xs.map f))) h := by
  rw [ev_comp, w]
  have q := comp_map (tg := .var i) (cond := fun e h => noexc (.ok (.d (.bool true)) h)) (elt := fun e h => noexc (ev gls C elt e h)) (e := wipe e own) (h := h) (f := fun v => match v with
    | .d x => .bool (f x)
    | _ => .none) (xs.map PV.d) [] (fun x hx => by
      obtain ⟨y, hy, rfl⟩ := List.mem_map.mp hx
      refine ⟨_, by simp only [store]; rw [if_pos hi], rfl, ?_⟩
      show noexc _ = _
      rw [s y hy]
      rfl) (by simpa using l)
  show compL .no (.var i) _ _ _ _ [] h = _
  refine q.trans ?_
  simp [bl]
theorem comp_boolm {α : Type} {own : List Nat} {elt : E} {i : Nat} {it : NC.It} {C : Fns} {e : NC.Env} {h : Hv} {xs : List α} {g : α → PyData} {f : α → Bool} (w : walk gls C it e h = .ok ⟨(xs.map g).map PV.d, .no⟩ h) (hi : i < (wipe e own).length)
    (s : ∀ x ∈ xs, ev gls C elt ((wipe e own).set i (some (.d (g x)))) h = .ok (.d (.bool (f x))) h) (l : xs.length ≤ 16777216) : ev gls C (.comp own elt (.var i) it none) e h = .ok (.d (bl (xs.map f))) h := by
  rw [ev_comp, w]
  unfold bl
  exact comp_maps (tg := .var i) (g := fun x => PV.d (g x)) (f := fun x => .bool (f x)) xs (fun x hx => ⟨_, by simp only [store]; rw [if_pos hi], rfl, by
    show noexc _ = _
    rw [s x hx]
    rfl⟩) l (by simp) (by simp)
theorem s_are {k : Nat} {x : PyData} {m : Int} {h : Hv} (l : ∀ xs, x = .tuple xs → xs.length ≤ 16777216) : call gls tab (k + 3) "are_fractions" [.d x, .d (.int m)] h = .ok (.d (.bool (isFs x m))) h := by
  rw [call_run t_f_are_fractions]
  cases x with
  | tuple xs =>
    have c := comp_bool (own := [2]) (elt := .call "is_fraction" [.var 2]) (i := 2) (it := .of (.var 0)) (C := call gls tab (k + 2)) (e := [some (.d (.tuple xs)), some (.d (.int m)), none]) (h := ⟨h.os, h.os.length⟩) (xs := xs) (f := isF) (by simp [walk1]) (by simp [wipe]) (fun x _ => by simp [wipe, s_isf]) (l xs rfl)
    by_cases q : (xs.length : Int) = m
    · simp only [f_are_fractions, run]
      simp [c, q, back, isFs, - ev_comp]
    · simp only [f_are_fractions, run]
      simp [q, back, isFs, - ev_comp]
  | _ => simp [f_are_fractions, run, back, isTy, isFs, - ev_comp]
def isPt : PyData → Bool
  | .tuple xs => decide (1 ≤ xs.length) && decide (xs.length ≤ 3) && xs.all isF
  | _ => false
theorem s_is_point {k : Nat} {x : PyData} {h : Hv} : call gls tab (k + 4) "is_point" [.d x] h = .ok (.d (.bool (isPt x))) h := by
  rw [call_run t_f_is_point]
  cases x with
  | tuple xs =>
    by_cases q : 1 ≤ xs.length
    · by_cases q3 : xs.length ≤ 3
      · have a := fun h => s_are (k := k) (x := .tuple xs) (m := xs.length) (h := h) fun ys e => by cases e; omega
        have z1 : (1 : Int) ≤ xs.length := by omega
        have z2 : (xs.length : Int) ≤ 3 := by omega
        simp [f_is_point, run, back, v_MOST_AMOUNTS, a, z1, z2, isPt, isFs, q, q3]
      · have z1 : (1 : Int) ≤ xs.length := by omega
        have z2 : ¬ (xs.length : Int) ≤ 3 := by omega
        simp [f_is_point, run, back, v_MOST_AMOUNTS, z1, z2, isPt, isFs, q3]
    · have z1 : ¬ (1 : Int) ≤ xs.length := by omega
      simp [f_is_point, run, back, v_MOST_AMOUNTS, z1, isPt, isFs, q]
  | _ => simp [f_is_point, run, back, isTy, isPt]
def pr (p : Rat × Rat) : PyData := .tuple [dq p.1, dq p.2]
theorem s_range {k n : Nat} {p : Rat × Rat} {h : Hv} (a : Sm n p.1) (b : Sm n p.2) (hn : n ≤ 3000) : call gls tab (k + 4) "is_range" [.d (pr p)] h = .ok (.d (.bool (decide (p.1 ≤ p.2)))) h := by
  rw [call_run t_f_is_range]
  have r := fun h => s_are (k := k) (x := pr p) (m := 2) (h := h) fun ys e => by cases e; simp
  have e : isFs (pr p) 2 = true := by simp [isFs, pr, isF_dq]
  have o1 : ∀ h, ix (.d (pr p)) (.d (.int 0)) h = .ok (.d (dq p.1)) h := fun h => by unfold pr; rw [ix_t0]
  have o2 : ∀ h, ix (.d (pr p)) (.d (.int 1)) h = .ok (.d (dq p.2)) h := fun h => by unfold pr; rw [ix_t1]
  have m := fun h => s_raw_at_most (k := k + 2) (h := h) a b hn
  simp [f_is_range, run, back, r, e, o1, o2, m]
def isBx (bx : List (Rat × Rat)) : Bool := decide (1 ≤ bx.length) && decide (bx.length ≤ 3) && bx.all fun p => decide (p.1 ≤ p.2)
def SmB (n : Nat) (bx : List (Rat × Rat)) : Prop := ∀ p ∈ bx, Sm n p.1 ∧ Sm n p.2
theorem s_is_box {k n : Nat} {bx : List (Rat × Rat)} {h : Hv} (a : SmB n bx) (hn : n ≤ 3000) : call gls tab (k + 5) "is_box" [.d (.tuple (bx.map pr))] h = .ok (.d (.bool (isBx bx))) h := by
  rw [call_run t_f_is_box]
  by_cases q : 1 ≤ bx.length
  · have z1 : (1 : Int) ≤ bx.length := by omega
    by_cases q3 : bx.length ≤ 3
    · have z2 : (bx.length : Int) ≤ 3 := by omega
      have c := comp_boolm (own := [1]) (elt := .call "is_range" [.var 1]) (i := 1) (it := .of (.var 0)) (C := call gls tab (k + 4)) (e := [some (.d (.tuple (bx.map pr))), none]) (h := ⟨h.os, h.os.length⟩) (xs := bx) (g := pr) (f := fun p => decide (p.1 ≤ p.2)) (by simp [walk1]) (by simp [wipe]) (fun p hp => by simp [wipe, s_range (a p hp).1 (a p hp).2 hn]) (by omega)
      simp only [f_is_box, run]
      simp [c, back, v_MOST_AMOUNTS, z1, z2, isBx, q, q3, - ev_comp]
    · have z2 : ¬ (bx.length : Int) ≤ 3 := by omega
      simp only [f_is_box, run]
      simp [back, v_MOST_AMOUNTS, z1, z2, isBx, q3, - ev_comp]
  · have z1 : ¬ (1 : Int) ≤ bx.length := by omega
    simp only [f_is_box, run]
    simp [back, v_MOST_AMOUNTS, z1, isBx, q, - ev_comp]
end NC
namespace NC
open PySem
theorem comp_bz {α : Type} {own : List Nat} {elt : E} {tg : Tg} {it : NC.It} {C : Fns} {e : NC.Env} {h : Hv} {xs : List α} {ps : List PV} {g : α → PV} {f : α → Bool} (w : walk gls C it e h = .ok ⟨ps, .no⟩ h) (hp : ps = xs.map g)
    (s : ∀ x ∈ xs, ∃ e1, store tg (g x) (wipe e own) = some e1 ∧ ev gls C elt e1 h = .ok (.d (.bool (f x))) h) (l : xs.length ≤ 16777216) : ev gls C (.comp own elt tg it none) e h = .ok (.d (bl (xs.map f))) h := by
  rw [ev_comp, w]
  unfold bl
  exact comp_maps (tg := tg) (g := g) (f := fun x => .bool (f x)) xs (fun x hx => by
    obtain ⟨e1, h1, h2⟩ := s x hx
    refine ⟨e1, h1, rfl, ?_⟩
    show noexc _ = _
    rw [h2]
    rfl) l hp (by simp)
theorem comp_dz {α : Type} {own : List Nat} {elt : E} {tg : Tg} {it : NC.It} {C : Fns} {e : NC.Env} {h : Hv} {xs : List α} {ps : List PV} {g : α → PV} {f : α → PyData} (w : walk gls C it e h = .ok ⟨ps, .no⟩ h) (hp : ps = xs.map g)
    (s : ∀ x ∈ xs, ∃ e1, store tg (g x) (wipe e own) = some e1 ∧ ev gls C elt e1 h = .ok (.d (f x)) h) (l : xs.length ≤ 16777216) : ev gls C (.comp own elt tg it none) e h = .ok (.d (.list (xs.map f))) h := by
  rw [ev_comp, w]
  exact comp_maps (tg := tg) (g := g) (f := f) xs (fun x hx => by
    obtain ⟨e1, h1, h2⟩ := s x hx
    refine ⟨e1, h1, rfl, ?_⟩
    show noexc _ = _
    rw [h2]
    rfl) l hp rfl
def pt (qs : List Rat) : PyData := .tuple (qs.map dq)
def bx_ (b : List (Rat × Rat)) : PyData := .tuple (b.map pr)
def SmL (n : Nat) (qs : List Rat) : Prop := ∀ q ∈ qs, Sm n q
def ins (b : List (Rat × Rat)) (qs : List Rat) : Bool := (b.zip qs).all fun z => decide (z.1.1 ≤ z.2) && decide (z.2 ≤ z.1.2)
theorem s_raw_inside {k n : Nat} {b : List (Rat × Rat)} {qs : List Rat} {h : Hv} (sb : SmB n b) (sq : SmL n qs) (hn : n ≤ 3000) (l : b.length ≤ 1000) : call gls tab (k + 2) "raw_is_inside" [.d (bx_ b), .d (pt qs)] h = .ok (.d (.bool (ins b qs))) h := by
  rw [call_run t_f_raw_is_inside]
  have c := comp_bz (own := [2, 3, 4]) (elt := .and (.call "raw_at_most" [.var 3, .var 2]) (.call "raw_at_most" [.var 2, .var 4])) (tg := .tup [.tup [.var 3, .var 4], .var 2]) (it := .zip2 (.var 0) (.var 1)) (C := call gls tab (k + 1)) (e := [some (.d (bx_ b)), some (.d (pt qs)), none, none, none]) (h := ⟨h.os, h.os.length⟩) (xs := b.zip qs) (g := fun z => .d (.tuple [pr z.1, dq z.2])) (f := fun z => decide (z.1.1 ≤ z.2) && decide (z.2 ≤ z.1.2)) (ps := (((b.map pr).zip (qs.map dq)).map fun p => .d (.tuple [p.1, p.2]))) (by simp [walk, bx_, pt]) (by simp [List.zip_map, Function.comp_def]) (fun z hz => by
    obtain ⟨p, q⟩ := z
    obtain ⟨hp, hq⟩ := List.of_mem_zip hz
    refine ⟨[some (.d (bx_ b)), some (.d (pt qs)), some (.d (dq q)), some (.d (dq p.1)), some (.d (dq p.2))], by simp [store, storeD, pr, wipe], ?_⟩
    have m1 := fun h => s_raw_at_most (k := k) (h := h) (sb p hp).1 (sq q hq) hn
    have m2 := fun h => s_raw_at_most (k := k) (h := h) (sq q hq) (sb p hp).2 hn
    by_cases h1 : p.1 ≤ q <;> simp [m1, m2, h1]) (by rw [List.length_zip]; omega)
  simp only [f_raw_is_inside, run]
  simp [c, back, ins, - ev_comp]
theorem isFs_pt (qs : List Rat) (m : Int) : isFs (pt qs) m = decide ((qs.length : Int) = m) := by
  have : (qs.map dq).all isF = true := by simp [isF_dq]
  simp only [isFs, pt, List.length_map, this, Bool.and_true]
theorem s_inside_no {k n : Nat} {b : List (Rat × Rat)} {x : PyData} {h : Hv} (sb : SmB n b) (hn : n ≤ 3000) (hb : isBx b = true) (l : ∀ xs, x = .tuple xs → xs.length ≤ 16777216) (f : isFs x b.length = false) : call gls tab (k + 6) "is_inside" [.d (bx_ b), .d x] h = .ok (.d (.bool false)) h := by
  rw [call_run t_f_is_inside]
  have c := fun h => s_is_box (k := k) (h := h) sb hn
  have a := fun h => s_are (k := k + 2) (x := x) (m := (b.length : Int)) (h := h) l
  simp [f_is_inside, run, back, bx_, c, hb, a, f]
theorem s_inside {k n : Nat} {b : List (Rat × Rat)} {qs : List Rat} {h : Hv} (sb : SmB n b) (sq : SmL n qs) (hn : n ≤ 3000) (hb : isBx b = true) (l : qs.length = b.length) : call gls tab (k + 6) "is_inside" [.d (bx_ b), .d (pt qs)] h = .ok (.d (.bool (ins b qs))) h := by
  rw [call_run t_f_is_inside]
  have l3 : b.length ≤ 3 := by
    unfold isBx at hb
    simp only [Bool.and_eq_true, decide_eq_true_eq] at hb
    exact hb.1.2
  have c : ∀ h, call gls tab (k + 5) "is_box" [.d (bx_ b)] h = .ok (.d (.bool (isBx b))) h := fun h => s_is_box (k := k) (h := h) sb hn
  have a := fun h => s_are (k := k + 2) (x := pt qs) (m := (b.length : Int)) (h := h) fun ys e => by
    cases e
    rw [List.length_map]
    omega
  have f : isFs (pt qs) (b.length : Int) = true := by rw [isFs_pt, l]; simp
  have i := fun h => s_raw_inside (k := k + 3) (h := h) sb sq hn (by omega)
  have bl_ : ∀ h, bi .len (.d (bx_ b)) h = .ok (.d (.int b.length)) h := fun h => by simp [bx_]
  simp [f_is_inside, run, back, c, hb, a, f, i, bl_]
/-! ### draws -/
theorem q_ok (t : Int) (b : Nat) (hb : b ≠ 0) (c : t.natAbs.Coprime b) : ∃ q : Rat, PyData.tuple [.int t, .int (b : Int)] = dq q ∧ q.num = t ∧ q.den = b := ⟨⟨t, b, hb, c⟩, rfl, rfl, rfl⟩
theorem s_number {k u : Nat} {h : Hv} {n : Nat} {o : Ob} (e : h.os[n]? = some o) (g : Hand u o) (hu : u ≤ 100000) :
    ∃ q o', call gls tab (k + 3) "_law_number" [.ref n] h = .ok (.d (dq q)) (setO h n o') ∧ Sm 10 q ∧ Hand (u + 1) o' := by
  obtain ⟨x, hx, o2, p2, g2⟩ := s_some (k := k) (h := ⟨h.os, h.os.length⟩) (xs := [.tuple [.int 0, .int 1], .tuple [.int 1, .int 1], .tuple [.int (-1), .int 1], .tuple [.int 2, .int 1], .tuple [.int 5, .int 1], .tuple [.int (-3), .int 1], .tuple [.int 1, .int 2], .tuple [.int (-5), .int 2], .tuple [.int 7, .int 3]]) e g (by omega) (by simp) (by simp)
  have ex : ∃ q, x = dq q ∧ Sm 10 q := by
    simp only [List.mem_cons, List.not_mem_nil, or_false] at hx
    rcases hx with rfl | rfl | rfl | rfl | rfl | rfl | rfl | rfl | rfl
    · exact ⟨⟨0, 1, by decide, by decide⟩, rfl, by decide, by decide⟩
    · exact ⟨⟨1, 1, by decide, by decide⟩, rfl, by decide, by decide⟩
    · exact ⟨⟨-1, 1, by decide, by decide⟩, rfl, by decide, by decide⟩
    · exact ⟨⟨2, 1, by decide, by decide⟩, rfl, by decide, by decide⟩
    · exact ⟨⟨5, 1, by decide, by decide⟩, rfl, by decide, by decide⟩
    · exact ⟨⟨-3, 1, by decide, by decide⟩, rfl, by decide, by decide⟩
    · exact ⟨⟨1, 2, by decide, by decide⟩, rfl, by decide, by decide⟩
    · exact ⟨⟨-5, 2, by decide, by decide⟩, rfl, by decide, by decide⟩
    · exact ⟨⟨7, 3, by decide, by decide⟩, rfl, by decide, by decide⟩
  obtain ⟨q, rfl, sq⟩ := ex
  refine ⟨q, o2, ?_, sq, g2⟩
  rw [call_run t_g_law_number]
  simp [g_law_number, run, back, lnOk, p2]
  simp [setO, dq]
  exact List.take_of_length_le (by simp)
end NC
namespace NC
open PySem
/-- the heap of a def with one list of its own: the caller's, the hand as it is now, the list -/
def bs (h : Hv) (n : Nat) (o : Ob) (xs : List PyData) : Hv := ⟨h.os.set n o ++ [.lst xs], h.os.length⟩
theorem bs_n {h : Hv} {n : Nat} {o : Ob} {xs : List PyData} (l : n < h.os.length) : (bs h n o xs).os[n]? = some o := by simp [bs, List.getElem?_append_left, l]
theorem bs_m {h : Hv} {n : Nat} {o : Ob} {xs : List PyData} : (bs h n o xs).os[h.os.length]? = some (.lst xs) := by simp [bs]
theorem bs_sn {h : Hv} {n : Nat} {o o' : Ob} {xs : List PyData} (l : n < h.os.length) : setO (bs h n o xs) n o' = bs h n o' xs := by simp [bs, setO, List.set_append_left, l]
theorem bs_sm {h : Hv} {n : Nat} {o : Ob} {xs ys : List PyData} : setO (bs h n o xs) h.os.length (.lst ys) = bs h n o ys := by simp [bs, setO, List.set_append_right]
theorem bs_0 {h : Hv} {n : Nat} {o : Ob} (e : h.os[n]? = some o) : (⟨h.os ++ [.lst []], h.os.length⟩ : Hv) = bs h n o [] := by
  unfold bs
  obtain ⟨_, q⟩ := List.getElem?_eq_some_iff.mp e
  rw [← q, List.set_getElem_self]
theorem bs_app {h : Hv} {n : Nat} {o : Ob} {xs : List PyData} {x : PyData} (l : xs.length ≤ 1000000) : meth "append" (.ref h.os.length) [.d x] (bs h n o xs) = .ok (.d .none) (bs h n o (xs ++ [x])) := by
  have lk : lnOk (xs.length + 1) = true := decide_eq_true (by omega)
  simp [meth, bs_m, lk, bs_sm]
theorem bs_is {h : Hv} {n : Nat} {o : Ob} {xs : List PyData} : isLst (.ref h.os.length) (bs h n o xs) = true := by simp [isLst, bs_m]
/-- a def whose body answers, by its body -/
theorem run_ret {C : Fns} {f : Df} {vs : List PV} {h h1 : Hv} {d : PyData} (hc : f.cl = true) (hl : vs.length = f.np) (e : execs gls C f.body (vs.map some ++ List.replicate (f.ns - f.np) none) ⟨h.os, h.os.length⟩ = .ok (.ret (.d d)) h1) : run gls C f vs h = .ok (.d d) ⟨h1.os.take h.os.length, h.lim⟩ := by
  unfold run
  rw [if_pos hl, hc, if_pos rfl, e]
  rfl
def nB : List S := match g_law_box.body.getD 1 .pass with
  | .forS _ _ b => b
  | _ => []
theorem box_turn {k u : Nat} {h : Hv} {n : Nat} {o : Ob} {m : PV} {bx : List (Rat × Rat)} {v3 v4 : Option PV} (l : n < h.os.length) (g : Hand u o) (hu : u ≤ 10000) (lx : bx.length ≤ 1000) :
    ∃ p o', execs gls (call gls tab (k + 3)) nB [some (.ref n), some m, some (.ref h.os.length), v3, v4] (bs h n o (bx.map pr)) = .ok (.nx [some (.ref n), some m, some (.ref h.os.length), v3, some (.d (dq p.1))]) (bs h n o' ((bx ++ [p]).map pr)) ∧ Sm 40 p.1 ∧ Sm 40 p.2 ∧ p.1 ≤ p.2 ∧ Hand (u + 2) o' := by
  obtain ⟨q, o1, p1, s1, g1⟩ := s_number (k := k) (h := bs h n o (bx.map pr)) (bs_n l) g (by omega)
  rw [bs_sn l] at p1
  obtain ⟨x, hx, o2, p2, g2⟩ := s_some (k := k + 1) (h := bs h n o1 (bx.map pr)) (xs := [.tuple [.int 0, .int 1], .tuple [.int 1, .int 2], .tuple [.int 3, .int 1], .tuple [.int 10, .int 1]]) (bs_n l) g1 (by omega) (by simp) (by simp)
  rw [bs_sn l] at p2
  have ex : ∃ r : Rat, x = dq r ∧ Sm 10 r ∧ 0 ≤ r := by
    simp only [List.mem_cons, List.not_mem_nil, or_false] at hx
    rcases hx with rfl | rfl | rfl | rfl
    · exact ⟨⟨0, 1, by decide, by decide⟩, rfl, ⟨by decide, by decide⟩, by decide⟩
    · exact ⟨⟨1, 2, by decide, by decide⟩, rfl, ⟨by decide, by decide⟩, by decide⟩
    · exact ⟨⟨3, 1, by decide, by decide⟩, rfl, ⟨by decide, by decide⟩, by decide⟩
    · exact ⟨⟨10, 1, by decide, by decide⟩, rfl, ⟨by decide, by decide⟩, by decide⟩
  obtain ⟨r, rfl, s2, r0⟩ := ex
  have sm := fun h => s_lsum (k := k + 1) (h := h) s1 s2 (by decide)
  have le : q ≤ q + r := by
    have := (Rat.add_le_add_left (c := q)).mpr r0
    rwa [Rat.add_zero] at this
  refine ⟨(q, q + r), o2, ?_, s1.mono (by decide), (s1.add s2).mono (by decide), le, g2⟩
  have ap : meth "append" (.ref h.os.length) [.d (.tuple [dq q, dq (q + r)])] (bs h n o2 (bx.map pr)) = .ok (.d .none) (bs h n o2 (bx.map pr ++ [pr (q, q + r)])) := bs_app (x := pr (q, q + r)) (by simp; omega)
  have e2 : (bx ++ [(q, q + r)]).map pr = bx.map pr ++ [pr (q, q + r)] := by simp
  rw [e2]
  show execs gls (call gls tab (k + 3)) [_, _] _ _ = _
  rw [exs_nx (e1 := [some (.ref n), some m, some (.ref h.os.length), v3, some (.d (dq q))]) (h1 := bs h n o1 (bx.map pr)) (by simp [p1])]
  simp [bs_is, lnOk, p2, sm, ap]
theorem s_box {k u : Nat} {h : Hv} {n m : Nat} {o : Ob} (e : h.os[n]? = some o) (g : Hand u o) (hu : u ≤ 5000) (hm : m ≤ 3) :
    ∃ bx o', call gls tab (k + 4) "_law_box" [.ref n, .d (.int m)] h = .ok (.d (bx_ bx)) (setO h n o') ∧ bx.length = m ∧ SmB 40 bx ∧ (∀ p ∈ bx, p.1 ≤ p.2) ∧ Hand (u + 2 * m) o' := by
  have l : n < h.os.length := (List.getElem?_eq_some_iff.mp e).1
  let P : Nat → NC.Env → Hv → Prop := fun j e h' => ∃ (bx : List (Rat × Rat)) (o : Ob) (v3 v4 : Option PV), e = [some (.ref n), some (.d (.int m)), some (.ref h.os.length), v3, v4] ∧ h' = bs h n o (bx.map pr) ∧ bx.length = j ∧ SmB 40 bx ∧ (∀ p ∈ bx, p.1 ≤ p.2) ∧ Hand (u + 2 * j) o
  have w : walk gls (call gls tab (k + 3)) (.range1 (.var 1)) [some (.ref n), some (.d (.int m)), some (.ref h.os.length), none, none] (bs h n o []) = .ok ⟨rngs 0 m, .no⟩ (bs h n o []) := by
    exact walk_r1 (i := (m : Int)) (by rw [ev_var]; rfl) (b62_of (by omega) (by omega))
  have rl : (rngs 0 m).length = m := rngs_len
  obtain ⟨e', h', p, bx, o', v3, v4, rfl, rfl, hl, sb, le, g'⟩ := for_run (J := m) (tg := .var 3) (body := fun e h => execs gls (call gls tab (k + 3)) nB e h) (P := P) (rngs 0 m) 0 [some (.ref n), some (.d (.int m)), some (.ref h.os.length), none, none] (bs h n o []) (by
    rintro x _ j e h' hj ⟨bx, o, v3, v4, rfl, rfl, rfl, sb, le, g⟩
    obtain ⟨p, o', q, s1, s2, l12, g'⟩ := box_turn (k := k) (h := h) (n := n) (o := o) (m := .d (.int m)) (bx := bx) (v3 := some x) (v4 := v4) l g (by omega) (by omega)
    refine ⟨_, by simp only [store]; rfl, _, _, q, bx ++ [p], o', some x, some (.d (dq p.1)), rfl, rfl, by simp, fun r hr => ?_, fun r hr => ?_, g'⟩
    · rcases List.mem_append.mp hr with hr | hr
      · exact sb r hr
      · rw [List.mem_singleton.mp hr]; exact ⟨s1, s2⟩
    · rcases List.mem_append.mp hr with hr | hr
      · exact le r hr
      · rw [List.mem_singleton.mp hr]; exact l12) ⟨[], o, none, none, rfl, rfl, rfl, (fun _ z => nomatch z), (fun _ z => nomatch z), g⟩ (by omega)
  rw [rl, Nat.zero_add] at hl g'
  refine ⟨bx, o', ?_, hl, sb, le, g'⟩
  rw [call_run t_g_law_box, run_ret (d := bx_ bx) (h1 := bs h n o' (bx.map pr)) rfl rfl]
  · simp [bs, setO]
  have eb : g_law_box.body = [.asg (.var 2) (.lst true []), .forS (.var 3) (.range1 (.var 1)) nB, .ret (.bi .tuple (.var 2))] := rfl
  rw [eb]
  show execs gls _ _ [some (.ref n), some (.d (.int m)), none, none, none] _ = _
  rw [exs_nx (e1 := [some (.ref n), some (.d (.int m)), some (.ref h.os.length), none, none]) (h1 := bs h n o []) (by simp [newO, lnOk, bs_0 e])]
  rw [exs_nx (e1 := [some (.ref n), some (.d (.int m)), some (.ref h.os.length), v3, v4]) (h1 := bs h n o' (bx.map pr)) (by rw [ex_for, w]; exact p)]
  simp [bi, bs_m, bx_]
theorem s_beside {k u : Nat} {h : Hv} {n : Nat} {o : Ob} {p : Rat × Rat} (e : h.os[n]? = some o) (g : Hand u o) (hu : u ≤ 5000) (s1 : Sm 40 p.1) (s2 : Sm 40 p.2) :
    ∃ q o', call gls tab (k + 3) "_law_beside" [.ref n, .d (pr p)] h = .ok (.d (dq q)) (setO h n o') ∧ Sm 100 q ∧ Hand (u + 1) o' := by
  have l : n < h.os.length := (List.getElem?_eq_some_iff.mp e).1
  let c2 : Rat := ⟨1, 2, by decide, by decide⟩
  let c7 : Rat := ⟨1, 7, by decide, by decide⟩
  let c9 : Rat := ⟨1, 9, by decide, by decide⟩
  have m2 : Sm 10 c2 := ⟨by decide, by decide⟩
  have m7 : Sm 10 c7 := ⟨by decide, by decide⟩
  have m9 : Sm 10 c9 := ⟨by decide, by decide⟩
  have a1 := fun h => s_lsum (k := k) (h := h) s1 s2 (by decide)
  have a2 : ∀ h, call gls tab (k + 2) "_law_product" [.d (dq (p.1 + p.2)), .d (.tuple [.int 1, .int 2])] h = .ok (.d (dq ((p.1 + p.2) * c2))) h := fun h => s_lprod (k := k) (h := h) (r := c2) (n := 100) ((s1.add s2).mono (by decide)) (m2.mono (by decide)) (by decide)
  have a3 : ∀ h, call gls tab (k + 2) "_law_gap" [.d (dq p.1), .d (.tuple [.int 1, .int 7])] h = .ok (.d (dq (p.1 - c7))) h := fun h => s_lgap (k := k) (h := h) (r := c7) (n := 100) (s1.mono (by decide)) (m7.mono (by decide)) (by decide)
  have a4 : ∀ h, call gls tab (k + 2) "_law_sum" [.d (dq p.2), .d (.tuple [.int 1, .int 9])] h = .ok (.d (dq (p.2 + c9))) h := fun h => s_lsum (k := k) (h := h) (r := c9) (n := 100) (s2.mono (by decide)) (m9.mono (by decide)) (by decide)
  obtain ⟨x, hx, o2, p2, g2⟩ := s_some (k := k) (h := ⟨h.os, h.os.length⟩) (xs := [dq p.1, dq p.2, dq ((p.1 + p.2) * c2), dq (p.1 - c7), dq (p.2 + c9)]) e g (by omega) (by simp) (by simp)
  have ex : ∃ q, x = dq q ∧ Sm 100 q := by
    simp only [List.mem_cons, List.not_mem_nil, or_false] at hx
    rcases hx with rfl | rfl | rfl | rfl | rfl
    · exact ⟨_, rfl, s1.mono (by decide)⟩
    · exact ⟨_, rfl, s2.mono (by decide)⟩
    · exact ⟨_, rfl, ((s1.add s2).mul m2).mono (by decide)⟩
    · exact ⟨_, rfl, (s1.sub m7).mono (by decide)⟩
    · exact ⟨_, rfl, (s2.add m9).mono (by decide)⟩
  obtain ⟨q, rfl, sq⟩ := ex
  refine ⟨q, o2, ?_, sq, g2⟩
  rw [call_run t_g_law_beside, run_ret (d := dq q) (h1 := setO ⟨h.os, h.os.length⟩ n o2) rfl rfl]
  · simp [setO]
    exact List.take_of_length_le (by simp)
  show execs gls _ [_, _, _] [some (.ref n), some (.d (pr p)), none, none, none] _ = _
  rw [exs_nx (e1 := [some (.ref n), some (.d (pr p)), none, some (.d (dq p.1)), some (.d (dq p.2))]) (h1 := ⟨h.os, h.os.length⟩) (by simp [storeH, store, storeD, pr])]
  rw [exs_nx (e1 := [some (.ref n), some (.d (pr p)), some (.d (.list [dq p.1, dq p.2, dq ((p.1 + p.2) * c2), dq (p.1 - c7), dq (p.2 + c9)])), some (.d (dq p.1)), some (.d (dq p.2))]) (h1 := ⟨h.os, h.os.length⟩) (by simp [a1, a2, a3, a4, lnOk])]
  simp [p2]
end NC
namespace NC
open PySem
theorem cut_m1 {α : Type} (xs : List α) (h : 1 ≤ xs.length) : (cut xs none (some (-1))).length + 1 = xs.length := by
  have e : HT.sIx xs.length xs.length (some (-1)) = xs.length - 1 := by
    show (if (-1 : Int) < 0 then ((-1 : Int) + (xs.length : Int)).toNat else min (-1 : Int).toNat xs.length) = _
    rw [if_pos (by decide)]
    omega
  unfold cut
  rw [List.length_take, List.length_drop, e]
  show min (xs.length - 1 - 0) (xs.length - 0) + 1 = _
  omega
theorem cut_all {α : Type} {p : α → Bool} {xs : List α} {lo hi : Option Int} (h : xs.all p = true) : (cut xs lo hi).all p = true := by
  rw [List.all_eq_true] at h ⊢
  exact fun x hx => h x (cut_mem hx)
theorem not_lt_dec' (q r : Rat) : (!decide (q < r)) = decide (r ≤ q) := not_lt_dec q r
theorem ins_swap : ∀ (b : List (Rat × Rat)) (qs : List Rat), ((qs.zip b).map fun z => decide (z.2.1 ≤ z.1) && decide (z.1 ≤ z.2.2)).all id = ins b qs
  | [], qs => by cases qs <;> rfl
  | _ :: _, [] => rfl
  | p :: b, q :: qs => by
    have := ins_swap b qs
    unfold ins at this ⊢
    rw [List.zip_cons_cons, List.map_cons, List.all_cons, List.zip_cons_cons, List.all_cons, this]
    rfl
theorem sub_dec (a b : Rat) : decide (0 ≤ (a - b).num) = decide (b ≤ a) := by
  rw [decide_eq_decide, Rat.num_nonneg]
  exact (Rat.le_iff_sub_nonneg b a).symm
/-- the names of _law_right -/
abbrev en (n m : Nat) (b : List (Rat × Rat)) (v3 v4 v5 v6 v7 v8 : Option PV) : NC.Env := [some (.ref n), some (.d (.int m)), some (.d (bx_ b)), v3, v4, v5, v6, v7, v8, none, none, none, none, none]
section
variable {k n m : Nat} {b : List (Rat × Rat)} {qs : List Rat} {h : Hv} {v3 v4 v5 v6 v7 v8 : Option PV}
theorem zip_b (qs : List Rat) (b : List (Rat × Rat)) : (((qs.map dq).zip (b.map pr)).map fun p => PV.d (.tuple [p.1, p.2])) = (qs.zip b).map fun z => PV.d (.tuple [dq z.1, pr z.2]) := by simp [List.zip_map, Function.comp_def]
theorem due_1 (sb : SmB 100 b) (sq : SmL 100 qs) (l : b.length ≤ 3) : ev gls (call gls tab (k + 6)) (.comp [13, 11, 12] (.and (.not (.call "_law_is_less" [.var 13, .var 11])) (.not (.call "_law_is_less" [.var 12, .var 13]))) (.tup [.var 13, .tup [.var 11, .var 12]]) (.zip2 (.var 6) (.var 2)) none) (en n m b v3 v4 v5 (some (.d (pt qs))) v7 v8) h = .ok (.d (bl ((qs.zip b).map fun z => decide (z.2.1 ≤ z.1) && decide (z.1 ≤ z.2.2)))) h := by
  refine comp_bz (xs := qs.zip b) (g := fun z => .d (.tuple [dq z.1, pr z.2])) (ps := (((qs.map dq).zip (b.map pr)).map fun p => .d (.tuple [p.1, p.2]))) (by simp [walk, bx_, pt]) (zip_b qs b) (fun z hz => ?_) (by rw [List.length_zip]; omega)
  obtain ⟨q, p⟩ := z
  obtain ⟨hq, hp⟩ := List.of_mem_zip hz
  refine ⟨[some (.ref n), some (.d (.int m)), some (.d (bx_ b)), v3, v4, v5, some (.d (pt qs)), v7, v8, none, none, some (.d (dq p.1)), some (.d (dq p.2)), some (.d (dq q))], by simp [store, storeD, pr, wipe], ?_⟩
  have m1 := fun h => s_lless (k := k + 5) (h := h) (sq q hq) (sb p hp).1 (by decide)
  have m2 := fun h => s_lless (k := k + 5) (h := h) (sb p hp).2 (sq q hq) (by decide)
  rw [← not_lt_dec q p.1, ← not_lt_dec p.2 q]
  by_cases h1 : q < p.1 <;> simp [m1, m2, h1]
theorem due_2 (sb : SmB 100 b) (sq : SmL 100 qs) (l : b.length ≤ 3) : ev gls (call gls tab (k + 6)) (.comp [13, 11, 12] (.and (.call "at_most" [.var 11, .var 13]) (.cmp .ge (.ix (.call "less" [.var 12, .var 13]) (.cst (.int 0))) (.cst (.int 0)))) (.tup [.var 13, .tup [.var 11, .var 12]]) (.zip2 (.var 6) (.var 2)) none) (en n m b v3 v4 v5 (some (.d (pt qs))) v7 v8) h = .ok (.d (bl ((qs.zip b).map fun z => decide (z.2.1 ≤ z.1) && decide (z.1 ≤ z.2.2)))) h := by
  refine comp_bz (xs := qs.zip b) (g := fun z => .d (.tuple [dq z.1, pr z.2])) (ps := (((qs.map dq).zip (b.map pr)).map fun p => .d (.tuple [p.1, p.2]))) (by simp [walk, bx_, pt]) (zip_b qs b) (fun z hz => ?_) (by rw [List.length_zip]; omega)
  obtain ⟨q, p⟩ := z
  obtain ⟨hq, hp⟩ := List.of_mem_zip hz
  refine ⟨[some (.ref n), some (.d (.int m)), some (.d (bx_ b)), v3, v4, v5, some (.d (pt qs)), v7, v8, none, none, some (.d (dq p.1)), some (.d (dq p.2)), some (.d (dq q))], by simp [store, storeD, pr, wipe], ?_⟩
  have m1 := fun h => s_at_most (k := k + 2) (h := h) (sb p hp).1 (sq q hq) (by decide)
  have m2 := fun h => s_less (k := k + 2) (h := h) (sb p hp).2 (sq q hq) (by decide)
  have o1 : ∀ h, ix (.d (dq (p.2 - q))) (.d (.int 0)) h = .ok (.d (.int (p.2 - q).num)) h := fun h => by unfold dq; rw [ix_t0]
  rw [← sub_dec p.2 q]
  by_cases h1 : p.1 ≤ q <;> simp [m1, m2, h1, o1]
end
/-- what is no point of the box -/
def oths (qs : List Rat) : List PyData := [.tuple (qs.map dq ++ [.tuple [.int 0, .int 1]]), .tuple (cut (qs.map dq) none (some (-1))), .list (qs.map dq), .tuple [pt qs], .tuple (cut (qs.map dq) none (some (-1)) ++ [.int 1]), .tuple (cut (qs.map dq) none (some (-1)) ++ [.tuple [.int 2, .int 4]])]
theorem oths_no {qs : List Rat} {b : List (Rat × Rat)} (l : qs.length = b.length) (l1 : 1 ≤ b.length) (l3 : b.length ≤ 3) : ∀ x ∈ oths qs, isFs x b.length = false ∧ ∀ xs, x = .tuple xs → xs.length ≤ 16777216 := by
  have c := cut_m1 (qs.map dq) (by rw [List.length_map]; omega)
  rw [List.length_map] at c
  intro x hx
  unfold oths at hx
  simp only [List.mem_cons, List.not_mem_nil, or_false] at hx
  rcases hx with rfl | rfl | rfl | rfl | rfl | rfl
  · refine ⟨?_, fun xs e => by cases e; simp; omega⟩
    have : ¬ ((qs.map dq ++ [PyData.tuple [.int 0, .int 1]]).length : Int) = b.length := by simp; omega
    simp only [isFs, decide_eq_false this, Bool.false_and]
  · refine ⟨?_, fun xs e => by cases e; omega⟩
    have : ¬ ((cut (qs.map dq) none (some (-1))).length : Int) = b.length := by omega
    simp only [isFs, decide_eq_false this, Bool.false_and]
  · exact ⟨rfl, fun xs e => by cases e⟩
  · refine ⟨?_, fun xs e => by cases e; simp⟩
    have : isF (pt qs) = false := by
      unfold pt isF
      split
      · rename_i t b' e
        match qs, e with
        | [_, _], e => simp [dq] at e
      · rfl
    simp only [isFs, List.all_cons, this, Bool.false_and, Bool.and_false]
  · refine ⟨?_, fun xs e => by cases e; simp; omega⟩
    simp only [isFs, List.all_append, List.all_cons, isF, Bool.false_and, Bool.and_false]
  · refine ⟨?_, fun xs e => by cases e; simp; omega⟩
    have : isF (.tuple [.int 2, .int 4]) = false := by decide
    simp only [isFs, List.all_append, List.all_cons, this, Bool.false_and, Bool.and_false]
theorem any_no {k n m : Nat} {b : List (Rat × Rat)} {qs : List Rat} {h : Hv} {v3 v4 v5 v6 v7 : Option PV} (sb : SmB 100 b) (hb : isBx b = true) (l : qs.length = b.length) (l1 : 1 ≤ b.length) (l3 : b.length ≤ 3) :
    ev gls (call gls tab (k + 6)) (.comp [10] (.cmp .isn (.call "is_inside" [.var 2, .var 10]) (.cst (.bool false))) (.var 10) (.of (.var 8)) none) (en n m b v3 v4 v5 v6 v7 (some (.d (.list (oths qs))))) h = .ok (.d (bl ((oths qs).map fun _ => false))) h := by
  refine comp_bz (xs := oths qs) (g := PV.d) (ps := (oths qs).map PV.d) (by simp [walk1]) rfl (fun x hx => ?_) (by simp [oths])
  obtain ⟨f, lx⟩ := oths_no l l1 l3 x hx
  have i := fun h => s_inside_no (k := k) (h := h) sb (by decide) hb lx f
  refine ⟨[some (.ref n), some (.d (.int m)), some (.d (bx_ b)), v3, v4, v5, v6, v7, some (.d (.list (oths qs))), none, some (.d x), none, none, none], by simp [store, wipe], ?_⟩
  simp [i]
end NC
namespace NC
open PySem PySem.Spec PyProof.Rows
open L2 (Room)
theorem ys_dq {n : Nat} : ∀ {ys : List PyData}, (∀ y ∈ ys, ∃ q, y = dq q ∧ Sm n q) → ∃ qs : List Rat, ys = qs.map dq ∧ SmL n qs
  | [], _ => ⟨[], rfl, fun _ z => nomatch z⟩
  | y :: ys, h => by
    obtain ⟨qs, e, s⟩ := ys_dq fun z hz => h z (List.mem_cons_of_mem _ hz)
    obtain ⟨q, rfl, sq⟩ := h y List.mem_cons_self
    refine ⟨q :: qs, by rw [e]; rfl, fun r hr => ?_⟩
    rcases List.mem_cons.mp hr with rfl | hr
    · exact sq
    · exact s r hr
def rB : List S := match g_law_right.body.getD 3 .pass with
  | .forS _ _ b => b
  | _ => []
theorem rp2' {n d : Nat} {x y : PyData} (a : Rp n d x) (b : Rp n d y) : Rp ((n + 2) * 2 + 3) (d + 1) (.list [x, y]) := rp2 a b
theorem is_bb {k : Nat} {h : Hv} {a c : Bool} : call gls tab (k + 1) "_law_is" [.d (.list [.bool a, .bool c]), .d (.list [.bool a, .bool c])] h = .ok (.d (.bool true)) h := s_is (rp2 rp_bool rp_bool) (by decide) (by decide) rfl
theorem is_bbb {k : Nat} {h : Hv} {a b c : Bool} : call gls tab (k + 1) "_law_is" [.d (.list [.bool a, .bool b, .bool c]), .d (.list [.bool a, .bool b, .bool c])] h = .ok (.d (.bool true)) h := s_is (rp3 rp_bool rp_bool rp_bool) (by decide) (by decide) rfl
theorem turn {k u n m : Nat} {h : Hv} {o : Ob} {b : List (Rat × Rat)} {v3 v6 v7 v8 : Option PV} (e : h.os[n]? = some o) (g : Hand u o) (hu : u ≤ 4000) (sb : SmB 40 b) (hb : isBx b = true) (l1 : 1 ≤ b.length) (l3 : b.length ≤ 3) :
    ∃ o' v6' v7' v8', execs gls (call gls tab (k + 6)) rB (en n m b v3 none none v6 v7 v8) h = .ok (.nx (en n m b v3 none none v6' v7' v8')) (setO h n o') ∧ Hand (u + 3) o' := by
  have l : n < h.os.length := (List.getElem?_eq_some_iff.mp e).1
  have sb' : SmB 100 b := fun p hp => ⟨(sb p hp).1.mono (by decide), (sb p hp).2.mono (by decide)⟩
  obtain ⟨ys, h', q, ql, qr, o', rfl, g'⟩ := comp_run (J := b.length) (tg := .var 9) (cond := fun e h => noexc (.ok (.d (.bool true)) h)) (elt := fun e h => noexc (ev gls (call gls tab (k + 6)) (.call "_law_beside" [.var 0, .var 9]) e h)) (e := en n m b v3 none none v6 v7 v8) (P := fun j h' => ∃ o', h' = setO h n o' ∧ Hand (u + j) o') (R := fun y => ∃ q, y = dq q ∧ Sm 100 q) ((b.map pr).map PV.d) [] 0 h (by
      rintro x hx j h' hj ⟨o1, rfl, g1⟩
      obtain ⟨d, hd, rfl⟩ := List.mem_map.mp hx
      obtain ⟨p, hp, rfl⟩ := List.mem_map.mp hd
      obtain ⟨q, o2, p2, sq, g2⟩ := s_beside (k := k + 3) (h := setO h n o1) (p := p) (setO_get l) g1 (by omega) (sb p hp).1 (sb p hp).2
      rw [setO_two] at p2
      refine ⟨_, by rw [store_v]; rfl, rfl, dq q, setO h n o2, ?_, ⟨q, rfl, sq⟩, o2, rfl, g2⟩
      show noexc (ev gls (call gls tab (k + 6)) (.call "_law_beside" [.var 0, .var 9]) [some (.ref n), some (.d (.int m)), some (.d (bx_ b)), v3, none, none, v6, v7, v8, some (.d (pr p)), none, none, none, none] (setO h n o1)) = _
      simp [p2]) ⟨o, (setO_same e).symm, g⟩ (by simp) (by simp; omega)
  obtain ⟨qs, rfl, sq⟩ := ys_dq qr
  have lq : qs.length = b.length := by simpa using ql
  have g3 : Hand (u + 3) o' := g'.mono (by simp; omega)
  refine ⟨o', some (.d (pt qs)), some (.d (.bool (ins b qs))), some (.d (.list (oths qs))), ?_, g3⟩
  have e1 : exec gls (call gls tab (k + 6)) (.asg (.var 6) (.bi .tuple (.comp [9] (.call "_law_beside" [(.var 0), (.var 9)]) (.var 9) (.of (.var 2)) none))) (en n m b v3 none none v6 v7 v8) h = .ok (.nx (en n m b v3 none none (some (.d (pt qs))) v7 v8)) (setO h n o') := by
    rw [ex_asg, ev_bi, ev_comp]
    have wk : walk gls (call gls tab (k + 6)) (.of (.var 2)) (en n m b v3 none none v6 v7 v8) h = .ok ⟨(b.map pr).map PV.d, .no⟩ h := by simp [walk1, bx_]
    rw [wk]
    show ((compL .no (.var 9) (fun e h => noexc (.ok (.d (.bool true)) h)) _ (en n m b v3 none none v6 v7 v8) ((b.map pr).map PV.d) [] h).bind _).bind _ = _
    rw [q]
    simp [pt]
  have d1 := due_1 (k := k) (n := n) (m := m) (h := setO h n o') (v3 := v3) (v4 := none) (v5 := none) (v7 := v7) (v8 := v8) sb' sq l3
  have d2 := due_2 (k := k) (n := n) (m := m) (h := setO h n o') (v3 := v3) (v4 := none) (v5 := none) (v7 := some (.d (.bool (ins b qs)))) (v8 := v8) sb' sq l3
  have pt1 := fun h => s_is_point (k := k + 2) (x := pt qs) (h := h)
  have pt2 : isPt (pt qs) = true := by
    have : (qs.map dq).all isF = true := by simp [isF_dq]
    simp only [isPt, pt, List.length_map, this, Bool.and_true, Bool.and_eq_true, decide_eq_true_eq]
    omega
  have in1 := fun h => s_inside (k := k) (h := h) sb' sq (by decide) hb lq
  have an := any_no (k := k) (n := n) (m := m) (h := setO h n o') (qs := qs) (v3 := v3) (v4 := none) (v5 := none) (v6 := some (.d (pt qs))) (v7 := some (.d (.bool (ins b qs)))) sb' hb lq l1 l3
  show execs gls (call gls tab (k + 6)) [_, _, _, _, _, _] _ _ = _
  rw [exs_nx e1]
  rw [exs_nx (e1 := en n m b v3 none none (some (.d (pt qs))) (some (.d (.bool (ins b qs)))) v8) (h1 := setO h n o') (by
    rw [ex_asg, ev_bi, d1, Res.bind_ok, all_bl, ins_swap]
    simp)]
  rw [exs_nx (e1 := en n m b v3 none none (some (.d (pt qs))) (some (.d (.bool (ins b qs)))) v8) (h1 := setO h n o') (by simp [pt1, pt2, in1, is_bb, lnOk])]
  rw [exs_nx (e1 := en n m b v3 none none (some (.d (pt qs))) (some (.d (.bool (ins b qs)))) v8) (h1 := setO h n o') (by
    have a7 : ev gls (call gls tab (k + 6)) (.var 7) (en n m b v3 none none (some (.d (pt qs))) (some (.d (.bool (ins b qs)))) v8) (setO h n o') = .ok (.d (.bool (ins b qs))) (setO h n o') := by rw [ev_var]; rfl
    rw [ex_if, ev_cmp, a7, Res.bind_ok, ev_bi, d2, Res.bind_ok, all_bl, ins_swap]
    simp)]
  have lc := cut_len (xs := qs.map dq) (lo := none) (hi := some (-1))
  rw [List.length_map] at lc
  have z1 : lnOk (qs.length + 1) = true := decide_eq_true (by omega)
  have z2 : lnOk ((cut (qs.map dq) none (some (-1))).length + 1) = true := decide_eq_true (by omega)
  rw [exs_nx (e1 := en n m b v3 none none (some (.d (pt qs))) (some (.d (.bool (ins b qs)))) (some (.d (.list (oths qs))))) (h1 := setO h n o') (by
    have zz : lnOk 6 = true := by decide
    have z3 : lnOk 1 = true := by decide
    have z4 : lnOk 2 = true := by decide
    simp [pt, slc, oths, z1, z2, z3, z4, zz])]
  rw [exs_nx (e1 := en n m b v3 none none (some (.d (pt qs))) (some (.d (.bool (ins b qs)))) (some (.d (.list (oths qs))))) (h1 := setO h n o') (by
    rw [ex_if, ev_bi, an, Res.bind_ok, any_bl]
    simp)]
  rfl
end NC
namespace NC
open PySem PySem.Spec PyProof.Rows
open L2 (Room)
theorem dq_eq {a b : Rat} : dq a = dq b ↔ a = b := by
  constructor
  · intro h
    unfold dq at h
    simp only [PyData.tuple.injEq, List.cons.injEq, PyData.int.injEq, and_true] at h
    exact Rat.ext h.1 (by omega)
  · rintro rfl; rfl
theorem eqv_dq' (a b : Rat) : PyData.eqv (dq a) (dq b) = decide (a = b) := by
  have e1 : PyData.eqv (dq a) (dq b) = ((a.num == b.num) && ((a.den : Int) == b.den)) := by
    unfold dq
    simp [PyData.eqv, PyData.eqvAll]
  rw [e1]
  by_cases h : a = b
  · subst h
    simp
  · rw [decide_eq_false h]
    by_cases h1 : a.num = b.num
    · have h2 : ¬ (a.den : Int) = b.den := fun h2 => h (Rat.ext h1 (by omega))
      simp only [beq_eq_false_iff_ne.mpr h2, Bool.and_false]
    · simp only [beq_eq_false_iff_ne.mpr h1, Bool.false_and]
@[simp] theorem eq_dq {a b : Rat} {h : Hv} : cm .eq (.d (dq a)) (.d (dq b)) h = .ok (.d (.bool (decide (a = b)))) h := by
  show (if eqOk (dq a) (dq b) then Res.ok (PV.d (.bool (PyData.eqv (dq a) (dq b)))) h else .bad) = _
  rw [if_pos (show eqOk (dq a) (dq b) = true by unfold eqOk; rw [shaped_dq, shaped_dq]; simp), eqv_dq']
def swp (b : List (Rat × Rat)) : List (Rat × Rat) := b.map fun p => (p.2, p.1)
def thin (b : List (Rat × Rat)) : Bool := b.all fun p => decide (p.1 = p.2)
theorem swp_box {b : List (Rat × Rat)} (hb : isBx b = true) (le : ∀ p ∈ b, p.1 ≤ p.2) : isBx (swp b) = thin b := by
  unfold isBx at hb ⊢
  simp only [Bool.and_eq_true, decide_eq_true_eq] at hb
  have l1 : (swp b).length = b.length := by simp [swp]
  rw [l1, decide_eq_true hb.1.1, decide_eq_true hb.1.2]
  unfold swp thin
  rw [List.all_map, Bool.and_self, Bool.true_and]
  apply Bool.eq_iff_iff.mpr
  simp only [List.all_eq_true, Function.comp_apply, decide_eq_true_eq]
  constructor
  · intro h p hp
    exact Rat.le_antisymm (le p hp) (h p hp)
  · intro h p hp
    rw [h p hp]
    exact Rat.le_refl
def rTail : List S := g_law_right.body.drop 4
theorem walk_bx {C : Fns} {n m : Nat} {b : List (Rat × Rat)} {h : Hv} {v3 v4 v5 v6 v7 v8 : Option PV} : walk gls C (.of (.var 2)) (en n m b v3 v4 v5 v6 v7 v8) h = .ok ⟨(b.map pr).map PV.d, .no⟩ h := by simp [walk1, bx_]
theorem store_p {n m : Nat} {b : List (Rat × Rat)} {v3 v4 v5 v6 v7 v8 : Option PV} {p : Rat × Rat} : store (.tup [.var 11, .var 12]) (.d (pr p)) (wipe (en n m b v3 v4 v5 v6 v7 v8) [11, 12]) = some [some (.ref n), some (.d (.int m)), some (.d (bx_ b)), v3, v4, v5, v6, v7, v8, none, none, some (.d (dq p.1)), some (.d (dq p.2)), none] := by simp [store, storeD, pr, wipe]
theorem tail {k n m : Nat} {h : Hv} {b : List (Rat × Rat)} {v3 v6 v7 v8 : Option PV} (sb : SmB 40 b) (hb : isBx b = true) (l1 : 1 ≤ b.length) (l3 : b.length ≤ 3) (le : ∀ p ∈ b, p.1 ≤ p.2) :
    execs gls (call gls tab (k + 6)) rTail (en n m b v3 none none v6 v7 v8) h = .ok (.ret (.d (.bool true))) h := by
  have sw : SmB 40 (swp b) := fun p hp => by
    obtain ⟨q, hq, rfl⟩ := List.mem_map.mp hp
    exact ⟨(sb q hq).2, (sb q hq).1⟩
  have c1 : ev gls (call gls tab (k + 6)) (.comp [11, 12] (.tup [.var 12, .var 11]) (.tup [.var 11, .var 12]) (.of (.var 2)) none) (en n m b v3 none none v6 v7 v8) h = .ok (.d (.list ((swp b).map pr))) h := by
    have := comp_dz (own := [11, 12]) (elt := .tup [.var 12, .var 11]) (tg := .tup [.var 11, .var 12]) (C := call gls tab (k + 6)) (f := fun p : Rat × Rat => pr (p.2, p.1)) (g := fun p => .d (pr p)) (xs := b) (walk_bx (C := call gls tab (k + 6)) (n := n) (m := m) (b := b) (h := h) (v3 := v3) (v4 := none) (v5 := none) (v6 := v6) (v7 := v7) (v8 := v8)) (by simp) (fun p _ => ⟨_, store_p, by simp [lnOk, pr]⟩) (by omega)
    rw [this]
    simp [swp]
  have c2 := comp_bz (own := [11, 12]) (elt := .cmp .eq (.var 11) (.var 12)) (tg := .tup [.var 11, .var 12]) (C := call gls tab (k + 6)) (f := fun p : Rat × Rat => decide (p.1 = p.2)) (g := fun p => .d (pr p)) (xs := b) (walk_bx (C := call gls tab (k + 6)) (n := n) (m := m) (b := b) (h := h) (v3 := v3) (v4 := some (.d (bx_ (swp b)))) (v5 := none) (v6 := v6) (v7 := v7) (v8 := v8)) (by simp) (fun p _ => ⟨_, store_p, by simp⟩) (by omega)
  have t2 : (b.map fun p => decide (p.1 = p.2)).all id = thin b := by simp [thin, List.all_map, Function.comp_def]
  have c3 : ev gls (call gls tab (k + 6)) (.comp [11, 12] (.var 11) (.tup [.var 11, .var 12]) (.of (.var 2)) none) (en n m b v3 (some (.d (bx_ (swp b)))) (some (.d (.bool (thin b)))) v6 v7 v8) h = .ok (.d (.list ((b.map (·.1)).map dq))) h := by
    have := comp_dz (own := [11, 12]) (elt := .var 11) (tg := .tup [.var 11, .var 12]) (C := call gls tab (k + 6)) (f := fun p : Rat × Rat => dq p.1) (g := fun p => .d (pr p)) (xs := b) (walk_bx (C := call gls tab (k + 6)) (n := n) (m := m) (b := b) (h := h) (v3 := v3) (v4 := some (.d (bx_ (swp b)))) (v5 := some (.d (.bool (thin b)))) (v6 := v6) (v7 := v7) (v8 := v8)) (by simp) (fun p _ => ⟨_, store_p, by simp⟩) (by omega)
    rw [this]
    simp
  have b1 : ∀ h, call gls tab (k + 6) "is_box" [.d (bx_ (swp b))] h = .ok (.d (.bool (thin b))) h := fun h => by
    rw [← swp_box hb le]
    exact s_is_box (k := k + 1) (h := h) sw (by decide)
  have b2 : ∀ h, call gls tab (k + 6) "is_box" [.d (.list (b.map pr))] h = .ok (.d (.bool false)) h := fun h => by
    rw [call_run t_f_is_box]
    simp only [f_is_box, run]
    simp [back, isTy, - ev_comp]
  have b3 : ∀ h, call gls tab (k + 6) "is_box" [.d (.tuple (((b.map pr ++ b.map pr) ++ b.map pr) ++ b.map pr))] h = .ok (.d (.bool false)) h := fun h => by
    have e : ((b.map pr ++ b.map pr) ++ b.map pr) ++ b.map pr = (((b ++ b) ++ b) ++ b).map pr := by simp
    have s4 : SmB 40 (((b ++ b) ++ b) ++ b) := fun p hp => sb p (by simp at hp; exact hp)
    have f4 : isBx (((b ++ b) ++ b) ++ b) = false := by
      unfold isBx
      have : ¬ (((b ++ b) ++ b) ++ b).length ≤ 3 := by simp; omega
      rw [decide_eq_false this]
      simp
    rw [e, s_is_box (k := k + 1) (h := h) s4 (by decide), f4]
  have p1 : ∀ h, call gls tab (k + 6) "is_point" [.d (.tuple ((b.map (·.1)).map dq))] h = .ok (.d (.bool true)) h := fun h => by
    rw [s_is_point (k := k + 2)]
    have : ((b.map (·.1)).map dq).all isF = true := by simp [isF_dq]
    simp only [isPt, this, Bool.and_true, List.length_map]
    rw [decide_eq_true l1, decide_eq_true l3]
    rfl
  have i1 := fun h => s_inside_no (k := k) (x := bx_ b) (h := h) sb (by decide) hb (fun xs e => by cases e; rw [List.length_map]; omega) (by
    match b, l1 with
    | p :: r, _ =>
      have : isF (pr p) = false := by simp [isF, pr, dq]
      simp [isFs, bx_, this])
  have z1 : lnOk (b.length + b.length) = true := decide_eq_true (by omega)
  have z2 : lnOk (b.length + b.length + b.length) = true := decide_eq_true (by omega)
  have z3 : lnOk (b.length + b.length + b.length + b.length) = true := decide_eq_true (by omega)
  have z4 : lnOk 3 = true := by decide
  show execs gls (call gls tab (k + 6)) [_, _, _, _] _ _ = _
  rw [exs_nx (e1 := en n m b v3 (some (.d (bx_ (swp b)))) none v6 v7 v8) (h1 := h) (by
    rw [ex_asg, ev_bi, c1, Res.bind_ok, tup_l]
    simp [bx_])]
  rw [exs_nx (e1 := en n m b v3 (some (.d (bx_ (swp b)))) (some (.d (.bool (thin b)))) v6 v7 v8) (h1 := h) (by
    rw [ex_asg, ev_bi, c2, Res.bind_ok, all_bl, t2]
    simp)]
  have aa : ∀ h, op .add (.d (bx_ b)) (.d (bx_ b)) h = .ok (.d (.tuple (b.map pr ++ b.map pr))) h := fun h => by simp [bx_, z1]
  have ab : ∀ h, op .add (.d (.tuple (b.map pr ++ b.map pr))) (.d (bx_ b)) h = .ok (.d (.tuple (b.map pr ++ b.map pr ++ b.map pr))) h := fun h => by
    show (if lnOk ((b.map pr ++ b.map pr).length + (b.map pr).length) then _ else _) = _
    exact if_pos (decide_eq_true (by simp; omega))
  have ac : ∀ h, op .add (.d (.tuple (b.map pr ++ b.map pr ++ b.map pr))) (.d (bx_ b)) h = .ok (.d (.tuple (b.map pr ++ b.map pr ++ b.map pr ++ b.map pr))) h := fun h => by
    show (if lnOk ((b.map pr ++ b.map pr ++ b.map pr).length + (b.map pr).length) then _ else _) = _
    exact if_pos (decide_eq_true (by simp; omega))
  have al : ∀ h, bi .list (.d (bx_ b)) h = .ok (.d (.list (b.map pr))) h := fun h => rfl
  rw [exs_nx (e1 := en n m b v3 (some (.d (bx_ (swp b)))) (some (.d (.bool (thin b)))) v6 v7 v8) (h1 := h) (by
    simp only [ex_if, ev_not, ev_call, evs_cons, evs_nil, ev_lst, ev_bi, ev_bin, ev_var, ev_cst, en, List.getElem?_cons_succ, List.getElem?_cons_zero, Res.bind_ok, b1, al, b2, aa, ab, ac, b3, allD_d, allD_nil, Option.map_some]
    simp [z4, is_bbb])]
  rw [exs_cons, ex_ret, ev_and, ev_cmp, ev_call, evs_cons, ev_bi, c3, Res.bind_ok, tup_l, Res.bind_ok, evs_nil, Res.bind_ok, Res.bind_ok, p1, Res.bind_ok]
  simp [i1]
end NC
namespace NC
open PySem PySem.Spec PyProof.Rows
open L2 (Room)
theorem asg_of {G : Gls} {C : Fns} {i : Nat} {a : E} {e : NC.Env} {h h1 : Hv} {v : PV} (p : ev G C a e h = .ok v h1) (l : i < e.length) : exec G C (.asg (.var i) a) e h = .ok (.nx (e.set i (some v))) h1 := by rw [ex_asg, p, Res.bind_ok, st_v, if_pos l]
theorem ev_call2 {G : Gls} {C : Fns} {x : Str} {i j : Nat} {e : NC.Env} {h : Hv} {v w : PV} (p : e[i]? = some (some v)) (q : e[j]? = some (some w)) : ev G C (.call x [.var i, .var j]) e h = C x [v, w] h := by simp [p, q]
theorem s_right {k u : Nat} {h : Hv} {n : Nat} {o : Ob} (e : h.os[n]? = some o) (g : Hand u o) (hu : u ≤ 2000) :
    ∃ o', call gls tab (k + 7) "_law_right" [.ref n] h = .ok (.d (.bool true)) (setO h n o') ∧ Hand (u + 20) o' := by
  have l : n < h.os.length := (List.getElem?_eq_some_iff.mp e).1
  obtain ⟨d, o1, p1, d0, d1, g1⟩ := s_draw (k := k + 5) (h := ⟨h.os, h.os.length⟩) (m := 3) e g (by omega) (by decide) (Lt_of (by decide))
  obtain ⟨m, hm⟩ : ∃ m : Nat, 1 + d = (m : Int) := ⟨(1 + d).toNat, by omega⟩
  have m1 : 1 ≤ m := by omega
  have m3 : m ≤ 3 := by omega
  obtain ⟨b, o2, p2, lb, sb, le, g2⟩ := s_box (k := k + 2) (h := setO ⟨h.os, h.os.length⟩ n o1) (m := m) (setO_get l) g1 (by omega) m3
  rw [setO_two] at p2
  have hb : isBx b = true := by
    unfold isBx
    simp only [Bool.and_eq_true, decide_eq_true_eq, List.all_eq_true]
    exact ⟨⟨by omega, by omega⟩, le⟩
  have bx1 : ∀ h, call gls tab (k + 6) "is_box" [.d (bx_ b)] h = .ok (.d (.bool true)) h := fun h => by rw [← hb]; exact s_is_box (k := k + 1) (h := h) sb (by decide)
  let P : Nat → NC.Env → Hv → Prop := fun j e h' => ∃ (o : Ob) (v3 v6 v7 v8 : Option PV), e = en n m b v3 none none v6 v7 v8 ∧ h' = setO ⟨h.os, h.os.length⟩ n o ∧ Hand (u + 7 + 3 * j) o
  have g2' : Hand (u + 7) o2 := g2.mono (by omega)
  obtain ⟨e', h', p, o3, v3, v6, v7, v8, rfl, rfl, g3⟩ := for_run (J := 4) (tg := .var 3) (body := fun e h => execs gls (call gls tab (k + 6)) rB e h) (P := P) (rngs 0 4) 0 (en n m b none none none none none none) (setO ⟨h.os, h.os.length⟩ n o2) (by
    rintro x _ j e h' hj ⟨o, v3, v6, v7, v8, rfl, rfl, g⟩
    obtain ⟨o', v6', v7', v8', q, g'⟩ := turn (k := k) (n := n) (m := m) (h := setO ⟨h.os, h.os.length⟩ n o) (v3 := some x) (v6 := v6) (v7 := v7) (v8 := v8) (setO_get l) g (by omega) sb hb (by omega) (by omega)
    rw [setO_two] at q
    exact ⟨_, by rw [store_v]; rfl, _, _, q, o', some x, v6', v7', v8', rfl, rfl, g'.mono (by omega)⟩) ⟨o2, none, none, none, none, rfl, rfl, g2'⟩ (by rw [rngs_len]; decide)
  refine ⟨o3, ?_, g3.mono (by rw [rngs_len]; omega)⟩
  rw [call_run t_g_law_right, run_ret (d := .bool true) (h1 := setO ⟨h.os, h.os.length⟩ n o3) rfl rfl]
  · simp [setO]
    exact List.take_of_length_le (by simp)
  have eb : g_law_right.body = (.asg (.var 1) (.bin .add (.cst (.int 1)) (.call "_law_draw" [(.var 0), (.cst (.int 3))]))) :: (.asg (.var 2) (.call "_law_box" [(.var 0), (.var 1)])) :: (.ifS (.cmp .isn (.call "is_box" [(.var 2)]) (.cst (.bool true))) [(.ret (.cst (.bool false)))] []) :: (.forS (.var 3) (.range1 (.cst (.int 4))) rB) :: rTail := rfl
  rw [eb]
  show execs gls _ _ [some (.ref n), none, none, none, none, none, none, none, none, none, none, none, none, none] _ = _
  rw [exs_nx (e1 := [some (.ref n), some (.d (.int m)), none, none, none, none, none, none, none, none, none, none, none, none]) (h1 := setO ⟨h.os, h.os.length⟩ n o1) (by simp [p1, hm])]
  have st2 : exec gls (call gls tab (k + 6)) (.asg (.var 2) (.call "_law_box" [(.var 0), (.var 1)])) [some (.ref n), some (.d (.int m)), none, none, none, none, none, none, none, none, none, none, none, none] (setO ⟨h.os, h.os.length⟩ n o1) = .ok (.nx (en n m b none none none none none none)) (setO ⟨h.os, h.os.length⟩ n o2) := asg_of (i := 2) ((ev_call2 rfl rfl).trans p2) (by simp)
  rw [exs_nx st2]
  rw [exs_nx (e1 := en n m b none none none none none none) (h1 := setO ⟨h.os, h.os.length⟩ n o2) (by simp [bx1])]
  rw [exs_nx (e1 := en n m b v3 none none v6 v7 v8) (h1 := setO ⟨h.os, h.os.length⟩ n o3) (by
    rw [ex_for, walk_r1 (i := 4) (h1 := setO ⟨h.os, h.os.length⟩ n o2) (by rw [ev_cst]) (b62_of (by decide) (by decide))]
    exact p)]
  exact tail sb hb (by omega) (by omega) le
def depth : Nat := 100
theorem law_is (ns : List Int) (hn : ns.length ≤ 63) (hb : ∀ z ∈ ns, Builtin.Int.intBits z ≤ 1048576) : ∃ h, call gls tab depth "law" [.scr (ns.map .int)] h00 = .ok (.d (.bool true)) h := by
  obtain ⟨o, p, g⟩ := s_hand (k := 98) (ns := ns) hn
  obtain ⟨ys, h', q, ql, qr, _⟩ := comp_run (J := 3) (tg := .var 2) (cond := fun e h => noexc (.ok (.d (.bool true)) h)) (elt := fun e h => noexc (ev gls (call gls tab 99) (.call "_law_right" [.var 1]) e h)) (e := [some (.scr (ns.map .int)), some (.ref 0), none]) (P := fun j h => ∃ o, h = ⟨[o], 0⟩ ∧ Hand (20 * j) o) (R := fun y => y = .bool true) (rngs 0 3) [] 0 ⟨[o], 0⟩ (by
      rintro x _ j h hj ⟨o, rfl, g⟩
      obtain ⟨o', p, g'⟩ := s_right (k := 92) (h := ⟨[o], 0⟩) (n := 0) rfl g (by omega)
      refine ⟨_, by rw [store_v]; rfl, rfl, .bool true, ⟨[o'], 0⟩, ?_, rfl, o', rfl, g'⟩
      simp [p, setO]) ⟨o, rfl, g⟩ (by decide) (by decide)
  refine ⟨⟨h'.os.take 0, 0⟩, ?_⟩
  rw [show depth = 99 + 1 from rfl, call_run t_f_law]
  have eb : f_law.body = [(.asg (.var 1) (.call "_law_hand" [(.var 0)])), (.ret (.bi .all (.comp [2] (.call "_law_right" [(.var 1)]) (.var 2) (.range1 (.cst (.int 3))) none)))] := rfl
  refine run_ret (d := .bool true) rfl rfl ?_
  rw [eb]
  show execs gls _ _ [some (.scr (ns.map .int)), none, none] h00 = _
  rw [exs_nx (e1 := [some (.scr (ns.map .int)), some (.ref 0), none]) (h1 := ⟨[o], 0⟩) (by simp [p]), exs_cons, ex_ret, ev_bi, ev_comp, walk_r1 (i := 3) (h1 := ⟨[o], 0⟩) (by rw [ev_cst]) (b62_of (by decide) (by decide))]
  show ((((compL .no (.var 2) (fun e h => noexc (.ok (.d (.bool true)) h)) _ [some (.scr (ns.map .int)), some (.ref 0), none] (rngs 0 3) [] ⟨[o], 0⟩).bind _).bind _).bind _) = _
  rw [q]
  simp [all_true qr]
theorem law_room : Room depth callerA := ⟨rfl, by decide, by decide⟩
theorem law_in : ("law" : Str) ∈ Ds := by decide
end NC
open PySem PySem.W PyProof.Rows
set_option maxRecDepth 100000 in
set_option maxHeartbeats 0 in
theorem PySem.Challenge.cw_nocliff_k03_whole_points_and_boxes_holds : PySem.Challenge.rw_nocliff_k03_whole_points_and_boxes.Holds := by
  w_on; o_law; k_head; (case hw => w_witness2)
  k_fill
  refine NC.the_end (k := NC.depth) (D := NC.Ds) (Dx := NC.Dxs) (Gs := NC.gls) (T := NC.tab) (l := PySem.Challenge.rw_nocliff_k03_whole_points_and_boxes) rfl (by decide) rfl NC.law_in NC.law_room (fun w h Y => PySem.W.kIn_of Y) ?F NC.law_is
  case F =>
    intro w mg h KX N
    refine' NC.module_is KX N ?a0 ?l0 ?d0 ?k0 ?a1 ?l1 ?d1 ?k1 ?a2 ?l2 ?d2 ?k2 ?a3 ?l3 ?d3 ?k3 ?a4 ?l4 ?d4 ?k4 ?a5 ?l5 ?d5 ?k5 ?a6 ?l6 ?d6 ?k6 ?a7 ?l7 ?d7 ?k7 ?a8 ?l8 ?d8 ?k8 ?a9 ?l9 ?d9 ?k9 ?a10 ?l10 ?d10 ?k10 ?a11 ?l11 ?d11 ?k11 ?a12 ?l12 ?d12 ?k12 ?a13 ?l13 ?d13 ?k13 ?a14 ?l14 ?d14 ?k14 ?a15 ?l15 ?d15 ?k15 ?a16 ?l16 ?d16 ?k16 ?a17 ?l17 ?d17 ?k17 ?a18 ?l18 ?d18 ?k18 ?a19 ?l19 ?d19 ?k19 ?a20 ?l20 ?d20 ?k20 ?a21 ?l21 ?d21 ?k21 ?a22 ?l22 ?d22 ?k22 ?a23 ?l23 ?d23 ?k23 ?a24 ?l24 ?d24 ?k24 ?a25 ?l25 ?d25 ?k25 ?a26 ?l26 ?d26 ?k26 ?a27 ?l27 ?d27 ?k27 ?a28 ?l28 ?d28 ?k28 ?b0 ?b1 ?b2 ?b3 ?b4 ?b5 ?b6 ?b7 ?b8 ?b9 ?b10 ?b11 ?b12 ?b13 ?b14 ?x0 ?xe0 ?xk0 ?xs0 ?xt0 ?x1 ?xe1 ?xk1 ?xs1 ?xt1 ?gi0
    case a0 => k_is
    case l0 => k_is
    case d0 => k_is
    case k0 => k_is
    case a1 => k_is
    case l1 => k_is
    case d1 => k_is
    case k1 => k_is
    case a2 => k_is
    case l2 => k_is
    case d2 => k_is
    case k2 => k_is
    case a3 => k_is
    case l3 => k_is
    case d3 => k_is
    case k3 => k_is
    case a4 => k_is
    case l4 => k_is
    case d4 => k_is
    case k4 => k_is
    case a5 => k_is
    case l5 => k_is
    case d5 => k_is
    case k5 => k_is
    case a6 => k_is
    case l6 => k_is
    case d6 => k_is
    case k6 => k_is
    case a7 => k_is
    case l7 => k_is
    case d7 => k_is
    case k7 => k_is
    case a8 => k_is
    case l8 => k_is
    case d8 => k_is
    case k8 => k_is
    case a9 => k_is
    case l9 => k_is
    case d9 => k_is
    case k9 => k_is
    case a10 => k_is
    case l10 => k_is
    case d10 => k_is
    case k10 => k_is
    case a11 => k_is
    case l11 => k_is
    case d11 => k_is
    case k11 => k_is
    case a12 => k_is
    case l12 => k_is
    case d12 => k_is
    case k12 => k_is
    case a13 => k_is
    case l13 => k_is
    case d13 => k_is
    case k13 => k_is
    case a14 => k_is
    case l14 => k_is
    case d14 => k_is
    case k14 => k_is
    case a15 => k_is
    case l15 => k_is
    case d15 => k_is
    case k15 => k_is
    case a16 => k_is
    case l16 => k_is
    case d16 => k_is
    case k16 => k_is
    case a17 => k_is
    case l17 => k_is
    case d17 => k_is
    case k17 => k_is
    case a18 => k_is
    case l18 => k_is
    case d18 => k_is
    case k18 => k_is
    case a19 => k_is
    case l19 => k_is
    case d19 => k_is
    case k19 => k_is
    case a20 => k_is
    case l20 => k_is
    case d20 => k_is
    case k20 => k_is
    case a21 => k_is
    case l21 => k_is
    case d21 => k_is
    case k21 => k_is
    case a22 => k_is
    case l22 => k_is
    case d22 => k_is
    case k22 => k_is
    case a23 => k_is
    case l23 => k_is
    case d23 => k_is
    case k23 => k_is
    case a24 => k_is
    case l24 => k_is
    case d24 => k_is
    case k24 => k_is
    case a25 => k_is
    case l25 => k_is
    case d25 => k_is
    case k25 => k_is
    case a26 => k_is
    case l26 => k_is
    case d26 => k_is
    case k26 => k_is
    case a27 => k_is
    case l27 => k_is
    case d27 => k_is
    case k27 => k_is
    case a28 => k_is
    case l28 => k_is
    case d28 => k_is
    case k28 => k_is
    case b0 => k_is
    case b1 => k_is
    case b2 => k_is
    case b3 => k_is
    case b4 => k_is
    case b5 => k_is
    case b6 => k_is
    case b7 => k_is
    case b8 => k_is
    case b9 => k_is
    case b10 => k_is
    case b11 => k_is
    case b12 => k_is
    case b13 => k_is
    case b14 => k_is
    case x0 => k_is
    case xe0 => k_exc
    case xk0 => k_is
    case xs0 => k_is
    case xt0 => k_is
    case x1 => k_is
    case xe1 => k_exc
    case xk1 => k_is
    case xs1 => k_is
    case xt1 => k_is
    case gi0 => k_is
