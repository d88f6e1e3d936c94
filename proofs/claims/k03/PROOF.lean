import PyProof.Rows.All
import Wide.All
import OpenK.AllK
import Wide.FinOn
import HandS.ForMost
import HandS.ForExc
import HandS.IsInst
import HandS.TupAny
import HandS.TupMul
import HandS.Deep
import HandS.RaiseMore
import HandS.More
import HandS.WordsDict
import HandS.ExcOwn
import HandS.SetFor
import HandS.Style
import HandS.Small
import HandS.Spec
import HandS.WordsExc
import PyProof.StrLaws
import PySem.Challenge.RW_shutbyrings_k03_parts_variables_put
set_option Elab.async false
set_option linter.all false
set_option maxRecDepth 100000
set_option maxHeartbeats 1000000
/-! MiniPy: a small language over trees and a small heap of what may still change; its evaluator. -/
namespace My
open PySem (Str PyData)

/-- a closed value -/
inductive T where
  | non | bl (b : Bool) | int (i : Int) | str (x : Str)
  | tup (xs : List T) | lst (xs : List T) | dct (ks vs : List T)
  | obj (c : Nat) (ns : List Str) (vs : List T)
  deriving Inhabited
/-- a value, or a thing that may change -/
inductive S where
  | t (v : T) | r (n : Nat)
  deriving Inhabited
/-- what may change -/
inductive MO where
  | lst (xs : List T) | dct (ks vs : List T) | obj (c : Nat) (ns : List Str) (vs : List T) | dead
  deriving Inhabited
abbrev Hm := List MO
abbrev En := List (Option S)
inductive R (α : Type) where
  | ok (a : α) (h : Hm) | ex (c : Nat) (fs : List T) (h : Hm) | bad

def R.bind {α β : Type} (x : R α) (f : α → Hm → R β) : R β :=
  match x with
  | .ok a h => f a h
  | .ex c fs h => .ex c fs h
  | .bad => .bad
@[simp] theorem R.bind_ok {α β : Type} (a : α) (h : Hm) (f : α → Hm → R β) : (R.ok a h).bind f = f a h := rfl
@[simp] theorem R.bind_ex {α β : Type} (c : Nat) (fs : List T) (h : Hm) (f : α → Hm → R β) : (R.ex c fs h).bind f = .ex c fs h := rfl
@[simp] theorem R.bind_bad {α β : Type} (f : α → Hm → R β) : (R.bad : R α).bind f = .bad := rfl
def liftO {α : Type} (o : Option α) (h : Hm) : R α := match o with | some a => .ok a h | none => .bad
@[simp] theorem liftO_some {α : Type} (a : α) (h : Hm) : liftO (some a) h = .ok a h := rfl
@[simp] theorem liftO_none {α : Type} (h : Hm) : liftO (none : Option α) h = .bad := rfl

/-! ### trees -/
mutual
def T.beq : T → T → Bool
  | .non, .non => true
  | .bl a, .bl b => a == b
  | .int a, .int b => a == b
  | .str a, .str b => a == b
  | .tup a, .tup b => beqs a b
  | .lst a, .lst b => beqs a b
  | .dct a b, .dct c d => beqs a c && beqs b d
  | .obj a b c, .obj d e f => a == d && b == e && beqs c f
  | _, _ => false
def beqs : List T → List T → Bool
  | [], [] => true
  | x :: xs, y :: ys => x.beq y && beqs xs ys
  | _, _ => false
end
mutual
theorem T.beq_eq : ∀ a b : T, a.beq b = true → a = b
  | .non, .non, _ => rfl
  | .bl a, .bl b, h => by simp [T.beq] at h; rw [h]
  | .int a, .int b, h => by simp [T.beq] at h; rw [h]
  | .str a, .str b, h => by simp [T.beq] at h; rw [h]
  | .tup a, .tup b, h => by simp only [T.beq] at h; rw [beqs_eq a b h]
  | .lst a, .lst b, h => by simp only [T.beq] at h; rw [beqs_eq a b h]
  | .dct a b, .dct c d, h => by simp only [T.beq, Bool.and_eq_true] at h; rw [beqs_eq a c h.1, beqs_eq b d h.2]
  | .obj a b c, .obj d e f, h => by simp only [T.beq, Bool.and_eq_true, beq_iff_eq] at h; rw [h.1.1, h.1.2, beqs_eq c f h.2]
  | .non, .bl _, h | .non, .int _, h | .non, .str _, h | .non, .tup _, h | .non, .lst _, h | .non, .dct _ _, h | .non, .obj _ _ _, h
  | .bl _, .non, h | .bl _, .int _, h | .bl _, .str _, h | .bl _, .tup _, h | .bl _, .lst _, h | .bl _, .dct _ _, h | .bl _, .obj _ _ _, h
  | .int _, .non, h | .int _, .bl _, h | .int _, .str _, h | .int _, .tup _, h | .int _, .lst _, h | .int _, .dct _ _, h | .int _, .obj _ _ _, h
  | .str _, .non, h | .str _, .bl _, h | .str _, .int _, h | .str _, .tup _, h | .str _, .lst _, h | .str _, .dct _ _, h | .str _, .obj _ _ _, h
  | .tup _, .non, h | .tup _, .bl _, h | .tup _, .int _, h | .tup _, .str _, h | .tup _, .lst _, h | .tup _, .dct _ _, h | .tup _, .obj _ _ _, h
  | .lst _, .non, h | .lst _, .bl _, h | .lst _, .int _, h | .lst _, .str _, h | .lst _, .tup _, h | .lst _, .dct _ _, h | .lst _, .obj _ _ _, h
  | .dct _ _, .non, h | .dct _ _, .bl _, h | .dct _ _, .int _, h | .dct _ _, .str _, h | .dct _ _, .tup _, h | .dct _ _, .lst _, h | .dct _ _, .obj _ _ _, h
  | .obj _ _ _, .non, h | .obj _ _ _, .bl _, h | .obj _ _ _, .int _, h | .obj _ _ _, .str _, h | .obj _ _ _, .tup _, h | .obj _ _ _, .lst _, h | .obj _ _ _, .dct _ _, h => by simp [T.beq] at h
theorem beqs_eq : ∀ a b : List T, beqs a b = true → a = b
  | [], [], _ => rfl
  | x :: xs, y :: ys, h => by simp only [beqs, Bool.and_eq_true] at h; rw [T.beq_eq x y h.1, beqs_eq xs ys h.2]
  | [], _ :: _, h => by simp [beqs] at h
  | _ :: _, [], h => by simp [beqs] at h
end
mutual
theorem T.beq_refl : ∀ a : T, a.beq a = true
  | .non => rfl
  | .bl a => by simp [T.beq]
  | .int a => by simp [T.beq]
  | .str a => by simp [T.beq]
  | .tup a => by simp only [T.beq]; exact beqs_refl a
  | .lst a => by simp only [T.beq]; exact beqs_refl a
  | .dct a b => by simp only [T.beq, beqs_refl a, beqs_refl b, Bool.and_self]
  | .obj a b c => by simp only [T.beq, beqs_refl c, beq_self_eq_true, Bool.and_self]
theorem beqs_refl : ∀ a : List T, beqs a a = true
  | [] => rfl
  | x :: xs => by simp only [beqs, T.beq_refl x, beqs_refl xs, Bool.and_self]
end
def MO.beq : MO → MO → Bool
  | .lst a, .lst b => beqs a b
  | .dct a b, .dct c d => beqs a c && beqs b d
  | .obj a b c, .obj d e f => a == d && b == e && beqs c f
  | _, _ => false
theorem MO.beq_eq : ∀ {a b : MO}, a.beq b = true → a = b
  | .lst a, .lst b, h => by simp only [MO.beq] at h; rw [beqs_eq a b h]
  | .dct a b, .dct c d, h => by simp only [MO.beq, Bool.and_eq_true] at h; rw [beqs_eq a c h.1, beqs_eq b d h.2]
  | .obj a b c, .obj d e f, h => by simp only [MO.beq, Bool.and_eq_true, beq_iff_eq] at h; rw [h.1.1, h.1.2, beqs_eq c f h.2]
  | .lst _, .dct _ _, h | .lst _, .obj _ _ _, h | .lst _, .dead, h | .dct _ _, .lst _, h | .dct _ _, .obj _ _ _, h | .dct _ _, .dead, h
  | .obj _ _ _, .lst _, h | .obj _ _ _, .dct _ _, h | .obj _ _ _, .dead, h | .dead, _, h => by simp [MO.beq] at h
@[simp] theorem MO.beq_lst (a : List T) : (MO.lst a).beq (.lst a) = true := by simp only [MO.beq]; exact beqs_refl a
@[simp] theorem MO.beq_dct (a b : List T) : (MO.dct a b).beq (.dct a b) = true := by simp only [MO.beq, beqs_refl, Bool.and_self]

/- as data of the library -/
mutual
def T.py : T → PyData
  | .non => .none
  | .bl b => .bool b
  | .int i => .int i
  | .str x => .str x
  | .tup xs => .tuple (pys xs)
  | .lst xs => .list (pys xs)
  | .dct ks vs => .dict (List.zip (pys ks) (pys vs))
  | .obj _ _ _ => .none
def pys : List T → List PyData
  | [] => []
  | x :: xs => x.py :: pys xs
end
/- no dict, no object within -/
mutual
def T.data : T → Bool
  | .non | .bl _ | .int _ | .str _ => true
  | .tup xs | .lst xs => datas xs
  | .dct _ _ | .obj _ _ _ => false
def datas : List T → Bool
  | [] => true
  | x :: xs => x.data && datas xs
end
mutual
def T.nolst : T → Bool
  | .non | .bl _ | .int _ | .str _ => true
  | .tup xs => nolsts xs
  | .lst _ | .dct _ _ | .obj _ _ _ => false
def nolsts : List T → Bool
  | [] => true
  | x :: xs => x.nolst && nolsts xs
end
def T.shp (t : T) : Bool := t.data && PySem.SeqAt.shaped t.py
def eqT (a b : T) : Bool := PyData.eqv a.py b.py

/-! ### operators -/
inductive Ty where
  | tint | tbool | tstr | tlist | ttuple | tdict | cls (c : Nat)
  deriving DecidableEq
inductive U where
  | neg | len | list | tuple | sorted | sum | int | abs | repr | str | all | any | isi (tys : List Ty)
inductive Bo where
  | add | sub | mul | fdiv | mod | pow | eq | ne | lt | le | gt | ge | inn | notin | is | isnot | idx | max | min
  deriving DecidableEq

def keyOf : T → Option L2.Key
  | .str x => some (.inr x)
  | .int i => some (.inl i)
  | _ => none
def keyT : L2.Key → T
  | .inl i => .int i
  | .inr x => .str x
/-- a dict's value at a key -/
def getD (k : L2.Key) : List T → List T → Option T
  | a :: ks, v :: vs => if keyOf a = some k then some v else getD k ks vs
  | _, _ => none
/-- the values behind a store -/
def setD (k : L2.Key) (v : T) : List T → List T → List T
  | a :: ks, u :: vs => (if keyOf a = some k then v else u) :: setD k v ks vs
  | _, vs => vs
def putD (k : L2.Key) (v : T) (ks vs : List T) : List T × List T :=
  if (getD k ks vs).isSome then (ks, setD k v ks vs) else (ks ++ [keyT k], vs ++ [v])

def ltS (x y : Str) : Bool := decide (x.cps.toList < y.cps.toList)
def insS (x : Str) : List Str → List Str
  | [] => [x]
  | y :: ys => if ltS y x then y :: insS x ys else x :: y :: ys
def sortS : List Str → List Str
  | [] => []
  | x :: xs => insS x (sortS xs)
def strsOf : List T → Option (List Str)
  | [] => some []
  | .str x :: r => (strsOf r).map (x :: ·)
  | _ :: _ => none
def intsOf : List T → Option (List Int)
  | [] => some []
  | .int x :: r => (intsOf r).map (x :: ·)
  | _ :: _ => none
def blsOf : List T → Option (List Bool)
  | [] => some []
  | .bl x :: r => (blsOf r).map (x :: ·)
  | _ :: _ => none
def isTy (sub : Nat → Nat → Bool) : T → Ty → Bool
  | .int _, .tint => true
  | .bl _, .tint => true
  | .bl _, .tbool => true
  | .str _, .tstr => true
  | .lst _, .tlist => true
  | .tup _, .ttuple => true
  | .dct _ _, .tdict => true
  | .obj c _ _, .cls d => sub c d
  | _, _ => false
def chrs (x : Str) : List T := x.cps.toList.map fun c => .str ⟨#[c]⟩

def lim (n : Nat) : Bool := decide (n ≤ PySem.sizeLine)

def sem1 (sub : Nat → Nat → Bool) : U → T → Option T
  | .neg, .int i => some (.int (-i))
  | .len, .str x => if lim x.length then some (.int x.length) else none
  | .len, .tup xs => some (.int xs.length)
  | .len, .lst xs => some (.int xs.length)
  | .len, .dct ks _ => some (.int ks.length)
  | .list, .lst xs => some (.lst xs)
  | .list, .tup xs => some (.lst xs)
  | .list, .dct ks _ => some (.lst ks)
  | .tuple, .lst xs => some (.tup xs)
  | .tuple, .tup xs => some (.tup xs)
  | .sorted, .lst xs => match strsOf xs with
    | some ss => if ss.length < 64 then some (.lst ((sortS ss).map .str)) else none
    | none => none
  | .sum, .lst xs => (intsOf xs).map fun ns => .int ns.sum
  | .int, .int i => some (.int i)
  | .int, .bl b => some (.int (if b then 1 else 0))
  | .abs, .int i => some (.int (if i < 0 then -i else i))
  | .repr, .dct ks vs => if nolsts ks && nolsts vs && (T.dct ks vs).py.showable && lim (T.dct ks vs).py.shown.length && decide ((T.dct ks vs).py.depth ≤ 64) then some (.str (T.dct ks vs).py.shown) else none
  | .repr, t => if t.data && t.py.showable && lim t.py.shown.length && decide (t.py.depth ≤ 64) then some (.str t.py.shown) else none
  | .str, .int i => if i.natAbs.log2 < 1920 then some (.str (toString i)) else none
  | .str, .str x => some (.str x)
  | .all, .lst xs => (blsOf xs).map fun bs => .bl (bs.all id)
  | .any, .lst xs => (blsOf xs).map fun bs => .bl (bs.any id)
  | .isi tys, t => some (.bl (tys.any (isTy sub t)))
  | _, _ => none

def cutL {α : Type} (xs : List α) (lo hi : Option Int) : List α :=
  (xs.drop (HT.sIx xs.length 0 lo)).take (HT.sIx xs.length xs.length hi - HT.sIx xs.length 0 lo)
def inT (x : T) : List T → Bool := fun ys => ys.any fun y => eqT y x

def cmpI : Bo → Int → Int → Option Bool
  | .lt, i, j => some (decide (i < j))
  | .le, i, j => some (decide (i ≤ j))
  | .gt, i, j => some (decide (j < i))
  | .ge, i, j => some (decide (j ≤ i))
  | _, _, _ => none
def cmpS : Bo → Str → Str → Option Bool
  | .lt, i, j => some (ltS i j)
  | .le, i, j => some (!ltS j i)
  | .gt, i, j => some (ltS j i)
  | .ge, i, j => some (!ltS i j)
  | _, _, _ => none
def small64 (i : Int) : Bool := decide (-(2 ^ 64) < i) && decide (i < 2 ^ 64)

def arith : Bo → Int → Int → Option T
  | .add, i, j => some (.int (i + j))
  | .sub, i, j => some (.int (i - j))
  | .mul, i, j => if small64 i || small64 j then some (.int (i * j)) else none
  | .fdiv, i, j => if decide (0 < j) && decide (j < 1073741824) then some (.int (i / j)) else none
  | .mod, i, j => if decide (0 < j) then some (.int (i % j)) else none
  | .pow, i, j => if decide (0 ≤ j) && decide (j ≤ 1000000) && decide (i.natAbs < 2 ^ 64) then some (.int (i ^ j.toNat)) else none
  | .max, i, j => some (.int (if j > i then j else i))
  | .min, i, j => some (.int (if j < i then j else i))
  | o, i, j => (cmpI o i j).map .bl
def membT (x : T) : T → Option Bool
  | .lst ys => if x.shp && (T.lst ys).shp then some (inT x ys) else none
  | .tup ys => if x.shp && (T.tup ys).shp then some (inT x ys) else none
  | .dct ks vs => (keyOf x).map fun k => (getD k ks vs).isSome
  | .str z => match x with
    | .str y => some (!(PySem.Builtin.Str.occurrences z y 0 z.length 1).isEmpty)
    | _ => none
  | _ => none
/-- is it equal -/
def eq2 : T → T → Option Bool
  | .str x, .str y => some (decide (x = y))
  | a, b => if a.shp && b.shp then some (eqT a b) else none
def sem2 : Bo → T → T → Option T
  | .eq, a, b => (eq2 a b).map .bl
  | .ne, a, b => (eq2 a b).map fun k => .bl (!k)
  | .is, a, .non => some (.bl (match a with | .non => true | _ => false))
  | .isnot, a, .non => some (.bl (match a with | .non => false | _ => true))
  | .inn, x, y => (membT x y).map .bl
  | .notin, x, y => (membT x y).map fun b => .bl (!b)
  | .idx, .lst xs, .int i => L2.atI xs i
  | .idx, .tup xs, .int i => L2.atI xs i
  | .idx, .str z, .int i => if lim z.length then (L2.atI z.cps.toList i).map fun c => .str ⟨#[c]⟩ else none
  | .idx, .dct ks vs, k => (keyOf k).bind fun k => getD k ks vs
  | .add, .str x, .str y => if lim (x.length + y.length) then some (.str (x ++ y)) else none
  | .add, .lst xs, .lst ys => if lim (xs.length + ys.length) then some (.lst (xs ++ ys)) else none
  | .add, .tup xs, .tup ys => if lim (xs.length + ys.length) then some (.tup (xs ++ ys)) else none
  | .lt, .str x, .str y => (cmpS .lt x y).map .bl
  | .le, .str x, .str y => (cmpS .le x y).map .bl
  | .gt, .str x, .str y => (cmpS .gt x y).map .bl
  | .ge, .str x, .str y => (cmpS .ge x y).map .bl
  | o, .int i, .int j => arith o i j
  | _, _, _ => none

/-! ### the language -/
inductive Tg where
  | name (i : Nat) | tup (is : List Nat)
mutual
inductive E where
  | var (i : Nat) | non | bl (b : Bool) | int (i : Int) | str (x : Str) | con (g : Nat)
  | tup (es : List E) | lst (es : List E) | newl (es : List E) | newd | dct0
  | un (o : U) (e : E) | bin (o : Bo) (a b : E)
  | not (e : E) | and (a b : E) | or (a b : E) | ch (o p : Bo) (a b c : E) | ite (c a b : E)
  | slf (e lo : E) | slt (e hi : E) | slb (e lo hi : E)
  | get (d k x : E)
  | call (f : Nat) (es : List E)
  | app (o e : E) | popat (o e : E)
  | comp (own : List Nat) (tg : Tg) (it : It) (cs : List E) (e : E)
  | fz (e : E) | catn (a b : E)
inductive It where
  | of (e : E) | rng1 (e : E) | rng2 (a b : E) | enum (e : E) | zip (a b : E)
end
inductive St where
  | asg (tg : Tg) (e : E) | par (is : List Nat) (es : List E) | aug (i : Nat) (o : Bo) (e : E) | seti (o i v : E)
  | ex (e : E) | ret (e : E) | retN | ife (c : E) (a b : List St) | for (tg : Tg) (it : It) (body : List St) | whl (fuel : Nat) (c : E) (body : List St)
  | brk | cont | pass

structure Fd where
  np : Nat
  ns : Nat
  body : List St
structure Ctx where
  fs : Nat → Option Fd
  con : Nat → T
  sub : Nat → Nat → Bool

/-! ### the evaluator -/
def dref (h : Hm) : S → Option T
  | .t v => some v
  | .r n => match h[n]? with
    | some (.lst xs) => some (.lst xs)
    | some (.dct ks vs) => some (.dct ks vs)
    | some (.obj c ns vs) => some (.obj c ns vs)
    | _ => none
def setTg (tg : Tg) (s : S) (ρ : En) : Option En := match tg with
  | .name i => some (ρ.set i (some s))
  | .tup is => match s with
    | .t (.tup xs) => if xs.length = is.length then some ((List.zip is xs).foldl (fun ρ p => ρ.set p.1 (some (.t p.2))) ρ) else none
    | _ => none
def wipeE (ρ : En) : List Nat → En
  | [] => ρ
  | v :: vs => (wipeE ρ vs).set v none
/-- what a walk asks at each turn -/
def gOk (g : Option (Nat × MO)) (h : Hm) : Bool := match g with
  | none => true
  | some (n, o) => match h[n]? with | some o' => o.beq o' | none => false
def compL (g : Option (Nat × MO)) (f : T → Hm → R (Option T)) : List T → Hm → R (List T)
  | [], h => if gOk g h then .ok [] h else .bad
  | x :: xs, h => if gOk g h then (f x h).bind fun o h1 => (compL g f xs h1).bind fun ys h2 => .ok (match o with | some y => y :: ys | none => ys) h2 else .bad
def asT (s : S) (h : Hm) : R T := match s with | .t v => .ok v h | .r _ => .bad
def asB (s : S) (h : Hm) : R Bool := match s with | .t (.bl b) => .ok b h | _ => .bad
def asI (s : S) (h : Hm) : R Int := match s with | .t (.int i) => .ok i h | _ => .bad
def cutE (s : S) (l u : Option Int) (h : Hm) : R S := (liftO (dref h s) h).bind fun v h => match v with
  | .lst xs => .ok (.t (.lst (cutL xs l u))) h
  | .tup xs => .ok (.t (.tup (cutL xs l u))) h
  | .str z => if lim z.length then .ok (.t (.str (L2.cutS z l u))) h else .bad
  | _ => .bad
/-- what a method is looked up on -/
def isD (s : S) (h : Hm) : R Unit := match dref h s with | some (.dct _ _) => .ok () h | _ => .bad
def isL (s : S) (h : Hm) : R Unit := match dref h s with | some (.lst _) => .ok () h | _ => .bad
def getF (dv kv xv : T) (h : Hm) : R S := match dv with
  | .dct ks vs => match keyOf kv with
    | some k => .ok (.t ((getD k ks vs).getD xv)) h
    | none => .bad
  | _ => .bad
def appF (s : S) (v : T) (h : Hm) : R S := match s with
  | .r n => match h[n]? with
    | some (.lst xs) => if lim (xs.length + 1) then .ok (.t .non) (h.set n (.lst (xs ++ [v]))) else .bad
    | _ => .bad
  | _ => .bad
def popF (s : S) (i : Int) (h : Hm) : R S := match s with
  | .r n => match h[n]? with
    | some (.lst xs) => match PySem.seqIndex? i xs.length with
      | some k => match xs[k]? with
        | some y => if decide (-(2 ^ 63) ≤ i) && decide (i < 2 ^ 63) then .ok (.t y) (h.set n (.lst (xs.eraseIdx k))) else .bad
        | none => .bad
      | none => .bad
    | _ => .bad
  | _ => .bad
/-- a thing that may change is no longer changed; the newest one is taken off -/
def fzF (e : Nat) (s : S) (h : Hm) : R S := match s with
  | .t v => .ok (.t v) h
  | .r n => (liftO (dref h (.r n)) h).bind fun v h => if n = e ∧ h.length = n + 1 then .ok (.t v) (h.take n) else .ok (.t v) (h.set n .dead)
/-- two lists' items -/
def catL : T → T → Option (List T)
  | .lst xs, .lst ys => if lim (xs.length + ys.length) then some (xs ++ ys) else none
  | _, _ => none
def noEx {α : Type} (x : R α) : R α := match x with | .ex .. => .bad | y => y
abbrev Orc := Nat → List S → Hm → R S
/-- what a walked value gives -/
def itemsOf (s : S) (h : Hm) : Option (List T × Option (Nat × MO)) := match s with
  | .t (.lst xs) => some (xs, none)
  | .t (.tup xs) => some (xs, none)
  | .t (.str x) => if lim x.length then some (chrs x, none) else none
  | .r n => match h[n]? with
    | some (.lst xs) => some (xs, some (n, .lst xs))
    | _ => none
  | _ => none
def rngT (lo : Int) (n : Nat) : List T := (List.range n).map fun i => .int (lo + (i : Nat))
def rngO (lo hi : Int) : Option (List T × Option (Nat × MO)) :=
  if decide (-(2 ^ 62) ≤ lo) && decide (lo < 2 ^ 62) && decide (-(2 ^ 62) ≤ hi) && decide (hi < 2 ^ 62) && lim (hi - lo).toNat then some (rngT lo (hi - lo).toNat, none) else none
def enumT (xs : List T) : List T := xs.zipIdx.map fun p => .tup [.int (p.2 : Nat), p.1]
def zipT (xs ys : List T) : List T := List.zipWith (fun x y => .tup [x, y]) xs ys

mutual
def evE (G : Ctx) (C : Orc) (ρ : En) (h : Hm) : E → R S
  | .var i => liftO (ρ[i]?.join) h
  | .non => .ok (.t .non) h
  | .bl b => .ok (.t (.bl b)) h
  | .int i => .ok (.t (.int i)) h
  | .str x => .ok (.t (.str x)) h
  | .con g => .ok (.t (G.con g)) h
  | .tup es => (evTs G C ρ h es).bind fun vs h1 => .ok (.t (.tup vs)) h1
  | .lst es => (evTs G C ρ h es).bind fun vs h1 => .ok (.t (.lst vs)) h1
  | .newl es => (evTs G C ρ h es).bind fun vs h1 => .ok (.r h1.length) (h1 ++ [.lst vs])
  | .newd => .ok (.r h.length) (h ++ [.dct [] []])
  | .dct0 => .ok (.t (.dct [] [])) h
  | .un o e => (evE G C ρ h e).bind fun s h1 => (liftO (dref h1 s) h1).bind fun v h1 => (liftO (sem1 G.sub o v) h1).bind fun w h1 => .ok (.t w) h1
  | .bin o a b => (evE G C ρ h a).bind fun s h1 => (evE G C ρ h1 b).bind fun u h2 => (liftO (dref h2 s) h2).bind fun v h2 => (liftO (dref h2 u) h2).bind fun w h2 => (liftO (sem2 o v w) h2).bind fun z h2 => .ok (.t z) h2
  | .not e => (evE G C ρ h e).bind fun s h1 => (asB s h1).bind fun b h1 => .ok (.t (.bl (!b))) h1
  | .and a b => (evE G C ρ h a).bind fun s h1 => (asB s h1).bind fun c h1 => if c then evE G C ρ h1 b else .ok (.t (.bl false)) h1
  | .or a b => (evE G C ρ h a).bind fun s h1 => (asB s h1).bind fun c h1 => if c then .ok (.t (.bl true)) h1 else evE G C ρ h1 b
  | .ch o p a b c => (evE G C ρ h a).bind fun s h1 => (evE G C ρ h1 b).bind fun u h2 => (liftO (dref h2 s) h2).bind fun v h2 => (liftO (dref h2 u) h2).bind fun w h2 => (liftO (sem2 o v w) h2).bind fun z h2 =>
      (asB (.t z) h2).bind fun k h2 => if k then (evE G C ρ h2 c).bind fun x h3 => (liftO (dref h3 u) h3).bind fun w h3 => (liftO (dref h3 x) h3).bind fun y h3 => (liftO (sem2 p w y) h3).bind fun z h3 => .ok (.t z) h3 else .ok (.t (.bl false)) h2
  | .ite c a b => (evE G C ρ h c).bind fun s h1 => (asB s h1).bind fun k h1 => if k then evE G C ρ h1 a else evE G C ρ h1 b
  | .slf e lo => (evE G C ρ h e).bind fun s h1 => (evE G C ρ h1 lo).bind fun l h2 => (asI l h2).bind fun i h2 => cutE s (some i) none h2
  | .slt e hi => (evE G C ρ h e).bind fun s h1 => (evE G C ρ h1 hi).bind fun u h2 => (asI u h2).bind fun i h2 => cutE s none (some i) h2
  | .slb e lo hi => (evE G C ρ h e).bind fun s h1 => (evE G C ρ h1 lo).bind fun l h2 => (asI l h2).bind fun i h2 => (evE G C ρ h2 hi).bind fun u h3 => (asI u h3).bind fun j h3 => cutE s (some i) (some j) h3
  | .get d k x => (evE G C ρ h d).bind fun s h1 => (isD s h1).bind fun _ h1 => (evE G C ρ h1 k).bind fun u h2 => (evE G C ρ h2 x).bind fun w h3 => (liftO (dref h3 s) h3).bind fun dv h3 => (asT u h3).bind fun kv h3 => (asT w h3).bind fun xv h3 => getF dv kv xv h3
  | .call f es => (evS G C ρ h es).bind fun ss h1 => C f ss h1
  | .app o e => (evE G C ρ h o).bind fun s h1 => (isL s h1).bind fun _ h1 => (evE G C ρ h1 e).bind fun u h2 => (asT u h2).bind fun v h2 => appF s v h2
  | .popat o e => (evE G C ρ h o).bind fun s h1 => (isL s h1).bind fun _ h1 => (evE G C ρ h1 e).bind fun u h2 => (asI u h2).bind fun i h2 => popF s i h2
  | .comp own tg it cs e => (evIt G C ρ h it).bind fun p h1 =>
      (noEx (compL p.2 (fun x h => (liftO (setTg tg (.t x) (wipeE ρ own)) h).bind fun ρ1 h =>
        (evCs G C ρ1 h cs).bind fun k h1 => if k then (evE G C ρ1 h1 e).bind fun s h2 => (asT s h2).bind fun v h2 => .ok (some v) h2 else .ok none h1) p.1 h1)).bind fun ys h2 => .ok (.t (.lst ys)) h2
  | .fz e => (evE G C ρ h e).bind fun s h1 => fzF h.length s h1
  | .catn a b => (evE G C ρ h a).bind fun s h1 => (evE G C ρ h1 b).bind fun u h2 => (liftO (dref h2 s) h2).bind fun v h2 => (liftO (dref h2 u) h2).bind fun w h2 => (liftO (catL v w) h2).bind fun xs h2 => .ok (.r h2.length) (h2 ++ [.lst xs])
def evS (G : Ctx) (C : Orc) (ρ : En) (h : Hm) : List E → R (List S)
  | [] => .ok [] h
  | e :: es => (evE G C ρ h e).bind fun s h1 => (evS G C ρ h1 es).bind fun ss h2 => .ok (s :: ss) h2
def evTs (G : Ctx) (C : Orc) (ρ : En) (h : Hm) : List E → R (List T)
  | [] => .ok [] h
  | e :: es => (evE G C ρ h e).bind fun s h1 => (asT s h1).bind fun v h1 => (evTs G C ρ h1 es).bind fun ss h2 => .ok (v :: ss) h2
def evCs (G : Ctx) (C : Orc) (ρ : En) (h : Hm) : List E → R Bool
  | [] => .ok true h
  | e :: es => (evE G C ρ h e).bind fun s h1 => (asB s h1).bind fun b h1 => if b then evCs G C ρ h1 es else .ok false h1
def evIt (G : Ctx) (C : Orc) (ρ : En) (h : Hm) : It → R (List T × Option (Nat × MO))
  | .of e => (evE G C ρ h e).bind fun s h1 => liftO (itemsOf s h1) h1
  | .rng1 e => (evE G C ρ h e).bind fun s h1 => match s with | .t (.int i) => liftO (rngO 0 i) h1 | _ => .bad
  | .rng2 a b => (evE G C ρ h a).bind fun s h1 => (evE G C ρ h1 b).bind fun u h2 => match s, u with | .t (.int i), .t (.int j) => liftO (rngO i j) h2 | _, _ => .bad
  | .enum e => (evE G C ρ h e).bind fun s h1 => (liftO (itemsOf s h1) h1).bind fun p h1 => .ok (enumT p.1, p.2) h1
  | .zip a b => (evE G C ρ h a).bind fun s h1 => (evE G C ρ h1 b).bind fun u h2 => match s, u with
      | .t v, .t w => (liftO (itemsOf (.t v) h2) h2).bind fun p h2 => (liftO (itemsOf (.t w) h2) h2).bind fun q h2 => .ok (zipT p.1 q.1, none) h2
      | _, _ => .bad
end

inductive Out where
  | nx (ρ : En) (h : Hm) | rt (s : S) (h : Hm) | bk (ρ : En) (h : Hm) | ct (ρ : En) (h : Hm) | ex (c : Nat) (fs : List T) (ρ : En) (h : Hm) | bad
def R.out {α : Type} (x : R α) (ρ : En) (f : α → Hm → Out) : Out := match x with
  | .ok a h => f a h
  | .ex c fs h => .ex c fs ρ h
  | .bad => .bad
@[simp] theorem R.out_ok {α : Type} (a : α) (h : Hm) (ρ : En) (f : α → Hm → Out) : (R.ok a h).out ρ f = f a h := rfl
@[simp] theorem R.out_ex {α : Type} (c : Nat) (fs : List T) (h : Hm) (ρ : En) (f : α → Hm → Out) : (R.ex c fs h).out ρ f = .ex c fs ρ h := rfl
@[simp] theorem R.out_bad {α : Type} (ρ : En) (f : α → Hm → Out) : (R.bad : R α).out ρ f = .bad := rfl
def forL (g : Option (Nat × MO)) (f : T → En → Hm → Out) : List T → En → Hm → Out
  | [], ρ, h => if gOk g h then .nx ρ h else .bad
  | x :: xs, ρ, h => if gOk g h then match f x ρ h with
      | .nx ρ1 h1 => forL g f xs ρ1 h1
      | .ct ρ1 h1 => forL g f xs ρ1 h1
      | .bk ρ1 h1 => .nx ρ1 h1
      | o => o
    else .bad
def whlL (c : En → Hm → R Bool) (f : En → Hm → Out) : Nat → En → Hm → Out
  | 0, _, _ => .bad
  | n + 1, ρ, h => (c ρ h).out ρ fun b h1 => if b then match f ρ h1 with
      | .nx ρ1 h2 => whlL c f n ρ1 h2
      | .ct ρ1 h2 => whlL c f n ρ1 h2
      | .bk ρ1 h2 => .nx ρ1 h2
      | o => o
    else .nx ρ h1
def setAll (ρ : En) : List Nat → List S → Option En
  | [], [] => some ρ
  | i :: is, s :: ss => setAll (ρ.set i (some s)) is ss
  | _, _ => none
mutual
def exS (G : Ctx) (C : Orc) (ρ : En) (h : Hm) : St → Out
  | .asg tg e => (evE G C ρ h e).out ρ fun s h1 => match setTg tg s ρ with | some ρ1 => .nx ρ1 h1 | none => .bad
  | .par is es => (evS G C ρ h es).out ρ fun ss h1 => match setAll ρ is ss with | some ρ1 => .nx ρ1 h1 | none => .bad
  | .aug i o e => match ρ[i]?.join with
      | some (.t (.int x)) => (evE G C ρ h e).out ρ fun s h1 => match s with
        | .t (.int y) => (match o with
          | .add => .nx (ρ.set i (some (.t (.int (x + y))))) h1
          | .sub => .nx (ρ.set i (some (.t (.int (x - y))))) h1
          | _ => .bad)
        | _ => .bad
      | _ => .bad
  | .seti o i v => (evE G C ρ h v).out ρ fun s h1 => (evE G C ρ h1 o).out ρ fun so h2 => (evE G C ρ h2 i).out ρ fun si h3 =>
      match s, so, si with
      | .t v, .r n, .t k => (match h3[n]? with
        | some (.lst xs) => (match k with
          | .int j => (match L2.ixN xs.length j with | some m => .nx ρ (h3.set n (.lst (xs.set m v))) | none => .bad)
          | _ => .bad)
        | some (.dct ks vs) => (match keyOf k with
          | some k => if lim (ks.length + 1) then .nx ρ (h3.set n (.dct (putD k v ks vs).1 (putD k v ks vs).2)) else .bad
          | none => .bad)
        | _ => .bad)
      | _, _, _ => .bad
  | .ex e => (evE G C ρ h e).out ρ fun _ h1 => .nx ρ h1
  | .ret e => (evE G C ρ h e).out ρ fun s h1 => .rt s h1
  | .retN => .rt (.t .non) h
  | .ife c a b => (evE G C ρ h c).out ρ fun s h1 => (asB s h1).out ρ fun k h1 => if k then exSs G C ρ h1 a else exSs G C ρ h1 b
  | .for tg it body => (evIt G C ρ h it).out ρ fun p h1 => forL p.2 (fun x ρ h => match setTg tg (.t x) ρ with | some ρ1 => exSs G C ρ1 h body | none => .bad) p.1 ρ h1
  | .whl n c body => whlL (fun ρ h => (evE G C ρ h c).bind asB) (fun ρ h => exSs G C ρ h body) n ρ h
  | .brk => .bk ρ h
  | .cont => .ct ρ h
  | .pass => .nx ρ h
def exSs (G : Ctx) (C : Orc) (ρ : En) (h : Hm) : List St → Out
  | [] => .nx ρ h
  | s :: ss => match exS G C ρ h s with
    | .nx ρ1 h1 => exSs G C ρ1 h1 ss
    | o => o
end
/-- what a def hands back: the heap as it was (but for old things that it changed), a new thing on top if it is handed back -/
def retS (e : Nat) (s : S) (h : Hm) : R S := match s with
  | .t v => .ok (.t v) (h.take e)
  | .r n => if n < e then .ok (.r n) (h.take e) else match h[n]? with
    | some (.lst xs) => .ok (.r e) (h.take e ++ [.lst xs])
    | some (.dct ks vs) => .ok (.r e) (h.take e ++ [.dct ks vs])
    | some (.obj c ns vs) => .ok (.r e) (h.take e ++ [.obj c ns vs])
    | _ => .bad
def runF (e : Nat) : Out → R S
  | .nx _ h => .ok (.t .non) (h.take e)
  | .rt s h => retS e s h
  | .ex c fs _ h => .ex c fs (h.take e)
  | _ => .bad
def startE (n : Nat) (ss : List S) : En := ss.map some ++ List.replicate (n - ss.length) none
def callF (G : Ctx) : Nat → Orc
  | 0 => fun _ _ _ => .bad
  | d + 1 => fun f ss h => match G.fs f with
    | some fd => if ss.length = fd.np then runF h.length (exSs G (callF G d) (startE fd.ns ss) h fd.body) else .bad
    | none => .bad
end My

/-! MiniPy: how its values and its heap stand in the model's. -/
namespace My
open PySem L2

/-- where an address may lie -/
abbrev Al := Addr → Prop
/-- the classes' addresses -/
abbrev Cl := Nat → Option Addr
/-- read as u: it is u, or a list or dict that is u and is locked -/
def isLk : HO → Bool
  | .lst _ | .dK _ => true
  | _ => false
def Rx (H : Hp) (a : Addr) (u : HO) : Prop := H a = some u ∨ (isLk u = true ∧ ∃ o, H a = some (.frz o u))
theorem Rx.rd {H : Hp} {a : Addr} {u : HO} (h : Rx H a u) : Rd H a u := h.elim .inl fun q => .inr q.2
theorem Rx.tup {H : Hp} {a : Addr} {xs : List V} (h : Rx H a (.tup xs)) : H a = some (.tup xs) := h.elim id fun q => by cases q.1
theorem Rx.ins {H : Hp} {a C dx : Addr} {fs : List (Str × V)} (h : Rx H a (.ins C dx fs)) : H a = some (.ins C dx fs) := h.elim id fun q => by cases q.1
mutual
def Rp (cl : Cl) (ok : Al) (H : Hp) : T → V → Prop
  | .non, v => v = .non
  | .bl b, v => v = .bl b
  | .int i, v => v = .int i
  | .str x, v => v = .str x
  | .tup xs, v => ∃ a vs, v = .ref a ∧ ok a ∧ Rx H a (.tup vs) ∧ Rps cl ok H xs vs
  | .lst xs, v => ∃ a vs, v = .ref a ∧ ok a ∧ Rx H a (.lst vs) ∧ Rps cl ok H xs vs
  | .dct ks us, v => ∃ a kvs, v = .ref a ∧ ok a ∧ Rx H a (.dK kvs) ∧ kvs.map (fun p => keyT p.1) = ks ∧ Rps cl ok H us (kvs.map (·.2))
  | .obj c ns us, v => ∃ a C dx fs, v = .ref a ∧ ok a ∧ cl c = some C ∧ Rx H a (.ins C dx fs) ∧ fs.map (·.1) = ns ∧ Rps cl ok H us (fs.map (·.2))
def Rps (cl : Cl) (ok : Al) (H : Hp) : List T → List V → Prop
  | [], vs => vs = []
  | x :: xs, vs => ∃ v r, vs = v :: r ∧ Rp cl ok H x v ∧ Rps cl ok H xs r
end
theorem Rps.length {cl : Cl} {ok : Al} {H : Hp} : ∀ {xs : List T} {vs : List V}, Rps cl ok H xs vs → xs.length = vs.length
  | [], _, h => by rw [Rps] at h; rw [h]; rfl
  | x :: xs, _, h => by
    rw [Rps] at h
    obtain ⟨v, r, rfl, _, h⟩ := h
    rw [List.length_cons, List.length_cons, Rps.length h]
theorem Rps.nil {cl : Cl} {ok : Al} {H : Hp} : Rps cl ok H [] [] := by rw [Rps]
theorem Rps.cons {cl : Cl} {ok : Al} {H : Hp} {x : T} {v : V} {xs : List T} {vs : List V} (a : Rp cl ok H x v) (b : Rps cl ok H xs vs) : Rps cl ok H (x :: xs) (v :: vs) := by
  rw [Rps]; exact ⟨v, vs, rfl, a, b⟩
theorem Rps.inv {cl : Cl} {ok : Al} {H : Hp} {x : T} {xs : List T} {vs : List V} (h : Rps cl ok H (x :: xs) vs) : ∃ v r, vs = v :: r ∧ Rp cl ok H x v ∧ Rps cl ok H xs r := by
  rw [Rps] at h; exact h
theorem Rps.inv0 {cl : Cl} {ok : Al} {H : Hp} {vs : List V} (h : Rps cl ok H [] vs) : vs = [] := by rw [Rps] at h; exact h
/- carried to another heap -/
mutual
theorem Rp.move {cl : Cl} {ok ok' : Al} {H H' : Hp} (k : ∀ a u, ok a → Rx H a u → ok' a ∧ Rx H' a u) : ∀ {t : T} {v : V}, Rp cl ok H t v → Rp cl ok' H' t v
  | .non, _, h => by rw [Rp] at h ⊢; exact h
  | .bl _, _, h => by rw [Rp] at h ⊢; exact h
  | .int _, _, h => by rw [Rp] at h ⊢; exact h
  | .str _, _, h => by rw [Rp] at h ⊢; exact h
  | .tup xs, _, h => by
    rw [Rp] at h ⊢
    obtain ⟨a, vs, e, o, r, q⟩ := h
    exact ⟨a, vs, e, (k a _ o r).1, (k a _ o r).2, Rps.move k q⟩
  | .lst xs, _, h => by
    rw [Rp] at h ⊢
    obtain ⟨a, vs, e, o, r, q⟩ := h
    exact ⟨a, vs, e, (k a _ o r).1, (k a _ o r).2, Rps.move k q⟩
  | .dct ks us, _, h => by
    rw [Rp] at h ⊢
    obtain ⟨a, kvs, e, o, r, f, q⟩ := h
    exact ⟨a, kvs, e, (k a _ o r).1, (k a _ o r).2, f, Rps.move k q⟩
  | .obj c ns us, _, h => by
    rw [Rp] at h ⊢
    obtain ⟨a, C, dx, fs, e, o, ec, r, f, q⟩ := h
    exact ⟨a, C, dx, fs, e, (k a _ o r).1, ec, (k a _ o r).2, f, Rps.move k q⟩
theorem Rps.move {cl : Cl} {ok ok' : Al} {H H' : Hp} (k : ∀ a u, ok a → Rx H a u → ok' a ∧ Rx H' a u) : ∀ {xs : List T} {vs : List V}, Rps cl ok H xs vs → Rps cl ok' H' xs vs
  | [], _, h => by rw [Rps] at h ⊢; exact h
  | x :: xs, _, h => by
    rw [Rps] at h ⊢
    obtain ⟨v, r, e, a, b⟩ := h
    exact ⟨v, r, e, Rp.move k a, Rps.move k b⟩
end

/-- where the things that may change stand; what else is kept apart -/
structure Phi where
  m : List (Option Addr)
  r : List Addr
def Off (φ : Phi) : Al := fun a => some a ∉ φ.m ∧ a ∉ φ.r
abbrev RpF (cl : Cl) (φ : Phi) (H : Hp) : T → V → Prop := Rp cl (Off φ) H
abbrev RpD (cl : Cl) (H : Hp) : T → V → Prop := Rp cl (fun _ => True) H
theorem RpF.d {cl : Cl} {φ : Phi} {H : Hp} {t : T} {v : V} (h : RpF cl φ H t v) : RpD cl H t v := Rp.move (fun _ _ _ r => ⟨trivial, r⟩) h

/-- a thing that may change -/
def RpO (cl : Cl) (φ : Phi) (H : Hp) : MO → Addr → Prop
  | .lst xs, a => ∃ vs, H a = some (.lst vs) ∧ Rps cl (Off φ) H xs vs
  | .dct ks us, a => ∃ kvs, H a = some (.dK kvs) ∧ kvs.map (fun p => keyT p.1) = ks ∧ Rps cl (Off φ) H us (kvs.map (·.2))
  | .obj c ns us, a => ∃ C dx fs, cl c = some C ∧ H a = some (.ins C dx fs) ∧ fs.map (·.1) = ns ∧ Rps cl (Off φ) H us (fs.map (·.2))
  | .dead, _ => False
structure Hs (cl : Cl) (φ : Phi) (h : Hm) (H : Hp) : Prop where
  len : φ.m.length = h.length
  get : ∀ (n : Nat) (o : MO), h[n]? = some o → (o = .dead ∧ φ.m[n]? = some none) ∨ ∃ a, φ.m[n]? = some (some a) ∧ RpO cl φ H o a
  inj : ∀ (m n : Nat) (a : Addr), φ.m[m]? = some (some a) → φ.m[n]? = some (some a) → m = n
  res : ∀ a ∈ φ.r, H a ≠ none ∧ some a ∉ φ.m
def RpS (cl : Cl) (φ : Phi) (H : Hp) : S → V → Prop
  | .t t, v => RpF cl φ H t v
  | .r n, v => n < φ.m.length ∧ ∀ a, φ.m[n]? = some (some a) → v = .ref a
def RpSs (cl : Cl) (φ : Phi) (H : Hp) : List S → List V → Prop
  | [], vs => vs = []
  | x :: xs, vs => ∃ v r, vs = v :: r ∧ RpS cl φ H x v ∧ RpSs cl φ H xs r
/-- the slots -/
structure RpE (cl : Cl) (φ : Phi) (H : Hp) (ρ : En) (σ : L2.St) : Prop where
  len : ρ.length = σ.length
  get : ∀ (i : Nat) (s : S), ρ[i]? = some (some s) → ∃ v, σ[i]? = some (some v) ∧ RpS cl φ H s v

/-- what later states keep -/
structure Grow (φ : Phi) (H : Hp) (φ' : Phi) (H' : Hp) : Prop where
  len : φ.m.length ≤ φ'.m.length
  old : ∀ (n : Nat) (a : Addr), n < φ.m.length → φ'.m[n]? = some (some a) → φ.m[n]? = some (some a)
  new : ∀ a : Addr, some a ∈ φ'.m → some a ∈ φ.m ∨ H a = none
  keep : ∀ (a : Addr) (u : HO), some a ∉ φ.m → H a = some u → H' a = some u
  res : φ'.r = φ.r
theorem rd_some {H : Hp} {a : Addr} {u : HO} (r : Rx H a u) : H a ≠ none := by
  rcases r with r | ⟨_, o, r⟩ <;> rw [r] <;> simp
theorem Grow.refl (φ : Phi) (H : Hp) : Grow φ H φ H := ⟨Nat.le_refl _, fun _ _ _ h => h, fun _ h => .inl h, fun _ _ _ h => h, rfl⟩
theorem Grow.rx {φ φ' : Phi} {H H' : Hp} (g : Grow φ H φ' H') {a : Addr} {u : HO} (h : some a ∉ φ.m) (r : Rx H a u) : Rx H' a u := by
  rcases r with r | ⟨l, o, r⟩
  · exact .inl (g.keep a u h r)
  · exact .inr ⟨l, o, g.keep a _ h r⟩
theorem Grow.out {φ φ' : Phi} {H H' : Hp} (g : Grow φ H φ' H') {a : Addr} (h : some a ∉ φ.m) (r : H a ≠ none) : some a ∉ φ'.m := fun m => (g.new a m).elim h r
theorem Grow.off {φ φ' : Phi} {H H' : Hp} (g : Grow φ H φ' H') {a : Addr} {u : HO} (h : Off φ a) (r : Rx H a u) : Off φ' a ∧ Rx H' a u :=
  ⟨⟨g.out h.1 (rd_some r), by rw [g.res]; exact h.2⟩, g.rx h.1 r⟩
theorem Grow.trans {φ φ1 φ2 : Phi} {H H1 H2 : Hp} (a : Grow φ H φ1 H1) (b : Grow φ1 H1 φ2 H2) : Grow φ H φ2 H2 where
  len := Nat.le_trans a.len b.len
  old := fun n x hn h => a.old n x hn (b.old n x (Nat.lt_of_lt_of_le hn a.len) h)
  new := fun x h => by
    rcases b.new x h with h | h
    · exact a.new x h
    · cases q : H x with
      | none => exact .inr rfl
      | some u =>
        by_cases m : some x ∈ φ.m
        · exact .inl m
        · have := a.keep x u m q
          rw [h] at this; cases this
  keep := fun x u m r => b.keep x u (a.out m (by rw [r]; simp)) (a.keep x u m r)
  res := b.res.trans a.res
theorem Grow.rp {cl : Cl} {φ φ' : Phi} {H H' : Hp} (g : Grow φ H φ' H') {t : T} {v : V} (h : RpF cl φ H t v) : RpF cl φ' H' t v := Rp.move (fun _ _ o r => g.off o r) h
theorem Grow.rps {cl : Cl} {φ φ' : Phi} {H H' : Hp} (g : Grow φ H φ' H') {t : List T} {v : List V} (h : Rps cl (Off φ) H t v) : Rps cl (Off φ') H' t v := Rps.move (fun _ _ o r => g.off o r) h
theorem Grow.s {cl : Cl} {φ φ' : Phi} {H H' : Hp} (g : Grow φ H φ' H') {s : S} {v : V} (h : RpS cl φ H s v) : RpS cl φ' H' s v := by
  cases s with
  | t t => exact g.rp h
  | r n => exact ⟨Nat.lt_of_lt_of_le h.1 g.len, fun a e => h.2 a (g.old n a h.1 e)⟩
theorem Grow.ss {cl : Cl} {φ φ' : Phi} {H H' : Hp} (g : Grow φ H φ' H') : ∀ {s : List S} {v : List V}, RpSs cl φ H s v → RpSs cl φ' H' s v
  | [], _, h => h
  | s :: ss, _, ⟨v, r, e, a, b⟩ => ⟨v, r, e, g.s a, g.ss b⟩
theorem Grow.e {cl : Cl} {φ φ' : Phi} {H H' : Hp} (g : Grow φ H φ' H') {ρ : En} {σ : L2.St} (h : RpE cl φ H ρ σ) : RpE cl φ' H' ρ σ :=
  ⟨h.len, fun i s e => let ⟨v, e', r⟩ := h.get i s e; ⟨v, e', g.s r⟩⟩

/-! ### a new thing that will not change -/
theorem rd_upd {H : Hp} {p a : Addr} {u o : HO} (n : H p = none) (r : Rx H a u) : Rx (upd H p o) a u := by
  have ne : a ≠ p := fun e => rd_some r (e ▸ n)
  unfold Rx
  rw [upd_ne ne]
  exact r
theorem keep_new {H : Hp} {p a : Addr} {u o : HO} (n : H p = none) (r : H a = some u) : upd H p o a = some u := by
  rw [upd_ne fun e => by rw [e, n] at r; cases r]; exact r
theorem Grow.lay {φ : Phi} {H : Hp} {p : Addr} {o : HO} (n : H p = none) : Grow φ H φ (upd H p o) :=
  ⟨Nat.le_refl _, fun _ _ _ h => h, fun _ h => .inl h, fun _ _ _ r => keep_new n r, rfl⟩
theorem RpO.move {cl : Cl} {φ φ' : Phi} {H H' : Hp} {a : Addr} (k : ∀ a u, Off φ a → Rx H a u → Off φ' a ∧ Rx H' a u) (e : H' a = H a) : ∀ {o : MO}, RpO cl φ H o a → RpO cl φ' H' o a
  | .lst xs, ⟨vs, h, r⟩ => ⟨vs, e.trans h, Rps.move k r⟩
  | .dct ks us, ⟨kvs, h, f, r⟩ => ⟨kvs, e.trans h, f, Rps.move k r⟩
  | .obj c ns us, ⟨C, dx, fs, ec, h, f, r⟩ => ⟨C, dx, fs, ec, e.trans h, f, Rps.move k r⟩
theorem RpO.some {cl : Cl} {φ : Phi} {H : Hp} {a : Addr} : ∀ {o : MO}, RpO cl φ H o a → H a ≠ none
  | .lst xs, ⟨vs, h, r⟩ => by rw [h]; simp
  | .dct ks us, ⟨kvs, h, f, r⟩ => by rw [h]; simp
  | .obj c ns us, ⟨C, dx, fs, ec, h, f, r⟩ => by rw [h]; simp
theorem Hs.live {cl : Cl} {φ : Phi} {h : Hm} {H : Hp} (x : Hs cl φ h H) {a : Addr} (m : some a ∈ φ.m) : H a ≠ none := by
  obtain ⟨n, hn, e⟩ := List.mem_iff_getElem.mp m
  have e2 : φ.m[n]? = some (some a) := by rw [List.getElem?_eq_getElem hn, e]
  have hn' : n < h.length := by rw [← x.len]; exact hn
  rcases x.get n h[n] (List.getElem?_eq_getElem hn') with ⟨_, q⟩ | ⟨b, q, r⟩
  · rw [e2] at q; cases q
  · rw [e2] at q; cases q; exact r.some
theorem upd_some {H : Hp} {p a : Addr} {o : HO} (r : H a ≠ none) : upd H p o a ≠ none := by
  unfold upd; split
  · simp
  · exact r
theorem Hs.lay {cl : Cl} {φ : Phi} {h : Hm} {H : Hp} {p : Addr} {o : HO} (x : Hs cl φ h H) (n : H p = none) : Hs cl φ h (upd H p o) where
  len := x.len
  get := fun m u e => by
    rcases x.get m u e with q | ⟨a, q, r⟩
    · exact .inl q
    · refine .inr ⟨a, q, RpO.move (fun b w ob r => ⟨ob, rd_upd n r⟩) ?_ r⟩
      exact upd_ne fun z => r.some (z ▸ n)
  inj := x.inj
  res := fun a h => ⟨upd_some (x.res a h).1, (x.res a h).2⟩
theorem Hs.offNone {cl : Cl} {φ : Phi} {h : Hm} {H : Hp} {p : Addr} (x : Hs cl φ h H) (n : H p = none) : Off φ p := ⟨fun m => x.live m n, fun m => (x.res p m).1 n⟩
/-- a new thing that may change, on top -/
theorem getElem?_snoc {α : Type} {xs : List α} {y z : α} {n : Nat} (h : (xs ++ [y])[n]? = some z) : xs[n]? = some z ∨ (n = xs.length ∧ z = y) := by
  rw [List.getElem?_append] at h
  split at h
  · exact .inl h
  · rename_i q
    have : n - xs.length = 0 := by
      cases e : n - xs.length with
      | zero => rfl
      | succ k => rw [e] at h; simp at h
    rw [this] at h
    simp at h
    exact .inr ⟨by omega, h.symm⟩
abbrev Phi.push (φ : Phi) (p : Addr) : Phi := ⟨φ.m ++ [some p], φ.r⟩
theorem off_push {φ : Phi} {H : Hp} {p : Addr} (n : H p = none) {b : Addr} {w : HO} (ob : Off φ b) (r : Rx H b w) : Off (φ.push p) b := ⟨fun z => by
  rcases List.mem_append.mp z with z | z
  · exact ob.1 z
  · simp at z; rw [z] at r; exact rd_some r n, ob.2⟩
theorem Grow.push {φ : Phi} {H : Hp} {p : Addr} {o : HO} (n : H p = none) : Grow φ H (φ.push p) (upd H p o) :=
  ⟨by simp, fun m a hm h => by rw [List.getElem?_append_left hm] at h; exact h, fun a h => by
    rcases List.mem_append.mp h with h | h
    · exact .inl h
    · simp at h; rw [h]; exact .inr n, fun _ _ _ r => keep_new n r, rfl⟩
theorem Hs.push {cl : Cl} {φ : Phi} {h : Hm} {H : Hp} {p : Addr} {o : HO} {m : MO} (x : Hs cl φ h H) (n : H p = none) (new : RpO cl (φ.push p) (upd H p o) m p) : Hs cl (φ.push p) (h ++ [m]) (upd H p o) where
  len := by simp [x.len]
  get := fun k u e => by
    rcases getElem?_snoc e with e | ⟨rfl, rfl⟩
    · have hk : k < φ.m.length := by rw [x.len]; exact (List.getElem?_eq_some_iff.mp e).1
      rw [List.getElem?_append_left hk]
      rcases x.get k u e with q | ⟨a, q, r⟩
      · exact .inl q
      · exact .inr ⟨a, q, RpO.move (fun b w ob r => ⟨off_push n ob r, rd_upd n r⟩) (upd_ne fun z => RpO.some r (by rw [z]; exact n)) r⟩
    · exact .inr ⟨p, by rw [← x.len]; simp, new⟩
  inj := fun i j a h1 h2 => by
    have np : ∀ k, φ.m[k]? = some (some p) → False := fun k e => x.live (List.mem_of_getElem? e) n
    rcases getElem?_snoc h1 with h1 | ⟨rfl, e1⟩
    · rcases getElem?_snoc h2 with h2 | ⟨rfl, e2⟩
      · exact x.inj i j a h1 h2
      · cases e2; exact (np _ h1).elim
    · rcases getElem?_snoc h2 with h2 | ⟨rfl, e2⟩
      · cases e1; exact (np _ h2).elim
      · rfl
  res := fun a h => ⟨upd_some (x.res a h).1, fun z => by
    rcases List.mem_append.mp z with z | z
    · exact (x.res a h).2 z
    · simp at z; subst z; exact (x.res a h).1 n⟩
/-- what may change is written -/
theorem rd_write {H : Hp} {p a : Addr} {u o : HO} (ne : a ≠ p) (r : Rx H a u) : Rx (upd H p o) a u := by
  unfold Rx
  rw [upd_ne ne]
  exact r
theorem Grow.write {φ : Phi} {H : Hp} {p : Addr} {o : HO} (m : some p ∈ φ.m) : Grow φ H φ (upd H p o) :=
  ⟨Nat.le_refl _, fun _ _ _ h => h, fun _ h => .inl h, fun a u h r => by
    have ne : a ≠ p := fun e => h (e ▸ m)
    rw [upd_ne ne]; exact r, rfl⟩
theorem Hs.write {cl : Cl} {φ : Phi} {h : Hm} {H : Hp} {p : Addr} {o : HO} {n : Nat} {m : MO} (x : Hs cl φ h H) (e : φ.m[n]? = some (some p)) (new : RpO cl φ (upd H p o) m p) : Hs cl φ (h.set n m) (upd H p o) where
  len := by rw [List.length_set]; exact x.len
  get := fun k u q => by
    by_cases hk : n = k
    · subst hk
      have hn : n < h.length := by rw [← x.len]; exact (List.getElem?_eq_some_iff.mp e).1
      rw [List.getElem?_set_self hn] at q
      cases q
      exact .inr ⟨p, e, new⟩
    · rw [List.getElem?_set_ne hk] at q
      rcases x.get k u q with z | ⟨a, z, r⟩
      · exact .inl z
      · have ne : a ≠ p := fun ea => hk (x.inj n k p e (ea ▸ z))
        exact .inr ⟨a, z, RpO.move (fun b w ob r => ⟨ob, rd_write (r := r) fun eb => ob.1 (eb ▸ List.mem_of_getElem? e)⟩) (upd_ne ne) r⟩
  inj := x.inj
  res := fun a h => ⟨upd_some (x.res a h).1, (x.res a h).2⟩
/-- what may change is no longer changed -/
abbrev Phi.kill (φ : Phi) (n : Nat) : Phi := ⟨φ.m.set n none, φ.r⟩
theorem off_set {φ : Phi} {n : Nat} {a : Addr} (h : Off φ a) : Off (φ.kill n) a := ⟨fun m => by
  rcases List.mem_or_eq_of_mem_set m with m | m
  · exact h.1 m
  · exact absurd m (by simp), h.2⟩
theorem Grow.kill {φ : Phi} {H : Hp} {n : Nat} : Grow φ H (φ.kill n) H :=
  ⟨by simp, fun k a hk h => by
    by_cases e : n = k
    · subst e; rw [List.getElem?_set_self hk] at h; cases h
    · rw [List.getElem?_set_ne e] at h; exact h, fun a h => by
    rcases List.mem_or_eq_of_mem_set h with m | m
    · exact .inl m
    · exact absurd m (by simp), fun _ _ _ r => r, rfl⟩
theorem Hs.kill {cl : Cl} {φ : Phi} {h : Hm} {H : Hp} {n : Nat} (x : Hs cl φ h H) : Hs cl (φ.kill n) (h.set n .dead) H where
  len := by rw [List.length_set, List.length_set]; exact x.len
  get := fun k u q => by
    by_cases hk : n = k
    · subst hk
      by_cases hn : n < h.length
      · rw [List.getElem?_set_self hn] at q
        cases q
        exact .inl ⟨rfl, List.getElem?_set_self (by rw [x.len]; exact hn)⟩
      · rw [List.getElem?_eq_none (by simp; omega)] at q; cases q
    · rw [List.getElem?_set_ne hk] at q
      rw [List.getElem?_set_ne hk]
      rcases x.get k u q with z | ⟨a, z, r⟩
      · exact .inl z
      · exact .inr ⟨a, z, RpO.move (fun b w ob r => ⟨off_set ob, r⟩) rfl r⟩
  inj := fun i j a h1 h2 => by
    have k : ∀ m, (φ.m.set n none)[m]? = some (some a) → φ.m[m]? = some (some a) := fun m h => by
      by_cases e : n = m
      · subst e
        by_cases hn : n < φ.m.length
        · rw [List.getElem?_set_self hn] at h; cases h
        · rw [List.getElem?_eq_none (by simp; omega)] at h; cases h
      · rw [List.getElem?_set_ne e] at h; exact h
    exact x.inj i j a (k i h1) (k j h2)
  res := fun a h => ⟨(x.res a h).1, fun z => by
    rcases List.mem_or_eq_of_mem_set z with m | m
    · exact (x.res a h).2 m
    · exact absurd m (by simp)⟩
/-- the top is dropped -/
abbrev Phi.take (φ : Phi) (n : Nat) : Phi := ⟨φ.m.take n, φ.r⟩
theorem off_take {φ : Phi} {n : Nat} {a : Addr} (h : Off φ a) : Off (φ.take n) a := ⟨fun m => h.1 (List.mem_of_mem_take m), h.2⟩
theorem Hs.take {cl : Cl} {φ : Phi} {h : Hm} {H : Hp} (n : Nat) (x : Hs cl φ h H) : Hs cl (φ.take n) (h.take n) H where
  len := by simp [x.len]
  get := fun k u q => by
    rw [List.getElem?_take] at q
    split at q
    · rename_i hk
      rw [List.getElem?_take_of_lt hk]
      rcases x.get k u q with z | ⟨a, z, r⟩
      · exact .inl z
      · exact .inr ⟨a, z, RpO.move (fun b w ob r => ⟨off_take ob, r⟩) rfl r⟩
    · cases q
  inj := fun i j a h1 h2 => by
    have k : ∀ m, (φ.m.take n)[m]? = some (some a) → φ.m[m]? = some (some a) := fun m h => by
      rw [List.getElem?_take] at h
      split at h
      · exact h
      · cases h
    exact x.inj i j a (k i h1) (k j h2)
  res := fun a h => ⟨(x.res a h).1, fun z => (x.res a h).2 (List.mem_of_mem_take z)⟩
theorem Grow.take {φ φ' : Phi} {H H' : Hp} {n : Nat} (g : Grow φ H φ' H') (hn : φ.m.length ≤ n) : Grow φ H (φ'.take n) H' :=
  ⟨by rw [List.length_take]; exact Nat.le_min.mpr ⟨hn, g.len⟩, fun k a hk h => by
    rw [List.getElem?_take_of_lt (by omega)] at h
    exact g.old k a hk h, fun a h => g.new a (List.mem_of_mem_take h), g.keep, g.res⟩
/-- one thing stays on top -/
abbrev Phi.top (φ : Phi) (e : Nat) (a : Addr) : Phi := ⟨φ.m.take e ++ [some a], φ.r⟩
theorem Hs.takeTop {cl : Cl} {φ : Phi} {h : Hm} {H : Hp} {e n : Nat} {a : Addr} {o : MO} (x : Hs cl φ h H) (he : e ≤ n) (q : φ.m[n]? = some (some a)) (r : h[n]? = some o) : Hs cl (φ.top e a) (h.take e ++ [o]) H := by
  have hn : n < φ.m.length := (List.getElem?_eq_some_iff.mp q).1
  have hl : (φ.m.take e).length = e := by rw [List.length_take]; omega
  have hl' : (h.take e).length = e := by rw [List.length_take, ← x.len]; omega
  have off : ∀ {b : Addr}, Off φ b → Off (φ.top e a) b := fun {b} h => ⟨fun m => by
    rcases List.mem_append.mp m with m | m
    · exact h.1 (List.mem_of_mem_take m)
    · simp at m; rw [m] at h; exact h.1 (List.mem_of_getElem? q), h.2⟩
  refine ⟨by simp [hl, hl'], fun k u z => ?_, fun i j b h1 h2 => ?_, fun b h => ⟨(x.res b h).1, fun z => by
    rcases List.mem_append.mp z with z | z
    · exact (x.res b h).2 (List.mem_of_mem_take z)
    · simp at z; subst z; exact (x.res b h).2 (List.mem_of_getElem? q)⟩⟩
  · rcases getElem?_snoc z with z | ⟨rfl, rfl⟩
    · rw [List.getElem?_take] at z
      split at z
      · rename_i hk
        rw [List.getElem?_append_left (by omega), List.getElem?_take_of_lt hk]
        rcases x.get k u z with y | ⟨b, y, w⟩
        · exact .inl y
        · exact .inr ⟨b, y, RpO.move (fun b w ob r => ⟨off ob, r⟩) rfl w⟩
      · cases z
    · rw [hl']
      rcases x.get n u r with ⟨_, y⟩ | ⟨b, y, w⟩
      · rw [q] at y; cases y
      · rw [q] at y; cases y
        refine .inr ⟨a, ?_, RpO.move (fun b w ob r => ⟨off ob, r⟩) rfl w⟩
        rw [List.getElem?_append_right (by omega), hl]
        simp
  · have k : ∀ m, (φ.m.take e ++ [some a])[m]? = some (some b) → (m < e ∧ φ.m[m]? = some (some b)) ∨ (m = e ∧ b = a) := fun m h => by
      rcases getElem?_snoc h with h | ⟨em, h⟩
      · rw [List.getElem?_take] at h
        split at h
        · exact .inl ⟨by assumption, h⟩
        · cases h
      · exact .inr ⟨em.trans hl, Option.some.inj h⟩
    rcases k i h1 with ⟨a1, a2⟩ | ⟨a1, a2⟩ <;> rcases k j h2 with ⟨b1, b2⟩ | ⟨b1, b2⟩
    · exact x.inj i j b a2 b2
    · subst b2; have := x.inj i n _ a2 q; omega
    · subst a2; have := x.inj j n _ b2 q; omega
    · omega
theorem Grow.takeTop {φ φ' : Phi} {H H' : Hp} {n e : Nat} {a : Addr} (g : Grow φ H φ' H') (he : φ.m.length = e) (hn : e ≤ n) (q : φ'.m[n]? = some (some a)) : Grow φ H (φ'.top e a) H' := by
  have hl : (φ'.m.take e).length = e := by
    have := (List.getElem?_eq_some_iff.mp q).1
    rw [List.length_take]; omega
  refine ⟨by simp [hl, he], fun k b hk h => ?_, fun b h => ?_, g.keep, g.res⟩
  · rw [List.getElem?_append_left (by omega), List.getElem?_take_of_lt (by omega)] at h
    exact g.old k b hk h
  · rcases List.mem_append.mp h with h | h
    · exact g.new b (List.mem_of_mem_take h)
    · simp at h; rw [h]; exact g.new a (List.mem_of_getElem? q)
/-- an address is kept apart for a while -/
abbrev Phi.hold (φ : Phi) (D : Addr) : Phi := ⟨φ.m, D :: φ.r⟩
abbrev Phi.drop (φ : Phi) : Phi := ⟨φ.m, φ.r.tail⟩
theorem off_hold {φ : Phi} {D b : Addr} (ob : Off φ b) (ne : b ≠ D) : Off (φ.hold D) b := ⟨ob.1, fun m => (List.mem_cons.mp m).elim ne ob.2⟩
theorem off_drop {φ : Phi} {b : Addr} (ob : Off φ b) : Off φ.drop b := ⟨ob.1, fun m => ob.2 (List.mem_of_mem_tail m)⟩
/-- a new thing is laid and kept apart -/
theorem Hs.hold {cl : Cl} {φ : Phi} {h : Hm} {H : Hp} {D : Addr} {o : HO} (x : Hs cl φ h H) (n : H D = none) : Hs cl (φ.hold D) h (upd H D o) where
  len := x.len
  get := fun k u z => by
    rcases x.get k u z with y | ⟨b, y, w⟩
    · exact .inl y
    · refine .inr ⟨b, y, RpO.move (fun c w ob r => ⟨off_hold ob fun e => rd_some r (e ▸ n), rd_upd n r⟩) (upd_ne fun e => RpO.some w (by rw [e]; exact n)) w⟩
  inj := x.inj
  res := fun a m => by
    rcases List.mem_cons.mp m with m | m
    · subst m; exact ⟨by rw [upd_same]; simp, fun z => x.live z n⟩
    · exact ⟨upd_some (x.res a m).1, (x.res a m).2⟩
theorem Hs.drop {cl : Cl} {φ : Phi} {h : Hm} {H : Hp} (x : Hs cl φ h H) : Hs cl φ.drop h H where
  len := x.len
  get := fun k u z => by
    rcases x.get k u z with y | ⟨b, y, w⟩
    · exact .inl y
    · exact .inr ⟨b, y, RpO.move (fun c w ob r => ⟨off_drop ob, r⟩) rfl w⟩
  inj := x.inj
  res := fun a m => x.res a (List.mem_of_mem_tail m)
/-- what is kept apart is written -/
theorem Hs.writeR {cl : Cl} {φ : Phi} {h : Hm} {H : Hp} {D : Addr} {o : HO} (x : Hs cl φ h H) (hD : D ∈ φ.r) : Hs cl φ h (upd H D o) where
  len := x.len
  get := fun k u z => by
    rcases x.get k u z with y | ⟨b, y, w⟩
    · exact .inl y
    · refine .inr ⟨b, y, RpO.move (fun c w ob r => ⟨ob, rd_write (r := r) fun e => ob.2 (e ▸ hD)⟩) (upd_ne fun e => (x.res D hD).2 (by rw [← e]; exact List.mem_of_getElem? y)) w⟩
  inj := x.inj
  res := fun a m => ⟨upd_some (x.res a m).1, (x.res a m).2⟩

/-- a value in hand: its own thing may change, what is within may not -/
def RpI (cl : Cl) (φ : Phi) (H : Hp) : T → V → Prop
  | .tup xs, v => ∃ a vs, v = .ref a ∧ Off φ a ∧ Rx H a (.tup vs) ∧ Rps cl (Off φ) H xs vs
  | .lst xs, v => ∃ a vs, v = .ref a ∧ Rx H a (.lst vs) ∧ Rps cl (Off φ) H xs vs
  | .dct ks us, v => ∃ a kvs, v = .ref a ∧ Rx H a (.dK kvs) ∧ kvs.map (fun p => keyT p.1) = ks ∧ Rps cl (Off φ) H us (kvs.map (·.2))
  | .obj c ns us, v => ∃ a C dx fs, v = .ref a ∧ cl c = some C ∧ Rx H a (.ins C dx fs) ∧ fs.map (·.1) = ns ∧ Rps cl (Off φ) H us (fs.map (·.2))
  | .non, v => v = .non
  | .bl b, v => v = .bl b
  | .int i, v => v = .int i
  | .str x, v => v = .str x
theorem RpF.i {cl : Cl} {φ : Phi} {H : Hp} {t : T} {v : V} (h : RpF cl φ H t v) : RpI cl φ H t v := by
  cases t <;> rw [RpF, Rp] at h
  · exact h
  · exact h
  · exact h
  · exact h
  · obtain ⟨a, vs, e, o, r, q⟩ := h; exact ⟨a, vs, e, o, r, q⟩
  · obtain ⟨a, vs, e, _, r, q⟩ := h; exact ⟨a, vs, e, r, q⟩
  · obtain ⟨a, vs, e, _, r, q⟩ := h; exact ⟨a, vs, e, r, q⟩
  · obtain ⟨a, C, dx, vs, e, _, ec, r, q⟩ := h; exact ⟨a, C, dx, vs, e, ec, r, q⟩
theorem RpI.d {cl : Cl} {φ : Phi} {H : Hp} {t : T} {v : V} (h : RpI cl φ H t v) : RpD cl H t v := by
  have mv : ∀ {xs : List T} {vs : List V}, Rps cl (Off φ) H xs vs → Rps cl (fun _ => True) H xs vs := fun h => Rps.move (fun _ _ _ r => ⟨trivial, r⟩) h
  cases t <;> rw [RpD, Rp]
  · exact h
  · exact h
  · exact h
  · exact h
  · obtain ⟨a, vs, e, _, r, q⟩ := h; exact ⟨a, vs, e, trivial, r, mv q⟩
  · obtain ⟨a, vs, e, r, q⟩ := h; exact ⟨a, vs, e, trivial, r, mv q⟩
  · obtain ⟨a, vs, e, r, f, q⟩ := h; exact ⟨a, vs, e, trivial, r, f, mv q⟩
  · obtain ⟨a, C, dx, vs, e, ec, r, f, q⟩ := h; exact ⟨a, C, dx, vs, e, trivial, ec, r, f, mv q⟩
/-- reading a value: a thing that may change is read as it stands -/
theorem RpS.dref {cl : Cl} {φ : Phi} {h : Hm} {H : Hp} (x : Hs cl φ h H) {s : S} {v : V} {t : T} (r : RpS cl φ H s v) (e : dref h s = some t) : RpI cl φ H t v := by
  cases s with
  | t u => cases e; exact RpF.i r
  | r n =>
    cases q : h[n]? with
    | none => simp [My.dref, q] at e
    | some o =>
      rcases x.get n o q with ⟨rfl, _⟩ | ⟨a, z, w⟩
      · simp [My.dref, q] at e
      · have hv := r.2 a z
        cases o with
        | lst xs => simp [My.dref, q] at e; subst e; obtain ⟨vs, h1, h2⟩ := w; exact ⟨a, vs, hv, .inl h1, h2⟩
        | dct ks us => simp [My.dref, q] at e; subst e; obtain ⟨kvs, h1, h2, h3⟩ := w; exact ⟨a, kvs, hv, .inl h1, h2, h3⟩
        | obj c ns us => simp [My.dref, q] at e; subst e; obtain ⟨C, dx, fs, ec, h1, h2, h3⟩ := w; exact ⟨a, C, dx, fs, hv, ec, .inl h1, h2, h3⟩
        | dead => exact w.elim

/-! ### what an evaluation owes -/
/-- how an exception stands: its class, its own dict -/
abbrev XRel := Phi → Hp → Nat → List T → Value → Option Addr → Prop
section
variable (cl : Cl) (xr : XRel)
def MW {α β : Type} (rel : Phi → Hp → α → β → Prop) (W : WX) (σ : L2.St) (φ : Phi) (H : Hp) (r : R α) (Q : β → Hp → Prop) : Prop := match r with
  | .ok a h' => ∀ φ' H' v, Grow φ H φ' H' → Hs cl φ' h' H' → rel φ' H' a v → Q v H'
  | .ex c fs h' => ∀ φ' H' k d, Grow φ H φ' H' → Hs cl φ' h' H' → xr φ' H' c fs k d → W k d σ H'
  | .bad => False
end
theorem MW.grow {cl : Cl} {xr : XRel} {α β : Type} {rel : Phi → Hp → α → β → Prop} {W : WX} {σ : L2.St} {φ φ1 : Phi} {H H1 : Hp} {r : R α} {Q : β → Hp → Prop}
    (h : MW cl xr rel W σ φ H r Q) (g : Grow φ H φ1 H1) : MW cl xr rel W σ φ1 H1 r Q := by
  cases r with
  | ok a h' => exact fun φ' H' v g' => h φ' H' v (g.trans g')
  | ex c fs h' => exact fun φ' H' k d g' => h φ' H' k d (g.trans g')
  | bad => exact h
theorem MW.bind {cl : Cl} {xr : XRel} {α β γ δ : Type} {rel : Phi → Hp → α → β → Prop} {rel' : Phi → Hp → γ → δ → Prop} {W : WX} {σ : L2.St} {φ : Phi} {H : Hp} {x : R γ} {f : γ → Hm → R α} {Q : β → Hp → Prop} {Q' : δ → Hp → Prop}
    (h : MW cl xr rel W σ φ H (x.bind f) Q) (k : ∀ a h1 φ1 H1 v, x = .ok a h1 → Grow φ H φ1 H1 → Hs cl φ1 h1 H1 → rel' φ1 H1 a v → MW cl xr rel W σ φ1 H1 (f a h1) Q → Q' v H1) :
    MW cl xr rel' W σ φ H x Q' := by
  cases x with
  | ok a h1 => exact fun φ1 H1 v g hs r => k a h1 φ1 H1 v rfl g hs r (h.grow g)
  | ex c fs h' => exact h
  | bad => exact h
theorem MW.bind0 {cl : Cl} {xr : XRel} {α β γ δ : Type} {rel : Phi → Hp → α → β → Prop} {rel' : Phi → Hp → γ → δ → Prop} {W : WX} {σ : L2.St} {φ : Phi} {H : Hp} {x : R γ} {f : γ → Hm → R α} {Q : β → Hp → Prop} {Q' : δ → Hp → Prop}
    (h : MW cl xr rel W σ φ H (x.bind f) Q) (k : ∀ a h1 φ1 H1 v, x = .ok a h1 → Grow φ H φ1 H1 → Hs cl φ1 h1 H1 → rel' φ1 H1 a v → MW cl xr rel W σ φ H (f a h1) Q → Q' v H1) :
    MW cl xr rel' W σ φ H x Q' := by
  cases x with
  | ok a h1 => exact fun φ1 H1 v g hs r => k a h1 φ1 H1 v rfl g hs r h
  | ex c fs h' => exact h
  | bad => exact h
theorem MW.lift {cl : Cl} {xr : XRel} {α β γ : Type} {rel : Phi → Hp → α → β → Prop} {W : WX} {σ : L2.St} {φ : Phi} {H : Hp} {o : Option γ} {h : Hm} {f : γ → Hm → R α} {Q : β → Hp → Prop}
    (m : MW cl xr rel W σ φ H ((liftO o h).bind f) Q) : ∃ a, o = some a ∧ MW cl xr rel W σ φ H (f a h) Q := by
  cases o with
  | none => exact m.elim
  | some a => exact ⟨a, rfl, m⟩
theorem MW.asT {cl : Cl} {xr : XRel} {α β : Type} {rel : Phi → Hp → α → β → Prop} {W : WX} {σ : L2.St} {φ : Phi} {H : Hp} {s : S} {h : Hm} {f : T → Hm → R α} {Q : β → Hp → Prop}
    (m : MW cl xr rel W σ φ H ((asT s h).bind f) Q) : ∃ t, s = .t t ∧ MW cl xr rel W σ φ H (f t h) Q := by
  cases s with
  | r n => exact m.elim
  | t a => exact ⟨a, rfl, m⟩
theorem MW.asI {cl : Cl} {xr : XRel} {α β : Type} {rel : Phi → Hp → α → β → Prop} {W : WX} {σ : L2.St} {φ : Phi} {H : Hp} {s : S} {h : Hm} {f : Int → Hm → R α} {Q : β → Hp → Prop}
    (m : MW cl xr rel W σ φ H ((asI s h).bind f) Q) : ∃ b, s = .t (.int b) ∧ MW cl xr rel W σ φ H (f b h) Q := by
  cases s with
  | r n => exact m.elim
  | t a => cases a <;> first | exact m.elim | exact ⟨_, rfl, m⟩
theorem MW.isD {cl : Cl} {xr : XRel} {α β : Type} {rel : Phi → Hp → α → β → Prop} {W : WX} {σ : L2.St} {φ : Phi} {H : Hp} {s : S} {h : Hm} {f : Unit → Hm → R α} {Q : β → Hp → Prop}
    (m : MW cl xr rel W σ φ H ((isD s h).bind f) Q) : ∃ ks us, dref h s = some (.dct ks us) ∧ MW cl xr rel W σ φ H (f () h) Q := by
  unfold My.isD at m
  cases e : dref h s with
  | none => rw [e] at m; exact m.elim
  | some t => rw [e] at m; cases t <;> first | exact m.elim | exact ⟨_, _, rfl, m⟩
theorem MW.isL {cl : Cl} {xr : XRel} {α β : Type} {rel : Phi → Hp → α → β → Prop} {W : WX} {σ : L2.St} {φ : Phi} {H : Hp} {s : S} {h : Hm} {f : Unit → Hm → R α} {Q : β → Hp → Prop}
    (m : MW cl xr rel W σ φ H ((isL s h).bind f) Q) : ∃ ks, dref h s = some (.lst ks) ∧ MW cl xr rel W σ φ H (f () h) Q := by
  unfold My.isL at m
  cases e : dref h s with
  | none => rw [e] at m; exact m.elim
  | some t => rw [e] at m; cases t <;> first | exact m.elim | exact ⟨_, rfl, m⟩
theorem MW.asB {cl : Cl} {xr : XRel} {α β : Type} {rel : Phi → Hp → α → β → Prop} {W : WX} {σ : L2.St} {φ : Phi} {H : Hp} {s : S} {h : Hm} {f : Bool → Hm → R α} {Q : β → Hp → Prop}
    (m : MW cl xr rel W σ φ H ((asB s h).bind f) Q) : ∃ b, s = .t (.bl b) ∧ MW cl xr rel W σ φ H (f b h) Q := by
  cases s with
  | r n => exact m.elim
  | t a => cases a <;> first | exact m.elim | exact ⟨_, rfl, m⟩
end My

/-! MiniPy: the operators are right. -/
namespace My
open PySem L2 PyProof.Rows

section
variable {X : Cx} {cl : Cl} {xr : XRel} {W : WX} {σ0 : L2.St} {φ : Phi} {h : Hm} {H : Hp} {Q : VK}
theorem now {t : T} {v : V} (m : MW cl xr (RpS cl) W σ0 φ H (.ok (.t t) h) Q) (hs : Hs cl φ h H) (r : RpF cl φ H t v) : Q v H := m φ H v (Grow.refl _ _) hs r
theorem newLst {xs : List T} {vs : List V} (m : MW cl xr (RpS cl) W σ0 φ H (.ok (.t (.lst xs)) h) Q) (hs : Hs cl φ h H) (r : Rps cl (Off φ) H xs vs) : ∀ p, H p = none → Q (.ref p) (upd H p (.lst vs)) := fun p n => by
  refine m φ _ _ (Grow.lay n) (hs.lay n) ?_
  show RpF cl φ _ _ _
  rw [RpF, Rp]
  exact ⟨p, vs, rfl, hs.offNone n, .inl upd_same, (Grow.lay n).rps r⟩
theorem newTup {xs : List T} {vs : List V} (m : MW cl xr (RpS cl) W σ0 φ H (.ok (.t (.tup xs)) h) Q) (hs : Hs cl φ h H) (r : Rps cl (Off φ) H xs vs) : ∀ p, H p = none → Q (.ref p) (upd H p (.tup vs)) := fun p n => by
  refine m φ _ _ (Grow.lay n) (hs.lay n) ?_
  show RpF cl φ _ _ _
  rw [RpF, Rp]
  exact ⟨p, vs, rfl, hs.offNone n, .inl upd_same, (Grow.lay n).rps r⟩
theorem nowInt {i : Int} (m : MW cl xr (RpS cl) W σ0 φ H (.ok (.t (.int i)) h) Q) (hs : Hs cl φ h H) : Q (.int i) H := now m hs (by rw [RpF, Rp])
theorem nowBl {i : Bool} (m : MW cl xr (RpS cl) W σ0 φ H (.ok (.t (.bl i)) h) Q) (hs : Hs cl φ h H) : Q (.bl i) H := now m hs (by rw [RpF, Rp])
theorem nowStr {i : Str} (m : MW cl xr (RpS cl) W σ0 φ H (.ok (.t (.str i)) h) Q) (hs : Hs cl φ h H) : Q (.str i) H := now m hs (by rw [RpF, Rp])
theorem nowNon (m : MW cl xr (RpS cl) W σ0 φ H (.ok (.t .non) h) Q) (hs : Hs cl φ h H) : Q .non H := now m hs (by rw [RpF, Rp])
end

/-- what is asked of two values in hand -/
structure Two (X : Cx) (cl : Cl) (o : Bo) (x y : V) (H : Hp) (Q : VK) : Prop where
  ex : ∃ (xr : XRel) (W : WX) (σ0 : L2.St) (φ : Phi) (h : Hm) (t u z : T), Hs cl φ h H ∧ RpI cl φ H t x ∧ RpI cl φ H u y ∧ sem2 o t u = some z ∧ MW cl xr (RpS cl) W σ0 φ H (.ok (.t z) h) Q
structure One (X : Cx) (cl : Cl) (sub : Nat → Nat → Bool) (o : U) (x : V) (H : Hp) (Q : VK) : Prop where
  ex : ∃ (xr : XRel) (W : WX) (σ0 : L2.St) (φ : Phi) (h : Hm) (t z : T), Hs cl φ h H ∧ RpI cl φ H t x ∧ sem1 sub o t = some z ∧ MW cl xr (RpS cl) W σ0 φ H (.ok (.t z) h) Q

/-! ### data -/
mutual
theorem Rp.dp {cl : Cl} {ok : Al} {H : Hp} {K : PySem.W.Frag} : ∀ {t : T} {v : V}, t.data = true → Rp cl ok H t v → Dp K H v t.py
  | .non, _, _, h => by rw [Rp] at h; subst h; exact .non
  | .bl b, _, _, h => by rw [Rp] at h; subst h; exact .bl b
  | .int i, _, _, h => by rw [Rp] at h; subst h; exact .int i
  | .str x, _, _, h => by rw [Rp] at h; subst h; exact .str x
  | .tup xs, _, d, h => by
    rw [Rp] at h
    obtain ⟨a, vs, e, _, r, q⟩ := h
    subst e
    exact .tup (.inl r.rd) (Rps.dp (by simpa [T.data] using d) q)
  | .lst xs, _, d, h => by
    rw [Rp] at h
    obtain ⟨a, vs, e, _, r, q⟩ := h
    subst e
    exact .lst (.inl r.rd) (Rps.dp (by simpa [T.data] using d) q)
  | .dct _ _, _, d, _ => by simp [T.data] at d
  | .obj _ _ _, _, d, _ => by simp [T.data] at d
theorem Rps.dp {cl : Cl} {ok : Al} {H : Hp} {K : PySem.W.Frag} : ∀ {xs : List T} {vs : List V}, datas xs = true → Rps cl ok H xs vs → DpAll K H vs (pys xs)
  | [], _, _, h => by rw [Rps] at h; subst h; exact .nil
  | x :: xs, _, d, h => by
    rw [Rps] at h
    obtain ⟨v, r, e, a, b⟩ := h
    subst e
    simp only [datas, Bool.and_eq_true] at d
    exact .cons (Rp.dp d.1 a) (Rps.dp d.2 b)
end
theorem shp_data {t : T} (h : t.shp = true) : t.data = true ∧ SeqAt.shaped t.py = true := by
  simp only [T.shp, Bool.and_eq_true] at h; exact h

/-! ### two values -/
section
variable {X : Cx} {cl : Cl} {K : PySem.W.Frag}
theorem lim_le {n : Nat} (h : lim n = true) : n ≤ sizeLine := of_decide_eq_true h
/-- lists joined, read as they stand -/
theorem op_catR : OpR X (binaryOp .Add) (fun x y H Q => ∃ l b xs zs, x = .ref l ∧ y = .ref b ∧ Rd H l (.lst xs) ∧ Rd H b (.lst zs) ∧ xs.length + zs.length ≤ sizeLine ∧ ∀ p, H p = none → Q (.ref p) (upd H p (.lst (xs ++ zs)))) := by
  intro pins s σ H x y v u Q I rx ry hh
  obtain ⟨l, b, xs, zs, ex, ey, hl, hb, hz, q⟩ := hh
  subst ex; subst ey
  cases rx
  cases ry
  obtain ⟨_, its, n, r1, e1⟩ := hl.ok I.hok
  obtain ⟨_, its2, n2, r2, e2⟩ := hb.ok I.hok
  have z1 := r1.length
  have z2 := r2.length
  refine PySem.P.add_list e1 e2 ?_ (by rw [List.size_toArray, List.size_toArray, ← z1, ← z2]; exact hz)
  rw [show its.toArray ++ its2.toArray = (its ++ its2).toArray by simp]
  exact ⟨.ref _, _, I.lnew (t' := s.toks) (r1.append r2) (by rw [List.length_append]; exact hz), rfl, q _ I.fresh⟩
theorem Rps.append {cl : Cl} {ok : Al} {H : Hp} : ∀ {xs ys : List T} {vs ws : List V}, Rps cl ok H xs vs → Rps cl ok H ys ws → Rps cl ok H (xs ++ ys) (vs ++ ws)
  | [], _, _, _, a, b => by rw [Rps] at a; subst a; exact b
  | x :: xs, _, _, _, a, b => by
    obtain ⟨v, r, rfl, p, q⟩ := a.inv
    exact .cons p (Rps.append q b)
theorem Rps.take {cl : Cl} {ok : Al} {H : Hp} : ∀ {xs : List T} {vs : List V} (n : Nat), Rps cl ok H xs vs → Rps cl ok H (xs.take n) (vs.take n)
  | [], _, n, a => by rw [Rps] at a; subst a; simp; exact .nil
  | x :: xs, _, 0, a => by simp; exact .nil
  | x :: xs, _, n + 1, a => by
    obtain ⟨v, r, rfl, p, q⟩ := a.inv
    exact .cons p (Rps.take n q)
theorem Rps.drop {cl : Cl} {ok : Al} {H : Hp} : ∀ {xs : List T} {vs : List V} (n : Nat), Rps cl ok H xs vs → Rps cl ok H (xs.drop n) (vs.drop n)
  | [], _, n, a => by rw [Rps] at a; subst a; simp; exact .nil
  | x :: xs, _, 0, a => a
  | x :: xs, _, n + 1, a => by
    obtain ⟨v, r, rfl, p, q⟩ := a.inv
    exact Rps.drop n q
theorem Rps.getE {cl : Cl} {ok : Al} {H : Hp} : ∀ {xs : List T} {vs : List V} {i : Nat} {t : T}, Rps cl ok H xs vs → xs[i]? = some t → ∃ v, vs[i]? = some v ∧ Rp cl ok H t v
  | [], _, _, _, _, e => by simp at e
  | x :: xs, _, 0, t, a, e => by
    obtain ⟨v, r, rfl, p, q⟩ := a.inv
    simp at e; subst e
    exact ⟨v, rfl, p⟩
  | x :: xs, _, i + 1, t, a, e => by
    obtain ⟨v, r, rfl, p, q⟩ := a.inv
    obtain ⟨w, e', p'⟩ := Rps.getE (i := i) q (by simpa using e)
    exact ⟨w, by simpa using e', p'⟩
theorem Rps.atI {cl : Cl} {ok : Al} {H : Hp} {xs : List T} {vs : List V} {i : Int} {t : T} (a : Rps cl ok H xs vs) (e : L2.atI xs i = some t) : ∃ v, L2.atI vs i = some v ∧ Rp cl ok H t v := by
  unfold L2.atI at e ⊢
  rw [← a.length]
  cases q : ixN xs.length i with
  | none => rw [q] at e; simp at e
  | some j => rw [q] at e; simp at e; simpa using a.getE e
theorem Rps.cut {cl : Cl} {ok : Al} {H : Hp} {xs : List T} {vs : List V} (a : Rps cl ok H xs vs) (lo hi : Option Int) : Rps cl ok H (cutL xs lo hi) (cutV vs lo hi) := by
  unfold cutL cutV
  rw [← a.length]
  exact (a.drop _).take _

theorem two_add : OpR X (binaryOp .Add) (Two X cl .add) := by
  intro pins s σ H x y v u Q I rx ry ⟨xr, W, σ0, φ, h, t, t', z, hs, r1, r2, e, m⟩
  cases t <;> cases t' <;> first
    | (cases e; done)
    | skip
  · cases e; cases r1; cases r2
    exact op_add pins s σ H _ _ v u Q I rx ry ⟨_, _, rfl, rfl, nowInt m hs⟩
  · simp only [sem2] at e
    split at e
    · rename_i hl
      cases e; cases r1; cases r2
      exact op_add_str pins s σ H _ _ v u Q I rx ry ⟨_, _, rfl, rfl, lim_le hl, nowStr m hs⟩
    · cases e
  · simp only [sem2] at e
    split at e
    · rename_i hl
      cases e
      obtain ⟨a, vs, e1, o1, q1, p1⟩ := r1
      obtain ⟨b, ws, e2, o2, q2, p2⟩ := r2
      subst e1; subst e2
      refine op_catA pins s σ H _ _ v u Q I rx ry ⟨a, b, vs, ws, rfl, rfl, .inl q1.rd, .inl q2.rd, by rw [← p1.length, ← p2.length]; exact lim_le hl, fun e0 => ?_, fun _ e0 => ?_, fun _ _ => newTup m hs (p1.append p2)⟩
      · subst e0
        have hx := List.eq_nil_of_length_eq_zero p1.length
        subst hx
        exact now m hs (by rw [RpF, Rp]; exact ⟨b, ws, rfl, o2, q2, p2⟩)
      · subst e0
        have hx := List.eq_nil_of_length_eq_zero p2.length
        subst hx
        exact now m hs (by rw [RpF, Rp]; rw [List.append_nil]; exact ⟨a, vs, rfl, o1, q1, p1⟩)
    · cases e
  · simp only [sem2] at e
    split at e
    · rename_i hl
      cases e
      obtain ⟨a, vs, e1, q1, p1⟩ := r1
      obtain ⟨b, ws, e2, q2, p2⟩ := r2
      subst e1; subst e2
      exact op_catR pins s σ H _ _ v u Q I rx ry ⟨a, b, vs, ws, rfl, rfl, q1.rd, q2.rd, by rw [← p1.length, ← p2.length]; exact lim_le hl, newLst m hs (p1.append p2)⟩
    · cases e

/-- ints -/
theorem two_int {o : Bo} {f : Value → Value → Sem Value} {C : Int → Int → Prop} {g : Int → Int → V} {γ : Int → Int → T}
    (hr : OpR X f (rI C g)) (only : ∀ t u z, sem2 o t u = some z → ∃ i j, t = .int i ∧ u = .int j ∧ C i j ∧ z = γ i j)
    (hv : ∀ i j, (∃ k, γ i j = .int k ∧ g i j = .int k) ∨ ∃ k, γ i j = .bl k ∧ g i j = .bl k) : OpR X f (Two X cl o) := by
  intro pins s σ H x y v u Q I rx ry ⟨xr, W, σ0, φ, h, t, t', z, hs, r1, r2, e, m⟩
  obtain ⟨i, j, e1, e2, hc, e3⟩ := only _ _ _ e
  subst e1; subst e2; subst e3
  cases r1; cases r2
  refine hr pins s σ H _ _ v u Q I rx ry ⟨i, j, rfl, rfl, hc, ?_⟩
  rcases hv i j with ⟨k, a, b⟩ | ⟨k, a, b⟩
  · rw [b]; rw [a] at m; exact nowInt m hs
  · rw [b]; rw [a] at m; exact nowBl m hs
theorem OpR.i0 {f : Value → Value → Sem Value} {g : Int → Int → V} (h : OpR X f (rI0 g)) : OpR X f (rI (fun _ _ => True) g) := fun pins s σ H x y v u Q I rx ry ⟨i, j, a, b, _, q⟩ => h pins s σ H x y v u Q I rx ry ⟨i, j, a, b, q⟩
theorem small64_or {i j : Int} (h : (small64 i || small64 j) = true) : CMul i j := by
  simp only [small64, Bool.or_eq_true, Bool.and_eq_true, decide_eq_true_eq] at h
  exact h
theorem two_sub : OpR X (binaryOp .Sub) (Two X cl .sub) := two_int (C := fun _ _ => True) (γ := fun i j => .int (i - j)) (OpR.i0 op_sub) (fun t u z e => by
  cases t <;> cases u <;> first | (cases e; done) | (cases e; exact ⟨_, _, rfl, rfl, True.intro, rfl⟩)) fun i j => .inl ⟨_, rfl, rfl⟩
theorem two_mul : OpR X (binaryOp .Mult) (Two X cl .mul) := two_int (C := CMul) (γ := fun i j => .int (i * j)) op_mul (fun t u z e => by
  cases t <;> cases u <;> first | (cases e; done) | skip
  simp only [sem2, arith] at e
  split at e
  · cases e; exact ⟨_, _, rfl, rfl, small64_or (by assumption), rfl⟩
  · cases e) fun i j => .inl ⟨_, rfl, rfl⟩
theorem two_fdiv : OpR X (binaryOp .FloorDiv) (Two X cl .fdiv) := two_int (C := CDiv) (γ := fun i j => .int (i / j)) op_fdiv (fun t u z e => by
  cases t <;> cases u <;> first | (cases e; done) | skip
  simp only [sem2, arith] at e
  split at e
  · rename_i hc; simp only [Bool.and_eq_true, decide_eq_true_eq] at hc; cases e; exact ⟨_, _, rfl, rfl, hc, rfl⟩
  · cases e) fun i j => .inl ⟨_, rfl, rfl⟩
theorem two_mod : OpR X (binaryOp .Mod) (Two X cl .mod) := two_int (C := fun _ j => 0 < j) (γ := fun i j => .int (i % j)) op_mod (fun t u z e => by
  cases t <;> cases u <;> first | (cases e; done) | skip
  simp only [sem2, arith] at e
  split at e
  · rename_i hc; simp only [decide_eq_true_eq] at hc; cases e; exact ⟨_, _, rfl, rfl, hc, rfl⟩
  · cases e) fun i j => .inl ⟨_, rfl, rfl⟩
theorem two_pow : OpR X (binaryOp .Pow) (Two X cl .pow) := two_int (C := CPow) (γ := fun i j => .int (i ^ j.toNat)) op_pow (fun t u z e => by
  cases t <;> cases u <;> first | (cases e; done) | skip
  simp only [sem2, arith] at e
  split at e
  · rename_i hc; simp only [Bool.and_eq_true, decide_eq_true_eq] at hc; cases e; exact ⟨_, _, rfl, rfl, ⟨hc.1.1, hc.1.2, hc.2⟩, rfl⟩
  · cases e) fun i j => .inl ⟨_, rfl, rfl⟩
/-- an order -/
theorem two_ord {o : Bo} {f : Value → Value → Sem Value} {p : Int → Int → Bool} {q : Str → Str → Bool} (hi : OpR X f (rI0 fun i j => .bl (p i j)))
    (hq : OpR X f (fun x y H Q => ∃ i j, x = .str i ∧ y = .str j ∧ Q (.bl (q i j)) H))
    (only : ∀ t u z, sem2 o t u = some z → (∃ i j, t = .int i ∧ u = .int j ∧ z = .bl (p i j)) ∨ ∃ i j, t = .str i ∧ u = .str j ∧ z = .bl (q i j)) : OpR X f (Two X cl o) := by
  intro pins s σ H x y v u Q I rx ry ⟨xr, W, σ0, φ, h, t, t', z, hs, r1, r2, e, m⟩
  rcases only _ _ _ e with ⟨i, j, e1, e2, e3⟩ | ⟨i, j, e1, e2, e3⟩
  · subst e1; subst e2; subst e3
    cases r1; cases r2
    exact hi pins s σ H _ _ v u Q I rx ry ⟨i, j, rfl, rfl, nowBl m hs⟩
  · subst e1; subst e2; subst e3
    cases r1; cases r2
    exact hq pins s σ H _ _ v u Q I rx ry ⟨i, j, rfl, rfl, nowBl m hs⟩
theorem two_lt : OpR X (compareOp .Lt) (Two X cl .lt) := two_ord op_lt op_lt_str fun t u z e => by
  cases t <;> cases u <;> first | (cases e; done) | (cases e; exact .inl ⟨_, _, rfl, rfl, rfl⟩) | (cases e; exact .inr ⟨_, _, rfl, rfl, rfl⟩)
theorem two_le : OpR X (compareOp .LtE) (Two X cl .le) := two_ord op_le op_le_str fun t u z e => by
  cases t <;> cases u <;> first | (cases e; done) | (cases e; exact .inl ⟨_, _, rfl, rfl, rfl⟩) | (cases e; exact .inr ⟨_, _, rfl, rfl, rfl⟩)
theorem two_gt : OpR X (compareOp .Gt) (Two X cl .gt) := two_ord op_gt op_gt_str fun t u z e => by
  cases t <;> cases u <;> first | (cases e; done) | (cases e; exact .inl ⟨_, _, rfl, rfl, rfl⟩) | (cases e; exact .inr ⟨_, _, rfl, rfl, rfl⟩)
theorem two_ge : OpR X (compareOp .GtE) (Two X cl .ge) := two_ord op_ge op_ge_str fun t u z e => by
  cases t <;> cases u <;> first | (cases e; done) | (cases e; exact .inl ⟨_, _, rfl, rfl, rfl⟩) | (cases e; exact .inr ⟨_, _, rfl, rfl, rfl⟩)
/-- equality of data -/
theorem two_eq (hu : X.A.units + 64 < cLine) : OpR X (compareOp .Eq) (Two X cl .eq) := by
  intro pins s σ H x y v u Q I rx ry ⟨xr, W, σ0, φ, h, t, t', z, hs, r1, r2, e, m⟩
  simp only [sem2, Option.map_eq_some_iff] at e
  obtain ⟨k, e, ez⟩ := e
  subst ez
  unfold eq2 at e
  split at e
  · rename_i a b
    cases e
    have ex : x = .str a := r1
    have ey : y = .str b := r2
    subst ex; subst ey
    have q := nowBl m hs
    refine op_eq pins s σ H _ _ v u Q I rx ry ⟨rfl, ?_⟩
    have e2 : decide (V.str a = V.str b) = decide (a = b) := by simp
    rw [e2]; exact q
  · split at e
    · rename_i hc
      simp only [Bool.and_eq_true] at hc
      obtain ⟨d1, s1⟩ := shp_data hc.1
      obtain ⟨d2, s2⟩ := shp_data hc.2
      cases e
      exact op_eqD hu pins s σ H _ _ v u Q I rx ry ⟨_, _, Rp.dp d1 r1.d, Rp.dp d2 r2.d, s1, s2, nowBl m hs⟩
    · cases e
theorem two_ne (hu : X.A.units + 64 < cLine) : OpR X (compareOp .NotEq) (Two X cl .ne) := by
  intro pins s σ H x y v u Q I rx ry ⟨xr, W, σ0, φ, h, t, t', z, hs, r1, r2, e, m⟩
  simp only [sem2, Option.map_eq_some_iff] at e
  obtain ⟨k, e, ez⟩ := e
  subst ez
  unfold eq2 at e
  split at e
  · rename_i a b
    cases e
    have ex : x = .str a := r1
    have ey : y = .str b := r2
    subst ex; subst ey
    have q := nowBl m hs
    refine op_ne pins s σ H _ _ v u Q I rx ry ⟨rfl, ?_⟩
    have e2 : decide (V.str a = V.str b) = decide (a = b) := by simp
    simpa using q
  · split at e
    · rename_i hc
      simp only [Bool.and_eq_true] at hc
      obtain ⟨d1, s1⟩ := shp_data hc.1
      obtain ⟨d2, s2⟩ := shp_data hc.2
      cases e
      exact op_neD hu pins s σ H _ _ v u Q I rx ry ⟨_, _, Rp.dp d1 r1.d, Rp.dp d2 r2.d, s1, s2, nowBl m hs⟩
    · cases e
/-- is None -/
def isNon : T → Bool | .non => true | _ => false
theorem rp_non {φ : Phi} {H : Hp} {t : T} {v : V} (r : RpI cl φ H t v) : decide (v = .non) = isNon t := by
  cases t with
  | non => cases r; rfl
  | bl _ => cases r; rfl
  | int _ => cases r; rfl
  | str _ => cases r; rfl
  | tup _ => obtain ⟨a, _, e, _⟩ := r; subst e; rfl
  | lst _ => obtain ⟨a, _, e, _⟩ := r; subst e; rfl
  | dct _ _ => obtain ⟨a, _, e, _⟩ := r; subst e; rfl
  | obj _ _ _ => obtain ⟨a, _, _, _, e, _⟩ := r; subst e; rfl
theorem two_is : OpR X (compareOp .Is) (Two X cl .is) := by
  intro pins s σ H x y v u Q I rx ry ⟨xr, W, σ0, φ, h, t, t', z, hs, r1, r2, e, m⟩
  have e2 : t' = .non := by cases t' <;> cases t <;> first | rfl | (cases e; done)
  subst e2
  cases r2
  refine op_isN pins s σ H _ _ v u Q I rx ry ⟨rfl, ?_⟩
  rw [rp_non r1]
  have ez : z = .bl (isNon t) := by cases t <;> cases e <;> rfl
  rw [ez] at m
  exact nowBl m hs
theorem two_isnot : OpR X (compareOp .IsNot) (Two X cl .isnot) := by
  intro pins s σ H x y v u Q I rx ry ⟨xr, W, σ0, φ, h, t, t', z, hs, r1, r2, e, m⟩
  have e2 : t' = .non := by cases t' <;> cases t <;> first | rfl | (cases e; done)
  subst e2
  cases r2
  refine op_notN pins s σ H _ _ v u Q I rx ry ⟨rfl, ?_⟩
  rw [rp_non r1]
  have ez : z = .bl (!isNon t) := by cases t <;> cases e <;> rfl
  rw [ez] at m
  exact nowBl m hs
/-! ### in -/
theorem any_py (d : PyData) : ∀ ys : List T, ((pys ys).any fun z => PyData.eqv z d) = ys.any fun y => PyData.eqv y.py d
  | [] => rfl
  | y :: ys => by simp only [pys, List.any_cons, any_py d ys]
theorem key_of {t : T} {k : Key} (h : keyOf t = some k) : t = keyT k := by
  cases t <;> first | (cases h; done) | (cases h; rfl)
theorem keyOf_keyT (k : Key) : keyOf (keyT k) = some k := by cases k <;> rfl
theorem getD_val {φ : Phi} {H : Hp} {ok : Al} (k : Key) : ∀ {kvs : List (Key × V)} {us : List T}, Rps cl ok H us (kvs.map (·.2)) →
    (∀ t, getD k (kvs.map fun p => keyT p.1) us = some t → ∃ v, valV kvs k = some v ∧ Rp cl ok H t v) ∧ (getD k (kvs.map fun p => keyT p.1) us = none → valV kvs k = none)
  | [], us, h => by
    have := h.length
    simp at this
    subst this
    exact ⟨fun t e => by simp [getD] at e, fun _ => rfl⟩
  | (a, v) :: kvs, us, h => by
    cases us with
    | nil => have := h.length; simp at this
    | cons t us =>
      obtain ⟨v', r, e, p, q⟩ := h.inv
      simp only [List.map_cons, List.cons.injEq] at e
      obtain ⟨e1, e2⟩ := e
      subst e1; subst e2
      have ih := getD_val (φ := φ) k q
      simp only [List.map_cons, getD, keyOf_keyT, Option.some.injEq]
      unfold valV at ih ⊢
      by_cases ha : a = k
      · simp only [ha, if_true, List.find?_cons, decide_true, Option.map_some]
        exact ⟨fun t' e => by cases e; exact ⟨_, rfl, p⟩, fun e => by cases e⟩
      · simp only [ha, if_false, List.find?_cons, decide_false]
        exact ih
theorem getD_some {φ : Phi} {H : Hp} {ok : Al} {k : Key} {kvs : List (Key × V)} {us : List T} (h : Rps cl ok H us (kvs.map (·.2))) : (valV kvs k).isSome = (getD k (kvs.map fun p => keyT p.1) us).isSome := by
  obtain ⟨a, b⟩ := getD_val (φ := φ) k h
  cases e : getD k (kvs.map fun p => keyT p.1) us with
  | none => rw [b e]; rfl
  | some t => obtain ⟨v, e', _⟩ := a t e; rw [e']; rfl
theorem key_v {φ : Phi} {H : Hp} {t : T} {v : V} {k : Key} (r : RpI cl φ H t v) (h : keyOf t = some k) : v = kV k := by
  cases t <;> first | (cases h; done) | (cases h; exact r)
theorem two_in (hu : X.A.units + 65 < cLine) : OpR X (compareOp .In) (Two X cl .inn) := by
  intro pins s σ H x y v u Q I rx ry ⟨xr, W, σ0, φ, h, t, t', z, hs, r1, r2, e, m⟩
  simp only [sem2] at e
  cases t' with
  | non | bl _ | int _ | obj _ _ _ => cases e
  | str z' =>
    cases t <;> first | (cases e; done) | skip
    cases e; cases r1; cases r2
    exact op_in_str pins s σ H _ _ v u Q I rx ry ⟨_, _, rfl, rfl, nowBl m hs⟩
  | lst ys =>
    simp only [membT] at e
    split at e
    · rename_i hc
      simp only [Bool.and_eq_true] at hc
      obtain ⟨d1, s1⟩ := shp_data hc.1
      obtain ⟨d2, s2⟩ := shp_data hc.2
      cases e
      refine op_inD hu pins s σ H _ _ v u Q I rx ry ⟨_, pys ys, Rp.dp d1 r1.d, Rp.dp d2 r2.d, s1, s2, ?_⟩
      rw [any_py]
      exact nowBl m hs
    · cases e
  | tup ys =>
    simp only [membT] at e
    split at e
    · rename_i hc
      simp only [Bool.and_eq_true] at hc
      obtain ⟨d1, s1⟩ := shp_data hc.1
      obtain ⟨d2, s2⟩ := shp_data hc.2
      cases e
      obtain ⟨as, q1⟩ := Dp.reads I _ x v (Rp.dp d1 r1.d) rx
      obtain ⟨bs, q2⟩ := Dp.reads I _ y u (Rp.dp d2 r2.d) ry
      refine SeqAt.in_tuple_reads q2 q1 (SeqAt.canLay_of_shaped s2) (SeqAt.canLay_of_shaped s1) (room_in_shaped s1 hu) ⟨.bl _, H, I, rfl, ?_⟩
      rw [any_py]
      exact nowBl m hs
    · cases e
  | dct ks us =>
    simp only [membT] at e
    cases ek : keyOf t with
    | none => rw [ek] at e; cases e
    | some k =>
      rw [ek] at e
      cases e
      have ev := key_v r1 ek
      subst ev
      obtain ⟨a, kvs, e2, rd, ek2, q⟩ := r2
      subst e2; subst ek2
      cases ry
      refine d_in (by omega) I (a := a) (o := valV kvs k) (.inl ⟨kvs, k, rd.rd, rfl, rfl⟩) rx fun s3 I3 => ⟨.bl _, H, I3, rfl, ?_⟩
      rw [getD_some (φ := φ) q]
      exact nowBl m hs
theorem two_notin (hu : X.A.units + 65 < cLine) : OpR X (compareOp .NotIn) (Two X cl .notin) := by
  intro pins s σ H x y v u Q I rx ry ⟨xr, W, σ0, φ, h, t, t', z, hs, r1, r2, e, m⟩
  simp only [sem2] at e
  cases t' with
  | non | bl _ | int _ | obj _ _ _ => cases e
  | str z' =>
    cases t <;> first | (cases e; done) | skip
    cases e; cases r1; cases r2
    exact op_notin_str pins s σ H _ _ v u Q I rx ry ⟨_, _, rfl, rfl, nowBl m hs⟩
  | lst ys =>
    simp only [membT] at e
    split at e
    · rename_i hc
      simp only [Bool.and_eq_true] at hc
      obtain ⟨d1, s1⟩ := shp_data hc.1
      obtain ⟨d2, s2⟩ := shp_data hc.2
      cases e
      refine op_notInD hu pins s σ H _ _ v u Q I rx ry ⟨_, pys ys, Rp.dp d1 r1.d, Rp.dp d2 r2.d, s1, s2, ?_⟩
      rw [any_py]
      exact nowBl m hs
    · cases e
  | tup ys =>
    simp only [membT] at e
    split at e
    · rename_i hc
      simp only [Bool.and_eq_true] at hc
      obtain ⟨d1, s1⟩ := shp_data hc.1
      obtain ⟨d2, s2⟩ := shp_data hc.2
      cases e
      obtain ⟨as, q1⟩ := Dp.reads I _ x v (Rp.dp d1 r1.d) rx
      obtain ⟨bs, q2⟩ := Dp.reads I _ y u (Rp.dp d2 r2.d) ry
      refine SeqAt.notIn_tuple_reads q2 q1 (SeqAt.canLay_of_shaped s2) (SeqAt.canLay_of_shaped s1) (room_in_shaped s1 hu) ⟨.bl _, H, I, rfl, ?_⟩
      rw [any_py]
      exact nowBl m hs
    · cases e
  | dct ks us =>
    simp only [membT] at e
    cases ek : keyOf t with
    | none => rw [ek] at e; cases e
    | some k =>
      rw [ek] at e
      cases e
      have ev := key_v r1 ek
      subst ev
      obtain ⟨a, kvs, e2, rd, ek2, q⟩ := r2
      subst e2; subst ek2
      cases ry
      refine d_notIn (by omega) I (a := a) (o := valV kvs k) (.inl ⟨kvs, k, rd.rd, rfl, rfl⟩) rx fun s3 I3 => ⟨.bl _, H, I3, rfl, ?_⟩
      rw [getD_some (φ := φ) q]
      exact nowBl m hs
/-! ### subscripts -/
theorem two_idx (hu : X.A.units + 65 < cLine) : IxR X (Two X cl .idx) := by
  intro value slice pins s σ H x y v u Q I rx ry ⟨xr, W, σ0, φ, h, t, t', z, hs, r1, r2, e, m⟩ hsub
  cases t with
  | non | bl _ | int _ | obj _ _ _ => cases t' <;> cases e
  | lst xs =>
    cases t' <;> first | (cases e; done) | skip
    obtain ⟨a, vs, e1, rd, q⟩ := r1
    subst e1
    cases r2
    simp only [sem2] at e
    obtain ⟨w, e', p⟩ := q.atI e
    exact ix_list value slice pins s σ H _ _ v u Q I rx ry ⟨a, vs, _, w, rfl, rfl, .inl rd.rd, e', now m hs p⟩ hsub
  | tup xs =>
    cases t' <;> first | (cases e; done) | skip
    obtain ⟨a, vs, e1, _, rd, q⟩ := r1
    subst e1
    cases r2
    simp only [sem2] at e
    obtain ⟨w, e', p⟩ := q.atI e
    exact ix_tup value slice pins s σ H _ _ v u Q I rx ry ⟨a, vs, _, w, rfl, rfl, .inl rd.rd, e', now m hs p⟩ hsub
  | str z' =>
    cases t' <;> first | (cases e; done) | skip
    cases r1; cases r2
    simp only [sem2] at e
    split at e
    · rename_i hl
      cases e2 : L2.atI z'.cps.toList _ with
      | none => rw [e2] at e; cases e
      | some c =>
        rw [e2] at e
        cases e
        exact ix_str value slice pins s σ H _ _ v u Q I rx ry ⟨_, _, c, rfl, rfl, lim_le hl, e2, nowStr m hs⟩ hsub
    · cases e
  | dct ks us =>
    have e : ((keyOf t').bind fun k => getD k ks us) = some z := by cases t' <;> exact e
    cases ek : keyOf t' with
    | none => rw [ek] at e; cases e
    | some k =>
      rw [ek] at e
      have ev := key_v r2 ek
      subst ev
      obtain ⟨a, kvs, e2, rd, ek2, q⟩ := r1
      subst e2; subst ek2
      cases rx
      obtain ⟨w, e', p⟩ := (getD_val (φ := φ) k q).1 _ e
      have g : DGet H a (kV k) (some w) := .inl ⟨kvs, k, rd.rd, rfl, e'.symm⟩
      exact tail_any (dict_typeIs I g) PySem.F.slot_dict_getitem.lookup (d_getItem (by omega) I g ry fun w' s3 I3 rw' => ⟨w, H, I3, rw', now m hs p⟩) hsub
end
end My

/-! MiniPy: built-ins of one argument are right. -/
namespace My
open PySem L2 PyProof.Rows
/-- one argument's rule -/
abbrev rOne (X : Cx) (cl : Cl) (sub : Nat → Nat → Bool) (o : U) : List V → Hp → VK → Prop := fun vs H Q => ∃ x, vs = [x] ∧ One X cl sub o x H Q
theorem Rps.strs {cl : Cl} {ok : Al} {H : Hp} : ∀ {xs : List T} {vs : List V} {ss : List Str}, Rps cl ok H xs vs → strsOf xs = some ss → vs = ss.map V.str
  | [], _, _, h, e => by
    have h := h.inv0
    subst h
    simp [strsOf] at e
    subst e
    rfl
  | x :: xs, _, ss, h, e => by
    obtain ⟨v, r, rfl, p, q⟩ := h.inv
    cases x <;> first | (simp [strsOf] at e; done) | skip
    rename_i y
    simp only [strsOf] at e
    cases e2 : strsOf xs with
    | none => rw [e2] at e; simp at e
    | some ss' =>
      rw [e2] at e
      simp at e
      subst e
      rw [Rp] at p
      subst p
      rw [Rps.strs q e2]
      rfl
theorem Rps.ofStrs {cl : Cl} {ok : Al} {H : Hp} : ∀ (ss : List Str), Rps cl ok H (ss.map T.str) (ss.map V.str)
  | [] => .nil
  | s :: ss => .cons (by rw [Rp]) (Rps.ofStrs ss)
theorem Rps.ints {cl : Cl} {ok : Al} {H : Hp} : ∀ {xs : List T} {vs : List V} {ss : List Int}, Rps cl ok H xs vs → intsOf xs = some ss → vs = ss.map V.int
  | [], _, _, h, e => by
    have h := h.inv0
    subst h
    simp [intsOf] at e
    subst e
    rfl
  | x :: xs, _, ss, h, e => by
    obtain ⟨v, r, rfl, p, q⟩ := h.inv
    cases x <;> first | (simp [intsOf] at e; done) | skip
    rename_i y
    simp only [intsOf] at e
    cases e2 : intsOf xs with
    | none => rw [e2] at e; simp at e
    | some ss' =>
      rw [e2] at e
      simp at e
      subst e
      rw [Rp] at p
      subst p
      rw [Rps.ints q e2]
      rfl
theorem Rps.bls {cl : Cl} {ok : Al} {H : Hp} : ∀ {xs : List T} {vs : List V} {ss : List Bool}, Rps cl ok H xs vs → blsOf xs = some ss → vs = ss.map V.bl
  | [], _, _, h, e => by
    have h := h.inv0
    subst h
    simp [blsOf] at e
    subst e
    rfl
  | x :: xs, _, ss, h, e => by
    obtain ⟨v, r, rfl, p, q⟩ := h.inv
    cases x <;> first | (simp [blsOf] at e; done) | skip
    rename_i y
    simp only [blsOf] at e
    cases e2 : blsOf xs with
    | none => rw [e2] at e; simp at e
    | some ss' =>
      rw [e2] at e
      simp at e
      subst e
      rw [Rp] at p
      subst p
      rw [Rps.bls q e2]
      rfl
/-! ### sorting of texts -/
theorem str_ext {x y : Str} (h : x.cps.toList = y.cps.toList) : x = y := by
  cases x; cases y
  simp only [Str.mk.injEq]
  exact Array.ext' h
def leS (x y : Str) : Prop := ¬ y.cps.toList < x.cps.toList
theorem leS_trans {x y z : Str} (a : leS x y) (b : leS y z) : leS x z := List.not_lt.mpr (List.le_trans (List.not_lt.mp a) (List.not_lt.mp b))
theorem leS_anti {x y : Str} (a : leS x y) (b : leS y x) : x = y := str_ext (List.le_antisymm (List.not_lt.mp a) (List.not_lt.mp b))
theorem rising_pw : ∀ (l : List Str) (p : Str), risingS p l = true → (p :: l).Pairwise leS
  | [], p, _ => by simp
  | x :: r, p, h => by
    simp only [risingS, Bool.and_eq_true, Bool.not_eq_true', ltCps_eq, decide_eq_false_iff_not] at h
    have ih := rising_pw r x h.2
    refine List.pairwise_cons.mpr ⟨fun y hy => ?_, ih⟩
    rcases List.mem_cons.mp hy with e | hy
    · subst e; exact h.1
    · exact leS_trans h.1 ((List.pairwise_cons.mp ih).1 y hy)
theorem sorted_pw : ∀ (l : List Str), sortedS l = true → l.Pairwise leS
  | [], _ => by simp
  | x :: r, h => rising_pw r x h
theorem insS_mem {x z : Str} : ∀ {ys : List Str}, z ∈ insS x ys → z = x ∨ z ∈ ys
  | [], h => by simp [insS] at h; exact .inl h
  | y :: ys, h => by
    unfold insS at h
    split at h
    · rcases List.mem_cons.mp h with h | h
      · exact .inr (h ▸ List.mem_cons_self)
      · exact (insS_mem h).imp id fun q => List.mem_cons_of_mem _ q
    · rcases List.mem_cons.mp h with h | h
      · exact .inl h
      · exact .inr h
theorem insS_pw {x : Str} : ∀ {ys : List Str}, ys.Pairwise leS → (insS x ys).Pairwise leS
  | [], _ => by simp [insS]
  | y :: ys, h => by
    obtain ⟨h1, h2⟩ := List.pairwise_cons.mp h
    unfold insS
    split
    · rename_i c
      have c' : y.cps.toList < x.cps.toList := of_decide_eq_true c
      refine List.pairwise_cons.mpr ⟨fun z hz => ?_, insS_pw h2⟩
      rcases insS_mem hz with e | hz
      · subst e; exact List.lt_asymm c'
      · exact h1 z hz
    · rename_i c
      have c' : leS x y := fun q => c (decide_eq_true q)
      refine List.pairwise_cons.mpr ⟨fun z hz => ?_, h⟩
      rcases List.mem_cons.mp hz with e | hz
      · subst e; exact c'
      · exact leS_trans c' (h1 z hz)
theorem insS_perm {x : Str} : ∀ {ys : List Str}, (insS x ys).Perm (x :: ys)
  | [] => .refl _
  | y :: ys => by
    unfold insS
    split
    · exact (insS_perm.cons y).trans (.swap x y ys)
    · exact .refl _
theorem sortS_pw : ∀ xs : List Str, (sortS xs).Pairwise leS
  | [] => by simp [sortS]
  | x :: xs => insS_pw (sortS_pw xs)
theorem sortS_perm : ∀ xs : List Str, (sortS xs).Perm xs
  | [] => .refl _
  | x :: xs => insS_perm.trans ((sortS_perm xs).cons x)
theorem sortS_eq {xs ys : List Str} (p : ys.Perm xs) (h : sortedS ys = true) : ys = sortS xs :=
  List.Perm.eq_of_pairwise (fun _ _ _ _ a b => leS_anti a b) (sorted_pw ys h) (sortS_pw xs) (p.trans (sortS_perm xs).symm)

/-! ### texts of data -/
section
variable {X : Cx} {cl : Cl} {pins : List (Addr × Obj)} {σ : L2.St} {H : Hp} {s : Shared}
mutual
theorem reads0 {ok : Al} (I : Inv X pins σ H s) : ∀ {t : T} {v : V} {u : Value}, t.nolst = true → Rp cl ok H t v → RelV v u → Reads s.heap u t.py []
  | .non, _, _, _, h, r => by rw [Rp] at h; subst h; cases r; exact .none
  | .bl b, _, _, _, h, r => by rw [Rp] at h; subst h; cases r; exact .bool b
  | .int i, _, _, _, h, r => by rw [Rp] at h; subst h; obtain ⟨t, rfl⟩ := r; exact .int i t
  | .str x, _, _, _, h, r => by rw [Rp] at h; subst h; obtain ⟨t, rfl⟩ := r; exact .str x t
  | .tup xs, _, _, d, h, r => by
    rw [Rp] at h
    obtain ⟨a, vs, e, _, rd, q⟩ := h
    subst e
    cases r
    obtain ⟨its, rv, ⟨o, ho, hc, n, hd⟩, _⟩ := I.tuple (.inl rd.rd)
    exact .tuple ho hc hd (reads0s I (by simpa [T.nolst] using d) q rv)
  | .lst _, _, _, d, _, _ | .dct _ _, _, _, d, _, _ | .obj _ _ _, _, _, d, _, _ => by simp [T.nolst] at d
theorem reads0s {ok : Al} (I : Inv X pins σ H s) : ∀ {xs : List T} {vs : List V} {us : List Value}, nolsts xs = true → Rps cl ok H xs vs → Vals vs us → ReadsAll s.heap us (pys xs) []
  | [], _, _, _, h, r => by have h := h.inv0; subst h; cases r; exact .nil
  | x :: xs, _, _, d, h, r => by
    obtain ⟨v, vr, e, p, q⟩ := h.inv
    subst e
    cases r with
    | cons r1 r2 =>
      simp only [nolsts, Bool.and_eq_true] at d
      exact ReadsAll.cons (as := []) (bs := []) (reads0 I d.1 p r1) (reads0s I d.2 q r2)
end
theorem pys_length : ∀ xs : List T, (pys xs).length = xs.length
  | [] => rfl
  | x :: xs => by simp [pys, pys_length xs]
theorem reads_dct {φ : Phi} {ks us : List T} {v : V} {u : Value} (I : Inv X pins σ H s) (d : nolsts us = true) (h : RpI cl φ H (.dct ks us) v) (r : RelV v u) :
    ∃ a, u = .ref a ∧ Reads s.heap u (T.dct ks us).py [a] ∧ (a == sysModules) = false := by
  obtain ⟨a, kvs, e, rd, ek, q⟩ := h
  subst e
  cases r
  obtain ⟨_, hsys, vs, hkv, o, es, ep, ho, hx, hdat, _, hp, _⟩ := L2.dk_rd I.hok rd.rd
  refine ⟨a, rfl, ?_, hsys⟩
  have go : ∀ (us : List T) (kvs : List (Key × V)) (vs : List (Key × Value)) (es : List DictEntry), nolsts us = true → Rps cl (Off φ) H us (kvs.map (·.2)) → KV kvs vs → Pairs (mixKind X.prog X.w) es vs →
      ReadsAll s.heap (es.map (·.key)) ((List.zip (pys (kvs.map fun p => keyT p.1)) (pys us)).map (·.1)) [] ∧ ReadsAll s.heap (es.map (·.val)) ((List.zip (pys (kvs.map fun p => keyT p.1)) (pys us)).map (·.2)) [] := by
    intro us kvs
    induction kvs generalizing us with
    | nil =>
      intro vs es _ q k p
      have := q.length
      simp at this
      subst this
      cases k; cases p
      exact ⟨.nil, .nil⟩
    | cons kv kvs ih =>
      intro vs es d q k p
      cases us with
      | nil => have := q.length; simp at this
      | cons t us =>
        obtain ⟨v', r', e', p1, q1⟩ := q.inv
        simp only [List.map_cons, List.cons.injEq] at e'
        obtain ⟨e1, e2⟩ := e'
        subst e1; subst e2
        simp only [nolsts, Bool.and_eq_true] at d
        cases k with
        | cons k1 k2 =>
          cases p with
          | cons p1' p2' p3 =>
            obtain ⟨i1, i2⟩ := ih us _ _ d.2 q1 k2 p3
            simp only [List.map_cons, pys, List.zip_cons_cons]
            refine ⟨ReadsAll.cons (as := []) (bs := []) ?_ i1, ReadsAll.cons (as := []) (bs := []) ?_ i2⟩
            · obtain ⟨k1a, _⟩ := k1
              rw [k1a]
              rcases keyIs_shape p1' with ⟨i, t', e3, e4⟩ | ⟨x, t', e3, e4⟩
              · rw [e3, e4]; exact .int _ _
              · rw [e3, e4]; exact .str _ _
            · rw [p2']
              exact reads0 I d.1 p1 k1.2
  obtain ⟨g1, g2⟩ := go us kvs vs es.toList d q hkv hp
  subst ek
  exact Reads.dict (as := []) (bs := []) ho hx.1 hdat g1 g2
end

theorem rp_key {cl : Cl} {ok : Al} {H : Hp} (k : Key) : Rp cl ok H (keyT k) (kV k) := by
  cases k with
  | inl i => show Rp cl ok H (.int i) _; rw [Rp]; rfl
  | inr x => show Rp cl ok H (.str x) _; rw [Rp]; rfl
mutual
theorem hasDict_py : ∀ {t : T}, t.data = true → t.py.hasDict = false
  | .non, _ | .bl _, _ | .int _, _ | .str _, _ => rfl
  | .tup xs, d => by simp only [T.py, PyData.hasDict]; exact hasDict_pys (by simpa [T.data] using d)
  | .lst xs, d => by simp only [T.py, PyData.hasDict]; exact hasDict_pys (by simpa [T.data] using d)
  | .dct _ _, d | .obj _ _ _, d => by simp [T.data] at d
theorem hasDict_pys : ∀ {xs : List T}, datas xs = true → PyData.hasDictAll (pys xs) = false
  | [], _ => rfl
  | x :: xs, d => by
    simp only [datas, Bool.and_eq_true] at d
    simp only [pys, PyData.hasDictAll, hasDict_py d.1, hasDict_pys d.2, Bool.or_self]
end
section
variable {X : Cx} {cl : Cl} {sub : Nat → Nat → Bool}
theorem one_neg : UnR X (unaryOp .USub) (One X cl sub .neg) := by
  intro pins s σ H x v Q I rx ⟨xr, W, σ0, φ, h, t, z, hs, r, e, m⟩
  cases t <;> first | (cases e; done) | skip
  cases e; cases r
  exact un_neg pins s σ H _ v Q I rx ⟨_, rfl, nowInt m hs⟩
theorem one_len : CallR X (.builtin "len") (rOne X cl sub .len) := by
  intro pins s σ H xs us Q I r ⟨x, ex, xr, W, σ0, φ, h, t, z, hs, rt, e, m⟩
  subst ex
  cases t with
  | non | bl _ | int _ | obj _ _ _ => cases e
  | str y =>
    simp only [sem1] at e
    split at e
    · rename_i hl
      cases e; cases rt
      exact call_len pins s σ H _ us Q I r ⟨_, y.length, rfl, ⟨lim_le hl, rfl⟩, nowInt m hs⟩
    · cases e
  | tup ys =>
    cases e
    obtain ⟨a, vs, e1, _, rd, q⟩ := rt
    subst e1
    refine call_len pins s σ H _ us Q I r ⟨_, vs.length, rfl, .inr ⟨vs, .inl rd.rd, rfl⟩, ?_⟩
    rw [← q.length]
    exact nowInt m hs
  | lst ys =>
    cases e
    obtain ⟨a, vs, e1, rd, q⟩ := rt
    subst e1
    refine call_len pins s σ H _ us Q I r ⟨_, vs.length, rfl, .inl ⟨vs, .inl rd.rd, rfl⟩, ?_⟩
    rw [← q.length]
    exact nowInt m hs
  | dct ks ys =>
    cases e
    obtain ⟨a, kvs, e1, rd, ek, q⟩ := rt
    subst e1; subst ek
    obtain ⟨u, eu, ru⟩ := vals1 r
    subst eu
    cases ru
    refine d_len I rd.rd fun t s' I' => ⟨.int kvs.length, H, I', ⟨t, rfl⟩, ?_⟩
    have q' := nowInt m hs
    simpa using q'
theorem one_list (hc : X.calm = true) : CallR X (.type "list") (rOne X cl sub .list) := by
  intro pins s σ H xs us Q I r ⟨x, ex, xr, W, σ0, φ, h, t, z, hs, rt, e, m⟩
  subst ex
  cases t with
  | non | bl _ | int _ | obj _ _ _ | str _ => cases e
  | tup ys =>
    cases e
    obtain ⟨a, vs, e1, _, rd, q⟩ := rt
    subst e1
    exact call_list_of pins s σ H _ us Q I r ⟨a, vs, rfl, .inr (.inl rd.rd), newLst m hs q⟩
  | lst ys =>
    cases e
    obtain ⟨a, vs, e1, rd, q⟩ := rt
    subst e1
    exact call_list_of pins s σ H _ us Q I r ⟨a, vs, rfl, .inl (.inl rd.rd), newLst m hs q⟩
  | dct ks ys =>
    cases e
    obtain ⟨a, kvs, e1, rd, ek, q⟩ := rt
    subst e1; subst ek
    refine call_listD hc pins s σ H _ us Q I r ⟨a, kvs, rfl, rd.rd, newLst m hs ?_⟩
    have go : ∀ l : List (Key × V), Rps cl (Off φ) H (l.map fun p => keyT p.1) (l.map fun kv => kV kv.1) := fun l => by
      induction l with
      | nil => exact .nil
      | cons p l ih => exact .cons (by obtain ⟨k, v⟩ := p; cases k <;> exact rp_key _) ih
    exact go kvs
theorem one_tuple : CallR X (.type "tuple") (rOne X cl sub .tuple) := by
  intro pins s σ H xs us Q I r ⟨x, ex, xr, W, σ0, φ, h, t, z, hs, rt, e, m⟩
  subst ex
  cases t with
  | non | bl _ | int _ | obj _ _ _ | str _ | dct _ _ => cases e
  | tup ys =>
    cases e
    obtain ⟨a, vs, e1, o1, rd, q⟩ := rt
    subst e1
    exact call_tuple_of pins s σ H _ us Q I r ⟨a, vs, rfl, .inr ⟨.inl rd.rd, now m hs (by rw [RpF, Rp]; exact ⟨a, vs, rfl, o1, rd, q⟩)⟩⟩
  | lst ys =>
    cases e
    obtain ⟨a, vs, e1, rd, q⟩ := rt
    subst e1
    exact call_tuple_of pins s σ H _ us Q I r ⟨a, vs, rfl, .inl ⟨.inl rd.rd, newTup m hs q⟩⟩
theorem one_sorted : CallR X (.builtin "sorted") (rOne X cl sub .sorted) := by
  intro pins s σ H xs us Q I r ⟨x, ex, xr, W, σ0, φ, h, t, z, hs, rt, e, m⟩
  subst ex
  cases t <;> first | (cases e; done) | skip
  rename_i ys
  simp only [sem1] at e
  cases e2 : strsOf ys with
  | none => rw [e2] at e; cases e
  | some ss =>
    rw [e2] at e
    dsimp only at e
    split at e
    · rename_i hl
      cases e
      obtain ⟨a, vs, e1, rd, q⟩ := rt
      subst e1
      have hv := q.strs e2
      subst hv
      refine cr_sortedS pins s σ H _ us Q I r ⟨a, ss, rfl, .inl rd.rd, hl, fun ys p pm so n => ?_⟩
      rw [sortS_eq pm so]
      exact newLst m hs (Rps.ofStrs _) p n
    · cases e
theorem one_sum (hc : X.calm = true) : CallR X (.builtin "sum") (rOne X cl sub .sum) := by
  intro pins s σ H xs us Q I r ⟨x, ex, xr, W, σ0, φ, h, t, z, hs, rt, e, m⟩
  subst ex
  cases t <;> first | (cases e; done) | skip
  rename_i ys
  simp only [sem1] at e
  cases e2 : intsOf ys with
  | none => rw [e2] at e; cases e
  | some ss =>
    rw [e2] at e
    cases e
    obtain ⟨a, vs, e1, rd, q⟩ := rt
    subst e1
    have hv := q.ints e2
    subst hv
    exact cr_sum hc pins s σ H _ us Q I r ⟨a, ss, rfl, .inl rd.rd, nowInt m hs⟩
theorem one_all (hc : X.calm = true) : CallR X (.builtin "all") (rOne X cl sub .all) := by
  intro pins s σ H xs us Q I r ⟨x, ex, xr, W, σ0, φ, h, t, z, hs, rt, e, m⟩
  subst ex
  cases t <;> first | (cases e; done) | skip
  rename_i ys
  simp only [sem1] at e
  cases e2 : blsOf ys with
  | none => rw [e2] at e; cases e
  | some ss =>
    rw [e2] at e
    cases e
    obtain ⟨a, vs, e1, rd, q⟩ := rt
    subst e1
    have hv := q.bls e2
    subst hv
    exact cr_all hc pins s σ H _ us Q I r ⟨a, ss, rfl, .inl rd.rd, nowBl m hs⟩
theorem one_any (hc : X.calm = true) : CallR X (.builtin "any") (rOne X cl sub .any) := by
  intro pins s σ H xs us Q I r ⟨x, ex, xr, W, σ0, φ, h, t, z, hs, rt, e, m⟩
  subst ex
  cases t <;> first | (cases e; done) | skip
  rename_i ys
  simp only [sem1] at e
  cases e2 : blsOf ys with
  | none => rw [e2] at e; cases e
  | some ss =>
    rw [e2] at e
    cases e
    obtain ⟨a, vs, e1, rd, q⟩ := rt
    subst e1
    have hv := q.bls e2
    subst hv
    exact cr_any hc pins s σ H _ us Q I r ⟨a, ss, rfl, .inl rd.rd, nowBl m hs⟩
theorem one_int : CallR X (.type "int") (rOne X cl sub .int) := by
  intro pins s σ H xs us Q I r ⟨x, ex, xr, W, σ0, φ, h, t, z, hs, rt, e, m⟩
  subst ex
  cases t <;> first | (cases e; done) | skip
  · cases e; cases rt
    exact call_int1 pins s σ H _ us Q I r (.inr ⟨_, rfl, nowInt m hs⟩)
  · cases e; cases rt
    exact call_int1 pins s σ H _ us Q I r (.inl ⟨_, rfl, nowInt m hs⟩)
theorem one_abs : CallR X (.builtin "abs") (rOne X cl sub .abs) := by
  intro pins s σ H xs us Q I r ⟨x, ex, xr, W, σ0, φ, h, t, z, hs, rt, e, m⟩
  subst ex
  cases t <;> first | (cases e; done) | skip
  cases e; cases rt
  exact call_abs pins s σ H _ us Q I r ⟨_, rfl, nowInt m hs⟩
theorem one_str : CallR X (.type "str") (rOne X cl sub .str) := by
  intro pins s σ H xs us Q I r ⟨x, ex, xr, W, σ0, φ, h, t, z, hs, rt, e, m⟩
  subst ex
  cases t <;> first | (cases e; done) | skip
  · simp only [sem1] at e
    split at e
    · rename_i hl
      cases e; cases rt
      exact call_str_int pins s σ H _ us Q I r ⟨_, rfl, hl, nowStr m hs⟩
    · cases e
  · cases e; cases rt
    exact SkE.call_str_str pins s σ H _ us Q I r ⟨_, rfl, nowStr m hs⟩

/-! ### repr -/
theorem one_repr (hg : X.A.guards = some []) (hu : X.A.units + 70 < cLine) : CallR X (.builtin "repr") (rOne X cl sub .repr) := by
  intro pins s σ H xs us Q I r ⟨x, ex, xr, W, σ0, φ, h, t, z, hs, rt, e, m⟩
  subst ex
  obtain ⟨u, eu, ru⟩ := vals1 r
  subst eu
  have fin : ∀ (str : Str) (h' : Heap) (tk tok : Nat), (∀ b o, s.heap.get? b = some o → h'.get? b = some o) → Q (.str str) H → EP X pins σ Q (.str str tk) { s with heap := h', toks := tok } := fun str h' tk tok k q =>
    ⟨.str str, H, I.kept (t' := tok) k, ⟨tk, rfl⟩, q⟩
  have atom : ∀ {t : T}, sem1 sub .repr t = some z → (∀ ks vs, t ≠ .dct ks vs) → t.data = true ∧ t.py.showable = true ∧ t.py.shown.length ≤ sizeLine ∧ t.py.depth ≤ 64 ∧ z = .str t.py.shown := fun {t} e hn => by
    have e' : (if t.data && t.py.showable && lim t.py.shown.length && decide (t.py.depth ≤ 64) then some (T.str t.py.shown) else none) = some z := by
      cases t <;> first | exact e | exact absurd rfl (hn _ _)
    split at e'
    · rename_i hc
      simp only [Bool.and_eq_true, decide_eq_true_eq] at hc
      cases e'
      exact ⟨hc.1.1.1, hc.1.1.2, lim_le hc.1.2, hc.2, rfl⟩
    · cases e'
  cases t with
  | non =>
    obtain ⟨_, _, hz, _, ez⟩ := atom e fun _ _ q => nomatch q
    subst ez; cases rt; cases ru
    exact PySem.P.repr_of_none (fin _ _ _ _ (fun _ _ q => q) (nowStr m hs))
  | bl b =>
    obtain ⟨_, _, hz, _, ez⟩ := atom e fun _ _ q => nomatch q
    subst ez; cases rt; cases ru
    exact PySem.P.repr_of_bool (fin _ _ _ _ (fun _ _ q => q) (nowStr m hs))
  | int i =>
    obtain ⟨_, hsh, hz, _, ez⟩ := atom e fun _ _ q => nomatch q
    subst ez; cases rt; obtain ⟨tk, rfl⟩ := ru
    exact PySem.P.repr_of_int (by simpa [T.py, PyData.showable] using hsh) (fin _ _ _ _ (fun _ _ q => q) (nowStr m hs))
  | str y =>
    obtain ⟨_, _, hz, _, ez⟩ := atom e fun _ _ q => nomatch q
    subst ez; cases rt; obtain ⟨tk, rfl⟩ := ru
    exact PySem.P.repr_of_str (fin _ _ _ _ (fun _ _ q => q) (nowStr m hs)) hz
  | obj _ _ _ =>
    obtain ⟨d, _⟩ := atom e fun _ _ q => nomatch q
    simp [T.data] at d
  | tup ys =>
    obtain ⟨d, hsh, hz, hd, ez⟩ := atom e fun _ _ q => nomatch q
    subst ez
    obtain ⟨as, q1⟩ := Dp.reads I _ x u (Rp.dp d rt.d) ru
    have hl : (T.tup ys).py.hasDict = false := hasDict_py d
    obtain ⟨a, _, e1, _⟩ := rt
    subst e1; cases ru
    exact PySem.repr_of_reads' q1 hsh (fun z => by rw [hl] at z; cases z) hg (by omega) (fun _ _ q => q) (fun h' u tk k => fin _ _ _ _ k (nowStr m hs)) hz
  | lst ys =>
    obtain ⟨d, hsh, hz, hd, ez⟩ := atom e fun _ _ q => nomatch q
    subst ez
    obtain ⟨as, q1⟩ := Dp.reads I _ x u (Rp.dp d rt.d) ru
    have hl : (T.lst ys).py.hasDict = false := hasDict_py d
    obtain ⟨a, _, e1, _⟩ := rt
    subst e1; cases ru
    exact PySem.repr_of_reads' q1 hsh (fun z => by rw [hl] at z; cases z) hg (by omega) (fun _ _ q => q) (fun h' u tk k => fin _ _ _ _ k (nowStr m hs)) hz
  | dct ks ys =>
    simp only [sem1] at e
    split at e
    · rename_i hc
      simp only [Bool.and_eq_true, decide_eq_true_eq] at hc
      cases e
      obtain ⟨a, e1, q1, hsys⟩ := reads_dct I hc.1.1.1.2 rt ru
      subst e1
      refine PySem.repr_of_reads' q1 hc.1.1.2 (fun _ => ?_) hg (by omega) (fun _ _ q => q) (fun h' u tk k => fin _ _ _ _ k (nowStr m hs)) (lim_le hc.1.2)
      simp only [List.mem_singleton]
      intro z
      rw [z] at hsys
      simp at hsys
    · cases e
/-! ### isinstance -/
def Ty.name : Ty → String
  | .tint => "int" | .tbool => "bool" | .tstr => "str" | .tlist => "list" | .ttuple => "tuple" | .tdict => "dict" | .cls _ => ""
/-- a class as a value of the model's -/
def Ty.val (cl : Cl) : Ty → Option Value
  | .cls c => (cl c).map .ref
  | t => some (.type t.name)
/-- what the head says of the classes -/
structure ClsOk (K : PySem.W.Frag) (cl : Cl) (sub : Nat → Nat → Bool) : Prop where
  ins : ∀ c C, cl c = some C → Cls K C ∧ PySem.W.findIn K (.ref C) "__class__" = some (some (.builtin "object.__class__")) ∧ PySem.W.specialIn K (.builtin "object.__class__") "__get__" = some (some (.builtin "getset_descriptor.__get__")) ∧
    PySem.W.takesIn K (.builtin "object.__class__") = some true ∧ PySem.W.mroIn K C (.type "object") = some true
  k1 : ∀ c C n, cl c = some C → n ∈ ["int", "bool", "str", "list", "tuple", "dict"] → PySem.W.kitOne K (.ref C) (.type n) = some false
  k2 : ∀ c C n, cl c = some C → n ∈ ["NoneType", "int", "bool", "str", "list", "tuple", "dict"] → PySem.W.kitOne K (.type n) (.ref C) = some false
  k3 : ∀ c d C D, cl c = some C → cl d = some D → PySem.W.kitOne K (.ref C) (.ref D) = some (sub c d)
def T.tyn : T → String
  | .non => "NoneType" | .bl _ => "bool" | .int _ => "int" | .str _ => "str" | .tup _ => "tuple" | .lst _ => "list" | .dct _ _ => "dict" | .obj _ _ _ => ""
theorem tyx_of {K : PySem.W.Frag} {φ : Phi} {H : Hp} {t : T} {v : V} (co : ClsOk K cl sub) (r : RpI cl φ H t v) : ∃ tv, TyX K H v tv ∧ ((∃ c ns us C, t = .obj c ns us ∧ cl c = some C ∧ tv = .ref C) ∨ ((∀ c ns us, t ≠ .obj c ns us) ∧ tv = .type t.tyn)) := by
  cases t with
  | non => cases r; exact ⟨_, .base .non, .inr ⟨(by intro _ _ _ q; cases q), rfl⟩⟩
  | bl b => cases r; exact ⟨_, .base (.bl b), .inr ⟨(by intro _ _ _ q; cases q), rfl⟩⟩
  | int i => cases r; exact ⟨_, .base (.int i), .inr ⟨(by intro _ _ _ q; cases q), rfl⟩⟩
  | str x => cases r; exact ⟨_, .base (.str x), .inr ⟨(by intro _ _ _ q; cases q), rfl⟩⟩
  | tup xs =>
    obtain ⟨a, vs, e, _, rd, q⟩ := r
    subst e
    exact ⟨_, .base (.tup rd.tup), .inr ⟨(by intro _ _ _ q; cases q), rfl⟩⟩
  | lst xs =>
    obtain ⟨a, vs, e, rd, q⟩ := r
    subst e
    rcases rd with rd | ⟨_, o, rd⟩
    · exact ⟨_, .base (.lst rd), .inr ⟨(by intro _ _ _ q; cases q), rfl⟩⟩
    · exact ⟨_, .base (.frz rd), .inr ⟨(by intro _ _ _ q; cases q), rfl⟩⟩
  | dct ks us =>
    obtain ⟨a, vs, e, rd, q⟩ := r
    subst e
    rcases rd with rd | ⟨_, o, rd⟩
    · exact ⟨_, .base (.dK rd), .inr ⟨(by intro _ _ _ q; cases q), rfl⟩⟩
    · exact ⟨_, .fDict rd, .inr ⟨(by intro _ _ _ q; cases q), rfl⟩⟩
  | obj c ns us =>
    obtain ⟨a, C, dx, fs, e, ec, rd, f, q⟩ := r
    subst e
    obtain ⟨h1, h2, h3, h4, h5⟩ := co.ins c C ec
    exact ⟨_, .base (.ins rd.ins h1 h2 h3 h4 h5), .inl ⟨c, ns, us, C, rfl, ec, rfl⟩⟩
theorem kit_b : ∀ n ∈ (["NoneType", "int", "bool", "str", "list", "tuple", "dict"] : List String), ∀ m ∈ (["int", "bool", "str", "list", "tuple", "dict"] : List String),
    kitB n m = some (n == m || (n == "bool" && m == "int")) := by decide +kernel
theorem tyn_mem (t : T) (h : ∀ c ns us, t ≠ .obj c ns us) : t.tyn ∈ (["NoneType", "int", "bool", "str", "list", "tuple", "dict"] : List String) := by
  cases t <;> first | exact absurd rfl (h _ _ _) | simp [T.tyn]
theorem kit_one {K : PySem.W.Frag} {φ : Phi} {H : Hp} {t : T} {v : V} {tv cv : Value} {ty : Ty} (co : ClsOk K cl sub) (tt : (∃ c ns us C, t = .obj c ns us ∧ cl c = some C ∧ tv = .ref C) ∨ ((∀ c ns us, t ≠ .obj c ns us) ∧ tv = .type t.tyn))
    (ev : ty.val cl = some cv) : PySem.W.kitOne K tv cv = some (isTy sub t ty) := by
  rcases tt with ⟨c, ns, us, C, rfl, ec, rfl⟩ | ⟨no, rfl⟩
  · cases ty with
    | cls d =>
      simp only [Ty.val] at ev
      cases ed : cl d with
      | none => rw [ed] at ev; cases ev
      | some D =>
        rw [ed] at ev
        cases ev
        exact co.k3 c d C D ec ed
    | _ => cases ev; exact co.k1 c C _ ec (by decide)
  · have hm := tyn_mem t no
    cases ty with
    | cls d =>
      simp only [Ty.val] at ev
      cases ed : cl d with
      | none => rw [ed] at ev; cases ev
      | some D =>
        rw [ed] at ev
        cases ev
        rw [co.k2 d D _ ed hm]
        cases t <;> first | rfl | exact absurd rfl (no _ _ _)
    | _ =>
      cases ev
      refine kit_ty ((kit_b _ hm _ (by decide)).trans ?_)
      cases t <;> first | rfl | exact absurd rfl (no _ _ _)
/-- isinstance(x, T) -/
theorem one_isi {ty : Ty} {c : V} {cv : Value} (co : ClsOk X.K cl sub) (ev : ty.val cl = some cv) (hc : ClsV c cv) :
    CallR X (.builtin "isinstance") (fun vs H Q => ∃ x, vs = [x, c] ∧ One X cl sub (.isi [ty]) x H Q) := by
  intro pins s σ H xs us Q I r ⟨x, ex, xr, W, σ0, φ, h, t, z, hs, rt, e, m⟩
  subst ex
  cases e
  obtain ⟨tv, ht, hk⟩ := tyx_of co rt
  refine call_isi pins s σ H _ us Q I r ⟨x, c, tv, cv, isTy sub t ty, rfl, hc, ht, kit_one (φ := φ) (H := H) (v := x) co hk ev, ?_⟩
  have q := nowBl m hs
  simpa using q
/-- isinstance(x, (T, U, ..)) -/
theorem kit_any {K : PySem.W.Frag} {φ : Phi} {H : Hp} {t : T} {v : V} {tv : Value} (co : ClsOk K cl sub) (tt : (∃ c ns us C, t = .obj c ns us ∧ cl c = some C ∧ tv = .ref C) ∨ ((∀ c ns us, t ≠ .obj c ns us) ∧ tv = .type t.tyn)) :
    ∀ {tys : List Ty} {cvs : List Value}, tys.map (Ty.val cl) = cvs.map some → PySem.W.kitAny K tv cvs = some (tys.any (isTy sub t))
  | [], cvs, e => by
    have : cvs = [] := by cases cvs with | nil => rfl | cons _ _ => cases e
    subst this; rfl
  | ty :: tys, cvs, e => by
    cases cvs with
    | nil => cases e
    | cons cv cvs =>
      simp only [List.map_cons, List.cons.injEq] at e
      refine kitAny_cons (kit_one (φ := φ) (H := H) (v := v) co tt e.1) (fun hb => ?_) fun hb => ?_
      · rw [kit_any (φ := φ) (H := H) (v := v) co tt e.2, List.any_cons, hb, Bool.false_or]
      · rw [List.any_cons, hb, Bool.true_or]
end
end My

/-! MiniPy: expressions are right, one construct at a time. -/
namespace My
open PySem L2 PyProof.Rows

/-- what stays the same while a def runs -/
structure Zs where
  cl : Cl
  xr : XRel
  G : Ctx
  C : Orc
abbrev tG {α β : Type} (Z : Zs) (W : WX) (rel : Phi → Hp → α → β → Prop) (ev : En → Hm → R α) : L2.St → Hp → (β → Hp → Prop) → Prop := fun σ H Q =>
  ∃ φ h ρ, RpE Z.cl φ H ρ σ ∧ Hs Z.cl φ h H ∧ MW Z.cl Z.xr rel W σ φ H (ev ρ h) Q
abbrev tE (Z : Zs) (W : WX) (m : E) : TE := tG Z W (RpS Z.cl) fun ρ h => evE Z.G Z.C ρ h m
abbrev tL (Z : Zs) (W : WX) (ms : List E) : TA := tG Z W (RpSs Z.cl) fun ρ h => evS Z.G Z.C ρ h ms
def evB (G : Ctx) (C : Orc) (ρ : En) (h : Hm) (m : E) : R Bool := (evE G C ρ h m).bind asB
abbrev eqB : Phi → Hp → Bool → Bool → Prop := fun _ _ a b => a = b
abbrev tB' (Z : Zs) (W : WX) (m : E) : TT := tG Z W eqB fun ρ h => evB Z.G Z.C ρ h m

theorem pe_weak {X : Cx} {e : Expr} {t t' : TE} (h : PE X e t) (k : ∀ σ H Q, t' σ H Q → t σ H Q) : PE X e t' := ⟨fun pins s σ H Q I q => h.run pins s σ H Q I (k σ H Q q)⟩
theorem pt_weak {X : Cx} {e : Expr} {t t' : TT} (h : PT X e t) (k : ∀ σ H Q, t' σ H Q → t σ H Q) : PT X e t' := ⟨fun pins s σ H Q I q => h.run pins s σ H Q I (k σ H Q q)⟩
theorem pw_weak {X : Cx} {e : Expr} {t t' : TT} (h : PW X e t) (k : ∀ σ H Q, t' σ H Q → t σ H Q) : PW X e t' := ⟨fun wh pins s σ H Q I q => h.run wh pins s σ H Q I (k σ H Q q)⟩
theorem pa_weak {X : Cx} {e : List Expr} {t t' : TA} (h : PA X e t) (k : ∀ σ H Q, t' σ H Q → t σ H Q) : PA X e t' := ⟨fun p pins s σ H Q I q => h.run p pins s σ H Q I (k σ H Q q)⟩

section
variable {X : Cx} {Z : Zs} {W : WX}
/-- two evaluations in a row: the second from what the first leaves -/
theorem tG.seq {α β γ δ : Type} {rel : Phi → Hp → α → β → Prop} {rel' : Phi → Hp → γ → δ → Prop} {ev : En → Hm → R α} {ev' : En → Hm → R γ} {f : γ → En → Hm → R α} {σ : L2.St} {H : Hp} {Q : β → Hp → Prop} {Q' : δ → Hp → Prop}
    (t : tG Z W rel ev σ H Q) (e : ∀ ρ h, ev ρ h = (ev' ρ h).bind fun a h1 => f a ρ h1)
    (k : ∀ a h1 φ1 H1 v ρ, RpE Z.cl φ1 H1 ρ σ → Hs Z.cl φ1 h1 H1 → rel' φ1 H1 a v → MW Z.cl Z.xr rel W σ φ1 H1 (f a ρ h1) Q → Q' v H1) : tG Z W rel' ev' σ H Q' := by
  obtain ⟨φ, h, ρ, re, hs, m⟩ := t
  refine ⟨φ, h, ρ, re, hs, ?_⟩
  rw [e] at m
  exact m.bind fun a h1 φ1 H1 v _ g hs1 r m1 => k a h1 φ1 H1 v ρ (g.e re) hs1 r m1

/-! ### names and constants -/
theorem s_var {i : Nat} {x : Str} {pos : Pos} (hN : X.N[i]? = some x) (hv : Vis X.env.scope x) (hd : (x == ("__debug__" : Str)) = false) (hc : (x == ("__classdict__" : Str)) = false) : PE X (.Name x pos) (tE Z W (.var i)) :=
  pe_weak (pe_var hN hv hd hc) fun σ H Q ⟨φ, h, ρ, re, hs, m⟩ => by
    simp only [evE] at m
    cases e : ρ[i]? with
    | none => rw [e] at m; exact m.elim
    | some o =>
      cases o with
      | none => rw [e] at m; exact m.elim
      | some s =>
        rw [e] at m
        obtain ⟨v, ev, r⟩ := re.get i s e
        exact ⟨v, ev, m φ H v (Grow.refl _ _) hs r⟩
theorem s_int {i : Int} {j : Nat} {pos : Pos} : PE X (.Constant (.int i) j pos) (tE Z W (.int i)) := pe_weak pe_int fun σ H Q ⟨φ, h, ρ, re, hs, m⟩ => nowInt m hs
theorem s_bl {i : Bool} {j : Nat} {pos : Pos} : PE X (.Constant (.bool i) j pos) (tE Z W (.bl i)) := pe_weak pe_bl fun σ H Q ⟨φ, h, ρ, re, hs, m⟩ => nowBl m hs
theorem s_str {i : Str} {j : Nat} {pos : Pos} : PE X (.Constant (.str i) j pos) (tE Z W (.str i)) := pe_weak pe_str fun σ H Q ⟨φ, h, ρ, re, hs, m⟩ => nowStr m hs
theorem s_non {j : Nat} {pos : Pos} : PE X (.Constant .none j pos) (tE Z W .non) := pe_weak pe_non fun σ H Q ⟨φ, h, ρ, re, hs, m⟩ => nowNon m hs
/-- a constant of the module: a number, a text -/
def conV : T → Option V
  | .non => some .non | .bl b => some (.bl b) | .int i => some (.int i) | .str x => some (.str x)
  | _ => none
theorem conV_rp {cl : Cl} {φ : Phi} {H : Hp} {t : T} {v : V} (e : conV t = some v) : RpF cl φ H t v := by
  cases t <;> first | (cases e; done) | (cases e; rw [RpF, Rp])
theorem s_con {g : Nat} {x : Str} {pos : Pos} {v : V} {u : Value} (hg : Gl X x) (hm : X.mg x = some u) (r : RelV v u) (ev : conV (Z.G.con g) = some v) (hd : (x == ("__debug__" : Str)) = false) : PE X (.Name x pos) (tE Z W (.con g)) :=
  pe_weak (pe_glob hg hm r hd) fun σ H Q ⟨φ, h, ρ, re, hs, m⟩ => now m hs (conV_rp ev)

/-! ### operators -/
theorem ev2 {o : Bo} {a b : E} {σ : L2.St} {H : Hp} {Q : VK} (t : tE Z W (.bin o a b) σ H Q) : tE Z W a σ H fun x H1 => tE Z W b σ H1 fun y H2 => Two X Z.cl o x y H2 Q := by
  refine t.seq (rel' := RpS Z.cl) (f := fun s ρ h1 => (evE Z.G Z.C ρ h1 b).bind fun u h2 => (liftO (dref h2 s) h2).bind fun v h2 => (liftO (dref h2 u) h2).bind fun w h2 => (liftO (sem2 o v w) h2).bind fun z h2 => .ok (.t z) h2) (fun ρ h => by simp only [evE]) fun s h1 φ1 H1 x ρ re hs r m => ?_
  refine ⟨φ1, h1, ρ, re, hs, m.bind fun u h2 φ2 H2 y _ g hs2 r2 m2 => ?_⟩
  obtain ⟨v, e1, m2⟩ := m2.lift
  obtain ⟨w, e2, m2⟩ := m2.lift
  obtain ⟨z, e3, m2⟩ := m2.lift
  exact ⟨_, _, _, _, _, _, _, _, hs2, RpS.dref hs2 (g.s r) e1, RpS.dref hs2 r2 e2, e3, m2⟩
theorem ev1 {o : U} {a : E} {σ : L2.St} {H : Hp} {Q : VK} (t : tE Z W (.un o a) σ H Q) : tE Z W a σ H fun x H1 => One X Z.cl Z.G.sub o x H1 Q := by
  refine t.seq (rel' := RpS Z.cl) (f := fun s ρ h1 => (liftO (dref h1 s) h1).bind fun v h1 => (liftO (sem1 Z.G.sub o v) h1).bind fun w h1 => .ok (.t w) h1) (fun ρ h => by simp only [evE]) fun s h1 φ1 H1 x ρ re hs r m => ?_
  obtain ⟨v, e1, m⟩ := m.lift
  obtain ⟨w, e2, m⟩ := m.lift
  exact ⟨_, _, _, _, _, _, _, hs, RpS.dref hs r e1, e2, m⟩
variable {a b c : Expr} {ma mb mc : E} {pos : Pos}
theorem s_bin {o : Bo} {po : Operator} (ho : OpR X (binaryOp po) (Two X Z.cl o)) (ha : PE X a (tE Z W ma)) (hb : PE X b (tE Z W mb)) : PE X (.BinOp a po b pos) (tE Z W (.bin o ma mb)) :=
  pe_weak (pe_op ho ha hb) fun _ _ _ t => ev2 t
theorem s_cmp {o : Bo} {po : CmpOp} (ho : OpR X (compareOp po) (Two X Z.cl o)) (ha : PE X a (tE Z W ma)) (hb : PE X b (tE Z W mb)) (hm : behindInMarks po b = false) : PE X (.Compare a [po] [b] pos) (tE Z W (.bin o ma mb)) :=
  pe_weak (pe_cmpR ho ha hb hm) fun _ _ _ t => ev2 t
/-- from a value to a test -/
theorem toB {m : E} {σ : L2.St} {H : Hp} {Q : Bool → Hp → Prop} (t : tB' Z W m σ H Q) : tE Z W m σ H fun x H1 => ∃ k, x = .bl k ∧ Q k H1 := by
  refine t.seq (rel' := RpS Z.cl) (f := fun s ρ h1 => asB s h1) (fun ρ h => rfl) fun s h1 φ1 H1 x ρ re hs r m => ?_
  cases s with
  | r n => exact m.elim
  | t v =>
    cases v <;> first | exact m.elim | skip
    rename_i k
    have hx : x = .bl k := by
      have q : RpF Z.cl φ1 H1 (.bl k) x := r
      rw [RpF, Rp] at q
      exact q
    exact ⟨k, hx, m φ1 H1 k (Grow.refl _ _) hs rfl⟩
theorem st_cmp {o : Bo} {po : CmpOp} (ho : OpR X (compareOp po) (Two X Z.cl o)) (ha : PE X a (tE Z W ma)) (hb : PE X b (tE Z W mb)) (hm : behindInMarks po b = false) : PT X (.Compare a [po] [b] pos) (tB' Z W (.bin o ma mb)) :=
  pt_weak (pt_cmpR ho ha hb hm) fun _ _ _ t => ev2 (toB t)
theorem st_val {m : E} (h : PE X a (tE Z W m)) (he : ∀ whole, isTrue a X.env whole = (do let v ← whole; standAt a.pos; holding [v] (truthy v))) : PT X a (tB' Z W m) := pt_weak (pt_val h he) fun _ _ _ t => toB t
theorem s_un {o : U} {po : UnaryOp} (ho : UnR X (unaryOp po) (One X Z.cl Z.G.sub o)) (ha : PE X a (tE Z W ma)) : PE X (.UnaryOp po a pos) (tE Z W (.un o ma)) := pe_weak (pe_un ho ha) fun _ _ _ t => ev1 t

/-! ### and, or, not -/
theorem evNot {σ : L2.St} {H : Hp} {Q : VK} (t : tE Z W (.not ma) σ H Q) : tE Z W ma σ H fun x H1 => ∃ c, x = .bl c ∧ Q (.bl (!c)) H1 := by
  refine toB (t.seq (rel' := eqB) (f := fun b ρ h1 => .ok (.t (.bl (!b))) h1) (fun ρ h => ?_) fun k h1 φ1 H1 x ρ re hs r m => ?_)
  · simp only [evE, evB]
    cases evE Z.G Z.C ρ h ma <;> rfl
  · cases r
    exact nowBl m hs
theorem s_not (ha : PE X a (tE Z W ma)) : PE X (.UnaryOp .Not a pos) (tE Z W (.not ma)) := pe_weak (pe_not ha) fun _ _ _ t => evNot t
theorem st_not (ha : PT X a (tB' Z W ma)) : PT X (.UnaryOp .Not a pos) (tB' Z W (.not ma)) :=
  pt_weak (pt_not ha) fun σ H Q t => by
    refine t.seq (rel' := eqB) (f := fun b ρ h1 => .ok (!b) h1) (fun ρ h => ?_) fun k h1 φ1 H1 x ρ re hs r m => ?_
    · simp only [evE, evB]
      cases evE Z.G Z.C ρ h ma with
      | ok s h1 =>
        cases s with
        | r n => rfl
        | t v => cases v <;> rfl
      | ex _ _ _ => rfl
      | bad => rfl
    · cases r
      exact m φ1 H1 _ (Grow.refl _ _) hs rfl
theorem evAnd {σ : L2.St} {H : Hp} {Q : VK} (t : tE Z W (.and ma mb) σ H Q) : tE Z W ma σ H fun x H1 => ∃ c, x = .bl c ∧ if c = true then tE Z W mb σ H1 Q else Q (.bl false) H1 := by
  refine toB (t.seq (rel' := eqB) (f := fun b ρ h1 => if b then evE Z.G Z.C ρ h1 mb else .ok (.t (.bl false)) h1) (fun ρ h => ?_) fun k h1 φ1 H1 x ρ re hs r m => ?_)
  · simp only [evE, evB]
    cases evE Z.G Z.C ρ h ma <;> rfl
  · cases r
    cases k with
    | true => exact ⟨φ1, h1, ρ, re, hs, m⟩
    | false => exact nowBl m hs
theorem evOr {σ : L2.St} {H : Hp} {Q : VK} (t : tE Z W (.or ma mb) σ H Q) : tE Z W ma σ H fun x H1 => ∃ c, x = .bl c ∧ if c = true then Q (.bl true) H1 else tE Z W mb σ H1 Q := by
  refine toB (t.seq (rel' := eqB) (f := fun b ρ h1 => if b then .ok (.t (.bl true)) h1 else evE Z.G Z.C ρ h1 mb) (fun ρ h => ?_) fun k h1 φ1 H1 x ρ re hs r m => ?_)
  · simp only [evE, evB]
    cases evE Z.G Z.C ρ h ma <;> rfl
  · cases r
    cases k with
    | false => exact ⟨φ1, h1, ρ, re, hs, m⟩
    | true => exact nowBl m hs
theorem evAndT {σ : L2.St} {H : Hp} {Q : Bool → Hp → Prop} (t : tB' Z W (.and ma mb) σ H Q) : tB' Z W ma σ H fun c H1 => if c = true then tB' Z W mb σ H1 Q else Q false H1 := by
  refine t.seq (rel' := eqB) (f := fun b ρ h1 => if b then evB Z.G Z.C ρ h1 mb else .ok false h1) (fun ρ h => ?_) fun k h1 φ1 H1 x ρ re hs r m => ?_
  · simp only [evE, evB]
    cases evE Z.G Z.C ρ h ma with
    | ok s h1 =>
      cases s with
      | r n => rfl
      | t v =>
        cases v <;> try rfl
        rename_i k
        cases k <;> rfl
    | ex _ _ _ => rfl
    | bad => rfl
  · cases r
    cases k with
    | true => exact ⟨φ1, h1, ρ, re, hs, m⟩
    | false => exact m φ1 H1 _ (Grow.refl _ _) hs rfl
theorem evOrT {σ : L2.St} {H : Hp} {Q : Bool → Hp → Prop} (t : tB' Z W (.or ma mb) σ H Q) : tB' Z W ma σ H fun c H1 => if c = true then Q true H1 else tB' Z W mb σ H1 Q := by
  refine t.seq (rel' := eqB) (f := fun b ρ h1 => if b then .ok true h1 else evB Z.G Z.C ρ h1 mb) (fun ρ h => ?_) fun k h1 φ1 H1 x ρ re hs r m => ?_
  · simp only [evE, evB]
    cases evE Z.G Z.C ρ h ma with
    | ok s h1 =>
      cases s with
      | r n => rfl
      | t v =>
        cases v <;> try rfl
        rename_i k
        cases k <;> rfl
    | ex _ _ _ => rfl
    | bad => rfl
  · cases r
    cases k with
    | false => exact ⟨φ1, h1, ρ, re, hs, m⟩
    | true => exact m φ1 H1 _ (Grow.refl _ _) hs rfl
variable {rest : List Expr}
theorem s_and2 (ha : PE X a (tE Z W ma)) (hb : PE X b (tE Z W mb)) : PE X (.BoolOp .And [a, b] pos) (tE Z W (.and ma mb)) := pe_weak (pe_and ha (pe_one hb)) fun _ _ _ t => evAnd t
theorem s_and (ha : PE X a (tE Z W ma)) (hb : PE X (.BoolOp .And (b :: rest) pos) (tE Z W mb)) : PE X (.BoolOp .And (a :: b :: rest) pos) (tE Z W (.and ma mb)) := pe_weak (pe_and ha hb) fun _ _ _ t => evAnd t
theorem s_or2 (ha : PE X a (tE Z W ma)) (hb : PE X b (tE Z W mb)) : PE X (.BoolOp .Or [a, b] pos) (tE Z W (.or ma mb)) := pe_weak (pe_or ha (pe_one hb)) fun _ _ _ t => evOr t
theorem s_or (ha : PE X a (tE Z W ma)) (hb : PE X (.BoolOp .Or (b :: rest) pos) (tE Z W mb)) : PE X (.BoolOp .Or (a :: b :: rest) pos) (tE Z W (.or ma mb)) := pe_weak (pe_or ha hb) fun _ _ _ t => evOr t
theorem sw_and2 (ha : PT X a (tB' Z W ma)) (hb : PT X b (tB' Z W mb)) : PW X (.BoolOp .And [a, b] pos) (tB' Z W (.and ma mb)) := pw_weak (pw_and ha (pw_and1 hb)) fun _ _ _ t => evAndT t
theorem sw_and (ha : PT X a (tB' Z W ma)) (hb : PW X (.BoolOp .And (b :: rest) pos) (tB' Z W mb)) : PW X (.BoolOp .And (a :: b :: rest) pos) (tB' Z W (.and ma mb)) := pw_weak (pw_and ha hb) fun _ _ _ t => evAndT t
theorem sw_or2 (ha : PT X a (tB' Z W ma)) (hb : PT X b (tB' Z W mb)) : PW X (.BoolOp .Or [a, b] pos) (tB' Z W (.or ma mb)) := pw_weak (pw_or ha (pw_or1 hb)) fun _ _ _ t => evOrT t
theorem sw_or (ha : PT X a (tB' Z W ma)) (hb : PW X (.BoolOp .Or (b :: rest) pos) (tB' Z W mb)) : PW X (.BoolOp .Or (a :: b :: rest) pos) (tB' Z W (.or ma mb)) := pw_weak (pw_or ha hb) fun _ _ _ t => evOrT t
theorem s_ite (hc : PT X c (tB' Z W mc)) (ha : PE X a (tE Z W ma)) (hb : PE X b (tE Z W mb)) : PE X (.IfExp c a b pos) (tE Z W (.ite mc ma mb)) :=
  pe_weak (pe_ifExp hc ha hb) fun σ H Q t => by
    refine t.seq (rel' := eqB) (f := fun k ρ h1 => if k then evE Z.G Z.C ρ h1 ma else evE Z.G Z.C ρ h1 mb) (fun ρ h => ?_) fun k h1 φ1 H1 x ρ re hs r m => ?_
    · simp only [evE, evB]
      cases evE Z.G Z.C ρ h mc <;> rfl
    · cases r
      cases k with
      | true => exact ⟨φ1, h1, ρ, re, hs, m⟩
      | false => exact ⟨φ1, h1, ρ, re, hs, m⟩

/-! ### a < b < c -/
theorem evCh {o p : Bo} {σ : L2.St} {H : Hp} {Q : VK} (t : tE Z W (.ch o p ma mb mc) σ H Q) : tE Z W ma σ H fun x H1 => tE Z W mb σ H1 fun y H2 => Two X Z.cl o x y H2 fun z H3 => ∃ k, z = .bl k ∧ (if k = true then tE Z W mc σ H3 fun w' H4 => Two X Z.cl p y w' H4 Q else Q (.bl false) H3) := by
  refine t.seq (rel' := RpS Z.cl) (f := fun s ρ h1 => (evE Z.G Z.C ρ h1 mb).bind fun u h2 => (liftO (dref h2 s) h2).bind fun v h2 => (liftO (dref h2 u) h2).bind fun w h2 => (liftO (sem2 o v w) h2).bind fun z h2 =>
      (asB (.t z) h2).bind fun k h2 => if k then (evE Z.G Z.C ρ h2 mc).bind fun x h3 => (liftO (dref h3 u) h3).bind fun w h3 => (liftO (dref h3 x) h3).bind fun y h3 => (liftO (sem2 p w y) h3).bind fun z h3 => .ok (.t z) h3 else .ok (.t (.bl false)) h2) (fun ρ h => by simp only [evE]) fun s h1 φ1 H1 x ρ re hs r m => ?_
  refine ⟨φ1, h1, ρ, re, hs, m.bind fun u h2 φ2 H2 y _ g hs2 r2 m2 => ?_⟩
  obtain ⟨v, e1, m2⟩ := m2.lift
  obtain ⟨w, e2, m2⟩ := m2.lift
  obtain ⟨z, e3, m2⟩ := m2.lift
  refine ⟨Z.xr, W, σ, _, _, _, _, _, hs2, RpS.dref hs2 (g.s r) e1, RpS.dref hs2 r2 e2, e3, ?_⟩
  obtain ⟨k, ek, m2⟩ := m2.asB
  cases ek
  intro φ3 H3 zv g3 hs3 rz
  have hz : zv = .bl k := by
    have q : RpF Z.cl φ3 H3 (.bl k) zv := rz
    rw [RpF, Rp] at q
    exact q
  refine ⟨k, hz, ?_⟩
  have m3 := m2.grow g3
  cases k with
  | false => exact nowBl m3 hs3
  | true =>
    refine ⟨φ3, h2, ρ, (g.trans g3).e re, hs3, MW.bind m3 fun x' h4 φ4 H4 y4 _ g4 hs4 r4 m4 => ?_⟩
    obtain ⟨w', e4, m4⟩ := m4.lift
    obtain ⟨y', e5, m4⟩ := m4.lift
    obtain ⟨z', e6, m4⟩ := m4.lift
    exact ⟨_, _, _, _, _, _, _, _, hs4, RpS.dref hs4 (g4.s (g3.s r2)) e4, RpS.dref hs4 r4 e5, e6, m4⟩
theorem s_ch {o p : Bo} {po pp : CmpOp} (ho : OpR X (compareOp po) (Two X Z.cl o)) (hp : OpR X (compareOp pp) (Two X Z.cl p)) (ha : PE X a (tE Z W ma)) (hb : PE X b (tE Z W mb)) (hc : PE X c (tE Z W mc)) (hm : lastMarks [po, pp] [b, c] = false) :
    PE X (.Compare a [po, pp] [b, c] pos) (tE Z W (.ch o p ma mb mc)) := pe_weak (pe_chain ho hp ha hb hc hm) fun _ _ _ t => evCh t
theorem st_ch {o p : Bo} {po pp : CmpOp} (ho : OpR X (compareOp po) (Two X Z.cl o)) (hp : OpR X (compareOp pp) (Two X Z.cl p)) (ha : PE X a (tE Z W ma)) (hb : PE X b (tE Z W mb)) (hc : PE X c (tE Z W mc)) (hm : lastMarks [po, pp] [b, c] = false) :
    PT X (.Compare a [po, pp] [b, c] pos) (tB' Z W (.ch o p ma mb mc)) := pt_weak (pt_chain ho hp ha hb hc hm) fun _ _ _ t => evCh (toB t)

/-! ### displays -/
theorem sl_nil : PA X [] (tL Z W []) := pa_weak pa_nil fun σ H Q ⟨φ, h, ρ, re, hs, m⟩ => m φ H [] (Grow.refl _ _) hs rfl
theorem sl_cons {es : List Expr} {ms : List E} (ha : PE X a (tE Z W ma)) (hr : PA X es (tL Z W ms)) (he : starEach (a :: es) X.env = (false, eval a X.env) :: starEach es X.env) : PA X (a :: es) (tL Z W (ma :: ms)) :=
  pa_weak (pa_cons ha hr he) fun σ H Q t => by
    refine t.seq (rel' := RpS Z.cl) (f := fun s ρ h1 => (evS Z.G Z.C ρ h1 ms).bind fun ss h2 => .ok (s :: ss) h2) (fun ρ h => by simp only [evS]) fun s h1 φ1 H1 x ρ re hs r m => ?_
    exact ⟨φ1, h1, ρ, re, hs, m.bind fun ss h2 φ2 H2 xs _ g hs2 r2 m2 => m2 φ2 H2 _ (Grow.refl _ _) hs2 ⟨_, _, rfl, g.s r, r2⟩⟩
/-- values that will not change -/
abbrev RpL (cl : Cl) : Phi → Hp → List T → List V → Prop := fun φ H ts vs => Rps cl (Off φ) H ts vs
abbrev tLT (Z : Zs) (W : WX) (ms : List E) : TA := tG Z W (RpL Z.cl) fun ρ h => evTs Z.G Z.C ρ h ms
theorem slT_nil : PA X [] (tLT Z W []) := pa_weak pa_nil fun σ H Q ⟨φ, h, ρ, re, hs, m⟩ => m φ H [] (Grow.refl _ _) hs .nil
theorem slT_cons {es : List Expr} {ms : List E} (ha : PE X a (tE Z W ma)) (hr : PA X es (tLT Z W ms)) (he : starEach (a :: es) X.env = (false, eval a X.env) :: starEach es X.env) : PA X (a :: es) (tLT Z W (ma :: ms)) :=
  pa_weak (pa_cons ha hr he) fun σ H Q t => by
    refine t.seq (rel' := RpS Z.cl) (f := fun s ρ h1 => (asT s h1).bind fun v h1 => (evTs Z.G Z.C ρ h1 ms).bind fun ss h2 => .ok (v :: ss) h2) (fun ρ h => by simp only [evTs]) fun s h1 φ1 H1 x ρ re hs r m => ?_
    obtain ⟨v, ev, m⟩ := m.asT
    subst ev
    refine ⟨φ1, h1, ρ, re, hs, MW.bind (rel' := RpL Z.cl) m fun ss h2 φ2 H2 xs _ g hs2 r2 m2 => m2 φ2 H2 _ (Grow.refl _ _) hs2 (.cons (g.rp r) r2)⟩
theorem evTs_len {G : Ctx} {C : Orc} {ρ : En} : ∀ {ms : List E} {h h' : Hm} {vs : List T}, evTs G C ρ h ms = .ok vs h' → vs.length = ms.length
  | [], h, h', vs, e => by simp only [evTs] at e; cases e; rfl
  | m :: ms, h, h', vs, e => by
    simp only [evTs] at e
    cases e1 : evE G C ρ h m with
    | ok s h1 =>
      rw [e1] at e
      cases s with
      | r n => cases e
      | t v =>
        simp only [R.bind_ok, asT] at e
        cases e2 : evTs G C ρ h1 ms with
        | ok ss h2 => rw [e2] at e; cases e; rw [List.length_cons, List.length_cons, evTs_len e2]
        | ex _ _ _ => rw [e2] at e; cases e
        | bad => rw [e2] at e; cases e
    | ex _ _ _ => rw [e1] at e; cases e
    | bad => rw [e1] at e; cases e
theorem lim_of_len {ms : List E} {n : Nat} (h : n = ms.length) (hl : ms.length ≤ 1000) : n ≤ sizeLine := by
  rw [h]; exact Nat.le_of_lt (L2.small1000 hl)
/-- how many items -/
theorem tG.with {α β γ δ : Type} {rel' : Phi → Hp → γ → δ → Prop} {rel : Phi → Hp → α → β → Prop} {ev : En → Hm → R α} {ev' : En → Hm → R γ} {f : γ → En → Hm → R α} {σ : L2.St} {H : Hp} {Q : β → Hp → Prop} {Q' : δ → Hp → Prop}
    (t : tG Z W rel ev σ H Q) (e : ∀ ρ h, ev ρ h = (ev' ρ h).bind fun a h1 => f a ρ h1)
    (k : ∀ a h0 h1 φ1 H1 v ρ, ev' ρ h0 = .ok a h1 → RpE Z.cl φ1 H1 ρ σ → Hs Z.cl φ1 h1 H1 → rel' φ1 H1 a v → MW Z.cl Z.xr rel W σ φ1 H1 (f a ρ h1) Q → Q' v H1) : tG Z W rel' ev' σ H Q' := by
  obtain ⟨φ, h, ρ, re, hs, m⟩ := t
  refine ⟨φ, h, ρ, re, hs, ?_⟩
  rw [e] at m
  exact m.bind fun a h1 φ1 H1 v ee g hs1 r m1 => k a h h1 φ1 H1 v ρ ee (g.e re) hs1 r m1
variable {es : List Expr} {ms : List E}
theorem s_tup {k : Nat} (hl : ms.length ≤ 1000) (h : PA X es (tLT Z W ms)) : PE X (.Tuple es k pos) (tE Z W (.tup ms)) :=
  pe_weak (pe_tup h) fun σ H Q t => by
    refine t.with (rel' := RpL Z.cl) (f := fun vs ρ h1 => .ok (.t (.tup vs)) h1) (fun ρ h => by simp only [evE]) fun vs h0 h1 φ1 H1 x ρ ee re hs r m => ?_
    exact ⟨by rw [← r.length]; exact lim_of_len (evTs_len ee) hl, newTup m hs r⟩
theorem s_lst (hl : ms.length ≤ 1000) (h : PA X es (tLT Z W ms)) : PE X (.List es pos) (tE Z W (.lst ms)) :=
  pe_weak (pe_lst h) fun σ H Q t => by
    refine t.with (rel' := RpL Z.cl) (f := fun vs ρ h1 => .ok (.t (.lst vs)) h1) (fun ρ h => by simp only [evE]) fun vs h0 h1 φ1 H1 x ρ ee re hs r m => ?_
    exact ⟨by rw [← r.length]; exact lim_of_len (evTs_len ee) hl, newLst m hs r⟩
theorem s_newl (hl : ms.length ≤ 1000) (h : PA X es (tLT Z W ms)) : PE X (.List es pos) (tE Z W (.newl ms)) :=
  pe_weak (pe_lst h) fun σ H Q t => by
    refine t.with (rel' := RpL Z.cl) (f := fun vs ρ h1 => .ok (.r h1.length) (h1 ++ [.lst vs])) (fun ρ h => by simp only [evE]) fun vs h0 h1 φ1 H1 x ρ ee re hs r m => ?_
    refine ⟨by rw [← r.length]; exact lim_of_len (evTs_len ee) hl, fun p n => ?_⟩
    refine m (φ1.push p) _ _ (Grow.push n) (hs.push n ⟨x, upd_same, Rps.move (fun b w ob r => ⟨off_push n ob r, rd_upd n r⟩) r⟩) ⟨by simp [hs.len], fun a e => ?_⟩
    rw [← hs.len] at e
    simp at e
    rw [e]
theorem s_newd : PE X (.Dict [] [] pos) (tE Z W .newd) :=
  pe_weak pe_dnewK fun σ H Q ⟨φ, h, ρ, re, hs, m⟩ => by
    simp only [evE] at m
    intro p n
    refine m (φ.push p) _ _ (Grow.push n) (hs.push n ⟨[], upd_same, rfl, .nil⟩) ⟨by simp [hs.len], fun a e => ?_⟩
    rw [← hs.len] at e
    simp at e
    rw [e]
theorem s_dct0 : PE X (.Dict [] [] pos) (tE Z W .dct0) :=
  pe_weak pe_dnewK fun σ H Q ⟨φ, h, ρ, re, hs, m⟩ => by
    simp only [evE] at m
    intro p n
    refine m φ _ _ (Grow.lay n) (hs.lay n) ?_
    show RpF Z.cl φ _ _ _
    rw [RpF, Rp]
    exact ⟨p, [], rfl, hs.offNone n, .inl upd_same, rfl, .nil⟩

/-! ### slices -/
theorem cut_ok {σ0 : L2.St} {φ : Phi} {h : Hm} {H : Hp} {Q : VK} {s : S} {x : V} {l u : Option Int} (hs : Hs Z.cl φ h H) (r : RpS Z.cl φ H s x) (m : MW Z.cl Z.xr (RpS Z.cl) W σ0 φ H (cutE s l u h) Q) :
    (rSlL X.K x l u H Q ∨ rSlA X.K x l u H Q) ∨ rSlS x l u H Q := by
  unfold cutE at m
  obtain ⟨v, e1, m⟩ := m.lift
  have ri := RpS.dref hs r e1
  cases v with
  | non | bl _ | int _ | dct _ _ | obj _ _ _ => exact m.elim
  | lst xs =>
    obtain ⟨a, vs, e, rd, q⟩ := ri
    exact .inl (.inl ⟨a, vs, e, .inl rd.rd, newLst m hs (q.cut _ _)⟩)
  | tup xs =>
    obtain ⟨a, vs, e, o, rd, q⟩ := ri
    refine .inl (.inr ⟨a, vs, e, .inl rd.rd, fun hw => ?_, fun _ => newTup m hs (q.cut _ _)⟩)
    have ec : cutL xs l u = xs := by
      unfold cutL
      rw [q.length, hw.1, hw.2, List.drop_zero, Nat.sub_zero, ← q.length, List.take_length]
    dsimp only at m
    rw [ec] at m
    exact now m hs (by rw [RpF, Rp]; exact ⟨a, vs, rfl, o, rd, q⟩)
  | str z =>
    dsimp only at m
    split at m
    · exact .inr ⟨z, ri, lim_le (by assumption), nowStr m hs⟩
    · exact m.elim
theorem slR_all : SlR X fun x lo hi H Q => (rSlL X.K x lo hi H Q ∨ rSlA X.K x lo hi H Q) ∨ rSlS x lo hi H Q := SlR.or (SlR.or sl_list sl_tupA) sl_str
theorem int_v {φ : Phi} {H : Hp} {cl : Cl} {i : Int} {x : V} (r : RpS cl φ H (.t (.int i)) x) : x = .int i := by
  have q : RpF cl φ H (.int i) x := r
  rw [RpF, Rp] at q
  exact q
variable {p2 : Pos}
theorem s_slf (ha : PE X a (tE Z W ma)) (hb : PE X b (tE Z W mb)) : PE X (.Subscript a (.Slice (some b) none none p2) pos) (tE Z W (.slf ma mb)) :=
  pe_weak (pe_slice slR_all ha (po_some hb) po_none) fun σ H Q t => by
    refine t.seq (rel' := RpS Z.cl) (f := fun s ρ h1 => (evE Z.G Z.C ρ h1 mb).bind fun l h2 => (asI l h2).bind fun i h2 => cutE s (some i) none h2) (fun ρ h => by simp only [evE]) fun s h1 φ1 H1 x ρ re hs r m => ?_
    refine ⟨φ1, h1, ρ, re, hs, m.bind fun l h2 φ2 H2 y _ g hs2 r2 m2 => ?_⟩
    obtain ⟨i, el, m2⟩ := m2.asI
    subst el
    exact ⟨i, int_v r2, cut_ok hs2 (g.s r) m2⟩
theorem s_slt (ha : PE X a (tE Z W ma)) (hb : PE X b (tE Z W mb)) : PE X (.Subscript a (.Slice none (some b) none p2) pos) (tE Z W (.slt ma mb)) :=
  pe_weak (pe_slice slR_all ha po_none (po_some hb)) fun σ H Q t => by
    refine t.seq (rel' := RpS Z.cl) (f := fun s ρ h1 => (evE Z.G Z.C ρ h1 mb).bind fun l h2 => (asI l h2).bind fun i h2 => cutE s none (some i) h2) (fun ρ h => by simp only [evE]) fun s h1 φ1 H1 x ρ re hs r m => ?_
    refine ⟨φ1, h1, ρ, re, hs, m.bind fun l h2 φ2 H2 y _ g hs2 r2 m2 => ?_⟩
    obtain ⟨i, el, m2⟩ := m2.asI
    subst el
    exact ⟨i, int_v r2, cut_ok hs2 (g.s r) m2⟩
theorem s_slb (ha : PE X a (tE Z W ma)) (hb : PE X b (tE Z W mb)) (hc : PE X c (tE Z W mc)) : PE X (.Subscript a (.Slice (some b) (some c) none p2) pos) (tE Z W (.slb ma mb mc)) :=
  pe_weak (pe_slice slR_all ha (po_some hb) (po_some hc)) fun σ H Q t => by
    refine t.seq (rel' := RpS Z.cl) (f := fun s ρ h1 => (evE Z.G Z.C ρ h1 mb).bind fun l h2 => (asI l h2).bind fun i h2 => (evE Z.G Z.C ρ h2 mc).bind fun u h3 => (asI u h3).bind fun j h3 => cutE s (some i) (some j) h3) (fun ρ h => by simp only [evE]) fun s h1 φ1 H1 x ρ re hs r m => ?_
    refine ⟨φ1, h1, ρ, re, hs, m.bind fun l h2 φ2 H2 y _ g hs2 r2 m2 => ?_⟩
    obtain ⟨i, el, m2⟩ := m2.asI
    subst el
    refine ⟨i, int_v r2, φ2, h2, ρ, g.e re, hs2, MW.bind m2 fun u h3 φ3 H3 z _ g3 hs3 r3 m3 => ?_⟩
    obtain ⟨j, eu, m3⟩ := m3.asI
    subst eu
    exact ⟨j, int_v r3, cut_ok hs3 (g3.s (g.s r)) m3⟩

/-! ### methods -/
theorem s_get {d k x : Expr} {md mk mx : E} {apos cpos : Pos} (hu : X.A.units + 1 < cLine) (hd : PE X d (tE Z W md)) (hk : PE X k (tE Z W mk)) (hx : PE X x (tE Z W mx)) (m2 : M2 X d "get" apos k x cpos) :
    PE X (.Call (.Attribute d "get" apos) [k, x] [] cpos) (tE Z W (.get md mk mx)) :=
  pe_weak (pe_dget2 hu hd hk hx m2) fun σ H Q t => by
    refine t.seq (rel' := RpS Z.cl) (f := fun s ρ h1 => (isD s h1).bind fun _ h1 => (evE Z.G Z.C ρ h1 mk).bind fun u h2 => (evE Z.G Z.C ρ h2 mx).bind fun w h3 => (liftO (dref h3 s) h3).bind fun dv h3 => (asT u h3).bind fun kv h3 => (asT w h3).bind fun xv h3 => getF dv kv xv h3) (fun ρ h => by simp only [evE]) fun s h1 φ1 H1 x ρ re hs r m => ?_
    obtain ⟨ks0, us0, e0, m⟩ := m.isD
    obtain ⟨a, kvs0, ex, rd0, _⟩ := RpS.dref hs r e0
    refine ⟨a, ex, .inl ⟨kvs0, rd0.rd⟩, φ1, h1, ρ, re, hs, m.bind fun u h2 φ2 H2 y _ g hs2 r2 m2 => ?_⟩
    refine ⟨φ2, h2, ρ, g.e re, hs2, m2.bind fun w h3 φ3 H3 z _ g3 hs3 r3 m3 => ?_⟩
    obtain ⟨dv, e1, m3a⟩ := m3.lift
    obtain ⟨kv, e2, m3b⟩ := m3a.asT
    obtain ⟨xv, e3, m3c⟩ := m3b.asT
    subst e2; subst e3
    clear m3 m3a m3b
    have r1' := RpS.dref hs3 (g3.s (g.s r)) e1
    have m3 := m3c
    clear m3c
    unfold getF at m3
    cases dv <;> first | exact m3.elim | skip
    rename_i ks us
    dsimp only at m3
    cases ek : keyOf kv with
    | none => rw [ek] at m3; exact m3.elim
    | some k =>
      rw [ek] at m3
      obtain ⟨b, kvs, ex', rd, ekv, q⟩ := r1'
      rw [ex] at ex'
      cases ex'
      subst ekv
      have hy := key_v (RpF.i r2) ek
      refine ⟨valV kvs k, .inl ⟨kvs, k, rd.rd, hy, rfl⟩, ?_⟩
      obtain ⟨g1, g2⟩ := getD_val (φ := φ3) k q
      dsimp only at m3
      cases eg : getD k (kvs.map fun p => keyT p.1) us with
      | none =>
        rw [g2 eg]
        rw [eg] at m3
        exact now m3 hs3 r3
      | some t =>
        obtain ⟨v, ev, rv⟩ := g1 t eg
        rw [ev]
        rw [eg] at m3
        exact now m3 hs3 rv
theorem sql_of {φ : Phi} {h : Hm} {H : Hp} {s : S} {x : V} {ks : List T} (hs : Hs Z.cl φ h H) (r : RpS Z.cl φ H s x) (e : dref h s = some (.lst ks)) : tyV X.K "list" x H := by
  obtain ⟨a, vs, ex, rd, _⟩ := RpS.dref hs r e
  subst ex
  exact .inl ⟨rfl, vs, .inl rd.rd⟩
/-- what may change, in hand -/
theorem at_ref {φ : Phi} {h : Hm} {H : Hp} {n : Nat} {x : V} {o : MO} (hs : Hs Z.cl φ h H) (r : RpS Z.cl φ H (.r n) x) (e : h[n]? = some o) (ho : o ≠ .dead) : ∃ a, x = .ref a ∧ φ.m[n]? = some (some a) ∧ RpO Z.cl φ H o a := by
  rcases hs.get n o e with ⟨q, _⟩ | ⟨a, q, w⟩
  · exact absurd q ho
  · exact ⟨a, r.2 a q, q, w⟩
theorem off_self {φ : Phi} {H : Hp} {n : Nat} {a : Addr} {u : HO} (e : φ.m[n]? = some (some a)) : ∀ b w, Off φ b → Rx H b w → Off φ b ∧ Rx (upd H a u) b w := fun b w ob r => ⟨ob, rd_write (r := r) fun z => ob.1 (z ▸ List.mem_of_getElem? e)⟩
theorem evApp {o e : E} {σ : L2.St} {H : Hp} {Q : VK} (t : tE Z W (.app o e) σ H Q) : tBM X.K "list" rAppend (tE Z W o) (tL Z W [e]) σ H Q := by
  refine t.seq (rel' := RpS Z.cl) (f := fun s ρ h1 => (isL s h1).bind fun _ h1 => (evE Z.G Z.C ρ h1 e).bind fun u h2 => (asT u h2).bind fun v h2 => appF s v h2) (fun ρ h => by simp only [evE]) fun s h1 φ1 H1 x ρ re hs r m => ?_
  obtain ⟨ks, e0, m⟩ := m.isL
  refine ⟨sql_of hs r e0, φ1, h1, ρ, re, hs, ?_⟩
  simp only [evS]
  have m' : MW Z.cl Z.xr (RpS Z.cl) W σ φ1 H1 ((evE Z.G Z.C ρ h1 e).bind fun u h2 => (asT u h2).bind fun v h2 => appF s v h2) Q := m
  cases ee : evE Z.G Z.C ρ h1 e with
  | bad => rw [ee] at m'; exact m'.elim
  | ex c fs h' => rw [ee] at m'; exact m'
  | ok u h2 =>
    rw [ee] at m'
    simp only [R.bind_ok] at m' ⊢
    intro φ2 H2 vs g hs2 r2
    obtain ⟨y, _, ev, r2, e2⟩ := r2
    cases e2
    subst ev
    have m2a := m'.grow g
    obtain ⟨v, eu, m2⟩ := m2a.asT
    subst eu
    clear m2a m'
    unfold appF at m2
    cases s with
    | t _ => exact m2.elim
    | r n =>
      dsimp only at m2
      cases eh : h2[n]? with
      | none => rw [eh] at m2; exact m2.elim
      | some ob =>
        rw [eh] at m2
        cases ob <;> first | exact m2.elim | skip
        rename_i xs
        dsimp only at m2
        split at m2
        · rename_i hl
          obtain ⟨a, ex, ea, w, hw, q⟩ := at_ref hs2 (g.s r) eh (by intro z; cases z)
          refine ⟨a, w, y, ex, rfl, hw, by rw [← q.length]; exact lim_le hl, ?_⟩
          refine m2 φ2 _ _ (Grow.write (List.mem_of_getElem? ea)) (hs2.write ea ⟨w ++ [y], upd_same, Rps.append (Rps.move (off_self ea) q) (.cons (Rp.move (off_self ea) r2) .nil)⟩) ?_
          show RpF Z.cl φ2 _ _ _
          rw [RpF, Rp]
        · exact m2.elim
end
end My

/-! MiniPy: pop, freezing, what is walked, comprehensions, calls. -/
namespace My
open PySem L2 PyProof.Rows
section
variable {X : Cx} {Z : Zs} {W : WX}
theorem evPop {o e : E} {σ : L2.St} {H : Hp} {Q : VK} (t : tE Z W (.popat o e) σ H Q) : tBM X.K "list" rPopAt (tE Z W o) (tL Z W [e]) σ H Q := by
  refine t.seq (rel' := RpS Z.cl) (f := fun s ρ h1 => (isL s h1).bind fun _ h1 => (evE Z.G Z.C ρ h1 e).bind fun u h2 => (asI u h2).bind fun i h2 => popF s i h2) (fun ρ h => by simp only [evE]) fun s h1 φ1 H1 x ρ re hs r m => ?_
  obtain ⟨ks, e0, m'⟩ := m.isL
  clear m
  refine ⟨sql_of hs r e0, φ1, h1, ρ, re, hs, ?_⟩
  simp only [evS]
  cases ee : evE Z.G Z.C ρ h1 e with
  | bad => rw [ee] at m'; exact m'.elim
  | ex c fs h' => rw [ee] at m'; exact m'
  | ok u h2 =>
    rw [ee] at m'
    simp only [R.bind_ok] at m' ⊢
    intro φ2 H2 vs g hs2 r2
    obtain ⟨y, _, ev, r2, e2⟩ := r2
    cases e2
    subst ev
    have m2a := m'.grow g
    obtain ⟨i, eu, m2⟩ := m2a.asI
    subst eu
    clear m2a m'
    unfold popF at m2
    cases s with
    | t _ => exact m2.elim
    | r n =>
      dsimp only at m2
      cases eh : h2[n]? with
      | none => rw [eh] at m2; exact m2.elim
      | some ob =>
        rw [eh] at m2
        cases ob <;> first | exact m2.elim | skip
        rename_i xs
        dsimp only at m2
        cases ek : seqIndex? i xs.length with
        | none => rw [ek] at m2; exact m2.elim
        | some k =>
          rw [ek] at m2
          dsimp only at m2
          cases ex' : xs[k]? with
          | none => rw [ex'] at m2; exact m2.elim
          | some y' =>
            rw [ex'] at m2
            dsimp only at m2
            split at m2
            · rename_i hl
              simp only [Bool.and_eq_true, decide_eq_true_eq] at hl
              obtain ⟨a, ex, ea, w, hw, q⟩ := at_ref hs2 (g.s r) eh (by intro z; cases z)
              obtain ⟨yv, ey, ry⟩ := q.getE ex'
              have hy := int_v r2
              subst hy
              refine ⟨a, w, i, k, yv, ex, rfl, hw, hl.1, hl.2, by rw [← q.length]; exact ek, ey, ?_⟩
              have er : ∀ {xs : List T} {vs : List V} (k : Nat), Rps Z.cl (Off φ2) H2 xs vs → Rps Z.cl (Off φ2) H2 (xs.eraseIdx k) (vs.eraseIdx k) := by
                intro xs vs k h
                rw [List.eraseIdx_eq_take_drop_succ, List.eraseIdx_eq_take_drop_succ]
                exact Rps.append (h.take k) (h.drop (k + 1))
              exact m2 φ2 _ _ (Grow.write (List.mem_of_getElem? ea)) (hs2.write ea ⟨w.eraseIdx k, upd_same, Rps.move (off_self ea) (er k q)⟩) (Rp.move (off_self ea) ry)
            · exact m2.elim
/-- freezing says nothing to the model -/
theorem evFz {m : E} {σ : L2.St} {H : Hp} {Q : VK} (t : tE Z W (.fz m) σ H Q) : tE Z W m σ H Q := by
  obtain ⟨φ, h, ρ, re, hs, t⟩ := t
  refine ⟨φ, h, ρ, re, hs, ?_⟩
  simp only [evE] at t
  refine t.bind0 fun s h1 φ1 H1 v _ g hs1 r m1 => ?_
  unfold fzF at m1
  cases s with
  | t u => exact m1 φ1 H1 v g hs1 r
  | r n =>
    dsimp only at m1
    obtain ⟨u, e1, m2⟩ := m1.lift
    clear m1
    have hn : ∃ o, h1[n]? = some o ∧ o ≠ .dead := by
      cases q : h1[n]? with
      | none => simp only [dref, q] at e1; cases e1
      | some o =>
        refine ⟨o, rfl, ?_⟩
        intro z
        subst z
        simp only [dref, q] at e1
        cases e1
    obtain ⟨o, eo, ho⟩ := hn
    obtain ⟨a, ex, ea, w⟩ := at_ref hs1 r eo ho
    have ri := RpS.dref hs1 r e1
    have fin : ∀ φ', (∀ b u, Off φ1 b → Rx H1 b u → Off φ' b ∧ Rx H1 b u) → Off φ' a → RpF Z.cl φ' H1 u v := fun φ' k oa => by
      subst ex
      cases u with
      | non => cases ri
      | bl _ => cases ri
      | int _ => cases ri
      | str _ => cases ri
      | tup xs => rw [RpF, Rp]; obtain ⟨b, vs, eb, ob, rd, q⟩ := ri; exact ⟨b, vs, eb, (k b _ ob rd).1, rd, Rps.move k q⟩
      | lst xs => rw [RpF, Rp]; obtain ⟨b, vs, eb, rd, q⟩ := ri; cases eb; exact ⟨a, vs, rfl, oa, rd, Rps.move k q⟩
      | dct xs us => rw [RpF, Rp]; obtain ⟨b, vs, eb, rd, ek, q⟩ := ri; cases eb; exact ⟨a, vs, rfl, oa, rd, ek, Rps.move k q⟩
      | obj c ns us => rw [RpF, Rp]; obtain ⟨b, C, dx, vs, eb, ec, rd, ek, q⟩ := ri; cases eb; exact ⟨a, C, dx, vs, rfl, oa, ec, rd, ek, Rps.move k q⟩
    have hr : a ∉ φ1.r := fun z => (hs1.res a z).2 (List.mem_of_getElem? ea)
    split at m2
    · rename_i hc
      refine m2 (φ1.take n) H1 v (g.take (by rw [hs.len]; exact Nat.le_of_eq hc.1.symm)) (hs1.take n) (fin _ (fun b u ob rd => ⟨off_take ob, rd⟩) ⟨fun z => ?_, hr⟩)
      obtain ⟨k, hk, ez⟩ := List.mem_iff_getElem.mp z
      have hk' : k < n := by rw [List.length_take] at hk; omega
      have ez' : φ1.m[k]? = some (some a) := by
        rw [← List.getElem?_take_of_lt hk', List.getElem?_eq_getElem hk, ez]
      have := hs1.inj k n a ez' ea
      omega
    · refine m2 (φ1.kill n) H1 v (g.trans Grow.kill) hs1.kill (fin _ (fun b u ob rd => ⟨off_set ob, rd⟩) ⟨fun z => ?_, hr⟩)
      obtain ⟨k, hk, ez⟩ := List.mem_iff_getElem.mp z
      have hk' : k < φ1.m.length := by rw [List.length_set] at hk; exact hk
      by_cases e : n = k
      · subst e
        rw [List.getElem_set_self] at ez
        cases ez
      · rw [List.getElem_set_ne e] at ez
        have ez' : φ1.m[k]? = some (some a) := by rw [List.getElem?_eq_getElem hk', ez]
        exact e (hs1.inj n k a ea ez')

/-! ### what is walked -/
/-- how a later state may differ -/
structure Mv (φ : Phi) (H : Hp) (φ' : Phi) (H' : Hp) : Prop where
  mv : ∀ a u, Off φ a → Rx H a u → Off φ' a ∧ Rx H' a u
  old : ∀ (n : Nat) (a : Addr), n < φ.m.length → φ'.m[n]? = some (some a) → φ.m[n]? = some (some a)
  len : φ.m.length ≤ φ'.m.length
theorem Grow.mv {φ φ' : Phi} {H H' : Hp} (g : Grow φ H φ' H') : Mv φ H φ' H' := ⟨fun _ _ o r => g.off o r, g.old, g.len⟩
theorem Mv.trans {φ φ1 φ2 : Phi} {H H1 H2 : Hp} (a : Mv φ H φ1 H1) (b : Mv φ1 H1 φ2 H2) : Mv φ H φ2 H2 :=
  ⟨fun x u o r => let z := a.mv x u o r; b.mv x u z.1 z.2, fun n x hn h => a.old n x hn (b.old n x (Nat.lt_of_lt_of_le hn a.len) h), Nat.le_trans a.len b.len⟩
theorem Mv.s {cl : Cl} {φ φ' : Phi} {H H' : Hp} (g : Mv φ H φ' H') {s : S} {v : V} (h : RpS cl φ H s v) : RpS cl φ' H' s v := by
  cases s with
  | t t => exact Rp.move g.mv h
  | r n => exact ⟨Nat.lt_of_lt_of_le h.1 g.len, fun a e => h.2 a (g.old n a h.1 e)⟩
theorem Mv.e {cl : Cl} {φ φ' : Phi} {H H' : Hp} (g : Mv φ H φ' H') {ρ : En} {σ : L2.St} (h : RpE cl φ H ρ σ) : RpE cl φ' H' ρ σ :=
  ⟨h.len, fun i s e => let ⟨v, e', r⟩ := h.get i s e; ⟨v, e', g.s r⟩⟩
theorem Mv.hold {φ : Phi} {H : Hp} {D : Addr} {o : HO} (n : H D = none) : Mv φ H (φ.hold D) (upd H D o) :=
  ⟨fun a u ob r => ⟨off_hold ob fun e => rd_some r (e ▸ n), rd_upd n r⟩, fun _ _ _ h => h, Nat.le_refl _⟩
/-- the model's iterator gives these items -/
structure Wk (cl : Cl) (φ : Phi) (H : Hp) (p : List T × Option (Nat × MO)) (J : L2.It) : Prop where
  len : p.1.length ≤ sizeLine
  go : ∀ φ' h' H' i t, Mv φ H φ' H' → Hs cl φ' h' H' → gOk p.2 h' = true → p.1[i]? = some t → J.go i H' ∧ ∀ x H'', J.yld i H' x H'' → Grow φ' H' φ' H'' ∧ Hs cl φ' h' H'' ∧ RpF cl φ' H'' t x
  stop : ∀ φ' h' H', Mv φ H φ' H' → Hs cl φ' h' H' → gOk p.2 h' = true → J.stop p.1.length H'
section
variable {cl : Cl} {φ : Phi} {H : Hp} {h : Hm} {K : PySem.W.Frag}
theorem wk_lst {xs : List T} {a : Addr} {vs : List V} (o : Off φ a) (rd : Rx H a (.lst vs)) (q : Rps cl (Off φ) H xs vs) (hz : vs.length ≤ sizeLine) : Wk cl φ H (xs, none) (Itl K a) where
  len := by rw [q.length]; exact hz
  go := fun φ' h' H' i t g hs _ e => by
    have rd' := (g.mv a _ o rd).2
    have q' := Rps.move g.mv q
    obtain ⟨v, ev, r⟩ := q'.getE e
    refine ⟨⟨vs, v, .inl rd'.rd, ev⟩, fun x H'' y => ?_⟩
    obtain ⟨e1, e2⟩ := y
    subst e1
    have := e2 vs (.inl rd'.rd)
    rw [ev] at this
    cases this
    exact ⟨Grow.refl _ _, hs, r⟩
  stop := fun φ' h' H' g hs _ => ⟨vs, .inl (g.mv a _ o rd).2.rd, by rw [q.length]; exact Nat.le_refl _⟩
theorem wk_tup {xs : List T} {a : Addr} {vs : List V} (o : Off φ a) (rd : Rx H a (.tup vs)) (q : Rps cl (Off φ) H xs vs) (hz : vs.length ≤ sizeLine) : Wk cl φ H (xs, none) (Itt K a) where
  len := by rw [q.length]; exact hz
  go := fun φ' h' H' i t g hs _ e => by
    have rd' := (g.mv a _ o rd).2
    have q' := Rps.move g.mv q
    obtain ⟨v, ev, r⟩ := q'.getE e
    refine ⟨⟨vs, v, .inl rd'.rd, ev⟩, fun x H'' y => ?_⟩
    obtain ⟨e1, e2⟩ := y
    subst e1
    have := e2 vs (.inl rd'.rd)
    rw [ev] at this
    cases this
    exact ⟨Grow.refl _ _, hs, r⟩
  stop := fun φ' h' H' g hs _ => ⟨vs, .inl (g.mv a _ o rd).2.rd, by rw [q.length]; exact Nat.le_refl _⟩
theorem wk_ref {xs : List T} {a : Addr} {n : Nat} (hs0 : Hs cl φ h H) (e0 : h[n]? = some (.lst xs)) (ea : φ.m[n]? = some (some a)) (hz : xs.length ≤ sizeLine) : Wk cl φ H (xs, some (n, .lst xs)) (Itl K a) where
  len := hz
  go := fun φ' h' H' i t g hs gd e => by
    have hn : n < φ.m.length := (List.getElem?_eq_some_iff.mp ea).1
    simp only [gOk] at gd
    cases eh : h'[n]? with
    | none => rw [eh] at gd; cases gd
    | some o' =>
      rw [eh] at gd
      have := MO.beq_eq gd
      subst this
      rcases hs.get n _ eh with ⟨z, _⟩ | ⟨b, eb, w, hw, q⟩
      · cases z
      · have := g.old n b hn eb
        rw [ea] at this
        cases this
        obtain ⟨v, ev, r⟩ := q.getE e
        refine ⟨⟨w, v, .inl (.inl hw), ev⟩, fun x H'' y => ?_⟩
        obtain ⟨e1, e2⟩ := y
        subst e1
        have := e2 w (.inl (.inl hw))
        rw [ev] at this
        cases this
        exact ⟨Grow.refl _ _, hs, r⟩
  stop := fun φ' h' H' g hs gd => by
    have hn : n < φ.m.length := (List.getElem?_eq_some_iff.mp ea).1
    simp only [gOk] at gd
    cases eh : h'[n]? with
    | none => rw [eh] at gd; cases gd
    | some o' =>
      rw [eh] at gd
      have := MO.beq_eq gd
      subst this
      rcases hs.get n _ eh with ⟨z, _⟩ | ⟨b, eb, w, hw, q⟩
      · cases z
      · have := g.old n b hn eb
        rw [ea] at this
        cases this
        exact ⟨w, .inl (.inl hw), by rw [q.length]; exact Nat.le_refl _⟩
theorem wk_str {x : Str} (hz : x.length ≤ sizeLine) : Wk cl φ H (chrs x, none) (Its x) where
  len := by simp only [chrs, List.length_map, Array.length_toList]; exact hz
  go := fun φ' h' H' i t g hs _ e => by
    simp only [chrs, List.getElem?_map, Array.getElem?_toList, Option.map_eq_some_iff] at e
    obtain ⟨c, ec, et⟩ := e
    subst et
    refine ⟨(Array.getElem?_eq_some_iff.mp ec).1, fun y H'' z => ?_⟩
    obtain ⟨e1, c', e2, e3⟩ := z
    subst e1
    rw [ec] at e2
    cases e2
    exact ⟨Grow.refl _ _, hs, by rw [RpF, Rp]; exact e3⟩
  stop := fun φ' h' H' g hs _ => by
    show x.cps.size ≤ (chrs x).length
    simp only [chrs, List.length_map, Array.length_toList]
    exact Nat.le_refl _
theorem wk_rng {lo hi : Int} (hz : (hi - lo).toNat ≤ sizeLine) : Wk cl φ H (rngT lo (hi - lo).toNat, none) (Itr lo (hi - lo).toNat) where
  len := by simp only [rngT, List.length_map, List.length_range]; exact hz
  go := fun φ' h' H' i t g hs _ e => by
    simp only [rngT, List.getElem?_map, Option.map_eq_some_iff] at e
    obtain ⟨c, ec, et⟩ := e
    subst et
    have hi' := (List.getElem?_eq_some_iff.mp ec).1
    rw [List.getElem?_eq_getElem hi'] at ec
    simp only [List.getElem_range, Option.some.injEq] at ec
    subst ec
    rw [List.length_range] at hi'
    refine ⟨hi', fun y H'' z => ?_⟩
    obtain ⟨e1, e2⟩ := z
    subst e1
    exact ⟨Grow.refl _ _, hs, by rw [RpF, Rp]; exact e2⟩
  stop := fun φ' h' H' g hs _ => by
    show _ ≤ (rngT lo (hi - lo).toNat).length
    simp only [rngT, List.length_map, List.length_range]
    exact Nat.le_refl _
end
abbrev tI (Z : Zs) (W : WX) (it : It) : TI := tG Z W (Wk Z.cl) fun ρ h => evIt Z.G Z.C ρ h it
theorem pi_weak {tg e : Expr} {t t' : TI} (h : PI X tg e t) (k : ∀ σ H R, t' σ H R → t σ H R) : PI X tg e t' := ⟨fun pins s σ H R I q => h.run pins s σ H R I (k σ H R q)⟩
/-- a list, a tuple or a text -/
theorem pi_seq {tg l : Expr} {tl : TE} (hl : PE X l tl) : PI X tg l (fun σ H R => tl σ H fun x H1 => (∃ a xs, x = .ref a ∧ xs.length = xs.length ∧ SqL X.K H1 a xs ∧ (xs.length ≤ sizeLine → R (Itl X.K a) H1)) ∨ (∃ a xs, x = .ref a ∧ SqT X.K H1 a xs ∧ (xs.length ≤ sizeLine → R (Itt X.K a) H1)) ∨ ∃ y, x = .str y ∧ R (Its y) H1) := by
  refine ⟨fun pins s σ H R I h => thn (hl.run pins s σ H _ I h) fun v s1 ⟨x, H1, I1, r1, q1⟩ => ?_⟩
  have new : ∀ b ∈ [s1.heap.objs.size], FpOk X pins H1 b := fun b hb => by
    rw [List.mem_singleton.mp hb]
    exact I1.fpOk (Nat.le_refl _) (I1.hok.fresh (Nat.le_refl _))
  have kept : ∀ ob : Obj, Inv X pins σ H1 { s1 with heap := s1.heap.push ob } := fun ob => I1.kept (t' := s1.toks) fun b o e => Heap.get?_push_of_some _ e
  rcases q1 with ⟨a, xs, ex, _, hq, q⟩ | ⟨a, xs, ex, hq, q⟩ | ⟨y, ex, q⟩
  · subst ex
    cases r1
    obtain ⟨its, rv, pl, hz⟩ := I1.list hq
    exact wpAny_pyIter_list pl.isList ⟨_, _, _, _, H1, rfl, kept _, turn_list a _, ⟨_, Heap.get?_push_size _ rfl, rfl, rfl⟩, new, q hz⟩
  · subst ex
    cases r1
    obtain ⟨its, rv, pl, hz⟩ := I1.tuple hq
    exact wpAny_pyIter_tuple (show s1.heap.IsTuple a its.toArray from pl) ⟨_, _, _, _, H1, rfl, kept _, turn_tuple a _, ⟨_, Heap.get?_push_size _ rfl, rfl, rfl⟩, new, q hz⟩
  · subst ex
    obtain ⟨tk, rfl⟩ := r1
    by_cases ha : y.cps.all (· < 128) = true
    · exact wpAny_pyIter_ascii ha (pi_one (tk := s1.toks) I1 _ (turn_str _ y tk "str_ascii_iterator" (.inl rfl)) ⟨_, Heap.get?_push_size _ rfl, rfl, rfl⟩ q)
    · exact wpAny_pyIter_wide (by simpa using ha) (pi_one (tk := s1.toks) I1 _ (turn_str _ y tk "str_iterator" (.inr rfl)) ⟨_, Heap.get?_push_size _ rfl, rfl, rfl⟩ q)
theorem si_of {tg e : Expr} {m : E} (he : PE X e (tE Z W m)) : PI X tg e (tI Z W (.of m)) :=
  pi_weak (pi_seq he) fun σ H R t => by
    refine t.seq (rel' := RpS Z.cl) (f := fun s ρ h1 => liftO (itemsOf s h1) h1) (fun ρ h => by simp only [evIt]) fun s h1 φ1 H1 x ρ re hs r m => ?_
    cases s with
    | t v =>
      cases v with
      | non | bl _ | int _ | dct _ _ | obj _ _ _ => exact m.elim
      | lst xs =>
        have r' : RpF Z.cl φ1 H1 (.lst xs) x := r
        rw [RpF, Rp] at r'
        obtain ⟨a, vs, ex, o, rd, q⟩ := r'
        exact .inl ⟨a, vs, ex, rfl, .inl rd.rd, fun hz => m φ1 H1 _ (Grow.refl _ _) hs (wk_lst o rd q hz)⟩
      | tup xs =>
        have r' : RpF Z.cl φ1 H1 (.tup xs) x := r
        rw [RpF, Rp] at r'
        obtain ⟨a, vs, ex, o, rd, q⟩ := r'
        exact .inr (.inl ⟨a, vs, ex, .inl rd.rd, fun hz => m φ1 H1 _ (Grow.refl _ _) hs (wk_tup o rd q hz)⟩)
      | str y =>
        have r' : RpF Z.cl φ1 H1 (.str y) x := r
        rw [RpF, Rp] at r'
        simp only [itemsOf] at m
        split at m
        · exact .inr (.inr ⟨y, r', m φ1 H1 _ (Grow.refl _ _) hs (wk_str (lim_le (by assumption)))⟩)
        · exact m.elim
    | r n =>
      simp only [itemsOf] at m
      cases eh : h1[n]? with
      | none => rw [eh] at m; exact m.elim
      | some o =>
        rw [eh] at m
        cases o <;> first | exact m.elim | skip
        rename_i xs
        obtain ⟨a, ex, ea, w, hw, q⟩ := at_ref hs r eh (by intro z; cases z)
        exact .inl ⟨a, w, ex, rfl, .inl (.inl hw), fun hz => m φ1 H1 _ (Grow.refl _ _) hs (wk_ref hs eh ea (by rw [q.length]; exact hz))⟩
theorem rng_ok {lo hi : Int} {p : List T × Option (Nat × MO)} (e : rngO lo hi = some p) : -(2 ^ 62) ≤ lo ∧ lo < 2 ^ 62 ∧ -(2 ^ 62) ≤ hi ∧ hi < 2 ^ 62 ∧ (hi - lo).toNat ≤ sizeLine ∧ p = (rngT lo (hi - lo).toNat, none) := by
  unfold rngO at e
  split at e
  · rename_i hc
    simp only [Bool.and_eq_true, decide_eq_true_eq] at hc
    cases e
    exact ⟨hc.1.1.1.1, hc.1.1.1.2, hc.1.1.2, hc.1.2, lim_le hc.2, rfl⟩
  · cases e
variable {a b : Expr} {ma mb : E} {p pos : Pos} {tg : Expr}
theorem si_rng1 (hg : Gl X "range") (hm : X.mg "range" = none) (ha : PA X [a] (tL Z W [ma])) (hs : starEach [a] X.env = [(false, eval a X.env)]) : PI X tg (.Call (.Name "range" p) [a] [] pos) (tI Z W (.rng1 ma)) :=
  pi_weak (pi_range1 hg hm ha hs) fun σ H R t => by
    refine t.seq (rel' := RpSs Z.cl) (f := fun ss ρ h1 => match ss with | [.t (.int i)] => liftO (rngO 0 i) h1 | _ => .bad) (fun ρ h => ?_) fun ss h1 φ1 H1 vs ρ re hs r m => ?_
    · simp only [evIt, evS]
      cases evE Z.G Z.C ρ h ma with
      | ok s h1 =>
        cases s with
        | r n => rfl
        | t v => cases v <;> rfl
      | ex _ _ _ => rfl
      | bad => rfl
    · rcases ss with _ | ⟨s, _ | ⟨_, _⟩⟩
      · exact m.elim
      · cases s with
        | r n => exact m.elim
        | t v =>
          cases v <;> first | exact m.elim | skip
          rename_i i
          obtain ⟨v, r', ev, r1, e2⟩ := r
          cases e2
          subst ev
          have hv := int_v r1
          subst hv
          dsimp only at m
          cases e : rngO 0 i with
          | none => rw [e] at m; exact m.elim
          | some p =>
            rw [e] at m
            obtain ⟨h1', h2', h3', h4', h5', ep⟩ := rng_ok e
            subst ep
            have k := m φ1 H1 _ (Grow.refl _ _) hs (wk_rng h5')
            rw [Int.sub_zero] at k
            exact ⟨i, rfl, h3', h4', k⟩
      · cases s with
        | r n => exact m.elim
        | t v => cases v <;> exact m.elim
theorem si_rng2 (hg : Gl X "range") (hm : X.mg "range" = none) (ha : PA X [a, b] (tL Z W [ma, mb])) (hs : starEach [a, b] X.env = [(false, eval a X.env), (false, eval b X.env)]) (hs2 : starEach [b] X.env = [(false, eval b X.env)]) : PI X tg (.Call (.Name "range" p) [a, b] [] pos) (tI Z W (.rng2 ma mb)) :=
  pi_weak (pi_range2 hg hm ha hs hs2) fun σ H R t => by
    refine t.seq (rel' := RpSs Z.cl) (f := fun ss ρ h1 => match ss with | [.t (.int i), .t (.int j)] => liftO (rngO i j) h1 | _ => .bad) (fun ρ h => ?_) fun ss h1 φ1 H1 vs ρ re hs r m => ?_
    · simp only [evIt, evS]
      cases evE Z.G Z.C ρ h ma with
      | ok s h1 =>
        simp only [My.R.bind_ok]
        cases evE Z.G Z.C ρ h1 mb with
        | ok u h2 =>
          simp only [My.R.bind_ok]
          cases s with
          | r n => rfl
          | t v => cases v <;> first | rfl | (cases u with | r n => rfl | t w => cases w <;> rfl)
        | ex _ _ _ => rfl
        | bad => rfl
      | ex _ _ _ => rfl
      | bad => rfl
    · have key : ∃ i j, ss = [.t (.int i), .t (.int j)] := by
        revert m
        split
        · intro _; exact ⟨_, _, rfl⟩
        · intro m; exact m.elim
      obtain ⟨i, j, es⟩ := key
      subst es
      obtain ⟨v, r', ev, r1, v2, r2', e2, r2, e3⟩ := r
      cases e3
      subst e2
      subst ev
      have hv := int_v r1
      have hv2 := int_v r2
      subst hv
      subst hv2
      dsimp only at m
      cases e : rngO i j with
      | none => rw [e] at m; exact m.elim
      | some p =>
        rw [e] at m
        obtain ⟨h1', h2', h3', h4', h5', ep⟩ := rng_ok e
        subst ep
        exact ⟨i, j, rfl, ⟨h1', h2', h3', h4'⟩, m φ1 H1 _ (Grow.refl _ _) hs (wk_rng h5')⟩

/-! ### targets -/
def Tg.slots : Tg → List Nat
  | .name i => [i]
  | .tup is => is
theorem wipe_set (σ : L2.St) (i : Nat) (x : Option V) : ∀ vs : List Nat, L2.wipe (σ.set i x) vs = if i ∈ vs then L2.wipe σ vs else (L2.wipe σ vs).set i x
  | [] => by simp [L2.wipe]
  | v :: vs => by
    have ih := wipe_set σ i x vs
    unfold L2.wipe
    rw [ih]
    by_cases h : i ∈ vs
    · rw [if_pos h, if_pos (List.mem_cons_of_mem _ h)]
    · rw [if_neg h]
      by_cases e : i = v
      · subst e
        rw [if_pos List.mem_cons_self, List.set_set]
      · rw [if_neg (by simp [e, h]), List.set_comm _ _ e]
abbrev Same' (is : List Nat) (σ σ' : L2.St) : Prop := ∀ vs, (∀ i ∈ is, i ∈ vs) → L2.wipe σ' vs = L2.wipe σ vs
abbrev tTg (Z : Zs) (W : WX) (tg : Tg) : TG := fun v σ H Q => ∃ φ h ρ s ρ', RpE Z.cl φ H ρ σ ∧ Hs Z.cl φ h H ∧ RpS Z.cl φ H s v ∧ setTg tg s ρ = some ρ' ∧
  ∀ φ' H' σ', Grow φ H φ' H' → Hs Z.cl φ' h H' → RpE Z.cl φ' H' ρ' σ' → Same' tg.slots σ σ' → Q σ' H'
theorem pg_weak {tg : Expr} {t t' : TG} (h : PG X tg t) (k : ∀ v σ H Q, t' v σ H Q → t v σ H Q) : PG X tg t' := ⟨fun pins s σ H v u Q I r q => h.run pins s σ H v u Q I r (k v σ H Q q)⟩
theorem RpE.set {cl : Cl} {φ : Phi} {H : Hp} {ρ : En} {σ : L2.St} {i : Nat} {s : S} {v : V} (r : RpE cl φ H ρ σ) (q : RpS cl φ H s v) : RpE cl φ H (ρ.set i (some s)) (σ.set i (some v)) where
  len := by simp [r.len]
  get := fun j u e => by
    by_cases h : i = j
    · subst h
      by_cases hi : i < ρ.length
      · rw [List.getElem?_set_self hi] at e
        cases e
        exact ⟨v, List.getElem?_set_self (by rw [← r.len]; exact hi), q⟩
      · rw [List.getElem?_eq_none (by simp; omega)] at e; cases e
    · rw [List.getElem?_set_ne h] at e
      rw [List.getElem?_set_ne h]
      exact r.get j u e
theorem sg_name {i : Nat} {x : Str} {px : Pos} (hN : X.N.Nodup) (hi : X.N[i]? = some x) (hx : Loc X.env.scope x) (hf : X.fn x = true ∨ X.env.scope.names.lookup x = some .local) : PG X (.Name x px) (tTg Z W (.name i)) :=
  pg_weak (pg_name hN hi hx hf) fun v σ H Q ⟨φ, h, ρ, s, ρ', re, hs, r, e, k⟩ => by
    cases e
    exact k φ H _ (Grow.refl _ _) hs (re.set r) fun vs hv => by rw [wipe_set, if_pos (hv i (by simp [Tg.slots]))]
/-- several names -/
def setTs : List Nat → List T → En → En
  | i :: is, t :: ts, ρ => setTs is ts (ρ.set i (some (.t t)))
  | _, _, ρ => ρ
theorem setTs_eq : ∀ (is : List Nat) (ts : List T) (ρ : En), (List.zip is ts).foldl (fun ρ p => ρ.set p.1 (some (.t p.2))) ρ = setTs is ts ρ
  | [], _, _ => by simp [setTs]
  | _ :: _, [], _ => by simp [setTs]
  | i :: is, t :: ts, ρ => by simp only [List.zip_cons_cons, List.foldl_cons, setTs]; exact setTs_eq is ts _
abbrev tTgs (Z : Zs) (is : List Nat) : TGs := fun vs σ H Q => ∃ φ h ρ ts, RpE Z.cl φ H ρ σ ∧ Hs Z.cl φ h H ∧ Rps Z.cl (Off φ) H ts vs ∧ ts.length = is.length ∧
  ∀ σ', RpE Z.cl φ H (setTs is ts ρ) σ' → Same' is σ σ' → Q σ' H
theorem pgs_weak {tg : List Expr} {t t' : TGs} (h : PGs X tg t) (k : ∀ v σ H Q, t' v σ H Q → t v σ H Q) : PGs X tg t' := ⟨fun pins s σ H v u Q I r q => h.run pins s σ H v u Q I r (k v σ H Q q)⟩
theorem sgs_nil : PGs X [] (tTgs Z []) := pgs_weak pgs_nil fun v σ H Q ⟨φ, h, ρ, ts, re, hs, r, e, k⟩ => by
  cases ts with
  | cons _ _ => cases e
  | nil => exact ⟨r.inv0, k σ re fun _ _ => rfl⟩
theorem sgs_cons {i : Nat} {x : Str} {px : Pos} {es : List Expr} {is : List Nat} (hN : X.N.Nodup) (hi : X.N[i]? = some x) (hx : Loc X.env.scope x) (hf : X.fn x = true ∨ X.env.scope.names.lookup x = some .local) (h : PGs X es (tTgs Z is)) :
    PGs X (.Name x px :: es) (tTgs Z (i :: is)) := pgs_weak (pgs_cons (pg_name hN hi hx hf) h) fun v σ H Q ⟨φ, h, ρ, ts, re, hs, r, e, k⟩ => by
  cases ts with
  | nil => cases e
  | cons t ts =>
    obtain ⟨v', r', ev, p, q⟩ := r.inv
    exact ⟨v', r', ev, φ, h, _, ts, re.set (s := .t t) p, hs, q, by simpa using e, fun σ' re' sm => k σ' re' fun vs hv => by
      rw [sm vs fun j hj => hv j (List.mem_cons_of_mem _ hj), wipe_set, if_pos (hv i List.mem_cons_self)]⟩
theorem sg_tup {es : List Expr} {is : List Nat} {kk : Nat} {px : Pos} (hc : X.calm = true) (h : PGs X es (tTgs Z is)) (hn : (assignEach es X.env).length = is.length) (hst : (assignEach es X.env).findIdx? (·.1) = none) :
    PG X (.Tuple es kk px) (tTg Z W (.tup is)) := pg_weak (pg_tup (n := is.length) hc h hn hst) fun v σ H Q ⟨φ, h, ρ, s, ρ', re, hs, r, e, k⟩ => by
  simp only [setTg] at e
  cases s with
  | r n => cases e
  | t u =>
    cases u <;> first | (cases e; done) | skip
    rename_i xs
    dsimp only at e
    split at e
    · rename_i hl
      cases e
      have r' : RpF Z.cl φ H (.tup xs) v := r
      rw [RpF, Rp] at r'
      obtain ⟨a, vs, ev, o, rd, q⟩ := r'
      refine ⟨a, vs, ev, .inl rd.rd, by rw [← q.length]; exact hl, φ, h, ρ, xs, re, hs, q, hl, fun σ' re' sm => ?_⟩
      rw [← setTs_eq] at re'
      exact k φ H σ' (Grow.refl _ _) hs re' sm
    · cases e

/-! ### comprehensions -/
theorem RpE.wipe {cl : Cl} {φ : Phi} {H : Hp} {ρ : En} {σ : L2.St} (r : RpE cl φ H ρ σ) : ∀ vs : List Nat, RpE cl φ H (wipeE ρ vs) (L2.wipe σ vs)
  | [] => r
  | v :: vs => by
    have ih := RpE.wipe r vs
    unfold wipeE L2.wipe
    refine ⟨by simp [ih.len], fun i s e => ?_⟩
    by_cases h : v = i
    · subst h
      by_cases hi : v < (wipeE ρ vs).length
      · rw [List.getElem?_set_self hi] at e; cases e
      · rw [List.getElem?_eq_none (by simp; omega)] at e; cases e
    · rw [List.getElem?_set_ne h] at e
      rw [List.getElem?_set_ne h]
      exact ih.get i s e
abbrev tCs (Z : Zs) (W : WX) (cs : List E) : TT := tG Z W eqB fun ρ h => evCs Z.G Z.C ρ h cs
/-- what a turn of a comprehension does -/
def turnE (G : Ctx) (C : Orc) (ρ : En) (own : List Nat) (tg : Tg) (cs : List E) (e : E) (x : T) (h : Hm) : R (Option T) :=
  (liftO (setTg tg (.t x) (wipeE ρ own)) h).bind fun ρ1 h => (evCs G C ρ1 h cs).bind fun k h1 => if k then (evE G C ρ1 h1 e).bind fun s h2 => (asT s h2).bind fun v h2 => .ok (some v) h2 else .ok none h1
theorem Grow.dropD {φ φ' : Phi} {H H' : Hp} (g : Grow φ H φ' H') : Grow φ.drop H φ'.drop H' := ⟨g.len, g.old, g.new, g.keep, by show φ'.r.tail = φ.r.tail; rw [g.res]⟩
theorem Grow.writeD {φ φ' : Phi} {H H' : Hp} {D : Addr} {o : HO} (g : Grow φ H φ' H') (n : H D = none) : Grow φ H φ' (upd H' D o) :=
  ⟨g.len, g.old, g.new, fun a u h r => by
    have ne : a ≠ D := fun e => by rw [e, n] at r; cases r
    rw [upd_ne ne]; exact g.keep a u h r, g.res⟩
theorem Mv.writeD {φ : Phi} {H : Hp} {D : Addr} {o : HO} (m : D ∈ φ.r) : Mv φ H φ (upd H D o) := ⟨fun a u ob r => ⟨ob, rd_write (r := r) fun e => ob.2 (e ▸ m)⟩, fun _ _ _ h => h, Nat.le_refl _⟩
abbrev W0 : WX := fun _ _ _ _ => False
/-- where a comprehension stands between two turns -/
structure CompI (Z : Zs) (W : WX) (σ : L2.St) (g : Option (Nat × MO)) (f : T → Hm → R (Option T)) (its : List T) (φ1 : Phi) (H1 : Hp) (D : Addr) (Q : VK) (i m : Nat) (H : Hp) : Prop where
  le : i ≤ its.length
  me : m = its.length - i
  ex : ∃ (φ' : Phi) (h' : Hm) (acc : List V) (accT : List T), Mv φ1 H1 φ' H ∧ Hs Z.cl φ' h' H ∧ φ'.r = D :: φ1.r ∧ H D = some (.lst acc) ∧ Rps Z.cl (Off φ') H accT acc ∧ acc.length ≤ i ∧ Grow φ1 H1 φ'.drop H ∧
    MW Z.cl Z.xr (RpS Z.cl) W σ φ1 H1 ((noEx (compL g f (its.drop i) h')).bind fun ys h2 => .ok (.t (.lst (accT ++ ys))) h2) Q
theorem evComp {own : List Nat} {tg : Tg} {it : It} {cs : List E} {e : E} (hsl : ∀ i ∈ tg.slots, i ∈ own) {σ : L2.St} {H : Hp} {Q : VK} (t : tE Z W (.comp own tg it cs e) σ H Q) :
    tLc (tI Z W it) (tTg Z W0 tg) (tCs Z W0 cs) (tE Z W0 e) own σ H Q := by
  refine t.seq (rel' := Wk Z.cl) (f := fun p ρ h1 => (noEx (compL p.2 (turnE Z.G Z.C ρ own tg cs e) p.1 h1)).bind fun ys h2 => .ok (.t (.lst ys)) h2) (fun ρ h => by simp only [evE]; rfl) fun p h1 φ1 H1 J ρ re hs wk m => ?_
  intro D nD
  have nDr : D ∉ φ1.r := fun z => (hs.res D z).1 nD
  refine ⟨CompI Z W σ p.2 (turnE Z.G Z.C ρ own tg cs e) p.1 φ1 H1 D Q, ⟨p.1.length, Nat.zero_le _, rfl, φ1.hold D, h1, [], [], Mv.hold nD, hs.hold nD, rfl, upd_same, .nil, Nat.le_refl _, ?_, by simpa using m⟩, ?_⟩
  · exact Grow.writeD (Grow.refl φ1 H1) nD
  rintro i k H2 ⟨hle, hk, φ', h', acc, accT, mv, hs', er, eD, rA, hacc, gr, m'⟩
  have hDm : some D ∉ φ'.m := (hs'.res D (by rw [er]; exact List.mem_cons_self)).2
  by_cases hlt : i < p.1.length
  · have ed : p.1.drop i = p.1[i] :: p.1.drop (i + 1) := List.drop_eq_getElem_cons hlt
    rw [ed] at m'
    simp only [compL] at m'
    by_cases gd : gOk p.2 h' = true
    · rw [if_pos gd] at m'
      obtain ⟨go, yl⟩ := wk.go φ' h' H2 i _ mv hs' gd (List.getElem?_eq_getElem hlt)
      refine .inr ⟨go, CompI Z W σ p.2 (turnE Z.G Z.C ρ own tg cs e) p.1 φ1 H1 D Q (i + 1) (p.1.length - (i + 1)), fun H' w => ⟨_, by omega, w⟩, fun x H3 hy => ?_⟩
      obtain ⟨g3, hs3, rx⟩ := yl x H3 hy
      generalize p.1[i] = t at m' rx
      simp only [turnE] at m'
      cases es : setTg tg (.t t) (wipeE ρ own) with
      | none => rw [es] at m'; exact m'.elim
      | some ρ1 =>
        rw [es] at m'
        simp only [liftO_some, R.bind_ok] at m'
        refine ⟨φ', h', wipeE ρ own, .t t, ρ1, (g3.mv.e (mv.e re)).wipe own, hs3, rx, es, fun φ4 H4 σ4 g4 hs4 re4 sm => ⟨?_, φ4, h', ρ1, re4, hs4, ?_⟩⟩
        · rw [sm own hsl]
          have : ∀ vs : List Nat, L2.wipe (L2.wipe σ vs) vs = L2.wipe σ vs := fun vs => by
            refine List.ext_getElem? fun j => ?_
            have key : ∀ (τ : L2.St) (us : List Nat), (L2.wipe τ us)[j]? = if j ∈ us then (τ[j]?).map (fun _ => none) else τ[j]? := fun τ us => by
              induction us with
              | nil => simp [L2.wipe]
              | cons u us ih =>
                unfold L2.wipe
                by_cases hj : u = j
                · subst hj
                  rw [if_pos List.mem_cons_self]
                  by_cases hl : u < τ.length
                  · rw [List.getElem?_set_self (by rw [L2.wipe_length]; exact hl), List.getElem?_eq_getElem hl]; rfl
                  · rw [List.getElem?_eq_none (by rw [List.length_set, L2.wipe_length]; omega), List.getElem?_eq_none (by omega)]; rfl
                · rw [List.getElem?_set_ne hj, ih]
                  by_cases h2 : j ∈ us
                  · rw [if_pos h2, if_pos (List.mem_cons_of_mem _ h2)]
                  · rw [if_neg h2, if_neg (by simp [h2]; exact fun z => hj z.symm)]
            rw [key, key]
            split
            · rename_i hh; cases σ[j]? <;> rfl
            · rfl
          exact this own
        · cases ec : evCs Z.G Z.C ρ1 h' cs with
          | ex c fs hh => rw [ec] at m'; exact m'.elim
          | bad => rw [ec] at m'; exact m'.elim
          | ok kb h5 =>
            rw [ec] at m'
            simp only [R.bind_ok] at m'
            show MW Z.cl Z.xr eqB W0 σ4 φ4 H4 (evCs Z.G Z.C ρ1 h' cs) _
            rw [ec]
            intro φ5 H5 b g5 hs5 eb
            cases eb
            have gA : Grow φ' H2 φ5 H5 := (g3.trans g4).trans g5
            cases kb with
            | false =>
              simp only [Bool.false_eq_true, if_false, R.bind_ok] at m' ⊢
              refine ⟨hlt, rfl, φ5, h5, acc, accT, mv.trans gA.mv, hs5, gA.res.trans er, gA.keep D _ hDm eD, gA.rps rA, Nat.le_succ_of_le hacc, gr.trans gA.dropD, ?_⟩
              revert m'
              cases compL p.2 (turnE Z.G Z.C ρ own tg cs e) (p.1.drop (i + 1)) h5 <;> exact id
            | true =>
              simp only [if_true] at m' ⊢
              refine ⟨φ5, h5, ρ1, g5.e re4, hs5, ?_⟩
              show MW Z.cl Z.xr (RpS Z.cl) W0 σ4 φ5 H5 (evE Z.G Z.C ρ1 h5 e) _
              cases ee : evE Z.G Z.C ρ1 h5 e with
              | ex c fs hh => rw [ee] at m'; exact m'.elim
              | bad => rw [ee] at m'; exact m'.elim
              | ok s h6 =>
                rw [ee] at m'
                simp only [R.bind_ok] at m'
                intro φ6 H6 y g6 hs6 ry
                cases s with
                | r n => exact m'.elim
                | t v =>
                  simp only [asT, R.bind_ok] at m'
                  have gB : Grow φ' H2 φ6 H6 := gA.trans g6
                  have er6 : φ6.r = D :: φ1.r := gB.res.trans er
                  have hD6 : D ∈ φ6.r := by rw [er6]; exact List.mem_cons_self
                  have hlen : p.1.length ≤ sizeLine := wk.len
                  refine ⟨acc, gB.keep D _ hDm eD, by omega, hlt, rfl, φ6, h6, acc ++ [y], accT ++ [v], (mv.trans gB.mv).trans (Mv.writeD hD6), hs6.writeR hD6, er6, upd_same, ?_, by simp; omega, Grow.writeD (gr.trans gB.dropD) nD, ?_⟩
                  · exact Rps.move (Mv.writeD hD6).mv (Rps.append (gB.rps rA) (.cons ry .nil))
                  · revert m'
                    cases compL p.2 (turnE Z.G Z.C ρ own tg cs e) (p.1.drop (i + 1)) h6 with
                    | ok ys h7 =>
                      intro m'
                      have m2 : MW Z.cl Z.xr (RpS Z.cl) W σ φ1 H1 (.ok (.t (.lst (accT ++ (v :: ys)))) h7) Q := m'
                      show MW Z.cl Z.xr (RpS Z.cl) W σ φ1 H1 (.ok (.t (.lst ((accT ++ [v]) ++ ys))) h7) Q
                      rw [List.append_assoc]
                      exact m2
                    | ex c fs hh => exact id
                    | bad => exact id
    · rw [if_neg gd] at m'; exact m'.elim
  · have hi : i = p.1.length := by omega
    subst hi
    rw [List.drop_length] at m'
    simp only [compL] at m'
    by_cases gd : gOk p.2 h' = true
    · rw [if_pos gd] at m'
      refine .inl ⟨wk.stop φ' h' H2 mv hs' gd, ?_⟩
      have m2 : MW Z.cl Z.xr (RpS Z.cl) W σ φ1 H1 (.ok (.t (.lst (accT ++ []))) h') Q := m'
      rw [List.append_nil] at m2
      refine m2 φ'.drop H2 _ gr hs'.drop ?_
      show RpF Z.cl φ'.drop H2 (.lst accT) (.ref D)
      rw [RpF, Rp]
      exact ⟨D, acc, rfl, ⟨hDm, by show D ∉ φ'.r.tail; rw [er]; exact nDr⟩, .inl eD, Rps.move (fun b u ob r => ⟨off_drop ob, r⟩) rA⟩
    · rw [if_neg gd] at m'; exact m'.elim
end
end My

/-! MiniPy: statements are right, one construct at a time. -/
namespace My
open PySem L2 PyProof.Rows
section
variable {X : Cx} {Z : Zs} {W : WX}
/-! ### comprehensions as values -/
theorem s_comp {own : List (Str × Nat)} {tg : Tg} {it : It} {cs : List E} {e : E} {elt tgE iter : Expr} {ifs : List Expr} {scope : Scope} {pos : Pos} (hc : X.calm = true) (hN : X.N.Nodup) (hi : PI X tgE iter (tI Z W it)) (ok : BlkOk X.N X.env.scope scope own)
    (hg : ∀ (s : Shared) (H : Hp) (C : Addr) (cl : List (Str × Addr)) (fp : List Addr), PG (X.blk s H scope (compEnvC scope cl C X.env) fp) tgE (tTg Z W0 tg))
    (ht : ∀ (s : Shared) (H : Hp) (C : Addr) (cl : List (Str × Addr)) (fp : List Addr), PTs (X.blk s H scope (compEnvC scope cl C X.env) fp) ifs (tCs Z W0 cs))
    (he : ∀ (s : Shared) (H : Hp) (C : Addr) (cl : List (Str × Addr)) (fp : List Addr), PE (X.blk s H scope (compEnvC scope cl C X.env) fp) elt (tE Z W0 e))
    (hsl : ∀ i ∈ tg.slots, i ∈ own.map (·.2)) (hf : ∀ x, foldedSetIterable iter X.env x = pure x) :
    PE X (.ListComp elt [⟨tgE, iter, ifs, 0⟩] scope pos) (tE Z W (.comp (own.map (·.2)) tg it cs e)) := pe_weak (pe_lc hc hN hi ok hg ht he hf) fun _ _ _ t => evComp hsl t
theorem spt_nil : PTs X [] (tCs Z W []) := ⟨fun pins s σ H Q I ⟨φ, h, ρ, re, hs, m⟩ => pts_nil.run pins s σ H Q I (m φ H true (Grow.refl _ _) hs rfl)⟩
theorem spt_one {c : Expr} {mc : E} (h : PT X c (tB' Z W mc)) : PTs X [c] (tCs Z W [mc]) := ⟨fun pins s σ H Q I t => (pts_one h).run pins s σ H Q I (by
  refine t.seq (rel' := eqB) (f := fun b ρ h1 => if b then evCs Z.G Z.C ρ h1 [] else .ok false h1) (fun ρ h => ?_) fun k h1 φ1 H1 x ρ re hs r m => ?_
  · simp only [evCs, evB]
    cases evE Z.G Z.C ρ h mc with
    | ok s h1 => cases s with
      | r n => rfl
      | t v => cases v <;> rfl
    | ex _ _ _ => rfl
    | bad => rfl
  · cases r
    cases k with
    | true => exact m φ1 H1 true (Grow.refl _ _) hs rfl
    | false => exact m φ1 H1 false (Grow.refl _ _) hs rfl)⟩

/-! ### what is owed by a statement -/
def DW (Z : Zs) (W : WX) (D : Ends) (φ : Phi) (H : Hp) : Out → Prop
  | .nx ρ h => ∀ φ' H' σ', Grow φ H φ' H' → Hs Z.cl φ' h H' → RpE Z.cl φ' H' ρ σ' → D.nx σ' H'
  | .rt s h => ∀ φ' H' v, Grow φ H φ' H' → Hs Z.cl φ' h H' → RpS Z.cl φ' H' s v → D.rt v H'
  | .bk ρ h => ∀ φ' H' σ', Grow φ H φ' H' → Hs Z.cl φ' h H' → RpE Z.cl φ' H' ρ σ' → D.bk σ' H'
  | .ct ρ h => ∀ φ' H' σ', Grow φ H φ' H' → Hs Z.cl φ' h H' → RpE Z.cl φ' H' ρ σ' → D.ct σ' H'
  | .ex c fs ρ h => ∀ φ' H' k d σ', Grow φ H φ' H' → Hs Z.cl φ' h H' → RpE Z.cl φ' H' ρ σ' → Z.xr φ' H' c fs k d → W k d σ' H'
  | .bad => False
theorem DW.grow {D : Ends} {φ φ1 : Phi} {H H1 : Hp} {o : Out} (m : DW Z W D φ H o) (g : Grow φ H φ1 H1) : DW Z W D φ1 H1 o := by
  cases o with
  | nx ρ h => exact fun φ' H' σ' g' => m φ' H' σ' (g.trans g')
  | rt s h => exact fun φ' H' v g' => m φ' H' v (g.trans g')
  | bk ρ h => exact fun φ' H' σ' g' => m φ' H' σ' (g.trans g')
  | ct ρ h => exact fun φ' H' σ' g' => m φ' H' σ' (g.trans g')
  | ex c fs ρ h => exact fun φ' H' k d σ' g' => m φ' H' k d σ' (g.trans g')
  | bad => exact m
abbrev tO (Z : Zs) (W : WX) (ev : En → Hm → Out) : TS := fun D σ H => ∃ φ h ρ, RpE Z.cl φ H ρ σ ∧ Hs Z.cl φ h H ∧ DW Z W D φ H (ev ρ h)
abbrev tS (Z : Zs) (W : WX) (m : St) : TS := tO Z W fun ρ h => exS Z.G Z.C ρ h m
abbrev tSs (Z : Zs) (W : WX) (ms : List St) : TS := tO Z W fun ρ h => exSs Z.G Z.C ρ h ms
theorem ps_weak {e : Stmt} {t t' : TS} (h : PS X e t) (k : ∀ D σ H, t' D σ H → t D σ H) : PS X e t' := ⟨fun pins s σ H D I q => h.run pins s σ H D I (k D σ H q)⟩
theorem pss_weak {e : List Stmt} {t t' : TS} (h : PSs X e t) (k : ∀ D σ H, t' D σ H → t D σ H) : PSs X e t' := ⟨fun pins s σ H D I q => h.run pins s σ H D I (k D σ H q)⟩
/-- first an evaluation -/
theorem tO.seq {γ δ : Type} {rel' : Phi → Hp → γ → δ → Prop} {ev : En → Hm → Out} {ev' : En → Hm → R γ} {f : γ → En → Hm → Out} {D : Ends} {σ : L2.St} {H : Hp} {Q' : δ → Hp → Prop} (t : tO Z W ev D σ H)
    (e : ∀ ρ h, ev ρ h = (ev' ρ h).out ρ fun a h1 => f a ρ h1) (k : ∀ a h1 φ1 H1 v ρ, RpE Z.cl φ1 H1 ρ σ → Hs Z.cl φ1 h1 H1 → rel' φ1 H1 a v → DW Z W D φ1 H1 (f a ρ h1) → Q' v H1) : tG Z W rel' ev' σ H Q' := by
  obtain ⟨φ, h, ρ, re, hs, m⟩ := t
  refine ⟨φ, h, ρ, re, hs, ?_⟩
  rw [e] at m
  cases x : ev' ρ h with
  | ok a h1 =>
    rw [x] at m
    exact fun φ' H' v g hs' r => k a h1 φ' H' v ρ (g.e re) hs' r (DW.grow m g)
  | ex c fs h1 =>
    rw [x] at m
    exact fun φ' H' k d g hs' r => m φ' H' k d σ g hs' (g.e re) r
  | bad => rw [x] at m; exact m
theorem ss_nil : PSs X [] (tSs Z W []) := pss_weak pss_nil fun D σ H ⟨φ, h, ρ, re, hs, m⟩ => m φ H σ (Grow.refl _ _) hs re
theorem ss_cons {s : Stmt} {ss : List Stmt} {m : St} {ms : List St} (h1 : PS X s (tS Z W m)) (h2 : PSs X ss (tSs Z W ms)) : PSs X (s :: ss) (tSs Z W (m :: ms)) := pss_weak (pss_cons h1 h2) fun D σ H ⟨φ, h, ρ, re, hs, w⟩ => by
  refine ⟨φ, h, ρ, re, hs, ?_⟩
  simp only [exSs] at w
  show DW Z W _ φ H (exS Z.G Z.C ρ h m)
  revert w
  cases exS Z.G Z.C ρ h m with
  | nx ρ1 h1 => exact fun w φ' H' σ' g hs' re' => ⟨φ', h1, ρ1, re', hs', w.grow g⟩
  | rt _ _ => exact id
  | bk _ _ => exact id
  | ct _ _ => exact id
  | ex _ _ _ _ => exact id
  | bad => exact id
/-! ### assignments -/
theorem to_tg {tg : Tg} {s : S} {x : V} {φ : Phi} {h : Hm} {ρ : En} {D : Ends} {σ : L2.St} {H : Hp} (re : RpE Z.cl φ H ρ σ) (hs : Hs Z.cl φ h H) (r : RpS Z.cl φ H s x)
    (m : DW Z W D φ H (match setTg tg s ρ with | some ρ1 => .nx ρ1 h | none => .bad)) : tTg Z W tg x σ H D.nx := by
  cases e : setTg tg s ρ with
  | none => rw [e] at m; exact m.elim
  | some ρ' =>
    rw [e] at m
    exact ⟨φ, h, ρ, s, ρ', re, hs, r, e, fun φ' H' σ' g hs' re' _ => m φ' H' σ' g hs' re'⟩
theorem s_asg {tg : Tg} {m : E} {tgE e : Expr} {pos : Pos} (he : PE X e (tE Z W m)) (hg : PG X tgE (tTg Z W tg)) (hs : swapsWithSole [tgE] e pos.line X.env = pure false) (hw : swappedStores [tgE] e X.env = pure none)
    (h1 : (assignEach [tgE] X.env).map (·.2) = [assign tgE X.env]) : PS X (.Assign [tgE] e pos) (tS Z W (.asg tg m)) :=
  ps_weak (ps_asg he hg hs hw h1) fun D σ H t => t.seq (rel' := RpS Z.cl) (f := fun s ρ h1 => match setTg tg s ρ with | some ρ1 => .nx ρ1 h1 | none => .bad) (fun ρ h => by simp only [exS] <;> rfl) fun s h1 φ1 H1 x ρ re hs r m => to_tg re hs r m
theorem s_asgC {i : Nat} {y : Str} {py : Pos} {spos : Pos} {own : List (Str × Nat)} {tg : Tg} {it : It} {cs : List E} {e : E} {elt tgE iter : Expr} {ifs : List Expr} {scope : Scope} {pos : Pos} (hc : X.calm = true) (hN : X.N.Nodup) (hy : X.N[i]? = some y) (hyl : X.env.scope.names.lookup y = some .local)
    (hsw : swapsWith (.ListComp elt [⟨tgE, iter, ifs, 0⟩] scope pos) (some (.Name y py)) spos.line X.env = pure true) (hi : PI X tgE iter (tI Z W it)) (ok : BlkOk X.N X.env.scope scope own)
    (hg : ∀ (s : Shared) (H : Hp) (C : Addr) (cl : List (Str × Addr)) (fp : List Addr), PG (X.blk s H scope (compEnvC scope cl C X.env) fp) tgE (tTg Z W0 tg))
    (ht : ∀ (s : Shared) (H : Hp) (C : Addr) (cl : List (Str × Addr)) (fp : List Addr), PTs (X.blk s H scope (compEnvC scope cl C X.env) fp) ifs (tCs Z W0 cs))
    (he : ∀ (s : Shared) (H : Hp) (C : Addr) (cl : List (Str × Addr)) (fp : List Addr), PE (X.blk s H scope (compEnvC scope cl C X.env) fp) elt (tE Z W0 e))
    (hsl : ∀ i ∈ tg.slots, i ∈ own.map (·.2)) (hf : ∀ x, foldedSetIterable iter X.env x = pure x) :
    PS X (.Assign [.Name y py] (.ListComp elt [⟨tgE, iter, ifs, 0⟩] scope pos) spos) (tS Z W (.asg (.name i) (.comp (own.map (·.2)) tg it cs e))) :=
  ps_weak (ps_setLc hc hN hy hyl hsw hi ok hg ht he hf) fun D σ H t => by
    refine evComp (Q := fun x H1 => gName i x σ H1 D.nx) hsl ?_
    refine t.seq (rel' := RpS Z.cl) (f := fun s ρ h1 => match setTg (.name i) s ρ with | some ρ1 => .nx ρ1 h1 | none => .bad) (fun ρ h => by simp only [exS] <;> rfl) fun s h1 φ1 H1 x ρ re hs r m => ?_
    exact m φ1 H1 _ (Grow.refl _ _) hs (re.set r)
theorem s_par2 {i j : Nat} {x y : Str} {a b : Expr} {ma mb : E} {px py pt pos : Pos} {kt k2 pt2} (hc : X.calm = true) (hN : X.N.Nodup) (hi : X.N[i]? = some x) (hj : X.N[j]? = some y) (hij : i ≠ j)
    (hx : X.env.scope.names.lookup x = some .local) (hy : X.env.scope.names.lookup y = some .local) (ha : PA X [a, b] (tL Z W [ma, mb]))
    (hw : swappedStores [.Tuple [.Name x px, .Name y py] kt pt] (.Tuple [a, b] k2 pt2) X.env = pure (some [x, y]))
    (hs : swapsWithSole [.Tuple [.Name x px, .Name y py] kt pt] (.Tuple [a, b] k2 pt2) pos.line X.env = pure false) :
    PS X (.Assign [.Tuple [.Name x px, .Name y py] kt pt] (.Tuple [a, b] k2 pt2) pos) (tS Z W (.par [i, j] [ma, mb])) :=
  ps_weak (ps_par hc hN hi hj hij hx hy ha hw hs) fun D σ H t => t.seq (rel' := RpSs Z.cl) (f := fun ss ρ h1 => match setAll ρ [i, j] ss with | some ρ1 => .nx ρ1 h1 | none => .bad) (fun ρ h => by simp only [exS] <;> rfl) fun ss h1 φ1 H1 vs ρ re hs r m => by
    match ss, vs, r, m with
    | [s, u], _, ⟨v, _, rfl, r1, ⟨w, _, rfl, r2, rfl⟩⟩, m => exact ⟨v, w, rfl, m φ1 H1 _ (Grow.refl _ _) hs ((re.set r1).set r2)⟩
    | [], _, r, m => exact m.elim
    | [s], _, r, m => exact m.elim
    | s :: u :: z :: rest, _, r, m => exact m.elim
theorem s_par3 {i j l : Nat} {x y z : Str} {a b c : Expr} {ma mb mc : E} {px py pz pt pos : Pos} {kt k2 pt2} (hc : X.calm = true) (hN : X.N.Nodup) (hi : X.N[i]? = some x) (hj : X.N[j]? = some y) (hl : X.N[l]? = some z) (hij : i ≠ j) (hil : i ≠ l) (hjl : j ≠ l)
    (hx : X.env.scope.names.lookup x = some .local) (hy : X.env.scope.names.lookup y = some .local) (hz : X.env.scope.names.lookup z = some .local) (ha : PA X [a, b, c] (tL Z W [ma, mb, mc]))
    (hw : swappedStores [.Tuple [.Name x px, .Name y py, .Name z pz] kt pt] (.Tuple [a, b, c] k2 pt2) X.env = pure (some [x, y, z]))
    (hs : swapsWithSole [.Tuple [.Name x px, .Name y py, .Name z pz] kt pt] (.Tuple [a, b, c] k2 pt2) pos.line X.env = pure false) :
    PS X (.Assign [.Tuple [.Name x px, .Name y py, .Name z pz] kt pt] (.Tuple [a, b, c] k2 pt2) pos) (tS Z W (.par [i, j, l] [ma, mb, mc])) :=
  ps_weak (ps_par3 hc hN hi hj hl hij hil hjl hx hy hz ha hw hs) fun D σ H t => t.seq (rel' := RpSs Z.cl) (f := fun ss ρ h1 => match setAll ρ [i, j, l] ss with | some ρ1 => .nx ρ1 h1 | none => .bad) (fun ρ h => by simp only [exS] <;> rfl) fun ss h1 φ1 H1 vs ρ re hs r m => by
    match ss, vs, r, m with
    | [s, u, q], _, ⟨v, _, rfl, r1, ⟨w, _, rfl, r2, ⟨o, _, rfl, r3, rfl⟩⟩⟩, m => exact ⟨v, w, o, rfl, m φ1 H1 _ (Grow.refl _ _) hs (((re.set r1).set r2).set r3)⟩
    | [], _, r, m => exact m.elim
    | [s], _, r, m => exact m.elim
    | [s, u], _, r, m => exact m.elim
    | s :: u :: z :: q :: rest, _, r, m => exact m.elim
/-! ### small statements -/
theorem s_ex {m : E} {e : Expr} {pos : Pos} (he : PE X e (tE Z W m)) (hs : swapsWith e none pos.line X.env = pure false) : PS X (.Expr e pos) (tS Z W (.ex m)) :=
  ps_weak (ps_expr he hs) fun D σ H t => t.seq (rel' := RpS Z.cl) (f := fun _ ρ h1 => .nx ρ h1) (fun ρ h => by simp only [exS]) fun s h1 φ1 H1 x ρ re hs r m => m φ1 H1 σ (Grow.refl _ _) hs re
theorem s_ret {m : E} {e : Expr} {pos : Pos} (he : PE X e (tE Z W m)) : PS X (.Return (some e) pos) (tS Z W (.ret m)) :=
  ps_weak (ps_ret he) fun D σ H t => t.seq (rel' := RpS Z.cl) (f := fun s _ h1 => .rt s h1) (fun ρ h => by simp only [exS]) fun s h1 φ1 H1 x ρ re hs r m => m φ1 H1 x (Grow.refl _ _) hs r
theorem rs_non {cl : Cl} {φ : Phi} {H : Hp} : RpS cl φ H (.t .non) .non := by
  show RpF cl φ H .non .non
  rw [RpF, Rp]
theorem s_retN {pos : Pos} : PS X (.Return none pos) (tS Z W .retN) := ps_weak ps_retN fun D σ H ⟨φ, h, ρ, re, hs, m⟩ => by
  simp only [exS] at m
  exact m φ H .non (Grow.refl _ _) hs rs_non
theorem s_pass {pos : Pos} : PS X (.Pass pos) (tS Z W .pass) := ps_weak ps_pass fun D σ H ⟨φ, h, ρ, re, hs, m⟩ => by
  simp only [exS] at m
  exact m φ H σ (Grow.refl _ _) hs re
theorem s_cont {pos : Pos} : PS X (.Continue pos) (tS Z W .cont) := ps_weak ps_continue fun D σ H ⟨φ, h, ρ, re, hs, m⟩ => by
  simp only [exS] at m
  exact m φ H σ (Grow.refl _ _) hs re
theorem s_brk {pos : Pos} : PS X (.Break pos) (tS Z W .brk) := ps_weak ps_break fun D σ H ⟨φ, h, ρ, re, hs, m⟩ => by
  simp only [exS] at m
  exact m φ H σ (Grow.refl _ _) hs re
theorem s_if {c : Expr} {a b : List Stmt} {mc : E} {ma mb : List St} {pos : Pos} (hc : PT X c (tB' Z W mc)) (ha : PSs X a (tSs Z W ma)) (hb : PSs X b (tSs Z W mb)) : PS X (.If c a b pos) (tS Z W (.ife mc ma mb)) :=
  ps_weak (ps_if hc ha hb) fun D σ H t => by
    refine t.seq (rel' := eqB) (f := fun k ρ h1 => if k then exSs Z.G Z.C ρ h1 ma else exSs Z.G Z.C ρ h1 mb) (fun ρ h => ?_) fun k h1 φ1 H1 x ρ re hs r m => ?_
    · simp only [exS, evB]
      cases evE Z.G Z.C ρ h mc <;> rfl
    · cases r
      cases k with
      | true => exact ⟨φ1, h1, ρ, re, hs, m⟩
      | false => exact ⟨φ1, h1, ρ, re, hs, m⟩
theorem s_aug {i : Nat} {x : Str} {e : Expr} {m : E} {o : Bo} {po : Operator} {pos pos' : Pos} {f : Int → Int → Int} (hN : X.N.Nodup) (hi : X.N[i]? = some x) (hx : Loc X.env.scope x) (he : PE X e (tE Z W m)) (ho : PIp X po (ipI f))
    (hf : X.fn x = true ∨ X.env.scope.names.lookup x = some .local) (hof : (o = .add ∧ f = fun i j => i + j) ∨ (o = .sub ∧ f = fun i j => i - j)) : PS X (.AugAssign (.Name x pos') po e pos) (tS Z W (.aug i o m)) :=
  ps_weak (ps_aug hN hi hx he ho hf) fun D σ H t => by
    obtain ⟨φ, h, ρ, re, hs, w⟩ := t
    have hv : ∃ z, ρ[i]? = some (some (.t (.int z))) := by
      simp only [exS] at w
      cases e1 : ρ[i]? with
      | none => simp only [e1, Option.join_none] at w; exact w.elim
      | some u =>
        cases u with
        | none => simp only [e1, Option.join_some] at w; exact w.elim
        | some s =>
          cases s with
          | r n => simp only [e1, Option.join_some] at w; exact w.elim
          | t q => cases q <;> first | exact ⟨_, rfl⟩ | (simp only [e1, Option.join_some] at w; exact w.elim)
    obtain ⟨z, e1⟩ := hv
    obtain ⟨v, ev, rv⟩ := re.get i _ e1
    have ez := int_v rv
    subst ez
    refine ⟨_, ev, ?_⟩
    simp only [exS, e1, Option.join_some] at w
    refine ⟨φ, h, ρ, re, hs, ?_⟩
    show MW Z.cl Z.xr (RpS Z.cl) W σ φ H (evE Z.G Z.C ρ h m) _
    cases ee : evE Z.G Z.C ρ h m with
    | bad => rw [ee] at w; exact w
    | ex c fs h1 => rw [ee] at w; exact fun φ' H' k d g hs' r => w φ' H' k d σ g hs' (g.e re) r
    | ok s h1 =>
      rw [ee] at w
      simp only [R.out_ok] at w
      cases s with
      | r n => exact w.elim
      | t q =>
        cases q <;> first | exact w.elim | skip
        rename_i y
        intro φ' H' v g hs' r
        refine ⟨z, y, rfl, int_v r, ?_⟩
        have ri : ∀ k : Int, RpS Z.cl φ' H' (.t (.int k)) (.int k) := fun k => by
          show RpF Z.cl φ' H' (.int k) (.int k)
          rw [RpF, Rp]
        rcases hof with ⟨rfl, rfl⟩ | ⟨rfl, rfl⟩
        · exact w φ' H' _ g hs' ((g.e re).set (ri _))
        · exact w φ' H' _ g hs' ((g.e re).set (ri _))

/-! ### loops -/
structure ForI (Z : Zs) (W : WX) (D : Ends) (g : Option (Nat × MO)) (f : T → En → Hm → Out) (its : List T) (φ1 : Phi) (H1 : Hp) (i m : Nat) (σ : L2.St) (H : Hp) : Prop where
  le : i ≤ its.length
  me : m = its.length - i
  ex : ∃ (φ' : Phi) (h' : Hm) (ρ' : En), Mv φ1 H1 φ' H ∧ Hs Z.cl φ' h' H ∧ RpE Z.cl φ' H ρ' σ ∧ DW Z W D φ' H (forL g f (its.drop i) ρ' h')
theorem s_for {tg : Tg} {it : It} {ms : List St} {tgE iter : Expr} {body : List Stmt} {pos : Pos} (hp : PassesOwn (model X.prog X.w) X.A X.env X.xe) (hc : X.calm = true) (hi : PI X tgE iter (tI Z W it)) (hg : PG X tgE (tTg Z W tg)) (hb : PSs X body (tSs Z W ms))
    (hf : ∀ x, foldedSetIterable iter X.env x = pure x) : PS X (.For tgE iter body [] pos) (tS Z W (.for tg it ms)) :=
  ps_weak (ps_for hp hc hi hg hb hf) fun D σ0 H0 t => by
    refine t.seq (rel' := Wk Z.cl) (f := fun p ρ h1 => forL p.2 (fun x ρ h => match setTg tg (.t x) ρ with | some ρ1 => exSs Z.G Z.C ρ1 h ms | none => .bad) p.1 ρ h1) (fun ρ h => by simp only [exS] <;> rfl) fun p h1 φ1 H1 J ρ re hs wk m => ?_
    refine ⟨ForI Z W D p.2 _ p.1 φ1 H1, ⟨p.1.length, Nat.zero_le _, rfl, φ1, h1, ρ, (Grow.refl φ1 H1).mv, hs, re, by simpa using m⟩, ?_⟩
    rintro i k σ H ⟨hle, hk, φ', h', ρ', mv, hs', re', m'⟩
    by_cases hlt : i < p.1.length
    · have ed : p.1.drop i = p.1[i] :: p.1.drop (i + 1) := List.drop_eq_getElem_cons hlt
      rw [ed] at m'
      simp only [forL] at m'
      by_cases gd : gOk p.2 h' = true
      · rw [if_pos gd] at m'
        obtain ⟨go, yl⟩ := wk.go φ' h' H i _ mv hs' gd (List.getElem?_eq_getElem hlt)
        refine .inr ⟨go, ForI Z W D p.2 _ p.1 φ1 H1 (i + 1) (p.1.length - (i + 1)), fun σ' H' w => ⟨_, by omega, w⟩, fun x H3 hy => ?_⟩
        obtain ⟨g3, hs3, rx⟩ := yl x H3 hy
        generalize p.1[i] = t at m' rx
        cases es : setTg tg (.t t) ρ' with
        | none => rw [es] at m'; exact m'.elim
        | some ρ1 =>
          rw [es] at m'
          refine ⟨φ', h', ρ', .t t, ρ1, g3.e re', hs3, rx, es, fun φ4 H4 σ4 g4 hs4 re4 _ => ⟨φ4, h', ρ1, re4, hs4, ?_⟩⟩
          have m2 := m'.grow (g3.trans g4)
          show DW Z W _ φ4 H4 (exSs Z.G Z.C ρ1 h' ms)
          revert m2
          simp only
          cases exSs Z.G Z.C ρ1 h' ms with
          | nx ρ5 h5 => exact fun m2 φ5 H5 σ5 g5 hs5 re5 => ⟨hlt, rfl, φ5, h5, ρ5, mv.trans ((g3.trans g4).trans g5).mv, hs5, re5, m2.grow g5⟩
          | ct ρ5 h5 => exact fun m2 φ5 H5 σ5 g5 hs5 re5 => ⟨hlt, rfl, φ5, h5, ρ5, mv.trans ((g3.trans g4).trans g5).mv, hs5, re5, m2.grow g5⟩
          | bk _ _ => exact id
          | rt _ _ => exact id
          | ex _ _ _ _ => exact id
          | bad => exact id
      · rw [if_neg gd] at m'; exact m'.elim
    · have hi : i = p.1.length := by omega
      subst hi
      rw [List.drop_length] at m'
      simp only [forL] at m'
      by_cases gd : gOk p.2 h' = true
      · rw [if_pos gd] at m'
        exact .inl ⟨wk.stop φ' h' H mv hs' gd, m' φ' H σ (Grow.refl _ _) hs' re'⟩
      · rw [if_neg gd] at m'; exact m'.elim
theorem s_whl {n : Nat} {mc : E} {ms : List St} {c : Expr} {body : List Stmt} {pos : Pos} (hp : PassesOwn (model X.prog X.w) X.A X.env X.xe) (hc : PT X c (tB' Z W mc)) (hb : PSs X body (tSs Z W ms)) : PS X (.While c body [] pos) (tS Z W (.whl n mc ms)) :=
  ps_weak (ps_while hp hc hb) fun D σ0 H0 ⟨φ0, h0, ρ0, re0, hs0, m0⟩ => by
    simp only [exS] at m0
    refine ⟨fun m σ H => ∃ φ h ρ, RpE Z.cl φ H ρ σ ∧ Hs Z.cl φ h H ∧ DW Z W D φ H (whlL (fun ρ h => (evE Z.G Z.C ρ h mc).bind asB) (fun ρ h => exSs Z.G Z.C ρ h ms) m ρ h), ⟨n, φ0, h0, ρ0, re0, hs0, m0⟩, ?_⟩
    rintro m σ H ⟨φ, h, ρ, re, hs, w⟩
    cases m with
    | zero => exact w.elim
    | succ m =>
      simp only [whlL] at w
      have t : tO Z W (fun ρ h => ((evE Z.G Z.C ρ h mc).bind asB).out ρ fun b h1 => if b then match exSs Z.G Z.C ρ h1 ms with
          | .nx ρ1 h2 => whlL (fun ρ h => (evE Z.G Z.C ρ h mc).bind asB) (fun ρ h => exSs Z.G Z.C ρ h ms) m ρ1 h2
          | .ct ρ1 h2 => whlL (fun ρ h => (evE Z.G Z.C ρ h mc).bind asB) (fun ρ h => exSs Z.G Z.C ρ h ms) m ρ1 h2
          | .bk ρ1 h2 => .nx ρ1 h2
          | o => o else .nx ρ h1) D σ H := ⟨φ, h, ρ, re, hs, w⟩
      refine t.seq (rel' := eqB) (ev' := fun ρ h => evB Z.G Z.C ρ h mc) (fun ρ h => rfl) fun b h1 φ1 H1 x ρ re hs r w => ?_
      cases r
      cases b with
      | false => exact w φ1 H1 σ (Grow.refl _ _) hs re
      | true =>
        simp only [if_true] at w ⊢
        refine ⟨_, fun σ' H' q => ⟨m, Nat.lt_succ_self m, q⟩, φ1, h1, ρ, re, hs, ?_⟩
        show DW Z W _ φ1 H1 (exSs Z.G Z.C ρ h1 ms)
        revert w
        cases exSs Z.G Z.C ρ h1 ms with
        | nx ρ5 h5 => exact fun m2 φ5 H5 σ5 g5 hs5 re5 => ⟨φ5, h5, ρ5, re5, hs5, m2.grow g5⟩
        | ct ρ5 h5 => exact fun m2 φ5 H5 σ5 g5 hs5 re5 => ⟨φ5, h5, ρ5, re5, hs5, m2.grow g5⟩
        | bk _ _ => exact id
        | rt _ _ => exact id
        | ex _ _ _ _ => exact id
        | bad => exact id
/-! ### o[i] = v -/
theorem DW.seq {γ δ : Type} {rel' : Phi → Hp → γ → δ → Prop} {r : R γ} {ρ : En} {f : γ → Hm → Out} {D : Ends} {φ : Phi} {σ : L2.St} {H : Hp} {Q' : δ → Hp → Prop} (re : RpE Z.cl φ H ρ σ) (m : DW Z W D φ H (r.out ρ f))
    (k : ∀ a h1 φ1 H1 v, Grow φ H φ1 H1 → Hs Z.cl φ1 h1 H1 → rel' φ1 H1 a v → DW Z W D φ1 H1 (f a h1) → Q' v H1) : MW Z.cl Z.xr rel' W σ φ H r Q' := by
  cases r with
  | ok a h1 => exact fun φ' H' v g hs' q => k a h1 φ' H' v g hs' q (DW.grow m g)
  | ex c fs h1 => exact fun φ' H' k d g hs' q => m φ' H' k d σ g hs' (g.e re) q
  | bad => exact m
theorem Rps.set {cl : Cl} {ok : Al} {H : Hp} {t : T} {v : V} : ∀ {ts : List T} {vs : List V} (k : Nat), Rps cl ok H ts vs → Rp cl ok H t v → Rps cl ok H (ts.set k t) (vs.set k v)
  | [], _, _, r, _ => by rw [r.inv0]; exact .nil
  | _ :: _, _, 0, r, p => by
    obtain ⟨w, ws, rfl, a, q⟩ := r.inv
    exact .cons p q
  | _ :: _, _, k + 1, r, p => by
    obtain ⟨w, ws, rfl, a, q⟩ := r.inv
    exact .cons a (Rps.set k q p)
theorem setD_none {k : Key} {v : T} : ∀ {ks us : List T}, getD k ks us = none → ks.length = us.length → setD k v ks us = us
  | [], us, _, _ => by simp [setD]
  | _ :: _, [], _, _ => rfl
  | a :: ks, u :: us, e, hl => by
    unfold getD at e
    split at e
    · cases e
    · rename_i h
      unfold setD
      rw [if_neg h, setD_none e (by simpa using hl)]
theorem putD_ok {cl : Cl} {ok : Al} {H : Hp} {k : Key} {t : T} {v : V} {kvs : List (Key × V)} {us : List T} (r : Rps cl ok H us (kvs.map (·.2))) (p : Rp cl ok H t v) :
    (putK kvs k v).map (fun q => keyT q.1) = (putD k t (kvs.map fun q => keyT q.1) us).1 ∧ Rps cl ok H (putD k t (kvs.map fun q => keyT q.1) us).2 ((putK kvs k v).map (·.2)) := by
  have hg : (getD k (kvs.map fun q => keyT q.1) us).isSome = (kvs.any fun kv => decide (kv.1 = k)) := by
    rw [valV_any]
    obtain ⟨a, b⟩ := getD_val (cl := cl) (φ := ⟨[], []⟩) k r
    cases e : getD k (kvs.map fun q => keyT q.1) us with
    | none => rw [b e]; rfl
    | some x => obtain ⟨_, e', _⟩ := a x e; rw [e']; rfl
  unfold putK putD
  rw [hg]
  cases kvs.any fun kv => decide (kv.1 = k) with
  | false =>
    refine ⟨by simp, ?_⟩
    simp only [Bool.false_eq_true, if_false, List.map_append, List.map_cons, List.map_nil]
    exact Rps.append r (.cons p .nil)
  | true =>
    simp only [if_true]
    refine ⟨?_, ?_⟩
    · rw [List.map_map]
      refine List.map_congr_left fun q _ => ?_
      simp only [Function.comp]
      split
      · rename_i e; rw [e]
      · rfl
    · clear hg
      induction kvs generalizing us with
      | nil => have := r.length; simp at this; subst this; simpa [setD] using r
      | cons q kvs ih =>
        cases us with
        | nil => have z := r.length; simp at z
        | cons u us =>
          obtain ⟨w, ws, ew, r1, r2⟩ := r.inv
          simp only [List.map_cons, List.cons.injEq] at ew
          obtain ⟨rfl, rfl⟩ := ew
          simp only [List.map_cons, setD, keyOf_keyT, Option.some.injEq]
          by_cases e : q.1 = k
          · simp only [e, if_true]
            exact .cons p (ih r2)
          · simp only [e, if_false]
            exact .cons r1 (ih r2)
abbrev rSetX : TSet := fun o i v H Q => rSetL o i v H Q ∨ rSetD o i v H Q
theorem set_any (hu : X.A.units + 1 < cLine) : PSet X rSetX := fun pins s σ H o i v ov iv u Q I ro ri rv h => h.elim (set_list pins s σ H o i v ov iv u Q I ro ri rv) (set_dict hu pins s σ H o i v ov iv u Q I ro ri rv)
theorem s_seti {o i v : Expr} {mo mi mv : E} {pos spos : Pos} (hu : X.A.units + 1 < cLine) (ho : PE X o (tE Z W mo)) (hi : PE X i (tE Z W mi)) (hv : PE X v (tE Z W mv))
    (ha : ∀ z, assign (.Subscript o i pos) X.env z = (do
      let ov ← holding [z] (eval o X.env)
      let iv ← holding [z, ov] (eval i X.env)
      standAt pos
      holding [z, ov, iv] (setItem ov iv z)
      release [z, ov, iv] []))
    (hs : swapsWithSole [.Subscript o i pos] v spos.line X.env = pure false) (hw : swappedStores [.Subscript o i pos] v X.env = pure none) (h1 : (assignEach [.Subscript o i pos] X.env).map (·.2) = [assign (.Subscript o i pos) X.env]) :
    PS X (.Assign [.Subscript o i pos] v spos) (tS Z W (.seti mo mi mv)) :=
  ps_weak (ps_asg hv (pg_sub ho hi (set_any hu) ha) hs hw h1) fun D σ H t => by
    refine t.seq (rel' := RpS Z.cl) (f := fun s ρ h1 => (evE Z.G Z.C ρ h1 mo).out ρ fun so h2 => (evE Z.G Z.C ρ h2 mi).out ρ fun si h3 =>
      match s, so, si with
      | .t v, .r n, .t k => (match h3[n]? with
        | some (.lst xs) => (match k with
          | .int j => (match L2.ixN xs.length j with | some m => .nx ρ (h3.set n (.lst (xs.set m v))) | none => .bad)
          | _ => .bad)
        | some (.dct ks vs) => (match keyOf k with
          | some k => if lim (ks.length + 1) then .nx ρ (h3.set n (.dct (putD k v ks vs).1 (putD k v ks vs).2)) else .bad
          | none => .bad)
        | _ => .bad)
      | _, _, _ => .bad) (fun ρ h => by simp only [exS] <;> rfl) fun s h1 φ1 H1 x ρ re1 hs1 r1 m1 => ?_
    refine ⟨φ1, h1, ρ, re1, hs1, DW.seq (rel' := RpS Z.cl) re1 m1 fun so h2 φ2 H2 y g2 hs2 r2 m2 => ?_⟩
    have re2 := g2.e re1
    refine ⟨φ2, h2, ρ, re2, hs2, DW.seq (rel' := RpS Z.cl) re2 m2 fun si h3 φ3 H3 z g3 hs3 r3 m3 => ?_⟩
    have re3 := g3.e re2
    cases s with
    | r _ => exact m3.elim
    | t tv =>
    cases so with
    | t _ => exact m3.elim
    | r n =>
    cases si with
    | r _ => exact m3.elim
    | t tk =>
    dsimp only at m3
    have rv : RpF Z.cl φ3 H3 tv x := (g2.trans g3).s (s := .t tv) r1
    cases eh : h3[n]? with
    | none => rw [eh] at m3; exact m3.elim
    | some ob =>
      rw [eh] at m3
      have live : ob ≠ .dead := fun z => by subst z; exact m3.elim
      obtain ⟨a, ex, ea, w⟩ := at_ref hs3 (g3.s r2) eh live
      have mem : some a ∈ φ3.m := List.mem_of_getElem? ea
      have gw : ∀ {u : HO}, Grow φ3 H3 φ3 (upd H3 a u) := fun {u} => Grow.write mem
      cases ob with
      | dead => exact (live rfl).elim
      | obj _ _ _ => exact m3.elim
      | lst xs =>
        cases tk <;> first | exact m3.elim | skip
        rename_i j
        dsimp only at m3
        obtain ⟨vs, ha', q⟩ := w
        cases ej : L2.ixN xs.length j with
        | none => rw [ej] at m3; exact m3.elim
        | some k =>
          rw [ej] at m3
          have ez := int_v r3
          refine .inl ⟨a, vs, j, k, ex, ez, ha', by rw [← q.length]; exact ej, ?_⟩
          exact m3 φ3 _ σ gw (hs3.write ea ⟨vs.set k x, upd_same, Rps.set k (Rps.move (off_self ea) q) (Rp.move (off_self ea) rv)⟩) (gw.e re3)
      | dct ks us =>
        dsimp only at m3
        obtain ⟨kvs, ha', ek, q⟩ := w
        cases ey : keyOf tk with
        | none => rw [ey] at m3; exact m3.elim
        | some k =>
          rw [ey] at m3
          dsimp only at m3
          split at m3
          · rename_i hl
            have ez : z = kV k := key_v (RpF.i r3) ey
            subst ek
            have hlen : kvs.length < sizeLine := by
              have := lim_le hl
              simp at this
              omega
            refine .inr ⟨a, upd H3 a (.dK (putK kvs k x)), ex, by rw [ez]; exact DPut.k ha' hlen, ?_⟩
            have pk := putD_ok (k := k) (t := tv) (v := x) (Rps.move (off_self ea) q) (Rp.move (off_self (u := .dK (putK kvs k x)) ea) rv)
            exact m3 φ3 _ σ gw (hs3.write ea ⟨putK kvs k x, upd_same, pk.1, pk.2⟩) (gw.e re3)
          · exact m3.elim
end
end My

/-! MiniPy: defs, and their calls. -/
namespace My
open PySem L2 PyProof.Rows
/-- the program as it stands behind its top -/
structure Pk where
  P : Program
  w : World
  K : PySem.W.Frag
  mg : Str → Option Value
  base : Heap
/-- a def that keeps its promise where no repr is under way -/
structure FnG (B : Pk) (k : Nat) (f : Addr) (fd : FuncData) (ps : List Str) (sp : Sp) : Prop where
  len : ∀ zs H Q E, sp zs H Q E → zs.length = ps.length
  run : ∀ (A : Around) (fr : List Env) (s : Shared) (H : Hp) (args : Args) (us : List Value) (zs : List V) (Q : VK) (E : XK), Room k A → A.guards = some [] → Env0 B.P B.w B.K B.mg B.base A fr s H →
    BindsTo s fd args (ps.zip us) → Vals zs us → sp zs H Q E → codeAny (model B.P B.w) A (.call (.ref f) args) (CR (L2.CX B.P B.w) fr B.P B.w H s Q E) s
theorem FnG.mono {B : Pk} {j k : Nat} {f : Addr} {fd : FuncData} {ps : List Str} {sp : Sp} (F : FnG B j f fd ps sp) (h : j ≤ k) : FnG B k f fd ps sp :=
  ⟨F.len, fun A fr s H args us zs Q E r => F.run A fr s H args us zs Q E (r.mono h)⟩
/-- what the mini program says of a def, as a promise -/
def spF (cl : Cl) (xr : XRel) (n : Nat) (F : List S → Hm → R S) : Sp := fun zs H Q E => ∃ φ h ss, RpSs cl φ H ss zs ∧ Hs cl φ h H ∧ zs.length = n ∧ MW cl xr (RpS cl) (fun k d _ H => E k d H) [] φ H (F ss h) Q
/-- a global name that stands for the def i of the mini program, with n parameters -/
structure CalG (B : Pk) (Z : Zs) (k : Nat) (x : Str) (i n : Nat) : Prop where
  ex : ∃ (f : Addr) (fd : FuncData) (ps : List Str), FnG B k f fd ps (spF Z.cl Z.xr n (Z.C i)) ∧ ps.length = n ∧ B.mg x = some (.ref f) ∧ PySem.W.keepIn B.K (.ref f) = true ∧ Binds B.K fd ps []
theorem CalG.mono {B : Pk} {Z : Zs} {j k : Nat} {x : Str} {i n : Nat} (c : CalG B Z j x i n) (h : j ≤ k) : CalG B Z k x i n :=
  let ⟨f, fd, ps, F, r⟩ := c.ex
  ⟨f, fd, ps, F.mono h, r⟩
abbrev _root_.L2.Cx.pk (X : Cx) : Pk := ⟨X.prog, X.w, X.K, X.mg, X.base⟩
theorem evS_len {G : Ctx} {C : Orc} {ρ : En} : ∀ {ms : List E} {h h' : Hm} {vs : List S}, evS G C ρ h ms = .ok vs h' → vs.length = ms.length
  | [], h, h', vs, e => by simp only [evS] at e; cases e; rfl
  | m :: ms, h, h', vs, e => by
    simp only [evS] at e
    cases e1 : evE G C ρ h m with
    | ex c fs h1 => rw [e1] at e; cases e
    | bad => rw [e1] at e; cases e
    | ok s h1 =>
      rw [e1] at e
      simp only [R.bind_ok] at e
      cases e2 : evS G C ρ h1 ms with
      | ex c fs h2 => rw [e2] at e; cases e
      | bad => rw [e2] at e; cases e
      | ok ss h2 =>
        rw [e2] at e
        simp only [R.bind_ok] at e
        cases e
        simp [evS_len e2]
theorem rps_len {cl : Cl} {φ : Phi} {H : Hp} : ∀ {ss : List S} {vs : List V}, RpSs cl φ H ss vs → ss.length = vs.length
  | [], vs, r => by cases (show vs = [] from r); rfl
  | s :: ss, vs, r => by
    obtain ⟨v, ws, rfl, _, q⟩ := r
    simp [rps_len q]
section
variable {X : Cx} {Z : Zs} {W : WX}
theorem run_G {k : Nat} {f : Addr} {fd : FuncData} {ps : List Str} {sp : Sp} {pins : List (Addr × Obj)} {σ : L2.St} {H : Hp} {s : Shared} {Q : VK} {us : List Value} {zs : List V} (F : FnG X.pk k f fd ps sp) (hr : Room k X.A) (gu : X.A.guards = some [])
    (hb : Binds X.K fd ps []) (tk : Takes X W) (I : Inv X pins σ H s) (r : Vals zs us) (q : sp zs H Q (WE W σ)) : wpAny (model X.prog X.w) X.A (call (.ref f) us) (EP X pins σ Q) X.xe s := by
  have n : us.length = ps.length := by rw [← r.length, F.len _ _ _ _ q]
  have b := hb s us I.kIn (by rw [List.append_nil]; exact n)
  rw [List.append_nil] at b
  refine wpAny_call (codeAny_mono (F.run X.A X.stack s H ⟨us, []⟩ us zs Q (WE W σ) hr gu I.env0 b r q) fun res s' x => ?_)
  match res, x with
  | .error e, x => exact passAt tk σ pins H s e s' I x
  | .ok (.ret u), x => exact I.after x
  | .ok .next, x => exact x.elim
  | .ok .brk, x => exact x.elim
  | .ok .cont, x => exact x.elim
theorem ev_call {i n : Nat} {ms : List E} {σ : L2.St} {H : Hp} {Q : VK} (hn : ms.length = n) (t : tE Z W (.call i ms) σ H Q) : tL Z W ms σ H fun zs H1 => spF Z.cl Z.xr n (Z.C i) zs H1 Q (WE W σ) := by
  refine t.with (rel' := RpSs Z.cl) (f := fun ss ρ h1 => Z.C i ss h1) (fun ρ h => by simp only [evE]) fun ss h0 h1 φ1 H1 zs ρ ee re hs r m => ⟨φ1, h1, ss, r, hs, ?_, ?_⟩
  · rw [← rps_len r, evS_len ee, hn]
  · revert m
    cases Z.C i ss h1 <;> exact id
theorem s_call {i k : Nat} {x : Str} {ms : List E} {e : Expr} {es : List Expr} {p pos : Pos} (c : CalG X.pk Z k x i ms.length) (hr : Room k X.A) (gu : X.A.guards = some []) (tk : Takes X W) (hg : Gl X x) (ha : PA X (e :: es) (tL Z W ms))
    (hd : (x == ("__debug__" : Str)) = false) (he : starEach (e :: es) X.env = (false, eval e X.env) :: starEach es X.env) (hp : (backTo pos (starEach es X.env)).any (·.1) = false) :
    PE X (.Call (.Name x p) (e :: es) [] pos) (tE Z W (.call i ms)) := by
  refine ⟨fun pins s σ H Q I t => ?_⟩
  obtain ⟨f, fd, ps, F, _, hm, hk, hb⟩ := c.ex
  have go := ha.run pos pins s σ H _ I (ev_call rfl t)
  exact wpAny_Call_Name_kw (ld_glob I hg hm (PySem.W.callWith_K (h₀ := X.base) I.ok.mod.kin hk (thn go fun us s1 ⟨zs, H1, J, r, q⟩ => ⟨J.kIn, run_G F hr gu hb tk J r q⟩) he hp) hd)
theorem s_call0 {i k : Nat} {x : Str} {p pos : Pos} (c : CalG X.pk Z k x i 0) (hr : Room k X.A) (gu : X.A.guards = some []) (tk : Takes X W) (hg : Gl X x) (hd : (x == ("__debug__" : Str)) = false) :
    PE X (.Call (.Name x p) [] [] pos) (tE Z W (.call i [])) := by
  refine ⟨fun pins s σ H Q I t => ?_⟩
  obtain ⟨f, fd, ps, F, _, hm, hk, hb⟩ := c.ex
  obtain ⟨φ, h, ρ, re, hs, m⟩ := ev_call (n := 0) rfl t
  have q := m φ H [] (Grow.refl _ _) hs rfl
  exact wpAny_Call_Name_kw (ld_glob I hg hm (PySem.W.callWith_K0 I.kIn hk (run_G (us := []) F hr gu hb tk I .nil q)) hd)
end

/-! ### a def by its body -/
section
variable {B : Pk}
theorem okG {x qual : Str} {st : Stmt} {f : Addr} {fd : FuncData} {N ps : List Str} {k : Nat} {sp : Sp} (F : Fun B.K x qual st f fd) (S : FnScope N ps (defScope st)) (len : ∀ zs H Q E, sp zs H Q E → zs.length = ps.length)
    (body : ∀ (cdv : Value) (A : Around) (fr : List Env) (s : Shared) (H : Hp) (zs : List V) (Q : VK) (E : XK), Room k (A.deeper (envOfC qual (defScope st) s.heap.objs.size f cdv)) → A.guards = some [] → sp zs H Q E →
      ∃ t, PSs (cxOf (L2.CX B.P B.w) B.P B.w B.K B.mg B.base N qual (defScope st) f cdv A fr s H E) (defBody st) t ∧ t { nx := fun _ H' => Q .non H', rt := Q } (start N zs) H) : FnG B (k + 1) f fd ps sp := by
  obtain ⟨oc, od, kV, doc, pm, an, cdv, ct, osl, rfl, lk, code⟩ := F.ex
  refine ⟨len, fun A fr s H args us zs Q E room gu e0 binds vals q => ?_⟩
  have kin : B.K.In s.heap := e0.mod.kin.keeps fun b o z => (e0.bs b o z).1
  have nolim : s.heap.NoLimit := e0.mod.nolimit.keeps fun b o z => (e0.bs b o z).1
  have kinds : ∀ y ∈ ps.zip us, (defScope st).names.lookup y.1 = some .local ∨ ((defScope st).names.lookup y.1 = some .cell ∧ ((cellsFrom (s.heap.objs.size + 1) (defScope st).names []).lookup y.1).isSome = true) := by
    rintro ⟨n, v⟩ my
    exact (S.par n (List.of_mem_zip my).1).imp id fun c => ⟨c, PySem.W.cellsFrom_some _ _ _ (.inl c)⟩
  refine codeAny_call_function room.depth (kin _ _ lk) rfl S.co S.gen rfl (PySem.W.codeRec_of kin code) (binds _ _ _ _ (wpAny_newFunctionEnv_cells S.kind kinds fun env ee s1 x => ?_))
  cases ee
  refine ⟨nolim.keeps x.toInCall.keep, codeAny_func ?_⟩
  obtain ⟨t, run, now⟩ := body cdv A fr s H zs Q E (room.deeper _) gu q
  have I0 : Inv (cxOf (L2.CX B.P B.w) B.P B.w B.K B.mg B.base N qual (defScope st) f cdv A fr s H E) [] (start N zs) H s1 := inv_start S room.hd e0 (len _ _ _ _ q) vals x
  refine wpAny_mono (run.run [] s1 (start N zs) H _ I0 now) (fun fl s' z => ?_) fun _ _ z => z
  match fl, z with
  | .ret u, ⟨v, σ', H', J, rv, qv⟩ => exact ⟨v, H', J.os, J.bare, J.base, J.hok, rv, qv⟩
  | .next, ⟨σ', H', J, qv⟩ => exact ⟨V.non, H', J.os, J.bare, J.base, J.hok, rfl, qv⟩
  | .brk, ⟨_, _, _, qv⟩ => exact qv.elim
  | .cont, ⟨_, _, _, qv⟩ => exact qv.elim
/-- what is told of exceptions stays told where less is tracked -/
def XrOk (xr : XRel) : Prop := ∀ φ φ' H c fs k d, (∀ a, Off φ a → Off φ' a) → xr φ H c fs k d → xr φ' H c fs k d
abbrev WF (E : XK) : WX := fun k d _ H => E k d H
theorem start_rpe {cl : Cl} {φ : Phi} {H : Hp} {n : Nat} {N : List Str} : ∀ {ss : List S} {zs : List V}, RpSs cl φ H ss zs → N.length = n → RpE cl φ H (startE n ss) (start N zs) := fun {ss zs} r hn => by
  have key : ∀ {ss : List S} {zs : List V}, RpSs cl φ H ss zs → ∀ (i : Nat) (s : S), (ss.map some)[i]? = some (some s) → ∃ v : V, (zs.map some)[i]? = some (some v) ∧ RpS cl φ H s v := by
    intro ss
    induction ss with
    | nil => intro zs r i s e; simp at e
    | cons a ss ih =>
      intro zs r i s e
      obtain ⟨v, ws, rfl, r1, r2⟩ := r
      cases i with
      | zero => simp at e; subst e; exact ⟨v, rfl, r1⟩
      | succ i => simpa using ih r2 i s (by simpa using e)
  have hl := rps_len r
  refine ⟨by simp [startE, L2.start, hl, hn], fun i s e => ?_⟩
  unfold startE at e
  unfold L2.start
  by_cases hi : i < ss.length
  · rw [List.getElem?_append_left (by simpa using hi)] at e
    obtain ⟨v, e2, q⟩ := key r i s e
    exact ⟨v, by rw [List.getElem?_append_left (by simpa [← hl] using hi)]; exact e2, q⟩
  · rw [List.getElem?_append_right (by simpa using Nat.le_of_not_lt hi), List.getElem?_replicate] at e
    split at e <;> cases e
theorem ok_mini {cl : Cl} {xr : XRel} {G : Ctx} {d i : Nat} {fdm : Fd} {x qual : Str} {st : Stmt} {f : Addr} {fd : FuncData} {N ps : List Str} (F : Fun B.K x qual st f fd) (S : FnScope N ps (defScope st)) (hxr : XrOk xr) (e : G.fs i = some fdm) (hp : ps.length = fdm.np) (hN : N.length = fdm.ns)
    (body : ∀ (cdv : Value) (A : Around) (fr : List Env) (s : Shared) (H : Hp) (E : XK), Room (2 * d + 1) (A.deeper (envOfC qual (defScope st) s.heap.objs.size f cdv)) → (A.deeper (envOfC qual (defScope st) s.heap.objs.size f cdv)).guards = some [] →
      PSs (cxOf (L2.CX B.P B.w) B.P B.w B.K B.mg B.base N qual (defScope st) f cdv A fr s H E) (defBody st) (tSs ⟨cl, xr, G, callF G d⟩ (WF E) fdm.body)) :
    FnG B (2 * (d + 1)) f fd ps (spF cl xr ps.length (callF G (d + 1) i)) := by
  refine okG F S (fun zs H Q E q => let ⟨_, _, _, _, _, l, _⟩ := q; l) fun cdv A fr s H zs Q E hr gu q => ⟨_, body cdv A fr s H E hr gu, ?_⟩
  obtain ⟨φ, h, ss, r, hs, l, m⟩ := q
  have hl := rps_len r
  simp only [callF, e] at m
  rw [if_pos (by rw [hl, l, hp])] at m
  refine ⟨φ, h, _, start_rpe r hN, hs, ?_⟩
  show DW _ _ _ φ H (exSs G (callF G d) (startE fdm.ns ss) h fdm.body)
  revert m
  cases exSs G (callF G d) (startE fdm.ns ss) h fdm.body with
  | bad => exact id
  | bk _ _ => exact fun m => m.elim
  | ct _ _ => exact fun m => m.elim
  | nx ρ1 h1 => exact fun m φ' H' σ' g hs' _ => m (φ'.take h.length) H' .non (g.take (by rw [hs.len]; exact Nat.le_refl _)) (hs'.take _) rs_non
  | ex c fs ρ1 h1 => exact fun m φ' H' k d σ' g hs' _ x => m (φ'.take h.length) H' k d (g.take (by rw [hs.len]; exact Nat.le_refl _)) (hs'.take _) (hxr _ _ _ _ _ _ _ (fun a o => off_take o) x)
  | rt s1 h1 =>
    intro m φ' H' v g hs' rv
    simp only [runF, retS] at m
    cases s1 with
    | t t =>
      refine m (φ'.take h.length) H' v (g.take (by rw [hs.len]; exact Nat.le_refl _)) (hs'.take _) ?_
      exact Rp.move (fun b w ob rr => ⟨off_take ob, rr⟩) rv
    | r n =>
      dsimp only at m
      by_cases hn : n < h.length
      · rw [if_pos hn] at m
        refine m (φ'.take h.length) H' v (g.take (by rw [hs.len]; exact Nat.le_refl _)) (hs'.take _) ⟨?_, fun a ea => ?_⟩
        · have : n < h1.length := by have := hs'.len; have := g.len; rw [hs.len] at this; omega
          rw [List.length_take]; have := hs'.len; omega
        · rw [List.getElem?_take_of_lt hn] at ea
          exact rv.2 a ea
      · rw [if_neg hn] at m
        cases eo : h1[n]? with
        | none => rw [eo] at m; exact m.elim
        | some o =>
          rw [eo] at m
          have live : o ≠ .dead := fun z => by subst z; exact m.elim
          obtain ⟨a, ev, ea, _⟩ := at_ref hs' rv eo live
          have go : MW cl xr (RpS cl) (fun k d _ H => E k d H) [] φ H (.ok (.r h.length) (h1.take h.length ++ [o])) Q := by
            cases o with
            | dead => exact (live rfl).elim
            | lst xs => exact m
            | dct ks vs => exact m
            | obj c ns vs => exact m
          subst ev
          have le : h.length ≤ n := Nat.le_of_not_lt hn
          refine go (φ'.top h.length a) H' _ (g.takeTop hs.len le ea) (hs'.takeTop le ea eo) ⟨?_, fun b eb => ?_⟩
          · have hh : (φ'.m.take h.length).length = h.length := by
              rw [List.length_take]
              have z1 := g.len
              have z2 : φ.m.length = h.length := hs.len
              omega
            simp [hh]
          · have hh : (φ'.m.take h.length).length = h.length := by
              rw [List.length_take]
              have z1 := g.len
              have z2 : φ.m.length = h.length := hs.len
              omega
            rw [List.getElem?_append_right (by rw [hh]; exact Nat.le_refl _), hh, Nat.sub_self] at eb
            cases eb
            rfl
end
end My

/-! MiniPy: built-in calls. -/
namespace My
open PySem L2 PyProof.Rows
section
variable {X : Cx} {Z : Zs} {W : WX} {a b : Expr} {ma mb : E} {p pos : Pos} {x : Str} {id : String}
theorem MW.imp {α β : Type} {rel : Phi → Hp → α → β → Prop} {σ : L2.St} {φ : Phi} {H : Hp} {r : R α} {Q Q' : β → Hp → Prop} (m : MW Z.cl Z.xr rel W σ φ H r Q) (k : ∀ v H', Q v H' → Q' v H') : MW Z.cl Z.xr rel W σ φ H r Q' := by
  cases r with
  | ok a h => exact fun φ' H' v g hs q => k v H' (m φ' H' v g hs q)
  | ex c fs h => exact m
  | bad => exact m
theorem one_arg {u : U} {σ : L2.St} {H : Hp} {Q : VK} (t : tE Z W (.un u ma) σ H Q) : tL Z W [ma] σ H fun vs H1 => rOne X Z.cl Z.G.sub u vs H1 Q := by
  refine t.seq (rel' := RpSs Z.cl) (f := fun ss ρ h1 => match ss with | [s] => (liftO (dref h1 s) h1).bind fun v h1 => (liftO (sem1 Z.G.sub u v) h1).bind fun w h1 => .ok (.t w) h1 | _ => .bad) (fun ρ h => ?_) fun ss h1 φ1 H1 vs ρ re hs r m => ?_
  · simp only [evE, evS]
    cases evE Z.G Z.C ρ h ma <;> rfl
  · match ss, vs, r, m with
    | [s], _, ⟨v, _, rfl, r1, rfl⟩, m =>
      obtain ⟨t, e1, m⟩ := m.lift
      obtain ⟨w, e2, m⟩ := m.lift
      exact ⟨v, rfl, _, _, _, _, _, _, _, hs, RpS.dref hs r1 e1, e2, m⟩
    | [], _, _, m => exact m.elim
    | _ :: _ :: _, _, _, m => exact m.elim
abbrev rTwo (X : Cx) (cl : Cl) (o : Bo) : List V → Hp → VK → Prop := fun vs H Q => ∃ x y, vs = [x, y] ∧ Two X cl o x y H Q
theorem two_arg {o : Bo} {σ : L2.St} {H : Hp} {Q : VK} (t : tE Z W (.bin o ma mb) σ H Q) : tL Z W [ma, mb] σ H fun vs H1 => rTwo X Z.cl o vs H1 Q := by
  refine t.seq (rel' := RpSs Z.cl) (f := fun ss ρ h2 => match ss with | [s, u] => (liftO (dref h2 s) h2).bind fun v h2 => (liftO (dref h2 u) h2).bind fun w h2 => (liftO (sem2 o v w) h2).bind fun z h2 => .ok (.t z) h2 | _ => .bad) (fun ρ h => ?_) fun ss h1 φ1 H1 vs ρ re hs r m => ?_
  · simp only [evE, evS]
    cases evE Z.G Z.C ρ h ma with
    | ok s h1 => simp only [R.bind_ok]; cases evE Z.G Z.C ρ h1 mb <;> rfl
    | ex _ _ _ => rfl
    | bad => rfl
  · match ss, vs, r, m with
    | [s, u], _, ⟨v, _, rfl, r1, ⟨v2, _, rfl, r2, rfl⟩⟩, m =>
      obtain ⟨t, e1, m⟩ := m.lift
      obtain ⟨t2, e2, m⟩ := m.lift
      obtain ⟨z, e3, m⟩ := m.lift
      exact ⟨v, v2, rfl, _, _, _, _, _, _, _, _, hs, RpS.dref hs r1 e1, RpS.dref hs r2 e2, e3, m⟩
    | [], _, _, m => exact m.elim
    | [_], _, _, m => exact m.elim
    | _ :: _ :: _ :: _, _, _, m => exact m.elim
/-- f(e), f a built-in function -/
theorem s_bf {u : U} (hc : CallR X (.builtin id) (rOne X Z.cl Z.G.sub u)) (hg : Gl X x) (hm : X.mg x = none) (hv : bootBuiltins x = some (.builtin id)) (ha : PA X [a] (tL Z W [ma])) (hn : x ≠ "__name__") (hd : (x == ("__debug__" : Str)) = false)
    (he : starEach [a] X.env = (false, eval a X.env) :: starEach [] X.env) (hp : (backTo pos (starEach [] X.env)).any (·.1) = false) : PE X (.Call (.Name x p) [a] [] pos) (tE Z W (.un u ma)) :=
  pe_weak (pe_callB hc hg hm hv ha hn hd he hp) fun _ _ _ t => one_arg t
/-- T(e), T a built-in type -/
theorem s_bt {u : U} (hc : CallR X (.type id) (rOne X Z.cl Z.G.sub u)) (hg : Gl X x) (hm : X.mg x = none) (hv : bootBuiltins x = some (.type id)) (ha : PA X [a] (tL Z W [ma])) (hn : x ≠ "__name__") (hd : (x == ("__debug__" : Str)) = false)
    (he : starEach [a] X.env = (false, eval a X.env) :: starEach [] X.env) (hp : (backTo pos (starEach [] X.env)).any (·.1) = false) : PE X (.Call (.Name x p) [a] [] pos) (tE Z W (.un u ma)) :=
  pe_weak (pe_callTy hc hg hm hv ha hn hd he hp) fun _ _ _ t => one_arg t
/-- f(e, d) -/
theorem s_bf2 {o : Bo} (hc : CallR X (.builtin id) (rTwo X Z.cl o)) (hg : Gl X x) (hm : X.mg x = none) (hv : bootBuiltins x = some (.builtin id)) (ha : PA X [a, b] (tL Z W [ma, mb])) (hn : x ≠ "__name__") (hd : (x == ("__debug__" : Str)) = false)
    (he : starEach [a, b] X.env = (false, eval a X.env) :: starEach [b] X.env) (hp : (backTo pos (starEach [b] X.env)).any (·.1) = false) : PE X (.Call (.Name x p) [a, b] [] pos) (tE Z W (.bin o ma mb)) :=
  pe_weak (pe_callB hc hg hm hv ha hn hd he hp) fun _ _ _ t => two_arg t
theorem fn_max {cl : Cl} (hc : X.calm = true) : CallR X (.builtin "max") (rTwo X cl .max) := fun pins s σ H vs us Q I r ⟨x, y, ev, xr, W, σ0, φ, h, t, u, z, hs, r1, r2, e, m⟩ => by
  cases t <;> cases u <;> first
    | (cases e; done)
    | skip
  cases e; cases r1; cases r2
  exact call_max2 hc pins s σ H _ us Q I r ⟨_, _, ev, nowInt m hs⟩
theorem fn_min {cl : Cl} (hc : X.calm = true) : CallR X (.builtin "min") (rTwo X cl .min) := fun pins s σ H vs us Q I r ⟨x, y, ev, xr, W, σ0, φ, h, t, u, z, hs, r1, r2, e, m⟩ => by
  cases t <;> cases u <;> first
    | (cases e; done)
    | skip
  cases e; cases r1; cases r2
  exact call_min2 hc pins s σ H _ us Q I r ⟨_, _, ev, nowInt m hs⟩
/-- isinstance(e, T), T a built-in type -/
theorem s_isi {ty : Ty} {n : String} {y : Str} {py : Pos} (co : ClsOk X.K Z.cl Z.G.sub) (hg : Gl X "isinstance") (hm : X.mg "isinstance" = none) (hgy : Gl X y) (hmy : X.mg y = none) (hvy : bootBuiltins y = some (.type n)) (ev : ty.val Z.cl = some (.type n)) (ha : PE X a (tE Z W ma)) (hny : y ≠ "__name__")
    (hdy : (y == ("__debug__" : Str)) = false) (he : starEach [a, .Name y py] X.env = (false, eval a X.env) :: starEach [.Name y py] X.env) (he2 : starEach [.Name y py] X.env = (false, eval (.Name y py) X.env) :: starEach [] X.env) (hp : (backTo pos (starEach [.Name y py] X.env)).any (·.1) = false) :
    PE X (.Call (.Name "isinstance" p) [a, .Name y py] [] pos) (tE Z W (.un (.isi [ty]) ma)) :=
  pe_weak (pe_callB (one_isi co ev (.ty n)) hg hm (by rfl) (pa_cons ha (pa_cons (pe_bltn (v := .ty n) hgy hmy hvy rfl hny hdy) pa_nil he2) he) (by decide) (by decide) he hp) fun σ H Q t => by
    obtain ⟨φ, h, ρ, re, hs, m⟩ := ev1 (X := X) t
    exact ⟨φ, h, ρ, re, hs, m.imp fun v H' q => ⟨v, rfl, q⟩⟩
/-- a list made of two -/
theorem s_catn (ha : PE X a (tE Z W ma)) (hb : PE X b (tE Z W mb)) : PE X (.BinOp a .Add b pos) (tE Z W (.catn ma mb)) := pe_weak (pe_op op_catR ha hb) fun σ H Q t => by
  refine t.seq (rel' := RpS Z.cl) (f := fun s ρ h1 => (evE Z.G Z.C ρ h1 mb).bind fun u h2 => (liftO (dref h2 s) h2).bind fun v h2 => (liftO (dref h2 u) h2).bind fun w h2 => (liftO (catL v w) h2).bind fun xs h2 => .ok (.r h2.length) (h2 ++ [.lst xs])) (fun ρ h => by simp only [evE]) fun s h1 φ1 H1 x ρ re hs r m => ?_
  refine ⟨φ1, h1, ρ, re, hs, m.bind fun u h2 φ2 H2 y _ g hs2 r2 m2 => ?_⟩
  obtain ⟨v, e1, m2⟩ := m2.lift
  obtain ⟨w, e2, m2⟩ := m2.lift
  obtain ⟨zs, e3, m2⟩ := m2.lift
  have q1 := RpS.dref hs2 (g.s r) e1
  have q2 := RpS.dref hs2 r2 e2
  cases v <;> cases w <;> first
    | (cases e3; done)
    | skip
  simp only [catL] at e3
  split at e3
  · rename_i hl
    cases e3
    obtain ⟨l, vs, ex, rd, p1⟩ := q1
    obtain ⟨k, ws, ey, rd2, p2⟩ := q2
    refine ⟨l, k, vs, ws, ex, ey, rd.rd, rd2.rd, by rw [← p1.length, ← p2.length]; exact lim_le hl, fun q nq => ?_⟩
    have pp : Rps Z.cl (Off φ2) H2 _ _ := Rps.append p1 p2
    have mv : ∀ b w, Off φ2 b → Rx H2 b w → Off (φ2.push q) b ∧ Rx (upd H2 q (.lst (vs ++ ws))) b w := fun b w ob r => ⟨off_push nq ob r, rd_upd nq r⟩
    have qq := Rps.move mv pp
    refine m2 (φ2.push q) _ _ (Grow.push nq) (hs2.push nq ⟨vs ++ ws, upd_same, qq⟩) ⟨by simp [hs2.len], fun a e => ?_⟩
    rw [← hs2.len] at e
    simpa using e
  · cases e3
/-- xs.append(e) -/
theorem s_app {apos cpos : Pos} (ha : PE X a (tE Z W ma)) (hb : PA X [b] (tL Z W [mb])) (hbase : attributeBase a "append" X.env (eval a X.env) = eval a X.env)
    (hfew : ((backTo cpos (starEach [b] X.env)).all (fun x => !x.1) && (backToKw cpos (keywordEach [] X.env)).all (fun x => x.1.isSome) && decide ([b].length + ([] : List Keyword).length + (if ([] : List Keyword).isEmpty then 0 else 1) < 30)) = true)
    (hline : (apos.endLine == cpos.line) = true) (hs : starEach [b] X.env = (false, eval b X.env) :: starEach [] X.env) (hp : (backTo cpos (starEach [] X.env)).any (·.1) = false) :
    PE X (.Call (.Attribute a "append" apos) [b] [] cpos) (tE Z W (.app ma mb)) :=
  pe_weak (pe_bm PySem.F.plainAttrs_list PySem.F.slot_list_append PySem.F.type_list_append mt_append ha hb hbase hfew hline hs hp) fun _ _ _ t => evApp t
end
end My

/-! MiniPy: from a def's promise to the row. -/
namespace My
open PySem PySem.Spec L2 PyProof.Rows
open PySem.W (WData Codec OpenSpec WellAll ReadsW)
section
variable {l : Program} {w : World} {K : PySem.W.Frag} {mg mb : Str → Option Value}
/-- the claimed call, from the promise of the def -/
theorem the_call {k : Nat} {fa : Addr} {fd : FuncData} {ps : List Str} {sp : Sp} {s1 : Shared} {us : List Value} {ds : List WData} {R : PySem.W.WRecords} {cl : Str → Option Addr} {d0 : WData} (kin : K.In s1.heap) (ng : s1.heap.Ns mainGlobals mg) (nb : s1.heap.Ns builtinsNs mb)
    (boot : ∀ x : Str, x ≠ "__name__" → mb x = bootBuiltins x) (nolim : s1.heap.NoLimit) (gens : s1.gens = #[]) (well : WellAll w.params s1.heap us ds) (plain : plWs ds = true) (small : ∀ d ∈ ds, d.weight ≤ 1048576) (room : Room k callerA)
    (F : ∀ base : Heap, K.In base → base.Ns mainGlobals mg → FnG ⟨l, w, K, mg, base⟩ k fa fd ps sp) (binds : ∀ (s : Shared) (us : List Value), us.length = ps.length → BindsTo s fd ⟨us, []⟩ (ps.zip us)) (n : ds.length = ps.length)
    (pure : ∀ (H : Hp) (zs : List V), OnlyF H → DwAll K H zs ds → sp zs H (fun v H' => Dw K H' v d0) fun _ _ _ => False) :
    codeAny (model l w) callerA (.call (.ref fa) ⟨us, []⟩) (fun r s' => ∃ u as, r = .ok (.ret u) ∧ ReadsW R cl s'.heap u d0 as ∧ OldK s1.heap s'.heap ∧ s'.os = s1.os ∧ AllBare s'.gens) s1 := by
  obtain ⟨A, okA, area⟩ := area_all ds us well plain small
  have only : OnlyF (argH K s1.heap A) := argH_only area
  have hok : HOk l w (argH K s1.heap A) s1.heap := argH_ok area
  have dw := dw_all kin area ds us well plain okA
  have vals := vals_toV okA
  have outK : ∀ b u, argH K s1.heap A b = some u → K.lookup b = none := fun b u q => (argH_is area q).1
  have noDict : ∀ {b : Addr} {o : Obj} {es : Array DictEntry} {ep : Nat}, s1.heap.get? b = some o → o.data = .dict es ep → argH K s1.heap A b = none := by
    intro b o es ep e d
    cases q : argH K s1.heap A b with
    | none => rfl
    | some u =>
      obtain ⟨_, vs, _, _, z⟩ := argH_is area q
      rcases z with ⟨z, _⟩ | ⟨z, _⟩ <;> (rw [z] at e; cases e; cases (show Data.seq vs.toArray _ = Data.dict es ep from d))
  generalize argH K s1.heap A = H at only hok dw outK noDict
  have inH : ∀ {b : Addr} {o : Obj}, s1.heap.get? b = some o → H b = none → (hidT s1.heap H).get? b = some o := fun e z => hidT_get e z
  have nsH : ∀ {b : Addr} {m : Str → Option Value}, s1.heap.Ns b m → (hidT s1.heap H).Ns b m := fun {b m} q => by
    obtain ⟨o, es, ep, e, d, r⟩ := q
    exact ⟨o, es, ep, inH e (noDict e d), d, r⟩
  have freeK : ∀ b o, K.lookup b = some o → H b = none := fun b o e => by
    cases q : H b with
    | none => rfl
    | some u => have z := outK b u q; rw [z] at e; cases e
  have kinH : K.In (hidT s1.heap H) := fun b o e => inH (kin b o e) (freeK b o e)
  have md : Mod K mg (hidT s1.heap H) := by
    obtain ⟨mc, h1, h2⟩ := nolim
    exact ⟨kinH, nsH ng, ⟨mb, nsH nb, boot⟩, ⟨mc, nsH h1, h2⟩⟩
  have e0 : Env0 l w K mg (hidT s1.heap H) callerA [] s1 H := by
    refine ⟨rfl, md, fun b o e => of_hidT e, Nat.le_of_eq (hidT_size _ _), trivial, fun b z => ?_, hok, .of_eq gens⟩
    exact absurd (show b ∈ ([] : List Addr) from z) (by simp)
  have nu : us.length = ps.length := (wellAll_len well).trans n
  refine codeAny_mono ((F _ kinH (nsH ng)).run callerA [] s1 H ⟨us, []⟩ us (us.map toV) _ _ room rfl e0 (binds s1 us nu) vals (pure H _ only dw)) fun r s' x => ?_
  match r, x with
  | .error e, ⟨_, _, _, _, _, _, _, _, _, _, _, _, z⟩ => exact z.elim
  | .ok .next, x => exact x.elim
  | .ok .brk, x => exact x.elim
  | .ok .cont, x => exact x.elim
  | .ok (.ret u), ⟨v, H', os, bare, un, hok', rv, q⟩ =>
    have kept : ∀ b o, s1.heap.get? b = some o → s'.heap.get? b = some o := fun b o e => by
      cases qb : H b with
      | none => exact un.keep b o e qb (by intro z; exact absurd (show b ∈ ([] : List Addr) from z) (by simp)) (by simp)
      | some u2 =>
        rcases only b with z | ⟨ob, u3, z⟩
        · rw [qb] at z; cases z
        · obtain ⟨e1, _⟩ := hok b _ z
          obtain ⟨e2, _⟩ := hok' b _ (un.frzs b ob _ z)
          rw [e] at e1
          cases e1
          exact e2
    obtain ⟨as, rd⟩ := Dw.reads (R := R) (cl := cl) hok' (fun b o e => kept b o (kin b o e)) d0 v u q rv
    exact ⟨u, as, rfl, rd, OldK.of_keep kept, os, bare⟩
end
/-- the goal that the head leaves, from the promise of the row's def -/
theorem the_walk {r : OpenSpec} {k : Nat} {q : Program} {loose : List Str} {XP : (Str → Option Value) → Heap → Prop} {YP : World → Heap → Prop} {d : DefRec} {K : Params → PySem.W.Frag} {ps : List Str} {sp : World → Sp}
    (said : r.wellSaid = true) (nodef : d.params.defaults = []) (n : r.args.length = ps.length) (room : Room k callerA) (hY : ∀ (w : World) (h : Heap), YP w h → (K w.params).In h)
    (F : ∀ (w : World) (mg : Str → Option Value) (fa : Addr) (h : Heap), YP w h → (K w.params).In h → h.Ns mainGlobals mg → mg d.name = some (.ref fa) →
      ∃ fd : FuncData, (∀ (s : Shared) (us : List Value), us.length = ps.length → BindsTo s fd ⟨us, []⟩ (ps.zip us)) ∧ ∀ base : Heap, (K w.params).In base → base.Ns mainGlobals mg → FnG ⟨r.prog, w, K w.params, mg, base⟩ k fa fd ps (sp w))
    (pure : ∀ (w : World) (H : Hp) (zs : List V) (a : Codec.denoteAll r.args), OnlyF H → Codec.withinAll r.args a = true → Codec.app r.args r.asked a = true → DwAll (K w.params) H zs (Codec.encAll r.args a) →
      sp w zs H (fun v H' => Dw (K w.params) H' v (r.ret.enc (Codec.app r.args r.f a))) fun _ _ _ => False) :
    PySem.W.WalkOS q loose XP YP r d [] (fun f vs => PySem.call f vs) := by
  intro w s0 s1 mg mb G Y fa o pm cd doc dV kV ho hd hcd hD hmg hg args vals as hpre hlay hrd hwl hlo
  obtain ⟨a, e1, e2⟩ := PySem.W.os_pre_some hpre
  obtain ⟨rfl, within⟩ := Codec.encAll_of_decAll r.args args a e1
  have kin := hY w _ Y
  obtain ⟨fd, hb, hF⟩ := F w mg fa _ Y kin G.T.g hmg
  refine PySem.W.enter_call (codeAny_mono (the_call (R := []) (cl := classAt s0.heap) (d0 := r.ret.enc (Codec.app r.args r.f a)) kin G.T.g G.T.b G.T.builtins G.T.nolimit hg hwl (pl_encAll _ _) (layable_weight hlay) room hF hb
    (by rw [encAll_len]; exact n) fun H zs hO hS => pure w H zs a hO within e2 hS) fun res s' z => ?_)
  obtain ⟨u, as', rfl, h1, h2, h3, h4⟩ := z
  exact ⟨.inl ⟨u, _, as', rfl, fun _ => rfl, h1, (OpenSpec.post_iff said within _ _).mpr rfl, fun z => Bool.noConfusion (show false = true from z)⟩, h2, h3, h4⟩
/-! ### a law: its one argument is a list of whole numbers -/
def noLst (K : PySem.W.Frag) : Bool := K.all fun p => match p.2.cls with
  | .type n => n != "list"
  | _ => true
theorem noLst_at : ∀ {K : PySem.W.Frag} {a : Addr} {o : Obj}, noLst K = true → K.lookup a = some o → o.cls ≠ .type "list"
  | [], a, o, _, e => by cases e
  | (b, u) :: K, a, o, h, e => by
    unfold noLst at h
    rw [List.all_cons, Bool.and_eq_true] at h
    unfold List.lookup at e
    split at e
    · cases e
      intro z
      have h1 := h.1
      rw [z] at h1
      exact absurd h1 (by decide)
    · exact noLst_at (K := K) h.2 e
section
variable {l : Program} {w : World} {K : PySem.W.Frag} {mg mb : Str → Option Value}
theorem the_script {k : Nat} {fa a : Addr} {fd : FuncData} {x : Str} {sp : Sp} {s1 : Shared} {us : List Value} {ns : List Int} (kin : K.In s1.heap) (ng : s1.heap.Ns mainGlobals mg) (nb : s1.heap.Ns builtinsNs mb)
    (boot : ∀ x : Str, x ≠ "__name__" → mb x = bootBuiltins x) (nolim : s1.heap.NoLimit) (gens : s1.gens = #[]) (ha : s1.heap.get? a = some { cls := .type "list", data := .seq us.toArray }) (itg : IntsAre us ns) (short : ns.length ≤ sizeLine) (room : Room k callerA) (nl : noLst K = true)
    (F : ∀ base : Heap, K.In base → base.Ns mainGlobals mg → FnG ⟨l, w, K, mg, base⟩ k fa fd [x] sp) (binds : ∀ (s : Shared) (u : Value), BindsTo s fd ⟨[u], []⟩ [(x, u)])
    (pure : ∀ H : Hp, (∃ o, H a = some (.frz o (.lst (ns.map V.int)))) → sp [.ref a] H (fun v _ => v = .bl true) fun _ _ _ => False) :
    codeAny (model l w) callerA (.call (.ref fa) ⟨[.ref a], []⟩) (fun r s' => r = .ok (.ret (.bool true)) ∧ OldK s1.heap s'.heap ∧ s'.os = s1.os ∧ AllBare s'.gens) s1 := by
  have hk : K.lookup a = none := by
    cases e : K.lookup a with
    | none => rfl
    | some o =>
      have z := kin a o e
      rw [ha] at z
      cases z
      exact absurd rfl (noLst_at nl e)
  have rv := vals_ints itg
  obtain ⟨H, hH⟩ : ∃ H : Hp, H = fun b => if b = a then some (.frz { cls := .type "list", data := .seq us.toArray } (.lst (ns.map V.int))) else none := ⟨_, rfl⟩
  have atA : H a = some (.frz { cls := .type "list", data := .seq us.toArray } (.lst (ns.map V.int))) := by rw [hH]; exact if_pos rfl
  have off : ∀ b, b ≠ a → H b = none := fun b hb => by rw [hH]; exact if_neg hb
  have hok : HOk l w H s1.heap := fun b u z => by
    by_cases hb : b = a
    · subst hb
      rw [atA] at z
      cases z
      exact ⟨ha, by rw [List.length_map]; exact short, us, _, rv, ha⟩
    · rw [off b hb] at z; cases z
  have inH : ∀ {b : Addr} {o : Obj}, s1.heap.get? b = some o → H b = none → (hidT s1.heap H).get? b = some o := fun e z => hidT_get e z
  have nsH : ∀ {b : Addr} {m : Str → Option Value}, s1.heap.Ns b m → (hidT s1.heap H).Ns b m := fun {b m} q => by
    obtain ⟨o, es, ep, e, d, r⟩ := q
    refine ⟨o, es, ep, inH e (off b fun z => ?_), d, r⟩
    subst z
    rw [ha] at e
    cases e
    cases (show Data.seq us.toArray _ = Data.dict es ep from d)
  have kinH : K.In (hidT s1.heap H) := fun b o e => inH (kin b o e) (off b fun z => by rw [z, hk] at e; cases e)
  have md : Mod K mg (hidT s1.heap H) := by
    obtain ⟨mc, h1, h2⟩ := nolim
    exact ⟨kinH, nsH ng, ⟨mb, nsH nb, boot⟩, ⟨mc, nsH h1, h2⟩⟩
  have e0 : Env0 l w K mg (hidT s1.heap H) callerA [] s1 H := by
    refine ⟨rfl, md, fun b o e => of_hidT e, Nat.le_of_eq (hidT_size _ _), trivial, fun b z => ?_, hok, .of_eq gens⟩
    exact absurd (show b ∈ ([] : List Addr) from z) (by simp)
  refine codeAny_mono ((F _ kinH (nsH ng)).run callerA [] s1 H ⟨[.ref a], []⟩ [.ref a] [.ref a] _ _ room rfl e0 (binds s1 (.ref a)) (.cons rfl .nil) (pure H ⟨_, atA⟩)) fun r s' z => ?_
  match r, z with
  | .error e, ⟨_, _, _, _, _, _, _, _, _, _, _, _, z⟩ => exact z.elim
  | .ok .next, z => exact z.elim
  | .ok .brk, z => exact z.elim
  | .ok .cont, z => exact z.elim
  | .ok (.ret u), ⟨v, H', os, bare, un, hok', r1, q⟩ =>
    cases (show v = .bl true from q)
    cases (show u = Value.bool true from r1)
    refine ⟨rfl, OldK.of_keep fun b o e => ?_, os, bare⟩
    by_cases hb : b = a
    · subst hb
      have z2 := un.frzs b _ _ atA
      obtain ⟨e2, _⟩ := hok' b _ z2
      rw [ha] at e
      cases e
      exact e2
    · exact un.keep b o e (off b hb) (by intro z; exact absurd (show b ∈ ([] : List Addr) from z) (by simp)) (by simp)
end
/-- the goal that the head leaves of a law -/
theorem the_law {l : PySem.W.OpenLaw} {n k : Nat} {q : Program} {loose : List Str} {XP : (Str → Option Value) → Heap → Prop} {YP : World → Heap → Prop} {d : DefRec} {K : Params → PySem.W.Frag} {sp : World → Sp} {x : Str} (hn : l.most = some n) (hn2 : n ≤ sizeLine) (nodef : d.params.defaults = []) (room : Room k callerA)
    (hY : ∀ (w : World) (h : Heap), YP w h → (K w.params).In h) (nl : ∀ w : World, noLst (K w.params) = true)
    (F : ∀ (w : World) (mg : Str → Option Value) (fa : Addr) (h : Heap), (K w.params).In h → h.Ns mainGlobals mg → mg d.name = some (.ref fa) →
      ∃ fd : FuncData, (∀ (s : Shared) (u : Value), BindsTo s fd ⟨[u], []⟩ [(x, u)]) ∧ ∀ base : Heap, (K w.params).In base → base.Ns mainGlobals mg → FnG ⟨l.prog, w, K w.params, mg, base⟩ k fa fd [x] (sp w))
    (pure : ∀ (w : World) (H : Hp) (a : Addr) (ns : List Int), ns.length ≤ n → (∃ o, H a = some (.frz o (.lst (ns.map V.int)))) → sp w [.ref a] H (fun v _ => v = .bl true) fun _ _ _ => False) :
    PySem.W.WalkO q loose XP YP l.row.toRowW d [] (fun f vs => PySem.call f vs) := by
  refine Att.attach_call hn nodef fun w s0 s1 mg mb fa o pm cd doc a us ns G Y ho hd hcd hmg hobj hints hlen hg => ?_
  have kin := hY w _ Y
  obtain ⟨fd, hb, hF⟩ := F w mg fa _ kin G.T.g hmg
  exact the_script kin G.T.g G.T.b G.T.builtins G.T.nolimit hg hobj hints (Nat.le_trans hlen hn2) room (nl w) hF hb fun H z => pure w H a ns hlen z
/-- what the mini program must say of the law -/
theorem law_sp {cl : Cl} {xr : XRel} {G : Ctx} {d i : Nat} {H : Hp} {a : Addr} {ns : List Int} (h : ∃ o, H a = some (.frz o (.lst (ns.map V.int)))) (run : ∃ h', callF G d i [.t (.lst (ns.map T.int))] [] = .ok (.t (.bl true)) h') :
    spF cl xr 1 (callF G d i) [.ref a] H (fun v _ => v = .bl true) fun _ _ _ => False := by
  obtain ⟨o, ho⟩ := h
  obtain ⟨h', e⟩ := run
  have ri : ∀ ns : List Int, Rps cl (Off ⟨[], []⟩) H (ns.map T.int) (ns.map V.int) := fun ns => by
    induction ns with
    | nil => exact .nil
    | cons n ns ih => exact .cons (by rw [Rp]) ih
  refine ⟨⟨[], []⟩, [], [.t (.lst (ns.map T.int))], ⟨_, _, rfl, ?_, rfl⟩, ⟨rfl, fun n o z => by simp at z, fun n m a z => by simp at z, fun a z => by simp at z⟩, rfl, ?_⟩
  · show RpF cl ⟨[], []⟩ H _ _
    rw [RpF, Rp]
    exact ⟨a, _, rfl, ⟨by simp, by simp⟩, .inr ⟨rfl, o, ho⟩, ri ns⟩
  · rw [e]
    intro φ' H' v g hs r
    have q : RpF cl φ' H' (.bl true) v := r
    rw [RpF, Rp] at q
    exact q
end My

/-! MiniPy: the rules in short, their side conditions looked at by themselves. -/
namespace My
open PySem L2 PyProof.Rows
theorem u1 {k : Nat} {A : Around} (r : Room k A) : A.units + 1 < cLine := by have := r.un; omega
theorem u64 {k : Nat} {A : Around} (r : Room k A) : A.units + 64 < cLine := by have := r.un; omega
theorem u65 {k : Nat} {A : Around} (r : Room k A) : A.units + 65 < cLine := by have := r.un; omega
theorem u70 {k : Nat} {A : Around} (r : Room k A) : A.units + 70 < cLine := by have := r.un; omega
namespace Q
section
variable {X : Cx} {Z : Zs} {W : WX} {a b c : Expr} {ma mb mc : E} {p pos : Pos} {x : Str} {es : List Expr} {ms : List E}
theorem v (i : Nat) {x : Str} {pos : Pos} (hN : X.N[i]? = some x := by rfl) (hv : Vis X.env.scope x := by first | exact Or.inl rfl | exact Or.inr (Or.inl rfl) | exact Or.inr (Or.inr rfl)) (hd : (x == ("__debug__" : Str)) = false := by decide)
    (hc : (x == ("__classdict__" : Str)) = false := by decide) : PE X (.Name x pos) (tE Z W (.var i)) := s_var hN hv hd hc
theorem cons (ha : PE X a (tE Z W ma)) (hr : PA X es (tL Z W ms)) (he : starEach (a :: es) X.env = (false, eval a X.env) :: starEach es X.env := by rfl) : PA X (a :: es) (tL Z W (ma :: ms)) := sl_cons ha hr he
theorem consT (ha : PE X a (tE Z W ma)) (hr : PA X es (tLT Z W ms)) (he : starEach (a :: es) X.env = (false, eval a X.env) :: starEach es X.env := by rfl) : PA X (a :: es) (tLT Z W (ma :: ms)) := slT_cons ha hr he
theorem op {o : Bo} {po : Operator} (ho : OpR X (binaryOp po) (Two X Z.cl o)) (ha : PE X a (tE Z W ma)) (hb : PE X b (tE Z W mb)) : PE X (.BinOp a po b pos) (tE Z W (.bin o ma mb)) := s_bin ho ha hb
theorem cmp {o : Bo} {po : CmpOp} (ho : OpR X (compareOp po) (Two X Z.cl o)) (ha : PE X a (tE Z W ma)) (hb : PE X b (tE Z W mb)) (hm : behindInMarks po b = false := by rfl) : PE X (.Compare a [po] [b] pos) (tE Z W (.bin o ma mb)) := s_cmp ho ha hb hm
theorem tcmp {o : Bo} {po : CmpOp} (ho : OpR X (compareOp po) (Two X Z.cl o)) (ha : PE X a (tE Z W ma)) (hb : PE X b (tE Z W mb)) (hm : behindInMarks po b = false := by rfl) : PT X (.Compare a [po] [b] pos) (tB' Z W (.bin o ma mb)) := st_cmp ho ha hb hm
theorem ch {o q : Bo} {po pp : CmpOp} (ho : OpR X (compareOp po) (Two X Z.cl o)) (hp : OpR X (compareOp pp) (Two X Z.cl q)) (ha : PE X a (tE Z W ma)) (hb : PE X b (tE Z W mb)) (hc : PE X c (tE Z W mc)) (hm : lastMarks [po, pp] [b, c] = false := by rfl) :
    PE X (.Compare a [po, pp] [b, c] pos) (tE Z W (.ch o q ma mb mc)) := s_ch ho hp ha hb hc hm
theorem tch {o q : Bo} {po pp : CmpOp} (ho : OpR X (compareOp po) (Two X Z.cl o)) (hp : OpR X (compareOp pp) (Two X Z.cl q)) (ha : PE X a (tE Z W ma)) (hb : PE X b (tE Z W mb)) (hc : PE X c (tE Z W mc)) (hm : lastMarks [po, pp] [b, c] = false := by rfl) :
    PT X (.Compare a [po, pp] [b, c] pos) (tB' Z W (.ch o q ma mb mc)) := st_ch ho hp ha hb hc hm
theorem tv (h : PE X a (tE Z W ma)) (he : ∀ whole, isTrue a X.env whole = (do let v ← whole; standAt a.pos; holding [v] (truthy v)) := by intro _; rfl) : PT X a (tB' Z W ma) := st_val h he
theorem neg (ha : PE X a (tE Z W ma)) : PE X (.UnaryOp .USub a pos) (tE Z W (.un .neg ma)) := s_un one_neg ha
theorem tpw {e : Expr} {t : TT} (h : PW X e t) : PT X e t := h.pt
theorem tand2 (ha : PT X a (tB' Z W ma)) (hb : PT X b (tB' Z W mb)) : PT X (.BoolOp .And [a, b] pos) (tB' Z W (.and ma mb)) := (sw_and2 ha hb).pt
theorem tor2 (ha : PT X a (tB' Z W ma)) (hb : PT X b (tB' Z W mb)) : PT X (.BoolOp .Or [a, b] pos) (tB' Z W (.or ma mb)) := (sw_or2 ha hb).pt
theorem idx {k : Nat} (hr : Room k X.A) (ha : PE X a (tE Z W ma)) (hb : PE X b (tE Z W mb)) (hs : PlainIx b := by intro _ _; rfl) : PE X (.Subscript a b pos) (tE Z W (.bin .idx ma mb)) :=
  pe_weak (pe_ix (two_idx (u65 hr)) ha hb hs) fun _ _ _ t => ev2 t
theorem tup {k : Nat} (h : PA X es (tLT Z W ms)) (hl : ms.length ≤ 1000 := by decide) : PE X (.Tuple es k pos) (tE Z W (.tup ms)) := s_tup hl h
theorem lst (h : PA X es (tLT Z W ms)) (hl : ms.length ≤ 1000 := by decide) : PE X (.List es pos) (tE Z W (.lst ms)) := s_lst hl h
theorem newl (h : PA X es (tLT Z W ms)) (hl : ms.length ≤ 1000 := by decide) : PE X (.List es pos) (tE Z W (.newl ms)) := s_newl hl h
theorem bf {u : U} {id : String} (hc : CallR X (.builtin id) (rOne X Z.cl Z.G.sub u)) (hm : X.mg x = none) (ha : PA X [a] (tL Z W [ma])) (hg : Gl X x := by rfl) (hv : bootBuiltins x = some (.builtin id) := by rfl) (hn : x ≠ "__name__" := by decide) (hd : (x == ("__debug__" : Str)) = false := by decide)
    (he : starEach [a] X.env = (false, eval a X.env) :: starEach [] X.env := by rfl) (hp : (backTo pos (starEach [] X.env)).any (·.1) = false := by rfl) : PE X (.Call (.Name x p) [a] [] pos) (tE Z W (.un u ma)) := s_bf hc hg hm hv ha hn hd he hp
theorem bt {u : U} {id : String} (hc : CallR X (.type id) (rOne X Z.cl Z.G.sub u)) (hm : X.mg x = none) (ha : PA X [a] (tL Z W [ma])) (hg : Gl X x := by rfl) (hv : bootBuiltins x = some (.type id) := by rfl) (hn : x ≠ "__name__" := by decide) (hd : (x == ("__debug__" : Str)) = false := by decide)
    (he : starEach [a] X.env = (false, eval a X.env) :: starEach [] X.env := by rfl) (hp : (backTo pos (starEach [] X.env)).any (·.1) = false := by rfl) : PE X (.Call (.Name x p) [a] [] pos) (tE Z W (.un u ma)) := s_bt hc hg hm hv ha hn hd he hp
theorem bf2 {o : Bo} {id : String} (hc : CallR X (.builtin id) (rTwo X Z.cl o)) (hm : X.mg x = none) (ha : PA X [a, b] (tL Z W [ma, mb])) (hg : Gl X x := by rfl) (hv : bootBuiltins x = some (.builtin id) := by rfl) (hn : x ≠ "__name__" := by decide) (hd : (x == ("__debug__" : Str)) = false := by decide)
    (he : starEach [a, b] X.env = (false, eval a X.env) :: starEach [b] X.env := by rfl) (hp : (backTo pos (starEach [b] X.env)).any (·.1) = false := by rfl) : PE X (.Call (.Name x p) [a, b] [] pos) (tE Z W (.bin o ma mb)) := s_bf2 hc hg hm hv ha hn hd he hp
theorem isi (ty : Ty) {n : String} {y : Str} {py : Pos} (co : ClsOk X.K Z.cl Z.G.sub) (hm : X.mg "isinstance" = none) (hmy : X.mg y = none) (ha : PE X a (tE Z W ma)) (hg : Gl X "isinstance" := by rfl) (hgy : Gl X y := by rfl) (hvy : bootBuiltins y = some (.type n) := by rfl) (ev : ty.val Z.cl = some (.type n) := by rfl) (hny : y ≠ "__name__" := by decide)
    (hdy : (y == ("__debug__" : Str)) = false := by decide) (he : starEach [a, .Name y py] X.env = (false, eval a X.env) :: starEach [.Name y py] X.env := by rfl) (he2 : starEach [.Name y py] X.env = (false, eval (.Name y py) X.env) :: starEach [] X.env := by rfl) (hp : (backTo pos (starEach [.Name y py] X.env)).any (·.1) = false := by rfl) :
    PE X (.Call (.Name "isinstance" p) [a, .Name y py] [] pos) (tE Z W (.un (.isi [ty]) ma)) := s_isi co hg hm hgy hmy hvy ev ha hny hdy he he2 hp
theorem app {apos cpos : Pos} (ha : PE X a (tE Z W ma)) (hb : PE X b (tE Z W mb)) (hbase : attributeBase a "append" X.env (eval a X.env) = eval a X.env := by rfl)
    (hfew : ((backTo cpos (starEach [b] X.env)).all (fun x => !x.1) && (backToKw cpos (keywordEach [] X.env)).all (fun x => x.1.isSome) && decide ([b].length + ([] : List Keyword).length + (if ([] : List Keyword).isEmpty then 0 else 1) < 30)) = true := by rfl)
    (hline : (apos.endLine == cpos.line) = true := by rfl) (hs : starEach [b] X.env = (false, eval b X.env) :: starEach [] X.env := by rfl) (hp : (backTo cpos (starEach [] X.env)).any (·.1) = false := by rfl) :
    PE X (.Call (.Attribute a "append" apos) [b] [] cpos) (tE Z W (.app ma mb)) := s_app ha (sl_cons hb sl_nil hs) hbase hfew hline hs hp
theorem call {i k j : Nat} {e : Expr} (c : CalG X.pk Z j x i ms.length) (hr : Room k X.A) (gu : X.A.guards = some []) (tk : Takes X W) (ha : PA X (e :: es) (tL Z W ms)) (hj : j ≤ k := by omega) (hg : Gl X x := by rfl) (hd : (x == ("__debug__" : Str)) = false := by decide)
    (he : starEach (e :: es) X.env = (false, eval e X.env) :: starEach es X.env := by rfl) (hp : (backTo pos (starEach es X.env)).any (·.1) = false := by rfl) : PE X (.Call (.Name x p) (e :: es) [] pos) (tE Z W (.call i ms)) := s_call c (hr.mono hj) gu tk hg ha hd he hp
theorem call0 {i k j : Nat} (c : CalG X.pk Z j x i 0) (hr : Room k X.A) (gu : X.A.guards = some []) (tk : Takes X W) (hj : j ≤ k := by omega) (hg : Gl X x := by rfl) (hd : (x == ("__debug__" : Str)) = false := by decide) :
    PE X (.Call (.Name x p) [] [] pos) (tE Z W (.call i [])) := s_call0 c (hr.mono hj) gu tk hg hd
theorem nm (i : Nat) {px : Pos} (hN : X.N.Nodup) (hi : X.N[i]? = some x := by rfl) (hx : Loc X.env.scope x := by first | exact Or.inl rfl | exact Or.inr rfl) (hf : X.fn x = true ∨ X.env.scope.names.lookup x = some .local := by first | exact Or.inl rfl | exact Or.inr rfl) :
    PG X (.Name x px) (tTg Z W (.name i)) := sg_name hN hi hx hf
theorem nms (i : Nat) {is : List Nat} {px : Pos} (hN : X.N.Nodup) (h : PGs X es (tTgs Z is)) (hi : X.N[i]? = some x := by rfl) (hx : Loc X.env.scope x := by first | exact Or.inl rfl | exact Or.inr rfl) (hf : X.fn x = true ∨ X.env.scope.names.lookup x = some .local := by first | exact Or.inl rfl | exact Or.inr rfl) :
    PGs X (.Name x px :: es) (tTgs Z (i :: is)) := sgs_cons hN hi hx hf h
theorem gtup {is : List Nat} {kk : Nat} {px : Pos} (h : PGs X es (tTgs Z is)) (hc : X.calm = true := by rfl) (hn : (assignEach es X.env).length = is.length := by rfl) (hst : (assignEach es X.env).findIdx? (·.1) = none := by rfl) : PG X (.Tuple es kk px) (tTg Z W (.tup is)) := sg_tup hc h hn hst
theorem rng1 {tg : Expr} (hm : X.mg "range" = none) (ha : PA X [a] (tL Z W [ma])) (hg : Gl X "range" := by rfl) (hs : starEach [a] X.env = [(false, eval a X.env)] := by rfl) : PI X tg (.Call (.Name "range" p) [a] [] pos) (tI Z W (.rng1 ma)) := si_rng1 hg hm ha hs
theorem rng2 {tg : Expr} (hm : X.mg "range" = none) (ha : PA X [a, b] (tL Z W [ma, mb])) (hg : Gl X "range" := by rfl) (hs : starEach [a, b] X.env = [(false, eval a X.env), (false, eval b X.env)] := by rfl) (hs2 : starEach [b] X.env = [(false, eval b X.env)] := by rfl) :
    PI X tg (.Call (.Name "range" p) [a, b] [] pos) (tI Z W (.rng2 ma mb)) := si_rng2 hg hm ha hs hs2
theorem comp (own : List (Str × Nat)) {tg : Tg} {it : It} {cs : List E} {e : E} {elt tgE iter : Expr} {ifs : List Expr} {scope : Scope} (hN : X.N.Nodup) (hi : PI X tgE iter (tI Z W it)) (ok : BlkOk X.N X.env.scope scope own)
    (hg : ∀ (s : Shared) (H : Hp) (C : Addr) (cl : List (Str × Addr)) (fp : List Addr), PG (X.blk s H scope (compEnvC scope cl C X.env) fp) tgE (tTg Z W0 tg))
    (ht : ∀ (s : Shared) (H : Hp) (C : Addr) (cl : List (Str × Addr)) (fp : List Addr), PTs (X.blk s H scope (compEnvC scope cl C X.env) fp) ifs (tCs Z W0 cs))
    (he : ∀ (s : Shared) (H : Hp) (C : Addr) (cl : List (Str × Addr)) (fp : List Addr), PE (X.blk s H scope (compEnvC scope cl C X.env) fp) elt (tE Z W0 e))
    (hc : X.calm = true := by rfl) (hsl : ∀ i ∈ tg.slots, i ∈ own.map (·.2) := by decide) (hf : ∀ x, foldedSetIterable iter X.env x = pure x := by intro _; rfl) :
    PE X (.ListComp elt [⟨tgE, iter, ifs, 0⟩] scope pos) (tE Z W (.comp (own.map (·.2)) tg it cs e)) := s_comp hc hN hi ok hg ht he hsl hf
theorem asg {tg : Tg} {tgE e : Expr} (hg : PG X tgE (tTg Z W tg)) (he : PE X e (tE Z W ma)) (hs : swapsWithSole [tgE] e pos.line X.env = pure false := by rfl) (hw : swappedStores [tgE] e X.env = pure none := by rfl)
    (h1 : (assignEach [tgE] X.env).map (·.2) = [assign tgE X.env] := by rfl) : PS X (.Assign [tgE] e pos) (tS Z W (.asg tg ma)) := s_asg he hg hs hw h1
theorem asgC (i : Nat) {y : Str} {py : Pos} {spos : Pos} (own : List (Str × Nat)) {tg : Tg} {it : It} {cs : List E} {e : E} {elt tgE iter : Expr} {ifs : List Expr} {scope : Scope} (hN : X.N.Nodup) (hi : PI X tgE iter (tI Z W it)) (ok : BlkOk X.N X.env.scope scope own)
    (hg : ∀ (s : Shared) (H : Hp) (C : Addr) (cl : List (Str × Addr)) (fp : List Addr), PG (X.blk s H scope (compEnvC scope cl C X.env) fp) tgE (tTg Z W0 tg))
    (ht : ∀ (s : Shared) (H : Hp) (C : Addr) (cl : List (Str × Addr)) (fp : List Addr), PTs (X.blk s H scope (compEnvC scope cl C X.env) fp) ifs (tCs Z W0 cs))
    (he : ∀ (s : Shared) (H : Hp) (C : Addr) (cl : List (Str × Addr)) (fp : List Addr), PE (X.blk s H scope (compEnvC scope cl C X.env) fp) elt (tE Z W0 e))
    (hy : X.N[i]? = some y := by rfl) (hyl : X.env.scope.names.lookup y = some .local := by rfl)
    (hsw : swapsWith (.ListComp elt [⟨tgE, iter, ifs, 0⟩] scope pos) (some (.Name y py)) spos.line X.env = pure true := by exact sw_true rfl rfl rfl (by decide +kernel))
    (hc : X.calm = true := by rfl) (hsl : ∀ i ∈ tg.slots, i ∈ own.map (·.2) := by decide) (hf : ∀ x, foldedSetIterable iter X.env x = pure x := by intro _; rfl) :
    PS X (.Assign [.Name y py] (.ListComp elt [⟨tgE, iter, ifs, 0⟩] scope pos) spos) (tS Z W (.asg (.name i) (.comp (own.map (·.2)) tg it cs e))) := s_asgC hc hN hy hyl hsw hi ok hg ht he hsl hf
theorem par2 (i j : Nat) {x y : Str} {px py pt : Pos} {kt k2 pt2} (hN : X.N.Nodup) (ha : PA X [a, b] (tL Z W [ma, mb])) (hi : X.N[i]? = some x := by rfl) (hj : X.N[j]? = some y := by rfl) (hij : i ≠ j := by decide)
    (hx : X.env.scope.names.lookup x = some .local := by rfl) (hy : X.env.scope.names.lookup y = some .local := by rfl) (hc : X.calm = true := by rfl)
    (hw : swappedStores [.Tuple [.Name x px, .Name y py] kt pt] (.Tuple [a, b] k2 pt2) X.env = pure (some [x, y]) := by rfl) (hs : swapsWithSole [.Tuple [.Name x px, .Name y py] kt pt] (.Tuple [a, b] k2 pt2) pos.line X.env = pure false := by rfl) :
    PS X (.Assign [.Tuple [.Name x px, .Name y py] kt pt] (.Tuple [a, b] k2 pt2) pos) (tS Z W (.par [i, j] [ma, mb])) := s_par2 hc hN hi hj hij hx hy ha hw hs
theorem par3 (i j l : Nat) {x y z : Str} {px py pz pt : Pos} {kt k2 pt2} (hN : X.N.Nodup) (ha : PA X [a, b, c] (tL Z W [ma, mb, mc])) (hi : X.N[i]? = some x := by rfl) (hj : X.N[j]? = some y := by rfl) (hl : X.N[l]? = some z := by rfl) (hij : i ≠ j := by decide) (hil : i ≠ l := by decide) (hjl : j ≠ l := by decide)
    (hx : X.env.scope.names.lookup x = some .local := by rfl) (hy : X.env.scope.names.lookup y = some .local := by rfl) (hz : X.env.scope.names.lookup z = some .local := by rfl) (hc : X.calm = true := by rfl)
    (hw : swappedStores [.Tuple [.Name x px, .Name y py, .Name z pz] kt pt] (.Tuple [a, b, c] k2 pt2) X.env = pure (some [x, y, z]) := by rfl) (hs : swapsWithSole [.Tuple [.Name x px, .Name y py, .Name z pz] kt pt] (.Tuple [a, b, c] k2 pt2) pos.line X.env = pure false := by rfl) :
    PS X (.Assign [.Tuple [.Name x px, .Name y py, .Name z pz] kt pt] (.Tuple [a, b, c] k2 pt2) pos) (tS Z W (.par [i, j, l] [ma, mb, mc])) := s_par3 hc hN hi hj hl hij hil hjl hx hy hz ha hw hs
theorem ex {e : Expr} (he : PE X e (tE Z W ma)) (hs : swapsWith e none pos.line X.env = pure false := by rfl) : PS X (.Expr e pos) (tS Z W (.ex ma)) := s_ex he hs
theorem fr {tg : Tg} {it : It} {ms : List St} {tgE iter : Expr} {body : List Stmt} (hp : PassesOwn (model X.prog X.w) X.A X.env X.xe) (hg : PG X tgE (tTg Z W tg)) (hi : PI X tgE iter (tI Z W it)) (hb : PSs X body (tSs Z W ms))
    (hc : X.calm = true := by rfl) (hf : ∀ x, foldedSetIterable iter X.env x = pure x := by intro _; rfl) : PS X (.For tgE iter body [] pos) (tS Z W (.for tg it ms)) := s_for hp hc hi hg hb hf
theorem seti {o i v : Expr} {mo mi mv : E} {spos : Pos} {k : Nat} (hr : Room k X.A) (ho : PE X o (tE Z W mo)) (hi : PE X i (tE Z W mi)) (hv : PE X v (tE Z W mv))
    (ha : ∀ z, assign (.Subscript o i pos) X.env z = (do
      let ov ← holding [z] (eval o X.env)
      let iv ← holding [z, ov] (eval i X.env)
      standAt pos
      holding [z, ov, iv] (setItem ov iv z)
      release [z, ov, iv] []) := by intro _; rfl)
    (hs : swapsWithSole [.Subscript o i pos] v spos.line X.env = pure false := by rfl) (hw : swappedStores [.Subscript o i pos] v X.env = pure none := by rfl) (h1 : (assignEach [.Subscript o i pos] X.env).map (·.2) = [assign (.Subscript o i pos) X.env] := by rfl) :
    PS X (.Assign [.Subscript o i pos] v spos) (tS Z W (.seti mo mi mv)) := s_seti (u1 hr) ho hi hv ha hs hw h1
theorem get {k : Nat} {d e f : Expr} {md me mf : E} {apos cpos : Pos} (hr : Room k X.A) (hd : PE X d (tE Z W md)) (he : PE X e (tE Z W me)) (hf : PE X f (tE Z W mf)) (m2 : M2 X d "get" apos e f cpos := by exact ⟨rfl, rfl, rfl, rfl⟩) :
    PE X (.Call (.Attribute d "get" apos) [e, f] [] cpos) (tE Z W (.get md me mf)) := s_get (u1 hr) hd he hf m2
end
end Q
/-- all the defs of a row keep their promises -/
def Cals (B : Pk) (Z : Zs) (k : Nat) (L : List (Str × Nat × Nat)) : Prop := ∀ (j : Nat) (e : Str × Nat × Nat), L[j]? = some e → CalG B Z k e.1 e.2.1 e.2.2
theorem fnG_zero {B : Pk} {k : Nat} {f : Addr} {fd : FuncData} {ps : List Str} {cl : Cl} {xr : XRel} : FnG B k f fd ps (spF cl xr ps.length (fun _ _ => .bad)) :=
  ⟨fun _ _ _ _ ⟨_, _, _, _, _, n, _⟩ => n, fun _ _ _ _ _ _ _ _ _ _ _ _ _ _ ⟨_, _, _, _, _, _, z⟩ => z.elim⟩
theorem noCls (K : PySem.W.Frag) {sub : Nat → Nat → Bool} : ClsOk K (fun _ => none) sub where
  ins := fun _ _ e => by cases e
  k1 := fun _ _ _ e => by cases e
  k2 := fun _ _ _ e => by cases e
  k3 := fun _ _ _ _ e => by cases e
end My

/-! The mini language, step by step: what an expression, a statement gives from what its parts give. -/
namespace My
mutual
/-- what is written out -/
def cE : E → Option T
  | .non => some .non
  | .bl b => some (.bl b)
  | .int i => some (.int i)
  | .str x => some (.str x)
  | .tup es => (cEs es).map .tup
  | .lst es => (cEs es).map .lst
  | _ => none
def cEs : List E → Option (List T)
  | [] => some []
  | e :: es => (cE e).bind fun v => (cEs es).map fun vs => v :: vs
end
mutual
theorem cE_ev {G : Ctx} {C : Orc} {ρ : En} {h : Hm} : ∀ {e : E} {v : T}, cE e = some v → evE G C ρ h e = .ok (.t v) h
  | .non, v, e => by simp only [cE] at e; cases e; simp [evE]
  | .bl _, v, e => by simp only [cE] at e; cases e; simp [evE]
  | .int _, v, e => by simp only [cE] at e; cases e; simp [evE]
  | .str _, v, e => by simp only [cE] at e; cases e; simp [evE]
  | .tup es, v, e => by
    simp only [cE, Option.map_eq_some_iff] at e
    obtain ⟨vs, e1, rfl⟩ := e
    simp [evE, cEs_ev e1]
  | .lst es, v, e => by
    simp only [cE, Option.map_eq_some_iff] at e
    obtain ⟨vs, e1, rfl⟩ := e
    simp [evE, cEs_ev e1]
  | .var _, v, e | .con _, v, e | .newl _, v, e | .newd, v, e | .dct0, v, e | .un _ _, v, e | .bin _ _ _, v, e | .not _, v, e | .and _ _, v, e | .or _ _, v, e | .ch _ _ _ _ _, v, e | .ite _ _ _, v, e | .slf _ _, v, e | .slt _ _, v, e | .slb _ _ _, v, e
  | .get _ _ _, v, e | .call _ _, v, e | .app _ _, v, e | .popat _ _, v, e | .comp _ _ _ _ _, v, e | .fz _, v, e | .catn _ _, v, e => by simp [cE] at e
theorem cEs_ev {G : Ctx} {C : Orc} {ρ : En} {h : Hm} : ∀ {es : List E} {vs : List T}, cEs es = some vs → evTs G C ρ h es = .ok vs h
  | [], vs, e => by simp only [cEs] at e; cases e; simp [evTs]
  | x :: es, vs, e => by
    simp only [cEs, Option.bind_eq_some_iff, Option.map_eq_some_iff] at e
    obtain ⟨v, e1, us, e2, rfl⟩ := e
    simp [evTs, cE_ev e1, cEs_ev e2, asT]
end
namespace B
section
variable {G : Ctx} {C : Orc} {ρ ρ1 : En} {h h1 h2 h3 : Hm} {a b c e : E} {s u w : S} {v v2 z : T} {es : List E} {ss : List S} {vs : List T}
theorem var {i : Nat} (e : ρ[i]? = some (some s)) : evE G C ρ h (.var i) = .ok s h := by simp [evE, e]
theorem tup (e : evTs G C ρ h es = .ok vs h1) : evE G C ρ h (.tup es) = .ok (.t (.tup vs)) h1 := by simp [evE, e]
theorem lst (e : evTs G C ρ h es = .ok vs h1) : evE G C ρ h (.lst es) = .ok (.t (.lst vs)) h1 := by simp [evE, e]
theorem newl (e : evTs G C ρ h es = .ok vs h1) : evE G C ρ h (.newl es) = .ok (.r h1.length) (h1 ++ [.lst vs]) := by simp [evE, e]
theorem tnil : evTs G C ρ h [] = .ok [] h := by simp [evTs]
theorem tcons (e1 : evE G C ρ h e = .ok (.t v) h1) (e2 : evTs G C ρ h1 es = .ok vs h2) : evTs G C ρ h (e :: es) = .ok (v :: vs) h2 := by simp [evTs, e1, e2, asT]
theorem nil : evS G C ρ h [] = .ok [] h := by simp [evS]
theorem cons (e1 : evE G C ρ h e = .ok s h1) (e2 : evS G C ρ h1 es = .ok ss h2) : evS G C ρ h (e :: es) = .ok (s :: ss) h2 := by simp [evS, e1, e2]
theorem un {o : U} (e1 : evE G C ρ h e = .ok s h1) (d : dref h1 s = some v) (m : sem1 G.sub o v = some z) : evE G C ρ h (.un o e) = .ok (.t z) h1 := by simp [evE, e1, d, m]
theorem bin {o : Bo} (e1 : evE G C ρ h a = .ok s h1) (e2 : evE G C ρ h1 b = .ok u h2) (d1 : dref h2 s = some v) (d2 : dref h2 u = some v2) (m : sem2 o v v2 = some z) : evE G C ρ h (.bin o a b) = .ok (.t z) h2 := by simp [evE, e1, e2, d1, d2, m]
theorem catn {xs : List T} (e1 : evE G C ρ h a = .ok s h1) (e2 : evE G C ρ h1 b = .ok u h2) (d1 : dref h2 s = some v) (d2 : dref h2 u = some v2) (m : catL v v2 = some xs) : evE G C ρ h (.catn a b) = .ok (.r h2.length) (h2 ++ [.lst xs]) := by simp [evE, e1, e2, d1, d2, m]
theorem not {k : Bool} (e1 : evE G C ρ h a = .ok (.t (.bl k)) h1) : evE G C ρ h (.not a) = .ok (.t (.bl (!k))) h1 := by simp [evE, e1, asB]
theorem and1 (e1 : evE G C ρ h a = .ok (.t (.bl true)) h1) (e2 : evE G C ρ h1 b = .ok s h2) : evE G C ρ h (.and a b) = .ok s h2 := by simp [evE, e1, e2, asB]
theorem and0 (e1 : evE G C ρ h a = .ok (.t (.bl false)) h1) : evE G C ρ h (.and a b) = .ok (.t (.bl false)) h1 := by simp [evE, e1, asB]
theorem or1 (e1 : evE G C ρ h a = .ok (.t (.bl true)) h1) : evE G C ρ h (.or a b) = .ok (.t (.bl true)) h1 := by simp [evE, e1, asB]
theorem or0 (e1 : evE G C ρ h a = .ok (.t (.bl false)) h1) (e2 : evE G C ρ h1 b = .ok s h2) : evE G C ρ h (.or a b) = .ok s h2 := by simp [evE, e1, e2, asB]
theorem and {k l : Bool} (e1 : evE G C ρ h a = .ok (.t (.bl k)) h1) (e2 : evE G C ρ h1 b = .ok (.t (.bl l)) h1) : evE G C ρ h (.and a b) = .ok (.t (.bl (k && l))) h1 := by cases k <;> simp [evE, e1, e2, asB]
theorem or {k l : Bool} (e1 : evE G C ρ h a = .ok (.t (.bl k)) h1) (e2 : evE G C ρ h1 b = .ok (.t (.bl l)) h1) : evE G C ρ h (.or a b) = .ok (.t (.bl (k || l))) h1 := by cases k <;> simp [evE, e1, e2, asB]
theorem ite1 (e1 : evE G C ρ h c = .ok (.t (.bl true)) h1) (e2 : evE G C ρ h1 a = .ok s h2) : evE G C ρ h (.ite c a b) = .ok s h2 := by simp [evE, e1, e2, asB]
theorem ite0 (e1 : evE G C ρ h c = .ok (.t (.bl false)) h1) (e2 : evE G C ρ h1 b = .ok s h2) : evE G C ρ h (.ite c a b) = .ok s h2 := by simp [evE, e1, e2, asB]
theorem call {f : Nat} (e1 : evS G C ρ h es = .ok ss h1) (e2 : C f ss h1 = .ok s h2) : evE G C ρ h (.call f es) = .ok s h2 := by simp [evE, e1, e2]
theorem slfT {xs : List T} {n : Nat} (e1 : evE G C ρ h e = .ok s h1) (d : dref h1 s = some (.tup xs)) : evE G C ρ h (.slf e (.int n)) = .ok (.t (.tup (cutL xs (some n) none))) h1 := by simp [evE, e1, asI, cutE, d]
theorem sltT {xs : List T} {n : Nat} (e1 : evE G C ρ h e = .ok s h1) (d : dref h1 s = some (.tup xs)) : evE G C ρ h (.slt e (.int n)) = .ok (.t (.tup (cutL xs none (some n)))) h1 := by simp [evE, e1, asI, cutE, d]
theorem get {ks us : List T} {k : L2.Key} (e1 : evE G C ρ h a = .ok s h1) (e2 : evE G C ρ h1 b = .ok (.t v) h2) (e3 : evE G C ρ h2 c = .ok (.t v2) h3) (d1 : dref h1 s = some (.dct ks us)) (d : dref h3 s = some (.dct ks us)) (hk : keyOf v = some k) :
    evE G C ρ h (.get a b c) = .ok (.t ((getD k ks us).getD v2)) h3 := by simp [evE, e1, e2, e3, isD, d1, d, asT, getF, hk]
theorem app {n : Nat} {xs : List T} (e1 : evE G C ρ h a = .ok (.r n) h1) (d1 : ∃ ys, h1[n]? = some (.lst ys)) (e2 : evE G C ρ h1 b = .ok (.t v) h2) (d : h2[n]? = some (.lst xs)) (hl : lim (xs.length + 1) = true) : evE G C ρ h (.app a b) = .ok (.t .non) (h2.set n (.lst (xs ++ [v]))) := by
  obtain ⟨ys, d1⟩ := d1
  simp [evE, e1, e2, isL, dref, d1, asT, appF, d, hl]
theorem itOf {p : List T × Option (Nat × MO)} (e1 : evE G C ρ h e = .ok s h1) (i : itemsOf s h1 = some p) : evIt G C ρ h (.of e) = .ok p h1 := by simp [evIt, e1, i]
theorem itRng {p : List T × Option (Nat × MO)} {n : Int} (e1 : evE G C ρ h e = .ok (.t (.int n)) h1) (i : rngO 0 n = some p) : evIt G C ρ h (.rng1 e) = .ok p h1 := by simp [evIt, e1, i]
/-! statements -/
variable {o : Out} {st : St} {sts sts2 : List St} {i : Nat} {tg : Tg} {it : It}
theorem sn : exSs G C ρ h [] = .nx ρ h := by simp [exSs]
theorem sc (e1 : exS G C ρ h st = .nx ρ1 h1) (e2 : exSs G C ρ1 h1 sts = o) : exSs G C ρ h (st :: sts) = o := by simp [exSs, e1, e2]
theorem sr (e1 : exS G C ρ h st = .rt s h1) : exSs G C ρ h (st :: sts) = .rt s h1 := by simp [exSs, e1]
theorem asg (e1 : evE G C ρ h e = .ok s h1) : exS G C ρ h (.asg (.name i) e) = .nx (ρ.set i (some s)) h1 := by simp [exS, e1, setTg]
theorem asgT (e1 : evE G C ρ h e = .ok s h1) (e2 : setTg tg s ρ = some ρ1) : exS G C ρ h (.asg tg e) = .nx ρ1 h1 := by simp [exS, e1, e2]
theorem par {is : List Nat} (e1 : evS G C ρ h es = .ok ss h1) (e2 : setAll ρ is ss = some ρ1) : exS G C ρ h (.par is es) = .nx ρ1 h1 := by simp [exS, e1, e2]
theorem ex (e1 : evE G C ρ h e = .ok s h1) : exS G C ρ h (.ex e) = .nx ρ h1 := by simp [exS, e1]
theorem ret (e1 : evE G C ρ h e = .ok s h1) : exS G C ρ h (.ret e) = .rt s h1 := by simp [exS, e1]
theorem if1 (e1 : evE G C ρ h c = .ok (.t (.bl true)) h1) (e2 : exSs G C ρ h1 sts = o) : exS G C ρ h (.ife c sts sts2) = o := by simp [exS, e1, e2, asB]
theorem if0 (e1 : evE G C ρ h c = .ok (.t (.bl false)) h1) (e2 : exSs G C ρ h1 sts2 = o) : exS G C ρ h (.ife c sts sts2) = o := by simp [exS, e1, e2, asB]
theorem setL {n k : Nat} {xs : List T} {j : Int} (e1 : evE G C ρ h c = .ok (.t v) h1) (e2 : evE G C ρ h1 a = .ok (.r n) h2) (e3 : evE G C ρ h2 b = .ok (.t (.int j)) h3) (d : h3[n]? = some (.lst xs)) (hk : L2.ixN xs.length j = some k) :
    exS G C ρ h (.seti a b c) = .nx ρ (h3.set n (.lst (xs.set k v))) := by simp [exS, e1, e2, e3, d, hk]
theorem setD {n : Nat} {ks us : List T} {k : L2.Key} (e1 : evE G C ρ h c = .ok (.t v) h1) (e2 : evE G C ρ h1 a = .ok (.r n) h2) (e3 : evE G C ρ h2 b = .ok (.t v2) h3) (d : h3[n]? = some (.dct ks us)) (hk : keyOf v2 = some k) (hl : lim (ks.length + 1) = true) :
    exS G C ρ h (.seti a b c) = .nx ρ (h3.set n (.dct (putD k v ks us).1 (putD k v ks us).2)) := by simp [exS, e1, e2, e3, d, hk, hl]
theorem fr {p : List T × Option (Nat × MO)} (e1 : evIt G C ρ h it = .ok p h1) (e2 : forL p.2 (fun x ρ h => match setTg tg (.t x) ρ with | some ρ1 => exSs G C ρ1 h sts | none => .bad) p.1 ρ h1 = o) : exS G C ρ h (.for tg it sts) = o := by
  simp only [exS, e1, R.out_ok]; exact e2
/-- a loop that goes to its end, by an invariant over what is left -/
theorem loop {g : Option (Nat × MO)} {f : T → En → Hm → Out} {I : List T → En → Hm → Prop} (gd : ∀ xs ρ h, I xs ρ h → gOk g h = true) (step : ∀ x xs ρ h, I (x :: xs) ρ h → ∃ ρ' h', f x ρ h = .nx ρ' h' ∧ I xs ρ' h') :
    ∀ {its : List T} {ρ : En} {h : Hm}, I its ρ h → ∃ ρ' h', forL g f its ρ h = .nx ρ' h' ∧ I [] ρ' h'
  | [], ρ, h, i => ⟨ρ, h, by simp [forL, gd _ _ _ i], i⟩
  | x :: xs, ρ, h, i => by
    obtain ⟨ρ1, h1, e1, i1⟩ := step x xs ρ h i
    obtain ⟨ρ2, h2, e2, i2⟩ := loop gd step i1
    exact ⟨ρ2, h2, by simp [forL, gd _ _ _ i, e1, e2], i2⟩
theorem def_ {d f : Nat} {fd : Fd} (e : G.fs f = some fd) (hl : ss.length = fd.np) (b : exSs G (callF G d) (startE fd.ns ss) h fd.body = o) : callF G (d + 1) f ss h = runF h.length o := by simp [callF, e, hl, b]
theorem int {i : Int} : evE G C ρ h (.int i) = .ok (.t (.int i)) h := by simp [evE]
theorem str {x : PySem.Str} : evE G C ρ h (.str x) = .ok (.t (.str x)) h := by simp [evE]
theorem bl {x : Bool} : evE G C ρ h (.bl x) = .ok (.t (.bl x)) h := by simp [evE]
theorem newd : evE G C ρ h .newd = .ok (.r h.length) (h ++ [.dct [] []]) := by simp [evE]
theorem dct0 : evE G C ρ h .dct0 = .ok (.t (.dct [] [])) h := by simp [evE]
theorem non : evE G C ρ h .non = .ok (.t .non) h := by simp [evE]
theorem dret {d f : Nat} {fd : Fd} (e : G.fs f = some fd) (hl : ss.length = fd.np) (b : exSs G (callF G d) (startE fd.ns ss) h fd.body = .rt (.t v) h1) : callF G (d + 1) f ss h = .ok (.t v) (h1.take h.length) := by
  rw [def_ e hl b]; rfl
theorem dret0 {d f : Nat} {fd : Fd} (e : G.fs f = some fd) (hl : ss.length = fd.np) (b : exSs G (callF G d) (startE fd.ns ss) h fd.body = .rt (.t v) h) : callF G (d + 1) f ss h = .ok (.t v) h := by
  rw [dret e hl b, List.take_length]
theorem drr {d f n : Nat} {fd : Fd} {xs : List T} (e : G.fs f = some fd) (hl : ss.length = fd.np) (b : exSs G (callF G d) (startE fd.ns ss) h fd.body = .rt (.r n) h1) (le : h.length ≤ n) (at_ : h1[n]? = some (.lst xs)) : callF G (d + 1) f ss h = .ok (.r h.length) (h1.take h.length ++ [.lst xs]) := by
  rw [def_ e hl b]
  simp only [runF, retS, if_neg (Nat.not_lt.mpr le), at_]
end
end B
theorem compL_pure {g : Option (Nat × MO)} {f : T → Hm → R (Option T)} {k : T → Option T} {h : Hm} (hg : gOk g h = true) : ∀ {its : List T}, (∀ x ∈ its, f x h = .ok (k x) h) → compL g f its h = .ok (its.filterMap k) h
  | [], _ => by simp [compL, hg]
  | x :: xs, hf => by
    simp only [compL, hg, if_true, hf x List.mem_cons_self, R.bind_ok, compL_pure hg fun y m => hf y (List.mem_cons_of_mem _ m), List.filterMap_cons]
    cases k x <;> rfl
section
variable {G : Ctx} {C : Orc} {ρ : En} {h h1 : Hm} {own : List Nat} {tg : Tg} {it : It} {cs : List E} {e : E} {p : List T × Option (Nat × MO)}
theorem comp_filter {c : T → Bool} (hit : evIt G C ρ h it = .ok p h1) (hg : gOk p.2 h1 = true) (ht : ∀ x ∈ p.1, ∃ ρ', setTg tg (.t x) (wipeE ρ own) = some ρ' ∧ evCs G C ρ' h1 cs = .ok (c x) h1 ∧ evE G C ρ' h1 e = .ok (.t x) h1) :
    evE G C ρ h (.comp own tg it cs e) = .ok (.t (.lst (p.1.filter c))) h1 := by
  rw [evE, hit, R.bind_ok, compL_pure (k := fun x => if c x then some x else none) hg fun x hx => ?_]
  · have : p.1.filterMap (fun x => if c x then some x else none) = p.1.filter c := by
      induction p.1 with
      | nil => rfl
      | cons x xs ih => simp only [List.filterMap_cons, List.filter_cons]; cases c x <;> simp_all
    rw [this]
    rfl
  · obtain ⟨ρ', e1, e2, e3⟩ := ht x hx
    rw [e1, liftO_some, R.bind_ok, e2, R.bind_ok]
    cases c x with
    | false => rfl
    | true => simp only [if_true]; rw [e3]; rfl
theorem comp_map {k : T → T} (hit : evIt G C ρ h it = .ok p h1) (hg : gOk p.2 h1 = true) (ht : ∀ x ∈ p.1, ∃ ρ', setTg tg (.t x) (wipeE ρ own) = some ρ' ∧ evE G C ρ' h1 e = .ok (.t (k x)) h1) :
    evE G C ρ h (.comp own tg it [] e) = .ok (.t (.lst (p.1.map k))) h1 := by
  rw [evE, hit, R.bind_ok, compL_pure (k := fun x => some (k x)) hg fun x hx => ?_]
  · have : p.1.filterMap (fun x => some (k x)) = p.1.map k := by
      induction p.1 with
      | nil => rfl
      | cons x xs ih => simp [ih]
    rw [this]
    rfl
  · obtain ⟨ρ', e1, e3⟩ := ht x hx
    rw [e1, liftO_some, R.bind_ok, evCs, R.bind_ok]
    simp only [if_true]
    rw [e3]
    rfl
theorem cs1 {c : E} {k : Bool} (e : evE G C ρ h c = .ok (.t (.bl k)) h1) : evCs G C ρ h [c] = .ok k h1 := by cases k <;> simp [evCs, e, asB]
theorem lim_small {n : Nat} (h : n ≤ 100000) : lim n = true := decide_eq_true (Nat.le_trans h (by decide))
theorem sem2_notin {x : T} {ys : List T} (hx : x.shp = true) (hy : (T.lst ys).shp = true) : sem2 .notin x (.lst ys) = some (.bl (!inT x ys)) := by
  simp only [sem2, membT, hx, hy, Bool.and_self, if_true, Option.map_some]
end
end My

namespace My.M
open PySem L2 PyProof.Rows
def m_parts : Fd := ⟨1, 4, [(.asg (.name 1) (.newl [(.var 0)])),
      (.ife (.un (.isi [.ttuple]) (.var 0)) [(.for (.name 2) (.of (.slf (.var 0) (.int 1))) [(.asg (.name 1) (.catn (.var 1) (.comp [3] (.name 3) (.of (.call 0 [(.var 2)])) [(.bin .notin (.var 3) (.var 1))] (.var 3))))])] []),
      (.ret (.var 1))]⟩
def m_variables : Fd := ⟨1, 2, [(.ret (.un .sorted (.comp [1] (.name 1) (.of (.call 0 [(.var 0)])) [(.un (.isi [.tstr]) (.var 1))] (.var 1))))]⟩
def m_size : Fd := ⟨1, 2, [(.ife (.un (.isi [.tstr]) (.var 0)) [(.ret (.int 1))] []),
      (.ret (.bin .add (.int 1) (.un .sum (.comp [1] (.name 1) (.of (.slf (.var 0) (.int 1))) [] (.call 2 [(.var 1)])))))]⟩
def m_put : Fd := ⟨2, 3, [(.ife (.un (.isi [.tstr]) (.var 0)) [(.ret (.get (.var 1) (.var 0) (.var 0)))] []),
      (.ret (.bin .add (.slt (.var 0) (.int 1)) (.un .tuple (.comp [2] (.name 2) (.of (.slf (.var 0) (.int 1))) [] (.call 3 [(.var 2), (.var 1)])))))]⟩
def m__law_feed : Fd := ⟨2, 5, [(.asg (.name 2) (.ite (.bin .lt (.var 1) (.un .len (.var 0))) (.bin .idx (.var 0) (.var 1)) (.bin .add (.bin .mul (.int 61) (.var 1)) (.int 17)))),
      (.asg (.name 3) (.bin .max (.int 0) (.bin .sub (.un .abs (.var 2)) (.bin .pow (.int 10) (.int 18))))),
      (.asg (.name 4) (.bin .mod (.un .int (.bin .add (.bin .add (.bin .mul (.var 2) (.int 6364136223846793005)) (.bin .mul (.int 7919) (.var 1))) (.int 1442695040888963407))) (.int 2305843009213693951))),
      (.ret (.newl [(.var 3), (.var 4)]))]⟩
def m__law_take : Fd := ⟨2, 3, [(.ife (.bin .gt (.bin .idx (.var 0) (.int 0)) (.int 0)) [(.asg (.name 2) (.bin .mod (.un .int (.bin .idx (.var 0) (.int 0))) (.var 1))),
      (.seti (.var 0) (.int 0) (.bin .fdiv (.bin .idx (.var 0) (.int 0)) (.var 1))),
      (.ret (.var 2))] []),
      (.seti (.var 0) (.int 1) (.bin .mod (.un .int (.bin .add (.bin .mul (.bin .idx (.var 0) (.int 1)) (.int 6364136223846793005)) (.int 1442695040888963407))) (.int 2305843009213693951))),
      (.ret (.bin .mod (.un .int (.bin .fdiv (.bin .idx (.var 0) (.int 1)) (.int 65536))) (.var 1)))]⟩
def m__law_pick : Fd := ⟨2, 2, [(.ret (.bin .idx (.var 1) (.call 5 [(.var 0), (.un .len (.var 1))])))]⟩
def m__law_known_signs : Fd := ⟨0, 1, [(.asg (.name 0) (.lst [(.lst [(.tup [(.str "plus"), (.int 2)]), (.tup [(.str "s"), (.int 1)]), (.tup [(.str "zero"), (.int 0)])]), (.lst [(.tup [(.str "f"), (.int 2)]), (.tup [(.str "g"), (.int 1)]), (.tup [(.str "a"), (.int 0)])]), (.lst [(.tup [(.str "f"), (.int 2)]), (.tup [(.str "a"), (.int 0)]), (.tup [(.str "b"), (.int 0)])])])),
      (.asg (.name 0) (.bin .add (.var 0) (.lst [(.lst [(.tup [(.str "g"), (.int 1)]), (.tup [(.str "f"), (.int 2)]), (.tup [(.str "h"), (.int 2)])]), (.lst [(.tup [(.str "a"), (.int 0)]), (.tup [(.str "b"), (.int 0)]), (.tup [(.str "c"), (.int 0)])]), (.lst [(.tup [(.str "f"), (.int 3)]), (.tup [(.str "a"), (.int 0)]), (.tup [(.str "b"), (.int 0)])])]))),
      (.asg (.name 0) (.bin .add (.var 0) (.lst [(.lst [(.tup [(.str "f"), (.int 1)]), (.tup [(.str "g"), (.int 1)]), (.tup [(.str "h"), (.int 1)])]), (.lst [(.tup [(.str "times"), (.int 2)]), (.tup [(.str "plus"), (.int 2)]), (.tup [(.str "s"), (.int 1)]), (.tup [(.str "zero"), (.int 0)])])]))),
      (.asg (.name 0) (.bin .add (.var 0) (.lst [(.lst [(.tup [(.str "left"), (.int 2)]), (.tup [(.str "above"), (.int 2)]), (.tup [(.str "lots"), (.int 0)])]), (.lst [(.tup [(.str "order"), (.int 1)]), (.tup [(.str "rule"), (.int 0)]), (.tup [(.str "sign"), (.int 2)])])]))),
      (.ret (.bin .add (.var 0) (.lst [(.lst [(.tup [(.str "b"), (.int 0)]), (.tup [(.str "f"), (.int 2)])]), (.lst [(.tup [(.str "f"), (.int 2)]), (.tup [(.str "g"), (.int 1)]), (.tup [(.str "a"), (.int 0)]), (.tup [(.str "b"), (.int 0)])]), (.lst [(.tup [(.str "f"), (.int 3)])])])))]⟩
def m__law_drawn_signs : Fd := ⟨1, 7, [(.ife (.bin .gt (.call 5 [(.var 0), (.int 3)]) (.int 0)) [(.ret (.call 6 [(.var 0), (.call 7 [])]))] []),
      (.asg (.name 1) (.call 6 [(.var 0), (.lst [(.lst [(.str "f"), (.str "g"), (.str "h"), (.str "k")]), (.lst [(.str "k"), (.str "f"), (.str "a"), (.str "g")]), (.lst [(.str "z"), (.str "ab"), (.str "b"), (.str "abcdefgh")])])])),
      (.par [2, 3, 4] [(.bin .add (.int 1) (.call 5 [(.var 0), (.int 4)])), (.newl []), (.int 0)]),
      (.for (.name 5) (.rng1 (.var 2)) [(.asg (.name 6) (.call 5 [(.var 0), (.ite (.bin .lt (.var 4) (.int 2)) (.int 4) (.int 2))])),
      (.asg (.name 4) (.bin .add (.var 4) (.un .int (.bin .ge (.var 6) (.int 2))))),
      (.ex (.app (.var 3) (.tup [(.bin .idx (.var 1) (.var 5)), (.var 6)])))]),
      (.ret (.var 3))]⟩
def m__law_term : Fd := ⟨4, 10, [(.ife (.and (.bin .ne (.var 3) (.lst [])) (.or (.bin .eq (.var 2) (.int 0)) (.bin .eq (.call 5 [(.var 0), (.int 3)]) (.int 0)))) [(.ret (.call 6 [(.var 0), (.var 3)]))] []),
      (.asg (.name 4) (.comp [8] (.name 8) (.of (.var 1)) [(.or (.bin .eq (.bin .idx (.var 8) (.int 1)) (.int 0)) (.bin .gt (.var 2) (.int 0)))] (.var 8))),
      (.ife (.bin .eq (.var 4) (.lst [])) [(.ret (.str "X"))] []),
      (.asg (.tup [5, 6]) (.call 6 [(.var 0), (.var 4)])),
      (.asg (.name 7) (.ite (.bin .eq (.var 6) (.int 3)) (.bin .max (.int 0) (.bin .sub (.var 2) (.int 2))) (.bin .sub (.var 2) (.int 1)))),
      (.ret (.bin .add (.tup [(.var 5)]) (.un .tuple (.comp [9] (.name 9) (.rng1 (.var 6)) [] (.call 9 [(.var 0), (.var 1), (.var 7), (.var 3)])))))]⟩
def m__law_parts : Fd := ⟨1, 4, [(.asg (.name 1) (.lst [(.var 0)])),
      (.ife (.un (.isi [.ttuple]) (.var 0)) [(.for (.name 2) (.of (.slf (.var 0) (.int 1))) [(.asg (.name 1) (.bin .add (.var 1) (.comp [3] (.name 3) (.of (.call 10 [(.var 2)])) [(.bin .notin (.var 3) (.var 1))] (.var 3))))])] []),
      (.ret (.var 1))]⟩
def m__law_letters : Fd := ⟨1, 2, [(.ret (.un .sorted (.comp [1] (.name 1) (.of (.call 10 [(.var 0)])) [(.un (.isi [.tstr]) (.var 1))] (.var 1))))]⟩
def m__law_put : Fd := ⟨2, 3, [(.ife (.un (.isi [.tstr]) (.var 0)) [(.ret (.ite (.bin .inn (.var 0) (.var 1)) (.bin .idx (.var 1) (.var 0)) (.var 0)))] []),
      (.ret (.bin .add (.tup [(.bin .idx (.var 0) (.int 0))]) (.un .tuple (.comp [2] (.name 2) (.of (.slf (.var 0) (.int 1))) [] (.call 12 [(.var 2), (.var 1)])))))]⟩
def m__law_size : Fd := ⟨1, 2, [(.ife (.un (.isi [.tstr]) (.var 0)) [(.ret (.int 1))] []),
      (.ret (.bin .add (.int 1) (.un .sum (.comp [1] (.name 1) (.of (.slf (.var 0) (.int 1))) [] (.call 13 [(.var 1)])))))]⟩
def m_law03 : Fd := ⟨1, 12, [(.for (.name 1) (.rng1 (.bin .max (.int 1) (.bin .min (.int 3) (.un .len (.var 0))))) [(.asg (.name 2) (.call 4 [(.var 0), (.var 1)])),
      (.asg (.name 3) (.call 8 [(.var 2)])),
      (.for (.name 4) (.rng1 (.int 5)) [(.asg (.name 5) (.call 6 [(.var 2), (.lst [(.lst [(.str "X"), (.str "Y")]), (.lst [(.str "Z"), (.str "X"), (.str "AB"), (.str "A")]), (.lst [(.str "X")])])])),
      (.asg (.name 6) (.call 9 [(.var 2), (.var 3), (.int 3), (.var 5)])),
      (.asg (.name 7) (.call 0 [(.var 6)])),
      (.ife (.or (.not (.un (.isi [.tlist]) (.var 7))) (.bin .ne (.un .repr (.var 7)) (.un .repr (.call 10 [(.var 6)])))) [(.ret (.bl false))] []),
      (.ife (.bin .ne (.call 2 [(.var 6)]) (.call 13 [(.var 6)])) [(.ret (.bl false))] []),
      (.ex (.app (.var 7) .non)),
      (.asg (.name 8) (.call 1 [(.var 6)])),
      (.ife (.bin .ne (.un .repr (.var 8)) (.un .repr (.call 11 [(.var 6)]))) [(.ret (.bl false))] []),
      (.asg (.name 9) .newd),
      (.for (.name 10) (.of (.lst [(.str "X"), (.str "Y"), (.str "A"), (.str "Q")])) [(.ife (.bin .gt (.call 5 [(.var 2), (.int 3)]) (.int 0)) [(.seti (.var 9) (.var 10) (.call 9 [(.var 2), (.var 3), (.int 2), (.lst [(.str "X"), (.str "Y"), (.str "Q")])]))] [])]),
      (.asg (.name 11) (.un .repr (.var 9))),
      (.ife (.or (.bin .ne (.un .repr (.call 3 [(.var 6), (.var 9)])) (.un .repr (.call 12 [(.var 6), (.var 9)]))) (.bin .ne (.un .repr (.var 9)) (.var 11))) [(.ret (.bl false))] []),
      (.ife (.or (.bin .ne (.call 3 [(.var 6), .dct0]) (.var 6)) (.bin .ne (.un .repr (.call 0 [(.var 6)])) (.un .repr (.call 10 [(.var 6)])))) [(.ret (.bl false))] [])])]),
      (.ret (.bl true))]⟩
def fsT : Nat → Option Fd
  | 0 => some m_parts
  | 1 => some m_variables
  | 2 => some m_size
  | 3 => some m_put
  | 4 => some m__law_feed
  | 5 => some m__law_take
  | 6 => some m__law_pick
  | 7 => some m__law_known_signs
  | 8 => some m__law_drawn_signs
  | 9 => some m__law_term
  | 10 => some m__law_parts
  | 11 => some m__law_letters
  | 12 => some m__law_put
  | 13 => some m__law_size
  | 9003 => some m_law03
  | _ => none
def G : Ctx := ⟨fsT, fun _ => .non, fun _ _ => false⟩
end My.M

/-! Terms, and what the program's and the law's functions of terms give in the mini language. -/
namespace My
open PySem (Str PyData)
theorem cutL_from (xs : List T) (n : Nat) : cutL xs (some (n : Int)) none = xs.drop n := by
  unfold cutL
  rw [HT.sIx_nat, HT.sIx_none]
  rcases Nat.le_total n xs.length with h | h
  · rw [Nat.min_eq_left h]
    exact List.take_of_length_le (by rw [List.length_drop]; exact Nat.le_refl _)
  · rw [Nat.min_eq_right h, List.drop_eq_nil_of_le h]
    simp
/-! ### terms -/
def okS (x : Str) : Bool := PyData.strOk x && decide ((PySem.reprText x).length ≤ 12)
mutual
/-- a name, or a tuple of a name and terms -/
def tm : T → Bool
  | .str x => okS x
  | .tup (.str n :: as) => okS n && tms as
  | _ => false
def tms : List T → Bool
  | [] => true
  | a :: as => tm a && tms as
end
mutual
def dp : T → Nat
  | .tup xs => dps xs + 1
  | _ => 0
def dps : List T → Nat
  | [] => 0
  | a :: as => max (dp a) (dps as)
end
mutual
def sz : T → Nat
  | .tup xs => 1 + szs xs
  | _ => 1
def szs : List T → Nat
  | [] => 0
  | a :: as => sz a + szs as
end
mutual
def parts : T → List T
  | .tup (x :: as) => partsA [.tup (x :: as)] as
  | t => [t]
def partsA (found : List T) : List T → List T
  | [] => found
  | a :: as => partsA (found ++ (parts a).filter fun p => !inT p found) as
end

theorem tms_mem : ∀ {as : List T} {a : T}, tms as = true → a ∈ as → tm a = true
  | b :: as, a, h, m => by
    simp only [tms, Bool.and_eq_true] at h
    rcases List.mem_cons.mp m with rfl | m
    · exact h.1
    · exact tms_mem h.2 m
theorem szs_mem : ∀ {as : List T} {a : T}, a ∈ as → sz a ≤ szs as
  | b :: as, a, m => by
    simp only [szs]
    rcases List.mem_cons.mp m with rfl | m
    · omega
    · have := szs_mem m; omega
theorem dps_mem : ∀ {as : List T} {a : T}, a ∈ as → dp a ≤ dps as
  | b :: as, a, m => by
    simp only [dps]
    rcases List.mem_cons.mp m with rfl | m
    · omega
    · have := dps_mem m; omega
mutual
theorem parts_len : ∀ t : T, (parts t).length ≤ sz t
  | .non => by simp [parts, sz]
  | .bl _ => by simp [parts, sz]
  | .int _ => by simp [parts, sz]
  | .str _ => by simp [parts, sz]
  | .lst _ => by simp [parts, sz]
  | .dct _ _ => by simp [parts, sz]
  | .obj _ _ _ => by simp [parts, sz]
  | .tup [] => by simp [parts, sz]
  | .tup (x :: as) => by
    have h := partsA_len [.tup (x :: as)] as
    simp only [parts, sz, szs, List.length_singleton] at h ⊢
    omega
theorem partsA_len : ∀ (found as : List T), (partsA found as).length ≤ found.length + szs as
  | found, [] => by simp [partsA]
  | found, a :: as => by
    have h := partsA_len (found ++ (parts a).filter fun p => !inT p found) as
    have h2 := parts_len a
    have h3 := List.length_filter_le (fun p => !inT p found) (parts a)
    simp only [partsA, szs, List.length_append] at h ⊢
    omega
end
/-! what holds of all parts -/
mutual
theorem parts_all {P : T → Prop} : ∀ t : T, P t → (∀ x as, P (.tup (x :: as)) → ∀ a ∈ as, P a) → ∀ p ∈ parts t, P p
  | .non, h, _, p, m => by simp [parts] at m; exact m ▸ h
  | .bl _, h, _, p, m => by simp [parts] at m; exact m ▸ h
  | .int _, h, _, p, m => by simp [parts] at m; exact m ▸ h
  | .str _, h, _, p, m => by simp [parts] at m; exact m ▸ h
  | .lst _, h, _, p, m => by simp [parts] at m; exact m ▸ h
  | .dct _ _, h, _, p, m => by simp [parts] at m; exact m ▸ h
  | .obj _ _ _, h, _, p, m => by simp [parts] at m; exact m ▸ h
  | .tup [], h, _, p, m => by simp [parts] at m; exact m ▸ h
  | .tup (x :: as), h, k, p, m => by
    simp only [parts] at m
    exact partsA_all [.tup (x :: as)] as (fun q mq => by simp at mq; exact mq ▸ h) (k x as h) k p m
theorem partsA_all {P : T → Prop} : ∀ (found as : List T), (∀ p ∈ found, P p) → (∀ a ∈ as, P a) → (∀ x as, P (.tup (x :: as)) → ∀ a ∈ as, P a) → ∀ p ∈ partsA found as, P p
  | found, [], h, _, _, p, m => h p (by simpa [partsA] using m)
  | found, a :: as, h, ha, k, p, m => by
    simp only [partsA] at m
    refine partsA_all _ as (fun q mq => ?_) (fun b mb => ha b (List.mem_cons_of_mem _ mb)) k p m
    rcases List.mem_append.mp mq with mq | mq
    · exact h q mq
    · exact parts_all a (ha a List.mem_cons_self) k q (List.mem_filter.mp mq).1
end
/-! ### terms can be compared -/
mutual
theorem tm_data : ∀ t : T, tm t = true → t.data = true ∧ t.nolst = true ∧ t.py.canLay0 = true ∧ t.py.depth = dp t ∧ t.py.showable = true
  | .str x, h => by
    simp only [tm, okS, Bool.and_eq_true] at h
    simp [T.data, T.nolst, T.py, PyData.canLay0, PyData.depth, dp, h.1, PyData.showable]
  | .tup (.str n :: as), h => by
    simp only [tm, okS, Bool.and_eq_true] at h
    have ih := tms_data as h.2
    simp [T.data, T.nolst, T.py, PyData.canLay0, PyData.canLayAll0, PyData.depth, PyData.depthAll, dp, dps, datas, nolsts, pys, h.1.1, ih, PyData.showable, PyData.showableAll]
  | .non, h | .bl _, h | .int _, h | .lst _, h | .dct _ _, h | .obj _ _ _, h => by simp [tm] at h
  | .tup [], h | .tup (.non :: _), h | .tup (.bl _ :: _), h | .tup (.int _ :: _), h | .tup (.tup _ :: _), h | .tup (.lst _ :: _), h | .tup (.dct _ _ :: _), h | .tup (.obj _ _ _ :: _), h => by simp [tm] at h
theorem tms_data : ∀ as : List T, tms as = true → datas as = true ∧ nolsts as = true ∧ PyData.canLayAll0 (pys as) = true ∧ PyData.depthAll (pys as) = dps as ∧ PyData.showableAll (pys as) = true
  | [], _ => by simp [datas, nolsts, pys, PyData.canLayAll0, PyData.depthAll, dps, PyData.showableAll]
  | a :: as, h => by
    simp only [tms, Bool.and_eq_true] at h
    have h1 := tm_data a h.1
    have h2 := tms_data as h.2
    simp [datas, nolsts, pys, PyData.canLayAll0, PyData.depthAll, dps, PyData.showableAll, h1, h2]
end
theorem tm_shp {t : T} (h : tm t = true) (hd : dp t ≤ 60) : t.shp = true := by
  obtain ⟨h1, _, h3, h4, _⟩ := tm_data t h
  unfold T.shp PySem.SeqAt.shaped
  simp [h1, h3, h4]; omega
theorem lst_shp {xs : List T} (h : tms xs = true) (hd : dps xs ≤ 60) : (T.lst xs).shp = true := by
  obtain ⟨h1, _, h3, h4, _⟩ := tms_data xs h
  unfold T.shp PySem.SeqAt.shaped
  simp [T.data, T.py, PyData.canLay0, PyData.depth, h1, h3, h4]; omega
theorem tms_of {xs : List T} (h : ∀ x ∈ xs, tm x = true) : tms xs = true := by
  induction xs with
  | nil => rfl
  | cons x xs ih => simp only [tms, h x List.mem_cons_self, ih fun y m => h y (List.mem_cons_of_mem _ m), Bool.and_self]
theorem dps_le {xs : List T} {n : Nat} (h : ∀ x ∈ xs, dp x ≤ n) : dps xs ≤ n := by
  induction xs with
  | nil => simp [dps]
  | cons x xs ih => simp only [dps]; have := h x List.mem_cons_self; have := ih fun y m => h y (List.mem_cons_of_mem _ m); omega
/-- parts of terms are terms, not deeper, not larger -/
structure PartOk (n m : Nat) (t : T) : Prop where
  tm : tm t = true
  dp : dp t ≤ n
  sz : sz t ≤ m
theorem PartOk.down {n m : Nat} (x : T) (as : List T) (h : PartOk n m (.tup (x :: as))) : ∀ a ∈ as, PartOk n m a := fun a ma => by
  obtain ⟨h1, h2, h3⟩ := h
  have e : tms as = true := by
    cases x <;> simp [My.tm] at h1
    exact h1.2
  simp only [My.dp, dps] at h2
  simp only [My.sz, szs] at h3
  have := dps_mem ma
  have := szs_mem ma
  exact ⟨tms_mem e ma, by omega, by omega⟩
theorem parts_ok {n m : Nat} {t : T} (h : PartOk n m t) : ∀ p ∈ parts t, PartOk n m p := parts_all t h PartOk.down

/-! ### parts in the mini language -/
open My.M
section
variable {C : Orc} {t a : T} {f : List T} {hh : Hm} {n : Nat} {z : Option S}
theorem turn_parts (hC : C 0 [.t a] hh = .ok (.r hh.length) (hh ++ [.lst (parts a)])) (hn : hh[n]? = some (.lst f)) (hs : ∀ p ∈ parts a, p.shp = true) (hf : (T.lst f).shp = true) (hl : f.length + (parts a).length ≤ 100000) :
    exSs G C [some (.t t), some (.r n), some (.t a), z] hh [(.asg (.name 1) (.catn (.var 1) (.comp [3] (.name 3) (.of (.call 0 [(.var 2)])) [(.bin .notin (.var 3) (.var 1))] (.var 3))))] =
      .nx [some (.t t), some (.r (hh.length + 1)), some (.t a), z] (hh ++ [.lst (parts a)] ++ [.lst (f ++ (parts a).filter fun p => !inT p f)]) := by
  have hlt : n < hh.length := (List.getElem?_eq_some_iff.mp hn).1
  have hn' : (hh ++ [MO.lst (parts a)])[n]? = some (.lst f) := by rw [List.getElem?_append_left hlt]; exact hn
  have hm' : (hh ++ [MO.lst (parts a)])[hh.length]? = some (.lst (parts a)) := by simp
  have d1 : dref (hh ++ [MO.lst (parts a)]) (.r n) = some (.lst f) := by simp only [dref, hn']
  have hl2 : lim (f.length + (List.filter (fun p => !inT p f) (parts a)).length) = true := lim_small (by have := List.length_filter_le (fun p => !inT p f) (parts a); omega)
  have e := B.sc (G := G) (C := C) (ρ := [some (.t t), some (.r n), some (.t a), z]) (h := hh) (B.asg (i := 1) (B.catn (xs := f ++ (parts a).filter fun p => !inT p f) (B.var (i := 1) rfl) (comp_filter (own := [3]) (tg := .name 3) (cs := [.bin .notin (.var 3) (.var 1)]) (e := .var 3) (c := fun p => !inT p f) (p := (parts a, some (hh.length, .lst (parts a))))
    (B.itOf (B.call (B.cons (B.var (i := 2) rfl) B.nil) hC) (by simp only [itemsOf, hm'])) (by simp [gOk, hm']) fun x hx => ⟨_, rfl, cs1 (B.bin (B.var (i := 3) rfl) (B.var (i := 1) rfl) rfl d1 (sem2_notin (hs x hx) hf)), B.var (i := 3) rfl⟩) d1 rfl (by simp only [catL, hl2, if_true]))) B.sn
  rw [e]
  simp
end
theorem run_parts : ∀ (d : Nat) (t : T) (h : Hm), dp t < d → PartOk 50 1000 t → callF G d 0 [.t t] h = .ok (.r h.length) (h ++ [.lst (parts t)])
  | 0, _, _, hd, _ => absurd hd (by omega)
  | d + 1, t, h, hd, ok => by
    have isi : ∀ b : Bool, isTy (fun _ _ => false) t .ttuple = b → sem1 G.sub (.isi [.ttuple]) t = some (.bl b) := fun b e => by show some (T.bl (List.any [Ty.ttuple] (isTy (fun _ _ => false) t))) = _; simp [e]
    have first : exS G (callF G d) (startE 4 [.t t]) h (.asg (.name 1) (.newl [(.var 0)])) = .nx [some (.t t), some (.r h.length), none, none] (h ++ [.lst [t]]) := B.asg (B.newl (B.tcons (B.var rfl) B.tnil))
    have last : ∀ (n : Nat) (hh : Hm) (x y : Option S) (f : List T), hh[n]? = some (.lst f) → hh.take h.length = h → h.length ≤ n → runF h.length (exSs G (callF G d) [some (.t t), some (.r n), x, y] hh [.ret (.var 1)]) = .ok (.r h.length) (h ++ [.lst f]) := fun n hh x y f e1 e2 e3 => by
      rw [B.sr (B.ret (B.var rfl))]
      simp only [runF, retS, if_neg (Nat.not_lt.mpr e3), e1, e2]
    have nt : ∀ (hx : isTy (fun _ _ => false) t .ttuple = false), parts t = [t] → callF G (d + 1) 0 [.t t] h = .ok (.r h.length) (h ++ [.lst (parts t)]) := fun hx hp => by
      rw [B.def_ (fd := m_parts) rfl rfl (B.sc first (B.sc (B.if0 (B.un (B.var rfl) rfl (isi _ hx)) B.sn) rfl)), hp]
      exact last _ _ _ _ _ (by simp) (by simp) (Nat.le_refl _)
    cases t with
    | non => exact nt rfl (by simp [parts])
    | bl _ => exact nt rfl (by simp [parts])
    | int _ => exact nt rfl (by simp [parts])
    | str _ => exact nt rfl (by simp [parts])
    | lst _ => exact nt rfl (by simp [parts])
    | dct _ _ => exact nt rfl (by simp [parts])
    | obj _ _ _ => exact nt rfl (by simp [parts])
    | tup xs =>
      cases xs with
      | nil => exact absurd ok.tm (by simp [tm])
      | cons x as =>
        have walk := B.loop (g := none) (f := fun y ρ hh => match setTg (.name 2) (.t y) ρ with | some ρ1 => exSs G (callF G d) ρ1 hh [(.asg (.name 1) (.catn (.var 1) (.comp [3] (.name 3) (.of (.call 0 [(.var 2)])) [(.bin .notin (.var 3) (.var 1))] (.var 3))))] | none => .bad)
          (I := fun left ρ hh => ∃ n z f, ρ = [some (.t (.tup (x :: as))), some (.r n), z, none] ∧ hh[n]? = some (.lst f) ∧ hh.take h.length = h ∧ h.length ≤ n ∧ (∀ p ∈ f, PartOk 50 1000 p) ∧ f.length + szs left ≤ 1000 ∧ partsA f left = parts (.tup (x :: as)) ∧ ∀ a ∈ left, PartOk 50 1000 a ∧ dp a < d)
          (fun _ _ _ _ => rfl) (fun a left ρ hh inv => ?_) (its := as) (ρ := [some (.t (.tup (x :: as))), some (.r h.length), none, none]) (h := h ++ [.lst [.tup (x :: as)]])
          ⟨h.length, none, [.tup (x :: as)], rfl, by simp, by simp, Nat.le_refl _, fun p mp => by simp at mp; exact mp ▸ ok, ?_, by simp [parts], fun a ma => ⟨ok.down x as a ma, ?_⟩⟩
        · obtain ⟨ρ', hh, e1, n, z, f, rfl, e2, e3, e4, _, _, e5, _⟩ := walk
          rw [B.def_ (fd := m_parts) rfl rfl (B.sc first (B.sc (B.if1 (B.un (B.var rfl) rfl (isi _ rfl)) (B.sc (B.fr (B.itOf (B.slfT (n := 1) (B.var rfl) rfl) rfl) (by rw [cutL_from]; exact e1)) B.sn)) rfl))]
          rw [last _ _ _ _ _ e2 e3 e4]
          simp only [partsA] at e5
          rw [e5]
        · obtain ⟨n, z, f, rfl, e2, e3, e4, e5, e6, e7, e8⟩ := inv
          have ha := e8 a List.mem_cons_self
          have hlen := parts_len a
          simp only [szs] at e6
          have ih := run_parts d a hh ha.2 ha.1
          have pa := parts_ok ha.1
          have tf := turn_parts (t := .tup (x :: as)) (z := none) ih e2 (fun p mp => tm_shp (pa p mp).tm (by have := (pa p mp).dp; omega)) (lst_shp (tms_of fun p mp => (e5 p mp).tm) (dps_le fun p mp => by have := (e5 p mp).dp; omega)) (by omega)
          have hlt : n < hh.length := (List.getElem?_eq_some_iff.mp e2).1
          refine ⟨_, _, tf, _, _, _, rfl, by simp, ?_, by omega, fun p mp => ?_, ?_, e7, fun b mb => e8 b (List.mem_cons_of_mem _ mb)⟩
          · rw [List.append_assoc, List.take_append_of_le_length (by omega)]; exact e3
          · rcases List.mem_append.mp mp with mp | mp
            · exact e5 p mp
            · exact pa p (List.mem_filter.mp mp).1
          · have := List.length_filter_le (fun p => !inT p f) (parts a)
            simp only [List.length_append]; omega
        · have := ok.sz
          simp only [sz, szs] at this
          simp; omega
        · simp only [dp, dps] at hd
          have := dps_mem ma
          omega

/-! ### the law's own parts -/
theorem run_lparts : ∀ (d : Nat) (t : T) (h : Hm), dp t < d → PartOk 50 1000 t → callF G d 10 [.t t] h = .ok (.t (.lst (parts t))) h
  | 0, _, _, hd, _ => absurd hd (by omega)
  | d + 1, t, h, hd, ok => by
    have isi : ∀ b : Bool, isTy (fun _ _ => false) t .ttuple = b → sem1 G.sub (.isi [.ttuple]) t = some (.bl b) := fun b e => by show some (T.bl (List.any [Ty.ttuple] (isTy (fun _ _ => false) t))) = _; simp [e]
    have first : exS G (callF G d) (startE 4 [.t t]) h (.asg (.name 1) (.lst [(.var 0)])) = .nx [some (.t t), some (.t (.lst [t])), none, none] h := B.asg (B.lst (B.tcons (B.var rfl) B.tnil))
    have last : ∀ (x y : Option S) (f : List T), runF h.length (exSs G (callF G d) [some (.t t), some (.t (.lst f)), x, y] h [.ret (.var 1)]) = .ok (.t (.lst f)) h := fun x y f => by
      rw [B.sr (B.ret (B.var rfl))]
      simp only [runF, retS, List.take_length]
    have nt : ∀ (hx : isTy (fun _ _ => false) t .ttuple = false), parts t = [t] → callF G (d + 1) 10 [.t t] h = .ok (.t (.lst (parts t))) h := fun hx hp => by
      rw [B.def_ (fd := m__law_parts) rfl rfl (B.sc first (B.sc (B.if0 (B.un (B.var rfl) rfl (isi _ hx)) B.sn) rfl)), hp]
      exact last _ _ _
    cases t with
    | non => exact nt rfl (by simp [parts])
    | bl _ => exact nt rfl (by simp [parts])
    | int _ => exact nt rfl (by simp [parts])
    | str _ => exact nt rfl (by simp [parts])
    | lst _ => exact nt rfl (by simp [parts])
    | dct _ _ => exact nt rfl (by simp [parts])
    | obj _ _ _ => exact nt rfl (by simp [parts])
    | tup xs =>
      cases xs with
      | nil => exact absurd ok.tm (by simp [tm])
      | cons x as =>
        have walk := B.loop (g := none) (f := fun y ρ hh => match setTg (.name 2) (.t y) ρ with | some ρ1 => exSs G (callF G d) ρ1 hh [(.asg (.name 1) (.bin .add (.var 1) (.comp [3] (.name 3) (.of (.call 10 [(.var 2)])) [(.bin .notin (.var 3) (.var 1))] (.var 3))))] | none => .bad)
          (I := fun left ρ hh => hh = h ∧ ∃ z f, ρ = [some (.t (.tup (x :: as))), some (.t (.lst f)), z, none] ∧ (∀ p ∈ f, PartOk 50 1000 p) ∧ f.length + szs left ≤ 1000 ∧ partsA f left = parts (.tup (x :: as)) ∧ ∀ a ∈ left, PartOk 50 1000 a ∧ dp a < d)
          (fun _ _ _ _ => rfl) (fun a left ρ hh inv => ?_) (its := as) (ρ := [some (.t (.tup (x :: as))), some (.t (.lst [.tup (x :: as)])), none, none]) (h := h)
          ⟨rfl, none, [.tup (x :: as)], rfl, fun p mp => by simp at mp; exact mp ▸ ok, ?_, by simp [parts], fun a ma => ⟨ok.down x as a ma, ?_⟩⟩
        · obtain ⟨ρ', hh, e1, rfl, z, f, rfl, _, _, e5, _⟩ := walk
          rw [B.def_ (fd := m__law_parts) rfl rfl (B.sc first (B.sc (B.if1 (B.un (B.var rfl) rfl (isi _ rfl)) (B.sc (B.fr (B.itOf (B.slfT (n := 1) (B.var rfl) rfl) rfl) (by rw [cutL_from]; exact e1)) B.sn)) rfl))]
          rw [last]
          simp only [partsA] at e5
          rw [e5]
        · obtain ⟨rfl, z, f, rfl, e5, e6, e7, e8⟩ := inv
          have ha := e8 a List.mem_cons_self
          have hlen := parts_len a
          simp only [szs] at e6
          have ih := run_lparts d a hh ha.2 ha.1
          have pa := parts_ok ha.1
          have hf := lst_shp (tms_of fun p mp => (e5 p mp).tm) (dps_le (n := 60) fun p mp => by have := (e5 p mp).dp; omega)
          have hl2 : lim (f.length + (List.filter (fun p => !inT p f) (parts a)).length) = true := lim_small (by have := List.length_filter_le (fun p => !inT p f) (parts a); omega)
          have tf := B.sc (G := G) (C := callF G d) (ρ := [some (.t (.tup (x :: as))), some (.t (.lst f)), some (.t a), none]) (h := hh) (B.asg (i := 1) (B.bin (o := .add) (z := .lst (f ++ (parts a).filter fun p => !inT p f)) (B.var (i := 1) rfl) (comp_filter (own := [3]) (tg := .name 3) (cs := [.bin .notin (.var 3) (.var 1)]) (e := .var 3) (c := fun p => !inT p f) (p := (parts a, none))
            (B.itOf (B.call (B.cons (B.var (i := 2) rfl) B.nil) ih) rfl) rfl fun y hy => ⟨_, rfl, cs1 (B.bin (B.var (i := 3) rfl) (B.var (i := 1) rfl) rfl rfl (sem2_notin (tm_shp (pa y hy).tm (by have := (pa y hy).dp; omega)) hf)), B.var (i := 3) rfl⟩) rfl rfl (by simp only [sem2, hl2, if_true]))) B.sn
          refine ⟨_, _, tf, rfl, _, _, rfl, fun p mp => ?_, ?_, e7, fun b mb => e8 b (List.mem_cons_of_mem _ mb)⟩
          · rcases List.mem_append.mp mp with mp | mp
            · exact e5 p mp
            · exact pa p (List.mem_filter.mp mp).1
          · have := List.length_filter_le (fun p => !inT p f) (parts a)
            simp only [List.length_append]; omega
        · have := ok.sz
          simp only [sz, szs] at this
          simp; omega
        · simp only [dp, dps] at hd
          have := dps_mem ma
          omega
/-! ### sizes -/
mutual
def sizeT : T → Int
  | .tup (_ :: as) => 1 + sizeA as
  | _ => 1
def sizeA : List T → Int
  | [] => 0
  | a :: as => sizeT a + sizeA as
end
theorem intsOf_map : ∀ (as : List T) (k : T → Int), intsOf (as.map fun a => .int (k a)) = some (as.map k)
  | [], _ => rfl
  | a :: as, k => by simp [intsOf, intsOf_map as k]
theorem sizeA_sum : ∀ as : List T, (as.map sizeT).sum = sizeA as
  | [] => by simp [sizeA]
  | a :: as => by simp [sizeA, sizeA_sum as]
theorem isi_str {t : T} (b : Bool) (e : isTy (fun _ _ => false) t .tstr = b) : sem1 G.sub (.isi [.tstr]) t = some (.bl b) := by
  show some (T.bl (List.any [Ty.tstr] (isTy (fun _ _ => false) t))) = _
  simp [e]
theorem run_size_of (f : Nat) (fd : Fd) (hf : G.fs f = some fd) (hfd : fd = ⟨1, 2, [(.ife (.un (.isi [.tstr]) (.var 0)) [(.ret (.int 1))] []), (.ret (.bin .add (.int 1) (.un .sum (.comp [1] (.name 1) (.of (.slf (.var 0) (.int 1))) [] (.call f [(.var 1)])))))]⟩) :
    ∀ (d : Nat) (t : T) (h : Hm), dp t < d → tm t = true → callF G d f [.t t] h = .ok (.t (.int (sizeT t))) h
  | 0, _, _, hd, _ => absurd hd (by omega)
  | d + 1, .str x, h, hd, ok => by
    subst hfd
    exact B.dret0 hf rfl (B.sr (B.if1 (B.un (B.var rfl) rfl (isi_str true rfl)) (B.sr (B.ret B.int))))
  | d + 1, .tup (.str n :: as), h, hd, ok => by
    simp only [tm, Bool.and_eq_true] at ok
    have hk : ∀ a ∈ as, callF G d f [.t a] h = .ok (.t (.int (sizeT a))) h := fun a ma => run_size_of f fd hf hfd d a h (by simp only [dp, dps] at hd; have := dps_mem ma; omega) (tms_mem ok.2 ma)
    have e := B.ret (G := G) (C := callF G d) (ρ := [some (.t (.tup (.str n :: as))), none]) (h := h) (B.bin (o := .add) (z := .int (1 + sizeA as)) (a := .int 1) (s := .t (.int 1)) (h1 := h) (by simp [evE]) (B.un (o := .sum) (z := .int (sizeA as)) (comp_map (own := [1]) (tg := .name 1) (e := .call f [.var 1]) (k := fun a => .int (sizeT a)) (p := (as, none)) (h1 := h)
      (B.itOf (B.slfT (n := 1) (B.var (i := 0) rfl) rfl) (by rw [cutL_from]; rfl)) rfl fun a ma => ⟨_, rfl, B.call (B.cons (B.var (i := 1) rfl) B.nil) (hk a ma)⟩) rfl (by simp only [sem1, intsOf_map, Option.map_some]; rw [show (as.map fun a => sizeT a).sum = sizeA as from sizeA_sum as])) rfl rfl rfl)
    subst hfd
    rw [sizeT]
    exact B.dret0 hf rfl (B.sc (B.if0 (B.un (B.var (i := 0) rfl) rfl (isi_str false rfl)) B.sn) (B.sr e))
  | _ + 1, .non, _, _, ok | _ + 1, .bl _, _, _, ok | _ + 1, .int _, _, _, ok | _ + 1, .lst _, _, _, ok | _ + 1, .dct _ _, _, _, ok | _ + 1, .obj _ _ _, _, _, ok => by simp [tm] at ok
  | _ + 1, .tup [], _, _, ok | _ + 1, .tup (.non :: _), _, _, ok | _ + 1, .tup (.bl _ :: _), _, _, ok | _ + 1, .tup (.int _ :: _), _, _, ok | _ + 1, .tup (.tup _ :: _), _, _, ok | _ + 1, .tup (.lst _ :: _), _, _, ok | _ + 1, .tup (.dct _ _ :: _), _, _, ok | _ + 1, .tup (.obj _ _ _ :: _), _, _, ok => by simp [tm] at ok
theorem run_size : ∀ (d : Nat) (t : T) (h : Hm), dp t < d → tm t = true → callF G d 2 [.t t] h = .ok (.t (.int (sizeT t))) h := run_size_of 2 m_size rfl rfl
theorem run_lsize : ∀ (d : Nat) (t : T) (h : Hm), dp t < d → tm t = true → callF G d 13 [.t t] h = .ok (.t (.int (sizeT t))) h := run_size_of 13 m__law_size rfl rfl

/-! ### putting -/
theorem cutL_to (xs : List T) (n : Nat) : cutL xs none (some (n : Int)) = xs.take n := by
  unfold cutL
  rw [HT.sIx_nat, HT.sIx_none]
  rcases Nat.le_total n xs.length with h | h
  · rw [Nat.min_eq_left h]; simp
  · rw [Nat.min_eq_right h, List.take_of_length_le h]; simp
mutual
def putT (ks us : List T) : T → T
  | .str x => (getD (.inr x) ks us).getD (.str x)
  | .tup (x :: as) => .tup (x :: putA ks us as)
  | t => t
def putA (ks us : List T) : List T → List T
  | [] => []
  | a :: as => putT ks us a :: putA ks us as
end
theorem putA_map (ks us : List T) : ∀ as : List T, putA ks us as = as.map (putT ks us)
  | [] => by simp [putA]
  | a :: as => by simp [putA, putA_map ks us as]
theorem szs_len : ∀ as : List T, as.length ≤ szs as
  | [] => by simp [szs]
  | a :: as => by
    have := szs_len as
    have : 1 ≤ sz a := by cases a <;> simp [sz]
    simp only [szs, List.length_cons]; omega
theorem run_put {s : S} {ks us : List T} : ∀ (d : Nat) (t : T) (h : Hm), dref h s = some (.dct ks us) → dp t < d → PartOk 50 1000 t → callF G d 3 [.t t, s] h = .ok (.t (putT ks us t)) h
  | 0, _, _, _, hd, _ => absurd hd (by omega)
  | d + 1, .str x, h, hs, hd, ok => by
    rw [putT]
    exact B.dret0 (fd := m_put) rfl rfl (B.sr (B.if1 (B.un (B.var rfl) rfl (isi_str true rfl)) (B.sr (B.ret (B.get (B.var rfl) (B.var rfl) (B.var rfl) hs hs rfl)))))
  | d + 1, .tup (.str n :: as), h, hs, hd, ok => by
    have hk : ∀ a ∈ as, callF G d 3 [.t a, s] h = .ok (.t (putT ks us a)) h := fun a ma => run_put d a h hs (by simp only [dp, dps] at hd; have := dps_mem ma; omega) (ok.down _ _ a ma)
    have hl : as.length ≤ 1000 := by have := ok.sz; simp only [sz, szs] at this; have := szs_len as; omega
    rw [putT, putA_map]
    exact B.dret0 (fd := m_put) rfl rfl (B.sc (B.if0 (B.un (B.var (i := 0) rfl) rfl (isi_str false rfl)) B.sn) (B.sr (B.ret (B.bin (v := .tup [.str n]) (v2 := .tup (as.map (putT ks us))) (B.sltT (n := 1) (B.var (i := 0) rfl) rfl) (B.un (o := .tuple) (comp_map (own := [2]) (tg := .name 2) (p := (as, none)) (k := putT ks us)
      (B.itOf (B.slfT (n := 1) (B.var (i := 0) rfl) rfl) (by rw [cutL_from]; rfl)) rfl fun a ma => ⟨_, rfl, B.call (B.cons (B.var (i := 2) rfl) (B.cons (B.var (i := 1) rfl) B.nil)) (hk a ma)⟩) rfl rfl) (by rw [cutL_to]; rfl) rfl
        (by simp only [sem2]; rw [if_pos (lim_small (by simp; omega))]; rfl)))))
  | _ + 1, .non, _, _, _, ok | _ + 1, .bl _, _, _, _, ok | _ + 1, .int _, _, _, _, ok | _ + 1, .lst _, _, _, _, ok | _ + 1, .dct _ _, _, _, _, ok | _ + 1, .obj _ _ _, _, _, _, ok => by have := ok.tm; simp [tm] at this
  | _ + 1, .tup [], _, _, _, ok | _ + 1, .tup (.non :: _), _, _, _, ok | _ + 1, .tup (.bl _ :: _), _, _, _, ok | _ + 1, .tup (.int _ :: _), _, _, _, ok | _ + 1, .tup (.tup _ :: _), _, _, _, ok | _ + 1, .tup (.lst _ :: _), _, _, _, ok | _ + 1, .tup (.dct _ _ :: _), _, _, _, ok | _ + 1, .tup (.obj _ _ _ :: _), _, _, _, ok => by
    have := ok.tm; simp [tm] at this
theorem run_lput {s : S} {ks us : List T} : ∀ (d : Nat) (t : T) (h : Hm), dref h s = some (.dct ks us) → dp t < d → PartOk 50 1000 t → callF G d 12 [.t t, s] h = .ok (.t (putT ks us t)) h
  | 0, _, _, _, hd, _ => absurd hd (by omega)
  | d + 1, .str x, h, hs, hd, ok => by
    rw [putT]
    refine B.dret0 (fd := m__law_put) rfl rfl (B.sr (B.if1 (B.un (B.var rfl) rfl (isi_str true rfl)) (B.sr (B.ret ?_))))
    cases e : getD (.inr x) ks us with
    | none => exact B.ite0 (B.bin (z := .bl false) (B.var rfl) (B.var rfl) rfl hs (by show some (T.bl (getD (.inr x) ks us).isSome) = _; rw [e]; rfl)) (B.var rfl)
    | some u => exact B.ite1 (B.bin (z := .bl true) (B.var rfl) (B.var rfl) rfl hs (by show some (T.bl (getD (.inr x) ks us).isSome) = _; rw [e]; rfl)) (B.bin (B.var rfl) (B.var rfl) hs rfl (by show getD (.inr x) ks us = _; rw [e]; rfl))
  | d + 1, .tup (.str n :: as), h, hs, hd, ok => by
    have hk : ∀ a ∈ as, callF G d 12 [.t a, s] h = .ok (.t (putT ks us a)) h := fun a ma => run_lput d a h hs (by simp only [dp, dps] at hd; have := dps_mem ma; omega) (ok.down _ _ a ma)
    have hl : as.length ≤ 1000 := by have := ok.sz; simp only [sz, szs] at this; have := szs_len as; omega
    rw [putT, putA_map]
    exact B.dret0 (fd := m__law_put) rfl rfl (B.sc (B.if0 (B.un (B.var (i := 0) rfl) rfl (isi_str false rfl)) B.sn) (B.sr (B.ret (B.bin (v := .tup [.str n]) (v2 := .tup (as.map (putT ks us))) (B.tup (B.tcons (B.bin (z := .str n) (B.var (i := 0) rfl) B.int rfl rfl (by simp [sem2, L2.atI, L2.ixN])) B.tnil)) (B.un (o := .tuple) (comp_map (own := [2]) (tg := .name 2) (p := (as, none)) (k := putT ks us)
      (B.itOf (B.slfT (n := 1) (B.var (i := 0) rfl) rfl) (by rw [cutL_from]; rfl)) rfl fun a ma => ⟨_, rfl, B.call (B.cons (B.var (i := 2) rfl) (B.cons (B.var (i := 1) rfl) B.nil)) (hk a ma)⟩) rfl rfl) rfl rfl
        (by simp only [sem2]; rw [if_pos (lim_small (by simp; omega))]; rfl)))))
  | _ + 1, .non, _, _, _, ok | _ + 1, .bl _, _, _, _, ok | _ + 1, .int _, _, _, _, ok | _ + 1, .lst _, _, _, _, ok | _ + 1, .dct _ _, _, _, _, ok | _ + 1, .obj _ _ _, _, _, _, ok => by have := ok.tm; simp [tm] at this
  | _ + 1, .tup [], _, _, _, ok | _ + 1, .tup (.non :: _), _, _, _, ok | _ + 1, .tup (.bl _ :: _), _, _, _, ok | _ + 1, .tup (.int _ :: _), _, _, _, ok | _ + 1, .tup (.tup _ :: _), _, _, _, ok | _ + 1, .tup (.lst _ :: _), _, _, _, ok | _ + 1, .tup (.dct _ _ :: _), _, _, _, ok | _ + 1, .tup (.obj _ _ _ :: _), _, _, _, ok => by
    have := ok.tm; simp [tm] at this
/-! ### variables -/
def strsT : List T → List Str
  | [] => []
  | .str x :: r => x :: strsT r
  | _ :: r => strsT r
theorem strsT_len : ∀ xs : List T, (strsT xs).length ≤ xs.length
  | [] => by simp [strsT]
  | .str x :: r => by have := strsT_len r; simp [strsT]; omega
  | .non :: r | .bl _ :: r | .int _ :: r | .tup _ :: r | .lst _ :: r | .dct _ _ :: r | .obj _ _ _ :: r => by have := strsT_len r; simp [strsT]; omega
theorem strsOf_filter : ∀ xs : List T, strsOf (xs.filter fun t => isTy (fun _ _ => false) t .tstr) = some (strsT xs)
  | [] => rfl
  | .str x :: r => by
    rw [List.filter_cons_of_pos (by rfl), strsOf, strsOf_filter r]; rfl
  | .non :: r | .bl _ :: r | .int _ :: r | .tup _ :: r | .lst _ :: r | .dct _ _ :: r | .obj _ _ _ :: r => by
    rw [List.filter_cons_of_neg (by simp [isTy]), strsOf_filter r]; rfl
def lettersT (t : T) : List T := (sortS (strsT (parts t))).map .str
theorem run_variables {d : Nat} {t : T} {h : Hm} (hd : dp t < d) (ok : PartOk 50 1000 t) (hs : sz t ≤ 60) : callF G (d + 1) 1 [.t t] h = .ok (.t (.lst (lettersT t))) h := by
  have hp : (strsT (parts t)).length < 64 := by have := strsT_len (parts t); have := parts_len t; omega
  have hg : (h ++ [MO.lst (parts t)])[h.length]? = some (.lst (parts t)) := by simp
  have e := B.dret (f := 1) (d := d) (fd := m_variables) (h := h) (ss := [.t t]) rfl rfl (B.sr (B.ret (B.un (o := .sorted) (z := .lst (lettersT t)) (comp_filter (own := [1]) (tg := .name 1) (e := .var 1) (c := fun t => isTy (fun _ _ => false) t .tstr) (p := (parts t, some (h.length, .lst (parts t)))) (h1 := h ++ [.lst (parts t)])
    (B.itOf (B.call (B.cons (B.var (i := 0) rfl) B.nil) (run_parts d t h hd ok)) (by simp only [itemsOf, hg])) (by simp [gOk, hg]) fun x _ => ⟨_, rfl, cs1 (B.un (B.var (i := 1) rfl) rfl (isi_str _ rfl)), B.var (i := 1) rfl⟩) rfl (by simp only [sem1, strsOf_filter, if_pos hp]; rfl))))
  rw [e]; simp
theorem run_letters {d : Nat} {t : T} {h : Hm} (hd : dp t < d) (ok : PartOk 50 1000 t) (hs : sz t ≤ 60) : callF G (d + 1) 11 [.t t] h = .ok (.t (.lst (lettersT t))) h := by
  have hp : (strsT (parts t)).length < 64 := by have := strsT_len (parts t); have := parts_len t; omega
  exact B.dret0 (d := d) (fd := m__law_letters) (h := h) (ss := [.t t]) rfl rfl (B.sr (B.ret (B.un (o := .sorted) (z := .lst (lettersT t)) (comp_filter (own := [1]) (tg := .name 1) (e := .var 1) (c := fun t => isTy (fun _ _ => false) t .tstr) (p := (parts t, none)) (h1 := h)
    (B.itOf (B.call (B.cons (B.var (i := 0) rfl) B.nil) (run_lparts d t h hd ok)) rfl) rfl fun x _ => ⟨_, rfl, cs1 (B.un (B.var (i := 1) rfl) rfl (isi_str _ rfl)), B.var (i := 1) rfl⟩) rfl (by simp only [sem1, strsOf_filter, if_pos hp]; rfl))))

/-! ### how long a repr is -/
open PySem
theorem strLenA (a b : Str) : (a ++ b).length = a.length + b.length := PySem.strLen_append a b
theorem join_le (ts : List Str) : (Str.join ", " ts).length ≤ piled ts := by
  by_cases h : ts = []
  · subst h; exact Nat.zero_le _
  · have := join_length_add ts h; omega
theorem tuple_le (ts : List Str) : (tupleText ts).length ≤ piled ts + 3 := by
  unfold tupleText
  have h1 := join_le ts
  have h2 : ((("(" : String) : Str)).length = 1 := rfl
  have h3 : (((if ts.length == 1 then ",)" else ")" : String) : Str)).length ≤ 2 := by
    split
    · exact Nat.le_refl 2
    · exact (by decide : 1 ≤ 2)
  rw [strLenA, strLenA, h2]; omega
theorem textFrom_le : ∀ (ts : List Str) (k : Nat) (acc : Str), (textFrom k acc ts).length ≤ acc.length + piled ts
  | [], k, acc => by simp [textFrom, piled]
  | t :: ts, k, acc => by
    have h := textFrom_le ts (k + 1) (acc ++ (if k > 0 then ", " else "" : String) ++ t)
    have e : (acc ++ (if k > 0 then ", " else "" : String) ++ t).length ≤ acc.length + 2 + t.length := by
      rw [strLenA, strLenA]
      have : (((if k > 0 then ", " else "" : String) : Str)).length ≤ 2 := by
        split
        · exact Nat.le_refl 2
        · exact Nat.zero_le 2
      omega
    rw [textFrom, piled_cons]; omega
theorem list_le (ts : List Str) : (listText ts).length ≤ piled ts + 2 := by
  unfold listText
  have h := textFrom_le ts 0 ("[" : String)
  have h1 : ((("[" : String) : Str)).length = 1 := rfl
  have h2 : ((("]" : String) : Str)).length = 1 := rfl
  rw [strLenA, h2]; omega
theorem dict_le (ts : List Str) : (dictText ts).length ≤ piled ts + 2 := by
  unfold dictText
  have h1 := join_le ts
  have h2 : ((("{" : String) : Str)).length = 1 := rfl
  have h3 : ((("}" : String) : Str)).length = 1 := rfl
  rw [strLenA, strLenA, h2, h3]; omega
mutual
theorem tm_shown : ∀ t : T, tm t = true → t.py.shown.length + 2 ≤ 20 * sz t
  | .str x, h => by
    simp only [tm, okS, Bool.and_eq_true, decide_eq_true_eq] at h
    simp only [T.py, PyData.shown, sz]; omega
  | .tup (.str n :: as), h => by
    simp only [tm, okS, Bool.and_eq_true, decide_eq_true_eq] at h
    have h2 := tms_shown as h.2
    have h3 := tuple_le (PyData.shownAll (pys (.str n :: as)))
    simp only [pys, T.py, PyData.shownAll, PyData.shown, piled_cons] at h3
    simp only [pys, T.py, PyData.shownAll, PyData.shown, sz, szs]; omega
  | .non, h | .bl _, h | .int _, h | .lst _, h | .dct _ _, h | .obj _ _ _, h => by simp [tm] at h
  | .tup [], h | .tup (.non :: _), h | .tup (.bl _ :: _), h | .tup (.int _ :: _), h | .tup (.tup _ :: _), h | .tup (.lst _ :: _), h | .tup (.dct _ _ :: _), h | .tup (.obj _ _ _ :: _), h => by simp [tm] at h
theorem tms_shown : ∀ as : List T, tms as = true → piled (PyData.shownAll (pys as)) ≤ 20 * szs as
  | [], _ => by simp [pys, PyData.shownAll, piled, szs]
  | a :: as, h => by
    simp only [tms, Bool.and_eq_true] at h
    have h1 := tm_shown a h.1
    have h2 := tms_shown as h.2
    simp only [pys, PyData.shownAll, piled_cons, szs]; omega
end
theorem repr_lst {xs : List T} (h : tms xs = true) (hd : dps xs ≤ 60) (hs : szs xs ≤ 4000) : ∃ y, sem1 M.G.sub .repr (.lst xs) = some (.str y) := by
  obtain ⟨h1, h2, h3, h4, h5⟩ := tms_data xs h
  have h6 := tms_shown xs h
  have h7 := list_le (PyData.shownAll (pys xs))
  refine ⟨(T.lst xs).py.shown, ?_⟩
  simp only [sem1, T.data, T.py, PyData.showable, PyData.shown, PyData.depth, h1, h5, h4, Bool.true_and, Bool.and_eq_true, decide_eq_true_eq]
  exact if_pos ⟨lim_small (by omega), by omega⟩
theorem repr_tm {t : T} (h : tm t = true) (hd : dp t ≤ 60) (hs : sz t ≤ 4000) : ∃ y, sem1 M.G.sub .repr t = some (.str y) := by
  obtain ⟨h1, h2, h3, h4, h5⟩ := tm_data t h
  have h6 := tm_shown t h
  refine ⟨t.py.shown, ?_⟩
  cases t <;> first
    | (simp [tm] at h; done)
    | (simp only [sem1, h1, h5, h4, Bool.true_and, Bool.and_eq_true, decide_eq_true_eq]; exact if_pos ⟨lim_small (by omega), by omega⟩)
end My

/-! What the laws draw from their scripts. -/
namespace My
open PySem (Str PyData)
open My.M
/-- a feed lies at n -/
def isFeed (h : Hm) (n : Nat) : Prop := ∃ a s : Int, h[n]? = some (.lst [.int a, .int s])
/-- more lies on the heap; the feed at n may have gone on, the rest is as it was -/
structure Ext (n : Nat) (h h' : Hm) : Prop where
  len : h.length ≤ h'.length
  old : ∀ m, m ≠ n → m < h.length → h'[m]? = h[m]?
  feed : isFeed h' n
structure Adv (n : Nat) (h h' : Hm) : Prop where
  len : h'.length = h.length
  old : ∀ m, m ≠ n → h'[m]? = h[m]?
  feed : isFeed h' n
theorem Adv.refl {n : Nat} {h : Hm} (f : isFeed h n) : Adv n h h := ⟨rfl, fun _ _ => rfl, f⟩
theorem Adv.trans {n : Nat} {h h1 h2 : Hm} (a : Adv n h h1) (b : Adv n h1 h2) : Adv n h h2 := ⟨b.len.trans a.len, fun m k => (b.old m k).trans (a.old m k), b.feed⟩
theorem Adv.ext {n : Nat} {h h1 : Hm} (a : Adv n h h1) : Ext n h h1 := ⟨Nat.le_of_eq a.len.symm, fun m k _ => a.old m k, a.feed⟩
theorem Ext.refl {n : Nat} {h : Hm} (f : isFeed h n) : Ext n h h := ⟨Nat.le_refl _, fun _ _ _ => rfl, f⟩
theorem Ext.trans {n : Nat} {h h1 h2 : Hm} (a : Ext n h h1) (b : Ext n h1 h2) : Ext n h h2 := ⟨Nat.le_trans a.len b.len, fun m k l => (b.old m k (Nat.lt_of_lt_of_le l a.len)).trans (a.old m k l), b.feed⟩
theorem isFeed.lt {h : Hm} {n : Nat} (f : isFeed h n) : n < h.length := by
  obtain ⟨_, _, e⟩ := f
  exact (List.getElem?_eq_some_iff.mp e).1
theorem Ext.cut {n : Nat} {h h1 : Hm} (hn : n < h.length) (a : Ext n h h1) : Adv n h (h1.take h.length) := by
  refine ⟨by rw [List.length_take, Nat.min_eq_left a.len], fun m k => ?_, ?_⟩
  · by_cases l : m < h.length
    · rw [List.getElem?_take_of_lt l]; exact a.old m k l
    · rw [List.getElem?_eq_none (by rw [List.length_take]; omega), List.getElem?_eq_none (by omega)]
  · obtain ⟨x, y, e⟩ := a.feed
    exact ⟨x, y, by rw [List.getElem?_take_of_lt hn]; exact e⟩
theorem Ext.push {n : Nat} {h : Hm} {o : MO} (f : isFeed h n) : Ext n h (h ++ [o]) := by
  have hn := f.lt
  refine ⟨by simp, fun m _ l => by rw [List.getElem?_append_left l], ?_⟩
  obtain ⟨x, y, e⟩ := f
  exact ⟨x, y, by rw [List.getElem?_append_left hn]; exact e⟩
/-- a value that is not the feed -/
def offF (n : Nat) (s : S) (h : Hm) (xs : List T) : Prop := dref h s = some (.lst xs) ∧ ∀ m, s = .r m → m ≠ n ∧ m < h.length
theorem offF.t {n : Nat} {h : Hm} {xs : List T} : offF n (.t (.lst xs)) h xs := ⟨rfl, fun _ e => by cases e⟩
theorem offF.ext {n : Nat} {s : S} {h h' : Hm} {xs : List T} (o : offF n s h xs) (a : Ext n h h') : offF n s h' xs := by
  refine ⟨?_, fun m e => ⟨(o.2 m e).1, Nat.lt_of_lt_of_le (o.2 m e).2 a.len⟩⟩
  cases s with
  | t v => exact o.1
  | r m =>
    have h1 := o.1
    have h2 := o.2 m rfl
    simp only [dref] at h1 ⊢
    rw [a.old m h2.1 h2.2]; exact h1
theorem idx0 {x y : T} : sem2 .idx (.lst [x, y]) (.int 0) = some x := by simp [sem2, L2.atI, L2.ixN]
theorem idx1 {x y : T} : sem2 .idx (.lst [x, y]) (.int 1) = some y := by simp [sem2, L2.atI, L2.ixN]
theorem run_take {d n : Nat} {h : Hm} {m : Int} (f : isFeed h n) (h0 : 0 < m) (h1 : m < 1073741824) : ∃ (r : Int) (h' : Hm), 0 ≤ r ∧ r < m ∧ Adv n h h' ∧ callF G (d + 1) 5 [.r n, .t (.int m)] h = .ok (.t (.int r)) h' := by
  obtain ⟨a, s, e⟩ := f
  have hn : n < h.length := (List.getElem?_eq_some_iff.mp e).1
  have dr : dref h (.r n) = some (.lst [.int a, .int s]) := by simp only [dref, e]
  have fin : ∀ x y : Int, Adv n h (h.set n (.lst [.int x, .int y])) := fun x y => ⟨by simp, fun k hk => by rw [List.getElem?_set_ne (Ne.symm hk)], x, y, by rw [List.getElem?_set_self hn]⟩
  have md : ∀ x : Int, sem2 .mod (.int x) (.int m) = some (.int (x % m)) := fun x => by simp [sem2, arith, h0]
  have fd : ∀ x : Int, sem2 .fdiv (.int x) (.int m) = some (.int (x / m)) := fun x => by simp [sem2, arith, h0, h1]
  by_cases ha : 0 < a
  · refine ⟨a % m, h.set n (.lst [.int (a / m), .int s]), Int.emod_nonneg _ (by omega), Int.emod_lt_of_pos _ h0, fin _ _, ?_⟩
    have z := B.dret (G := G) (f := 5) (d := d) (fd := m__law_take) (h := h) (ss := [.r n, .t (.int m)]) rfl rfl (B.sr (B.if1 (B.bin (z := .bl true) (B.bin (z := .int a) (B.var (i := 0) rfl) B.int dr rfl idx0) B.int rfl rfl (by simp [sem2, arith, cmpI, ha])) (B.sc (B.asg (i := 2) (B.bin (B.un (o := .int) (z := .int a) (B.bin (B.var (i := 0) rfl) B.int dr rfl idx0) rfl rfl) (B.var (i := 1) rfl) rfl rfl (md a)))
      (B.sc (B.setL (k := 0) (B.bin (B.bin (z := .int a) (B.var (i := 0) rfl) B.int dr rfl idx0) (B.var (i := 1) rfl) rfl rfl (fd a)) (B.var (i := 0) rfl) B.int e rfl) (B.sr (B.ret (B.var (i := 2) rfl)))))))
    rw [z, List.take_of_length_le (by simp)]
    rfl
  · obtain ⟨b, hb⟩ : ∃ b : Int, b = (s * 6364136223846793005 + 1442695040888963407) % 2305843009213693951 := ⟨_, rfl⟩
    refine ⟨(b / 65536) % m, h.set n (.lst [.int a, .int b]), Int.emod_nonneg _ (by omega), Int.emod_lt_of_pos _ h0, fin _ _, ?_⟩
    have e2 : (h.set n (.lst [.int a, .int b]))[n]? = some (.lst [.int a, .int b]) := by rw [List.getElem?_set_self hn]
    have dr2 : dref (h.set n (.lst [.int a, .int b])) (.r n) = some (.lst [.int a, .int b]) := by simp only [dref, e2]
    have z := B.dret (G := G) (f := 5) (d := d) (fd := m__law_take) (h := h) (ss := [.r n, .t (.int m)]) rfl rfl (B.sc (B.if0 (B.bin (z := .bl false) (B.bin (z := .int a) (B.var (i := 0) rfl) B.int dr rfl idx0) B.int rfl rfl (by simp [sem2, arith, cmpI, ha])) B.sn)
      (B.sc (B.setL (k := 1) (v := .int b) (B.bin (B.un (o := .int) (z := .int (s * 6364136223846793005 + 1442695040888963407)) (B.bin (B.bin (z := .int (s * 6364136223846793005)) (B.bin (B.var (i := 0) rfl) B.int dr rfl idx1) B.int rfl rfl (by simp [sem2, arith, small64])) B.int rfl rfl rfl) rfl rfl) B.int rfl rfl (by rw [hb]; simp [sem2, arith])) (B.var (i := 0) rfl) B.int e rfl)
      (B.sr (B.ret (B.bin (v := .int (b / 65536)) (B.un (o := .int) (v := .int (b / 65536)) (z := .int (b / 65536)) (B.bin (B.bin (z := .int b) (B.var (i := 0) rfl) B.int dr2 rfl idx1) B.int rfl rfl (by simp [sem2, arith])) rfl rfl) (B.var (i := 1) rfl) rfl rfl (md _))))))
    rw [z]
    have : ([T.int a, T.int s].set 1 (T.int b)) = [T.int a, T.int b] := rfl
    rw [List.take_of_length_le (by simp)]
    rfl
theorem atI_get {xs : List T} {r : Int} (h0 : 0 ≤ r) (h1 : r < xs.length) : ∃ x ∈ xs, L2.atI xs r = some x := by
  have hl : r.toNat < xs.length := by omega
  refine ⟨xs[r.toNat], List.getElem_mem _, ?_⟩
  simp [L2.atI, L2.ixN, h0, h1]
theorem run_pick {d n : Nat} {h : Hm} {s : S} {xs : List T} (f : isFeed h n) (o : offF n s h xs) (h0 : xs ≠ []) (h1 : xs.length < 1073741824) : ∃ (x : T) (h' : Hm), x ∈ xs ∧ Adv n h h' ∧ callF G (d + 2) 6 [.r n, s] h = .ok (.t x) h' := by
  have hl : 0 < xs.length := List.length_pos_iff.mpr h0
  obtain ⟨r, h', r0, r1, adv, e⟩ := run_take (d := d) (m := (xs.length : Int)) f (by omega) (by omega)
  obtain ⟨x, mx, ex⟩ := atI_get r0 r1
  refine ⟨x, h', mx, adv, ?_⟩
  have z := B.dret (G := G) (f := 6) (d := d + 1) (fd := m__law_pick) (h := h) (ss := [.r n, s]) rfl rfl (B.sr (B.ret (B.bin (B.var (i := 1) rfl) (B.call (B.cons (B.var (i := 0) rfl) (B.cons (B.un (o := .len) (z := .int xs.length) (B.var (i := 1) rfl) o.1 rfl) B.nil)) e) (o.ext adv.ext).1 rfl (by simp only [sem2]; exact ex))))
  rw [z, List.take_of_length_le (by rw [adv.len]; exact Nat.le_refl _)]

/-! ### drawn terms -/
theorem eq_int (a b : Int) : sem2 .eq (.int a) (.int b) = some (.bl (a == b)) := rfl
theorem eq_nil {xs : List T} (h : (T.lst xs).shp = true) : sem2 .eq (.lst xs) (.lst []) = some (.bl xs.isEmpty) := by
  have h2 : (T.lst []).shp = true := rfl
  simp only [sem2, eq2, h, h2, Bool.and_self, if_true]
  cases xs <;> simp [eqT, T.py, pys, PyData.eqv, PyData.eqvAll]
theorem ne_nil {xs : List T} (h : (T.lst xs).shp = true) : sem2 .ne (.lst xs) (.lst []) = some (.bl (!xs.isEmpty)) := by
  have h2 : (T.lst []).shp = true := rfl
  simp only [sem2, eq2, h, h2, Bool.and_self, if_true]
  cases xs <;> simp [eqT, T.py, pys, PyData.eqv, PyData.eqvAll]
/-- a sign: its name and its arity -/
def pairOk : T → Bool
  | .tup [.str n, .int a] => okS n && decide (0 ≤ a) && decide (a ≤ 3)
  | _ => false
theorem pairOk.is {t : T} (h : pairOk t = true) : ∃ n a, t = .tup [.str n, .int a] ∧ okS n = true ∧ 0 ≤ a ∧ a ≤ 3 := by
  unfold pairOk at h
  split at h
  · rename_i n a
    simp only [Bool.and_eq_true, decide_eq_true_eq] at h
    exact ⟨n, a, rfl, h.1.1, h.1.2, h.2⟩
  · cases h
theorem pairs_shp {xs : List T} (h : ∀ x ∈ xs, pairOk x = true) : (T.lst xs).shp = true := by
  have key : datas xs = true ∧ PyData.canLayAll0 (pys xs) = true ∧ PyData.depthAll (pys xs) ≤ 2 := by
    induction xs with
    | nil => exact ⟨rfl, rfl, by simp [pys, PyData.depthAll]⟩
    | cons x xs ih =>
      obtain ⟨h1, h2, h3⟩ := ih fun y m => h y (List.mem_cons_of_mem _ m)
      obtain ⟨n, a, rfl, o, _, _⟩ := pairOk.is (h x List.mem_cons_self)
      simp only [okS, Bool.and_eq_true] at o
      refine ⟨by simp [datas, T.data, h1], by simp [pys, T.py, PyData.canLayAll0, PyData.canLay0, h2, o.1], ?_⟩
      simp only [pys, T.py, PyData.depthAll, PyData.depth]
      omega
  unfold T.shp PySem.SeqAt.shaped
  simp [T.data, T.py, PyData.canLay0, PyData.depth, key.1, key.2.1]
  have := key.2.2
  omega
theorem compL_inv {g : Option (Nat × MO)} {f : T → Hm → R (Option T)} {I : Hm → Prop} {P : T → Prop} (gd : ∀ h, I h → gOk g h = true) : ∀ {its : List T} {h : Hm}, (∀ x ∈ its, ∀ h, I h → ∃ y h', f x h = .ok (some y) h' ∧ I h' ∧ P y) → I h →
    ∃ ys h', compL g f its h = .ok ys h' ∧ I h' ∧ (∀ y ∈ ys, P y) ∧ ys.length = its.length
  | [], h, _, i => ⟨[], h, by simp [compL, gd h i], i, fun _ m => (by cases m), rfl⟩
  | x :: xs, h, st, i => by
    obtain ⟨y, h1, e1, i1, p1⟩ := st x List.mem_cons_self h i
    obtain ⟨ys, h2, e2, i2, p2, n2⟩ := compL_inv gd (fun z m => st z (List.mem_cons_of_mem _ m)) i1
    exact ⟨y :: ys, h2, by simp [compL, gd h i, e1, e2], i2, fun z m => (List.mem_cons.mp m).elim (fun e => e ▸ p1) (p2 z), by simp [n2]⟩
theorem comp_inv {C : Orc} {ρ : En} {h h1 : Hm} {own : List Nat} {tg : Tg} {it : It} {e : E} {p : List T × Option (Nat × MO)} {I : Hm → Prop} {P : T → Prop} (hit : evIt G C ρ h it = .ok p h1) (gd : ∀ h, I h → gOk p.2 h = true)
    (st : ∀ x ∈ p.1, ∀ h, I h → ∃ ρ' y h', setTg tg (.t x) (wipeE ρ own) = some ρ' ∧ evE G C ρ' h e = .ok (.t y) h' ∧ I h' ∧ P y) (i : I h1) : ∃ ys h', evE G C ρ h (.comp own tg it [] e) = .ok (.t (.lst ys)) h' ∧ I h' ∧ (∀ y ∈ ys, P y) ∧ ys.length = p.1.length := by
  have key : ∀ x ∈ p.1, ∀ h, I h → ∃ y h', ((liftO (setTg tg (.t x) (wipeE ρ own)) h).bind fun ρ1 h => (evCs G C ρ1 h []).bind fun k h1 => if k then (evE G C ρ1 h1 e).bind fun s h2 => (asT s h2).bind fun v h2 => .ok (some v) h2 else .ok none h1) = .ok (some y) h' ∧ I h' ∧ P y := fun x hx h ih => by
    obtain ⟨ρ', y, h', e1, e2, i2, p2⟩ := st x hx h ih
    exact ⟨y, h', by rw [e1, liftO_some, R.bind_ok, evCs, R.bind_ok]; simp only [if_true]; rw [e2]; rfl, i2, p2⟩
  obtain ⟨ys, h', e1, i1, p1, n1⟩ := compL_inv (g := p.2) (P := P) gd key i
  exact ⟨ys, h', by rw [evE, hit, R.bind_ok, e1]; rfl, i1, p1, n1⟩
theorem rng_small {a : Int} (h0 : 0 ≤ a) (h1 : a ≤ 1000) : rngO 0 a = some (rngT 0 a.toNat, none) := by
  unfold rngO
  rw [if_pos]
  · simp
  · have := lim_small (n := (a - 0).toNat) (by omega)
    simp only [this, Bool.and_true, Bool.and_eq_true, decide_eq_true_eq]
    omega
theorem rngT_len (n : Nat) : (rngT 0 n).length = n := by simp [rngT]
theorem okX : okS "X" = true := by decide +kernel
def sb : Nat → Nat
  | 0 => 2 | 1 => 8 | 2 => 18 | _ => 38
theorem szs_le {xs : List T} {m : Nat} (h : ∀ x ∈ xs, sz x ≤ m) : szs xs ≤ xs.length * m := by
  induction xs with
  | nil => simp [szs]
  | cons x xs ih =>
    simp only [szs, List.length_cons, Nat.succ_mul]
    have := h x List.mem_cons_self
    have := ih fun y hy => h y (List.mem_cons_of_mem _ hy)
    omega
structure LettersOk (ls : List T) : Prop where
  ne : ls ≠ []
  len : ls.length ≤ 100
  all : ∀ x ∈ ls, ∃ y, x = .str y ∧ okS y = true
theorem LettersOk.tms {ls : List T} (l : LettersOk ls) : tms ls = true := tms_of fun x m => by obtain ⟨y, rfl, e⟩ := l.all x m; simp [tm, e]
theorem LettersOk.shp {ls : List T} (l : LettersOk ls) : (T.lst ls).shp = true := lst_shp l.tms (dps_le fun x m => by obtain ⟨y, rfl, e⟩ := l.all x m; simp [dp])
structure SignsOk (ps : List T) : Prop where
  len : ps.length ≤ 100
  all : ∀ x ∈ ps, pairOk x = true
theorem str_part {x : Str} (h : okS x = true) (n m : Nat) (hm : 1 ≤ m) : PartOk n m (.str x) := ⟨by simp [tm, h], by simp [dp], by simp [sz]; omega⟩
theorem run_term {n : Nat} {s : S} {ps ls : List T} (l : LettersOk ls) (g : SignsOk ps) : ∀ (k d : Nat) (h : Hm), k ≤ 3 → k + 3 ≤ d → isFeed h n → offF n s h ps →
    ∃ (t : T) (h' : Hm), PartOk (k + 1) (sb k) t ∧ Adv n h h' ∧ callF G d 9 [.r n, s, .t (.int k), .t (.lst ls)] h = .ok (.t t) h' := by
  intro k
  induction k using Nat.strongRecOn with
  | _ k ih =>
  intro d h hk hd f o
  obtain ⟨d, rfl⟩ : ∃ d', d = d' + 1 := ⟨d - 1, by omega⟩
  have hsb : 1 ≤ sb k := by unfold sb; split <;> omega
  let ρ0 : En := [some (.r n), some s, some (.t (.int k)), some (.t (.lst ls)), none, none, none, none, none, none]
  -- the test
  have test : ∃ (b : Bool) (h1 : Hm), evE G (callF G d) ρ0 h (.and (.bin .ne (.var 3) (.lst [])) (.or (.bin .eq (.var 2) (.int 0)) (.bin .eq (.call 5 [(.var 0), (.int 3)]) (.int 0)))) = .ok (.t (.bl b)) h1 ∧ Adv n h h1 ∧ (b = false → k ≠ 0) := by
    have e1 : evE G (callF G d) ρ0 h (.bin .ne (.var 3) (.lst [])) = .ok (.t (.bl true)) h := B.bin (B.var (i := 3) rfl) (B.lst B.tnil) rfl rfl (by rw [ne_nil l.shp]; cases ls with | nil => exact absurd rfl l.ne | cons _ _ => rfl)
    by_cases k0 : k = 0
    · subst k0
      exact ⟨true, h, B.and1 e1 (B.or1 (B.bin (B.var (i := 2) rfl) B.int rfl rfl (eq_int _ _))), Adv.refl f, fun e => by cases e⟩
    · obtain ⟨r, h1, _, _, adv, e2⟩ := run_take (d := d - 1) (m := 3) f (by omega) (by omega)
      rw [show d - 1 + 1 = d by omega] at e2
      refine ⟨r == 0, h1, B.and1 e1 (B.or0 (B.bin (B.var (i := 2) rfl) B.int rfl rfl ?_) (B.bin (B.call (B.cons (B.var (i := 0) rfl) (B.cons B.int B.nil)) e2) B.int rfl rfl (eq_int _ _))), adv, fun _ => k0⟩
      rw [eq_int]
      simp [k0]
  obtain ⟨b, h1, et, a1, hb⟩ := test
  have f1 := a1.feed
  cases b with
  | true =>
    obtain ⟨x, h2, mx, a2, e2⟩ := run_pick (d := d - 2) f1 (offF.t (n := n) (xs := ls)) l.ne (by have := l.len; omega)
    rw [show d - 2 + 2 = d by omega] at e2
    obtain ⟨y, rfl, oy⟩ := l.all x mx
    refine ⟨.str y, h2, str_part oy _ _ hsb, a1.trans a2, ?_⟩
    have z := B.dret (G := G) (f := 9) (d := d) (fd := m__law_term) (h := h) (ss := [.r n, s, .t (.int k), .t (.lst ls)]) rfl rfl (B.sr (B.if1 et (B.sr (B.ret (B.call (B.cons (B.var (i := 0) rfl) (B.cons (B.var (i := 3) rfl) B.nil)) e2)))))
    rw [z, List.take_of_length_le (by rw [a2.len, a1.len]; exact Nat.le_refl _)]
  | false =>
    have k0 : k ≠ 0 := hb rfl
    -- all signs
    have o1 := o.ext a1.ext
    have hsh := pairs_shp g.all
    have arr : ∀ p ∈ ps, ∃ a : Int, sem2 .idx p (.int 1) = some (.int a) := fun p mp => by
      obtain ⟨m, a, rfl, _⟩ := pairOk.is (g.all p mp)
      exact ⟨a, by simp [sem2, L2.atI, L2.ixN]⟩
    have gts : sem2 .gt (.int k) (.int 0) = some (.bl true) := by simp [sem2, arith, cmpI]; omega
    obtain ⟨its, gd, eit, eg⟩ : ∃ (its : List T × Option (Nat × MO)) (_ : gOk its.2 h1 = true), itemsOf s h1 = some its ∧ its.1 = ps := by
      have d1 := o1.1
      cases s with
      | t v =>
        cases d1
        exact ⟨(ps, none), rfl, rfl, rfl⟩
      | r m =>
        simp only [dref] at d1
        cases em : h1[m]? with
        | none => rw [em] at d1; cases d1
        | some ob =>
          rw [em] at d1
          cases ob <;> first
            | (cases d1; done)
            | skip
          cases d1
          exact ⟨(ps, some (m, .lst ps)), by simp [gOk, em], by simp [itemsOf, em], rfl⟩
    have comp := comp_filter (G := G) (C := callF G d) (ρ := ρ0) (h := h1) (own := [8]) (tg := .name 8) (cs := [(.or (.bin .eq (.bin .idx (.var 8) (.int 1)) (.int 0)) (.bin .gt (.var 2) (.int 0)))]) (e := .var 8) (c := fun _ => true) (p := its)
      (B.itOf (B.var (i := 1) rfl) eit) gd fun x hx => by
        obtain ⟨a, ea⟩ := arr x (eg ▸ hx)
        refine ⟨_, rfl, cs1 ?_, B.var (i := 8) rfl⟩
        have q := B.or (G := G) (C := callF G d) (ρ := (wipeE ρ0 [8]).set 8 (some (.t x))) (h := h1) (h1 := h1) (B.bin (B.bin (B.var (i := 8) rfl) B.int rfl rfl ea) B.int rfl rfl (eq_int a 0)) (B.bin (o := .gt) (B.var (i := 2) rfl) B.int rfl rfl gts)
        rw [Bool.or_true] at q
        exact q
    rw [eg, List.filter_eq_self.mpr fun _ _ => rfl] at comp
    by_cases pe : ps = []
    · subst pe
      refine ⟨.str "X", h1, str_part okX _ _ hsb, a1, ?_⟩
      have z := B.dret (G := G) (f := 9) (d := d) (fd := m__law_term) (h := h) (ss := [.r n, s, .t (.int k), .t (.lst ls)]) rfl rfl (B.sc (B.if0 et B.sn) (B.sc (B.asg (i := 4) comp) (B.sr (B.if1 (B.bin (z := .bl true) (B.var (i := 4) rfl) (B.lst B.tnil) rfl rfl (eq_nil hsh)) (B.sr (B.ret B.str))))))
      rw [z, List.take_of_length_le (by rw [a1.len]; exact Nat.le_refl _)]
    · obtain ⟨x, h2, mx, a2, e2⟩ := run_pick (d := d - 2) f1 (offF.t (n := n) (xs := ps)) pe (by have := g.len; omega)
      rw [show d - 2 + 2 = d by omega] at e2
      obtain ⟨m, a, rfl, om, a0, a3⟩ := pairOk.is (g.all x mx)
      obtain ⟨u, hu⟩ : ∃ u : Nat, u = if a = 3 then k - 2 else k - 1 := ⟨_, rfl⟩
      have huk : u + 1 ≤ k := by rw [hu]; split <;> omega
      let ρ2 : En := [some (.r n), some s, some (.t (.int k)), some (.t (.lst ls)), some (.t (.lst ps)), some (.t (.str m)), some (.t (.int a)), none, none, none]
      have eu : evE G (callF G d) ρ2 h2 (.ite (.bin .eq (.var 6) (.int 3)) (.bin .max (.int 0) (.bin .sub (.var 2) (.int 2))) (.bin .sub (.var 2) (.int 1))) = .ok (.t (.int u)) h2 := by
        by_cases ha : a = 3
        · refine B.ite1 (B.bin (z := .bl true) (B.var (i := 6) rfl) B.int rfl rfl (by rw [eq_int, ha]; rfl)) (B.bin (v := .int 0) (v2 := .int (k - 2)) B.int (B.bin (z := .int (k - 2)) (B.var (i := 2) rfl) B.int rfl rfl rfl) rfl rfl ?_)
          simp only [sem2, arith]
          rw [hu, if_pos ha]
          congr 2
          split <;> omega
        · refine B.ite0 (B.bin (z := .bl false) (B.var (i := 6) rfl) B.int rfl rfl (by rw [eq_int]; simp [ha])) (B.bin (B.var (i := 2) rfl) B.int rfl rfl ?_)
          simp only [sem2, arith]
          rw [hu, if_neg ha]
          congr 2
          omega
      let ρ3 : En := [some (.r n), some s, some (.t (.int k)), some (.t (.lst ls)), some (.t (.lst ps)), some (.t (.str m)), some (.t (.int a)), some (.t (.int u)), none, none]
      obtain ⟨ys, h3, ec, ⟨a4, _⟩, pys, nys⟩ := comp_inv (C := callF G d) (ρ := ρ3) (h := h2) (h1 := h2) (own := [9]) (tg := .name 9) (it := .rng1 (.var 6)) (e := .call 9 [(.var 0), (.var 1), (.var 7), (.var 3)]) (p := (rngT 0 a.toNat, none)) (I := fun h => Adv n h2 h ∧ True) (P := PartOk (u + 1) (sb u))
        (B.itRng (B.var (i := 6) rfl) (rng_small a0 (by omega))) (fun _ _ => rfl) (fun x hx h4 ⟨a4, _⟩ => by
          obtain ⟨y, h5, py, a5, e5⟩ := ih u (by omega) d h4 (by omega) (by omega) a4.feed ((o1.ext a2.ext).ext a4.ext)
          exact ⟨_, y, h5, rfl, B.call (B.cons (B.var (i := 0) rfl) (B.cons (B.var (i := 1) rfl) (B.cons (B.var (i := 7) rfl) (B.cons (B.var (i := 3) rfl) B.nil)))) e5, ⟨a4.trans a5, trivial⟩, py⟩) ⟨Adv.refl a2.feed, trivial⟩
      have nys' : ys.length = a.toNat := nys.trans (rngT_len _)
      have szy := szs_le fun y my => (pys y my).sz
      refine ⟨.tup (.str m :: ys), h3, ⟨by simp [tm, om, tms_of fun y my => (pys y my).tm], ?_, ?_⟩, (a1.trans a2).trans a4, ?_⟩
      · have := dps_le fun y my => (pys y my).dp
        simp only [dp, dps]; omega
      · rw [nys'] at szy
        simp only [sz, szs]
        have hk3 : k = 1 ∨ k = 2 ∨ k = 3 := by omega
        have ha3 : a = 0 ∨ a = 1 ∨ a = 2 ∨ a = 3 := by omega
        rcases hk3 with rfl | rfl | rfl <;> rcases ha3 with rfl | rfl | rfl | rfl <;> simp at hu <;> subst hu <;> simp [sb] at szy ⊢ <;> omega
      · have z := B.dret (G := G) (f := 9) (d := d) (fd := m__law_term) (h := h) (ss := [.r n, s, .t (.int k), .t (.lst ls)]) rfl rfl (B.sc (B.if0 et B.sn) (B.sc (B.asg (i := 4) comp) (B.sc (B.if0 (B.bin (z := .bl false) (B.var (i := 4) rfl) (B.lst B.tnil) rfl rfl (by rw [eq_nil hsh]; cases ps with | nil => exact absurd rfl pe | cons _ _ => rfl)) B.sn)
          (B.sc (B.asgT (ρ1 := ρ2) (B.call (B.cons (B.var (i := 0) rfl) (B.cons (B.var (i := 4) rfl) B.nil)) e2) rfl) (B.sc (B.asg (i := 7) eu) (B.sr (B.ret (B.bin (v := .tup [.str m]) (v2 := .tup ys) (z := .tup (.str m :: ys)) (B.tup (B.tcons (B.var (i := 5) rfl) B.tnil)) (B.un (o := .tuple) ec rfl rfl) rfl rfl
            (by simp only [sem2]; rw [if_pos (lim_small (by rw [nys']; simp; omega))]; rfl)))))))))
        rw [z, List.take_of_length_le (by rw [a4.len, a2.len, a1.len]; exact Nat.le_refl _)]

/-! ### signs, known and drawn -/
def known : List T := [.lst [.tup [.str "plus", .int 2], .tup [.str "s", .int 1], .tup [.str "zero", .int 0]],
  .lst [.tup [.str "f", .int 2], .tup [.str "g", .int 1], .tup [.str "a", .int 0]],
  .lst [.tup [.str "f", .int 2], .tup [.str "a", .int 0], .tup [.str "b", .int 0]],
  .lst [.tup [.str "g", .int 1], .tup [.str "f", .int 2], .tup [.str "h", .int 2]],
  .lst [.tup [.str "a", .int 0], .tup [.str "b", .int 0], .tup [.str "c", .int 0]],
  .lst [.tup [.str "f", .int 3], .tup [.str "a", .int 0], .tup [.str "b", .int 0]],
  .lst [.tup [.str "f", .int 1], .tup [.str "g", .int 1], .tup [.str "h", .int 1]],
  .lst [.tup [.str "times", .int 2], .tup [.str "plus", .int 2], .tup [.str "s", .int 1], .tup [.str "zero", .int 0]],
  .lst [.tup [.str "left", .int 2], .tup [.str "above", .int 2], .tup [.str "lots", .int 0]],
  .lst [.tup [.str "order", .int 1], .tup [.str "rule", .int 0], .tup [.str "sign", .int 2]],
  .lst [.tup [.str "b", .int 0], .tup [.str "f", .int 2]],
  .lst [.tup [.str "f", .int 2], .tup [.str "g", .int 1], .tup [.str "a", .int 0], .tup [.str "b", .int 0]],
  .lst [.tup [.str "f", .int 3]]]
def sgB : T → Bool
  | .lst xs => decide (xs.length ≤ 100) && xs.all pairOk
  | _ => false
theorem known_ok : known.all sgB = true := by decide +kernel
theorem run_known {d : Nat} {h : Hm} : callF G (d + 1) 7 [] h = .ok (.t (.lst known)) h :=
  B.dret0 (f := 7) (fd := m__law_known_signs) rfl rfl (B.sc (B.asg (i := 0) (cE_ev rfl)) (B.sc (B.asg (i := 0) (B.bin (B.var (i := 0) rfl) (cE_ev rfl) rfl rfl rfl)) (B.sc (B.asg (i := 0) (B.bin (B.var (i := 0) rfl) (cE_ev rfl) rfl rfl rfl)) (B.sc (B.asg (i := 0) (B.bin (B.var (i := 0) rfl) (cE_ev rfl) rfl rfl rfl)) (B.sr (B.ret (B.bin (B.var (i := 0) rfl) (cE_ev rfl) rfl rfl rfl)))))))
def named : List T := [.lst [.str "f", .str "g", .str "h", .str "k"], .lst [.str "k", .str "f", .str "a", .str "g"], .lst [.str "z", .str "ab", .str "b", .str "abcdefgh"]]
def nmB : T → Bool
  | .lst [.str a, .str b, .str c, .str e] => okS a && okS b && okS c && okS e
  | _ => false
theorem named_ok : named.all nmB = true := by decide +kernel
theorem nmB.at {t : T} (h : nmB t = true) : ∃ xs, t = .lst xs ∧ ∀ i : Int, 0 ≤ i → i < 4 → ∃ x, L2.atI xs i = some (.str x) ∧ okS x = true := by
  unfold nmB at h
  split at h
  · rename_i a b c e
    simp only [Bool.and_eq_true] at h
    refine ⟨_, rfl, fun i h0 h4 => ?_⟩
    have : i = 0 ∨ i = 1 ∨ i = 2 ∨ i = 3 := by omega
    rcases this with rfl | rfl | rfl | rfl
    · exact ⟨a, rfl, h.1.1.1⟩
    · exact ⟨b, rfl, h.1.1.2⟩
    · exact ⟨c, rfl, h.1.2⟩
    · exact ⟨e, rfl, h.2⟩
  · cases h
theorem run_drawn {d n : Nat} {h : Hm} (f : isFeed h n) : ∃ (s : S) (h' : Hm) (ps : List T), callF G (d + 3) 8 [.r n] h = .ok s h' ∧ SignsOk ps ∧ offF n s h' ps ∧ Ext n h h' := by
  have hn := f.lt
  obtain ⟨r, h1, _, _, a1, e1⟩ := run_take (d := d + 1) (m := 3) f (by omega) (by omega)
  let ρ0 : En := [some (.r n), none, none, none, none, none, none]
  have test : ∀ b : Bool, decide (0 < r) = b → evE G (callF G (d + 2)) ρ0 h (.bin .gt (.call 5 [(.var 0), (.int 3)]) (.int 0)) = .ok (.t (.bl b)) h1 := fun b e => B.bin (B.call (B.cons (B.var (i := 0) rfl) (B.cons B.int B.nil)) e1) B.int rfl rfl (by simp [sem2, arith, cmpI, e])
  by_cases hr : 0 < r
  · obtain ⟨x, h2, mx, a2, e2⟩ := run_pick (d := d) a1.feed (offF.t (n := n) (xs := known)) (by decide) (by decide)
    have kx := List.all_eq_true.mp known_ok x mx
    obtain ⟨xs, rfl⟩ : ∃ xs, x = .lst xs := by cases x <;> first | exact ⟨_, rfl⟩ | cases kx
    simp only [sgB, Bool.and_eq_true, decide_eq_true_eq] at kx
    refine ⟨.t (.lst xs), h2, xs, ?_, ⟨kx.1, List.all_eq_true.mp kx.2⟩, offF.t, (a1.trans a2).ext⟩
    have z := B.dret (G := G) (f := 8) (d := d + 2) (fd := m__law_drawn_signs) (h := h) (ss := [.r n]) rfl rfl (B.sr (B.if1 (test true (by simp [hr])) (B.sr (B.ret (B.call (B.cons (B.var (i := 0) rfl) (B.cons (B.call B.nil run_known) B.nil)) e2)))))
    rw [z, List.take_of_length_le (by rw [a2.len, a1.len]; exact Nat.le_refl _)]
  · obtain ⟨x, h2, mx, a2, e2⟩ := run_pick (d := d) a1.feed (offF.t (n := n) (xs := named)) (by decide) (by decide)
    obtain ⟨xs, rfl, nms⟩ := nmB.at (List.all_eq_true.mp named_ok x mx)
    obtain ⟨r2, h3, r20, r21, a3, e3⟩ := run_take (d := d + 1) (m := 4) a2.feed (by omega) (by omega)
    have adv := (a1.trans a2).trans a3
    have f4 : isFeed (h3 ++ [.lst []]) n := (Ext.push a3.feed).feed
    let ρ2 : En := [some (.r n), some (.t (.lst xs)), some (.t (.int (1 + r2))), some (.r h3.length), some (.t (.int 0)), none, none]
    have walk := B.loop (g := none) (f := fun y ρ hh => match setTg (.name 5) (.t y) ρ with | some ρ1 => exSs G (callF G (d + 2)) ρ1 hh [(.asg (.name 6) (.call 5 [(.var 0), (.ite (.bin .lt (.var 4) (.int 2)) (.int 4) (.int 2))])),
      (.asg (.name 4) (.bin .add (.var 4) (.un .int (.bin .ge (.var 6) (.int 2))))), (.ex (.app (.var 3) (.tup [(.bin .idx (.var 1) (.var 5)), (.var 6)])))] | none => .bad)
      (I := fun left ρ hh => ∃ (w : Int) (y z : Option S) (ps : List T), ρ = [some (.r n), some (.t (.lst xs)), some (.t (.int (1 + r2))), some (.r h3.length), some (.t (.int w)), y, z] ∧ hh[h3.length]? = some (.lst ps) ∧ (∀ p ∈ ps, pairOk p = true) ∧ ps.length + left.length ≤ 100 ∧ Ext n h3 hh ∧ ∀ x ∈ left, ∃ i : Int, x = .int i ∧ 0 ≤ i ∧ i < 4)
      (fun _ _ _ _ => rfl) (fun x left ρ hh inv => by
        obtain ⟨w, y, z, ps, rfl, e4, ok, le, ex, lf⟩ := inv
        obtain ⟨i, rfl, i0, i4⟩ := lf _ List.mem_cons_self
        obtain ⟨c, ec, oc⟩ := nms i i0 i4
        have four : ∃ m : Int, (m = 4 ∨ m = 2) ∧ evE G (callF G (d + 2)) [some (.r n), some (.t (.lst xs)), some (.t (.int (1 + r2))), some (.r h3.length), some (.t (.int w)), some (.t (.int i)), z] hh (.ite (.bin .lt (.var 4) (.int 2)) (.int 4) (.int 2)) = .ok (.t (.int m)) hh := by
          by_cases hw : w < 2
          · exact ⟨4, .inl rfl, B.ite1 (B.bin (z := .bl true) (B.var (i := 4) rfl) B.int rfl rfl (by simp [sem2, arith, cmpI, hw])) B.int⟩
          · exact ⟨2, .inr rfl, B.ite0 (B.bin (z := .bl false) (B.var (i := 4) rfl) B.int rfl rfl (by simp [sem2, arith, cmpI]; omega)) B.int⟩
        obtain ⟨m, hm, em⟩ := four
        obtain ⟨ar, h5, ar0, ar1, a5, e5⟩ := run_take (d := d + 1) (m := m) ex.feed (by omega) (by omega)
        have hlt : h3.length < hh.length := (List.getElem?_eq_some_iff.mp e4).1
        have nn : h3.length ≠ n := by have := adv.len; omega
        have e6 : h5[h3.length]? = some (.lst ps) := by rw [a5.old _ nn]; exact e4
        simp only [List.length_cons] at le
        have z := B.sc (G := G) (C := callF G (d + 2)) (ρ := [some (.r n), some (.t (.lst xs)), some (.t (.int (1 + r2))), some (.r h3.length), some (.t (.int w)), some (.t (.int i)), z]) (h := hh) (B.asg (i := 6) (B.call (B.cons (B.var (i := 0) rfl) (B.cons em B.nil)) e5))
          (B.sc (B.asg (i := 4) (B.bin (o := .add) (z := .int (w + if decide (2 ≤ ar) then 1 else 0)) (B.var (i := 4) rfl) (B.un (o := .int) (v := .bl (decide (2 ≤ ar))) (z := .int (if decide (2 ≤ ar) then 1 else 0)) (B.bin (o := .ge) (B.var (i := 6) rfl) B.int rfl rfl rfl) rfl rfl) rfl rfl rfl))
          (B.sc (B.ex (B.app (B.var (i := 3) rfl) ⟨ps, e6⟩ (B.tup (B.tcons (v := .str c) (B.bin (o := .idx) (B.var (i := 1) rfl) (B.var (i := 5) rfl) rfl rfl (by simp only [sem2]; exact ec)) (B.tcons (v := .int ar) (B.var (i := 6) rfl) B.tnil))) e6 (lim_small (by omega)))) B.sn))
        refine ⟨_, _, z, _, _, _, ps ++ [.tup [.str c, .int ar]], rfl, ?_, fun p mp => ?_, by simp; omega, ?_, fun x mx => lf x (List.mem_cons_of_mem _ mx)⟩
        · rw [List.getElem?_set_self (by rw [a5.len]; exact hlt)]
        · rcases List.mem_append.mp mp with mp | mp
          · exact ok p mp
          · simp at mp
            subst mp
            simp [pairOk, oc]; omega
        · refine ⟨by simp [a5.len]; exact ex.len, fun k hk lk => ?_, ?_⟩
          · rw [List.getElem?_set_ne (by omega), a5.old k hk, ex.old k hk lk]
          · obtain ⟨u, v, e8⟩ := a5.feed
            exact ⟨u, v, by rw [List.getElem?_set_ne nn]; exact e8⟩) (its := rngT 0 (1 + r2).toNat) (ρ := ρ2) (h := h3 ++ [.lst []])
      ⟨0, none, none, [], rfl, by simp, fun p mp => (by cases mp), by rw [rngT_len]; simp; omega, Ext.push a3.feed, fun x mx => by simp only [rngT, List.mem_map, List.mem_range] at mx; obtain ⟨i, hi, rfl⟩ := mx; exact ⟨_, rfl, by omega, by omega⟩⟩
    obtain ⟨ρ3, hh, e4, w, y, z, ps, rfl, e5, ok, le, ex, _⟩ := walk
    have ext := adv.ext.trans ex
    have cut := ext.cut hn
    have e9 : (hh.take h.length ++ [MO.lst ps])[h.length]? = some (.lst ps) := by
      rw [List.getElem?_append_right (by rw [cut.len]; exact Nat.le_refl _), cut.len, Nat.sub_self]; rfl
    have z := B.drr (G := G) (f := 8) (d := d + 2) (fd := m__law_drawn_signs) (h := h) (ss := [.r n]) rfl rfl (B.sc (B.if0 (test false (by simp [hr])) B.sn) (B.sc (B.asg (i := 1) (B.call (B.cons (B.var (i := 0) rfl) (B.cons (cE_ev rfl) B.nil)) e2))
      (B.sc (B.par (ρ1 := ρ2) (B.cons (B.bin (z := .int (1 + r2)) B.int (B.call (B.cons (B.var (i := 0) rfl) (B.cons B.int B.nil)) e3) rfl rfl rfl) (B.cons (B.newl B.tnil) (B.cons B.int B.nil))) rfl) (B.sc (B.fr (B.itRng (B.var (i := 2) rfl) (rng_small (by omega) (by omega))) e4) (B.sr (B.ret (B.var (i := 3) rfl))))))) (Nat.le_of_eq adv.len.symm) e5
    refine ⟨_, _, ps, z, ⟨by simpa using le, ok⟩, ⟨by simp only [dref, e9], fun m e => ?_⟩, cut.ext.trans (Ext.push cut.feed)⟩
    cases e
    exact ⟨by omega, by simp; have := ext.len; omega⟩
end My

/-! k03: the law says True. -/
namespace My
open PySem (Str PyData piled piled_cons)
open My.M
theorem run_feed {d : Nat} {h : Hm} (ns : List Int) (k : Nat) : ∃ a b : Int, callF G (d + 1) 4 [.t (.lst (ns.map .int)), .t (.int k)] h = .ok (.r h.length) (h ++ [.lst [.int a, .int b]]) := by
  have cell : ∃ c : Int, evE G (callF G d) [some (.t (.lst (ns.map .int))), some (.t (.int k)), none, none, none] h (.ite (.bin .lt (.var 1) (.un .len (.var 0))) (.bin .idx (.var 0) (.var 1)) (.bin .add (.bin .mul (.int 61) (.var 1)) (.int 17))) = .ok (.t (.int c)) h := by
    by_cases hk : k < ns.length
    · refine ⟨ns[k], B.ite1 (B.bin (z := .bl true) (B.var (i := 1) rfl) (B.un (o := .len) (z := .int (ns.map T.int).length) (B.var (i := 0) rfl) rfl rfl) rfl rfl ?_) (B.bin (o := .idx) (B.var (i := 0) rfl) (B.var (i := 1) rfl) rfl rfl ?_)⟩
      · simp only [sem2, arith, cmpI, List.length_map, Option.map_some]
        simp [hk]
      · simp [sem2, L2.atI, L2.ixN, hk]
    · refine ⟨61 * k + 17, B.ite0 (B.bin (z := .bl false) (B.var (i := 1) rfl) (B.un (o := .len) (z := .int (ns.map T.int).length) (B.var (i := 0) rfl) rfl rfl) rfl rfl ?_) (B.bin (o := .add) (B.bin (o := .mul) (z := .int (61 * k)) B.int (B.var (i := 1) rfl) rfl rfl (by simp [sem2, arith, small64])) B.int rfl rfl rfl)⟩
      simp only [sem2, arith, cmpI, List.length_map, Option.map_some]
      simp [hk]
  obtain ⟨c, ec⟩ := cell
  let x : Int := (if c < 0 then -c else c) - 10 ^ 18
  let y : Int := (c * 6364136223846793005 + 7919 * k + 1442695040888963407) % 2305843009213693951
  refine ⟨if x > 0 then x else 0, y, ?_⟩
  have z := B.drr (G := G) (f := 4) (d := d) (fd := m__law_feed) (h := h) (ss := [.t (.lst (ns.map .int)), .t (.int k)]) rfl rfl (B.sc (B.asg (i := 2) ec)
    (B.sc (B.asg (i := 3) (B.bin (o := .max) (v2 := .int x) (z := .int (if x > 0 then x else 0)) B.int (B.bin (o := .sub) (z := .int x) (B.un (o := .abs) (B.var (i := 2) rfl) rfl rfl) (B.bin (o := .pow) (z := .int (10 ^ 18)) B.int B.int rfl rfl (by simp [sem2, arith])) rfl rfl rfl) rfl rfl rfl))
    (B.sc (B.asg (i := 4) (B.bin (o := .mod) (v := .int (c * 6364136223846793005 + 7919 * k + 1442695040888963407)) (z := .int y) (B.un (o := .int) (B.bin (o := .add) (z := .int (c * 6364136223846793005 + 7919 * k + 1442695040888963407)) (B.bin (o := .add) (z := .int (c * 6364136223846793005 + 7919 * k)) (B.bin (o := .mul) (z := .int (c * 6364136223846793005)) (B.var (i := 2) rfl) B.int rfl rfl (by simp [sem2, arith, small64]))
      (B.bin (o := .mul) (z := .int (7919 * k)) B.int (B.var (i := 1) rfl) rfl rfl (by simp [sem2, arith, small64])) rfl rfl rfl) B.int rfl rfl rfl) rfl rfl) B.int rfl rfl (by simp [sem2, arith]; rfl))) (B.sr (B.ret (B.newl (B.tcons (B.var (i := 3) rfl) (B.tcons (B.var (i := 4) rfl) B.tnil)))))))) (Nat.le_refl _) (by rw [List.getElem?_append_right (Nat.le_refl _), Nat.sub_self]; rfl)
  rw [z]
  simp
/-! ### equal texts -/
theorem ne_str (y : Str) : sem2 .ne (.str y) (.str y) = some (.bl false) := by simp [sem2, eq2]
theorem ne_int (i : Int) : sem2 .ne (.int i) (.int i) = some (.bl false) := by
  show some (T.bl (!(i == i))) = _
  simp
mutual
theorem eqv_refl : ∀ t : T, tm t = true → PyData.eqv t.py t.py = true
  | .str x, _ => by simp [T.py, PyData.eqv]
  | .tup (.str n :: as), h => by
    simp only [tm, Bool.and_eq_true] at h
    simp [T.py, pys, PyData.eqv, PyData.eqvAll, eqvs_refl as h.2]
  | .non, h | .bl _, h | .int _, h | .lst _, h | .dct _ _, h | .obj _ _ _, h => by simp [tm] at h
  | .tup [], h | .tup (.non :: _), h | .tup (.bl _ :: _), h | .tup (.int _ :: _), h | .tup (.tup _ :: _), h | .tup (.lst _ :: _), h | .tup (.dct _ _ :: _), h | .tup (.obj _ _ _ :: _), h => by simp [tm] at h
theorem eqvs_refl : ∀ as : List T, tms as = true → PyData.eqvAll (pys as) (pys as) = true
  | [], _ => by simp [pys, PyData.eqvAll]
  | a :: as, h => by
    simp only [tms, Bool.and_eq_true] at h
    simp [pys, PyData.eqvAll, eqv_refl a h.1, eqvs_refl as h.2]
end
theorem ne_tm {t : T} (h : tm t = true) (hd : dp t ≤ 60) : sem2 .ne t t = some (.bl false) := by
  have hs := tm_shp h hd
  have e : eq2 t t = some true := by
    unfold eq2
    split
    · simp
    · rw [hs]; simp [eqT, eqv_refl t h]
  simp [sem2, e]
/-! ### dicts -/
structure DictOk (n m : Nat) (ks us : List T) : Prop where
  len : ks.length = us.length
  small : ks.length ≤ 50
  keys : ∀ k ∈ ks, ∃ x, k = .str x ∧ okS x = true
  vals : ∀ u ∈ us, PartOk n m u
theorem getD_mem {k : L2.Key} : ∀ {ks us : List T} {t : T}, getD k ks us = some t → t ∈ us
  | [], us, t, e => by simp [getD] at e
  | _ :: _, [], t, e => by simp [getD] at e
  | a :: ks, u :: us, t, e => by
    unfold getD at e
    split at e
    · cases e; exact List.mem_cons_self
    · exact List.mem_cons_of_mem _ (getD_mem e)
theorem setD_len {k : L2.Key} {v : T} : ∀ {ks us : List T}, (setD k v ks us).length = us.length
  | [], us => by simp [setD]
  | _ :: _, [] => by simp [setD]
  | a :: ks, u :: us => by simp [setD, setD_len (ks := ks) (us := us)]
theorem setD_mem {k : L2.Key} {v : T} : ∀ {ks us : List T} {t : T}, t ∈ setD k v ks us → t = v ∨ t ∈ us
  | [], us, t, m => by simp [setD] at m; exact .inr m
  | _ :: _, [], t, m => by simp [setD] at m
  | a :: ks, u :: us, t, m => by
    simp only [setD, List.mem_cons] at m
    rcases m with m | m
    · split at m
      · exact .inl m
      · exact .inr (m ▸ List.mem_cons_self)
    · exact (setD_mem m).imp id (List.mem_cons_of_mem _)
theorem DictOk.put {n m : Nat} {ks us : List T} (o : DictOk n m ks us) {x : Str} {v : T} (hx : okS x = true) (hv : PartOk n m v) (hl : ks.length + 1 ≤ 50) : DictOk n m (putD (.inr x) v ks us).1 (putD (.inr x) v ks us).2 ∧ (putD (.inr x) v ks us).1.length ≤ ks.length + 1 := by
  unfold putD
  split
  · refine ⟨⟨by rw [setD_len]; exact o.len, o.small, o.keys, fun u mu => ?_⟩, Nat.le_succ _⟩
    rcases setD_mem mu with rfl | mu
    · exact hv
    · exact o.vals u mu
  · refine ⟨⟨by simp [o.len], by simpa using hl, fun k mk => ?_, fun u mu => ?_⟩, by simp⟩
    · rcases List.mem_append.mp mk with mk | mk
      · exact o.keys k mk
      · simp at mk; exact ⟨x, mk, hx⟩
    · rcases List.mem_append.mp mu with mu | mu
      · exact o.vals u mu
      · simp at mu; exact mu ▸ hv
/-- terms put for variables -/
theorem put_ok {n m : Nat} {ks us : List T} (o : DictOk n m ks us) (hm : 1 ≤ m) : ∀ (k : Nat) (t : T), dp t ≤ k → tm t = true → tm (putT ks us t) = true ∧ dp (putT ks us t) ≤ dp t + n ∧ sz (putT ks us t) ≤ m * sz t := by
  intro k
  induction k using Nat.strongRecOn with
  | _ k ih =>
  intro t hk h
  match t, h with
  | .str x, h =>
    rw [putT]
    cases e : getD (.inr x) ks us with
    | none => exact ⟨by simpa using h, by simp [dp], by simp [sz]; exact hm⟩
    | some u =>
      have q := o.vals u (getD_mem e)
      exact ⟨by simpa using q.tm, by simp [dp]; exact q.dp, by simp [sz]; exact q.sz⟩
  | .tup (.str y :: as), h =>
    simp only [tm, Bool.and_eq_true] at h
    have step : ∀ a ∈ as, tm (putT ks us a) = true ∧ dp (putT ks us a) ≤ dp a + n ∧ sz (putT ks us a) ≤ m * sz a := fun a ma => by
      simp only [dp, dps] at hk
      have := dps_mem ma
      exact ih (dp a) (by omega) a (Nat.le_refl _) (tms_mem h.2 ma)
    have all : tms (putA ks us as) = true ∧ dps (putA ks us as) ≤ dps as + n ∧ szs (putA ks us as) ≤ m * szs as := by
      clear hk ih
      have h2 := h.2
      clear h
      induction as with
      | nil => simp [putA, tms, dps, szs]
      | cons a as ih =>
        simp only [tms, Bool.and_eq_true] at h2
        obtain ⟨p1, p2, p3⟩ := step a List.mem_cons_self
        obtain ⟨q1, q2, q3⟩ := ih (fun b mb => step b (List.mem_cons_of_mem _ mb)) h2.2
        simp only [putA, tms, dps, szs, p1, q1, Bool.and_self, Nat.mul_add]
        exact ⟨trivial, by omega, by omega⟩
    rw [putT]
    refine ⟨by simp [tm, h.1, all.1], ?_, ?_⟩
    · have := all.2.1
      simp only [dp, dps]; omega
    · have := all.2.2
      simp only [sz, szs, Nat.mul_add]
      omega
theorem put_nil : ∀ (k : Nat) (t : T), dp t ≤ k → putT [] [] t = t := by
  intro k
  induction k using Nat.strongRecOn with
  | _ k ih =>
  intro t hk
  match t with
  | .str x => simp [putT, getD]
  | .non | .bl _ | .int _ | .lst _ | .dct _ _ | .obj _ _ _ | .tup [] => simp [putT]
  | .tup (x :: as) =>
    rw [putT, putA_map]
    have : as.map (putT [] []) = as := by
      refine (List.map_congr_left fun a ma => ?_).trans (List.map_id _)
      simp only [dp, dps] at hk
      have := dps_mem ma
      exact ih (dp a) (by omega) a (Nat.le_refl _)
    rw [this]
theorem kv_shown : ∀ {ks us : List T}, (∀ k ∈ ks, ∃ x, k = .str x ∧ okS x = true) → (∀ u ∈ us, PartOk 50 100 u) → nolsts ks = true ∧ nolsts us = true ∧ PyData.showableKv (List.zip (pys ks) (pys us)) = true ∧ piled (PyData.shownKv (List.zip (pys ks) (pys us))) ≤ 3000 * ks.length ∧ PyData.depthKv (List.zip (pys ks) (pys us)) ≤ 50
  | [], us, _, hu => by
    have : nolsts us = true := by
      induction us with
      | nil => rfl
      | cons u us ih => simp [nolsts, (tm_data u (hu u List.mem_cons_self).tm).2.1, ih fun v mv => hu v (List.mem_cons_of_mem _ mv)]
    simp [nolsts, this, pys, PyData.showableKv, PyData.shownKv, piled, PyData.depthKv]
  | k :: ks, [], hk, hu => by
    have := kv_shown (fun y my => hk y (List.mem_cons_of_mem _ my)) hu
    obtain ⟨x, rfl, _⟩ := hk k List.mem_cons_self
    simp [nolsts, T.nolst, this.1, pys, PyData.showableKv, PyData.shownKv, piled, PyData.depthKv]
  | k :: ks, u :: us, hk, hu => by
    obtain ⟨h1, h2, h3, h4, h5⟩ := kv_shown (ks := ks) (us := us) (fun y my => hk y (List.mem_cons_of_mem _ my)) (fun v mv => hu v (List.mem_cons_of_mem _ mv))
    obtain ⟨x, rfl, ox⟩ := hk k List.mem_cons_self
    have pu := hu u List.mem_cons_self
    obtain ⟨d1, d2, d3, d4, d5⟩ := tm_data u pu.tm
    have l1 := tm_shown u pu.tm
    have l2 := tm_shown (.str x) (by simp [tm, ox])
    have := pu.sz
    have := pu.dp
    simp only [T.py, sz] at l2
    simp only [nolsts, T.nolst, h1, h2, d2, pys, List.zip_cons_cons, PyData.showableKv, h3, d5, T.py, PyData.showable, PyData.shownKv, piled_cons, strLenA, PyData.depthKv, PyData.depth, List.length_cons, Bool.and_self]
    refine ⟨trivial, trivial, trivial, ?_, by omega⟩
    have e2 : (((": " : String) : Str)).length = 2 := rfl
    rw [e2]
    omega
theorem repr_dct {ks us : List T} (o : DictOk 50 100 ks us) : ∃ y, sem1 M.G.sub .repr (.dct ks us) = some (.str y) := by
  obtain ⟨h1, h2, h3, h4, h5⟩ := kv_shown o.keys o.vals
  have h7 := dict_le (PyData.shownKv (List.zip (pys ks) (pys us)))
  have := o.small
  refine ⟨(T.dct ks us).py.shown, ?_⟩
  simp only [sem1, T.py, PyData.showable, PyData.shown, PyData.depth, h1, h2, h3, Bool.true_and, Bool.and_eq_true, decide_eq_true_eq]
  refine if_pos ⟨decide_eq_true (Nat.le_trans (?_ : _ ≤ 160000) (by decide)), by omega⟩
  omega

/-! ### the law -/
def giv03 : List St := [(.ife (.bin .gt (.call 5 [(.var 2), (.int 3)]) (.int 0)) [(.seti (.var 9) (.var 10) (.call 9 [(.var 2), (.var 3), (.int 2), (.lst [(.str "X"), (.str "Y"), (.str "Q")])]))] [])]
def turn03 : List St := [(.asg (.name 5) (.call 6 [(.var 2), (.lst [(.lst [(.str "X"), (.str "Y")]), (.lst [(.str "Z"), (.str "X"), (.str "AB"), (.str "A")]), (.lst [(.str "X")])])])),
      (.asg (.name 6) (.call 9 [(.var 2), (.var 3), (.int 3), (.var 5)])),
      (.asg (.name 7) (.call 0 [(.var 6)])),
      (.ife (.or (.not (.un (.isi [.tlist]) (.var 7))) (.bin .ne (.un .repr (.var 7)) (.un .repr (.call 10 [(.var 6)])))) [(.ret (.bl false))] []),
      (.ife (.bin .ne (.call 2 [(.var 6)]) (.call 13 [(.var 6)])) [(.ret (.bl false))] []),
      (.ex (.app (.var 7) .non)),
      (.asg (.name 8) (.call 1 [(.var 6)])),
      (.ife (.bin .ne (.un .repr (.var 8)) (.un .repr (.call 11 [(.var 6)]))) [(.ret (.bl false))] []),
      (.asg (.name 9) .newd),
      (.for (.name 10) (.of (.lst [(.str "X"), (.str "Y"), (.str "A"), (.str "Q")])) giv03),
      (.asg (.name 11) (.un .repr (.var 9))),
      (.ife (.or (.bin .ne (.un .repr (.call 3 [(.var 6), (.var 9)])) (.un .repr (.call 12 [(.var 6), (.var 9)]))) (.bin .ne (.un .repr (.var 9)) (.var 11))) [(.ret (.bl false))] []),
      (.ife (.or (.bin .ne (.call 3 [(.var 6), .dct0]) (.var 6)) (.bin .ne (.un .repr (.call 0 [(.var 6)])) (.un .repr (.call 10 [(.var 6)])))) [(.ret (.bl false))] [])]
theorem body03 : m_law03.body = [(.for (.name 1) (.rng1 (.bin .max (.int 1) (.bin .min (.int 3) (.un .len (.var 0))))) [(.asg (.name 2) (.call 4 [(.var 0), (.var 1)])),
      (.asg (.name 3) (.call 8 [(.var 2)])),
      (.for (.name 4) (.rng1 (.int 5)) turn03)]),
      (.ret (.bl true))] := rfl
/-- a turn's things -/
structure Held (n : Nat) (s : S) (h : Hm) : Prop where
  feed : isFeed h n
  signs : ∃ ps, offF n s h ps ∧ SignsOk ps
theorem Held.ext {n : Nat} {s : S} {h h' : Hm} (o : Held n s h) (e : Ext n h h') : Held n s h' := ⟨e.feed, let ⟨ps, a, b⟩ := o.signs; ⟨ps, a.ext e, b⟩⟩
theorem run_giv {d n g : Nat} {s : S} {h : Hm} {a b c e f k l m q : Option S} (hd : Held n s h) (hg : h[g]? = some (.dct [] [])) (gn : g ≠ n) (hsg : ∀ m, s = .r m → m ≠ g) :
    ∃ (ρ' : En) (h' : Hm) (ks us : List T) (z' : Option S), exS G (callF G (d + 6)) [a, b, some (.r n), some s, c, e, f, k, l, some (.r g), m, q] h (.for (.name 10) (.of (.lst [(.str "X"), (.str "Y"), (.str "A"), (.str "Q")])) giv03) = .nx ρ' h' ∧
      ρ' = [a, b, some (.r n), some s, c, e, f, k, l, some (.r g), z', q] ∧ Held n s h' ∧ h'.length = h.length ∧ (∀ j, j ≠ n → j ≠ g → h'[j]? = h[j]?) ∧ h'[g]? = some (.dct ks us) ∧ DictOk 50 100 ks us ∧ DictOk 3 18 ks us := by
  have walk := B.loop (g := none) (f := fun x ρ h => match setTg (.name 10) (.t x) ρ with | some ρ1 => exSs G (callF G (d + 6)) ρ1 h giv03 | none => .bad)
    (I := fun left ρ h' => ∃ z' ks us, ρ = [a, b, some (.r n), some s, c, e, f, k, l, some (.r g), z', q] ∧ Held n s h' ∧ h'.length = h.length ∧ (∀ j, j ≠ n → j ≠ g → h'[j]? = h[j]?) ∧ h'[g]? = some (.dct ks us) ∧ DictOk 3 18 ks us ∧ ks.length + left.length ≤ 4 ∧ ∀ x ∈ left, ∃ y, x = .str y ∧ okS y = true)
    (fun _ _ _ _ => rfl) (fun x left ρ h1 inv => ?_) (its := [.str "X", .str "Y", .str "A", .str "Q"]) (ρ := [a, b, some (.r n), some s, c, e, f, k, l, some (.r g), m, q]) (h := h)
    ⟨m, [], [], rfl, hd, rfl, fun _ _ _ => rfl, hg, ⟨rfl, by simp, fun _ m => (by cases m), fun _ m => (by cases m)⟩, by simp, fun x mx => ?_⟩
  · obtain ⟨ρ', h', e1, z', ks, us, e2, e3, e4, e5, e6, e7, _, _⟩ := walk
    exact ⟨ρ', h', ks, us, z', B.fr (B.itOf (cE_ev rfl) rfl) e1, e2, e3, e4, e5, e6, ⟨e7.len, e7.small, e7.keys, fun u mu => let w := e7.vals u mu; ⟨w.tm, by have := w.dp; omega, by have := w.sz; omega⟩⟩, e7⟩
  · obtain ⟨z', ks, us, rfl, i2, i3, i4, i5, i6, i7, i8⟩ := inv
    obtain ⟨y, rfl, oy⟩ := i8 _ List.mem_cons_self
    obtain ⟨r, h2, _, _, a2, e2⟩ := run_take (d := d + 5) (m := 3) i2.feed (by omega) (by omega)
    have tst : ∀ k' : Bool, decide (0 < r) = k' → evE G (callF G (d + 6)) [a, b, some (.r n), some s, c, e, f, k, l, some (.r g), some (.t (.str y)), q] h1 (.bin .gt (.call 5 [(.var 2), (.int 3)]) (.int 0)) = .ok (.t (.bl k')) h2 := fun k' e => B.bin (B.call (B.cons (B.var (i := 2) rfl) (B.cons B.int B.nil)) e2) B.int rfl rfl (by simp [sem2, arith, cmpI, e])
    simp only [List.length_cons] at i7
    by_cases hr : 0 < r
    · obtain ⟨ps, o, so⟩ := (i2.ext a2.ext).signs
      have lk : LettersOk [.str "X", .str "Y", .str "Q"] := ⟨by simp, by simp, fun x mx => by
        simp at mx
        rcases mx with rfl | rfl | rfl <;> exact ⟨_, rfl, by decide +kernel⟩⟩
      obtain ⟨t, h3, pt, a3, e3⟩ := run_term (n := n) (s := s) lk so 2 (d + 6) h2 (by omega) (by omega) a2.feed o
      have e4 : h3[g]? = some (.dct ks us) := by rw [a3.old g gn, a2.old g gn]; exact i5
      have pd := i6.put oy (v := t) pt (by omega)
      have hlt : g < h3.length := (List.getElem?_eq_some_iff.mp e4).1
      refine ⟨_, h3.set g (.dct (putD (.inr y) t ks us).1 (putD (.inr y) t ks us).2), B.sc (B.if1 (tst true (by simp [hr])) (B.sc (B.setD (k := .inr y) (B.call (B.cons (B.var (i := 2) rfl) (B.cons (B.var (i := 3) rfl) (B.cons B.int (B.cons (cE_ev rfl) B.nil)))) e3) (B.var (i := 9) rfl) (B.var (i := 10) rfl) e4 rfl (lim_small (by omega))) B.sn)) B.sn, some (.t (.str y)), _, _, rfl, ?_, ?_, fun j j1 j2 => ?_, by rw [List.getElem?_set_self hlt], pd.1, by have := pd.2; omega, fun x mx => i8 x (List.mem_cons_of_mem _ mx)⟩
      · obtain ⟨ps2, o2, so2⟩ := (i2.ext (a2.trans a3).ext).signs
        obtain ⟨u, v, ef⟩ := a3.feed
        refine ⟨⟨u, v, by rw [List.getElem?_set_ne gn]; exact ef⟩, ps2, ⟨?_, fun m em => ⟨(o2.2 m em).1, by simpa using (o2.2 m em).2⟩⟩, so2⟩
        cases s with
        | t v => exact o2.1
        | r m =>
          have := o2.1
          simp only [dref] at this ⊢
          rw [List.getElem?_set_ne (Ne.symm (hsg m rfl))]; exact this
      · rw [List.length_set, a3.len, a2.len]; exact i3
      · rw [List.getElem?_set_ne (Ne.symm j2), a3.old j j1, a2.old j j1]; exact i4 j j1 j2
    · refine ⟨_, h2, B.sc (B.if0 (tst false (by simp [hr])) B.sn) B.sn, some (.t (.str y)), ks, us, rfl, i2.ext a2.ext, a2.len.trans i3, fun j j1 j2 => (a2.old j j1).trans (i4 j j1 j2), by rw [a2.old g gn]; exact i5, i6, by omega, fun x mx => i8 x (List.mem_cons_of_mem _ mx)⟩
  · simp at mx
    rcases mx with rfl | rfl | rfl | rfl <;> exact ⟨_, rfl, by decide +kernel⟩

theorem PartOk.more {n m n' m' : Nat} {t : T} (p : PartOk n m t) (a : n ≤ n') (b : m ≤ m') : PartOk n' m' t := ⟨p.tm, Nat.le_trans p.dp a, Nat.le_trans p.sz b⟩
theorem mem_ins {x y : Str} : ∀ {l : List Str}, y ∈ insS x l → y = x ∨ y ∈ l
  | [], m => by simp [insS] at m; exact .inl m
  | a :: l, m => by
    simp only [insS] at m
    split at m
    · rcases List.mem_cons.mp m with m | m
      · exact .inr (m ▸ List.mem_cons_self)
      · exact (mem_ins m).imp id (List.mem_cons_of_mem _)
    · exact List.mem_cons.mp m
theorem mem_sort {y : Str} : ∀ {l : List Str}, y ∈ sortS l → y ∈ l
  | [], m => by simp [sortS] at m
  | a :: l, m => by
    simp only [sortS] at m
    rcases mem_ins m with rfl | m
    · exact List.mem_cons_self
    · exact List.mem_cons_of_mem _ (mem_sort m)
theorem len_ins {x : Str} : ∀ {l : List Str}, (insS x l).length = l.length + 1
  | [] => rfl
  | a :: l => by
    simp only [insS]
    split
    · simp [len_ins (l := l)]
    · simp
theorem len_sort : ∀ {l : List Str}, (sortS l).length = l.length
  | [] => rfl
  | a :: l => by simp [sortS, len_ins, len_sort (l := l)]
theorem mem_strsT {y : Str} : ∀ {l : List T}, y ∈ strsT l → .str y ∈ l
  | [], m => by simp [strsT] at m
  | .str x :: r, m => by
    simp only [strsT, List.mem_cons] at m
    rcases m with rfl | m
    · exact List.mem_cons_self
    · exact List.mem_cons_of_mem _ (mem_strsT m)
  | .non :: r, m | .bl _ :: r, m | .int _ :: r, m | .tup _ :: r, m | .lst _ :: r, m | .dct _ _ :: r, m | .obj _ _ _ :: r, m => List.mem_cons_of_mem _ (mem_strsT (by simpa [strsT] using m))
def lts : List T := [.lst [.str "X", .str "Y"], .lst [.str "Z", .str "X", .str "AB", .str "A"], .lst [.str "X"]]
def ltB : T → Bool
  | .lst xs => !xs.isEmpty && decide (xs.length ≤ 100) && xs.all fun x => match x with | .str y => okS y | _ => false
  | _ => false
theorem lts_ok : lts.all ltB = true := by decide +kernel
theorem ltB.is {t : T} (h : ltB t = true) : ∃ xs, t = .lst xs ∧ LettersOk xs := by
  unfold ltB at h
  split at h
  · rename_i xs
    simp only [Bool.and_eq_true, Bool.not_eq_true', List.isEmpty_eq_false_iff, decide_eq_true_eq, List.all_eq_true] at h
    refine ⟨xs, rfl, h.1.1, h.1.2, fun x mx => ?_⟩
    have q := h.2 x mx
    split at q
    · exact ⟨_, rfl, q⟩
    · cases q
  · cases h
theorem run_turn {d n : Nat} {s : S} {h : Hm} {a b c x5 x6 x7 x8 x9 x10 x11 : Option S} (hd : Held n s h) :
    ∃ (h' : Hm) (y5 y6 y7 y8 y9 y10 y11 : Option S), exSs G (callF G (d + 7)) [a, b, some (.r n), some s, c, x5, x6, x7, x8, x9, x10, x11] h turn03 = .nx [a, b, some (.r n), some s, c, y5, y6, y7, y8, y9, y10, y11] h' ∧ Ext n h h' := by
  have hn := hd.feed.lt
  obtain ⟨lt, h1, ml, a1, e1⟩ := run_pick (d := d + 5) hd.feed (offF.t (n := n) (xs := lts)) (by decide) (by decide)
  obtain ⟨ls, rfl, lk⟩ := ltB.is (List.all_eq_true.mp lts_ok lt ml)
  obtain ⟨ps, o, so⟩ := (hd.ext a1.ext).signs
  obtain ⟨t, h2, pt, a2, e2⟩ := run_term (n := n) (s := s) lk so 3 (d + 7) h1 (by omega) (by omega) a1.feed o
  have pt' : PartOk 50 1000 t := pt.more (by decide) (by decide)
  have dt : dp t < d + 6 := by have := pt.dp; omega
  have s60 : sz t ≤ 60 := by have := pt.sz; simp [sb] at this; omega
  have a12 := a1.trans a2
  have pok := parts_ok pt
  have ptm : tms (parts t) = true := tms_of fun p m => (pok p m).tm
  have pdp : dps (parts t) ≤ 60 := dps_le fun p m => by have := (pok p m).dp; omega
  have plen : (parts t).length ≤ 38 := by have := parts_len t; have := pt.sz; simp [sb] at this; omega
  have psz : szs (parts t) ≤ 4000 := by
    have := szs_le fun p m => (pok p m).sz
    have h3 : (parts t).length * sb 3 ≤ 38 * 38 := Nat.mul_le_mul plen (by decide)
    omega
  obtain ⟨y1, ry1⟩ := repr_lst ptm pdp psz
  -- told
  have e3 := run_parts (d + 7) t h2 (by omega) pt'
  have at3 : (h2 ++ [MO.lst (parts t)])[h2.length]? = some (.lst (parts t)) := by simp
  have e4 := run_lparts (d + 7) t (h2 ++ [.lst (parts t)]) (by omega) pt'
  have e5 := run_size (d + 7) t (h2 ++ [.lst (parts t)]) (by omega) pt.tm
  have e6 := run_lsize (d + 7) t (h2 ++ [.lst (parts t)]) (by omega) pt.tm
  obtain ⟨h4, e4h⟩ : ∃ h4, h4 = (h2 ++ [MO.lst (parts t)]).set h2.length (.lst (parts t ++ [.non])) := ⟨_, rfl⟩
  have l4 : h4.length = h2.length + 1 := by rw [e4h]; simp
  have nn : n ≠ h2.length := by have := a12.len; omega
  have x4 : Ext n h h4 := by
    refine ⟨by rw [l4, a12.len]; omega, fun m mn ml => ?_, ?_⟩
    · rw [e4h, List.getElem?_set_ne (by have := a12.len; omega), List.getElem?_append_left (by rw [a12.len]; exact ml)]; exact a12.old m mn
    · obtain ⟨u, v, ef⟩ := a2.feed
      exact ⟨u, v, by rw [e4h, List.getElem?_set_ne (Ne.symm nn), List.getElem?_append_left (by rw [a12.len]; exact hn)]; exact ef⟩
  have e7 := run_variables (d := d + 6) (h := h4) dt pt' s60
  have e8 := run_letters (d := d + 6) (h := h4) dt pt' s60
  have ltm : ∀ x ∈ lettersT t, tm x = true ∧ dp x = 0 ∧ sz x = 1 := fun x mx => by
    simp only [lettersT, List.mem_map] at mx
    obtain ⟨y, my, rfl⟩ := mx
    exact ⟨(pok _ (mem_strsT (mem_sort my))).tm, by simp [dp], by simp [sz]⟩
  have llen : (lettersT t).length ≤ 38 := by
    simp only [lettersT, List.length_map, len_sort]
    have := strsT_len (parts t); omega
  obtain ⟨y2, ry2⟩ := repr_lst (xs := lettersT t) (tms_of fun x m => (ltm x m).1) (dps_le fun x m => by have := (ltm x m).2.1; omega) (by
    have := szs_le fun x m => Nat.le_of_eq (ltm x m).2.2
    omega)
  -- given
  have x5' : Ext n h4 (h4 ++ [.dct [] []]) := Ext.push x4.feed
  have gg : (h4 ++ [MO.dct [] []])[h4.length]? = some (.dct [] []) := by simp
  have hd5 := hd.ext (x4.trans x5')
  obtain ⟨ps0, o0, _⟩ := hd.signs
  obtain ⟨ρ6, h6, ks, us, z', e9, rfl, hd6, l6, old6, at6, dk, dk3⟩ := run_giv (d := d + 1) (n := n) (g := h4.length) (s := s) (h := h4 ++ [.dct [] []]) (a := a) (b := b) (c := c) (e := some (.t (.lst ls))) (f := some (.t t)) (k := some (.r h2.length)) (l := some (.t (.lst (lettersT t)))) (m := x10) (q := x11) hd5 gg (by have := a12.len; omega)
    (fun m em => by have := (o0.2 m em).2; have := a12.len; omega)
  have x6' : Ext n h4 h6 := ⟨by rw [l6]; simp, fun m mn ml => by rw [old6 m mn (by omega), List.getElem?_append_left ml], hd6.feed⟩
  obtain ⟨y3, ry3⟩ := repr_dct dk
  have d6 : dref h6 (.r h4.length) = some (.dct ks us) := by simp only [dref, at6]
  have e10 := run_put (s := .r h4.length) (d + 7) t h6 d6 (by omega) pt'
  have e11 := run_lput (s := .r h4.length) (d + 7) t h6 d6 (by omega) pt'
  obtain ⟨q1, q2, q3⟩ := put_ok dk3 (by decide) (dp t) t (Nat.le_refl _) pt.tm
  have ptsz := pt.sz
  have ptdp := pt.dp
  obtain ⟨y4, ry4⟩ := repr_tm q1 (by omega) (by simp [sb] at ptsz; omega)
  have e12 := run_put (s := .t (.dct [] [])) (d + 7) t h6 rfl (by omega) pt'
  rw [put_nil (dp t) t (Nat.le_refl _)] at e12
  have e13 := run_parts (d + 7) t h6 (by omega) pt'
  have at13 : (h6 ++ [MO.lst (parts t)])[h6.length]? = some (.lst (parts t)) := by simp
  have e14 := run_lparts (d + 7) t (h6 ++ [.lst (parts t)]) (by omega) pt'
  refine ⟨h6 ++ [.lst (parts t)], some (.t (.lst ls)), some (.t t), some (.r h2.length), some (.t (.lst (lettersT t))), some (.r h4.length), z', some (.t (.str y3)), ?_, (x4.trans x6').trans (Ext.push hd6.feed)⟩
  refine B.sc (B.asg (i := 5) (B.call (B.cons (B.var (i := 2) rfl) (B.cons (cE_ev rfl) B.nil)) e1)) ?_
  refine B.sc (B.asg (i := 6) (B.call (B.cons (B.var (i := 2) rfl) (B.cons (B.var (i := 3) rfl) (B.cons B.int (B.cons (B.var (i := 5) rfl) B.nil)))) e2)) ?_
  refine B.sc (B.asg (i := 7) (B.call (B.cons (B.var (i := 6) rfl) B.nil) e3)) ?_
  refine B.sc (B.if0 (B.or0 (B.not (k := true) (B.un (o := .isi [.tlist]) (v := .lst (parts t)) (z := .bl true) (B.var (i := 7) rfl) (by simp only [dref, at3]) rfl)) (B.bin (o := .ne) (B.un (o := .repr) (B.var (i := 7) rfl) (by simp only [dref, at3]) ry1) (B.un (o := .repr) (B.call (B.cons (B.var (i := 6) rfl) B.nil) e4) rfl ry1) rfl rfl (ne_str _))) B.sn) ?_
  refine B.sc (B.if0 (B.bin (o := .ne) (B.call (B.cons (B.var (i := 6) rfl) B.nil) e5) (B.call (B.cons (B.var (i := 6) rfl) B.nil) e6) rfl rfl (ne_int _)) B.sn) ?_
  refine B.sc (B.ex (B.app (B.var (i := 7) rfl) ⟨_, at3⟩ B.non at3 (lim_small (by omega)))) ?_
  rw [← e4h]
  refine B.sc (B.asg (i := 8) (B.call (B.cons (B.var (i := 6) rfl) B.nil) e7)) ?_
  refine B.sc (B.if0 (B.bin (o := .ne) (B.un (o := .repr) (B.var (i := 8) rfl) rfl ry2) (B.un (o := .repr) (B.call (B.cons (B.var (i := 6) rfl) B.nil) e8) rfl ry2) rfl rfl (ne_str _)) B.sn) ?_
  refine B.sc (B.asg (i := 9) B.newd) ?_
  refine B.sc e9 ?_
  refine B.sc (B.asg (i := 11) (B.un (o := .repr) (B.var (i := 9) rfl) d6 ry3)) ?_
  refine B.sc (B.if0 (B.or0 (B.bin (o := .ne) (B.un (o := .repr) (B.call (B.cons (B.var (i := 6) rfl) (B.cons (B.var (i := 9) rfl) B.nil)) e10) rfl ry4) (B.un (o := .repr) (B.call (B.cons (B.var (i := 6) rfl) (B.cons (B.var (i := 9) rfl) B.nil)) e11) rfl ry4) rfl rfl (ne_str _))
    (B.bin (o := .ne) (B.un (o := .repr) (B.var (i := 9) rfl) d6 ry3) (B.var (i := 11) rfl) rfl rfl (ne_str _))) B.sn) ?_
  refine B.sc (B.if0 (B.or0 (B.bin (o := .ne) (B.call (B.cons (B.var (i := 6) rfl) (B.cons B.dct0 B.nil)) e12) (B.var (i := 6) rfl) rfl rfl (ne_tm pt.tm (by omega)))
    (B.bin (o := .ne) (B.un (o := .repr) (B.call (B.cons (B.var (i := 6) rfl) B.nil) e13) (by simp only [dref, at13]) ry1) (B.un (o := .repr) (B.call (B.cons (B.var (i := 6) rfl) B.nil) e14) rfl ry1) rfl rfl (ne_str _))) B.sn) ?_
  exact B.sn
theorem K03.main (ns : List Int) (hl : ns.length ≤ 63) : ∃ h', callF G 20 9003 [.t (.lst (ns.map .int))] [] = .ok (.t (.bl true)) h' := by
  obtain ⟨k, hk, hk2⟩ : ∃ k : Int, (k = 1 ∨ k = 2 ∨ k = 3) ∧ evE G (callF G 19) (startE 12 [.t (.lst (ns.map .int))]) [] (.bin .max (.int 1) (.bin .min (.int 3) (.un .len (.var 0)))) = .ok (.t (.int k)) [] := by
    refine ⟨_, ?_, B.bin (o := .max) B.int (B.bin (o := .min) (B.int) (B.un (o := .len) (z := .int (ns.map T.int).length) (B.var (i := 0) rfl) rfl rfl) rfl rfl rfl) rfl rfl rfl⟩
    split <;> split <;> simp at * <;> omega
  have walk := B.loop (g := none) (f := fun x ρ h => match setTg (.name 1) (.t x) ρ with | some ρ1 => exSs G (callF G 19) ρ1 h [(.asg (.name 2) (.call 4 [(.var 0), (.var 1)])), (.asg (.name 3) (.call 8 [(.var 2)])), (.for (.name 4) (.rng1 (.int 5)) turn03)] | none => .bad)
    (I := fun left ρ h => (∃ x1 x2 x3 x4 x5 x6 x7 x8 x9 x10 x11, ρ = [some (.t (.lst (ns.map .int))), x1, x2, x3, x4, x5, x6, x7, x8, x9, x10, x11]) ∧ ∀ x ∈ left, ∃ i : Nat, x = .int i) (fun _ _ _ _ => rfl) (fun x left ρ h inv => ?_)
    (its := rngT 0 k.toNat) (ρ := startE 12 [.t (.lst (ns.map .int))]) (h := []) ⟨⟨_, _, _, _, _, _, _, _, _, _, _, rfl⟩, fun x mx => by simp only [rngT, List.mem_map, List.mem_range] at mx; obtain ⟨i, _, rfl⟩ := mx; exact ⟨i, by simp⟩⟩
  · obtain ⟨ρ', h', e, ⟨_, _, _, _, _, _, _, _, _, _, _, rfl⟩, _⟩ := walk
    exact ⟨_, B.dret (f := 9003) (d := 19) (fd := m_law03) rfl rfl (by rw [body03]; exact B.sc (B.fr (B.itRng hk2 (rng_small (by omega) (by omega))) e) (B.sr (B.ret B.bl)))⟩
  · obtain ⟨⟨x1, x2, x3, x4, x5, x6, x7, x8, x9, x10, x11, rfl⟩, lf⟩ := inv
    obtain ⟨i, rfl⟩ := lf _ List.mem_cons_self
    obtain ⟨u, v, e1⟩ := run_feed (d := 18) (h := h) ns i
    have fd : isFeed (h ++ [.lst [.int u, .int v]]) h.length := ⟨u, v, by simp⟩
    obtain ⟨s, h2, ps, e2, so, o, x2'⟩ := run_drawn (d := 16) fd
    have walk2 := B.loop (g := none) (f := fun x ρ h => match setTg (.name 4) (.t x) ρ with | some ρ1 => exSs G (callF G 19) ρ1 h turn03 | none => .bad)
      (I := fun _ ρ h' => (∃ x4 x5 x6 x7 x8 x9 x10 x11, ρ = [some (.t (.lst (ns.map .int))), some (.t (.int i)), some (.r h.length), some s, x4, x5, x6, x7, x8, x9, x10, x11]) ∧ Held h.length s h') (fun _ _ _ _ => rfl) (fun y left ρ hh inv => by
        obtain ⟨⟨y4, y5, y6, y7, y8, y9, y10, y11, rfl⟩, hd⟩ := inv
        obtain ⟨h', z5, z6, z7, z8, z9, z10, z11, e, ex⟩ := run_turn (d := 12) (a := some (.t (.lst (ns.map .int)))) (b := some (.t (.int i))) (c := some (.t y)) (x5 := y5) (x6 := y6) (x7 := y7) (x8 := y8) (x9 := y9) (x10 := y10) (x11 := y11) hd
        exact ⟨_, h', e, ⟨_, _, _, _, _, _, _, _, rfl⟩, hd.ext ex⟩)
      (its := rngT 0 5) (ρ := [some (.t (.lst (ns.map .int))), some (.t (.int i)), some (.r h.length), some s, x4, x5, x6, x7, x8, x9, x10, x11]) (h := h2) ⟨⟨_, _, _, _, _, _, _, _, rfl⟩, x2'.feed, ps, o, so⟩
    obtain ⟨ρ3, h3, e3, ⟨_, _, _, _, _, _, _, _, rfl⟩, _⟩ := walk2
    exact ⟨_, h3, B.sc (B.asg (i := 2) (B.call (B.cons (B.var (i := 0) rfl) (B.cons (B.var (i := 1) rfl) B.nil)) e1)) (B.sc (B.asg (i := 3) (B.call (B.cons (B.var (i := 2) rfl) B.nil) e2)) (B.sc (B.fr (B.itRng B.int (rng_small (by decide) (by decide))) e3) B.sn)), ⟨_, _, _, _, _, _, _, _, _, _, _, rfl⟩, fun x mx => lf x (List.mem_cons_of_mem _ mx)⟩
end My

namespace My.K03
open PySem L2 PyProof.Rows My.M
abbrev P0 : Program := PySem.Challenge.pw_shutbyrings_k03_parts_variables_put
def top (i : Nat) : Stmt := P0.main.body.getD i (.Pass ⟨0, 0, 0, 0⟩)
def LL : List (Str × Nat × Nat) := [("parts", 0, 1), ("variables", 1, 1), ("size", 2, 1), ("put", 3, 2), ("_law_feed", 4, 2), ("_law_take", 5, 2), ("_law_pick", 6, 2), ("_law_known_signs", 7, 0), ("_law_drawn_signs", 8, 1), ("_law_term", 9, 4), ("_law_parts", 10, 1), ("_law_letters", 11, 1), ("_law_put", 12, 2), ("_law_size", 13, 1), ("law", 9003, 1)]
structure Bi (mg : Str → Option Value) : Prop where
  b_abs : mg "abs" = none
  b_int : mg "int" = none
  b_isinstance : mg "isinstance" = none
  b_len : mg "len" = none
  b_list : mg "list" = none
  b_max : mg "max" = none
  b_min : mg "min" = none
  b_range : mg "range" = none
  b_repr : mg "repr" = none
  b_sorted : mg "sorted" = none
  b_str : mg "str" = none
  b_sum : mg "sum" = none
  b_tuple : mg "tuple" = none
abbrev cl0 : Cl := fun _ => none
abbrev xr0 : XRel := fun _ _ _ _ _ _ => False
abbrev Z0 (d : Nat) : Zs := ⟨cl0, xr0, G, callF G d⟩
abbrev st_parts : Stmt := top 1
abbrev N_parts : List Str := ["term", "found", "argument", "part"]
theorem sc_parts : FnScope N_parts ["term"] (defScope st_parts) := ⟨rfl, rfl, rfl, by decide +kernel, rfl, by decide +kernel, by decide +kernel⟩
abbrev st_variables : Stmt := top 2
abbrev N_variables : List Str := ["term", "part"]
theorem sc_variables : FnScope N_variables ["term"] (defScope st_variables) := ⟨rfl, rfl, rfl, by decide +kernel, rfl, by decide +kernel, by decide +kernel⟩
abbrev st_size : Stmt := top 3
abbrev N_size : List Str := ["term", "argument"]
theorem sc_size : FnScope N_size ["term"] (defScope st_size) := ⟨rfl, rfl, rfl, by decide +kernel, rfl, by decide +kernel, by decide +kernel⟩
abbrev st_put : Stmt := top 4
abbrev N_put : List Str := ["term", "given", "argument"]
theorem sc_put : FnScope N_put ["term", "given"] (defScope st_put) := ⟨rfl, rfl, rfl, by decide +kernel, rfl, by decide +kernel, by decide +kernel⟩
abbrev st__law_feed : Stmt := top 6
abbrev N__law_feed : List Str := ["script", "k", "cell", "digits", "state"]
theorem sc__law_feed : FnScope N__law_feed ["script", "k"] (defScope st__law_feed) := ⟨rfl, rfl, rfl, by decide +kernel, rfl, by decide +kernel, by decide +kernel⟩
abbrev st__law_take : Stmt := top 7
abbrev N__law_take : List Str := ["feed", "many", "digit"]
theorem sc__law_take : FnScope N__law_take ["feed", "many"] (defScope st__law_take) := ⟨rfl, rfl, rfl, by decide +kernel, rfl, by decide +kernel, by decide +kernel⟩
abbrev st__law_pick : Stmt := top 8
abbrev N__law_pick : List Str := ["feed", "some"]
theorem sc__law_pick : FnScope N__law_pick ["feed", "some"] (defScope st__law_pick) := ⟨rfl, rfl, rfl, by decide +kernel, rfl, by decide +kernel, by decide +kernel⟩
abbrev st__law_known_signs : Stmt := top 9
abbrev N__law_known_signs : List Str := ["found"]
theorem sc__law_known_signs : FnScope N__law_known_signs [] (defScope st__law_known_signs) := ⟨rfl, rfl, rfl, by decide +kernel, rfl, by decide +kernel, by decide +kernel⟩
abbrev st__law_drawn_signs : Stmt := top 10
abbrev N__law_drawn_signs : List Str := ["feed", "names", "many", "found", "ways", "at", "arity"]
theorem sc__law_drawn_signs : FnScope N__law_drawn_signs ["feed"] (defScope st__law_drawn_signs) := ⟨rfl, rfl, rfl, by decide +kernel, rfl, by decide +kernel, by decide +kernel⟩
abbrev st__law_term : Stmt := top 11
abbrev N__law_term : List Str := ["feed", "pairs", "deep", "letters", "some", "name", "arity", "under", "pair", "at"]
theorem sc__law_term : FnScope N__law_term ["feed", "pairs", "deep", "letters"] (defScope st__law_term) := ⟨rfl, rfl, rfl, by decide +kernel, rfl, by decide +kernel, by decide +kernel⟩
abbrev st__law_parts : Stmt := top 12
abbrev N__law_parts : List Str := ["term", "found", "argument", "part"]
theorem sc__law_parts : FnScope N__law_parts ["term"] (defScope st__law_parts) := ⟨rfl, rfl, rfl, by decide +kernel, rfl, by decide +kernel, by decide +kernel⟩
abbrev st__law_letters : Stmt := top 13
abbrev N__law_letters : List Str := ["term", "part"]
theorem sc__law_letters : FnScope N__law_letters ["term"] (defScope st__law_letters) := ⟨rfl, rfl, rfl, by decide +kernel, rfl, by decide +kernel, by decide +kernel⟩
abbrev st__law_put : Stmt := top 14
abbrev N__law_put : List Str := ["term", "given", "argument"]
theorem sc__law_put : FnScope N__law_put ["term", "given"] (defScope st__law_put) := ⟨rfl, rfl, rfl, by decide +kernel, rfl, by decide +kernel, by decide +kernel⟩
abbrev st__law_size : Stmt := top 15
abbrev N__law_size : List Str := ["term", "argument"]
theorem sc__law_size : FnScope N__law_size ["term"] (defScope st__law_size) := ⟨rfl, rfl, rfl, by decide +kernel, rfl, by decide +kernel, by decide +kernel⟩
abbrev st_law : Stmt := top 16
abbrev N_law : List Str := ["script", "k", "feed", "pairs", "turn", "some", "term", "told", "letters", "given", "letter", "shown"]
theorem sc_law : FnScope N_law ["script"] (defScope st_law) := ⟨rfl, rfl, rfl, by decide +kernel, rfl, by decide +kernel, by decide +kernel⟩
section
variable {B : Pk} {d : Nat}
theorem b_parts (bi : Bi B.mg) (co : ClsOk B.K cl0 G.sub) (hC : Cals B (Z0 d) (2 * d) LL) {f : Addr} {cdv : Value} {A : Around} {fr : List Env} {s : Shared} {H : Hp} {E : XK}
    (hr : Room (2 * d + 1) (A.deeper (envOfC "parts" (defScope st_parts) s.heap.objs.size f cdv))) (gu : (A.deeper (envOfC "parts" (defScope st_parts) s.heap.objs.size f cdv)).guards = some []) :
    PSs (cxOf (L2.CX B.P B.w) B.P B.w B.K B.mg B.base N_parts "parts" (defScope st_parts) f cdv A fr s H E) (defBody st_parts) (tSs (Z0 d) (WF E) m_parts.body) := by
  have tk : Takes (cxOf (L2.CX B.P B.w) B.P B.w B.K B.mg B.base N_parts "parts" (defScope st_parts) f cdv A fr s H E) (WF E) := takes_of rfl rfl rfl rfl
  have pw : PassesOwn (model B.P B.w) (A.deeper (envOfC "parts" (defScope st_parts) s.heap.objs.size f cdv)) (envOfC "parts" (defScope st_parts) s.heap.objs.size f cdv) (cxOf (L2.CX B.P B.w) B.P B.w B.K B.mg B.base N_parts "parts" (defScope st_parts) f cdv A fr s H E).xe := passes_of (X := cxOf (L2.CX B.P B.w) B.P B.w B.K B.mg B.base N_parts "parts" (defScope st_parts) f cdv A fr s H E) rfl
  have nd := sc_parts.nd
  exact (ss_cons (Q.asg (Q.nm 1 nd) (Q.newl (Q.consT (Q.v 0) slT_nil)))
      (ss_cons (s_if (Q.tv (Q.isi .ttuple co bi.b_isinstance bi.b_tuple (Q.v 0))) (ss_cons (Q.fr pw (Q.nm 2 nd) (si_of (s_slf (Q.v 0) s_int)) (ss_cons (Q.asg (Q.nm 1 nd) (s_catn (Q.v 1) (Q.comp [("part", 3)] nd (si_of (Q.call (hC 0 ("parts", 0, 1) rfl) hr gu tk (Q.cons (Q.v 2) sl_nil))) (blkOk_by (N := N_parts) (sc := defScope st_parts) (own := [("part", 3)]) (by decide +kernel)) (fun _ _ _ _ _ => (Q.nm 3 nd)) (fun _ _ _ _ _ => (spt_one (Q.tcmp (two_notin (u65 hr)) (Q.v 3) (Q.v 1)))) (fun _ _ _ _ _ => (Q.v 3)))))
      ss_nil))
      ss_nil) ss_nil)
      (ss_cons (s_ret (Q.v 1))
      ss_nil)))
theorem b_variables (bi : Bi B.mg) (co : ClsOk B.K cl0 G.sub) (hC : Cals B (Z0 d) (2 * d) LL) {f : Addr} {cdv : Value} {A : Around} {fr : List Env} {s : Shared} {H : Hp} {E : XK}
    (hr : Room (2 * d + 1) (A.deeper (envOfC "variables" (defScope st_variables) s.heap.objs.size f cdv))) (gu : (A.deeper (envOfC "variables" (defScope st_variables) s.heap.objs.size f cdv)).guards = some []) :
    PSs (cxOf (L2.CX B.P B.w) B.P B.w B.K B.mg B.base N_variables "variables" (defScope st_variables) f cdv A fr s H E) (defBody st_variables) (tSs (Z0 d) (WF E) m_variables.body) := by
  have tk : Takes (cxOf (L2.CX B.P B.w) B.P B.w B.K B.mg B.base N_variables "variables" (defScope st_variables) f cdv A fr s H E) (WF E) := takes_of rfl rfl rfl rfl
  have pw : PassesOwn (model B.P B.w) (A.deeper (envOfC "variables" (defScope st_variables) s.heap.objs.size f cdv)) (envOfC "variables" (defScope st_variables) s.heap.objs.size f cdv) (cxOf (L2.CX B.P B.w) B.P B.w B.K B.mg B.base N_variables "variables" (defScope st_variables) f cdv A fr s H E).xe := passes_of (X := cxOf (L2.CX B.P B.w) B.P B.w B.K B.mg B.base N_variables "variables" (defScope st_variables) f cdv A fr s H E) rfl
  have nd := sc_variables.nd
  exact (ss_cons (s_ret (Q.bf one_sorted bi.b_sorted (Q.cons (Q.comp [("part", 1)] nd (si_of (Q.call (hC 0 ("parts", 0, 1) rfl) hr gu tk (Q.cons (Q.v 0) sl_nil))) (blkOk_by (N := N_variables) (sc := defScope st_variables) (own := [("part", 1)]) (by decide +kernel)) (fun _ _ _ _ _ => (Q.nm 1 nd)) (fun _ _ _ _ _ => (spt_one (Q.tv (Q.isi .tstr co bi.b_isinstance bi.b_str (Q.v 1))))) (fun _ _ _ _ _ => (Q.v 1))) sl_nil)))
      ss_nil)
theorem b_size (bi : Bi B.mg) (co : ClsOk B.K cl0 G.sub) (hC : Cals B (Z0 d) (2 * d) LL) {f : Addr} {cdv : Value} {A : Around} {fr : List Env} {s : Shared} {H : Hp} {E : XK}
    (hr : Room (2 * d + 1) (A.deeper (envOfC "size" (defScope st_size) s.heap.objs.size f cdv))) (gu : (A.deeper (envOfC "size" (defScope st_size) s.heap.objs.size f cdv)).guards = some []) :
    PSs (cxOf (L2.CX B.P B.w) B.P B.w B.K B.mg B.base N_size "size" (defScope st_size) f cdv A fr s H E) (defBody st_size) (tSs (Z0 d) (WF E) m_size.body) := by
  have tk : Takes (cxOf (L2.CX B.P B.w) B.P B.w B.K B.mg B.base N_size "size" (defScope st_size) f cdv A fr s H E) (WF E) := takes_of rfl rfl rfl rfl
  have pw : PassesOwn (model B.P B.w) (A.deeper (envOfC "size" (defScope st_size) s.heap.objs.size f cdv)) (envOfC "size" (defScope st_size) s.heap.objs.size f cdv) (cxOf (L2.CX B.P B.w) B.P B.w B.K B.mg B.base N_size "size" (defScope st_size) f cdv A fr s H E).xe := passes_of (X := cxOf (L2.CX B.P B.w) B.P B.w B.K B.mg B.base N_size "size" (defScope st_size) f cdv A fr s H E) rfl
  have nd := sc_size.nd
  exact (ss_cons (s_if (Q.tv (Q.isi .tstr co bi.b_isinstance bi.b_str (Q.v 0))) (ss_cons (s_ret s_int)
      ss_nil) ss_nil)
      (ss_cons (s_ret (Q.op two_add s_int (Q.bf (one_sum rfl) bi.b_sum (Q.cons (Q.comp [("argument", 1)] nd (si_of (s_slf (Q.v 0) s_int)) (blkOk_by (N := N_size) (sc := defScope st_size) (own := [("argument", 1)]) (by decide +kernel)) (fun _ _ _ _ _ => (Q.nm 1 nd)) (fun _ _ _ _ _ => spt_nil) (fun _ _ _ _ _ => (Q.call (hC 2 ("size", 2, 1) rfl) hr gu takes0 (Q.cons (Q.v 1) sl_nil)))) sl_nil))))
      ss_nil))
theorem b_put (bi : Bi B.mg) (co : ClsOk B.K cl0 G.sub) (hC : Cals B (Z0 d) (2 * d) LL) {f : Addr} {cdv : Value} {A : Around} {fr : List Env} {s : Shared} {H : Hp} {E : XK}
    (hr : Room (2 * d + 1) (A.deeper (envOfC "put" (defScope st_put) s.heap.objs.size f cdv))) (gu : (A.deeper (envOfC "put" (defScope st_put) s.heap.objs.size f cdv)).guards = some []) :
    PSs (cxOf (L2.CX B.P B.w) B.P B.w B.K B.mg B.base N_put "put" (defScope st_put) f cdv A fr s H E) (defBody st_put) (tSs (Z0 d) (WF E) m_put.body) := by
  have tk : Takes (cxOf (L2.CX B.P B.w) B.P B.w B.K B.mg B.base N_put "put" (defScope st_put) f cdv A fr s H E) (WF E) := takes_of rfl rfl rfl rfl
  have pw : PassesOwn (model B.P B.w) (A.deeper (envOfC "put" (defScope st_put) s.heap.objs.size f cdv)) (envOfC "put" (defScope st_put) s.heap.objs.size f cdv) (cxOf (L2.CX B.P B.w) B.P B.w B.K B.mg B.base N_put "put" (defScope st_put) f cdv A fr s H E).xe := passes_of (X := cxOf (L2.CX B.P B.w) B.P B.w B.K B.mg B.base N_put "put" (defScope st_put) f cdv A fr s H E) rfl
  have nd := sc_put.nd
  exact (ss_cons (s_if (Q.tv (Q.isi .tstr co bi.b_isinstance bi.b_str (Q.v 0))) (ss_cons (s_ret (Q.get hr (Q.v 1) (Q.v 0) (Q.v 0)))
      ss_nil) ss_nil)
      (ss_cons (s_ret (Q.op two_add (s_slt (Q.v 0) s_int) (Q.bt one_tuple bi.b_tuple (Q.cons (Q.comp [("argument", 2)] nd (si_of (s_slf (Q.v 0) s_int)) (blkOk_by (N := N_put) (sc := defScope st_put) (own := [("argument", 2)]) (by decide +kernel)) (fun _ _ _ _ _ => (Q.nm 2 nd)) (fun _ _ _ _ _ => spt_nil) (fun _ _ _ _ _ => (Q.call (hC 3 ("put", 3, 2) rfl) hr gu takes0 (Q.cons (Q.v 2) (Q.cons (Q.v 1) sl_nil))))) sl_nil))))
      ss_nil))
theorem b__law_feed (bi : Bi B.mg) (co : ClsOk B.K cl0 G.sub) (hC : Cals B (Z0 d) (2 * d) LL) {f : Addr} {cdv : Value} {A : Around} {fr : List Env} {s : Shared} {H : Hp} {E : XK}
    (hr : Room (2 * d + 1) (A.deeper (envOfC "_law_feed" (defScope st__law_feed) s.heap.objs.size f cdv))) (gu : (A.deeper (envOfC "_law_feed" (defScope st__law_feed) s.heap.objs.size f cdv)).guards = some []) :
    PSs (cxOf (L2.CX B.P B.w) B.P B.w B.K B.mg B.base N__law_feed "_law_feed" (defScope st__law_feed) f cdv A fr s H E) (defBody st__law_feed) (tSs (Z0 d) (WF E) m__law_feed.body) := by
  have tk : Takes (cxOf (L2.CX B.P B.w) B.P B.w B.K B.mg B.base N__law_feed "_law_feed" (defScope st__law_feed) f cdv A fr s H E) (WF E) := takes_of rfl rfl rfl rfl
  have pw : PassesOwn (model B.P B.w) (A.deeper (envOfC "_law_feed" (defScope st__law_feed) s.heap.objs.size f cdv)) (envOfC "_law_feed" (defScope st__law_feed) s.heap.objs.size f cdv) (cxOf (L2.CX B.P B.w) B.P B.w B.K B.mg B.base N__law_feed "_law_feed" (defScope st__law_feed) f cdv A fr s H E).xe := passes_of (X := cxOf (L2.CX B.P B.w) B.P B.w B.K B.mg B.base N__law_feed "_law_feed" (defScope st__law_feed) f cdv A fr s H E) rfl
  have nd := sc__law_feed.nd
  exact (ss_cons (Q.asg (Q.nm 2 nd) (s_ite (Q.tcmp two_lt (Q.v 1) (Q.bf one_len bi.b_len (Q.cons (Q.v 0) sl_nil))) (Q.idx hr (Q.v 0) (Q.v 1)) (Q.op two_add (Q.op two_mul s_int (Q.v 1)) s_int)))
      (ss_cons (Q.asg (Q.nm 3 nd) (Q.bf2 (fn_max rfl) bi.b_max (Q.cons s_int (Q.cons (Q.op two_sub (Q.bf one_abs bi.b_abs (Q.cons (Q.v 2) sl_nil)) (Q.op two_pow s_int s_int)) sl_nil))))
      (ss_cons (Q.asg (Q.nm 4 nd) (Q.op two_mod (Q.bt one_int bi.b_int (Q.cons (Q.op two_add (Q.op two_add (Q.op two_mul (Q.v 2) s_int) (Q.op two_mul s_int (Q.v 1))) s_int) sl_nil)) s_int))
      (ss_cons (s_ret (Q.newl (Q.consT (Q.v 3) (Q.consT (Q.v 4) slT_nil))))
      ss_nil))))
theorem b__law_take (bi : Bi B.mg) (co : ClsOk B.K cl0 G.sub) (hC : Cals B (Z0 d) (2 * d) LL) {f : Addr} {cdv : Value} {A : Around} {fr : List Env} {s : Shared} {H : Hp} {E : XK}
    (hr : Room (2 * d + 1) (A.deeper (envOfC "_law_take" (defScope st__law_take) s.heap.objs.size f cdv))) (gu : (A.deeper (envOfC "_law_take" (defScope st__law_take) s.heap.objs.size f cdv)).guards = some []) :
    PSs (cxOf (L2.CX B.P B.w) B.P B.w B.K B.mg B.base N__law_take "_law_take" (defScope st__law_take) f cdv A fr s H E) (defBody st__law_take) (tSs (Z0 d) (WF E) m__law_take.body) := by
  have tk : Takes (cxOf (L2.CX B.P B.w) B.P B.w B.K B.mg B.base N__law_take "_law_take" (defScope st__law_take) f cdv A fr s H E) (WF E) := takes_of rfl rfl rfl rfl
  have pw : PassesOwn (model B.P B.w) (A.deeper (envOfC "_law_take" (defScope st__law_take) s.heap.objs.size f cdv)) (envOfC "_law_take" (defScope st__law_take) s.heap.objs.size f cdv) (cxOf (L2.CX B.P B.w) B.P B.w B.K B.mg B.base N__law_take "_law_take" (defScope st__law_take) f cdv A fr s H E).xe := passes_of (X := cxOf (L2.CX B.P B.w) B.P B.w B.K B.mg B.base N__law_take "_law_take" (defScope st__law_take) f cdv A fr s H E) rfl
  have nd := sc__law_take.nd
  exact (ss_cons (s_if (Q.tcmp two_gt (Q.idx hr (Q.v 0) s_int) s_int) (ss_cons (Q.asg (Q.nm 2 nd) (Q.op two_mod (Q.bt one_int bi.b_int (Q.cons (Q.idx hr (Q.v 0) s_int) sl_nil)) (Q.v 1)))
      (ss_cons (Q.seti hr (Q.v 0) s_int (Q.op two_fdiv (Q.idx hr (Q.v 0) s_int) (Q.v 1)))
      (ss_cons (s_ret (Q.v 2))
      ss_nil))) ss_nil)
      (ss_cons (Q.seti hr (Q.v 0) s_int (Q.op two_mod (Q.bt one_int bi.b_int (Q.cons (Q.op two_add (Q.op two_mul (Q.idx hr (Q.v 0) s_int) s_int) s_int) sl_nil)) s_int))
      (ss_cons (s_ret (Q.op two_mod (Q.bt one_int bi.b_int (Q.cons (Q.op two_fdiv (Q.idx hr (Q.v 0) s_int) s_int) sl_nil)) (Q.v 1)))
      ss_nil)))
theorem b__law_pick (bi : Bi B.mg) (co : ClsOk B.K cl0 G.sub) (hC : Cals B (Z0 d) (2 * d) LL) {f : Addr} {cdv : Value} {A : Around} {fr : List Env} {s : Shared} {H : Hp} {E : XK}
    (hr : Room (2 * d + 1) (A.deeper (envOfC "_law_pick" (defScope st__law_pick) s.heap.objs.size f cdv))) (gu : (A.deeper (envOfC "_law_pick" (defScope st__law_pick) s.heap.objs.size f cdv)).guards = some []) :
    PSs (cxOf (L2.CX B.P B.w) B.P B.w B.K B.mg B.base N__law_pick "_law_pick" (defScope st__law_pick) f cdv A fr s H E) (defBody st__law_pick) (tSs (Z0 d) (WF E) m__law_pick.body) := by
  have tk : Takes (cxOf (L2.CX B.P B.w) B.P B.w B.K B.mg B.base N__law_pick "_law_pick" (defScope st__law_pick) f cdv A fr s H E) (WF E) := takes_of rfl rfl rfl rfl
  have pw : PassesOwn (model B.P B.w) (A.deeper (envOfC "_law_pick" (defScope st__law_pick) s.heap.objs.size f cdv)) (envOfC "_law_pick" (defScope st__law_pick) s.heap.objs.size f cdv) (cxOf (L2.CX B.P B.w) B.P B.w B.K B.mg B.base N__law_pick "_law_pick" (defScope st__law_pick) f cdv A fr s H E).xe := passes_of (X := cxOf (L2.CX B.P B.w) B.P B.w B.K B.mg B.base N__law_pick "_law_pick" (defScope st__law_pick) f cdv A fr s H E) rfl
  have nd := sc__law_pick.nd
  exact (ss_cons (s_ret (Q.idx hr (Q.v 1) (Q.call (hC 5 ("_law_take", 5, 2) rfl) hr gu tk (Q.cons (Q.v 0) (Q.cons (Q.bf one_len bi.b_len (Q.cons (Q.v 1) sl_nil)) sl_nil)))))
      ss_nil)
theorem b__law_known_signs (bi : Bi B.mg) (co : ClsOk B.K cl0 G.sub) (hC : Cals B (Z0 d) (2 * d) LL) {f : Addr} {cdv : Value} {A : Around} {fr : List Env} {s : Shared} {H : Hp} {E : XK}
    (hr : Room (2 * d + 1) (A.deeper (envOfC "_law_known_signs" (defScope st__law_known_signs) s.heap.objs.size f cdv))) (gu : (A.deeper (envOfC "_law_known_signs" (defScope st__law_known_signs) s.heap.objs.size f cdv)).guards = some []) :
    PSs (cxOf (L2.CX B.P B.w) B.P B.w B.K B.mg B.base N__law_known_signs "_law_known_signs" (defScope st__law_known_signs) f cdv A fr s H E) (defBody st__law_known_signs) (tSs (Z0 d) (WF E) m__law_known_signs.body) := by
  have tk : Takes (cxOf (L2.CX B.P B.w) B.P B.w B.K B.mg B.base N__law_known_signs "_law_known_signs" (defScope st__law_known_signs) f cdv A fr s H E) (WF E) := takes_of rfl rfl rfl rfl
  have pw : PassesOwn (model B.P B.w) (A.deeper (envOfC "_law_known_signs" (defScope st__law_known_signs) s.heap.objs.size f cdv)) (envOfC "_law_known_signs" (defScope st__law_known_signs) s.heap.objs.size f cdv) (cxOf (L2.CX B.P B.w) B.P B.w B.K B.mg B.base N__law_known_signs "_law_known_signs" (defScope st__law_known_signs) f cdv A fr s H E).xe := passes_of (X := cxOf (L2.CX B.P B.w) B.P B.w B.K B.mg B.base N__law_known_signs "_law_known_signs" (defScope st__law_known_signs) f cdv A fr s H E) rfl
  have nd := sc__law_known_signs.nd
  exact (ss_cons (Q.asg (Q.nm 0 nd) (Q.lst (Q.consT (Q.lst (Q.consT (Q.tup (Q.consT s_str (Q.consT s_int slT_nil))) (Q.consT (Q.tup (Q.consT s_str (Q.consT s_int slT_nil))) (Q.consT (Q.tup (Q.consT s_str (Q.consT s_int slT_nil))) slT_nil)))) (Q.consT (Q.lst (Q.consT (Q.tup (Q.consT s_str (Q.consT s_int slT_nil))) (Q.consT (Q.tup (Q.consT s_str (Q.consT s_int slT_nil))) (Q.consT (Q.tup (Q.consT s_str (Q.consT s_int slT_nil))) slT_nil)))) (Q.consT (Q.lst (Q.consT (Q.tup (Q.consT s_str (Q.consT s_int slT_nil))) (Q.consT (Q.tup (Q.consT s_str (Q.consT s_int slT_nil))) (Q.consT (Q.tup (Q.consT s_str (Q.consT s_int slT_nil))) slT_nil)))) slT_nil)))))
      (ss_cons (Q.asg (Q.nm 0 nd) (Q.op two_add (Q.v 0) (Q.lst (Q.consT (Q.lst (Q.consT (Q.tup (Q.consT s_str (Q.consT s_int slT_nil))) (Q.consT (Q.tup (Q.consT s_str (Q.consT s_int slT_nil))) (Q.consT (Q.tup (Q.consT s_str (Q.consT s_int slT_nil))) slT_nil)))) (Q.consT (Q.lst (Q.consT (Q.tup (Q.consT s_str (Q.consT s_int slT_nil))) (Q.consT (Q.tup (Q.consT s_str (Q.consT s_int slT_nil))) (Q.consT (Q.tup (Q.consT s_str (Q.consT s_int slT_nil))) slT_nil)))) (Q.consT (Q.lst (Q.consT (Q.tup (Q.consT s_str (Q.consT s_int slT_nil))) (Q.consT (Q.tup (Q.consT s_str (Q.consT s_int slT_nil))) (Q.consT (Q.tup (Q.consT s_str (Q.consT s_int slT_nil))) slT_nil)))) slT_nil))))))
      (ss_cons (Q.asg (Q.nm 0 nd) (Q.op two_add (Q.v 0) (Q.lst (Q.consT (Q.lst (Q.consT (Q.tup (Q.consT s_str (Q.consT s_int slT_nil))) (Q.consT (Q.tup (Q.consT s_str (Q.consT s_int slT_nil))) (Q.consT (Q.tup (Q.consT s_str (Q.consT s_int slT_nil))) slT_nil)))) (Q.consT (Q.lst (Q.consT (Q.tup (Q.consT s_str (Q.consT s_int slT_nil))) (Q.consT (Q.tup (Q.consT s_str (Q.consT s_int slT_nil))) (Q.consT (Q.tup (Q.consT s_str (Q.consT s_int slT_nil))) (Q.consT (Q.tup (Q.consT s_str (Q.consT s_int slT_nil))) slT_nil))))) slT_nil)))))
      (ss_cons (Q.asg (Q.nm 0 nd) (Q.op two_add (Q.v 0) (Q.lst (Q.consT (Q.lst (Q.consT (Q.tup (Q.consT s_str (Q.consT s_int slT_nil))) (Q.consT (Q.tup (Q.consT s_str (Q.consT s_int slT_nil))) (Q.consT (Q.tup (Q.consT s_str (Q.consT s_int slT_nil))) slT_nil)))) (Q.consT (Q.lst (Q.consT (Q.tup (Q.consT s_str (Q.consT s_int slT_nil))) (Q.consT (Q.tup (Q.consT s_str (Q.consT s_int slT_nil))) (Q.consT (Q.tup (Q.consT s_str (Q.consT s_int slT_nil))) slT_nil)))) slT_nil)))))
      (ss_cons (s_ret (Q.op two_add (Q.v 0) (Q.lst (Q.consT (Q.lst (Q.consT (Q.tup (Q.consT s_str (Q.consT s_int slT_nil))) (Q.consT (Q.tup (Q.consT s_str (Q.consT s_int slT_nil))) slT_nil))) (Q.consT (Q.lst (Q.consT (Q.tup (Q.consT s_str (Q.consT s_int slT_nil))) (Q.consT (Q.tup (Q.consT s_str (Q.consT s_int slT_nil))) (Q.consT (Q.tup (Q.consT s_str (Q.consT s_int slT_nil))) (Q.consT (Q.tup (Q.consT s_str (Q.consT s_int slT_nil))) slT_nil))))) (Q.consT (Q.lst (Q.consT (Q.tup (Q.consT s_str (Q.consT s_int slT_nil))) slT_nil)) slT_nil))))))
      ss_nil)))))
theorem b__law_drawn_signs (bi : Bi B.mg) (co : ClsOk B.K cl0 G.sub) (hC : Cals B (Z0 d) (2 * d) LL) {f : Addr} {cdv : Value} {A : Around} {fr : List Env} {s : Shared} {H : Hp} {E : XK}
    (hr : Room (2 * d + 1) (A.deeper (envOfC "_law_drawn_signs" (defScope st__law_drawn_signs) s.heap.objs.size f cdv))) (gu : (A.deeper (envOfC "_law_drawn_signs" (defScope st__law_drawn_signs) s.heap.objs.size f cdv)).guards = some []) :
    PSs (cxOf (L2.CX B.P B.w) B.P B.w B.K B.mg B.base N__law_drawn_signs "_law_drawn_signs" (defScope st__law_drawn_signs) f cdv A fr s H E) (defBody st__law_drawn_signs) (tSs (Z0 d) (WF E) m__law_drawn_signs.body) := by
  have tk : Takes (cxOf (L2.CX B.P B.w) B.P B.w B.K B.mg B.base N__law_drawn_signs "_law_drawn_signs" (defScope st__law_drawn_signs) f cdv A fr s H E) (WF E) := takes_of rfl rfl rfl rfl
  have pw : PassesOwn (model B.P B.w) (A.deeper (envOfC "_law_drawn_signs" (defScope st__law_drawn_signs) s.heap.objs.size f cdv)) (envOfC "_law_drawn_signs" (defScope st__law_drawn_signs) s.heap.objs.size f cdv) (cxOf (L2.CX B.P B.w) B.P B.w B.K B.mg B.base N__law_drawn_signs "_law_drawn_signs" (defScope st__law_drawn_signs) f cdv A fr s H E).xe := passes_of (X := cxOf (L2.CX B.P B.w) B.P B.w B.K B.mg B.base N__law_drawn_signs "_law_drawn_signs" (defScope st__law_drawn_signs) f cdv A fr s H E) rfl
  have nd := sc__law_drawn_signs.nd
  exact (ss_cons (s_if (Q.tcmp two_gt (Q.call (hC 5 ("_law_take", 5, 2) rfl) hr gu tk (Q.cons (Q.v 0) (Q.cons s_int sl_nil))) s_int) (ss_cons (s_ret (Q.call (hC 6 ("_law_pick", 6, 2) rfl) hr gu tk (Q.cons (Q.v 0) (Q.cons (Q.call0 (hC 7 ("_law_known_signs", 7, 0) rfl) hr gu tk) sl_nil))))
      ss_nil) ss_nil)
      (ss_cons (Q.asg (Q.nm 1 nd) (Q.call (hC 6 ("_law_pick", 6, 2) rfl) hr gu tk (Q.cons (Q.v 0) (Q.cons (Q.lst (Q.consT (Q.lst (Q.consT s_str (Q.consT s_str (Q.consT s_str (Q.consT s_str slT_nil))))) (Q.consT (Q.lst (Q.consT s_str (Q.consT s_str (Q.consT s_str (Q.consT s_str slT_nil))))) (Q.consT (Q.lst (Q.consT s_str (Q.consT s_str (Q.consT s_str (Q.consT s_str slT_nil))))) slT_nil)))) sl_nil))))
      (ss_cons (Q.par3 2 3 4 nd (Q.cons (Q.op two_add s_int (Q.call (hC 5 ("_law_take", 5, 2) rfl) hr gu tk (Q.cons (Q.v 0) (Q.cons s_int sl_nil)))) (Q.cons (Q.newl slT_nil) (Q.cons s_int sl_nil))))
      (ss_cons (Q.fr pw (Q.nm 5 nd) (Q.rng1 bi.b_range (Q.cons (Q.v 2) sl_nil)) (ss_cons (Q.asg (Q.nm 6 nd) (Q.call (hC 5 ("_law_take", 5, 2) rfl) hr gu tk (Q.cons (Q.v 0) (Q.cons (s_ite (Q.tcmp two_lt (Q.v 4) s_int) s_int s_int) sl_nil))))
      (ss_cons (Q.asg (Q.nm 4 nd) (Q.op two_add (Q.v 4) (Q.bt one_int bi.b_int (Q.cons (Q.cmp two_ge (Q.v 6) s_int) sl_nil))))
      (ss_cons (Q.ex (Q.app (Q.v 3) (Q.tup (Q.consT (Q.idx hr (Q.v 1) (Q.v 5)) (Q.consT (Q.v 6) slT_nil)))))
      ss_nil))))
      (ss_cons (s_ret (Q.v 3))
      ss_nil)))))
theorem b__law_term (bi : Bi B.mg) (co : ClsOk B.K cl0 G.sub) (hC : Cals B (Z0 d) (2 * d) LL) {f : Addr} {cdv : Value} {A : Around} {fr : List Env} {s : Shared} {H : Hp} {E : XK}
    (hr : Room (2 * d + 1) (A.deeper (envOfC "_law_term" (defScope st__law_term) s.heap.objs.size f cdv))) (gu : (A.deeper (envOfC "_law_term" (defScope st__law_term) s.heap.objs.size f cdv)).guards = some []) :
    PSs (cxOf (L2.CX B.P B.w) B.P B.w B.K B.mg B.base N__law_term "_law_term" (defScope st__law_term) f cdv A fr s H E) (defBody st__law_term) (tSs (Z0 d) (WF E) m__law_term.body) := by
  have tk : Takes (cxOf (L2.CX B.P B.w) B.P B.w B.K B.mg B.base N__law_term "_law_term" (defScope st__law_term) f cdv A fr s H E) (WF E) := takes_of rfl rfl rfl rfl
  have pw : PassesOwn (model B.P B.w) (A.deeper (envOfC "_law_term" (defScope st__law_term) s.heap.objs.size f cdv)) (envOfC "_law_term" (defScope st__law_term) s.heap.objs.size f cdv) (cxOf (L2.CX B.P B.w) B.P B.w B.K B.mg B.base N__law_term "_law_term" (defScope st__law_term) f cdv A fr s H E).xe := passes_of (X := cxOf (L2.CX B.P B.w) B.P B.w B.K B.mg B.base N__law_term "_law_term" (defScope st__law_term) f cdv A fr s H E) rfl
  have nd := sc__law_term.nd
  exact (ss_cons (s_if (Q.tpw (sw_and2 (Q.tcmp (two_ne (u64 hr)) (Q.v 3) (Q.lst slT_nil)) (Q.tpw (sw_or2 (Q.tcmp (two_eq (u64 hr)) (Q.v 2) s_int) (Q.tcmp (two_eq (u64 hr)) (Q.call (hC 5 ("_law_take", 5, 2) rfl) hr gu tk (Q.cons (Q.v 0) (Q.cons s_int sl_nil))) s_int))))) (ss_cons (s_ret (Q.call (hC 6 ("_law_pick", 6, 2) rfl) hr gu tk (Q.cons (Q.v 0) (Q.cons (Q.v 3) sl_nil))))
      ss_nil) ss_nil)
      (ss_cons (Q.asgC 4 [("pair", 8)] nd (si_of (Q.v 1)) (blkOk_by (N := N__law_term) (sc := defScope st__law_term) (own := [("pair", 8)]) (by decide +kernel)) (fun _ _ _ _ _ => (Q.nm 8 nd)) (fun _ _ _ _ _ => (spt_one (Q.tpw (sw_or2 (Q.tcmp (two_eq (u64 hr)) (Q.idx hr (Q.v 8) s_int) s_int) (Q.tcmp two_gt (Q.v 2) s_int))))) (fun _ _ _ _ _ => (Q.v 8)))
      (ss_cons (s_if (Q.tcmp (two_eq (u64 hr)) (Q.v 4) (Q.lst slT_nil)) (ss_cons (s_ret s_str)
      ss_nil) ss_nil)
      (ss_cons (Q.asg (Q.gtup (Q.nms 5 nd (Q.nms 6 nd sgs_nil))) (Q.call (hC 6 ("_law_pick", 6, 2) rfl) hr gu tk (Q.cons (Q.v 0) (Q.cons (Q.v 4) sl_nil))))
      (ss_cons (Q.asg (Q.nm 7 nd) (s_ite (Q.tcmp (two_eq (u64 hr)) (Q.v 6) s_int) (Q.bf2 (fn_max rfl) bi.b_max (Q.cons s_int (Q.cons (Q.op two_sub (Q.v 2) s_int) sl_nil))) (Q.op two_sub (Q.v 2) s_int)))
      (ss_cons (s_ret (Q.op two_add (Q.tup (Q.consT (Q.v 5) slT_nil)) (Q.bt one_tuple bi.b_tuple (Q.cons (Q.comp [("at", 9)] nd (Q.rng1 bi.b_range (Q.cons (Q.v 6) sl_nil)) (blkOk_by (N := N__law_term) (sc := defScope st__law_term) (own := [("at", 9)]) (by decide +kernel)) (fun _ _ _ _ _ => (Q.nm 9 nd)) (fun _ _ _ _ _ => spt_nil) (fun _ _ _ _ _ => (Q.call (hC 9 ("_law_term", 9, 4) rfl) hr gu takes0 (Q.cons (Q.v 0) (Q.cons (Q.v 1) (Q.cons (Q.v 7) (Q.cons (Q.v 3) sl_nil))))))) sl_nil))))
      ss_nil))))))
theorem b__law_parts (bi : Bi B.mg) (co : ClsOk B.K cl0 G.sub) (hC : Cals B (Z0 d) (2 * d) LL) {f : Addr} {cdv : Value} {A : Around} {fr : List Env} {s : Shared} {H : Hp} {E : XK}
    (hr : Room (2 * d + 1) (A.deeper (envOfC "_law_parts" (defScope st__law_parts) s.heap.objs.size f cdv))) (gu : (A.deeper (envOfC "_law_parts" (defScope st__law_parts) s.heap.objs.size f cdv)).guards = some []) :
    PSs (cxOf (L2.CX B.P B.w) B.P B.w B.K B.mg B.base N__law_parts "_law_parts" (defScope st__law_parts) f cdv A fr s H E) (defBody st__law_parts) (tSs (Z0 d) (WF E) m__law_parts.body) := by
  have tk : Takes (cxOf (L2.CX B.P B.w) B.P B.w B.K B.mg B.base N__law_parts "_law_parts" (defScope st__law_parts) f cdv A fr s H E) (WF E) := takes_of rfl rfl rfl rfl
  have pw : PassesOwn (model B.P B.w) (A.deeper (envOfC "_law_parts" (defScope st__law_parts) s.heap.objs.size f cdv)) (envOfC "_law_parts" (defScope st__law_parts) s.heap.objs.size f cdv) (cxOf (L2.CX B.P B.w) B.P B.w B.K B.mg B.base N__law_parts "_law_parts" (defScope st__law_parts) f cdv A fr s H E).xe := passes_of (X := cxOf (L2.CX B.P B.w) B.P B.w B.K B.mg B.base N__law_parts "_law_parts" (defScope st__law_parts) f cdv A fr s H E) rfl
  have nd := sc__law_parts.nd
  exact (ss_cons (Q.asg (Q.nm 1 nd) (Q.lst (Q.consT (Q.v 0) slT_nil)))
      (ss_cons (s_if (Q.tv (Q.isi .ttuple co bi.b_isinstance bi.b_tuple (Q.v 0))) (ss_cons (Q.fr pw (Q.nm 2 nd) (si_of (s_slf (Q.v 0) s_int)) (ss_cons (Q.asg (Q.nm 1 nd) (Q.op two_add (Q.v 1) (Q.comp [("part", 3)] nd (si_of (Q.call (hC 10 ("_law_parts", 10, 1) rfl) hr gu tk (Q.cons (Q.v 2) sl_nil))) (blkOk_by (N := N__law_parts) (sc := defScope st__law_parts) (own := [("part", 3)]) (by decide +kernel)) (fun _ _ _ _ _ => (Q.nm 3 nd)) (fun _ _ _ _ _ => (spt_one (Q.tcmp (two_notin (u65 hr)) (Q.v 3) (Q.v 1)))) (fun _ _ _ _ _ => (Q.v 3)))))
      ss_nil))
      ss_nil) ss_nil)
      (ss_cons (s_ret (Q.v 1))
      ss_nil)))
theorem b__law_letters (bi : Bi B.mg) (co : ClsOk B.K cl0 G.sub) (hC : Cals B (Z0 d) (2 * d) LL) {f : Addr} {cdv : Value} {A : Around} {fr : List Env} {s : Shared} {H : Hp} {E : XK}
    (hr : Room (2 * d + 1) (A.deeper (envOfC "_law_letters" (defScope st__law_letters) s.heap.objs.size f cdv))) (gu : (A.deeper (envOfC "_law_letters" (defScope st__law_letters) s.heap.objs.size f cdv)).guards = some []) :
    PSs (cxOf (L2.CX B.P B.w) B.P B.w B.K B.mg B.base N__law_letters "_law_letters" (defScope st__law_letters) f cdv A fr s H E) (defBody st__law_letters) (tSs (Z0 d) (WF E) m__law_letters.body) := by
  have tk : Takes (cxOf (L2.CX B.P B.w) B.P B.w B.K B.mg B.base N__law_letters "_law_letters" (defScope st__law_letters) f cdv A fr s H E) (WF E) := takes_of rfl rfl rfl rfl
  have pw : PassesOwn (model B.P B.w) (A.deeper (envOfC "_law_letters" (defScope st__law_letters) s.heap.objs.size f cdv)) (envOfC "_law_letters" (defScope st__law_letters) s.heap.objs.size f cdv) (cxOf (L2.CX B.P B.w) B.P B.w B.K B.mg B.base N__law_letters "_law_letters" (defScope st__law_letters) f cdv A fr s H E).xe := passes_of (X := cxOf (L2.CX B.P B.w) B.P B.w B.K B.mg B.base N__law_letters "_law_letters" (defScope st__law_letters) f cdv A fr s H E) rfl
  have nd := sc__law_letters.nd
  exact (ss_cons (s_ret (Q.bf one_sorted bi.b_sorted (Q.cons (Q.comp [("part", 1)] nd (si_of (Q.call (hC 10 ("_law_parts", 10, 1) rfl) hr gu tk (Q.cons (Q.v 0) sl_nil))) (blkOk_by (N := N__law_letters) (sc := defScope st__law_letters) (own := [("part", 1)]) (by decide +kernel)) (fun _ _ _ _ _ => (Q.nm 1 nd)) (fun _ _ _ _ _ => (spt_one (Q.tv (Q.isi .tstr co bi.b_isinstance bi.b_str (Q.v 1))))) (fun _ _ _ _ _ => (Q.v 1))) sl_nil)))
      ss_nil)
theorem b__law_put (bi : Bi B.mg) (co : ClsOk B.K cl0 G.sub) (hC : Cals B (Z0 d) (2 * d) LL) {f : Addr} {cdv : Value} {A : Around} {fr : List Env} {s : Shared} {H : Hp} {E : XK}
    (hr : Room (2 * d + 1) (A.deeper (envOfC "_law_put" (defScope st__law_put) s.heap.objs.size f cdv))) (gu : (A.deeper (envOfC "_law_put" (defScope st__law_put) s.heap.objs.size f cdv)).guards = some []) :
    PSs (cxOf (L2.CX B.P B.w) B.P B.w B.K B.mg B.base N__law_put "_law_put" (defScope st__law_put) f cdv A fr s H E) (defBody st__law_put) (tSs (Z0 d) (WF E) m__law_put.body) := by
  have tk : Takes (cxOf (L2.CX B.P B.w) B.P B.w B.K B.mg B.base N__law_put "_law_put" (defScope st__law_put) f cdv A fr s H E) (WF E) := takes_of rfl rfl rfl rfl
  have pw : PassesOwn (model B.P B.w) (A.deeper (envOfC "_law_put" (defScope st__law_put) s.heap.objs.size f cdv)) (envOfC "_law_put" (defScope st__law_put) s.heap.objs.size f cdv) (cxOf (L2.CX B.P B.w) B.P B.w B.K B.mg B.base N__law_put "_law_put" (defScope st__law_put) f cdv A fr s H E).xe := passes_of (X := cxOf (L2.CX B.P B.w) B.P B.w B.K B.mg B.base N__law_put "_law_put" (defScope st__law_put) f cdv A fr s H E) rfl
  have nd := sc__law_put.nd
  exact (ss_cons (s_if (Q.tv (Q.isi .tstr co bi.b_isinstance bi.b_str (Q.v 0))) (ss_cons (s_ret (s_ite (Q.tcmp (two_in (u65 hr)) (Q.v 0) (Q.v 1)) (Q.idx hr (Q.v 1) (Q.v 0)) (Q.v 0)))
      ss_nil) ss_nil)
      (ss_cons (s_ret (Q.op two_add (Q.tup (Q.consT (Q.idx hr (Q.v 0) s_int) slT_nil)) (Q.bt one_tuple bi.b_tuple (Q.cons (Q.comp [("argument", 2)] nd (si_of (s_slf (Q.v 0) s_int)) (blkOk_by (N := N__law_put) (sc := defScope st__law_put) (own := [("argument", 2)]) (by decide +kernel)) (fun _ _ _ _ _ => (Q.nm 2 nd)) (fun _ _ _ _ _ => spt_nil) (fun _ _ _ _ _ => (Q.call (hC 12 ("_law_put", 12, 2) rfl) hr gu takes0 (Q.cons (Q.v 2) (Q.cons (Q.v 1) sl_nil))))) sl_nil))))
      ss_nil))
theorem b__law_size (bi : Bi B.mg) (co : ClsOk B.K cl0 G.sub) (hC : Cals B (Z0 d) (2 * d) LL) {f : Addr} {cdv : Value} {A : Around} {fr : List Env} {s : Shared} {H : Hp} {E : XK}
    (hr : Room (2 * d + 1) (A.deeper (envOfC "_law_size" (defScope st__law_size) s.heap.objs.size f cdv))) (gu : (A.deeper (envOfC "_law_size" (defScope st__law_size) s.heap.objs.size f cdv)).guards = some []) :
    PSs (cxOf (L2.CX B.P B.w) B.P B.w B.K B.mg B.base N__law_size "_law_size" (defScope st__law_size) f cdv A fr s H E) (defBody st__law_size) (tSs (Z0 d) (WF E) m__law_size.body) := by
  have tk : Takes (cxOf (L2.CX B.P B.w) B.P B.w B.K B.mg B.base N__law_size "_law_size" (defScope st__law_size) f cdv A fr s H E) (WF E) := takes_of rfl rfl rfl rfl
  have pw : PassesOwn (model B.P B.w) (A.deeper (envOfC "_law_size" (defScope st__law_size) s.heap.objs.size f cdv)) (envOfC "_law_size" (defScope st__law_size) s.heap.objs.size f cdv) (cxOf (L2.CX B.P B.w) B.P B.w B.K B.mg B.base N__law_size "_law_size" (defScope st__law_size) f cdv A fr s H E).xe := passes_of (X := cxOf (L2.CX B.P B.w) B.P B.w B.K B.mg B.base N__law_size "_law_size" (defScope st__law_size) f cdv A fr s H E) rfl
  have nd := sc__law_size.nd
  exact (ss_cons (s_if (Q.tv (Q.isi .tstr co bi.b_isinstance bi.b_str (Q.v 0))) (ss_cons (s_ret s_int)
      ss_nil) ss_nil)
      (ss_cons (s_ret (Q.op two_add s_int (Q.bf (one_sum rfl) bi.b_sum (Q.cons (Q.comp [("argument", 1)] nd (si_of (s_slf (Q.v 0) s_int)) (blkOk_by (N := N__law_size) (sc := defScope st__law_size) (own := [("argument", 1)]) (by decide +kernel)) (fun _ _ _ _ _ => (Q.nm 1 nd)) (fun _ _ _ _ _ => spt_nil) (fun _ _ _ _ _ => (Q.call (hC 13 ("_law_size", 13, 1) rfl) hr gu takes0 (Q.cons (Q.v 1) sl_nil)))) sl_nil))))
      ss_nil))
theorem b_law (bi : Bi B.mg) (co : ClsOk B.K cl0 G.sub) (hC : Cals B (Z0 d) (2 * d) LL) {f : Addr} {cdv : Value} {A : Around} {fr : List Env} {s : Shared} {H : Hp} {E : XK}
    (hr : Room (2 * d + 1) (A.deeper (envOfC "law" (defScope st_law) s.heap.objs.size f cdv))) (gu : (A.deeper (envOfC "law" (defScope st_law) s.heap.objs.size f cdv)).guards = some []) :
    PSs (cxOf (L2.CX B.P B.w) B.P B.w B.K B.mg B.base N_law "law" (defScope st_law) f cdv A fr s H E) (defBody st_law) (tSs (Z0 d) (WF E) m_law03.body) := by
  have tk : Takes (cxOf (L2.CX B.P B.w) B.P B.w B.K B.mg B.base N_law "law" (defScope st_law) f cdv A fr s H E) (WF E) := takes_of rfl rfl rfl rfl
  have pw : PassesOwn (model B.P B.w) (A.deeper (envOfC "law" (defScope st_law) s.heap.objs.size f cdv)) (envOfC "law" (defScope st_law) s.heap.objs.size f cdv) (cxOf (L2.CX B.P B.w) B.P B.w B.K B.mg B.base N_law "law" (defScope st_law) f cdv A fr s H E).xe := passes_of (X := cxOf (L2.CX B.P B.w) B.P B.w B.K B.mg B.base N_law "law" (defScope st_law) f cdv A fr s H E) rfl
  have nd := sc_law.nd
  exact (ss_cons (Q.fr pw (Q.nm 1 nd) (Q.rng1 bi.b_range (Q.cons (Q.bf2 (fn_max rfl) bi.b_max (Q.cons s_int (Q.cons (Q.bf2 (fn_min rfl) bi.b_min (Q.cons s_int (Q.cons (Q.bf one_len bi.b_len (Q.cons (Q.v 0) sl_nil)) sl_nil))) sl_nil))) sl_nil)) (ss_cons (Q.asg (Q.nm 2 nd) (Q.call (hC 4 ("_law_feed", 4, 2) rfl) hr gu tk (Q.cons (Q.v 0) (Q.cons (Q.v 1) sl_nil))))
      (ss_cons (Q.asg (Q.nm 3 nd) (Q.call (hC 8 ("_law_drawn_signs", 8, 1) rfl) hr gu tk (Q.cons (Q.v 2) sl_nil)))
      (ss_cons (Q.fr pw (Q.nm 4 nd) (Q.rng1 bi.b_range (Q.cons s_int sl_nil)) (ss_cons (Q.asg (Q.nm 5 nd) (Q.call (hC 6 ("_law_pick", 6, 2) rfl) hr gu tk (Q.cons (Q.v 2) (Q.cons (Q.lst (Q.consT (Q.lst (Q.consT s_str (Q.consT s_str slT_nil))) (Q.consT (Q.lst (Q.consT s_str (Q.consT s_str (Q.consT s_str (Q.consT s_str slT_nil))))) (Q.consT (Q.lst (Q.consT s_str slT_nil)) slT_nil)))) sl_nil))))
      (ss_cons (Q.asg (Q.nm 6 nd) (Q.call (hC 9 ("_law_term", 9, 4) rfl) hr gu tk (Q.cons (Q.v 2) (Q.cons (Q.v 3) (Q.cons s_int (Q.cons (Q.v 5) sl_nil))))))
      (ss_cons (Q.asg (Q.nm 7 nd) (Q.call (hC 0 ("parts", 0, 1) rfl) hr gu tk (Q.cons (Q.v 6) sl_nil)))
      (ss_cons (s_if (Q.tpw (sw_or2 (st_not (Q.tv (Q.isi .tlist co bi.b_isinstance bi.b_list (Q.v 7)))) (Q.tcmp (two_ne (u64 hr)) (Q.bf (one_repr gu (u70 hr)) bi.b_repr (Q.cons (Q.v 7) sl_nil)) (Q.bf (one_repr gu (u70 hr)) bi.b_repr (Q.cons (Q.call (hC 10 ("_law_parts", 10, 1) rfl) hr gu tk (Q.cons (Q.v 6) sl_nil)) sl_nil))))) (ss_cons (s_ret s_bl)
      ss_nil) ss_nil)
      (ss_cons (s_if (Q.tcmp (two_ne (u64 hr)) (Q.call (hC 2 ("size", 2, 1) rfl) hr gu tk (Q.cons (Q.v 6) sl_nil)) (Q.call (hC 13 ("_law_size", 13, 1) rfl) hr gu tk (Q.cons (Q.v 6) sl_nil))) (ss_cons (s_ret s_bl)
      ss_nil) ss_nil)
      (ss_cons (Q.ex (Q.app (Q.v 7) s_non))
      (ss_cons (Q.asg (Q.nm 8 nd) (Q.call (hC 1 ("variables", 1, 1) rfl) hr gu tk (Q.cons (Q.v 6) sl_nil)))
      (ss_cons (s_if (Q.tcmp (two_ne (u64 hr)) (Q.bf (one_repr gu (u70 hr)) bi.b_repr (Q.cons (Q.v 8) sl_nil)) (Q.bf (one_repr gu (u70 hr)) bi.b_repr (Q.cons (Q.call (hC 11 ("_law_letters", 11, 1) rfl) hr gu tk (Q.cons (Q.v 6) sl_nil)) sl_nil))) (ss_cons (s_ret s_bl)
      ss_nil) ss_nil)
      (ss_cons (Q.asg (Q.nm 9 nd) s_newd)
      (ss_cons (Q.fr pw (Q.nm 10 nd) (si_of (Q.lst (Q.consT s_str (Q.consT s_str (Q.consT s_str (Q.consT s_str slT_nil)))))) (ss_cons (s_if (Q.tcmp two_gt (Q.call (hC 5 ("_law_take", 5, 2) rfl) hr gu tk (Q.cons (Q.v 2) (Q.cons s_int sl_nil))) s_int) (ss_cons (Q.seti hr (Q.v 9) (Q.v 10) (Q.call (hC 9 ("_law_term", 9, 4) rfl) hr gu tk (Q.cons (Q.v 2) (Q.cons (Q.v 3) (Q.cons s_int (Q.cons (Q.lst (Q.consT s_str (Q.consT s_str (Q.consT s_str slT_nil)))) sl_nil))))))
      ss_nil) ss_nil)
      ss_nil))
      (ss_cons (Q.asg (Q.nm 11 nd) (Q.bf (one_repr gu (u70 hr)) bi.b_repr (Q.cons (Q.v 9) sl_nil)))
      (ss_cons (s_if (Q.tpw (sw_or2 (Q.tcmp (two_ne (u64 hr)) (Q.bf (one_repr gu (u70 hr)) bi.b_repr (Q.cons (Q.call (hC 3 ("put", 3, 2) rfl) hr gu tk (Q.cons (Q.v 6) (Q.cons (Q.v 9) sl_nil))) sl_nil)) (Q.bf (one_repr gu (u70 hr)) bi.b_repr (Q.cons (Q.call (hC 12 ("_law_put", 12, 2) rfl) hr gu tk (Q.cons (Q.v 6) (Q.cons (Q.v 9) sl_nil))) sl_nil))) (Q.tcmp (two_ne (u64 hr)) (Q.bf (one_repr gu (u70 hr)) bi.b_repr (Q.cons (Q.v 9) sl_nil)) (Q.v 11)))) (ss_cons (s_ret s_bl)
      ss_nil) ss_nil)
      (ss_cons (s_if (Q.tpw (sw_or2 (Q.tcmp (two_ne (u64 hr)) (Q.call (hC 3 ("put", 3, 2) rfl) hr gu tk (Q.cons (Q.v 6) (Q.cons s_dct0 sl_nil))) (Q.v 6)) (Q.tcmp (two_ne (u64 hr)) (Q.bf (one_repr gu (u70 hr)) bi.b_repr (Q.cons (Q.call (hC 0 ("parts", 0, 1) rfl) hr gu tk (Q.cons (Q.v 6) sl_nil)) sl_nil)) (Q.bf (one_repr gu (u70 hr)) bi.b_repr (Q.cons (Q.call (hC 10 ("_law_parts", 10, 1) rfl) hr gu tk (Q.cons (Q.v 6) sl_nil)) sl_nil))))) (ss_cons (s_ret s_bl)
      ss_nil) ss_nil)
      ss_nil))))))))))))))
      ss_nil))))
      (ss_cons (s_ret s_bl)
      ss_nil))
end
section
theorem all_mk {P : Program} {w : World} {K : PySem.W.Frag} {h : Heap} {mg : Str → Option Value} {fa : Addr} (X : K.In h) (G' : h.Ns mainGlobals mg) (hfa : mg "law" = some (.ref fa))
    {f0 f1 f2 f3 f4 f5 f6 f7 f8 f9 f10 f11 f12 f13 f14 : Addr} {od0 an0 od1 an1 od2 an2 od3 an3 od4 an4 od5 an5 od6 an6 od7 an7 od8 an8 od9 an9 od10 an10 od11 an11 od12 an12 od13 an13 od14 an14 : Option Addr} {sl0 sl1 sl2 sl3 sl4 sl5 sl6 sl7 sl8 sl9 sl10 sl11 sl12 sl13 sl14 : Array (Option Value)} {oc0 kV0 dc0 pm0 cd0 ct0 oc1 kV1 dc1 pm1 cd1 ct1 oc2 kV2 dc2 pm2 cd2 ct2 oc3 kV3 dc3 pm3 cd3 ct3 oc4 kV4 dc4 pm4 cd4 ct4 oc5 kV5 dc5 pm5 cd5 ct5 oc6 kV6 dc6 pm6 cd6 ct6 oc7 kV7 dc7 pm7 cd7 ct7 oc8 kV8 dc8 pm8 cd8 ct8 oc9 kV9 dc9 pm9 cd9 ct9 oc10 kV10 dc10 pm10 cd10 ct10 oc11 kV11 dc11 pm11 cd11 ct11 oc12 kV12 dc12 pm12 cd12 ct12 oc13 kV13 dc13 pm13 cd13 ct13 oc14 kV14 dc14 pm14 cd14 ct14 : Value}
    (a0 : PySem.W.nsIn K mainGlobals "parts" = some (some (.ref f0))) (l0 : K.lookup f0 = some ⟨oc0, od0, .func (PySem.W.fnOf "parts" "parts" (defArgs st_parts) (defBody st_parts) (defScope st_parts) .none kV0 dc0 pm0 an0 cd0 ct0), sl0⟩) (c0 : PySem.W.codeIn K cd0 "parts" = true) (k0 : PySem.W.keepIn K (.ref f0) = true)
    (a1 : PySem.W.nsIn K mainGlobals "variables" = some (some (.ref f1))) (l1 : K.lookup f1 = some ⟨oc1, od1, .func (PySem.W.fnOf "variables" "variables" (defArgs st_variables) (defBody st_variables) (defScope st_variables) .none kV1 dc1 pm1 an1 cd1 ct1), sl1⟩) (c1 : PySem.W.codeIn K cd1 "variables" = true) (k1 : PySem.W.keepIn K (.ref f1) = true)
    (a2 : PySem.W.nsIn K mainGlobals "size" = some (some (.ref f2))) (l2 : K.lookup f2 = some ⟨oc2, od2, .func (PySem.W.fnOf "size" "size" (defArgs st_size) (defBody st_size) (defScope st_size) .none kV2 dc2 pm2 an2 cd2 ct2), sl2⟩) (c2 : PySem.W.codeIn K cd2 "size" = true) (k2 : PySem.W.keepIn K (.ref f2) = true)
    (a3 : PySem.W.nsIn K mainGlobals "put" = some (some (.ref f3))) (l3 : K.lookup f3 = some ⟨oc3, od3, .func (PySem.W.fnOf "put" "put" (defArgs st_put) (defBody st_put) (defScope st_put) .none kV3 dc3 pm3 an3 cd3 ct3), sl3⟩) (c3 : PySem.W.codeIn K cd3 "put" = true) (k3 : PySem.W.keepIn K (.ref f3) = true)
    (a4 : PySem.W.nsIn K mainGlobals "_law_feed" = some (some (.ref f4))) (l4 : K.lookup f4 = some ⟨oc4, od4, .func (PySem.W.fnOf "_law_feed" "_law_feed" (defArgs st__law_feed) (defBody st__law_feed) (defScope st__law_feed) .none kV4 dc4 pm4 an4 cd4 ct4), sl4⟩) (c4 : PySem.W.codeIn K cd4 "_law_feed" = true) (k4 : PySem.W.keepIn K (.ref f4) = true)
    (a5 : PySem.W.nsIn K mainGlobals "_law_take" = some (some (.ref f5))) (l5 : K.lookup f5 = some ⟨oc5, od5, .func (PySem.W.fnOf "_law_take" "_law_take" (defArgs st__law_take) (defBody st__law_take) (defScope st__law_take) .none kV5 dc5 pm5 an5 cd5 ct5), sl5⟩) (c5 : PySem.W.codeIn K cd5 "_law_take" = true) (k5 : PySem.W.keepIn K (.ref f5) = true)
    (a6 : PySem.W.nsIn K mainGlobals "_law_pick" = some (some (.ref f6))) (l6 : K.lookup f6 = some ⟨oc6, od6, .func (PySem.W.fnOf "_law_pick" "_law_pick" (defArgs st__law_pick) (defBody st__law_pick) (defScope st__law_pick) .none kV6 dc6 pm6 an6 cd6 ct6), sl6⟩) (c6 : PySem.W.codeIn K cd6 "_law_pick" = true) (k6 : PySem.W.keepIn K (.ref f6) = true)
    (a7 : PySem.W.nsIn K mainGlobals "_law_known_signs" = some (some (.ref f7))) (l7 : K.lookup f7 = some ⟨oc7, od7, .func (PySem.W.fnOf "_law_known_signs" "_law_known_signs" (defArgs st__law_known_signs) (defBody st__law_known_signs) (defScope st__law_known_signs) .none kV7 dc7 pm7 an7 cd7 ct7), sl7⟩) (c7 : PySem.W.codeIn K cd7 "_law_known_signs" = true) (k7 : PySem.W.keepIn K (.ref f7) = true)
    (a8 : PySem.W.nsIn K mainGlobals "_law_drawn_signs" = some (some (.ref f8))) (l8 : K.lookup f8 = some ⟨oc8, od8, .func (PySem.W.fnOf "_law_drawn_signs" "_law_drawn_signs" (defArgs st__law_drawn_signs) (defBody st__law_drawn_signs) (defScope st__law_drawn_signs) .none kV8 dc8 pm8 an8 cd8 ct8), sl8⟩) (c8 : PySem.W.codeIn K cd8 "_law_drawn_signs" = true) (k8 : PySem.W.keepIn K (.ref f8) = true)
    (a9 : PySem.W.nsIn K mainGlobals "_law_term" = some (some (.ref f9))) (l9 : K.lookup f9 = some ⟨oc9, od9, .func (PySem.W.fnOf "_law_term" "_law_term" (defArgs st__law_term) (defBody st__law_term) (defScope st__law_term) .none kV9 dc9 pm9 an9 cd9 ct9), sl9⟩) (c9 : PySem.W.codeIn K cd9 "_law_term" = true) (k9 : PySem.W.keepIn K (.ref f9) = true)
    (a10 : PySem.W.nsIn K mainGlobals "_law_parts" = some (some (.ref f10))) (l10 : K.lookup f10 = some ⟨oc10, od10, .func (PySem.W.fnOf "_law_parts" "_law_parts" (defArgs st__law_parts) (defBody st__law_parts) (defScope st__law_parts) .none kV10 dc10 pm10 an10 cd10 ct10), sl10⟩) (c10 : PySem.W.codeIn K cd10 "_law_parts" = true) (k10 : PySem.W.keepIn K (.ref f10) = true)
    (a11 : PySem.W.nsIn K mainGlobals "_law_letters" = some (some (.ref f11))) (l11 : K.lookup f11 = some ⟨oc11, od11, .func (PySem.W.fnOf "_law_letters" "_law_letters" (defArgs st__law_letters) (defBody st__law_letters) (defScope st__law_letters) .none kV11 dc11 pm11 an11 cd11 ct11), sl11⟩) (c11 : PySem.W.codeIn K cd11 "_law_letters" = true) (k11 : PySem.W.keepIn K (.ref f11) = true)
    (a12 : PySem.W.nsIn K mainGlobals "_law_put" = some (some (.ref f12))) (l12 : K.lookup f12 = some ⟨oc12, od12, .func (PySem.W.fnOf "_law_put" "_law_put" (defArgs st__law_put) (defBody st__law_put) (defScope st__law_put) .none kV12 dc12 pm12 an12 cd12 ct12), sl12⟩) (c12 : PySem.W.codeIn K cd12 "_law_put" = true) (k12 : PySem.W.keepIn K (.ref f12) = true)
    (a13 : PySem.W.nsIn K mainGlobals "_law_size" = some (some (.ref f13))) (l13 : K.lookup f13 = some ⟨oc13, od13, .func (PySem.W.fnOf "_law_size" "_law_size" (defArgs st__law_size) (defBody st__law_size) (defScope st__law_size) .none kV13 dc13 pm13 an13 cd13 ct13), sl13⟩) (c13 : PySem.W.codeIn K cd13 "_law_size" = true) (k13 : PySem.W.keepIn K (.ref f13) = true)
    (a14 : PySem.W.nsIn K mainGlobals "law" = some (some (.ref f14))) (l14 : K.lookup f14 = some ⟨oc14, od14, .func (PySem.W.fnOf "law" "law" (defArgs st_law) (defBody st_law) (defScope st_law) .none kV14 dc14 pm14 an14 cd14 ct14), sl14⟩) (c14 : PySem.W.codeIn K cd14 "law" = true) (k14 : PySem.W.keepIn K (.ref f14) = true)
    (z0 : PySem.W.nsIn K mainGlobals "abs" = some none)
    (z1 : PySem.W.nsIn K mainGlobals "int" = some none)
    (z2 : PySem.W.nsIn K mainGlobals "isinstance" = some none)
    (z3 : PySem.W.nsIn K mainGlobals "len" = some none)
    (z4 : PySem.W.nsIn K mainGlobals "list" = some none)
    (z5 : PySem.W.nsIn K mainGlobals "max" = some none)
    (z6 : PySem.W.nsIn K mainGlobals "min" = some none)
    (z7 : PySem.W.nsIn K mainGlobals "range" = some none)
    (z8 : PySem.W.nsIn K mainGlobals "repr" = some none)
    (z9 : PySem.W.nsIn K mainGlobals "sorted" = some none)
    (z10 : PySem.W.nsIn K mainGlobals "str" = some none)
    (z11 : PySem.W.nsIn K mainGlobals "sum" = some none)
    (z12 : PySem.W.nsIn K mainGlobals "tuple" = some none)
    (co : ClsOk K cl0 G.sub) :
    ∃ fd : FuncData, (∀ (s : Shared) (u : Value), BindsTo s fd ⟨[u], []⟩ [("script", u)]) ∧ ∀ base : Heap, K.In base → base.Ns mainGlobals mg → FnG ⟨P, w, K, mg, base⟩ (2 * 20) fa fd ["script"] (spF cl0 xr0 1 (callF G 20 9003)) := by
  have e := hfa.symm.trans (PySem.W.mg_of X G' a14)
  cases e
  have bi : Bi mg := ⟨PySem.W.mg_none_of X G' z0, PySem.W.mg_none_of X G' z1, PySem.W.mg_none_of X G' z2, PySem.W.mg_none_of X G' z3, PySem.W.mg_none_of X G' z4, PySem.W.mg_none_of X G' z5, PySem.W.mg_none_of X G' z6, PySem.W.mg_none_of X G' z7, PySem.W.mg_none_of X G' z8, PySem.W.mg_none_of X G' z9, PySem.W.mg_none_of X G' z10, PySem.W.mg_none_of X G' z11, PySem.W.mg_none_of X G' z12⟩
  have F0 := fun_mk (st := st_parts) l0 c0 k0
  have b0 := F0.binds (ps := ["term"]) fun _ _ _ _ _ _ us hl => match us, hl with | [_], _ => rfl
  have F1 := fun_mk (st := st_variables) l1 c1 k1
  have b1 := F1.binds (ps := ["term"]) fun _ _ _ _ _ _ us hl => match us, hl with | [_], _ => rfl
  have F2 := fun_mk (st := st_size) l2 c2 k2
  have b2 := F2.binds (ps := ["term"]) fun _ _ _ _ _ _ us hl => match us, hl with | [_], _ => rfl
  have F3 := fun_mk (st := st_put) l3 c3 k3
  have b3 := F3.binds (ps := ["term", "given"]) fun _ _ _ _ _ _ us hl => match us, hl with | [_, _], _ => rfl
  have F4 := fun_mk (st := st__law_feed) l4 c4 k4
  have b4 := F4.binds (ps := ["script", "k"]) fun _ _ _ _ _ _ us hl => match us, hl with | [_, _], _ => rfl
  have F5 := fun_mk (st := st__law_take) l5 c5 k5
  have b5 := F5.binds (ps := ["feed", "many"]) fun _ _ _ _ _ _ us hl => match us, hl with | [_, _], _ => rfl
  have F6 := fun_mk (st := st__law_pick) l6 c6 k6
  have b6 := F6.binds (ps := ["feed", "some"]) fun _ _ _ _ _ _ us hl => match us, hl with | [_, _], _ => rfl
  have F7 := fun_mk (st := st__law_known_signs) l7 c7 k7
  have b7 := F7.binds (ps := []) fun _ _ _ _ _ _ us hl => match us, hl with | [], _ => rfl
  have F8 := fun_mk (st := st__law_drawn_signs) l8 c8 k8
  have b8 := F8.binds (ps := ["feed"]) fun _ _ _ _ _ _ us hl => match us, hl with | [_], _ => rfl
  have F9 := fun_mk (st := st__law_term) l9 c9 k9
  have b9 := F9.binds (ps := ["feed", "pairs", "deep", "letters"]) fun _ _ _ _ _ _ us hl => match us, hl with | [_, _, _, _], _ => rfl
  have F10 := fun_mk (st := st__law_parts) l10 c10 k10
  have b10 := F10.binds (ps := ["term"]) fun _ _ _ _ _ _ us hl => match us, hl with | [_], _ => rfl
  have F11 := fun_mk (st := st__law_letters) l11 c11 k11
  have b11 := F11.binds (ps := ["term"]) fun _ _ _ _ _ _ us hl => match us, hl with | [_], _ => rfl
  have F12 := fun_mk (st := st__law_put) l12 c12 k12
  have b12 := F12.binds (ps := ["term", "given"]) fun _ _ _ _ _ _ us hl => match us, hl with | [_, _], _ => rfl
  have F13 := fun_mk (st := st__law_size) l13 c13 k13
  have b13 := F13.binds (ps := ["term"]) fun _ _ _ _ _ _ us hl => match us, hl with | [_], _ => rfl
  have F14 := fun_mk (st := st_law) l14 c14 k14
  have b14 := F14.binds (ps := ["script"]) fun _ _ _ _ _ _ us hl => match us, hl with | [_], _ => rfl
  have hx : XrOk xr0 := fun _ _ _ _ _ _ _ _ z => z
  have step : ∀ (d : Nat) (base : Heap), Cals ⟨P, w, K, mg, base⟩ (Z0 d) (2 * d) LL := by
    intro d base
    induction d with
    | zero =>
      intro j e hj
      match j, hj with
      | 0, rfl => exact ⟨_, _, ["term"], fnG_zero, rfl, PySem.W.mg_of X G' a0, k0, b0⟩
      | 1, rfl => exact ⟨_, _, ["term"], fnG_zero, rfl, PySem.W.mg_of X G' a1, k1, b1⟩
      | 2, rfl => exact ⟨_, _, ["term"], fnG_zero, rfl, PySem.W.mg_of X G' a2, k2, b2⟩
      | 3, rfl => exact ⟨_, _, ["term", "given"], fnG_zero, rfl, PySem.W.mg_of X G' a3, k3, b3⟩
      | 4, rfl => exact ⟨_, _, ["script", "k"], fnG_zero, rfl, PySem.W.mg_of X G' a4, k4, b4⟩
      | 5, rfl => exact ⟨_, _, ["feed", "many"], fnG_zero, rfl, PySem.W.mg_of X G' a5, k5, b5⟩
      | 6, rfl => exact ⟨_, _, ["feed", "some"], fnG_zero, rfl, PySem.W.mg_of X G' a6, k6, b6⟩
      | 7, rfl => exact ⟨_, _, [], fnG_zero, rfl, PySem.W.mg_of X G' a7, k7, b7⟩
      | 8, rfl => exact ⟨_, _, ["feed"], fnG_zero, rfl, PySem.W.mg_of X G' a8, k8, b8⟩
      | 9, rfl => exact ⟨_, _, ["feed", "pairs", "deep", "letters"], fnG_zero, rfl, PySem.W.mg_of X G' a9, k9, b9⟩
      | 10, rfl => exact ⟨_, _, ["term"], fnG_zero, rfl, PySem.W.mg_of X G' a10, k10, b10⟩
      | 11, rfl => exact ⟨_, _, ["term"], fnG_zero, rfl, PySem.W.mg_of X G' a11, k11, b11⟩
      | 12, rfl => exact ⟨_, _, ["term", "given"], fnG_zero, rfl, PySem.W.mg_of X G' a12, k12, b12⟩
      | 13, rfl => exact ⟨_, _, ["term"], fnG_zero, rfl, PySem.W.mg_of X G' a13, k13, b13⟩
      | 14, rfl => exact ⟨_, _, ["script"], fnG_zero, rfl, PySem.W.mg_of X G' a14, k14, b14⟩
    | succ d ih =>
      intro j e hj
      match j, hj with
      | 0, rfl => exact ⟨_, _, ["term"], ok_mini (i := 0) (fdm := m_parts) F0 sc_parts hx rfl rfl rfl (fun cdv A fr s H E hr gu => b_parts bi co ih hr gu), rfl, PySem.W.mg_of X G' a0, k0, b0⟩
      | 1, rfl => exact ⟨_, _, ["term"], ok_mini (i := 1) (fdm := m_variables) F1 sc_variables hx rfl rfl rfl (fun cdv A fr s H E hr gu => b_variables bi co ih hr gu), rfl, PySem.W.mg_of X G' a1, k1, b1⟩
      | 2, rfl => exact ⟨_, _, ["term"], ok_mini (i := 2) (fdm := m_size) F2 sc_size hx rfl rfl rfl (fun cdv A fr s H E hr gu => b_size bi co ih hr gu), rfl, PySem.W.mg_of X G' a2, k2, b2⟩
      | 3, rfl => exact ⟨_, _, ["term", "given"], ok_mini (i := 3) (fdm := m_put) F3 sc_put hx rfl rfl rfl (fun cdv A fr s H E hr gu => b_put bi co ih hr gu), rfl, PySem.W.mg_of X G' a3, k3, b3⟩
      | 4, rfl => exact ⟨_, _, ["script", "k"], ok_mini (i := 4) (fdm := m__law_feed) F4 sc__law_feed hx rfl rfl rfl (fun cdv A fr s H E hr gu => b__law_feed bi co ih hr gu), rfl, PySem.W.mg_of X G' a4, k4, b4⟩
      | 5, rfl => exact ⟨_, _, ["feed", "many"], ok_mini (i := 5) (fdm := m__law_take) F5 sc__law_take hx rfl rfl rfl (fun cdv A fr s H E hr gu => b__law_take bi co ih hr gu), rfl, PySem.W.mg_of X G' a5, k5, b5⟩
      | 6, rfl => exact ⟨_, _, ["feed", "some"], ok_mini (i := 6) (fdm := m__law_pick) F6 sc__law_pick hx rfl rfl rfl (fun cdv A fr s H E hr gu => b__law_pick bi co ih hr gu), rfl, PySem.W.mg_of X G' a6, k6, b6⟩
      | 7, rfl => exact ⟨_, _, [], ok_mini (i := 7) (fdm := m__law_known_signs) F7 sc__law_known_signs hx rfl rfl rfl (fun cdv A fr s H E hr gu => b__law_known_signs bi co ih hr gu), rfl, PySem.W.mg_of X G' a7, k7, b7⟩
      | 8, rfl => exact ⟨_, _, ["feed"], ok_mini (i := 8) (fdm := m__law_drawn_signs) F8 sc__law_drawn_signs hx rfl rfl rfl (fun cdv A fr s H E hr gu => b__law_drawn_signs bi co ih hr gu), rfl, PySem.W.mg_of X G' a8, k8, b8⟩
      | 9, rfl => exact ⟨_, _, ["feed", "pairs", "deep", "letters"], ok_mini (i := 9) (fdm := m__law_term) F9 sc__law_term hx rfl rfl rfl (fun cdv A fr s H E hr gu => b__law_term bi co ih hr gu), rfl, PySem.W.mg_of X G' a9, k9, b9⟩
      | 10, rfl => exact ⟨_, _, ["term"], ok_mini (i := 10) (fdm := m__law_parts) F10 sc__law_parts hx rfl rfl rfl (fun cdv A fr s H E hr gu => b__law_parts bi co ih hr gu), rfl, PySem.W.mg_of X G' a10, k10, b10⟩
      | 11, rfl => exact ⟨_, _, ["term"], ok_mini (i := 11) (fdm := m__law_letters) F11 sc__law_letters hx rfl rfl rfl (fun cdv A fr s H E hr gu => b__law_letters bi co ih hr gu), rfl, PySem.W.mg_of X G' a11, k11, b11⟩
      | 12, rfl => exact ⟨_, _, ["term", "given"], ok_mini (i := 12) (fdm := m__law_put) F12 sc__law_put hx rfl rfl rfl (fun cdv A fr s H E hr gu => b__law_put bi co ih hr gu), rfl, PySem.W.mg_of X G' a12, k12, b12⟩
      | 13, rfl => exact ⟨_, _, ["term"], ok_mini (i := 13) (fdm := m__law_size) F13 sc__law_size hx rfl rfl rfl (fun cdv A fr s H E hr gu => b__law_size bi co ih hr gu), rfl, PySem.W.mg_of X G' a13, k13, b13⟩
      | 14, rfl => exact ⟨_, _, ["script"], ok_mini (i := 9003) (fdm := m_law03) F14 sc_law hx rfl rfl rfl (fun cdv A fr s H E hr gu => b_law bi co ih hr gu), rfl, PySem.W.mg_of X G' a14, k14, b14⟩
  refine ⟨_, fun s u => ?_, fun base _ _ => ok_mini (i := 9003) (fdm := m_law03) F14 sc_law hx rfl rfl rfl (fun cdv A fr s H E hr gu => b_law bi co (step 19 base) hr gu)⟩
  exact .of_eq rfl
end
end My.K03

open PySem PySem.W PyProof.Rows
set_option maxRecDepth 100000 in
set_option maxHeartbeats 0 in
theorem PySem.Challenge.cw_shutbyrings_k03_parts_variables_put_holds : PySem.Challenge.rw_shutbyrings_k03_parts_variables_put.Holds := by
  w_on; o_law; k_head; (case hw => w_witness2)
  k_fill
  refine My.the_law (l := PySem.Challenge.rw_shutbyrings_k03_parts_variables_put) (n := 63) (x := "script") (k := 2 * 20) (sp := fun _ => My.spF My.K03.cl0 My.K03.xr0 1 (My.callF My.M.G 20 9003)) rfl (by decide) rfl ⟨rfl, by decide, by decide⟩ (fun w h Y => PySem.W.kIn_of Y) ?noL ?theF (fun _ H a ns hl hS => My.law_sp hS (My.K03.main ns hl))
  case noL => intro w; rfl
  case theF =>
    intro w mg fa h KX G' hmg
    refine' My.K03.all_mk KX G' hmg ?a0 ?l0 ?c0 ?k0 ?a1 ?l1 ?c1 ?k1 ?a2 ?l2 ?c2 ?k2 ?a3 ?l3 ?c3 ?k3 ?a4 ?l4 ?c4 ?k4 ?a5 ?l5 ?c5 ?k5 ?a6 ?l6 ?c6 ?k6 ?a7 ?l7 ?c7 ?k7 ?a8 ?l8 ?c8 ?k8 ?a9 ?l9 ?c9 ?k9 ?a10 ?l10 ?c10 ?k10 ?a11 ?l11 ?c11 ?k11 ?a12 ?l12 ?c12 ?k12 ?a13 ?l13 ?c13 ?k13 ?a14 ?l14 ?c14 ?k14 ?z0 ?z1 ?z2 ?z3 ?z4 ?z5 ?z6 ?z7 ?z8 ?z9 ?z10 ?z11 ?z12 (My.noCls _)
    (case a0 => k_is)
    (case l0 => k_is)
    (case c0 => k_is)
    (case k0 => k_is)
    (case a1 => k_is)
    (case l1 => k_is)
    (case c1 => k_is)
    (case k1 => k_is)
    (case a2 => k_is)
    (case l2 => k_is)
    (case c2 => k_is)
    (case k2 => k_is)
    (case a3 => k_is)
    (case l3 => k_is)
    (case c3 => k_is)
    (case k3 => k_is)
    (case a4 => k_is)
    (case l4 => k_is)
    (case c4 => k_is)
    (case k4 => k_is)
    (case a5 => k_is)
    (case l5 => k_is)
    (case c5 => k_is)
    (case k5 => k_is)
    (case a6 => k_is)
    (case l6 => k_is)
    (case c6 => k_is)
    (case k6 => k_is)
    (case a7 => k_is)
    (case l7 => k_is)
    (case c7 => k_is)
    (case k7 => k_is)
    (case a8 => k_is)
    (case l8 => k_is)
    (case c8 => k_is)
    (case k8 => k_is)
    (case a9 => k_is)
    (case l9 => k_is)
    (case c9 => k_is)
    (case k9 => k_is)
    (case a10 => k_is)
    (case l10 => k_is)
    (case c10 => k_is)
    (case k10 => k_is)
    (case a11 => k_is)
    (case l11 => k_is)
    (case c11 => k_is)
    (case k11 => k_is)
    (case a12 => k_is)
    (case l12 => k_is)
    (case c12 => k_is)
    (case k12 => k_is)
    (case a13 => k_is)
    (case l13 => k_is)
    (case c13 => k_is)
    (case k13 => k_is)
    (case a14 => k_is)
    (case l14 => k_is)
    (case c14 => k_is)
    (case k14 => k_is)
    (case z0 => k_is)
    (case z1 => k_is)
    (case z2 => k_is)
    (case z3 => k_is)
    (case z4 => k_is)
    (case z5 => k_is)
    (case z6 => k_is)
    (case z7 => k_is)
    (case z8 => k_is)
    (case z9 => k_is)
    (case z10 => k_is)
    (case z11 => k_is)
    (case z12 => k_is)

