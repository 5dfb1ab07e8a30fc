import PyProof.Rows.All
import Wide.All
import OpenK.AllK
import Wide.FinOn
import PySem.Fast.Str
import PySem.Syntax
import PySem.PyData
import PyProof.P3Statements
import KE.KDictKeyed
import KE.KeyNested
import PyProof.ListMulRoad
import PyProof.FactsAll.tuple_2
import HandS.Base
import HandS.Call
import HandS.List
import HandS.TupAny
import HandS.TupMul
import HandS.ForMost
import HandS.Exc
import HandS.ExcOwn
import HandS.WordsExc
import HandS.CallSlots
import HandS.TryOnly
import HandS.Style
import KE.DataEq
import KE.SortData
import KE.DataCmp
import HandS.IsInst
import HandS.Iter
import HandS.Zip
import KE.KDictPairs
import HandS.Comp
import HandS.Words
import HandS.Defaults
import HandS.HeadHook2
import HandS.Ends
import HandS.HeadEnd
import HandS.HeadHook4
import HandS.Head2
import PyProof.TableCode
import PySem.Challenge.RW_leavefirst_k50_walks_by_hand
set_option Elab.async false
section
set_option Elab.async false
set_option linter.all false
/-! LfA: the small language, its values, its own heap, its evaluator (no model in sight). -/
namespace Lf
open PySem (Str)

/-- a value: tuples are trees; what can change is a number into the own heap -/
inductive PV where
  | non | bl (b : Bool) | int (i : Int) | str (x : Str) | tup (xs : List PV) | kl (xs : List PV) | wt (xs : List PV) | ref (n : Nat) | ty (n : String) | fn (i : Nat)
  deriving Inhabited

/-- what stands in the own heap -/
inductive Ob where
  | lst (xs : List PV) | dic (kvs : List (PV × PV)) | set (xs : List PV) | ins (c : Nat) (fs : List (Nat × PV))
  deriving Inhabited

abbrev Hh := List Ob
abbrev En := List (Option PV)

inductive Rs (α : Type) where
  | ok (a : α) (h : Hh) | exc (c : Nat) (fs : List (Nat × PV)) (h : Hh) | bad

def Rs.bind {α β : Type} (m : Rs α) (f : α → Hh → Rs β) : Rs β :=
  match m with
  | .ok a h => f a h
  | .exc c fs h => .exc c fs h
  | .bad => .bad

/-- behind a statement -/
inductive SR where
  | nx (e : En) (h : Hh) | rt (v : PV) (h : Hh) | bk (e : En) (h : Hh) | ct (e : En) (h : Hh) | exc (c : Nat) (fs : List (Nat × PV)) (e : En) (h : Hh) | bad

def Rs.thn {α : Type} (e : En) (m : Rs α) (f : α → Hh → SR) : SR :=
  match m with
  | .ok a h => f a h
  | .exc c fs h => .exc c fs e h
  | .bad => .bad

/-! ### texts by their codes -/
def natsEq : List Nat → List Nat → Bool
  | [], [] => true
  | a :: r, b :: s => Nat.beq a b && natsEq r s
  | [], _ :: _ => false
  | _ :: _, [] => false
theorem natsEq_iff : ∀ {a b : List Nat}, natsEq a b = true ↔ a = b
  | [], [] => by simp [natsEq]
  | [], _ :: _ => by simp [natsEq]
  | _ :: _, [] => by simp [natsEq]
  | a :: r, b :: s => by simp [natsEq, natsEq_iff (a := r) (b := s)]
def strEq (a b : Str) : Bool := natsEq a.cps.toList b.cps.toList
theorem strEq_iff {a b : Str} : strEq a b = true ↔ a = b := by
  unfold strEq
  rw [natsEq_iff]
  constructor
  · intro h
    cases a; cases b
    simp only [PySem.Str.mk.injEq]
    exact Array.toList_inj.mp h
  · rintro rfl; rfl

/-! ### equality of values without objects -/
mutual
/-- no object of the own heap, no def lies within -/
def PV.flat : PV → Bool
  | .non | .bl _ | .int _ | .str _ => true
  | .tup xs => PV.flatAll xs
  | .kl _ => false
  | .wt _ => false
  | .ref _ | .ty _ | .fn _ => false
def PV.flatAll : List PV → Bool
  | [] => true
  | x :: xs => PV.flat x && PV.flatAll xs
end
mutual
/-- Python's == of such values -/
def PV.eq : PV → PV → Bool
  | .non, .non => true
  | .bl a, .bl b => a == b
  | .bl a, .int j => (if a then 1 else 0) == j
  | .int i, .bl b => i == (if b then 1 else 0)
  | .int i, .int j => i == j
  | .str x, .str y => strEq x y
  | .tup xs, .tup ys => PV.eqAll xs ys
  | _, _ => false
def PV.eqAll : List PV → List PV → Bool
  | [], [] => true
  | x :: xs, y :: ys => PV.eq x y && PV.eqAll xs ys
  | _, _ => false
end


/-! ### the language -/
inductive Op where
  | add | sub | mul | mod | fdv | pow | eq | ne | lt | le | gt | ge | isN | isnN | mem | nmem | ix
  deriving DecidableEq
/-- a built-in function, by values -/
inductive Bi where
  | len | tuple | list | set | dict | sorted | sum | all | any | abs | int | str | repr | max1 | min1 | max2 | min2
  deriving DecidableEq
/-- a method of a built-in type -/
inductive Mt where
  | append | extend | insert | pop0 | pop1 | pop2 | get1 | get2 | values | index | count | join | split
  deriving DecidableEq
/-- a built-in type that isinstance is asked of -/
inductive Ty where
  | int | bool | str | tuple
  deriving DecidableEq

inductive PX where
  | nil | cons (e es : PX)
  -- expressions
  | var (i : Nat) | con (v : PV) | tup (es : PX) | lst (es : PX) | dsp (ks vs : PX)
  | op (o : Op) (a b : PX) | neg (a : PX) | not (a : PX) | and (a b : PX) | or (a b : PX) | ite (c a b : PX) | chn (o p : Op) (a b c : PX)
  | sli (a lo hi : PX) | rev (a : PX)
  | cal (f : Nat) (es : PX) | mak (c : Nat) (es : PX) | bi (f : Bi) (es : PX) | mth (m : Mt) (o es : PX) | met (m : Nat) (o es : PX) | att (o : PX) (f : Nat)
  | isa (e : PX) (t : Ty)
  | lc (it tg cd el : PX) (w : List Nat) | dc (it tg k v : PX) (w : List Nat)
  | fst (es : PX)
  -- what is walked
  | itv (e : PX) | ir1 (e : PX) | ir2 (a b : PX) | ien (e : PX) | izp (st : Bool) (a b : PX)
  -- targets
  | tn (i : Nat) | tt (ts : PX) | tsu (o i : PX) | tat (o : PX) (f : Nat)
  -- statements (a block is a list)
  | asg (t e : PX) | par (is : List Nat) (es : PX) | aug (i : Nat) (o : Op) (e : PX) | exp (e : PX) | ret (e : PX) | rtn | iff (c a b : PX) | whl (c b : PX) | fr (it tg b : PX) | brk | cnt | pas
  | rai (c : Nat) (es : PX)
  deriving Inhabited

/-- what is walked -/
inductive Wk where
  | tup (ps : List PV) | kls (ps : List PV) | lst (n : Nat) | rng (lo : Int) (k : Nat) | enm (t : Wk) | zip (a b : Wk) | dic (n : Nat) (ks : List PV)

/-- the item at a turn: none: over; some none: not to be said -/
def Wk.at (h : Hh) (i : Nat) : Wk → Option (Option PV)
  | .tup ps => some ps[i]?
  | .kls ps => some ps[i]?
  | .lst n => match h[n]? with
    | some (.lst ps) => some ps[i]?
    | _ => none
  | .rng lo k => some (if Nat.blt i k then some (.int (lo + (i : Int))) else none)
  | .enm t => match t.at h i with
    | some (some v) => some (some (.wt [.int (i : Int), v]))
    | some none => some none
    | none => none
  | .zip a b => match a.at h i with
    | some (some x) => (match b.at h i with
      | some (some y) => some (some (.wt [x, y]))
      | some none => some none
      | none => none)
    | some none => (match b.at h i with
      | some _ => some none
      | none => none)
    | none => none
  | .dic n ks => match h[n]? with
    | some (.dic kvs) => if Nat.beq kvs.length ks.length then some ks[i]? else none
    | _ => none
/-- no more turns than this -/
def Wk.most (h : Hh) : Wk → Nat
  | .tup ps => ps.length
  | .kls ps => ps.length
  | .lst n => match h[n]? with
    | some (.lst ps) => ps.length
    | _ => 0
  | .rng _ k => k
  | .enm t => t.most h
  | .zip a b => min (a.most h) (b.most h)
  | .dic _ ks => ks.length

def forL (t : Wk) (body : PV → En → Hh → SR) : Nat → Nat → En → Hh → SR
  | 0, i, e, h => match t.at h i with
    | some none => .nx e h
    | _ => .bad
  | k + 1, i, e, h => match t.at h i with
    | some none => .nx e h
    | some (some v) => match body v e h with
      | .nx e h => forL t body k (i + 1) e h
      | .ct e h => forL t body k (i + 1) e h
      | .bk e h => .nx e h
      | .rt v h => .rt v h
      | .exc c fs e h => .exc c fs e h
      | .bad => .bad
    | none => .bad
def whileL (c : En → Hh → Rs Bool) (body : En → Hh → SR) : Nat → En → Hh → SR
  | 0, _, _ => .bad
  | k + 1, e, h => (c e h).thn e fun b h => if b then (match body e h with
      | .nx e h => whileL c body k e h
      | .ct e h => whileL c body k e h
      | .bk e h => .nx e h
      | .rt v h => .rt v h
      | .exc c fs e h => .exc c fs e h
      | .bad => .bad) else .nx e h
/-- the items of a comprehension -/
def lcL (t : Wk) (step : PV → Hh → Rs (Option PV)) : Nat → Nat → Hh → Rs (List PV)
  | 0, i, h => match t.at h i with
    | some none => .ok [] h
    | _ => .bad
  | k + 1, i, h => match t.at h i with
    | some none => .ok [] h
    | some (some v) => (step v h).bind fun o h => (lcL t step k (i + 1) h).bind fun ys h => .ok (match o with
      | some y => y :: ys
      | none => ys) h
    | none => .bad

def szL : Nat := 16777216
def newL (xs : List PV) (h : Hh) : Rs PV := if Nat.ble xs.length szL then .ok (.ref h.length) (h ++ [.lst xs]) else .bad
def newT (xs : List PV) (h : Hh) : Rs PV := if Nat.ble xs.length szL then .ok (.tup xs) h else .bad

def wip (e : En) : List Nat → En
  | [] => e
  | v :: vs => (wip e vs).set v none

/-- what the evaluator asks of others -/
structure Ctx where
  call : Nat → List PV → Hh → Rs PV
  make : Nat → List PV → Hh → Rs PV
  meth : Nat → Nat → List PV → Hh → Rs PV
  op : Op → PV → PV → Hh → Rs PV
  aug : Op → PV → PV → Hh → Rs PV
  bi : Bi → List PV → Hh → Rs PV
  mt : Mt → PV → List PV → Hh → Rs PV
  sli : PV → Option Int → Option Int → Hh → Rs PV
  rev : PV → Hh → Rs PV
  set : PV → PV → PV → Hh → Rs Unit
  fuel : Nat

def asB (m : Rs PV) : Rs Bool := m.bind fun v h => match v with
  | .bl b => .ok b h
  | _ => .bad

def getA (f : Nat) : List (Nat × PV) → Option PV
  | [] => none
  | (g, v) :: r => if Nat.beq f g then some v else getA f r
def putA (f : Nat) (v : PV) : List (Nat × PV) → List (Nat × PV)
  | [] => [(f, v)]
  | (g, u) :: r => if Nat.beq f g then (g, v) :: r else (g, u) :: putA f v r

def isTy : PV → Ty → Option Bool
  | .non, _ => some false
  | .bl _, .int => some true
  | .bl _, .bool => some true
  | .bl _, _ => some false
  | .int _, .int => some true
  | .int _, _ => some false
  | .str _, .str => some true
  | .str _, _ => some false
  | .tup _, .tuple => some true
  | .tup _, _ => some false
  | .kl _, _ => some false
  | .wt _, _ => none
  | .ref _, _ => none
  | .ty _, _ => none
  | .fn _, _ => none


/-! ### what each form does, by what its parts do -/
abbrev FE := En → Hh → Rs PV
abbrev FL := En → Hh → Rs (List PV)
abbrev FI := En → Hh → Rs Wk
abbrev FT := PV → En → Hh → Rs En
abbrev FTs := List PV → En → Hh → Rs En
abbrev FS := En → Hh → SR

def noExc {α : Type} (m : Rs α) : Rs α := match m with
  | .ok a h => .ok a h
  | .exc .. => .bad
  | .bad => .bad
def varC (i : Nat) : FE := fun e h => match e[i]? with
  | some (some v) => .ok v h
  | _ => .bad
def conC (v : PV) : FE := fun _ h => .ok v h
def tupC (es : FL) : FE := fun e h => (es e h).bind newT
def lstC (es : FL) : FE := fun e h => (es e h).bind newL
def opC (op : Op → PV → PV → Hh → Rs PV) (o : Op) (a b : FE) : FE := fun e h => (a e h).bind fun x h => (b e h).bind fun y h => noExc (op o x y h)
def negC (a : FE) : FE := fun e h => (a e h).bind fun x h => match x with
  | .int i => .ok (.int (-i)) h
  | _ => .bad
def notC (a : FE) : FE := fun e h => (asB (a e h)).bind fun b h => .ok (.bl (!b)) h
def andC (a b : FE) : FE := fun e h => (asB (a e h)).bind fun x h => match x with
  | true => (asB (b e h)).bind fun y h => .ok (.bl y) h
  | false => .ok (.bl false) h
def orC (a b : FE) : FE := fun e h => (asB (a e h)).bind fun x h => match x with
  | true => .ok (.bl true) h
  | false => (asB (b e h)).bind fun y h => .ok (.bl y) h
def iteC (c a b : FE) : FE := fun e h => (asB (c e h)).bind fun x h => match x with
  | true => a e h
  | false => b e h
def chnC (op : Op → PV → PV → Hh → Rs PV) (o p : Op) (a b c : FE) : FE := fun e h => (a e h).bind fun x h => (b e h).bind fun y h => (asB (noExc (op o x y h))).bind fun k h => match k with
  | true => (c e h).bind fun z h => (asB (noExc (op p y z h))).bind fun k h => .ok (.bl k) h
  | false => .ok (.bl false) h
abbrev FO := En → Hh → Rs (Option Int)
def noneO : FO := fun _ h => .ok none h
def someO (f : FE) : FO := fun e h => (f e h).bind fun v h => match v with
  | .int i => .ok (some i) h
  | _ => .bad
def sliC (sli : PV → Option Int → Option Int → Hh → Rs PV) (a : FE) (lo hi : FO) : FE := fun e h => (a e h).bind fun x h => (lo e h).bind fun l h => (hi e h).bind fun u h => noExc (sli x l u h)
def un1C (f : PV → Hh → Rs PV) (a : FE) : FE := fun e h => (a e h).bind fun x h => noExc (f x h)
def argC (f : List PV → Hh → Rs PV) (es : FL) : FE := fun e h => (es e h).bind f
def biC (f : List PV → Hh → Rs PV) (es : FL) : FE := fun e h => (es e h).bind fun vs h => noExc (f vs h)
/-- the receiver's type is what the method is of -/
def isLst (h : Hh) (x : PV) : Bool := match x with
  | .ref n => (match h[n]? with
    | some (.lst _) => true
    | _ => false)
  | _ => false
def isDic (h : Hh) (x : PV) : Bool := match x with
  | .ref n => (match h[n]? with
    | some (.dic _) => true
    | _ => false)
  | _ => false
def isStr (x : PV) : Bool := match x with
  | .str _ => true
  | _ => false
def mtTy (m : Mt) (h : Hh) (x : PV) : Bool := match m with
  | .get1 => isDic h x
  | .get2 => isDic h x
  | .values => isDic h x
  | .join => isStr x
  | .split => isStr x
  | _ => isLst h x
def mthC (m : Mt) (f : PV → List PV → Hh → Rs PV) (o : FE) (es : FL) : FE := fun e h => (o e h).bind fun x h => if mtTy m h x then (es e h).bind fun vs h => noExc (f x vs h) else .bad
def clsAt (h : Hh) : PV → Option Nat
  | .ref n => match h[n]? with
    | some (.ins c _) => some c
    | _ => none
  | _ => none
def metC (meth : Nat → Nat → List PV → Hh → Rs PV) (m : Nat) (o : FE) (es : FL) : FE := fun e h => (o e h).bind fun x h => match clsAt h x with
  | some c => (es e h).bind fun vs h => meth c m (x :: vs) h
  | none => .bad
def attV (f : Nat) (x : PV) (h : Hh) : Rs PV := match x with
  | .ref n => match h[n]? with
    | some (.ins _ fs) => match getA f fs with
      | some v => .ok v h
      | none => .bad
    | _ => .bad
  | _ => .bad
def isaV (t : Ty) (x : PV) (h : Hh) : Rs PV := match isTy x t with
  | some b => .ok (.bl b) h
  | none => .bad
/-- a turn of a comprehension -/
def lcStep (tg : FT) (cd el : FE) (e : En) (v : PV) (h : Hh) : Rs (Option PV) := match tg v e h with
  | .ok e2 h => (match asB (cd e2 h) with
    | .ok true h => (match el e2 h with
      | .ok y h => .ok (some y) h
      | .exc .. => .bad
      | .bad => .bad)
    | .ok false h => .ok none h
    | .exc .. => .bad
    | .bad => .bad)
  | .exc .. => .bad
  | .bad => .bad
def lcC (it : FI) (tg : FT) (cd el : FE) (w : List Nat) : FE := fun e h => (noExc (it e h)).bind fun t h => (noExc (lcL t (lcStep tg cd el (wip e w)) (t.most h) 0 h)).bind newL
def nilC : FL := fun _ h => .ok [] h
def consC (a : FE) (es : FL) : FL := fun e h => (a e h).bind fun x h => (es e h).bind fun xs h => .ok (x :: xs) h
def itOf (h : Hh) : PV → Option Wk
  | .tup ps => some (.tup ps)
  | .kl ps => some (.kls ps)
  | .ref n => match h[n]? with
    | some (.lst _) => some (.lst n)
    | _ => none
  | _ => none
/-- within what a range may have -/
def in62 (i : Int) : Bool := Nat.blt i.natAbs 4611686018427387904
def rng1 (vs : List PV) (h : Hh) : Option Wk := match vs with
  | [.int j] => if in62 j then some (.rng 0 j.toNat) else none
  | _ => none
def rng2 (vs : List PV) (h : Hh) : Option Wk := match vs with
  | [.int i, .int j] => if in62 i && in62 j then some (.rng i (j - i).toNat) else none
  | _ => none
/-- what a thing walked is enumerated as, zipped as -/
def enOf (vs : List PV) (h : Hh) : Option Wk := match vs with
  | [x] => (match itOf h x with
    | some (.lst n) => some (.enm (.lst n))
    | _ => none)
  | _ => none
def zpOf (vs : List PV) (h : Hh) : Option Wk := match vs with
  | [x, y] => (match itOf h x, itOf h y with
    | some (.lst n), some (.lst m) => some (.zip (.lst n) (.lst m))
    | some (.tup n), some (.tup m) => some (.zip (.tup n) (.tup m))
    | _, _ => none)
  | _ => none
def okI (m : Option Wk) (h : Hh) : Rs Wk := match m with
  | some t => .ok t h
  | none => .bad
def itvC (a : FE) : FI := fun e h => (a e h).bind fun x h => okI (itOf h x) h
def argI (g : List PV → Hh → Option Wk) (es : FL) : FI := fun e h => (es e h).bind fun vs h => okI (g vs h) h
def tnC (i : Nat) : FT := fun v e h => .ok (e.set i (some v)) h
def ttC (ts : FTs) : FT := fun v e h => match v with
  | .tup ps => ts ps e h
  | .wt ps => ts ps e h
  | _ => .bad
def tsuC (set : PV → PV → PV → Hh → Rs Unit) (o i : FE) : FT := fun v e h => (o e h).bind fun x h => (i e h).bind fun y h => (noExc (set x y v h)).bind fun _ h => .ok e h
def tatC (f : Nat) (o : FE) : FT := fun v e h => (o e h).bind fun x h => match x with
  | .ref n => match h[n]? with
    | some (.ins c fs) => .ok e (h.set n (.ins c (putA f v fs)))
    | _ => .bad
  | _ => .bad
def tnilC : FTs := fun vs e h => match vs with
  | [] => .ok e h
  | _ :: _ => .bad
def tconsC (t : FT) (ts : FTs) : FTs := fun vs e h => match vs with
  | v :: vs => (t v e h).bind fun e h => ts vs e h
  | [] => .bad
def setAll : List Nat → List PV → En → En
  | i :: is, v :: vs, e => setAll is vs (e.set i (some v))
  | [], _, e => e
  | _ :: _, [], e => e
def snilC : FS := fun e h => .nx e h
def seqC (s r : FS) : FS := fun e h => match s e h with
  | .nx e h => r e h
  | .rt v h => .rt v h
  | .bk e h => .bk e h
  | .ct e h => .ct e h
  | .exc c fs e h => .exc c fs e h
  | .bad => .bad
def asgC (t : FT) (a : FE) : FS := fun e h => (a e h).thn e fun v h => (noExc (t v e h)).thn e fun e h => .nx e h
def parC (is : List Nat) (es : FL) : FS := fun e h => (es e h).thn e fun vs h => if Nat.beq vs.length is.length then .nx (setAll is vs e) h else .bad
def augC (op : Op → PV → PV → Hh → Rs PV) (i : Nat) (o : Op) (a : FE) : FS := fun e h => match e[i]? with
  | some (some x) => (a e h).thn e fun y h => (noExc (op o x y h)).thn e fun z h => .nx (e.set i (some z)) h
  | _ => .bad
def expC (a : FE) : FS := fun e h => (a e h).thn e fun _ h => .nx e h
def retC (a : FE) : FS := fun e h => (a e h).thn e fun v h => .rt v h
def rtnC : FS := fun _ h => .rt .non h
def iffC (c : FE) (a b : FS) : FS := fun e h => (asB (c e h)).thn e fun k h => match k with
  | true => a e h
  | false => b e h
def whlC (n : Nat) (c : FE) (b : FS) : FS := fun e h => whileL (fun e h => asB (c e h)) b n e h
def frBody (tg : FT) (b : FS) (v : PV) (e : En) (h : Hh) : SR := (noExc (tg v e h)).thn e fun e h => b e h
def frC (it : FI) (tg : FT) (b : FS) : FS := fun e h => (it e h).thn e fun t h => forL t (frBody tg b) (t.most h) 0 e h
def brkC : FS := fun e h => .bk e h
def cntC : FS := fun e h => .ct e h
def badE : FE := fun _ _ => .bad
def badL : FL := fun _ _ => .bad
def badI : FI := fun _ _ => .bad
def badT : FT := fun _ _ _ => .bad
def badTs : FTs := fun _ _ _ => .bad
def badS : FS := fun _ _ => .bad

/-! ### the evaluator -/
def evO (p : PX) (f : FE) : FO := match p with
  | .nil => noneO
  | _ => someO f
mutual
def evE (C : Ctx) : PX → FE
  | .var i => varC i
  | .con v => conC v
  | .tup es => tupC (evL C es)
  | .lst es => lstC (evL C es)
  | .op o a b => opC C.op o (evE C a) (evE C b)
  | .neg a => negC (evE C a)
  | .not a => notC (evE C a)
  | .and a b => andC (evE C a) (evE C b)
  | .or a b => orC (evE C a) (evE C b)
  | .ite c a b => iteC (evE C c) (evE C a) (evE C b)
  | .chn o p a b c => chnC C.op o p (evE C a) (evE C b) (evE C c)
  | .sli a lo hi => sliC C.sli (evE C a) (evO lo (evE C lo)) (evO hi (evE C hi))
  | .rev a => un1C C.rev (evE C a)
  | .cal f es => argC (C.call f) (evL C es)
  | .mak c es => argC (C.make c) (evL C es)
  | .bi f es => biC (C.bi f) (evL C es)
  | .mth m o es => mthC m (C.mt m) (evE C o) (evL C es)
  | .met m o es => metC C.meth m (evE C o) (evL C es)
  | .att o f => un1C (attV f) (evE C o)
  | .isa a t => un1C (isaV t) (evE C a)
  | .lc it tg cd el w => lcC (evI C it) (evT C tg) (evE C cd) (evE C el) w
  | _ => badE
def evL (C : Ctx) : PX → FL
  | .nil => nilC
  | .cons a es => consC (evE C a) (evL C es)
  | _ => badL
def evI (C : Ctx) : PX → FI
  | .itv a => itvC (evE C a)
  | .ir1 a => argI rng1 (consC (evE C a) nilC)
  | .ir2 a b => argI rng2 (consC (evE C a) (consC (evE C b) nilC))
  | .ien a => argI enOf (consC (evE C a) nilC)
  | .izp false a b => argI zpOf (consC (evE C a) (consC (evE C b) nilC))
  | _ => badI
def evT (C : Ctx) : PX → FT
  | .tn i => tnC i
  | .tt ts => ttC (evTs C ts)
  | .tsu o i => tsuC C.set (evE C o) (evE C i)
  | .tat o f => tatC f (evE C o)
  | _ => badT
def evTs (C : Ctx) : PX → FTs
  | .nil => tnilC
  | .cons t ts => tconsC (evT C t) (evTs C ts)
  | _ => badTs
end
def evS (C : Ctx) : PX → FS
  | .nil => snilC
  | .cons s r => seqC (evS C s) (evS C r)
  | .asg t a => asgC (evT C t) (evE C a)
  | .par is es => parC is (evL C es)
  | .aug i o a => augC C.aug i o (evE C a)
  | .exp a => expC (evE C a)
  | .ret a => retC (evE C a)
  | .rtn => rtnC
  | .iff c a b => iffC (evE C c) (evS C a) (evS C b)
  | .whl c b => whlC C.fuel (evE C c) (evS C b)
  | .fr it tg b => frC (evI C it) (evT C tg) (evS C b)
  | .brk => brkC
  | .cnt => cntC
  | .pas => snilC
  | _ => badS

end Lf

end
section
set_option Elab.async false
set_option linter.all false
/-! LfB: the operations by values; defs by number and depth. -/
namespace Lf
open PySem (Str PyData)

/-! ### values as data -/
def allSome {α : Type} : List (Option α) → Option (List α)
  | [] => some []
  | none :: _ => none
  | some a :: r => match allSome r with
    | some l => some (a :: l)
    | none => none
def dat (h : Hh) : Nat → PV → Option PyData
  | _, .non => some .none
  | _, .bl b => some (.bool b)
  | _, .int i => some (.int i)
  | _, .str x => some (.str x)
  | 0, _ => none
  | n + 1, .tup ps => match allSome (ps.map (dat h n)) with
    | some l => some (.tuple l)
    | none => none
  | n + 1, .kl ps => (match allSome (ps.map (dat h n)) with
    | some l => some (.list l)
    | none => none)
  | _ + 1, .wt _ => none
  | n + 1, .ref k => match h[k]? with
    | some (.lst ps) => (match allSome (ps.map (dat h n)) with
      | some l => some (.list l)
      | none => none)
    | _ => none
  | _ + 1, .ty _ => none
  | _ + 1, .fn _ => none
/-- how deep data may lie -/
def deep : Nat := 64

mutual
/-- PyData.eqv, texts by their codes -/
def eqD : PyData → PyData → Bool
  | .none, .none => true
  | .bool a, .bool b => a == b
  | .bool a, .int j => (if a then 1 else 0) == j
  | .int i, .bool b => i == (if b then 1 else 0)
  | .int i, .int j => i == j
  | .str x, .str y => strEq x y
  | .list xs, .list ys => eqDs xs ys
  | .tuple xs, .tuple ys => eqDs xs ys
  | _, _ => false
def eqDs : List PyData → List PyData → Bool
  | [], [] => true
  | x :: xs, y :: ys => eqD x y && eqDs xs ys
  | _, _ => false
end

/-- the order of texts by their codes -/
def natsLt : List Nat → List Nat → Bool
  | [], [] => false
  | [], _ :: _ => true
  | _ :: _, [] => false
  | a :: r, b :: s => if Nat.beq a b then natsLt r s else Nat.blt a b
mutual
/-- the two can be compared, place by place -/
def alike : PyData → PyData → Bool
  | .none, .none => true
  | .bool _, .bool _ => true
  | .int _, .int _ => true
  | .str _, .str _ => true
  | .list xs, .list ys => alikes xs ys
  | .tuple xs, .tuple ys => alikes xs ys
  | _, _ => false
def alikes : List PyData → List PyData → Bool
  | x :: xs, y :: ys => alike x y && alikes xs ys
  | [], _ => true
  | _ :: _, [] => true
end
mutual
/-- x < y of alike data -/
def ltD : PyData → PyData → Bool
  | .bool a, .bool b => !a && b
  | .int i, .int j => decide (i < j)
  | .str x, .str y => natsLt x.cps.toList y.cps.toList
  | .list xs, .list ys => ltDs xs ys
  | .tuple xs, .tuple ys => ltDs xs ys
  | _, _ => false
def ltDs : List PyData → List PyData → Bool
  | [], [] => false
  | [], _ :: _ => true
  | _ :: _, [] => false
  | x :: xs, y :: ys => if eqD x y then ltDs xs ys else ltD x y
end

def eqP (h : Hh) (x y : PV) : Option Bool := match dat h deep x, dat h deep y with
  | some a, some b => some (eqD a b)
  | _, _ => none

def ixP (i : Int) (n : Nat) : Option Nat := match i with
  | .ofNat k => if Nat.blt k n then some k else none
  | .negSucc k => if Nat.blt k n then some (n - (k + 1)) else none

/-- the slice's ends -/
def sliEnd (n : Nat) (d : Nat) : Option Int → Nat
  | none => d
  | some (.ofNat k) => if Nat.ble k n then k else n
  | some (.negSucc k) => n - (k + 1)
def cut (xs : List PV) (a b : Nat) : List PV := (xs.drop a).take (b - a)

def okB (m : Option Bool) (h : Hh) : Rs PV := match m with
  | some b => .ok (.bl b) h
  | none => .bad

def anyD (d : PyData) : List PyData → Bool
  | [] => false
  | y :: r => eqD y d || anyD d r
def memV (h : Hh) (x : PV) (ps : List PV) : Option Bool := match dat h deep x, allSome (ps.map (dat h deep)) with
  | some d, some l => some (anyD d l)
  | _, _ => none

mutual
/-- how deep a key's tuples lie -/
def PV.dp : PV → Nat
  | .tup ps => PV.dps ps + 1
  | .non => 0
  | .bl _ => 0
  | .int _ => 0
  | .str _ => 0
  | .kl _ => 0
  | .wt _ => 0
  | .ref _ => 0
  | .ty _ => 0
  | .fn _ => 0
def PV.dps : List PV → Nat
  | [] => 0
  | p :: ps => max (PV.dp p) (PV.dps ps)
end
/-- what may be a dict's key -/
def keyOk (p : PV) : Bool := p.flat && Nat.ble p.dp 8
def findK (k : PV) : List (PV × PV) → Option PV
  | [] => none
  | (j, v) :: r => if PV.eq j k then some v else findK k r
def putK (k v : PV) : List (PV × PV) → List (PV × PV)
  | [] => [(k, v)]
  | (j, u) :: r => if PV.eq j k then (j, v) :: r else (j, u) :: putK k v r
/-- pairs, as a dict's entries -/
def pairsK : List PV → Option (List (PV × PV))
  | [] => some []
  | .tup [k, v] :: r => (match pairsK r with
    | some l => if keyOk k then some ((k, v) :: l) else none
    | none => none)
  | _ => none
def putsK : List (PV × PV) → List (PV × PV) → List (PV × PV)
  | [], acc => acc
  | (k, v) :: r, acc => putsK r (putK k v acc)

def big64 : Nat := 18446744073709551616
/-- +, - and so on, of ints -/
def addV (x y : PV) (h : Hh) : Rs PV := match x, y with
  | .int i, .int j => .ok (.int (i + j)) h
  | .str a, .str b => if Nat.ble (a.length + b.length) szL then .ok (.str (a ++ b)) h else .bad
  | .tup a, .tup b => newT (a ++ b) h
  | .ref n, .ref m => (match h[n]? with
    | some (.lst a) => (match h[m]? with
      | some (.lst b) => newL (a ++ b) h
      | _ => .bad)
    | _ => .bad)
  | _, _ => .bad
def subV (x y : PV) (h : Hh) : Rs PV := match x, y with
  | .int i, .int j => .ok (.int (i - j)) h
  | _, _ => .bad
def mulV (x y : PV) (h : Hh) : Rs PV := match x, y with
  | .int i, .int j => if Nat.blt i.natAbs big64 || Nat.blt j.natAbs big64 then .ok (.int (i * j)) h else .bad
  | .tup a, .int (.ofNat k) => if Nat.ble a.length 1000 && Nat.ble k 1000 then .ok (.tup (List.replicate k a).flatten) h else .bad
  | .ref n, .int (.ofNat k) => (match h[n]? with
    | some (.lst a) => if Nat.ble a.length 1000 && Nat.ble k 1000 then newL (List.replicate k a).flatten h else .bad
    | _ => .bad)
  | _, _ => .bad
def modV (x y : PV) (h : Hh) : Rs PV := match x, y with
  | .int i, .int (.ofNat (j + 1)) => .ok (.int (i % ((j + 1 : Nat) : Int))) h
  | _, _ => .bad
def fdvV (x y : PV) (h : Hh) : Rs PV := match x, y with
  | .int i, .int (.ofNat (j + 1)) => if Nat.blt (j + 1) 1073741824 then .ok (.int (i / ((j + 1 : Nat) : Int))) h else .bad
  | _, _ => .bad
def powV (x y : PV) (h : Hh) : Rs PV := match x, y with
  | .int i, .int (.ofNat j) => if Nat.blt i.natAbs big64 && Nat.ble j 1000 then .ok (.int (i ^ j)) h else .bad
  | _, _ => .bad
/-- an order of data -/
def ordV (f : PyData → PyData → Bool) (x y : PV) (h : Hh) : Rs PV := match dat h deep x, dat h deep y with
  | some a, some b => (match a with
    | .none => .bad
    | _ => if alike a b then .ok (.bl (f a b)) h else .bad)
  | _, _ => .bad
def ltV (x y : PV) (h : Hh) : Rs PV := match x, y with
  | .int i, .int j => .ok (.bl (decide (i < j))) h
  | _, _ => ordV ltD x y h
def leV (x y : PV) (h : Hh) : Rs PV := match x, y with
  | .int i, .int j => .ok (.bl (decide (i ≤ j))) h
  | _, _ => ordV (fun a b => !ltD b a) x y h
def gtV (x y : PV) (h : Hh) : Rs PV := match x, y with
  | .int i, .int j => .ok (.bl (decide (j < i))) h
  | _, _ => ordV (fun a b => ltD b a) x y h
def geV (x y : PV) (h : Hh) : Rs PV := match x, y with
  | .int i, .int j => .ok (.bl (decide (j ≤ i))) h
  | _, _ => ordV (fun a b => !ltD a b) x y h
def isNon : PV → Bool
  | .non => true
  | _ => false
def isV (x y : PV) (h : Hh) : Rs PV := match x, y with
  | _, .non => .ok (.bl (isNon x)) h
  | .bl a, .bl b => .ok (.bl (a == b)) h
  | _, _ => .bad
def isnV (x y : PV) (h : Hh) : Rs PV := match x, y with
  | _, .non => .ok (.bl (!isNon x)) h
  | .bl a, .bl b => .ok (.bl (!(a == b))) h
  | _, _ => .bad
def inV1 (x y : PV) (h : Hh) : Option Bool := match y with
  | .tup ps => memV h x ps
  | .kl ps => memV h x ps
  | .ref n => (match h[n]? with
    | some (.lst ps) => memV h x ps
    | some (.dic kvs) => none
    | _ => none)
  | _ => none
def itemV (ps : List PV) (y : PV) (h : Hh) : Rs PV := match y with
  | .int i => (match ixP i ps.length with
    | some k => (match ps[k]? with
      | some v => .ok v h
      | none => .bad)
    | none => .bad)
  | _ => .bad
def ixV (x y : PV) (h : Hh) : Rs PV := match x with
  | .tup ps => itemV ps y h
  | .kl ps => itemV ps y h
  | .ref n => (match h[n]? with
    | some (.lst ps) => itemV ps y h
    | some (.dic kvs) => .bad
    | _ => .bad)
  | _ => .bad
def op1 (o : Op) : PV → PV → Hh → Rs PV := match o with
  | .add => addV
  | .sub => subV
  | .mul => mulV
  | .mod => modV
  | .fdv => fdvV
  | .pow => powV
  | .eq => fun x y h => okB (eqP h x y) h
  | .ne => fun x y h => okB ((eqP h x y).map (!·)) h
  | .lt => ltV
  | .le => leV
  | .gt => gtV
  | .ge => geV
  | .isN => isV
  | .isnN => isnV
  | .mem => fun x y h => okB (inV1 x y h) h
  | .nmem => fun x y h => okB ((inV1 x y h).map (!·)) h
  | .ix => ixV

/-- a op= b -/
def augAdd (x y : PV) (h : Hh) : Rs PV := match x, y with
  | .int i, .int j => .ok (.int (i + j)) h
  | _, _ => .bad
def augSub (x y : PV) (h : Hh) : Rs PV := match x, y with
  | .int i, .int j => .ok (.int (i - j)) h
  | _, _ => .bad
def noOp : PV → PV → Hh → Rs PV := fun _ _ _ => .bad
def aug1 (o : Op) : PV → PV → Hh → Rs PV := match o with
  | .add => augAdd
  | .sub => augSub
  | _ => noOp
def newD (kvs : List (PV × PV)) (h : Hh) : Rs PV := .ok (.ref h.length) (h ++ [.dic kvs])
/-- dict(pairs) -/
def dictV1 (ps : List PV) (h : Hh) : Rs PV := if Nat.ble ps.length szL then (match pairsK ps with
  | some l => newD (putsK l []) h
  | none => .bad) else .bad
def dictV (x : PV) (h : Hh) : Rs PV := match x with
  | .tup ps => dictV1 ps h
  | .ref n => (match h[n]? with
    | some (.lst ps) => dictV1 ps h
    | _ => .bad)
  | _ => .bad
def dicAt (h : Hh) (x : PV) : Option (Nat × List (PV × PV)) := match x with
  | .ref n => (match h[n]? with
    | some (.dic kvs) => some (n, kvs)
    | _ => none)
  | _ => none
def get1V (x k : PV) (h : Hh) : Rs PV := match dicAt h x with
  | some (_, kvs) => if keyOk k then (match findK k kvs with
    | some v => .ok v h
    | none => .ok .non h) else .bad
  | none => .bad
def get2V (x k d : PV) (h : Hh) : Rs PV := match dicAt h x with
  | some (_, kvs) => if keyOk k then (match findK k kvs with
    | some v => .ok v h
    | none => .ok d h) else .bad
  | none => .bad
def lenV (h : Hh) : PV → Option Nat
  | .tup ps => some ps.length
  | .kl ps => some ps.length
  | .str x => if Nat.ble x.length szL then some x.length else none
  | .ref n => (match h[n]? with
    | some (.lst ps) => some ps.length
    | _ => none)
  | _ => none

def tupleV (x : PV) (h : Hh) : Rs PV := match x with
  | .tup ps => .ok (.tup ps) h
  | .kl ps => .ok (.tup ps) h
  | .ref n => (match h[n]? with
    | some (.lst ps) => .ok (.tup ps) h
    | _ => .bad)
  | _ => .bad
def listV (x : PV) (h : Hh) : Rs PV := match x with
  | .tup ps => newL ps h
  | .kl ps => newL ps h
  | .ref n => (match h[n]? with
    | some (.lst ps) => newL ps h
    | _ => .bad)
  | _ => .bad
def intV (x : PV) (h : Hh) : Rs PV := match x with
  | .int i => .ok (.int i) h
  | .bl b => .ok (.int (if b then 1 else 0)) h
  | _ => .bad
def lenVV (x : PV) (h : Hh) : Rs PV := match lenV h x with
  | some n => .ok (.int (n : Int)) h
  | none => .bad
def absV1 (x : PV) (h : Hh) : Rs PV := match x with
  | .int i => .ok (.int (i.natAbs : Int)) h
  | _ => .bad
def maxV (x y : PV) (h : Hh) : Rs PV := match x, y with
  | .int i, .int j => .ok (.int (if decide (i < j) then j else i)) h
  | _, _ => .bad
def minV (x y : PV) (h : Hh) : Rs PV := match x, y with
  | .int i, .int j => .ok (.int (if decide (j < i) then j else i)) h
  | _, _ => .bad
def on1 (f : PV → Hh → Rs PV) (vs : List PV) (h : Hh) : Rs PV := match vs with
  | [x] => f x h
  | _ => .bad
def on2 (f : PV → PV → Hh → Rs PV) (vs : List PV) (h : Hh) : Rs PV := match vs with
  | [x, y] => f x y h
  | _ => .bad
def noBi : List PV → Hh → Rs PV := fun _ _ => .bad
def bi1 (f : Bi) : List PV → Hh → Rs PV := match f with
  | .len => on1 lenVV
  | .tuple => on1 tupleV
  | .list => on1 listV
  | .dict => on1 dictV
  | .int => on1 intV
  | .abs => on1 absV1
  | .max2 => on2 maxV
  | .min2 => on2 minV
  | _ => noBi
def appendV (x v : PV) (h : Hh) : Rs PV := match x with
  | .ref n => (match h[n]? with
    | some (.lst ps) => if Nat.blt ps.length szL then .ok .non (h.set n (.lst (ps ++ [v]))) else .bad
    | _ => .bad)
  | _ => .bad
def mon1 (f : PV → PV → Hh → Rs PV) (x : PV) (vs : List PV) (h : Hh) : Rs PV := match vs with
  | [v] => f x v h
  | _ => .bad
def mon2 (f : PV → PV → PV → Hh → Rs PV) (x : PV) (vs : List PV) (h : Hh) : Rs PV := match vs with
  | [v, w] => f x v w h
  | _ => .bad
def noMt : PV → List PV → Hh → Rs PV := fun _ _ _ => .bad
def mt1 (m : Mt) : PV → List PV → Hh → Rs PV := match m with
  | .append => mon1 appendV
  | .get1 => mon1 get1V
  | .get2 => mon2 get2V
  | _ => noMt
def cutP (ps : List PV) (l u : Option Int) : List PV := cut ps (sliEnd ps.length 0 l) (sliEnd ps.length ps.length u)
def sli1 (x : PV) (l u : Option Int) (h : Hh) : Rs PV := match x with
  | .tup ps => .ok (.tup (cutP ps l u)) h
  | .kl ps => newL (cutP ps l u) h
  | .ref n => (match h[n]? with
    | some (.lst ps) => newL (cutP ps l u) h
    | _ => .bad)
  | _ => .bad
def rev1 (x : PV) (h : Hh) : Rs PV := .bad
def set1 (x i v : PV) (h : Hh) : Rs Unit := match x with
  | .ref n => (match h[n]? with
    | some (.lst ps) => (match i with
      | .int j => (match ixP j ps.length with
        | some k => .ok () (h.set n (.lst (ps.set k v)))
        | none => .bad)
      | _ => .bad)
    | _ => .bad)
  | _ => .bad

/-! ### defs -/
structure Fn where
  np : Nat
  ns : Nat
  body : Ctx → En → Hh → SR
/-- the program: defs by number; a class's __init__; a class's methods -/
structure Prog where
  fn : Nat → Option Fn
  init : Nat → Option Nat
  meth : Nat → Nat → Option Nat

def noCall : Nat → List PV → Hh → Rs PV := fun _ _ _ => .bad
def mkCtx (P : Prog) (call call' : Nat → List PV → Hh → Rs PV) : Ctx where
  call := call
  make := fun c vs h => match P.init c with
    | some f => (call' f (.ref h.length :: vs) (h ++ [.ins c []])).bind fun v h' => match v with
      | .non => .ok (.ref h.length) h'
      | _ => .bad
    | none => .bad
  meth := fun c m vs h => match P.meth c m with
    | some f => call f vs h
    | none => .bad
  op := op1
  aug := aug1
  bi := bi1
  mt := mt1
  sli := sli1
  rev := rev1
  set := set1
  fuel := 1000000000

def startE (ns : Nat) (vs : List PV) : En := vs.map some ++ List.replicate (ns - vs.length) none
def runFn (C : Ctx) (F : Fn) (vs : List PV) (h : Hh) : Rs PV :=
  if Nat.beq vs.length F.np then (match F.body C (startE F.ns vs) h with
    | .nx _ h => .ok .non h
    | .rt v h => .ok v h
    | .exc c fs _ h => .exc c fs h
    | _ => .bad) else .bad
mutual
/-- nothing of the own heap lies within -/
def PV.pure : PV → Bool
  | .non => true
  | .bl _ => true
  | .int _ => true
  | .str _ => true
  | .tup xs => PV.pures xs
  | .kl xs => PV.pures xs
  | .wt xs => PV.pures xs
  | .ref _ => false
  | .ty _ => true
  | .fn _ => true
def PV.pures : List PV → Bool
  | [] => true
  | x :: xs => PV.pure x && PV.pures xs
end
/-- a call that neither takes nor gives anything of the own heap runs on an empty one -/
def pureCall (g : List PV → Hh → Rs PV) (vs : List PV) (h : Hh) : Rs PV := match h with
  | [] => g vs []
  | _ :: _ => if PV.pures vs then (match g vs [] with
    | .ok v _ => if v.pure then .ok v h else g vs h
    | .exc _ _ _ => g vs h
    | .bad => .bad) else g vs h
/-- the def's call at a depth -/
def callN (P : Prog) : Nat → Nat → List PV → Hh → Rs PV
  | 0 => noCall
  | 1 => fun f => match P.fn f with
    | some F => pureCall (runFn (mkCtx P noCall noCall) F)
    | none => fun _ _ => .bad
  | d + 2 => fun f => match P.fn f with
    | some F => pureCall (runFn (mkCtx P (callN P (d + 1)) (callN P d)) F)
    | none => fun _ _ => .bad
end Lf

end
section
set_option Elab.async false
set_option linter.all false
set_option maxRecDepth 100000
set_option autoImplicit false
/-! LfS: steps of the small language, symbolically. -/
namespace Lf
open PySem (Str PyData)
section
variable {C : Ctx} {e e' : En} {h h' : Hh} {f g : FS} {a b : FE} {v w : PV}
theorem seq_nx (hf : f e h = .nx e' h') : seqC f g e h = g e' h' := by simp [seqC, hf]
theorem seq_rt (hf : f e h = .rt v h') : seqC f g e h = .rt v h' := by simp [seqC, hf]
theorem seq_assoc {f g k : FS} : seqC (seqC f g) k = seqC f (seqC g k) := by
  funext e h
  unfold seqC
  cases f e h <;> rfl
theorem seq_nil {g : FS} : seqC snilC g = g := rfl
/-- a def's value by how its body ends -/
def srV : SR → Rs PV
  | .nx _ h => .ok .non h
  | .rt v h => .ok v h
  | .exc c fs _ h => .exc c fs h
  | _ => .bad
theorem run_srV {F : Fn} {vs : List PV} (hl : Nat.beq vs.length F.np = true) : runFn C F vs h = srV (F.body C (startE F.ns vs) h) := by
  unfold runFn
  rw [if_pos hl]
  rfl
/-- what a run's end holds, by place -/
def gE (r : SR) (i : Nat) : Option PV := match r with
  | .nx e _ => (match e[i]? with
    | some x => x
    | none => none)
  | _ => none
def gO (r : SR) (i : Nat) : Ob := match r with
  | .nx _ h => (match h[i]? with
    | some x => x
    | none => .lst [])
  | _ => .lst []
def isRT : SR → Bool
  | .rt (.bl true) _ => true
  | _ => false
theorem isRT_ok {r : SR} (h : isRT r = true) : ∃ g, r = .rt (.bl true) g := by
  unfold isRT at h
  split at h
  · exact ⟨_, rfl⟩
  · cases h
theorem asg_tn {i : Nat} (ha : a e h = .ok v h') : asgC (tnC i) a e h = .nx (e.set i (some v)) h' := by simp [asgC, ha, Rs.thn, noExc, tnC]
theorem ret_ok (ha : a e h = .ok v h') : retC a e h = .rt v h' := by simp [retC, ha, Rs.thn]
theorem nil_ok : nilC e h = .ok [] h := rfl
theorem cons_ok {es : FL} {vs : List PV} {h1 h2 : Hh} (ha : a e h = .ok v h1) (hs : es e h1 = .ok vs h2) : consC a es e h = .ok (v :: vs) h2 := by simp [consC, ha, hs, Rs.bind]
theorem arg_ok {k : List PV → Hh → Rs PV} {es : FL} {vs : List PV} {h1 h2 : Hh} (hs : es e h = .ok vs h1) (hk : k vs h1 = .ok v h2) : argC k es e h = .ok v h2 := by simp [argC, hs, hk, Rs.bind]
theorem tup_ok {es : FL} {vs : List PV} {h1 : Hh} (hs : es e h = .ok vs h1) (hl : Nat.ble vs.length szL = true) : tupC es e h = .ok (.tup vs) h1 := by simp [tupC, hs, Rs.bind, newT, hl]
theorem asg_ok {t : FT} {h1 h2 : Hh} (ha : a e h = .ok v h1) (ht : t v e h1 = .ok e' h2) : asgC t a e h = .nx e' h2 := by simp [asgC, ha, ht, Rs.thn, noExc]
theorem exp_ok (ha : a e h = .ok v h') : expC a e h = .nx e h' := by simp [expC, ha, Rs.thn]
theorem iff_t {c : FE} (hc : c e h = .ok (.bl true) h') : iffC c f g e h = f e h' := by simp [iffC, hc, asB, Rs.bind, Rs.thn]
theorem iff_f {c : FE} (hc : c e h = .ok (.bl false) h') : iffC c f g e h = g e h' := by simp [iffC, hc, asB, Rs.bind, Rs.thn]
theorem op_ok {op : Op → PV → PV → Hh → Rs PV} {o : Op} {h1 h2 h3 : Hh} {r : PV} (ha : a e h = .ok v h1) (hb : b e h1 = .ok w h2) (ho : op o v w h2 = .ok r h3) : opC op o a b e h = .ok r h3 := by simp [opC, ha, hb, ho, Rs.bind, noExc]
theorem bi_ok1 {k : List PV → Hh → Rs PV} {h1 h2 : Hh} {r : PV} (ha : a e h = .ok v h1) (hk : k [v] h1 = .ok r h2) : biC k (consC a nilC) e h = .ok r h2 := by simp [biC, consC, nilC, ha, hk, Rs.bind, noExc]
theorem var_ok {i : Nat} (hi : e[i]? = some (some v)) : varC i e h = .ok v h := by simp [varC, hi]
theorem con_ok : conC v e h = .ok v h := rfl
theorem tsu_ok {set : PV → PV → PV → Hh → Rs Unit} {x y : PV} {h1 h2 h3 h4 : Hh} {c : FE} (hc : c e h = .ok v h1) (ha : a e h1 = .ok x h2) (hb : b e h2 = .ok y h3) (hs : set x y v h3 = .ok () h4) : asgC (tsuC set a b) c e h = .nx e h4 := by simp [asgC, tsuC, hc, ha, hb, hs, Rs.thn, Rs.bind, noExc]
end
theorem ix_lst {h : Hh} {n : Nat} {ps : List PV} {i : Int} {k : Nat} {v : PV} (hn : h[n]? = some (.lst ps)) (hi : ixP i ps.length = some k) (hv : ps[k]? = some v) : ixV (.ref n) (.int i) h = .ok v h := by simp [ixV, itemV, hn, hi, hv]
theorem mod_pos {i j : Int} {h : Hh} (hj : 0 < j) : modV (.int i) (.int j) h = .ok (.int (i % j)) h := by
  cases j with
  | ofNat k =>
    cases k with
    | zero => exact absurd hj (by decide)
    | succ k => rfl
  | negSucc k => exact absurd hj (by omega)
theorem fdv_pos {i j : Int} {h : Hh} (hj : 0 < j) (hl : j < 1073741824) : fdvV (.int i) (.int j) h = .ok (.int (i / j)) h := by
  cases j with
  | ofNat k =>
    cases k with
    | zero => exact absurd hj (by decide)
    | succ k =>
      have : Nat.blt (k + 1) 1073741824 = true := by
        have hl' : ((k + 1 : Nat) : Int) < 1073741824 := hl
        have : k + 1 < 1073741824 := by omega
        exact Nat.ble_eq_true_of_le this
      simp [fdvV, this]
  | negSucc k => exact absurd hj (by omega)
theorem mul_ok {i j : Int} {h : Hh} (hb : i.natAbs < big64 ∨ j.natAbs < big64) : mulV (.int i) (.int j) h = .ok (.int (i * j)) h := by
  have e : (Nat.blt i.natAbs big64 || Nat.blt j.natAbs big64) = true := by
    rw [Bool.or_eq_true]
    rcases hb with hb | hb
    · exact .inl (Nat.ble_eq_true_of_le hb)
    · exact .inr (Nat.ble_eq_true_of_le hb)
  simp [mulV, e]
theorem dat_ints {h : Hh} {n : Nat} : ∀ ns : List Int, allSome ((ns.map PV.int).map (dat h n)) = some (ns.map PyData.int)
  | [] => rfl
  | i :: ns => by
    have ih := dat_ints (h := h) (n := n) ns
    simp only [List.map_cons] at ih ⊢
    have e : dat h n (PV.int i) = some (PyData.int i) := by cases n <;> rfl
    simp only [allSome, e, ih]
end Lf

end
section
set_option Elab.async false
set_option linter.all false
set_option maxRecDepth 100000
set_option maxHeartbeats 1000000
set_option autoImplicit false
/-! LfW: the pen that all laws share: cells, fresh numbers, draws. -/
namespace Lf
open PySem (Str PyData)
abbrev cP : Int := 2305843009213693951
/-- one turn of the fresh number -/
def turnS (C : Ctx) : FS := (seqC (asgC (tnC 4) (opC C.op .mod (biC (C.bi .int) (consC (opC C.op .add (opC C.op .add (opC C.op .mul (varC 4) (varC 4)) (opC C.op .mul (opC C.op .mul (conC (.int 69621)) (opC C.op .add (varC 6) (conC (.int 1)))) (opC C.op .add (varC 1) (conC (.int 1))))) (varC 2)) nilC)) (varC 3))) (seqC (asgC (tnC 5) (opC C.op .add (opC C.op .mul (varC 5) (varC 3)) (varC 4))) snilC))
section
variable {P : Prog} {c c' : Nat → List PV → Hh → Rs PV}
theorem small_p {i : Int} : (i % cP).natAbs < big64 := by
  show (i % (2305843009213693951 : Int)).natAbs < 18446744073709551616
  omega
/-- a turn -/
theorem turn_ok {at_ cell st fo : Int} {x0 : Option PV} {h : Hh} {k : Int} (hs : st.natAbs < big64) (hk : k.natAbs < 10) :
    ∃ st' fo', turnS (mkCtx P c c') [x0, some (.int at_), some (.int cell), some (.int cP), some (.int st), some (.int fo), some (.int k)] h = .nx [x0, some (.int at_), some (.int cell), some (.int cP), some (.int st'), some (.int fo'), some (.int k)] h ∧ st'.natAbs < big64 := by
  have m1 : mulV (.int st) (.int st) h = .ok (.int (st * st)) h := mul_ok (.inl hs)
  have m2 : mulV (.int 69621) (.int (k + 1)) h = .ok (.int (69621 * (k + 1))) h := mul_ok (.inl (by decide))
  have m3 : mulV (.int (69621 * (k + 1))) (.int (at_ + 1)) h = .ok (.int (69621 * (k + 1) * (at_ + 1))) h := mul_ok (.inl (by have e2 : big64 = 18446744073709551616 := rfl; rw [e2]; omega))
  have m4 : modV (.int (st * st + 69621 * (k + 1) * (at_ + 1) + cell)) (.int cP) h = .ok (.int ((st * st + 69621 * (k + 1) * (at_ + 1) + cell) % cP)) h := mod_pos (by decide)
  have m5 : mulV (.int fo) (.int cP) h = .ok (.int (fo * cP)) h := mul_ok (.inr (by decide))
  refine ⟨(st * st + 69621 * (k + 1) * (at_ + 1) + cell) % cP, fo * cP + (st * st + 69621 * (k + 1) * (at_ + 1) + cell) % cP, ?_, small_p⟩
  unfold turnS
  rw [seq_nx (h' := h) (asg_tn (v := .int ((st * st + 69621 * (k + 1) * (at_ + 1) + cell) % cP)) (op_ok (h1 := h) (h2 := h) (h3 := h) (v := .int (st * st + 69621 * (k + 1) * (at_ + 1) + cell)) (w := .int cP) (bi_ok1 (h1 := h) (v := .int (st * st + 69621 * (k + 1) * (at_ + 1) + cell))
    (op_ok (h1 := h) (h2 := h) (v := .int (st * st + 69621 * (k + 1) * (at_ + 1))) (w := .int cell) (op_ok (h1 := h) (h2 := h) (v := .int (st * st)) (w := .int (69621 * (k + 1) * (at_ + 1))) (op_ok (h1 := h) (h2 := h) (v := .int st) (w := .int st) (var_ok rfl) (var_ok rfl) m1)
      (op_ok (h1 := h) (h2 := h) (v := .int (69621 * (k + 1))) (w := .int (at_ + 1)) (op_ok (h1 := h) (h2 := h) (v := .int 69621) (w := .int (k + 1)) con_ok (op_ok (h1 := h) (h2 := h) (v := .int k) (w := .int 1) (var_ok rfl) con_ok rfl) m2) (op_ok (h1 := h) (h2 := h) (v := .int at_) (w := .int 1) (var_ok rfl) con_ok rfl) m3) rfl) (var_ok rfl) rfl) rfl) (var_ok rfl) m4))]
  rw [seq_nx (h' := h) (asg_tn (v := .int (fo * cP + (st * st + 69621 * (k + 1) * (at_ + 1) + cell) % cP)) (op_ok (h1 := h) (h2 := h) (v := .int (fo * cP)) (w := .int ((st * st + 69621 * (k + 1) * (at_ + 1) + cell) % cP)) (op_ok (h1 := h) (h2 := h) (v := .int fo) (w := .int cP) (var_ok rfl) (var_ok rfl) m5) (var_ok rfl) rfl))]
  rfl
/-- all turns -/
theorem turns_ok {at_ cell : Int} {x0 : Option PV} {h : Hh} : ∀ (k i : Nat) (st fo : Int) (x6 : Option PV), i + k = 6 → st.natAbs < big64 →
    ∃ st' fo' x6', forL (.rng 0 6) (frBody (tnC 6) (turnS (mkCtx P c c'))) k i [x0, some (.int at_), some (.int cell), some (.int cP), some (.int st), some (.int fo), x6] h = .nx [x0, some (.int at_), some (.int cell), some (.int cP), some (.int st'), some (.int fo'), x6'] h
  | 0, i, st, fo, x6, hi, hs => by
    have e : i = 6 := by omega
    subst e
    exact ⟨st, fo, x6, rfl⟩
  | k + 1, i, st, fo, x6, hi, hs => by
    have hlt : Nat.blt i 6 = true := Nat.ble_eq_true_of_le (by omega)
    obtain ⟨st1, fo1, e1, hs1⟩ := turn_ok (P := P) (c := c) (c' := c') (at_ := at_) (cell := cell) (st := st) (fo := fo) (x0 := x0) (h := h) (k := 0 + (i : Int)) hs (by omega)
    obtain ⟨st2, fo2, x2, e2⟩ := turns_ok k (i + 1) st1 fo1 (some (.int (0 + (i : Int)))) (by omega) hs1
    refine ⟨st2, fo2, x2, ?_⟩
    unfold forL
    simp only [Wk.at, hlt, if_true]
    have eb : frBody (tnC 6) (turnS (mkCtx P c c')) (.int (0 + (i : Int))) [x0, some (.int at_), some (.int cell), some (.int cP), some (.int st), some (.int fo), x6] h = .nx [x0, some (.int at_), some (.int cell), some (.int cP), some (.int st1), some (.int fo1), some (.int (0 + (i : Int)))] h := by
      unfold frBody tnC
      exact e1
    rw [eb]
    exact e2
/-- behind the drawn cell -/
def restS (C : Ctx) : FS := (seqC (asgC (tnC 3) (conC (.int 2305843009213693951))) (seqC (asgC (tnC 4) (opC C.op .mod (biC (C.bi .int) (consC (opC C.op .add (opC C.op .add (opC C.op .mul (varC 2) (conC (.int 48271))) (opC C.op .mul (conC (.int 40692)) (varC 1))) (conC (.int 31))) nilC)) (varC 3))) (seqC (asgC (tnC 5) (varC 4)) (seqC (frC (argI rng1 (consC (conC (.int 6)) nilC)) (tnC 6) (turnS C)) (seqC (retC (varC 5)) snilC)))))
theorem rest_ok {at_ cell : Int} {x0 : Option PV} {h : Hh} : ∃ v, restS (mkCtx P c c') [x0, some (.int at_), some (.int cell), none, none, none, none] h = .rt (.int v) h := by
  have m1 : mulV (.int cell) (.int 48271) h = .ok (.int (cell * 48271)) h := mul_ok (.inr (by decide))
  have m2 : mulV (.int 40692) (.int at_) h = .ok (.int (40692 * at_)) h := mul_ok (.inl (by decide))
  have m3 : modV (.int (cell * 48271 + 40692 * at_ + 31)) (.int cP) h = .ok (.int ((cell * 48271 + 40692 * at_ + 31) % cP)) h := mod_pos (by decide)
  obtain ⟨st, fo, x6, e⟩ := turns_ok (P := P) (c := c) (c' := c') (at_ := at_) (cell := cell) (x0 := x0) (h := h) 6 0 ((cell * 48271 + 40692 * at_ + 31) % cP) ((cell * 48271 + 40692 * at_ + 31) % cP) none rfl small_p
  refine ⟨fo, ?_⟩
  unfold restS
  refine (seq_nx (h' := h) (asg_tn (v := .int cP) con_ok)).trans ?_
  rw [seq_nx (h' := h) (asg_tn (v := .int ((cell * 48271 + 40692 * at_ + 31) % cP)) (op_ok (h1 := h) (h2 := h) (v := .int (cell * 48271 + 40692 * at_ + 31)) (w := .int cP) (bi_ok1 (h1 := h) (v := .int (cell * 48271 + 40692 * at_ + 31))
    (op_ok (h1 := h) (h2 := h) (v := .int (cell * 48271 + 40692 * at_)) (w := .int 31) (op_ok (h1 := h) (h2 := h) (v := .int (cell * 48271)) (w := .int (40692 * at_)) (op_ok (h1 := h) (h2 := h) (v := .int cell) (w := .int 48271) (var_ok rfl) con_ok m1) (op_ok (h1 := h) (h2 := h) (v := .int 40692) (w := .int at_) con_ok (var_ok rfl) m2) rfl) con_ok rfl) rfl) (var_ok rfl) m3))]
  rw [seq_nx (h' := h) (asg_tn (v := .int ((cell * 48271 + 40692 * at_ + 31) % cP)) (var_ok rfl))]
  refine (seq_nx (f := frC (argI rng1 (consC (conC (.int 6)) nilC)) (tnC 6) (turnS (mkCtx P c c'))) (h' := h) (e' := [x0, some (.int at_), some (.int cell), some (.int cP), some (.int st), some (.int fo), x6]) e).trans ?_
  rfl
theorem dat_lst {h : Hh} {n : Nat} {ns : List Int} (hn : h[n]? = some (.lst (ns.map .int))) : dat h deep (.ref n) = some (.list (ns.map .int)) := by
  show (match h[n]? with
    | some (.lst ps) => (match allSome (ps.map (dat h 63)) with
      | some l => some (PyData.list l)
      | none => none)
    | _ => none) = _
  rw [hn]
  simp only [dat_ints]
theorem ne_nil {h : Hh} {n m : Nat} {ns : List Int} (hn : h[n]? = some (.lst (ns.map .int))) (hm : h[m]? = some (.lst [])) : op1 .ne (.ref n) (.ref m) h = .ok (.bl (!ns.isEmpty)) h := by
  have e1 := dat_lst hn
  have e2 : dat h deep (.ref m) = some (.list (([] : List Int).map .int)) := dat_lst (ns := []) hm
  show okB ((eqP h (.ref n) (.ref m)).map (!·)) h = _
  unfold eqP
  rw [e1, e2]
  cases ns <;> rfl
def freshS (C : Ctx) : FS := (seqC (asgC (tnC 1) (opC C.op .ix (varC 0) (conC (.int 1)))) (seqC (asgC (tsuC C.set (varC 0) (conC (.int 1))) (opC C.op .add (varC 1) (conC (.int 1)))) (seqC (asgC (tnC 2) (conC (.int 0))) (seqC (iffC (opC C.op .ne (opC C.op .ix (varC 0) (conC (.int 0))) (lstC nilC)) (seqC (asgC (tnC 2) (opC C.op .ix (opC C.op .ix (varC 0) (conC (.int 0))) (opC C.op .mod (biC (C.bi .int) (consC (varC 1) nilC)) (biC (C.bi .len) (consC (opC C.op .ix (varC 0) (conC (.int 0))) nilC))))) snilC) snilC) (seqC (iffC (andC (opC C.op .lt (varC 1) (biC (C.bi .len) (consC (opC C.op .ix (varC 0) (conC (.int 0))) nilC))) (opC C.op .ge (varC 2) (opC C.op .pow (conC (.int 10)) (conC (.int 18))))) (seqC (retC (opC C.op .sub (varC 2) (opC C.op .pow (conC (.int 10)) (conC (.int 18))))) snilC) snilC) (restS C))))))
theorem exT {α β : Type} {x y : β} {F : α → β} (e : x = y) (k : ∃ v, y = F v) : ∃ v, x = F v := let ⟨v, k⟩ := k; ⟨v, e.trans k⟩
theorem fresh_ok {h : Hh} {p q : Nat} {ns : List Int} {at_ : Int} {pool : PV} (hp : h[p]? = some (.lst [.ref q, .int at_, pool])) (hq : h[q]? = some (.lst (ns.map .int))) (hpq : p ≠ q) (h0 : 0 ≤ at_) :
    ∃ v, freshS (mkCtx P c c') [some (.ref p), none, none, none, none, none, none] h = .rt (.int v) ((h.set p (.lst [.ref q, .int (at_ + 1), pool])) ++ [.lst []]) := by
  have pl : p < h.length := (List.getElem?_eq_some_iff.mp hp).1
  have ql : q < h.length := (List.getElem?_eq_some_iff.mp hq).1
  generalize e1 : h.set p (.lst [.ref q, .int (at_ + 1), pool]) = h1
  have l1 : h1.length = h.length := by rw [← e1, List.length_set]
  have p1 : h1[p]? = some (.lst [.ref q, .int (at_ + 1), pool]) := by rw [← e1, List.getElem?_set_self pl]
  have q1 : h1[q]? = some (.lst (ns.map .int)) := by rw [← e1, List.getElem?_set_ne hpq, hq]
  generalize e2 : h1 ++ [.lst []] = h2
  have p2 : h2[p]? = some (.lst [.ref q, .int (at_ + 1), pool]) := by rw [← e2, List.getElem?_append_left (by omega), p1]
  have q2 : h2[q]? = some (.lst (ns.map .int)) := by rw [← e2, List.getElem?_append_left (by omega), q1]
  have n2 : h2[h1.length]? = some (.lst []) := by rw [← e2]; simp
  unfold freshS
  refine exT (seq_nx (e := [some (.ref p), none, none, none, none, none, none]) (h' := h) (asg_tn (v := .int at_) (op_ok (op := op1) (o := .ix) (h1 := h) (h2 := h) (v := .ref p) (w := .int 1) (var_ok (i := 0) rfl) con_ok (ix_lst (k := 1) hp rfl rfl)))) ?_
  refine exT (seq_nx (e := [some (.ref p), some (.int at_), none, none, none, none, none]) (h' := h1) (e' := [some (.ref p), some (.int at_), none, none, none, none, none]) (tsu_ok (v := .int (at_ + 1)) (h1 := h) (h2 := h) (h3 := h) (x := .ref p) (y := .int 1) (op_ok (op := op1) (o := .add) (h1 := h) (h2 := h) (v := .int at_) (w := .int 1) (var_ok (i := 1) rfl) con_ok rfl) (var_ok (i := 0) rfl) con_ok ?_)) ?_
  · show set1 (.ref p) (.int 1) (.int (at_ + 1)) h = .ok () h1
    rw [← e1]
    simp [set1, hp, ixP]
  refine exT (seq_nx (e := [some (.ref p), some (.int at_), none, none, none, none, none]) (h' := h1) (asg_tn (v := .int 0) con_ok)) ?_
  have cells : ∀ {e : En} {g : Hh}, e[0]? = some (some (.ref p)) → g[p]? = some (.lst [.ref q, .int (at_ + 1), pool]) → opC (mkCtx P c c').op .ix (varC 0) (conC (.int 0)) e g = .ok (.ref q) g := fun {e g} he hg => op_ok (op := op1) (o := .ix) (h1 := g) (h2 := g) (v := .ref p) (w := .int 0) (var_ok he) con_ok (ix_lst (k := 0) hg rfl rfl)
  -- the cell
  have nl : newL [] h1 = .ok (.ref h1.length) h2 := by rw [← e2]; rfl
  have test : ∀ {e : En}, e[0]? = some (some (.ref p)) → opC (mkCtx P c c').op .ne (opC (mkCtx P c c').op .ix (varC 0) (conC (.int 0))) (lstC nilC) e h1 = .ok (.bl (!ns.isEmpty)) h2 := fun {e} he =>
    op_ok (op := op1) (o := .ne) (h1 := h1) (h2 := h2) (v := .ref q) (w := .ref h1.length) (cells he p1) (show lstC nilC e h1 = _ from nl) (ne_nil q2 n2)
  have lenq : ∀ {e : En}, e[0]? = some (some (.ref p)) → biC ((mkCtx P c c').bi .len) (consC (opC (mkCtx P c c').op .ix (varC 0) (conC (.int 0))) nilC) e h2 = .ok (.int (ns.length : Nat)) h2 := fun {e} he =>
    bi_ok1 (h1 := h2) (v := .ref q) (cells he p2) (by show lenVV (.ref q) h2 = _; simp [lenVV, lenV, q2])
  have cell : ∃ cell : Int, iffC (opC (mkCtx P c c').op .ne (opC (mkCtx P c c').op .ix (varC 0) (conC (.int 0))) (lstC nilC)) (seqC (asgC (tnC 2) (opC (mkCtx P c c').op .ix (opC (mkCtx P c c').op .ix (varC 0) (conC (.int 0))) (opC (mkCtx P c c').op .mod (biC ((mkCtx P c c').bi .int) (consC (varC 1) nilC)) (biC ((mkCtx P c c').bi .len) (consC (opC (mkCtx P c c').op .ix (varC 0) (conC (.int 0))) nilC))))) snilC) snilC
      [some (.ref p), some (.int at_), some (.int 0), none, none, none, none] h1 = .nx [some (.ref p), some (.int at_), some (.int cell), none, none, none, none] h2 := by
    cases hne : ns.isEmpty with
    | true =>
      refine ⟨0, (iff_f (h' := h2) (test rfl |>.trans (by rw [hne]; rfl))).trans rfl⟩
    | false =>
      have lpos : 0 < ns.length := by
        cases ns with
        | nil => cases hne
        | cons _ _ => simp
      have hk0 : 0 ≤ at_ % (ns.length : Int) := Int.emod_nonneg _ (by omega)
      have hk1 : at_ % (ns.length : Int) < ns.length := Int.emod_lt_of_pos _ (by omega)
      obtain ⟨k, hk⟩ := Int.eq_ofNat_of_zero_le hk0
      have hkl : k < ns.length := by omega
      have hx : ixV (.ref q) (.int (at_ % (ns.length : Int))) h2 = .ok (.int ns[k]) h2 := by
        rw [hk]
        refine ix_lst (k := k) q2 ?_ (by rw [List.getElem?_map, List.getElem?_eq_getElem hkl]; rfl)
        show (if Nat.blt k (ns.map PV.int).length = true then some k else none) = some k
        exact if_pos (show Nat.blt k (ns.map PV.int).length = true from Nat.ble_eq_true_of_le (by rw [List.length_map]; exact hkl))
      refine ⟨ns[k], (iff_t (h' := h2) (test rfl |>.trans (by rw [hne]; rfl))).trans ?_⟩
      refine (seq_nx (e := [some (.ref p), some (.int at_), some (.int 0), none, none, none, none]) (h' := h2) (asg_tn (v := .int ns[k]) (op_ok (op := op1) (o := .ix) (h1 := h2) (h2 := h2) (v := .ref q) (w := .int (at_ % (ns.length : Int))) (cells rfl p2)
        (op_ok (op := op1) (o := .mod) (h1 := h2) (h2 := h2) (v := .int at_) (w := .int (ns.length : Int)) (bi_ok1 (h1 := h2) (v := .int at_) (var_ok (i := 1) rfl) rfl) (lenq rfl) (mod_pos (by omega))) hx))).trans rfl
  obtain ⟨cell, hcell⟩ := cell
  refine exT (seq_nx (e := [some (.ref p), some (.int at_), some (.int 0), none, none, none, none]) hcell) ?_
  -- a great cell is told as it stands
  have pw : ∀ {e : En}, opC (mkCtx P c c').op .pow (conC (.int 10)) (conC (.int 18)) e h2 = .ok (.int 1000000000000000000) h2 := fun {e} => op_ok (op := op1) (o := .pow) (h1 := h2) (h2 := h2) (v := .int 10) (w := .int 18) con_ok con_ok rfl
  have t1 : opC (mkCtx P c c').op .lt (varC 1) (biC ((mkCtx P c c').bi .len) (consC (opC (mkCtx P c c').op .ix (varC 0) (conC (.int 0))) nilC)) [some (.ref p), some (.int at_), some (.int cell), none, none, none, none] h2 = .ok (.bl (decide (at_ < (ns.length : Int)))) h2 :=
    op_ok (op := op1) (o := .lt) (h1 := h2) (h2 := h2) (v := .int at_) (w := .int (ns.length : Int)) (var_ok (i := 1) rfl) (lenq rfl) rfl
  have t2 : opC (mkCtx P c c').op .ge (varC 2) (opC (mkCtx P c c').op .pow (conC (.int 10)) (conC (.int 18))) [some (.ref p), some (.int at_), some (.int cell), none, none, none, none] h2 = .ok (.bl (decide ((1000000000000000000 : Int) ≤ cell))) h2 :=
    op_ok (op := op1) (o := .ge) (h1 := h2) (h2 := h2) (v := .int cell) (w := .int 1000000000000000000) (var_ok (i := 2) rfl) pw rfl
  have tb : ∃ b, andC (opC (mkCtx P c c').op .lt (varC 1) (biC ((mkCtx P c c').bi .len) (consC (opC (mkCtx P c c').op .ix (varC 0) (conC (.int 0))) nilC))) (opC (mkCtx P c c').op .ge (varC 2) (opC (mkCtx P c c').op .pow (conC (.int 10)) (conC (.int 18)))) [some (.ref p), some (.int at_), some (.int cell), none, none, none, none] h2 = .ok (.bl b) h2 := by
    unfold andC
    rw [t1]
    cases decide (at_ < (ns.length : Int)) with
    | false => exact ⟨false, rfl⟩
    | true =>
      simp only [asB, Rs.bind]
      rw [t2]
      exact ⟨_, rfl⟩
  obtain ⟨b, hb⟩ := tb
  cases b with
  | true =>
    refine ⟨cell - 1000000000000000000, seq_rt ((iff_t hb).trans (seq_rt (ret_ok (op_ok (op := op1) (o := .sub) (h1 := h2) (h2 := h2) (v := .int cell) (w := .int 1000000000000000000) (var_ok (i := 2) rfl) pw rfl))))⟩
  | false =>
    refine exT (seq_nx ((iff_f hb).trans rfl)) ?_
    exact rest_ok
/-! ### a draw -/
def drawS (k : Nat) (C : Ctx) : FS := (seqC (iffC (opC C.op .lt (opC C.op .ix (varC 0) (conC (.int 2))) (varC 1)) (seqC (asgC (tsuC C.set (varC 0) (conC (.int 2))) (argC (C.call k) (consC (varC 0) nilC))) snilC) snilC) (seqC (asgC (tnC 2) (opC C.op .mod (biC (C.bi .int) (consC (opC C.op .ix (varC 0) (conC (.int 2))) nilC)) (varC 1))) (seqC (asgC (tsuC C.set (varC 0) (conC (.int 2))) (opC C.op .fdv (biC (C.bi .int) (consC (opC C.op .ix (varC 0) (conC (.int 2))) nilC)) (varC 1))) (seqC (retC (varC 2)) snilC))))
/-- the pen at p, its cells at q -/
structure Pen (h : Hh) (p q : Nat) (ns : List Int) (a b : Int) : Prop where
  pen : h[p]? = some (.lst [.ref q, .int a, .int b])
  cells : h[q]? = some (.lst (ns.map .int))
  ne : p ≠ q
  pos : 0 ≤ a
theorem draw_end {h : Hh} {p q : Nat} {ns : List Int} {at_ pool m : Int} (pn : Pen h p q ns at_ pool) (hm : 0 < m) (hm2 : m < 1073741824) :
    (seqC (asgC (tnC 2) (opC (mkCtx P c c').op .mod (biC ((mkCtx P c c').bi .int) (consC (opC (mkCtx P c c').op .ix (varC 0) (conC (.int 2))) nilC)) (varC 1))) (seqC (asgC (tsuC (mkCtx P c c').set (varC 0) (conC (.int 2))) (opC (mkCtx P c c').op .fdv (biC ((mkCtx P c c').bi .int) (consC (opC (mkCtx P c c').op .ix (varC 0) (conC (.int 2))) nilC)) (varC 1))) (seqC (retC (varC 2)) snilC)))
      [some (.ref p), some (.int m), none] h = .rt (.int (pool % m)) (h.set p (.lst [.ref q, .int at_, .int (pool / m)])) := by
  have two : ∀ {e : En}, e[0]? = some (some (.ref p)) → opC (mkCtx P c c').op .ix (varC 0) (conC (.int 2)) e h = .ok (.int pool) h := fun {e} he => op_ok (op := op1) (o := .ix) (h1 := h) (h2 := h) (v := .ref p) (w := .int 2) (var_ok he) con_ok (ix_lst (k := 2) pn.pen rfl rfl)
  refine (seq_nx (e := [some (.ref p), some (.int m), none]) (h' := h) (asg_tn (v := .int (pool % m)) (op_ok (op := op1) (o := .mod) (h1 := h) (h2 := h) (v := .int pool) (w := .int m) (bi_ok1 (h1 := h) (v := .int pool) (two rfl) rfl) (var_ok (i := 1) rfl) (mod_pos hm)))).trans ?_
  refine (seq_nx (e := [some (.ref p), some (.int m), some (.int (pool % m))]) (e' := [some (.ref p), some (.int m), some (.int (pool % m))]) (h' := h.set p (.lst [.ref q, .int at_, .int (pool / m)])) (tsu_ok (v := .int (pool / m)) (h1 := h) (h2 := h) (h3 := h) (x := .ref p) (y := .int 2)
    (op_ok (op := op1) (o := .fdv) (h1 := h) (h2 := h) (v := .int pool) (w := .int m) (bi_ok1 (h1 := h) (v := .int pool) (two rfl) rfl) (var_ok (i := 1) rfl) (fdv_pos hm hm2)) (var_ok (i := 0) rfl) con_ok ?_)).trans ?_
  · show set1 (.ref p) (.int 2) (.int (pool / m)) h = _
    simp [set1, pn.pen, ixP]
  · exact (seq_rt (ret_ok (var_ok (i := 2) rfl)))
/-- a draw: a digit, and the pen has moved on -/
theorem draw_ok {h : Hh} {p q k : Nat} {ns : List Int} {at_ pool m : Int} (pn : Pen h p q ns at_ pool) (hm : 0 < m) (hm2 : m < 1073741824)
    (hc : ∃ v, c k [.ref p] h = .ok (.int v) ((h.set p (.lst [.ref q, .int (at_ + 1), .int pool])) ++ [.lst []])) :
    ∃ d a b h', drawS k (mkCtx P c c') [some (.ref p), some (.int m), none] h = .rt (.int d) h' ∧ 0 ≤ d ∧ d < m ∧ Pen h' p q ns a b ∧ (m ≤ pool ∧ h' = h.set p (.lst [.ref q, .int a, .int b]) ∨ pool < m ∧ h' = h.set p (.lst [.ref q, .int a, .int b]) ++ [.lst []]) := by
  have pl : p < h.length := (List.getElem?_eq_some_iff.mp pn.pen).1
  have ql : q < h.length := (List.getElem?_eq_some_iff.mp pn.cells).1
  have two : opC (mkCtx P c c').op .ix (varC 0) (conC (.int 2)) [some (.ref p), some (.int m), none] h = .ok (.int pool) h := op_ok (op := op1) (o := .ix) (h1 := h) (h2 := h) (v := .ref p) (w := .int 2) (var_ok (i := 0) rfl) con_ok (ix_lst (k := 2) pn.pen rfl rfl)
  have test : opC (mkCtx P c c').op .lt (opC (mkCtx P c c').op .ix (varC 0) (conC (.int 2))) (varC 1) [some (.ref p), some (.int m), none] h = .ok (.bl (decide (pool < m))) h := op_ok (op := op1) (o := .lt) (h1 := h) (h2 := h) (v := .int pool) (w := .int m) two (var_ok (i := 1) rfl) rfl
  unfold drawS
  by_cases hlt : pool < m
  · obtain ⟨v, hv⟩ := hc
    rw [decide_eq_true hlt] at test
    -- a fresh number
    have set3 : ∀ g : Hh, g[p]? = some (.lst [.ref q, .int (at_ + 1), .int pool]) → set1 (.ref p) (.int 2) (.int v) g = .ok () (g.set p (.lst [.ref q, .int (at_ + 1), .int v])) := fun g hg => by simp [set1, hg, ixP]
    have g1 : ((h.set p (.lst [.ref q, .int (at_ + 1), .int pool])) ++ [.lst []])[p]? = some (.lst [.ref q, .int (at_ + 1), .int pool]) := by
      rw [List.getElem?_append_left (by rw [List.length_set]; exact pl), List.getElem?_set_self pl]
    have g2 : ((h.set p (.lst [.ref q, .int (at_ + 1), .int pool])) ++ [Ob.lst []]).set p (.lst [.ref q, .int (at_ + 1), .int v]) = h.set p (.lst [.ref q, .int (at_ + 1), .int v]) ++ [.lst []] := by
      rw [List.set_append_left _ _ (by rw [List.length_set]; exact pl), List.set_set]
    have pn2 : Pen (h.set p (.lst [.ref q, .int (at_ + 1), .int v]) ++ [.lst []]) p q ns (at_ + 1) v := by
      refine ⟨?_, ?_, pn.ne, by have := pn.pos; omega⟩
      · rw [List.getElem?_append_left (by rw [List.length_set]; exact pl), List.getElem?_set_self pl]
      · rw [List.getElem?_append_left (by rw [List.length_set]; exact ql), List.getElem?_set_ne pn.ne, pn.cells]
    have call : argC ((mkCtx P c c').call k) (consC (varC 0) nilC) [some (.ref p), some (.int m), none] h = .ok (.int v) ((h.set p (.lst [.ref q, .int (at_ + 1), .int pool])) ++ [.lst []]) := hv
    have first : iffC (opC (mkCtx P c c').op .lt (opC (mkCtx P c c').op .ix (varC 0) (conC (.int 2))) (varC 1)) (seqC (asgC (tsuC (mkCtx P c c').set (varC 0) (conC (.int 2))) (argC ((mkCtx P c c').call k) (consC (varC 0) nilC))) snilC) snilC [some (.ref p), some (.int m), none] h =
        .nx [some (.ref p), some (.int m), none] (h.set p (.lst [.ref q, .int (at_ + 1), .int v]) ++ [.lst []]) := by
      refine (iff_t test).trans ?_
      refine (seq_nx (tsu_ok call (var_ok (i := 0) rfl) con_ok (set3 _ g1))).trans ?_
      rw [g2]
      rfl
    refine ⟨v % m, at_ + 1, v / m, _, (seq_nx first).trans (draw_end pn2 hm hm2), Int.emod_nonneg _ (by omega), Int.emod_lt_of_pos _ hm, ?_, .inr ⟨hlt, ?_⟩⟩
    · refine ⟨?_, ?_, pn.ne, by have := pn.pos; omega⟩
      · rw [List.getElem?_set_self (by rw [List.length_append, List.length_set]; omega)]
      · rw [List.getElem?_set_ne pn.ne, pn2.cells]
    · rw [List.set_append_left _ _ (by rw [List.length_set]; exact pl), List.set_set]
  · rw [decide_eq_false hlt] at test
    have first : iffC (opC (mkCtx P c c').op .lt (opC (mkCtx P c c').op .ix (varC 0) (conC (.int 2))) (varC 1)) (seqC (asgC (tsuC (mkCtx P c c').set (varC 0) (conC (.int 2))) (argC ((mkCtx P c c').call k) (consC (varC 0) nilC))) snilC) snilC [some (.ref p), some (.int m), none] h = .nx [some (.ref p), some (.int m), none] h := (iff_f test).trans rfl
    refine ⟨pool % m, at_, pool / m, _, (seq_nx first).trans (draw_end pn hm hm2), Int.emod_nonneg _ (by omega), Int.emod_lt_of_pos _ hm, ?_, .inl ⟨by omega, rfl⟩⟩
    refine ⟨?_, ?_, pn.ne, pn.pos⟩
    · rw [List.getElem?_set_self pl]
    · rw [List.getElem?_set_ne pn.ne, pn.cells]
/-! ### the pen, and draws as calls -/
def penS (C : Ctx) : FS := (seqC (retC (lstC (consC (biC (C.bi .list) (consC (sliC C.sli (varC 0) noneO (someO (conC (.int 63)))) nilC)) (consC (conC (.int 0)) (consC (conC (.int 0)) nilC))))) snilC)
theorem cut63 {ns : List Int} (hl : ns.length ≤ 63) : cutP (ns.map PV.int) none (some 63) = ns.map PV.int := by
  have e : sliEnd (ns.map PV.int).length (ns.map PV.int).length (some 63) = ns.length := by
    show (if Nat.ble 63 (ns.map PV.int).length = true then 63 else (ns.map PV.int).length) = ns.length
    rw [List.length_map]
    split
    · rename_i h
      have := Nat.le_of_ble_eq_true h
      omega
    · rfl
  unfold cutP
  rw [e]
  show ((ns.map PV.int).drop 0).take (ns.length - 0) = _
  rw [List.drop_zero, Nat.sub_zero, List.take_of_length_le (by rw [List.length_map]; exact Nat.le_refl _)]
theorem newL_small {ps : List PV} {h : Hh} (hl : ps.length ≤ 1000000) : newL ps h = .ok (.ref h.length) (h ++ [.lst ps]) := by
  unfold newL
  rw [if_pos (Nat.ble_eq_true_of_le (by unfold szL; omega))]
theorem pen_ok {ns : List Int} (hl : ns.length ≤ 63) : penS (mkCtx P c c') [some (.kl (ns.map .int))] [] = .rt (.ref 2) [.lst (ns.map .int), .lst (ns.map .int), .lst [.ref 1, .int 0, .int 0]] := by
  have hm : (ns.map PV.int).length ≤ 1000000 := by rw [List.length_map]; omega
  have e1 : sliC (mkCtx P c c').sli (varC 0) noneO (someO (conC (.int 63))) [some (.kl (ns.map .int))] [] = .ok (.ref 0) [.lst (ns.map .int)] := by
    show noExc (newL (cutP (ns.map PV.int) none (some 63)) []) = _
    rw [cut63 hl, newL_small hm]
    rfl
  have e2 : biC ((mkCtx P c c').bi .list) (consC (sliC (mkCtx P c c').sli (varC 0) noneO (someO (conC (.int 63)))) nilC) [some (.kl (ns.map .int))] [] = .ok (.ref 1) [.lst (ns.map .int), .lst (ns.map .int)] := by
    refine bi_ok1 e1 ?_
    show newL (ns.map PV.int) [.lst (ns.map .int)] = _
    rw [newL_small hm]
    rfl
  unfold penS
  refine seq_rt (ret_ok ?_)
  unfold lstC
  rw [show ∀ (a : FE) (es : FL) (e : En) (h : Hh), consC a es e h = (a e h).bind fun x h => (es e h).bind fun xs h => .ok (x :: xs) h from fun _ _ _ _ => rfl, e2]
  rfl
def penF : Fn := ⟨1, 1, penS⟩
def freshF : Fn := ⟨1, 7, freshS⟩
def drawF (k : Nat) : Fn := ⟨2, 3, drawS k⟩
theorem penN {i n : Nat} {ns : List Int} (hf : P.fn i = some penF) (hl : ns.length ≤ 63) : callN P (n + 1) i [.kl (ns.map .int)] [] = .ok (.ref 2) [.lst (ns.map .int), .lst (ns.map .int), .lst [.ref 1, .int 0, .int 0]] := by
  have e : ∀ c c', runFn (mkCtx P c c') penF [.kl (ns.map .int)] [] = .ok (.ref 2) [.lst (ns.map .int), .lst (ns.map .int), .lst [.ref 1, .int 0, .int 0]] := fun c c' => by
    have e1 := pen_ok (P := P) (c := c) (c' := c') hl
    rw [run_srV rfl]
    exact congrArg srV e1
  cases n <;> (simp only [callN, hf, pureCall]; exact e _ _)
theorem pures_ref {p : Nat} {vs : List PV} : PV.pures (.ref p :: vs) = false := by simp [PV.pures, PV.pure]
theorem callN_ref {i n p : Nat} {F : Fn} {vs : List PV} {h : Hh} (hf : P.fn i = some F) : ∃ c', callN P (n + 1) i (.ref p :: vs) h = runFn (mkCtx P (callN P n) c') F (.ref p :: vs) h := by
  cases n with
  | zero =>
    refine ⟨noCall, ?_⟩
    simp only [callN, hf]
    cases h with
    | nil => rfl
    | cons o h => simp only [pureCall, pures_ref, Bool.false_eq_true, if_false]
  | succ n =>
    refine ⟨callN P n, ?_⟩
    simp only [callN, hf]
    cases h with
    | nil => rfl
    | cons o h => simp only [pureCall, pures_ref, Bool.false_eq_true, if_false]
theorem freshN {i n p q : Nat} {ns : List Int} {at_ : Int} {pool : PV} {h : Hh} (hf : P.fn i = some freshF) (hp : h[p]? = some (.lst [.ref q, .int at_, pool])) (hq : h[q]? = some (.lst (ns.map .int))) (hpq : p ≠ q) (h0 : 0 ≤ at_) :
    ∃ v, callN P (n + 1) i [.ref p] h = .ok (.int v) ((h.set p (.lst [.ref q, .int (at_ + 1), pool])) ++ [.lst []]) := by
  obtain ⟨c', e⟩ := callN_ref (n := n) (p := p) (vs := []) (h := h) hf
  obtain ⟨v, e1⟩ := fresh_ok (P := P) (c := callN P n) (c' := c') hp hq hpq h0
  refine ⟨v, e.trans ?_⟩
  rw [run_srV rfl]
  exact congrArg srV e1
theorem drawN {i k n p q : Nat} {ns : List Int} {at_ pool m : Int} {h : Hh} (hf : P.fn k = some freshF) (hd : P.fn i = some (drawF k)) (pn : Pen h p q ns at_ pool) (hm : 0 < m) (hm2 : m < 1073741824) :
    ∃ d a b h', callN P (n + 2) i [.ref p, .int m] h = .ok (.int d) h' ∧ 0 ≤ d ∧ d < m ∧ Pen h' p q ns a b ∧ (m ≤ pool ∧ h' = h.set p (.lst [.ref q, .int a, .int b]) ∨ pool < m ∧ h' = h.set p (.lst [.ref q, .int a, .int b]) ++ [.lst []]) := by
  obtain ⟨c', e⟩ := callN_ref (n := n + 1) (p := p) (vs := [.int m]) (h := h) hd
  obtain ⟨d, a, b, h', e1, r⟩ := draw_ok (P := P) (c := callN P (n + 1)) (c' := c') pn hm hm2 (freshN hf pn.pen pn.cells pn.ne pn.pos)
  refine ⟨d, a, b, h', e.trans ?_, r⟩
  rw [run_srV rfl]
  exact congrArg srV e1
end
end Lf

end
section
set_option Elab.async false
set_option linter.all false
set_option maxRecDepth 100000
set_option autoImplicit false
/-! LfE: a dict with keys of any kind (numbers, texts, None, tuples of these), by hand over the raw heap. -/
namespace Lf
open PySem
open Sem (wp)

abbrev Ent := NestedKey × Value × Value
def entN (w : World) (x : Ent) : DictEntry := ⟨x.1.hash w, x.2.1, x.2.2⟩
/-- at d a dict with these entries -/
def IsDN (w : World) (h : Heap) (d : Addr) (xs : List Ent) : Prop :=
  ∃ o es ep, h.get? d = some o ∧ o.ExactDict ∧ o.data = .dict es ep ∧ es.toList = xs.map (entN w) ∧ (∀ x ∈ xs, NestedIs h x.1 x.2.1 ∧ x.1.depth ≤ 8) ∧ (xs.map (·.1)).Nodup
def ixK (xs : List Ent) (k : NestedKey) : Option Nat := xs.findIdx? fun x => NestedKey.beq x.1 k

theorem beq_iff {a b : NestedKey} : NestedKey.beq a b = true ↔ a = b := ⟨NestedKey.eq_of_beq a b, fun e => e ▸ NestedKey.beq_self a⟩
theorem beq_ff {a b : NestedKey} : NestedKey.beq a b = false ↔ a ≠ b := by
  rw [← Bool.not_eq_true, beq_iff]

section
variable {prog : Program} {w : World} {A : Around} {E : Value → Shared → Prop} {s : Shared}

theorem ent_at {es : Array DictEntry} {xs : List Ent} (he : es.toList = xs.map (entN w)) (j : Nat) : es[j]? = (xs[j]?).map (entN w) := by
  rw [← Array.getElem?_toList, he, List.getElem?_map]
theorem ent_size {es : Array DictEntry} {xs : List Ent} (he : es.toList = xs.map (entN w)) : es.size = xs.length := by
  rw [← Array.length_toList, he, List.length_map]
theorem ix_uniq {xs : List Ent} (hn : (xs.map (·.1)).Nodup) {i j : Nat} {a b : Ent} (hi : xs[i]? = some a) (hj : xs[j]? = some b) (e : a.1 = b.1) : i = j := by
  have hi' : (xs.map (·.1))[i]? = some a.1 := by rw [List.getElem?_map, hi]; rfl
  have hj' : (xs.map (·.1))[j]? = some a.1 := by rw [List.getElem?_map, hj, e]; rfl
  exact (List.getElem?_inj (List.getElem?_eq_some_iff.mp hi').1 hn).mp (hi'.trans hj'.symm)
theorem ixK_of {xs : List Ent} (hn : (xs.map (·.1)).Nodup) {k : NestedKey} {i : Nat} {a : Ent} (hi : xs[i]? = some a) (e : a.1 = k) : ixK xs k = some i := by
  unfold ixK
  rw [List.findIdx?_eq_some_iff_getElem]
  obtain ⟨hl, q⟩ := List.getElem?_eq_some_iff.mp hi
  refine ⟨hl, by rw [q, e]; exact NestedKey.beq_self k, fun j hj => ?_⟩
  rw [Bool.not_eq_true, beq_ff]
  intro c
  have := ix_uniq hn hi (List.getElem?_eq_getElem (show j < xs.length by omega)) (by rw [e]; exact c.symm)
  omega
theorem ixK_none {xs : List Ent} {k : NestedKey} (h : ∀ (j : Nat) (a : Ent), xs[j]? = some a → a.1 ≠ k) : ixK xs k = none := by
  unfold ixK
  rw [List.findIdx?_eq_none_iff]
  intro x hx
  obtain ⟨j, hj⟩ := List.mem_iff_getElem?.mp hx
  exact beq_ff.mpr (h j x hj)

theorem mayTell_quiet {key : Value} {k : NestedKey} {stored : List Value} {Q : Bool → Shared → Prop} (hkey : NestedIs s.heap k key ∧ k.depth ≤ 8)
    (hst : ∀ v ∈ stored, ∃ k', NestedIs s.heap k' v ∧ k'.depth ≤ 8) (h : Q false s) : wpAny (model prog w) A (tableMayTell key stored) Q E s := by
  unfold tableMayTell
  split
  · exact wpAny_pure h
  · refine wpAny_bind (quiet_key k _ 8 s hkey.1 hkey.2 A E _ ?_)
    simp only [Bool.not_true, Bool.false_eq_true, if_false]
    refine wpAny_bind ?_
    refine wpAny_forIn_list _ (fun rest r s' => s' = s ∧ r = (none, ()) ∧ ∀ v ∈ rest, ∃ k', NestedIs s.heap k' v ∧ k'.depth ≤ 8) _ ?_ ?_ _ _ ⟨rfl, rfl, hst⟩
    · rintro x rest r s' ⟨rfl, rfl, hr⟩
      obtain ⟨k', hb⟩ := hr x List.mem_cons_self
      refine wpAny_bind (quiet_key k' _ 8 _ hb.1 hb.2 A E _ ?_)
      simp only [Bool.not_true, Bool.false_eq_true, if_false]
      exact wpAny_pure ⟨rfl, rfl, fun v hv => hr v (List.mem_cons_of_mem _ hv)⟩
    · rintro r s' ⟨rfl, rfl, _⟩
      exact wpAny_pure h

theorem eqB_key {x y : NestedKey} {a b : Value} {Q : Bool → Shared → Prop} (hu : A.units + 8 < cLine) (hx : NestedIs s.heap x a ∧ x.depth ≤ 8) (hy : NestedIs s.heap y b ∧ y.depth ≤ 8) (h : Q (NestedKey.beq x y) s) :
    wpAny (model prog w) A (PySem.eqBool a b) Q E s := eqAt_key x y A s _ _ hx.1 hy.1 (by have := hx.2; omega) _ _ _ _ h

/-- the walk over the places of one hash, a key by value -/
theorem walk_plain {d : Addr} {o : Obj} {es : Array DictEntry} {ep : Nat} {xs : List Ent} {k : NestedKey} {key : Value} {Q : Option Nat → Shared → Prop} (hu : A.units + 8 < cLine) (hkey : NestedIs s.heap k key ∧ k.depth ≤ 8)
    (ho : s.heap.get? d = some o) (hd : o.data = .dict es ep) (he : es.toList = xs.map (entN w)) (his : ∀ x ∈ xs, NestedIs s.heap x.1 x.2.1 ∧ x.1.depth ≤ 8) (hn : (xs.map (·.1)).Nodup)
    (h : Q (ixK xs k) s) : wpAny (model prog w) A (dictWalkPlain d key (k.hash w) es (placesWithHash es.size (fun i => es[i]?.map (·.hash)) (k.hash w))) Q E s := by
  have hsz : es.size = xs.length := ent_size he
  have nokey : ∀ (j : Nat) (a : Ent), xs[j]? = some a → ((es[j]?.map (·.hash)) == some (k.hash w)) = false → a.1 ≠ k := by
    intro j a hj hp e
    rw [ent_at he j, hj] at hp
    simp [entN, e] at hp
  refine wpAny_bind ?_
  refine wpAny_forIn_list _
    (fun rest b s' => s' = s ∧ b = (none, ()) ∧ ∃ i, rest = (List.range' i (es.size - i)).filter (fun i => (es[i]?.map (·.hash)) == some (k.hash w)) ∧ i ≤ es.size ∧
      ∀ (j : Nat) (a : Ent), xs[j]? = some a → j < i → a.1 ≠ k) _ ?_ ?_ _ _
    ⟨rfl, rfl, 0, by rw [placesWithHash, List.range_eq_range', Nat.sub_zero], Nat.zero_le _, fun _ _ _ h => absurd h (Nat.not_lt_zero _)⟩
  · rintro x rest b s' ⟨rfl, rfl, i, hr, hi, hno⟩
    obtain ⟨hix, hxn, hpx, hskip, hrest⟩ := filter_range'_cons _ _ _ _ _ hr.symm
    have hlt : x < es.size := by omega
    obtain ⟨y, hy⟩ : ∃ y, xs[x]? = some y := ⟨xs[x]'(by rw [← hsz]; exact hlt), List.getElem?_eq_getElem _⟩
    have hex : es[x]? = some (entN w y) := by rw [ent_at he x, hy]; rfl
    have hb := his y (List.mem_of_getElem? hy)
    have hnext : ¬ y.1 = k → ∃ i, rest = (List.range' i (es.size - i)).filter (fun i => (es[i]?.map (·.hash)) == some (k.hash w)) ∧ i ≤ es.size ∧
        ∀ (j : Nat) (a : Ent), xs[j]? = some a → j < i → a.1 ≠ k := fun hne =>
      ⟨x + 1, by rw [hrest]; congr 2; omega, hlt, fun j a hj hji => by
        rcases Nat.lt_or_ge j i with h | h
        · exact hno j a hj h
        · rcases Nat.lt_or_ge j x with h' | h'
          · exact nokey j a hj (hskip j h h')
          · have : j = x := by omega
            subst this
            rw [hy] at hj; cases hj
            exact hne⟩
    rw [hex]
    dsimp only
    by_cases hh : ((entN w y).hash == k.hash w) = true
    · rw [if_pos hh]
      refine wpAny_bind (wpAny_dictEpoch ho hd (wpAny_bind (eqB_key hu hb hkey (wpAny_bind (wpAny_dictEpoch ho hd ?_)))))
      show wpAny _ _ (if (ep != ep) = true then _ else _) _ E _
      rw [if_neg (by simp)]
      by_cases hkk : y.1 = k
      · rw [beq_iff.mpr hkk]
        rw [ixK_of hn hy hkk] at h
        exact wpAny_bind (wpAny_rule (wpAny_pure (wpAny_pure h)))
      · rw [beq_ff.mpr hkk]
        exact wpAny_bind (wpAny_rule (wpAny_pure ⟨rfl, rfl, hnext hkk⟩))
    · rw [if_neg hh]
      refine wpAny_pure ⟨rfl, rfl, hnext ?_⟩
      intro hkk
      simp [entN, hkk] at hh
  · rintro b s' ⟨rfl, rfl, i, hr, hi, hno⟩
    have hall : ∀ j, i ≤ j → j < es.size → ((es[j]?.map (·.hash)) == some (k.hash w)) = false := by
      intro j h1 h2
      have := List.filter_eq_nil_iff.mp hr.symm j (List.mem_range'_1.mpr ⟨h1, by omega⟩)
      simpa using this
    have : ixK xs k = none := ixK_none fun j a hj => by
      rcases Nat.lt_or_ge j i with h | h
      · exact hno j a hj h
      · have hjl : j < es.size := by
          rw [hsz]
          exact (List.getElem?_eq_some_iff.mp hj).1
        exact nokey j a hj (hall j h hjl)
    rw [this] at h
    exact wpAny_pure h

theorem isStr_key {h : Heap} {x : Str} {k : NestedKey} {v : Value} (r : NestedIs h k v) : v.isStr x = NestedKey.beq k (.text x) := by
  cases r with
  | none => rfl
  | bool e => rfl
  | int i t => rfl
  | text y t => show (y == x) = decide (y = x); exact Bool.beq_eq_decide_eq ..
  | tup _ _ _ _ => rfl

theorem dictFind_n {d : Addr} {o : Obj} {es : Array DictEntry} {ep : Nat} {xs : List Ent} {k : NestedKey} {key : Value} {Q : Option Nat → Shared → Prop} (hu : A.units + 8 < cLine) (hkey : NestedIs s.heap k key ∧ k.depth ≤ 8)
    (ho : s.heap.get? d = some o) (hd : o.data = .dict es ep) (he : es.toList = xs.map (entN w)) (his : ∀ x ∈ xs, NestedIs s.heap x.1 x.2.1 ∧ x.1.depth ≤ 8) (hn : (xs.map (·.1)).Nodup)
    (h : Q (ixK xs k) s) : wpAny (model prog w) A (dictFind d key (k.hash w)) Q E s := by
  have hsz : es.size = xs.length := ent_size he
  have haskey : ∀ (j : Nat) (a : Ent), xs[j]? = some a → a.1 = k → ((es[j]?.map (·.hash)) == some (k.hash w)) = true := by
    intro j p hj e
    rw [ent_at he j, hj]
    simp [entN, e]
  have hmem : ∀ e ∈ es, ∃ x ∈ xs, e = entN w x := by
    intro e hin
    have : e ∈ xs.map (entN w) := he ▸ Array.mem_toList_iff.mpr hin
    obtain ⟨x, hx, rfl⟩ := List.mem_map.mp this
    exact ⟨x, hx, rfl⟩
  have hst : ∀ v ∈ (placesWithHash es.size (fun i => es[i]?.map (·.hash)) (k.hash w)).filterMap (fun i => es[i]?.map (·.key)), ∃ k', NestedIs s.heap k' v ∧ k'.depth ≤ 8 := by
    intro v hv
    obtain ⟨i, _, hi⟩ := List.mem_filterMap.mp hv
    cases hei : es[i]? with
    | none => rw [hei] at hi; cases hi
    | some e =>
      rw [hei] at hi
      obtain rfl : e.key = v := by simpa using hi
      obtain ⟨x, hx, rfl⟩ := hmem e (Array.mem_of_getElem? hei)
      exact ⟨x.1, his x hx⟩
  unfold dictFind
  try with_reducible refine wpAny_holding ?_
  refine wpAny_bind (wpAny_dictEntries ho hd ?_)
  have hw := walk_plain (prog := prog) (E := E) (Q := Q) hu hkey ho hd he his hn h
  have hany : ∀ a, key = .ref a → ¬ (es.any fun e => e.key == Value.ref a && e.hash != k.hash w) = true := by
    intro a ea
    rw [← Array.any_toList, List.any_eq_true]
    rintro ⟨e, hin, hc⟩
    obtain ⟨x, hx, rfl⟩ := hmem e (Array.mem_toList_iff.mp hin)
    simp only [entN, Bool.and_eq_true, beq_iff_eq, bne_iff_ne, ne_eq] at hc
    obtain ⟨hxa, hne⟩ := hc
    have := (his x hx).1
    rw [hxa, ← ea] at this
    exact hne (by rw [NestedIs.inj _ _ _ this hkey.1])
  have form : (∃ x t, key = .str x t ∧ k = .text x) ∨ (∃ a, key = .ref a) ∨ key = .none ∨ (∃ b, key = .bool b) ∨ ∃ i t, key = .int i t := by
    obtain ⟨q, _⟩ := hkey
    cases q with
    | none => exact .inr (.inr (.inl rfl))
    | bool e => exact .inr (.inr (.inr (.inl ⟨_, rfl⟩)))
    | int i t => exact .inr (.inr (.inr (.inr ⟨_, _, rfl⟩)))
    | text x t => exact .inl ⟨_, _, rfl, rfl⟩
    | tup _ _ _ _ => exact .inr (.inl ⟨_, rfl⟩)
  have byval : ∀ x t, key = .str x t → k = .text x → wpAny (model prog w) A (foundByValue d key es x) Q E s := by
    intro x t ek ekk
    have hfun : (es.findIdx? fun e : DictEntry => e.key.isStr x) = ixK xs k := by
      have e1 : (es.findIdx? fun e : DictEntry => e.key.isStr x) = (es.toList.findIdx? fun e : DictEntry => e.key.isStr x) := by
        obtain ⟨l⟩ := es
        simp
      rw [e1, he, ekk, List.findIdx?_map]
      unfold ixK
      have : ∀ l : List Ent, (∀ y ∈ l, NestedIs s.heap y.1 y.2.1) → (l.findIdx? ((fun e : DictEntry => e.key.isStr x) ∘ entN w)) = l.findIdx? fun y => NestedKey.beq y.1 (.text x) := by
        intro l
        induction l with
        | nil => intro _; rfl
        | cons y l ih =>
          intro hy
          rw [List.findIdx?_cons, List.findIdx?_cons, ih fun z hz => hy z (List.mem_cons_of_mem _ hz)]
          have : ((fun e : DictEntry => e.key.isStr x) ∘ entN w) y = NestedKey.beq y.1 (.text x) := isStr_key (hy y List.mem_cons_self)
          rw [this]
      exact this xs fun y hy => (his y hy).1
    unfold foundByValue
    rw [hfun]
    cases hf : ixK xs k with
    | none =>
      rw [hf] at h
      exact wpAny_pure h
    | some i =>
      rw [hf] at h
      obtain ⟨hlt, hi, _⟩ := List.findIdx?_eq_some_iff_getElem.mp hf
      have hex : es[i]? = some (entN w xs[i]) := by rw [ent_at he i, List.getElem?_eq_getElem hlt]; rfl
      dsimp only
      rw [hex]
      dsimp only
      refine wpAny_bind (wpAny_dictEpoch ho hd (wpAny_bind (eqB_key hu (his _ (List.getElem_mem hlt)) hkey (wpAny_bind (wpAny_dictEpoch ho hd ?_)))))
      show wpAny _ _ (if (ep != ep) = true then _ else _) _ E _
      rw [if_neg (by simp), hi]
      exact wpAny_bind (wpAny_rule (wpAny_pure h))
  rcases form with ⟨x, t, rfl, ekk⟩ | ⟨a, rfl⟩ | rfl | ⟨b, rfl⟩ | ⟨i, t, rfl⟩
  all_goals dsimp only
  · by_cases hs : (es.all fun e => isExactStrKey e.key) = true
    · rw [if_pos hs]; exact byval x t rfl ekk
    · rw [if_neg hs]
      by_cases hcv : ((Value.str x t :: (placesWithHash es.size (fun i => es[i]?.map (·.hash)) (k.hash w)).filterMap fun i => es[i]?.map (·.key)).all carriedByValue) = true
      · rw [if_pos hcv]; exact hw
      · rw [if_neg hcv]
        by_cases hone : (((placesWithHash es.size (fun i => es[i]?.map (·.hash)) (k.hash w)).filterMap (fun i => es[i]?.map (·.key))) == [Value.str x t]) = true <;>
        (first | rw [if_pos hone] | rw [if_neg hone]) <;> (first | refine wpAny_bind (wpAny_pure ?_) | refine wpAny_bind (mayTell_quiet hkey hst ?_)) <;> (
          rw [if_neg (by simp)]
          refine wpAny_bind ?_
          refine wpAny_forIn_list _
            (fun rest b s' => s' = s ∧ ∃ i hit, b = (none, hit) ∧ rest = (List.range' i (es.size - i)).filter (fun i => (es[i]?.map (·.hash)) == some (k.hash w)) ∧ i ≤ es.size ∧
              ((hit = none ∧ ∀ (j : Nat) (p : Ent), j < i → xs[j]? = some p → p.1 ≠ k) ∨ ∃ (j : Nat) (p : Ent), hit = some j ∧ j < i ∧ xs[j]? = some p ∧ p.1 = k)) _ ?_ ?_ _ _
            ⟨rfl, 0, none, rfl, by rw [placesWithHash, List.range_eq_range', Nat.sub_zero], Nat.zero_le _, .inl ⟨rfl, fun _ _ h => absurd h (Nat.not_lt_zero _)⟩⟩
          · rintro x rest b s' ⟨rfl, i, hit, rfl, hr, hi, hH⟩
            obtain ⟨hix, hxn, hpx, hskip, hrest⟩ := filter_range'_cons _ _ _ _ _ hr.symm
            have hlt : x < es.size := by omega
            have hrest' : rest = (List.range' (x + 1) (es.size - (x + 1))).filter (fun i => (es[i]?.map (·.hash)) == some (k.hash w)) := by rw [hrest]; congr 2; omega
            obtain ⟨y, hy⟩ : ∃ y, xs[x]? = some y := ⟨xs[x]'(by rw [← hsz]; exact hlt), List.getElem?_eq_getElem _⟩
            have hib := his y (List.mem_of_getElem? hy)
            have hex : es[x]? = some (entN w y) := by rw [ent_at he x, hy]; rfl
            have hHx : (hit = none ∧ ∀ (j : Nat) (p : Ent), j < x → xs[j]? = some p → p.1 ≠ k) ∨ ∃ (j : Nat) (p : Ent), hit = some j ∧ j < x ∧ xs[j]? = some p ∧ p.1 = k := by
              rcases hH with ⟨h0, hno⟩ | ⟨j, p, h1, hji, hj⟩
              · refine .inl ⟨h0, fun j p hjx hj hc => ?_⟩
                rcases Nat.lt_or_ge j i with h | h
                · exact hno j p h hj hc
                · have := hskip j h hjx
                  rw [haskey j p hj hc] at this
                  exact absurd this (by decide)
              · exact .inr ⟨j, p, h1, by omega, hj⟩
            have hstay : ¬ y.1 = k → ((hit = none ∧ ∀ (j : Nat) (p : Ent), j < x + 1 → xs[j]? = some p → p.1 ≠ k) ∨ ∃ (j : Nat) (p : Ent), hit = some j ∧ j < x + 1 ∧ xs[j]? = some p ∧ p.1 = k) := by
              intro hne
              rcases hHx with ⟨h0, hno⟩ | ⟨j, p, h1, hjx, hj⟩
              · refine .inl ⟨h0, fun j p hjx hj hc => ?_⟩
                rcases Nat.lt_or_ge j x with h | h
                · exact hno j p h hj hc
                · have hjx' : j = x := by omega
                  subst hjx'
                  rw [hy] at hj
                  cases hj
                  exact hne hc
              · exact .inr ⟨j, p, h1, by omega, hj⟩
            rw [hex]
            dsimp only
            by_cases hh : ((entN w y).hash == k.hash w) = true
            · rw [if_pos hh]
              refine wpAny_bind (wpAny_dictEpoch ho hd (wpAny_bind (eqB_key hu hib hkey (wpAny_bind (wpAny_dictEpoch ho hd ?_)))))
              show wpAny _ _ (if (ep != ep) = true then _ else _) _ E _
              rw [if_neg (by simp)]
              by_cases hkk : y.1 = k
              · rw [beq_iff.mpr hkk]
                rcases hHx with ⟨rfl, _⟩ | ⟨j, p, _, hjx, hj, hc⟩
                · first | rw [if_pos rfl] | skip
                  simp only [Option.isSome_none, Bool.false_eq_true, if_false]
                  first | refine wpAny_bind (wpAny_pure ?_) | skip
                  refine wpAny_bind (wpAny_rule ?_)
                  split
                  · exact wpAny_pure (wpAny_pure (by rw [ixK_of hn hy hkk] at h; exact h))
                  · exact wpAny_pure ⟨rfl, x + 1, some x, rfl, hrest', hlt, .inr ⟨x, _, rfl, Nat.lt_succ_self x, hy, hkk⟩⟩
                · exact absurd (ix_uniq hn hj hy (hc.trans hkk.symm)) (by omega)
              · rw [beq_ff.mpr hkk]
                simp only [Bool.false_eq_true, if_false]
                refine wpAny_bind (wpAny_rule ?_)
                first | rw [if_neg (by simp)] | skip
                first
                  | exact wpAny_pure ⟨rfl, x + 1, hit, rfl, hrest', hlt, hstay hkk⟩
                  | exact wpAny_bind (wpAny_pure (wpAny_pure ⟨rfl, x + 1, hit, rfl, hrest', hlt, hstay hkk⟩))
            · rw [if_neg hh]
              refine wpAny_pure ⟨rfl, x + 1, hit, rfl, hrest', hlt, hstay ?_⟩
              intro hkk
              simp [entN, hkk] at hh
          · rintro b s' ⟨rfl, i, hit, rfl, hr, hi, hH⟩
            have hall : ∀ j, i ≤ j → j < es.size → ((es[j]?.map (·.hash)) == some (k.hash w)) = false := by
              intro j h1 h2
              have := List.filter_eq_nil_iff.mp hr.symm j (List.mem_range'_1.mpr ⟨h1, by omega⟩)
              simpa using this
            rcases hH with ⟨rfl, hno⟩ | ⟨j, p, rfl, _, hj, hc⟩
            · refine wpAny_pure ?_
              have e : ixK xs k = none := ixK_none fun j p hj hc => by
                rcases Nat.lt_or_ge j i with h | h
                · exact hno j p h hj hc
                · have hjl : j < es.size := by
                    rw [hsz]
                    exact (List.getElem?_eq_some_iff.mp hj).1
                  have := hall j h hjl
                  rw [haskey j p hj hc] at this
                  exact absurd this (by decide)
              rw [e] at h
              exact h
            · refine wpAny_pure ?_
              rw [ixK_of hn hj hc] at h
              exact h)
  · rw [if_neg (show ¬ ((Value.ref a :: (placesWithHash es.size (fun i => es[i]?.map (·.hash)) (k.hash w)).filterMap fun i => es[i]?.map (·.key)).all carriedByValue) = true by simp [carriedByValue])]
    rw [if_neg (hany a rfl)]
    by_cases hone : (((placesWithHash es.size (fun i => es[i]?.map (·.hash)) (k.hash w)).filterMap (fun i => es[i]?.map (·.key))) == [Value.ref a]) = true <;>
    (first | rw [if_pos hone] | rw [if_neg hone]) <;> (first | refine wpAny_bind (wpAny_pure ?_) | refine wpAny_bind (mayTell_quiet hkey hst ?_)) <;> (
      rw [if_neg (by simp)]
      refine wpAny_bind ?_
      refine wpAny_forIn_list _
        (fun rest b s' => s' = s ∧ ∃ i hit, b = (none, hit) ∧ rest = (List.range' i (es.size - i)).filter (fun i => (es[i]?.map (·.hash)) == some (k.hash w)) ∧ i ≤ es.size ∧
          ((hit = none ∧ ∀ (j : Nat) (p : Ent), j < i → xs[j]? = some p → p.1 ≠ k) ∨ ∃ (j : Nat) (p : Ent), hit = some j ∧ j < i ∧ xs[j]? = some p ∧ p.1 = k)) _ ?_ ?_ _ _
        ⟨rfl, 0, none, rfl, by rw [placesWithHash, List.range_eq_range', Nat.sub_zero], Nat.zero_le _, .inl ⟨rfl, fun _ _ h => absurd h (Nat.not_lt_zero _)⟩⟩
      · rintro x rest b s' ⟨rfl, i, hit, rfl, hr, hi, hH⟩
        obtain ⟨hix, hxn, hpx, hskip, hrest⟩ := filter_range'_cons _ _ _ _ _ hr.symm
        have hlt : x < es.size := by omega
        have hrest' : rest = (List.range' (x + 1) (es.size - (x + 1))).filter (fun i => (es[i]?.map (·.hash)) == some (k.hash w)) := by rw [hrest]; congr 2; omega
        obtain ⟨y, hy⟩ : ∃ y, xs[x]? = some y := ⟨xs[x]'(by rw [← hsz]; exact hlt), List.getElem?_eq_getElem _⟩
        have hib := his y (List.mem_of_getElem? hy)
        have hex : es[x]? = some (entN w y) := by rw [ent_at he x, hy]; rfl
        have hHx : (hit = none ∧ ∀ (j : Nat) (p : Ent), j < x → xs[j]? = some p → p.1 ≠ k) ∨ ∃ (j : Nat) (p : Ent), hit = some j ∧ j < x ∧ xs[j]? = some p ∧ p.1 = k := by
          rcases hH with ⟨h0, hno⟩ | ⟨j, p, h1, hji, hj⟩
          · refine .inl ⟨h0, fun j p hjx hj hc => ?_⟩
            rcases Nat.lt_or_ge j i with h | h
            · exact hno j p h hj hc
            · have := hskip j h hjx
              rw [haskey j p hj hc] at this
              exact absurd this (by decide)
          · exact .inr ⟨j, p, h1, by omega, hj⟩
        have hstay : ¬ y.1 = k → ((hit = none ∧ ∀ (j : Nat) (p : Ent), j < x + 1 → xs[j]? = some p → p.1 ≠ k) ∨ ∃ (j : Nat) (p : Ent), hit = some j ∧ j < x + 1 ∧ xs[j]? = some p ∧ p.1 = k) := by
          intro hne
          rcases hHx with ⟨h0, hno⟩ | ⟨j, p, h1, hjx, hj⟩
          · refine .inl ⟨h0, fun j p hjx hj hc => ?_⟩
            rcases Nat.lt_or_ge j x with h | h
            · exact hno j p h hj hc
            · have hjx' : j = x := by omega
              subst hjx'
              rw [hy] at hj
              cases hj
              exact hne hc
          · exact .inr ⟨j, p, h1, by omega, hj⟩
        rw [hex]
        dsimp only
        by_cases hh : ((entN w y).hash == k.hash w) = true
        · rw [if_pos hh]
          refine wpAny_bind (wpAny_dictEpoch ho hd (wpAny_bind (eqB_key hu hib hkey (wpAny_bind (wpAny_dictEpoch ho hd ?_)))))
          show wpAny _ _ (if (ep != ep) = true then _ else _) _ E _
          rw [if_neg (by simp)]
          by_cases hkk : y.1 = k
          · rw [beq_iff.mpr hkk]
            rcases hHx with ⟨rfl, _⟩ | ⟨j, p, _, hjx, hj, hc⟩
            · first | rw [if_pos rfl] | skip
              simp only [Option.isSome_none, Bool.false_eq_true, if_false]
              first | refine wpAny_bind (wpAny_pure ?_) | skip
              refine wpAny_bind (wpAny_rule ?_)
              split
              · exact wpAny_pure (wpAny_pure (by rw [ixK_of hn hy hkk] at h; exact h))
              · exact wpAny_pure ⟨rfl, x + 1, some x, rfl, hrest', hlt, .inr ⟨x, _, rfl, Nat.lt_succ_self x, hy, hkk⟩⟩
            · exact absurd (ix_uniq hn hj hy (hc.trans hkk.symm)) (by omega)
          · rw [beq_ff.mpr hkk]
            simp only [Bool.false_eq_true, if_false]
            refine wpAny_bind (wpAny_rule ?_)
            first | rw [if_neg (by simp)] | skip
            first
              | exact wpAny_pure ⟨rfl, x + 1, hit, rfl, hrest', hlt, hstay hkk⟩
              | exact wpAny_bind (wpAny_pure (wpAny_pure ⟨rfl, x + 1, hit, rfl, hrest', hlt, hstay hkk⟩))
        · rw [if_neg hh]
          refine wpAny_pure ⟨rfl, x + 1, hit, rfl, hrest', hlt, hstay ?_⟩
          intro hkk
          simp [entN, hkk] at hh
      · rintro b s' ⟨rfl, i, hit, rfl, hr, hi, hH⟩
        have hall : ∀ j, i ≤ j → j < es.size → ((es[j]?.map (·.hash)) == some (k.hash w)) = false := by
          intro j h1 h2
          have := List.filter_eq_nil_iff.mp hr.symm j (List.mem_range'_1.mpr ⟨h1, by omega⟩)
          simpa using this
        rcases hH with ⟨rfl, hno⟩ | ⟨j, p, rfl, _, hj, hc⟩
        · refine wpAny_pure ?_
          have e : ixK xs k = none := ixK_none fun j p hj hc => by
            rcases Nat.lt_or_ge j i with h | h
            · exact hno j p h hj hc
            · have hjl : j < es.size := by
                rw [hsz]
                exact (List.getElem?_eq_some_iff.mp hj).1
              have := hall j h hjl
              rw [haskey j p hj hc] at this
              exact absurd this (by decide)
          rw [e] at h
          exact h
        · refine wpAny_pure ?_
          rw [ixK_of hn hj hc] at h
          exact h)
  · by_cases hcv : ((Value.none :: (placesWithHash es.size (fun i => es[i]?.map (·.hash)) (k.hash w)).filterMap fun i => es[i]?.map (·.key)).all carriedByValue) = true
    · rw [if_pos hcv]; exact hw
    · rw [if_neg hcv]
      by_cases hone : (((placesWithHash es.size (fun i => es[i]?.map (·.hash)) (k.hash w)).filterMap (fun i => es[i]?.map (·.key))) == [Value.none]) = true <;>
      (first | rw [if_pos hone] | rw [if_neg hone]) <;> (first | refine wpAny_bind (wpAny_pure ?_) | refine wpAny_bind (mayTell_quiet hkey hst ?_)) <;> (
        rw [if_neg (by simp)]
        refine wpAny_bind ?_
        refine wpAny_forIn_list _
          (fun rest b s' => s' = s ∧ ∃ i hit, b = (none, hit) ∧ rest = (List.range' i (es.size - i)).filter (fun i => (es[i]?.map (·.hash)) == some (k.hash w)) ∧ i ≤ es.size ∧
            ((hit = none ∧ ∀ (j : Nat) (p : Ent), j < i → xs[j]? = some p → p.1 ≠ k) ∨ ∃ (j : Nat) (p : Ent), hit = some j ∧ j < i ∧ xs[j]? = some p ∧ p.1 = k)) _ ?_ ?_ _ _
          ⟨rfl, 0, none, rfl, by rw [placesWithHash, List.range_eq_range', Nat.sub_zero], Nat.zero_le _, .inl ⟨rfl, fun _ _ h => absurd h (Nat.not_lt_zero _)⟩⟩
        · rintro x rest b s' ⟨rfl, i, hit, rfl, hr, hi, hH⟩
          obtain ⟨hix, hxn, hpx, hskip, hrest⟩ := filter_range'_cons _ _ _ _ _ hr.symm
          have hlt : x < es.size := by omega
          have hrest' : rest = (List.range' (x + 1) (es.size - (x + 1))).filter (fun i => (es[i]?.map (·.hash)) == some (k.hash w)) := by rw [hrest]; congr 2; omega
          obtain ⟨y, hy⟩ : ∃ y, xs[x]? = some y := ⟨xs[x]'(by rw [← hsz]; exact hlt), List.getElem?_eq_getElem _⟩
          have hib := his y (List.mem_of_getElem? hy)
          have hex : es[x]? = some (entN w y) := by rw [ent_at he x, hy]; rfl
          have hHx : (hit = none ∧ ∀ (j : Nat) (p : Ent), j < x → xs[j]? = some p → p.1 ≠ k) ∨ ∃ (j : Nat) (p : Ent), hit = some j ∧ j < x ∧ xs[j]? = some p ∧ p.1 = k := by
            rcases hH with ⟨h0, hno⟩ | ⟨j, p, h1, hji, hj⟩
            · refine .inl ⟨h0, fun j p hjx hj hc => ?_⟩
              rcases Nat.lt_or_ge j i with h | h
              · exact hno j p h hj hc
              · have := hskip j h hjx
                rw [haskey j p hj hc] at this
                exact absurd this (by decide)
            · exact .inr ⟨j, p, h1, by omega, hj⟩
          have hstay : ¬ y.1 = k → ((hit = none ∧ ∀ (j : Nat) (p : Ent), j < x + 1 → xs[j]? = some p → p.1 ≠ k) ∨ ∃ (j : Nat) (p : Ent), hit = some j ∧ j < x + 1 ∧ xs[j]? = some p ∧ p.1 = k) := by
            intro hne
            rcases hHx with ⟨h0, hno⟩ | ⟨j, p, h1, hjx, hj⟩
            · refine .inl ⟨h0, fun j p hjx hj hc => ?_⟩
              rcases Nat.lt_or_ge j x with h | h
              · exact hno j p h hj hc
              · have hjx' : j = x := by omega
                subst hjx'
                rw [hy] at hj
                cases hj
                exact hne hc
            · exact .inr ⟨j, p, h1, by omega, hj⟩
          rw [hex]
          dsimp only
          by_cases hh : ((entN w y).hash == k.hash w) = true
          · rw [if_pos hh]
            refine wpAny_bind (wpAny_dictEpoch ho hd (wpAny_bind (eqB_key hu hib hkey (wpAny_bind (wpAny_dictEpoch ho hd ?_)))))
            show wpAny _ _ (if (ep != ep) = true then _ else _) _ E _
            rw [if_neg (by simp)]
            by_cases hkk : y.1 = k
            · rw [beq_iff.mpr hkk]
              rcases hHx with ⟨rfl, _⟩ | ⟨j, p, _, hjx, hj, hc⟩
              · first | rw [if_pos rfl] | skip
                simp only [Option.isSome_none, Bool.false_eq_true, if_false]
                first | refine wpAny_bind (wpAny_pure ?_) | skip
                refine wpAny_bind (wpAny_rule ?_)
                split
                · exact wpAny_pure (wpAny_pure (by rw [ixK_of hn hy hkk] at h; exact h))
                · exact wpAny_pure ⟨rfl, x + 1, some x, rfl, hrest', hlt, .inr ⟨x, _, rfl, Nat.lt_succ_self x, hy, hkk⟩⟩
              · exact absurd (ix_uniq hn hj hy (hc.trans hkk.symm)) (by omega)
            · rw [beq_ff.mpr hkk]
              simp only [Bool.false_eq_true, if_false]
              refine wpAny_bind (wpAny_rule ?_)
              first | rw [if_neg (by simp)] | skip
              first
                | exact wpAny_pure ⟨rfl, x + 1, hit, rfl, hrest', hlt, hstay hkk⟩
                | exact wpAny_bind (wpAny_pure (wpAny_pure ⟨rfl, x + 1, hit, rfl, hrest', hlt, hstay hkk⟩))
          · rw [if_neg hh]
            refine wpAny_pure ⟨rfl, x + 1, hit, rfl, hrest', hlt, hstay ?_⟩
            intro hkk
            simp [entN, hkk] at hh
        · rintro b s' ⟨rfl, i, hit, rfl, hr, hi, hH⟩
          have hall : ∀ j, i ≤ j → j < es.size → ((es[j]?.map (·.hash)) == some (k.hash w)) = false := by
            intro j h1 h2
            have := List.filter_eq_nil_iff.mp hr.symm j (List.mem_range'_1.mpr ⟨h1, by omega⟩)
            simpa using this
          rcases hH with ⟨rfl, hno⟩ | ⟨j, p, rfl, _, hj, hc⟩
          · refine wpAny_pure ?_
            have e : ixK xs k = none := ixK_none fun j p hj hc => by
              rcases Nat.lt_or_ge j i with h | h
              · exact hno j p h hj hc
              · have hjl : j < es.size := by
                  rw [hsz]
                  exact (List.getElem?_eq_some_iff.mp hj).1
                have := hall j h hjl
                rw [haskey j p hj hc] at this
                exact absurd this (by decide)
            rw [e] at h
            exact h
          · refine wpAny_pure ?_
            rw [ixK_of hn hj hc] at h
            exact h)
  · by_cases hcv : ((Value.bool b :: (placesWithHash es.size (fun i => es[i]?.map (·.hash)) (k.hash w)).filterMap fun i => es[i]?.map (·.key)).all carriedByValue) = true
    · rw [if_pos hcv]; exact hw
    · rw [if_neg hcv]
      by_cases hone : (((placesWithHash es.size (fun i => es[i]?.map (·.hash)) (k.hash w)).filterMap (fun i => es[i]?.map (·.key))) == [Value.bool b]) = true <;>
      (first | rw [if_pos hone] | rw [if_neg hone]) <;> (first | refine wpAny_bind (wpAny_pure ?_) | refine wpAny_bind (mayTell_quiet hkey hst ?_)) <;> (
        rw [if_neg (by simp)]
        refine wpAny_bind ?_
        refine wpAny_forIn_list _
          (fun rest b s' => s' = s ∧ ∃ i hit, b = (none, hit) ∧ rest = (List.range' i (es.size - i)).filter (fun i => (es[i]?.map (·.hash)) == some (k.hash w)) ∧ i ≤ es.size ∧
            ((hit = none ∧ ∀ (j : Nat) (p : Ent), j < i → xs[j]? = some p → p.1 ≠ k) ∨ ∃ (j : Nat) (p : Ent), hit = some j ∧ j < i ∧ xs[j]? = some p ∧ p.1 = k)) _ ?_ ?_ _ _
          ⟨rfl, 0, none, rfl, by rw [placesWithHash, List.range_eq_range', Nat.sub_zero], Nat.zero_le _, .inl ⟨rfl, fun _ _ h => absurd h (Nat.not_lt_zero _)⟩⟩
        · rintro x rest b s' ⟨rfl, i, hit, rfl, hr, hi, hH⟩
          obtain ⟨hix, hxn, hpx, hskip, hrest⟩ := filter_range'_cons _ _ _ _ _ hr.symm
          have hlt : x < es.size := by omega
          have hrest' : rest = (List.range' (x + 1) (es.size - (x + 1))).filter (fun i => (es[i]?.map (·.hash)) == some (k.hash w)) := by rw [hrest]; congr 2; omega
          obtain ⟨y, hy⟩ : ∃ y, xs[x]? = some y := ⟨xs[x]'(by rw [← hsz]; exact hlt), List.getElem?_eq_getElem _⟩
          have hib := his y (List.mem_of_getElem? hy)
          have hex : es[x]? = some (entN w y) := by rw [ent_at he x, hy]; rfl
          have hHx : (hit = none ∧ ∀ (j : Nat) (p : Ent), j < x → xs[j]? = some p → p.1 ≠ k) ∨ ∃ (j : Nat) (p : Ent), hit = some j ∧ j < x ∧ xs[j]? = some p ∧ p.1 = k := by
            rcases hH with ⟨h0, hno⟩ | ⟨j, p, h1, hji, hj⟩
            · refine .inl ⟨h0, fun j p hjx hj hc => ?_⟩
              rcases Nat.lt_or_ge j i with h | h
              · exact hno j p h hj hc
              · have := hskip j h hjx
                rw [haskey j p hj hc] at this
                exact absurd this (by decide)
            · exact .inr ⟨j, p, h1, by omega, hj⟩
          have hstay : ¬ y.1 = k → ((hit = none ∧ ∀ (j : Nat) (p : Ent), j < x + 1 → xs[j]? = some p → p.1 ≠ k) ∨ ∃ (j : Nat) (p : Ent), hit = some j ∧ j < x + 1 ∧ xs[j]? = some p ∧ p.1 = k) := by
            intro hne
            rcases hHx with ⟨h0, hno⟩ | ⟨j, p, h1, hjx, hj⟩
            · refine .inl ⟨h0, fun j p hjx hj hc => ?_⟩
              rcases Nat.lt_or_ge j x with h | h
              · exact hno j p h hj hc
              · have hjx' : j = x := by omega
                subst hjx'
                rw [hy] at hj
                cases hj
                exact hne hc
            · exact .inr ⟨j, p, h1, by omega, hj⟩
          rw [hex]
          dsimp only
          by_cases hh : ((entN w y).hash == k.hash w) = true
          · rw [if_pos hh]
            refine wpAny_bind (wpAny_dictEpoch ho hd (wpAny_bind (eqB_key hu hib hkey (wpAny_bind (wpAny_dictEpoch ho hd ?_)))))
            show wpAny _ _ (if (ep != ep) = true then _ else _) _ E _
            rw [if_neg (by simp)]
            by_cases hkk : y.1 = k
            · rw [beq_iff.mpr hkk]
              rcases hHx with ⟨rfl, _⟩ | ⟨j, p, _, hjx, hj, hc⟩
              · first | rw [if_pos rfl] | skip
                simp only [Option.isSome_none, Bool.false_eq_true, if_false]
                first | refine wpAny_bind (wpAny_pure ?_) | skip
                refine wpAny_bind (wpAny_rule ?_)
                split
                · exact wpAny_pure (wpAny_pure (by rw [ixK_of hn hy hkk] at h; exact h))
                · exact wpAny_pure ⟨rfl, x + 1, some x, rfl, hrest', hlt, .inr ⟨x, _, rfl, Nat.lt_succ_self x, hy, hkk⟩⟩
              · exact absurd (ix_uniq hn hj hy (hc.trans hkk.symm)) (by omega)
            · rw [beq_ff.mpr hkk]
              simp only [Bool.false_eq_true, if_false]
              refine wpAny_bind (wpAny_rule ?_)
              first | rw [if_neg (by simp)] | skip
              first
                | exact wpAny_pure ⟨rfl, x + 1, hit, rfl, hrest', hlt, hstay hkk⟩
                | exact wpAny_bind (wpAny_pure (wpAny_pure ⟨rfl, x + 1, hit, rfl, hrest', hlt, hstay hkk⟩))
          · rw [if_neg hh]
            refine wpAny_pure ⟨rfl, x + 1, hit, rfl, hrest', hlt, hstay ?_⟩
            intro hkk
            simp [entN, hkk] at hh
        · rintro b s' ⟨rfl, i, hit, rfl, hr, hi, hH⟩
          have hall : ∀ j, i ≤ j → j < es.size → ((es[j]?.map (·.hash)) == some (k.hash w)) = false := by
            intro j h1 h2
            have := List.filter_eq_nil_iff.mp hr.symm j (List.mem_range'_1.mpr ⟨h1, by omega⟩)
            simpa using this
          rcases hH with ⟨rfl, hno⟩ | ⟨j, p, rfl, _, hj, hc⟩
          · refine wpAny_pure ?_
            have e : ixK xs k = none := ixK_none fun j p hj hc => by
              rcases Nat.lt_or_ge j i with h | h
              · exact hno j p h hj hc
              · have hjl : j < es.size := by
                  rw [hsz]
                  exact (List.getElem?_eq_some_iff.mp hj).1
                have := hall j h hjl
                rw [haskey j p hj hc] at this
                exact absurd this (by decide)
            rw [e] at h
            exact h
          · refine wpAny_pure ?_
            rw [ixK_of hn hj hc] at h
            exact h)
  · by_cases hcv : ((Value.int i t :: (placesWithHash es.size (fun i => es[i]?.map (·.hash)) (k.hash w)).filterMap fun i => es[i]?.map (·.key)).all carriedByValue) = true
    · rw [if_pos hcv]; exact hw
    · rw [if_neg hcv]
      by_cases hone : (((placesWithHash es.size (fun i => es[i]?.map (·.hash)) (k.hash w)).filterMap (fun i => es[i]?.map (·.key))) == [Value.int i t]) = true <;>
      (first | rw [if_pos hone] | rw [if_neg hone]) <;> (first | refine wpAny_bind (wpAny_pure ?_) | refine wpAny_bind (mayTell_quiet hkey hst ?_)) <;> (
        rw [if_neg (by simp)]
        refine wpAny_bind ?_
        refine wpAny_forIn_list _
          (fun rest b s' => s' = s ∧ ∃ i hit, b = (none, hit) ∧ rest = (List.range' i (es.size - i)).filter (fun i => (es[i]?.map (·.hash)) == some (k.hash w)) ∧ i ≤ es.size ∧
            ((hit = none ∧ ∀ (j : Nat) (p : Ent), j < i → xs[j]? = some p → p.1 ≠ k) ∨ ∃ (j : Nat) (p : Ent), hit = some j ∧ j < i ∧ xs[j]? = some p ∧ p.1 = k)) _ ?_ ?_ _ _
          ⟨rfl, 0, none, rfl, by rw [placesWithHash, List.range_eq_range', Nat.sub_zero], Nat.zero_le _, .inl ⟨rfl, fun _ _ h => absurd h (Nat.not_lt_zero _)⟩⟩
        · rintro x rest b s' ⟨rfl, i, hit, rfl, hr, hi, hH⟩
          obtain ⟨hix, hxn, hpx, hskip, hrest⟩ := filter_range'_cons _ _ _ _ _ hr.symm
          have hlt : x < es.size := by omega
          have hrest' : rest = (List.range' (x + 1) (es.size - (x + 1))).filter (fun i => (es[i]?.map (·.hash)) == some (k.hash w)) := by rw [hrest]; congr 2; omega
          obtain ⟨y, hy⟩ : ∃ y, xs[x]? = some y := ⟨xs[x]'(by rw [← hsz]; exact hlt), List.getElem?_eq_getElem _⟩
          have hib := his y (List.mem_of_getElem? hy)
          have hex : es[x]? = some (entN w y) := by rw [ent_at he x, hy]; rfl
          have hHx : (hit = none ∧ ∀ (j : Nat) (p : Ent), j < x → xs[j]? = some p → p.1 ≠ k) ∨ ∃ (j : Nat) (p : Ent), hit = some j ∧ j < x ∧ xs[j]? = some p ∧ p.1 = k := by
            rcases hH with ⟨h0, hno⟩ | ⟨j, p, h1, hji, hj⟩
            · refine .inl ⟨h0, fun j p hjx hj hc => ?_⟩
              rcases Nat.lt_or_ge j i with h | h
              · exact hno j p h hj hc
              · have := hskip j h hjx
                rw [haskey j p hj hc] at this
                exact absurd this (by decide)
            · exact .inr ⟨j, p, h1, by omega, hj⟩
          have hstay : ¬ y.1 = k → ((hit = none ∧ ∀ (j : Nat) (p : Ent), j < x + 1 → xs[j]? = some p → p.1 ≠ k) ∨ ∃ (j : Nat) (p : Ent), hit = some j ∧ j < x + 1 ∧ xs[j]? = some p ∧ p.1 = k) := by
            intro hne
            rcases hHx with ⟨h0, hno⟩ | ⟨j, p, h1, hjx, hj⟩
            · refine .inl ⟨h0, fun j p hjx hj hc => ?_⟩
              rcases Nat.lt_or_ge j x with h | h
              · exact hno j p h hj hc
              · have hjx' : j = x := by omega
                subst hjx'
                rw [hy] at hj
                cases hj
                exact hne hc
            · exact .inr ⟨j, p, h1, by omega, hj⟩
          rw [hex]
          dsimp only
          by_cases hh : ((entN w y).hash == k.hash w) = true
          · rw [if_pos hh]
            refine wpAny_bind (wpAny_dictEpoch ho hd (wpAny_bind (eqB_key hu hib hkey (wpAny_bind (wpAny_dictEpoch ho hd ?_)))))
            show wpAny _ _ (if (ep != ep) = true then _ else _) _ E _
            rw [if_neg (by simp)]
            by_cases hkk : y.1 = k
            · rw [beq_iff.mpr hkk]
              rcases hHx with ⟨rfl, _⟩ | ⟨j, p, _, hjx, hj, hc⟩
              · first | rw [if_pos rfl] | skip
                simp only [Option.isSome_none, Bool.false_eq_true, if_false]
                first | refine wpAny_bind (wpAny_pure ?_) | skip
                refine wpAny_bind (wpAny_rule ?_)
                split
                · exact wpAny_pure (wpAny_pure (by rw [ixK_of hn hy hkk] at h; exact h))
                · exact wpAny_pure ⟨rfl, x + 1, some x, rfl, hrest', hlt, .inr ⟨x, _, rfl, Nat.lt_succ_self x, hy, hkk⟩⟩
              · exact absurd (ix_uniq hn hj hy (hc.trans hkk.symm)) (by omega)
            · rw [beq_ff.mpr hkk]
              simp only [Bool.false_eq_true, if_false]
              refine wpAny_bind (wpAny_rule ?_)
              first | rw [if_neg (by simp)] | skip
              first
                | exact wpAny_pure ⟨rfl, x + 1, hit, rfl, hrest', hlt, hstay hkk⟩
                | exact wpAny_bind (wpAny_pure (wpAny_pure ⟨rfl, x + 1, hit, rfl, hrest', hlt, hstay hkk⟩))
          · rw [if_neg hh]
            refine wpAny_pure ⟨rfl, x + 1, hit, rfl, hrest', hlt, hstay ?_⟩
            intro hkk
            simp [entN, hkk] at hh
        · rintro b s' ⟨rfl, i, hit, rfl, hr, hi, hH⟩
          have hall : ∀ j, i ≤ j → j < es.size → ((es[j]?.map (·.hash)) == some (k.hash w)) = false := by
            intro j h1 h2
            have := List.filter_eq_nil_iff.mp hr.symm j (List.mem_range'_1.mpr ⟨h1, by omega⟩)
            simpa using this
          rcases hH with ⟨rfl, hno⟩ | ⟨j, p, rfl, _, hj, hc⟩
          · refine wpAny_pure ?_
            have e : ixK xs k = none := ixK_none fun j p hj hc => by
              rcases Nat.lt_or_ge j i with h | h
              · exact hno j p h hj hc
              · have hjl : j < es.size := by
                  rw [hsz]
                  exact (List.getElem?_eq_some_iff.mp hj).1
                have := hall j h hjl
                rw [haskey j p hj hc] at this
                exact absurd this (by decide)
            rw [e] at h
            exact h
          · refine wpAny_pure ?_
            rw [ixK_of hn hj hc] at h
            exact h)

/-! ### the operations -/
variable {d : Addr} {xs : List Ent} {k : NestedKey} {key : Value}
theorem IsDN.typeIs {s : Shared} (hm : IsDN w s.heap d xs) : s.TypeIs (.ref d) "dict" :=
  let ⟨o, _, _, ho, hc, _⟩ := hm; ⟨o, ho, hc.1⟩
def valN (xs : List Ent) (k : NestedKey) : Option Value := (ixK xs k).bind fun i => xs[i]?.map (·.2.2)
def putN (xs : List Ent) (k : NestedKey) (key v : Value) : List Ent := match ixK xs k with
  | some i => xs.modify i fun x => (x.1, x.2.1, v)
  | none => xs ++ [(k, key, v)]

theorem dictGet_n {Q : Option Value → Shared → Prop} (hu : A.units + 8 < cLine) (hkey : NestedIs s.heap k key ∧ k.depth ≤ 8) (hm : IsDN w s.heap d xs)
    (h : ∀ tk, Q (valN xs k) { s with toks := tk }) : wpAny (model prog w) A (dictGet d key) Q E s := by
  obtain ⟨o, es, ep, ho, _, hd, he, his, hn⟩ := hm
  unfold dictGet
  try with_reducible refine wpAny_holding ?_
  refine wpAny_bind (pyHash_key k _ A s _ hkey.1 (by have := hkey.2; omega) (wpAny_bind (dictFind_n (s := { s with toks := s.toks + k.draws }) hu hkey ho hd he his hn ?_)))
  cases hf : ixK xs k with
  | none =>
    have h := h (s.toks + k.draws)
    unfold valN at h
    rw [hf] at h
    exact wpAny_pure h
  | some i =>
    have h := h (s.toks + k.draws)
    unfold valN at h
    rw [hf] at h
    refine wpAny_bind (wpAny_dictEntries (s := { s with toks := s.toks + k.draws }) ho hd ?_)
    rw [ent_at he i]
    refine wpAny_pure ?_
    have e : Option.map (fun x => x.val) (Option.map (entN w) xs[i]?) = (some i).bind fun i => xs[i]?.map (·.2.2) := by
      rw [Option.map_map]; rfl
    rw [e]
    exact h

theorem modify_ent {xs : List Ent} {i : Nat} {v : Value} : (xs.map (entN w)).modify i (fun e : DictEntry => { e with val := v }) = (xs.modify i fun x => (x.1, x.2.1, v)).map (entN w) := by
  apply List.ext_getElem?
  intro j
  simp only [List.getElem?_map, List.getElem?_modify]
  cases xs[j]? with
  | none => rfl
  | some a => by_cases h : i = j <;> simp [h, entN]
theorem keys_modify {xs : List Ent} {i : Nat} {v : Value} : (xs.modify i fun x => (x.1, x.2.1, v)).map (·.1) = xs.map (·.1) := by
  apply List.ext_getElem?
  intro j
  simp only [List.getElem?_map, List.getElem?_modify]
  cases xs[j]? with
  | none => rfl
  | some a => by_cases h : i = j <;> simp [h]
theorem mem_modify {xs : List Ent} {i : Nat} {v : Value} {x : Ent} (h : x ∈ xs.modify i fun x => (x.1, x.2.1, v)) : ∃ y ∈ xs, x.1 = y.1 ∧ x.2.1 = y.2.1 := by
  obtain ⟨j, hj⟩ := List.mem_iff_getElem?.mp h
  rw [List.getElem?_modify] at hj
  cases q : xs[j]? with
  | none => rw [q] at hj; simp at hj
  | some a =>
    rw [q] at hj
    refine ⟨a, List.mem_of_getElem? q, ?_⟩
    by_cases e : i = j <;> simp [e] at hj <;> (subst hj; exact ⟨rfl, rfl⟩)

theorem keeps_n {h h' : Heap} {o : Obj} {es ep} {k : NestedKey} {v : Value} (x : NestedIs h k v) (ho : h.get? d = some o) (hd : o.data = .dict es ep) (hs : Heap.SameBut d h h') : NestedIs h' k v :=
  NestedIs.at (fun b ob vs n hb hc => by
    refine (hs.2 b fun e => ?_).trans hb
    subst e
    rw [ho] at hb
    cases hb
    rw [hd] at hc
    cases hc) k _ x

theorem dictSet_n {v : Value} {Q : Unit → Shared → Prop} (hu : A.units + 8 < cLine) (hkey : NestedIs s.heap k key ∧ k.depth ≤ 8) (hm : IsDN w s.heap d xs)
    (hQ : ∀ h' tk, IsDN w h' d (putN xs k key v) → Heap.SameBut d s.heap h' → Q () { s with heap := h', toks := tk }) (hsz : xs.length ≤ sizeLine) :
    wpAny (model prog w) A (dictSet d key v) Q E s := by
  obtain ⟨o, es, ep, ho, hc, hd, he, his, hn⟩ := hm
  unfold dictSet
  try with_reducible refine wpAny_holding ?_
  refine wpAny_bind (pyHash_key k _ A s _ hkey.1 (by have := hkey.2; omega) ?_)
  unfold dictSetHashed
  try with_reducible refine wpAny_holding ?_
  refine wpAny_bind (dictFind_n (s := { s with toks := s.toks + k.draws }) hu hkey ho hd he his hn ?_)
  cases hf : ixK xs k with
  | none =>
    refine wpAny_bind (wpAny_rule (wpAny_updateDictKeys (hz := by have e := ent_size he; omega) (s := { s with toks := s.toks + k.draws }) ho hd (hQ _ _ ⟨_, _, ep + 1, Heap.get?_update_self _ ho (Obj.isFreed_of_dict (Obj.data_mapDictKeys hd _)),
      hc.mapDictKeys _, Obj.data_mapDictKeys hd _, ?_, ?_, ?_⟩ (Heap.SameBut.update ..))))
    · unfold putN; rw [hf]
      simp [he, entN]
    · unfold putN; rw [hf]
      intro x hx
      rcases List.mem_append.mp hx with hx | hx
      · exact ⟨keeps_n (his x hx).1 ho hd (Heap.SameBut.update ..), (his x hx).2⟩
      · simp only [List.mem_singleton] at hx
        subst hx
        exact ⟨keeps_n hkey.1 ho hd (Heap.SameBut.update ..), hkey.2⟩
    · unfold putN; rw [hf]
      rw [List.map_append, List.nodup_append]
      refine ⟨hn, by simp, ?_⟩
      intro x hx y hy
      simp only [List.map_cons, List.map_nil, List.mem_singleton] at hy
      subst hy
      obtain ⟨z, hz, rfl⟩ := List.mem_map.mp hx
      have := List.findIdx?_eq_none_iff.mp hf z hz
      exact beq_ff.mp this
  | some i =>
    refine wpAny_bind (wpAny_rule (wpAny_bind (wpAny_updateDict (s := { s with toks := s.toks + k.draws }) ho hd (wpAny_point (hQ _ _ ⟨_, _, ep, Heap.get?_update_self _ ho (Obj.isFreed_of_dict (Obj.data_mapDict hd _)),
      hc.mapDict _, Obj.data_mapDict hd _, ?_, ?_, ?_⟩ (Heap.SameBut.update ..))))))
    · unfold putN; rw [hf]
      have := modify_ent (w := w) (xs := xs) (i := i) (v := v)
      rw [← he] at this
      obtain ⟨l⟩ := es
      simpa using this
    · unfold putN; rw [hf]
      intro x hx
      obtain ⟨y, hy, e1, e2⟩ := mem_modify hx
      rw [e1, e2]
      exact ⟨keeps_n (his y hy).1 ho hd (Heap.SameBut.update ..), (his y hy).2⟩
    · unfold putN; rw [hf]
      show ((xs.modify i _).map _).Nodup
      rw [keys_modify]; exact hn

theorem contains_n {Q : Bool → Shared → Prop} (hu : A.units + 9 < cLine) (hkey : NestedIs s.heap k key ∧ k.depth ≤ 8) (hd : (d == sysModules) = false) (hm : IsDN w s.heap d xs)
    (h : ∀ tk, Q (valN xs k).isSome { s with toks := tk }) : wpAny (model prog w) A (contains (.ref d) key) Q E s := by
  refine wpAny_contains_slot hm.typeIs F.slot_dict_contains ?_
  refine call_meetsIn F.slot_dict_contains hm.typeIs F.entry_dict_contains (F.args_dict_contains_2 _ _) (S := fun A' R s' => A' = A ∧ s' = s ∧ ∀ tk, R (.ok (.ret (.bool (valN xs k).isSome))) { s with toks := tk }) (fun A' R s' hS => ?_) ⟨rfl, rfl, fun tk => wpAny_truthy_bool (h tk)⟩
  obtain ⟨rfl, rfl, hq⟩ := hS
  show wpAny _ _ (dictGet d key >>= _) _ _ _
  refine wpAny_bind (dictGet_n (by show A'.units + 1 + 8 < cLine; omega) hkey hm fun tk => ?_)
  have hq := hq tk
  cases hf : valN xs k with
  | some p =>
    rw [hf] at hq
    show wpAny _ _ (ret (.bool true)) _ _ _
    exact wpAny_pure hq
  | none =>
    rw [hf] at hq
    show wpAny _ _ (Builtin.Dict.pendingKey? d key >>= _) _ _ _
    exact wpAny_bind (wpAny_pendingKey_other hd (wpAny_pure hq))
theorem in_n {Q : Value → Shared → Prop} (hu : A.units + 9 < cLine) (hkey : NestedIs s.heap k key ∧ k.depth ≤ 8) (hd : (d == sysModules) = false) (hm : IsDN w s.heap d xs)
    (h : ∀ tk, Q (.bool (valN xs k).isSome) { s with toks := tk }) : wpAny (model prog w) A (compareOp .In key (.ref d)) Q E s := by
  show wpAny _ _ (do return .bool (← contains (.ref d) key)) Q E s
  exact wpAny_bind (contains_n hu hkey hd hm fun tk => wpAny_pure (h tk))
theorem notIn_n {Q : Value → Shared → Prop} (hu : A.units + 9 < cLine) (hkey : NestedIs s.heap k key ∧ k.depth ≤ 8) (hd : (d == sysModules) = false) (hm : IsDN w s.heap d xs)
    (h : ∀ tk, Q (.bool (!(valN xs k).isSome)) { s with toks := tk }) : wpAny (model prog w) A (compareOp .NotIn key (.ref d)) Q E s := by
  show wpAny _ _ (do return .bool (!(← contains (.ref d) key))) Q E s
  exact wpAny_bind (contains_n hu hkey hd hm fun tk => wpAny_pure (h tk))
theorem getItem_n {v : Value} {Q : Value → Shared → Prop} (hu : A.units + 9 < cLine) (hkey : NestedIs s.heap k key ∧ k.depth ≤ 8) (hm : IsDN w s.heap d xs) (hv : valN xs k = some v)
    (h : ∀ tk, Q v { s with toks := tk }) : wpAny (model prog w) A (getItem (.ref d) key) Q E s := by
  unfold getItem
  try with_reducible refine wpAny_holding ?_
  refine wpAny_bind (wpAny_sequenceKey hm.typeIs (by decide) ?_)
  refine wpAny_bind (wpAny_callSpecial?_slot (name := Str.ofString "__getitem__") hm.typeIs slot_dict_getitem
    (wpAny_call_entry slot_dict_getitem hm.typeIs entry_dict_getitem ?_ (args_dict_getitem _ _)))
  show wpAny _ _ (dictGet d key >>= _) _ _ s
  refine wpAny_bind (dictGet_n (by show A.units + 1 + 8 < cLine; omega) hkey hm fun tk => ?_)
  rw [hv]
  exact wpAny_pure ⟨v, rfl, wpAny_pure (h tk)⟩
theorem setItem_n {v : Value} {Q : Unit → Shared → Prop} (hu : A.units + 9 < cLine) (hkey : NestedIs s.heap k key ∧ k.depth ≤ 8) (hm : IsDN w s.heap d xs)
    (hQ : ∀ h' tk, IsDN w h' d (putN xs k key v) → Heap.SameBut d s.heap h' → Q () { s with heap := h', toks := tk }) (hsz : xs.length ≤ sizeLine) :
    wpAny (model prog w) A (setItem (.ref d) key v) Q E s := by
  unfold setItem
  try with_reducible refine wpAny_holding ?_
  refine wpAny_bind (wpAny_sequenceKey hm.typeIs (by decide) ?_)
  refine wpAny_bind (wpAny_callSpecial?_slot (name := Str.ofString "__setitem__") hm.typeIs slot_dict_setitem
    (wpAny_call_entry slot_dict_setitem hm.typeIs entry_dict_setitem ?_ (args_dict_setitem _ _ _)))
  show wpAny _ _ (Builtin.Dict.notOrdered "__setitem__" ⟨[.ref d, key, v], []⟩ >>= _) _ _ s
  refine wpAny_bind (wpAny_notOrdered_dict hm.typeIs ?_)
  show wpAny _ _ (dictSet d key v >>= _) _ _ s
  exact wpAny_bind (dictSet_n (by show A.units + 1 + 8 < cLine; omega) hkey hm (fun h' tk hm' hs' => wpAny_pure ⟨.none, rfl, wpAny_pure (hQ h' tk hm' hs')⟩) hsz)
theorem get1_n {Q : Value → Shared → Prop} (hu : A.units + 9 < cLine) (hkey : NestedIs s.heap k key ∧ k.depth ≤ 8) (hd : (d == sysModules) = false) (hm : IsDN w s.heap d xs)
    (h : ∀ tk, Q ((valN xs k).getD .none) { s with toks := tk }) : wpAny (model prog w) A (call (.builtin "dict.get") [.ref d, key]) Q E s := by
  refine call_meetsIn F.slot_dict_get hm.typeIs F.entry_dict_get (F.args_dict_get_2 _ _) (S := fun A' R s' => A' = A ∧ s' = s ∧ ∀ tk, R (.ok (.ret ((valN xs k).getD .none))) { s with toks := tk }) (fun A' R s' hS => ?_) ⟨rfl, rfl, h⟩
  obtain ⟨rfl, rfl, hq⟩ := hS
  show wpAny _ _ (dictGet d key >>= _) _ _ _
  refine wpAny_bind (dictGet_n (by show A'.units + 1 + 8 < cLine; omega) hkey hm fun tk => ?_)
  have hq := hq tk
  cases hf : valN xs k with
  | some v =>
    rw [hf] at hq
    exact wpAny_pure hq
  | none =>
    rw [hf] at hq
    show wpAny _ _ (Builtin.Dict.missed d key >>= _) _ _ _
    exact wpAny_bind (wpAny_missed_other hd (wpAny_pure hq))
theorem get2_n {dflt : Value} {Q : Value → Shared → Prop} (hu : A.units + 9 < cLine) (hkey : NestedIs s.heap k key ∧ k.depth ≤ 8) (hd : (d == sysModules) = false) (hm : IsDN w s.heap d xs)
    (h : ∀ tk, Q ((valN xs k).getD dflt) { s with toks := tk }) : wpAny (model prog w) A (call (.builtin "dict.get") [.ref d, key, dflt]) Q E s := by
  refine call_meetsIn F.slot_dict_get hm.typeIs F.entry_dict_get (F.args_dict_get_3 _ _ _) (S := fun A' R s' => A' = A ∧ s' = s ∧ ∀ tk, R (.ok (.ret ((valN xs k).getD dflt))) { s with toks := tk }) (fun A' R s' hS => ?_) ⟨rfl, rfl, h⟩
  obtain ⟨rfl, rfl, hq⟩ := hS
  show wpAny _ _ (dictGet d key >>= _) _ _ _
  refine wpAny_bind (dictGet_n (by show A'.units + 1 + 8 < cLine; omega) hkey hm fun tk => ?_)
  have hq := hq tk
  cases hf : valN xs k with
  | some v =>
    rw [hf] at hq
    exact wpAny_pure hq
  | none =>
    rw [hf] at hq
    show wpAny _ _ (Builtin.Dict.missed d key >>= _) _ _ _
    exact wpAny_bind (wpAny_missed_other hd (wpAny_pure hq))
end
end Lf

end
section
set_option Elab.async false
set_option linter.all false
set_option maxRecDepth 100000
set_option maxHeartbeats 4000000
set_option autoImplicit false
/-! LfT: tuples that are known to have no dict of their own: the rules that make them. -/
namespace Lf
open PySem PySem.Spec PyProof.Rows L2

def tupO (its : List Value) : Obj := { cls := .type "tuple", data := .seq its.toArray }
/-- what is wished of a new tuple -/
abbrev NewT (H : Hp) (xs : List V) (Q : VK) : Prop := ∀ p o, H p = none → o.dict = none → Q (.ref p) (upd H p (.frz o (.tup xs)))
def SqU (K : PySem.W.Frag) (H : Hp) (a : Addr) (xs : List V) : Prop := (∃ o, H a = some (.frz o (.tup xs)) ∧ o.dict = none) ∨
  ∃ (o : Obj) (its : Array Value) (n : Nat), K.lookup a = some o ∧ o.cls = .type "tuple" ∧ o.dict = none ∧ o.data = .seq its n ∧ its.size ≤ sizeLine ∧ Vals xs its.toList
theorem SqU.sq {K : PySem.W.Frag} {H : Hp} {a : Addr} {xs : List V} (h : SqU K H a xs) : SqT K H a xs := by
  rcases h with ⟨o, h, _⟩ | ⟨o, its, n, h1, h2, _, h3⟩
  · exact .inl (.inr ⟨o, h⟩)
  · exact .inr ⟨o, its, n, h1, h2, h3⟩
theorem SqU.new {K : PySem.W.Frag} {H : Hp} {p : Addr} {o : Obj} {xs : List V} (h : o.dict = none) : SqU K (upd H p (.frz o (.tup xs))) p xs := .inl ⟨o, upd_same, h⟩
section
variable {X : Cx} {pins : List (Addr × Obj)} {σ : L2.St} {H : Hp} {s : Shared}
theorem laid_t {its : List Value} {xs : List V} (I : Inv X pins σ H s) (hz : xs.length ≤ sizeLine) (r : Vals xs its) : Inv X pins σ (upd H s.heap.objs.size (.frz (tupO its) (.tup xs))) { s with heap := s.heap.push (tupO its) } :=
  I.laid (t' := s.toks) (o := .frz (tupO its) (.tup xs)) (fun b ob q => Heap.get?_push_of_some _ q) (Nat.le_refl _) ⟨Heap.get?_push_size _ rfl, hz, its, r, IsTup.new _ _⟩
theorem new_t {its : List Value} {xs : List V} {Q : VK} (I : Inv X pins σ H s) (hz : xs.length ≤ sizeLine) (r : Vals xs its) (q : NewT H xs Q) : EP X pins σ Q (.ref s.heap.objs.size) { s with heap := s.heap.push (tupO its) } :=
  ⟨.ref s.heap.objs.size, _, laid_t I hz r, rfl, q _ _ (I.hok.fresh (Nat.le_refl _)) rfl⟩
/-- the tuple at a, its object -/
theorem uTup {a : Addr} {xs : List V} (I : Inv X pins σ H s) (h : SqU X.K H a xs) : ∃ its o n, Vals xs its ∧ s.heap.get? a = some o ∧ o.cls = .type "tuple" ∧ o.dict = none ∧ o.data = .seq its.toArray n ∧ its.length ≤ sizeLine := by
  rcases h with ⟨o, h, hd⟩ | ⟨o, its, n, h1, h2, h3, h4, h5, h6⟩
  · obtain ⟨e, hz, its, r, o', ho, hc, n, hdt⟩ := I.hok a _ h
    rw [e] at ho
    cases ho
    exact ⟨its, o, n, r, e, hc, hd, hdt, by rw [← r.length]; exact hz⟩
  · exact ⟨its.toList, o, n, h6, I.kIn a o h1, h2, h3, by simpa using h4, by simpa using h5⟩
end
section
variable {X : Cx} {pos : Pos}
def tTupU (t : TA) : TE := fun σ H Q => t σ H fun xs H1 => xs.length ≤ sizeLine ∧ NewT H1 xs Q
theorem pe_tupU {es : List Expr} {t : TA} {x1} (h : PA X es t) : PE X (.Tuple es x1 pos) (tTupU t) := by
  refine ⟨fun pins s σ H Q I hq => ?_⟩
  refine wpAny_Tuple_spliced (thn (h.run pos pins s σ H _ I hq) fun us s1 ⟨xs, H1, I1, r, z, q⟩ => ⟨by rw [← r.length]; exact z, ?_⟩)
  exact new_t I1 z r q
def rSlU (K : PySem.W.Frag) : V → Option Int → Option Int → Hp → VK → Prop := fun x lo hi H Q => ∃ a xs, x = .ref a ∧ SqT K H a xs ∧
  (HT.sIx xs.length 0 lo = 0 ∧ HT.sIx xs.length xs.length hi = xs.length → Q (.ref a) H) ∧ (¬ (HT.sIx xs.length 0 lo = 0 ∧ HT.sIx xs.length xs.length hi = xs.length) → NewT H (cutV xs lo hi) Q)
theorem sl_tupU : SlR X (rSlU X.K) := by
  intro pins s σ H x v vl vu lo hi sl Q I rx hs pl pu h
  obtain ⟨a, xs, rfl, hx, q1, q2⟩ := h
  by_cases hw : HT.sIx xs.length 0 lo = 0 ∧ HT.sIx xs.length xs.length hi = xs.length
  · exact sl_tupA pins s σ H _ v vl vu lo hi sl Q I rx hs pl pu ⟨a, xs, rfl, hx, q1, fun z => absurd hw z⟩
  · cases rx
    obtain ⟨its, r, ht, hz⟩ := I.tuple hx
    have hlen : its.toArray.size = xs.length := by rw [List.size_toArray]; exact r.length.symm
    refine ⟨"tuple", _, PyProof.Rows.slot_tuple_getitem.lookup, ht.typeIs, ?_⟩
    refine HT.getItem_tuple_cut ht hs pl pu (by rw [hlen]; exact hw) ?_ (by rw [hlen]; exact hz)
    rw [hlen]
    exact new_t I (Nat.le_trans (cutV_length xs lo hi) hz) ((r.drop (HT.sIx xs.length 0 lo)).take (HT.sIx xs.length xs.length hi - HT.sIx xs.length 0 lo)) (q2 hw)
def rCatU (K : PySem.W.Frag) : R2 := fun x y H Q => ∃ a b xs ys, x = .ref a ∧ y = .ref b ∧ SqT K H a xs ∧ SqT K H b ys ∧ xs.length + ys.length ≤ sizeLine ∧
  (xs = [] → Q (.ref b) H) ∧ (xs ≠ [] → ys = [] → Q (.ref a) H) ∧ (xs ≠ [] → ys ≠ [] → NewT H (xs ++ ys) Q)
theorem op_catU : OpR X (binaryOp .Add) (rCatU X.K) := by
  intro pins s σ H x y v u Q I rx ry h
  obtain ⟨a, b, xs, ys, rfl, rfl, ha, hb, hz, q0, q1, q2⟩ := h
  by_cases hx : xs = []
  · exact op_catA pins s σ H _ _ v u Q I rx ry ⟨a, b, xs, ys, rfl, rfl, ha, hb, hz, q0, fun z => absurd hx z, fun z => absurd hx z⟩
  · cases rx
    cases ry
    obtain ⟨its, r1, p1, _⟩ := I.tuple ha
    obtain ⟨its2, r2, p2, _⟩ := I.tuple hb
    refine HT.cat_tup p1 p2 (fun z => hx (r1.nil_iff.mp z)) (fun z => ⟨.ref a, H, I, rfl, q1 hx (r2.nil_iff.mp z)⟩) (fun z => ?_) (by rw [← r1.length, ← r2.length]; exact hz)
    exact new_t I (by rw [List.length_append]; exact hz) (r1.append r2) (q2 hx fun w => z (r2.nil_iff.mpr w))
theorem call_tupU : CallR X (.type "tuple") (fun xs H Q => ∃ p ys, xs = [.ref p] ∧ ((SqL X.K H p ys ∧ NewT H ys Q) ∨ (SqT X.K H p ys ∧ Q (.ref p) H))) := by
  intro pins s σ H xs us Q I r h
  obtain ⟨p, ys, rfl, h⟩ := h
  obtain ⟨u, rfl, rx⟩ := vals1 r
  cases rx
  rcases h with ⟨hq, q⟩ | ⟨hq, q⟩
  · obtain ⟨its, r', pl, hz⟩ := I.list hq
    have hlen := r'.length
    refine call_tuple_list pl.isList (fun h' kp => ?_) (by simp only [List.size_toArray] <;> omega)
    have I1 : Inv X pins σ H { s with heap := h' } := I.kept (t' := s.toks) kp
    exact new_t I1 hz r' q
  · obtain ⟨its, r', pl, hz⟩ := I.tuple hq
    exact call_tuple_same pl ⟨.ref p, H, I, rfl, q⟩
/-! ### t * n -/
theorem tuple_mulS (l : Addr) (items : Array Value) (n : Nat) (dd : Option Addr) (sl : Array (Option Value)) (x : Int) (u : Tok) (c0 : (decide (x < -(2 ^ 63)) || decide (x ≥ 2 ^ 63)) = false) (c1 : (items.isEmpty || x == 1) = true) :
    Meets (Builtin.«tuple.__mul__» ⟨[.ref l, .int x u], []⟩) (fun _ R s => s.heap.get? l = some { cls := .type "tuple", dict := dd, data := .seq items n, slots := sl } ∧
      R (.ok (.ret (Value.ref l))) s) :=
  .of_wp fun prog w A R s h => by
    obtain ⟨hp, g, d, tk, os⟩ := s
    obtain ⟨hl, h⟩ := h
    have f1 := AutoSeq1.idx_int
    wp_walk using wpAny_loadPart' hl
    repeat (first
      | (refine wpAny_ite_false (decide_eq_false (by rw [c0]; exact Bool.false_ne_true)) ?_; wp_walk using wpAny_loadPart' hl)
      | (refine wpAny_ite_true (decide_eq_true (by rw [c1])) ?_; wp_walk using wpAny_loadPart' hl))
    exact ⟨_, rfl, h⟩
theorem tuple_mulZ (l : Addr) (items : Array Value) (n : Nat) (dd : Option Addr) (sl : Array (Option Value)) (x : Int) (u : Tok) (c0 : (decide (x < -(2 ^ 63)) || decide (x ≥ 2 ^ 63)) = false) (c1 : (items.isEmpty || x == 1) = false) (c2 : (decide (x ≤ 0) || items.isEmpty) = true) :
    Meets (Builtin.«tuple.__mul__» ⟨[.ref l, .int x u], []⟩) (fun _ R s => s.heap.get? l = some { cls := .type "tuple", dict := dd, data := .seq items n, slots := sl } ∧
      R (.ok (.ret (Value.ref s.heap.objs.size))) { s with heap := s.heap.push { cls := Value.type "tuple", data := Data.seq #[] }, toks := s.toks }) :=
  .of_wp fun prog w A R s h => by
    obtain ⟨hp, g, d, tk, os⟩ := s
    obtain ⟨hl, h⟩ := h
    have f1 := AutoSeq1.idx_int
    wp_walk using wpAny_loadPart' hl
    repeat (first
      | (refine wpAny_ite_false (decide_eq_false (by rw [c0]; exact Bool.false_ne_true)) ?_; wp_walk using wpAny_loadPart' hl)
      | (refine wpAny_ite_false (decide_eq_false (by rw [c1]; exact Bool.false_ne_true)) ?_; wp_walk using wpAny_loadPart' hl)
      | (refine wpAny_ite_true (decide_eq_true (by rw [c2])) ?_; wp_walk using wpAny_loadPart' hl))
    exact ⟨_, rfl, h⟩
/-- t * n, 0 <= n <= 1000: n = 1 or t = () gives t itself -/
def rRepU (K : PySem.W.Frag) : R2 := fun x y H Q => ∃ l k xs, x = .ref l ∧ y = .int k ∧ SqT K H l xs ∧ (0 ≤ k ∧ k ≤ 1000 ∧ xs.length ≤ 1000) ∧ ((k = 1 ∨ xs = []) → Q (.ref l) H) ∧ (¬ (k = 1 ∨ xs = []) → NewT H (List.replicate k.toNat xs).flatten Q)
theorem op_repU : OpR X (binaryOp .Mult) (rRepU X.K) := by
  intro pins s σ H x y v u Q I rx ry h
  obtain ⟨l, k, xs, rfl, rfl, hT, ⟨g1, g2, g3⟩, q1, q2⟩ := h
  cases rx
  obtain ⟨t, rfl⟩ := ry
  obtain ⟨its, r, ⟨⟨cls, dd, data, sl⟩, ho, hc, n, hd⟩, hs⟩ := I.tuple hT
  simp only at hc hd
  subst hc hd
  have hle : its.length = xs.length := r.length.symm
  have c0 : (decide (k < -(2 ^ 63)) || decide (k ≥ 2 ^ 63)) = false := by
    rw [decide_eq_false (by omega), decide_eq_false (by omega)] <;> rfl
  by_cases c1 : (its.toArray.isEmpty || k == 1) = true
  · have qq : Q (.ref l) H := by
      refine q1 ?_
      rcases (Bool.or_eq_true _ _).mp c1 with e | e
      · cases r with
        | nil => exact .inr rfl
        | cons _ _ => cases e
      · exact .inl (beq_iff_eq.mp e)
    exact wpAny_binaryOp_repeat_ref (T := "tuple") (U := "int") (by decide) ⟨_, ho, rfl⟩ (fun s' => typeIs_int s' k t) noFill_tuple_mul F.fills_int_mul F.slot_int_rmul repeat_tuple F.slot_int_index.lookup
      (call_meets F.slot_int_rmul (typeIs_int s k t) F.entry_int_rmul (F.args_int_rmul_2 _ _) (int_rmul_tuple k t l its.toArray n dd sl)
        ⟨ho, rfl, ⟨_, ho, rfl⟩, call_meets F.slot_tuple_mul ⟨_, ho, rfl⟩ F.entry_tuple_mul (F.args_tuple_mul_2 _ _) (tuple_mulS l its.toArray n dd sl k t c0 c1) ⟨ho, ⟨.ref l, H, I, rfl, qq⟩⟩⟩)
  · have c1 := Bool.eq_false_iff.mpr c1
    have hn1 : ¬ (k = 1 ∨ xs = []) := by
      rintro (rfl | rfl)
      · simp at c1
      · cases r
        cases c1
    have q := q2 hn1
    by_cases hk : k = 0
    · subst hk
      exact wpAny_binaryOp_repeat_ref (T := "tuple") (U := "int") (by decide) ⟨_, ho, rfl⟩ (fun s' => typeIs_int s' 0 t) noFill_tuple_mul F.fills_int_mul F.slot_int_rmul repeat_tuple F.slot_int_index.lookup
        (call_meets F.slot_int_rmul (typeIs_int s 0 t) F.entry_int_rmul (F.args_int_rmul_2 _ _) (int_rmul_tuple 0 t l its.toArray n dd sl)
          ⟨ho, rfl, ⟨_, ho, rfl⟩, call_meets F.slot_tuple_mul ⟨_, ho, rfl⟩ F.entry_tuple_mul (F.args_tuple_mul_2 _ _) (tuple_mulZ l its.toArray n dd sl 0 t c0 c1 rfl) ⟨ho,
            new_t (its := []) (xs := []) I (Nat.zero_le _) .nil q⟩⟩)
    · have hn : its ≠ [] := fun e => by rw [e] at c1; cases c1
      have hi : its.toArray.isEmpty = false := by
        cases its with
        | nil => exact absurd rfl hn
        | cons a b => rfl
      have hsz0 : its.toArray.size = xs.length := by rw [List.size_toArray, hle]
      have hm : ((its.toArray.size : Nat) : Int) * k ≤ 1000000 := by
        rw [hsz0]
        have a1 : ((xs.length : Nat) : Int) * k ≤ 1000 * k := Int.mul_le_mul_of_nonneg_right (by omega) (by omega)
        omega
      have flen : (List.replicate k.toNat its).flatten.length ≤ sizeLine := by
        rw [PyProof.Rows.lm_len_rep_flat, hle, sizeLine_eq]
        have a1 : k.toNat * xs.length ≤ 1000 * 1000 := Nat.mul_le_mul (by omega) g3
        omega
      have c2 : (decide (k ≤ 0) || its.toArray.isEmpty) = false := by
        rw [hi, Bool.or_false]
        exact decide_eq_false (by omega)
      have c4 : Builtin.Tuple.tupleTooMany (((its.toArray.size : Nat) : Int) * k) = false := by
        unfold Builtin.Tuple.tupleTooMany
        rw [sizeLine_eq]
        exact decide_eq_false (by omega)
      refine wpAny_binaryOp_repeat_ref (T := "tuple") (U := "int") (by decide) ⟨_, ho, rfl⟩ (fun s' => typeIs_int s' k t) noFill_tuple_mul F.fills_int_mul F.slot_int_rmul repeat_tuple F.slot_int_index.lookup
        (call_meets F.slot_int_rmul (typeIs_int s k t) F.entry_int_rmul (F.args_int_rmul_2 _ _) (int_rmul_tuple k t l its.toArray n dd sl)
          ⟨ho, rfl, ⟨_, ho, rfl⟩, call_meets F.slot_tuple_mul ⟨_, ho, rfl⟩ F.entry_tuple_mul (F.args_tuple_mul_2 _ _) (tuple_mulW l its.toArray n dd sl k t c0 c1 c2 (by omega) c4 (by rw [size_rep, List.size_toArray]; exact flen)) ⟨ho, ?_⟩⟩)
      rw [size_rep]
      exact new_t I (by rw [PyProof.Rows.lm_len_rep_flat, sizeLine_eq]; have a1 : k.toNat * xs.length ≤ 1000 * 1000 := Nat.mul_le_mul (by omega) g3; omega) (r.rep k.toNat) q
end
end Lf

end
section
set_option Elab.async false
set_option linter.all false
set_option maxRecDepth 100000
set_option autoImplicit false
/-! LfC: what a value, an own heap stand for; the forms' readings. -/
namespace Lf
open PySem PySem.Spec PyProof.Rows L2

/-- what the text's names stand for -/
structure Stat where
  w : World
  fnA : Nat → Option Addr
  clA : Nat → Option Addr
  atN : Nat → Str
  meN : Nat → Str

/-- a list that stays as it is -/
def SqF (K : PySem.W.Frag) (H : Hp) (a : Addr) (xs : List V) : Prop := (∃ o, H a = some (.frz o (.lst xs))) ∨
  ∃ (o : Obj) (its : Array Value) (n : Nat), K.lookup a = some o ∧ o.cls = .type "list" ∧ o.dict = none ∧ o.data = .seq its n ∧ its.size ≤ sizeLine ∧ Vals xs its.toList
theorem SqF.sq {K : PySem.W.Frag} {H : Hp} {a : Addr} {xs : List V} (h : SqF K H a xs) : SqL K H a xs := by
  rcases h with ⟨o, h⟩ | h
  · exact .inl (.inr ⟨o, h⟩)
  · exact .inr h
section
variable (K : PySem.W.Frag) (S : Stat)

mutual
/-- the value p is v -/
def RV (ρ : List Addr) (H : Hp) : PV → V → Prop
  | .non, v => v = .non
  | .bl b, v => v = .bl b
  | .int i, v => v = .int i
  | .str x, v => v = .str x
  | .tup ps, v => ∃ a xs, v = .ref a ∧ SqU K H a xs ∧ RVs ρ H ps xs
  | .kl ps, v => ∃ a xs, v = .ref a ∧ SqF K H a xs ∧ RVs ρ H ps xs
  | .wt ps, v => ∃ a xs, v = .ref a ∧ SqT K H a xs ∧ RVs ρ H ps xs
  | .ref n, v => ∃ a, v = .ref a ∧ ρ[n]? = some a
  | .ty n, v => v = .ty n
  | .fn i, v => ∃ f, v = .ref f ∧ S.fnA i = some f
def RVs (ρ : List Addr) (H : Hp) : List PV → List V → Prop
  | [], xs => xs = []
  | p :: ps, xs => ∃ x r, xs = x :: r ∧ RV ρ H p x ∧ RVs ρ H ps r
end

/-- an attribute list -/
def RF (ρ : List Addr) (H : Hp) : List (Nat × PV) → List (Str × V) → Prop
  | [], xs => xs = []
  | (f, p) :: r, xs => ∃ x s, xs = (S.atN f, x) :: s ∧ RV K S ρ H p x ∧ RF ρ H r s

mutual
/-- a value as a key of a dict -/
def nkey : PV → Option NestedKey
  | .non => some .none
  | .bl b => some (.num (if b = true then 1 else 0))
  | .int i => some (.num i)
  | .str x => some (.text x)
  | .tup ps => match nkeys ps with
    | some l => some (.tup l)
    | none => none
  | .kl _ => none
  | .wt _ => none
  | .ref _ => none
  | .ty _ => none
  | .fn _ => none
def nkeys : List PV → Option (List NestedKey)
  | [] => some []
  | p :: ps => match nkey p with
    | some k => (match nkeys ps with
      | some l => some (k :: l)
      | none => none)
    | none => none
end
/-- a dict's object: its entries written out -/
def dcO (a : Addr) (es : Array DictEntry) : HO := .ext fun h => ∃ o ep, h.get? a = some o ∧ o.ExactDict ∧ o.data = .dict es ep
/-- an entry -/
def RX1 (ρ : List Addr) (H : Hp) (q : PV × PV) (x : Ent) : Prop :=
  nkey q.1 = some x.1 ∧ x.1.depth ≤ 8 ∧ (∃ kV, RelV kV x.2.1 ∧ RV K S ρ H q.1 kV) ∧ ∃ vV, RelV vV x.2.2 ∧ RV K S ρ H q.2 vV
def RX (ρ : List Addr) (H : Hp) : List (PV × PV) → List Ent → Prop
  | [], xs => xs = []
  | q :: r, xs => ∃ x s, xs = x :: s ∧ RX1 K S ρ H q x ∧ RX ρ H r s

/-- the object at a is o -/
def OR (ρ : List Addr) (H : Hp) (a : Addr) : Ob → Prop
  | .lst ps => ∃ xs, H a = some (.lst xs) ∧ RVs K S ρ H ps xs
  | .dic kvs => ∃ (es : Array DictEntry) (xs : List Ent), (a == sysModules) = false ∧ H a = some (dcO a es) ∧ es.toList = xs.map (entN S.w) ∧ RX K S ρ H kvs xs ∧ (xs.map (·.1)).Nodup
  | .set _ => False
  | .ins c fs => ∃ C dx xs, S.clA c = some C ∧ H a = some (.ins C dx xs) ∧ RF K S ρ H fs xs

structure Rl (ρ : List Addr) (h : Hh) (H : Hp) : Prop where
  len : ρ.length = h.length
  nd : ρ.Nodup
  ob : ∀ (n : Nat) (o : Ob) (a : Addr), h[n]? = some o → ρ[n]? = some a → OR K S ρ H a o

/-- a step: more addresses, what is not theirs stays -/
structure Ext (ρ : List Addr) (H : Hp) (ρ' : List Addr) (H' : Hp) : Prop where
  pre : ∃ l, ρ' = ρ ++ l
  fix : ∀ a o, H a = some o → a ∉ ρ → H' a = some o
  new : ∀ a ∈ ρ', a ∉ ρ → H a = none

/-- the frame's names -/
structure RE (ρ : List Addr) (H : Hp) (e : En) (σ : L2.St) : Prop where
  len : e.length = σ.length
  at_ : ∀ (i : Nat) (p : PV), e[i]? = some (some p) → ∃ v, σ[i]? = some (some v) ∧ RV K S ρ H p v
end

section
variable {K : PySem.W.Frag} {S : Stat} {ρ ρ1 ρ2 : List Addr} {H H1 H2 : Hp} {h h1 : Hh}

theorem Ext.refl : Ext ρ H ρ H := ⟨⟨[], by simp⟩, fun _ _ e _ => e, fun _ h1 h2 => absurd h1 h2⟩
theorem Ext.mem (x : Ext ρ H ρ1 H1) {a : Addr} (h : a ∈ ρ) : a ∈ ρ1 := by
  obtain ⟨l, rfl⟩ := x.pre
  exact List.mem_append_left _ h
theorem Ext.at_ (x : Ext ρ H ρ1 H1) {n : Nat} {a : Addr} (h : ρ[n]? = some a) : ρ1[n]? = some a := by
  obtain ⟨l, rfl⟩ := x.pre
  rw [List.getElem?_append_left (List.getElem?_eq_some_iff.mp h).1]
  exact h
theorem Ext.trans (x : Ext ρ H ρ1 H1) (y : Ext ρ1 H1 ρ2 H2) : Ext ρ H ρ2 H2 where
  pre := by
    obtain ⟨l, rfl⟩ := x.pre
    obtain ⟨m, rfl⟩ := y.pre
    exact ⟨l ++ m, by simp⟩
  fix := fun a o e n => by
    have e1 := x.fix a o e n
    refine y.fix a o e1 fun hm => ?_
    have := x.new a hm n
    rw [e] at this; cases this
  new := fun a hm n => by
    by_cases h1 : a ∈ ρ1
    · exact x.new a h1 n
    · have e1 := y.new a hm h1
      cases e : H a with
      | none => rfl
      | some o => rw [x.fix a o e n] at e1; cases e1

theorem OR.some {a : Addr} {o : Ob} (x : OR K S ρ H a o) : ∃ u, H a = some u ∧ (∀ xs, u ≠ .tup xs) ∧ ∀ b u', u ≠ .frz b u' := by
  cases o with
  | lst ps => obtain ⟨xs, e, _⟩ := x; exact ⟨_, e, (fun _ z => by cases z), (fun _ _ z => by cases z)⟩
  | dic kvs => obtain ⟨es, _, _, e, _⟩ := x; exact ⟨_, e, (fun _ z => by cases z), (fun _ _ z => by cases z)⟩
  | set _ => exact x.elim
  | ins c fs => obtain ⟨C, dx, xs, _, e, _⟩ := x; exact ⟨_, e, (fun _ z => by cases z), (fun _ _ z => by cases z)⟩
theorem Rl.get (r : Rl K S ρ h H) {a : Addr} (hm : a ∈ ρ) : ∃ (n : Nat) (o : Ob), h[n]? = some o ∧ ρ[n]? = some a ∧ OR K S ρ H a o := by
  obtain ⟨n, hn⟩ := List.mem_iff_getElem?.mp hm
  have hl : n < h.length := by rw [← r.len]; exact (List.getElem?_eq_some_iff.mp hn).1
  exact ⟨n, h[n], List.getElem?_eq_getElem hl, hn, r.ob n _ a (List.getElem?_eq_getElem hl) hn⟩
/-- the address of a known object -/
theorem Rl.addr (r : Rl K S ρ h H) {n : Nat} {o : Ob} (e : h[n]? = some o) : ∃ a, ρ[n]? = some a ∧ OR K S ρ H a o := by
  have hl : n < ρ.length := by rw [r.len]; exact (List.getElem?_eq_some_iff.mp e).1
  exact ⟨ρ[n], List.getElem?_eq_getElem hl, r.ob n o _ e (List.getElem?_eq_getElem hl)⟩
theorem SqT.ext (r : Rl K S ρ h H) (x : Ext ρ H ρ1 H1) {a : Addr} {xs : List V} (t : SqT K H a xs) : SqT K H1 a xs := by
  rcases t with (t | ⟨o, t⟩) | t
  · refine .inl (.inl (x.fix _ _ t fun hm => ?_))
    obtain ⟨_, _, _, _, z⟩ := r.get hm
    obtain ⟨u, e, n, _⟩ := z.some
    rw [t] at e
    exact n _ (Option.some.inj e).symm
  · refine .inl (.inr ⟨o, x.fix _ _ t fun hm => ?_⟩)
    obtain ⟨_, _, _, _, z⟩ := r.get hm
    obtain ⟨u, e, _, n⟩ := z.some
    rw [t] at e
    exact n _ _ (Option.some.inj e).symm
  · exact .inr t
theorem SqU.ext (r : Rl K S ρ h H) (x : Ext ρ H ρ1 H1) {a : Addr} {xs : List V} (t : SqU K H a xs) : SqU K H1 a xs := by
  rcases t with ⟨o, t, d⟩ | t
  · refine .inl ⟨o, x.fix _ _ t fun hm => ?_, d⟩
    obtain ⟨_, _, _, _, z⟩ := r.get hm
    obtain ⟨u, e, _, n⟩ := z.some
    rw [t] at e
    exact n _ _ (Option.some.inj e).symm
  · exact .inr t
theorem SqF.ext (r : Rl K S ρ h H) (x : Ext ρ H ρ1 H1) {a : Addr} {xs : List V} (t : SqF K H a xs) : SqF K H1 a xs := by
  rcases t with ⟨o, t⟩ | t
  · refine .inl ⟨o, x.fix _ _ t fun hm => ?_⟩
    obtain ⟨_, _, _, _, z⟩ := r.get hm
    obtain ⟨u, e, _, n⟩ := z.some
    rw [t] at e
    exact n _ _ (Option.some.inj e).symm
  · exact .inr t
mutual
theorem RV.ext (r : Rl K S ρ h H) (x : Ext ρ H ρ1 H1) : ∀ (p : PV) (v : V), RV K S ρ H p v → RV K S ρ1 H1 p v
  | .non, _, q => by unfold RV at *; exact q
  | .bl _, _, q => by unfold RV at *; exact q
  | .int _, _, q => by unfold RV at *; exact q
  | .str _, _, q => by unfold RV at *; exact q
  | .tup ps, _, q => by
    unfold RV at *
    obtain ⟨a, xs, e, t, q⟩ := q
    exact ⟨a, xs, e, SqU.ext r x t, RVs.ext r x ps xs q⟩
  | .wt ps, _, q => by
    unfold RV at *
    obtain ⟨a, xs, e, t, q⟩ := q
    exact ⟨a, xs, e, SqT.ext r x t, RVs.ext r x ps xs q⟩
  | .kl ps, _, q => by
    unfold RV at *
    obtain ⟨a, xs, e, t, q⟩ := q
    exact ⟨a, xs, e, SqF.ext r x t, RVs.ext r x ps xs q⟩
  | .ref n, _, q => by
    unfold RV at *
    obtain ⟨a, e, q⟩ := q
    exact ⟨a, e, x.at_ q⟩
  | .ty _, _, q => by unfold RV at *; exact q
  | .fn _, _, q => by unfold RV at *; exact q
theorem RVs.ext (r : Rl K S ρ h H) (x : Ext ρ H ρ1 H1) : ∀ (ps : List PV) (vs : List V), RVs K S ρ H ps vs → RVs K S ρ1 H1 ps vs
  | [], _, q => by unfold RVs at *; exact q
  | p :: ps, _, q => by
    unfold RVs at *
    obtain ⟨y, s, e, q1, q2⟩ := q
    exact ⟨y, s, e, RV.ext r x p y q1, RVs.ext r x ps s q2⟩
end
theorem RF.ext (r : Rl K S ρ h H) (x : Ext ρ H ρ1 H1) : ∀ (fs : List (Nat × PV)) (vs : List (Str × V)), RF K S ρ H fs vs → RF K S ρ1 H1 fs vs
  | [], _, q => by unfold RF at *; exact q
  | (f, p) :: ps, _, q => by
    unfold RF at *
    obtain ⟨y, s, e, q1, q2⟩ := q
    exact ⟨y, s, e, RV.ext r x p y q1, RF.ext r x ps s q2⟩
theorem RX.ext (r : Rl K S ρ h H) (x : Ext ρ H ρ1 H1) : ∀ (kvs : List (PV × PV)) (es : List Ent), RX K S ρ H kvs es → RX K S ρ1 H1 kvs es
  | [], _, q => by unfold RX at *; exact q
  | p :: ps, _, q => by
    unfold RX at *
    obtain ⟨e, s, rfl, ⟨h1, h2, ⟨kV, h3, h4⟩, vV, h5, h6⟩, q2⟩ := q
    exact ⟨e, s, rfl, ⟨h1, h2, ⟨kV, h3, RV.ext r x _ _ h4⟩, vV, h5, RV.ext r x _ _ h6⟩, RX.ext r x ps s q2⟩
theorem OR.ext (r : Rl K S ρ h H) (x : Ext ρ H ρ1 H1) {a : Addr} (e : H1 a = H a) : ∀ (o : Ob), OR K S ρ H a o → OR K S ρ1 H1 a o
  | .lst ps, z => by obtain ⟨xs, e1, q⟩ := z; exact ⟨xs, e.trans e1, RVs.ext r x _ _ q⟩
  | .dic kvs, z => by obtain ⟨es, xs, n, e1, e2, q, d⟩ := z; exact ⟨es, xs, n, e.trans e1, e2, RX.ext r x _ _ q, d⟩
  | .set _, z => z.elim
  | .ins c fs, z => by obtain ⟨C, dx, xs, c1, e1, q⟩ := z; exact ⟨C, dx, xs, c1, e.trans e1, RF.ext r x _ _ q⟩
theorem RE.ext (r : Rl K S ρ h H) (x : Ext ρ H ρ1 H1) {e : En} {σ : L2.St} (q : RE K S ρ H e σ) : RE K S ρ1 H1 e σ :=
  ⟨q.len, fun i p z => let ⟨v, a, b⟩ := q.at_ i p z; ⟨v, a, RV.ext r x p v b⟩⟩
theorem RVs.length : ∀ {ps : List PV} {vs : List V}, RVs K S ρ H ps vs → ps.length = vs.length
  | [], _, q => by unfold RVs at q; subst q; rfl
  | p :: ps, _, q => by
    unfold RVs at q
    obtain ⟨y, s, rfl, _, q2⟩ := q
    simp [RVs.length q2]
theorem RVs.nil : RVs K S ρ H [] [] := by unfold RVs; rfl
theorem RVs.cons {p : PV} {v : V} {ps : List PV} {vs : List V} (a : RV K S ρ H p v) (b : RVs K S ρ H ps vs) : RVs K S ρ H (p :: ps) (v :: vs) := by
  unfold RVs; exact ⟨v, vs, rfl, a, b⟩
theorem RVs.get : ∀ {ps : List PV} {vs : List V} {n : Nat} {p : PV}, RVs K S ρ H ps vs → ps[n]? = some p → ∃ v, vs[n]? = some v ∧ RV K S ρ H p v
  | [], _, _, _, _, e => by simp at e
  | q :: ps, _, n, p, r, e => by
    unfold RVs at r
    obtain ⟨y, s, rfl, q1, q2⟩ := r
    cases n with
    | zero => simp at e; subst e; exact ⟨y, rfl, q1⟩
    | succ n => simp at e; simpa using RVs.get q2 e
theorem RVs.none {ps : List PV} {vs : List V} {n : Nat} (r : RVs K S ρ H ps vs) (e : ps[n]? = none) : vs[n]? = none := by
  have := r.length
  have := List.getElem?_eq_none_iff.mp e
  exact List.getElem?_eq_none_iff.mpr (by omega)
theorem RVs.append : ∀ {ps : List PV} {vs : List V} {qs : List PV} {ws : List V}, RVs K S ρ H ps vs → RVs K S ρ H qs ws → RVs K S ρ H (ps ++ qs) (vs ++ ws)
  | [], _, _, _, r, s => by unfold RVs at r; subst r; exact s
  | p :: ps, _, _, _, r, s => by
    unfold RVs at r
    obtain ⟨y, t, rfl, q1, q2⟩ := r
    exact RVs.cons q1 (RVs.append q2 s)
theorem RVs.drop : ∀ {ps : List PV} {vs : List V} (n : Nat), RVs K S ρ H ps vs → RVs K S ρ H (ps.drop n) (vs.drop n)
  | _, _, 0, r => by simpa using r
  | [], _, n + 1, r => by unfold RVs at r; subst r; exact RVs.nil
  | p :: ps, _, n + 1, r => by
    unfold RVs at r
    obtain ⟨y, t, rfl, q1, q2⟩ := r
    simpa using RVs.drop n q2
theorem RVs.take : ∀ {ps : List PV} {vs : List V} (n : Nat), RVs K S ρ H ps vs → RVs K S ρ H (ps.take n) (vs.take n)
  | _, _, 0, r => by simpa using RVs.nil
  | [], _, n + 1, r => by unfold RVs at r; subst r; exact RVs.nil
  | p :: ps, _, n + 1, r => by
    unfold RVs at r
    obtain ⟨y, t, rfl, q1, q2⟩ := r
    simpa using RVs.cons q1 (RVs.take n q2)
theorem RVs.set : ∀ {ps : List PV} {vs : List V} (n : Nat) {p : PV} {v : V}, RVs K S ρ H ps vs → RV K S ρ H p v → RVs K S ρ H (ps.set n p) (vs.set n v)
  | [], _, _, _, _, r, _ => by unfold RVs at r; subst r; exact RVs.nil
  | q :: ps, _, n, p, v, r, x => by
    unfold RVs at r
    obtain ⟨y, t, rfl, q1, q2⟩ := r
    cases n with
    | zero => exact RVs.cons x q2
    | succ n => exact RVs.cons q1 (RVs.set n q2 x)
theorem RVs.reverse : ∀ {ps : List PV} {vs : List V}, RVs K S ρ H ps vs → RVs K S ρ H ps.reverse vs.reverse
  | [], _, r => by unfold RVs at r; subst r; exact RVs.nil
  | q :: ps, _, r => by
    unfold RVs at r
    obtain ⟨y, t, rfl, q1, q2⟩ := r
    simpa using RVs.append (RVs.reverse q2) (RVs.cons q1 RVs.nil)
theorem RVs.rep {ps : List PV} {vs : List V} (r : RVs K S ρ H ps vs) : ∀ k : Nat, RVs K S ρ H (List.replicate k ps).flatten (List.replicate k vs).flatten
  | 0 => RVs.nil
  | k + 1 => by simpa [List.replicate_succ] using RVs.append r (RVs.rep r k)

/-- a new object behind the others -/
theorem Rl.push (r : Rl K S ρ h H) {p : Addr} {u : HO} {o : Ob} (hp : H p = none) (q : Ext ρ H (ρ ++ [p]) (upd H p u) → OR K S (ρ ++ [p]) (upd H p u) p o) :
    Ext ρ H (ρ ++ [p]) (upd H p u) ∧ Rl K S (ρ ++ [p]) (h ++ [o]) (upd H p u) := by
  have hn : p ∉ ρ := fun hm => by
    obtain ⟨_, _, _, _, z⟩ := r.get hm
    obtain ⟨u, e, _⟩ := z.some
    rw [hp] at e; cases e
  have x : Ext ρ H (ρ ++ [p]) (upd H p u) := {
    pre := ⟨[p], rfl⟩
    fix := fun a o e n => by
      rw [upd_ne (fun z => by rw [z, hp] at e; cases e)]; exact e
    new := fun a hm n => by
      rcases List.mem_append.mp hm with hm | hm
      · exact absurd hm n
      · simp at hm; rw [hm]; exact hp }
  refine ⟨x, ?_, ?_, ?_⟩
  · simp [r.len]
  · rw [List.nodup_append]
    refine ⟨r.nd, by simp, ?_⟩
    intro a ha b hb e
    simp at hb
    subst hb; subst e; exact hn ha
  · intro n o' a e1 e2
    by_cases hl : n < h.length
    · rw [List.getElem?_append_left hl] at e1
      rw [List.getElem?_append_left (by rw [r.len]; exact hl)] at e2
      have z := r.ob n o' a e1 e2
      have ne : a ≠ p := fun c => hn (c ▸ List.mem_of_getElem? e2)
      exact OR.ext r x (upd_ne ne) _ z
    · have hl' : n = h.length := by
        have := (List.getElem?_eq_some_iff.mp e1).1
        simp at this
        omega
      subst hl'
      have e1' : o = o' := by simpa using e1
      have e2' : p = a := by
        rw [← r.len] at e2
        simpa using e2
      subst e1'; subst e2'
      exact q x
/-- an object of the own heap is changed -/
theorem Rl.set (r : Rl K S ρ h H) {n : Nat} {a : Addr} {u : HO} {o o' : Ob} (hn : h[n]? = some o) (ha : ρ[n]? = some a) (q : Ext ρ H ρ (upd H a u) → OR K S ρ (upd H a u) a o') :
    Ext ρ H ρ (upd H a u) ∧ Rl K S ρ (h.set n o') (upd H a u) := by
  have hm : a ∈ ρ := List.mem_of_getElem? ha
  have x : Ext ρ H ρ (upd H a u) := {
    pre := ⟨[], by simp⟩
    fix := fun b o e nb => by
      rw [upd_ne (fun (z : b = a) => nb (by rw [z]; exact hm))]; exact e
    new := fun b h1 h2 => absurd h1 h2 }
  refine ⟨x, by simp [r.len], r.nd, ?_⟩
  intro m ob b e1 e2
  by_cases hmn : m = n
  · subst hmn
    rw [List.getElem?_set_self (List.getElem?_eq_some_iff.mp hn).1] at e1
    cases e1
    rw [ha] at e2; cases e2
    exact q x
  · rw [List.getElem?_set_ne (Ne.symm hmn)] at e1
    have z := r.ob m ob b e1 e2
    have ne : b ≠ a := fun c => hmn (by
      subst c
      obtain ⟨l1, e3⟩ := List.getElem?_eq_some_iff.mp e2
      obtain ⟨l2, e4⟩ := List.getElem?_eq_some_iff.mp ha
      exact (List.getElem_inj r.nd).mp (e3.trans e4.symm))
    exact OR.ext r x (upd_ne ne) _ z
/-- a new tuple -/
theorem Rl.tup (r : Rl K S ρ h H) {p : Addr} {u : HO} (hp : H p = none) : Ext ρ H ρ (upd H p u) ∧ Rl K S ρ h (upd H p u) := by
  have hn : p ∉ ρ := fun hm => by
    obtain ⟨_, _, _, _, z⟩ := r.get hm
    obtain ⟨u, e, _⟩ := z.some
    rw [hp] at e; cases e
  have x : Ext ρ H ρ (upd H p u) := {
    pre := ⟨[], by simp⟩
    fix := fun a o e n => by
      rw [upd_ne (fun z => by rw [z, hp] at e; cases e)]; exact e
    new := fun a h1 h2 => absurd h1 h2 }
  refine ⟨x, r.len, r.nd, fun n o a e1 e2 => ?_⟩
  have z := r.ob n o a e1 e2
  have ne : a ≠ p := fun c => hn (c ▸ List.mem_of_getElem? e2)
  exact OR.ext r x (upd_ne ne) _ z
end
end Lf

end
section
set_option Elab.async false
set_option linter.all false
set_option maxRecDepth 100000
set_option autoImplicit false
/-! LfD: the forms' readings over the own heap. -/
namespace Lf
open PySem PySem.Spec PyProof.Rows L2

/-- an exception of the own heap: its class, its own dict -/
def XR (K : PySem.W.Frag) (S : Stat) (ρ : List Addr) (H : Hp) (c : Nat) (fs : List (Nat × PV)) (cls : Value) (d : Option Addr) : Prop :=
  ∃ C, S.clA c = some C ∧ cls = .ref C ∧ (fs = [] ∨ ∃ dd xs, d = some dd ∧ H dd = some (.xd xs) ∧ dd ∉ ρ ∧ ∀ f v, getA f fs = some v → ∃ V, xs.lookup (S.atN f) = some V ∧ RV K S ρ H v V)

section
variable (K : PySem.W.Frag) (S : Stat)
/-- what holds behind an evaluation -/
def Po {α β : Type} (rel : List Addr → Hp → α → β → Prop) (ρ : List Addr) (H : Hp) (m : Rs α) (Q : β → Hp → Prop) (E : XK) : Prop := match m with
  | .ok v h' => ∀ V H' ρ', Ext ρ H ρ' H' → Rl K S ρ' h' H' → rel ρ' H' v V → Q V H'
  | .exc c fs h' => ∀ H' ρ' cls d, Ext ρ H ρ' H' → Rl K S ρ' h' H' → XR K S ρ' H' c fs cls d → E cls d H'
  | .bad => False
/-- .. that raises nothing -/
def Pk {α β : Type} (rel : List Addr → Hp → α → β → Prop) (ρ : List Addr) (H : Hp) (m : Rs α) (Q : β → Hp → Prop) : Prop := match m with
  | .ok v h' => ∀ V H' ρ', Ext ρ H ρ' H' → Rl K S ρ' h' H' → rel ρ' H' v V → Q V H'
  | .exc _ _ _ => False
  | .bad => False
def At (W : WX) (σ : L2.St) : XK := fun c d H => W c d σ H
/-- an expression's reading -/
def tE (f : FE) (W : WX) : TE := fun σ H Q => ∃ ρ e h, Rl K S ρ h H ∧ RE K S ρ H e σ ∧ Po K S (RV K S) ρ H (f e h) Q (At W σ)
def tL (f : FL) (W : WX) : TA := fun σ H Q => ∃ ρ e h, Rl K S ρ h H ∧ RE K S ρ H e σ ∧ Po K S (RVs K S) ρ H (f e h) Q (At W σ)
def tT (f : FE) (W : WX) : TT := fun σ H Q => ∃ ρ e h, Rl K S ρ h H ∧ RE K S ρ H e σ ∧ Po K S (fun _ _ (a b : Bool) => a = b) ρ H (asB (f e h)) Q (At W σ)
end

section
variable {K : PySem.W.Frag} {S : Stat} {ρ ρ1 ρ2 : List Addr} {H H1 H2 : Hp} {h h1 : Hh} {α β γ δ : Type} {rel : List Addr → Hp → α → β → Prop} {rel2 : List Addr → Hp → γ → δ → Prop}
theorem Po.ext (x : Ext ρ H ρ1 H1) {m : Rs α} {Q : β → Hp → Prop} {E : XK} (p : Po K S rel ρ H m Q E) : Po K S rel ρ1 H1 m Q E := by
  cases m with
  | ok v h => exact fun V H' ρ' y r q => p V H' ρ' (x.trans y) r q
  | exc c fs h => exact fun H' ρ' cls d y r q => p H' ρ' cls d (x.trans y) r q
  | bad => exact p
theorem Pk.ext (x : Ext ρ H ρ1 H1) {m : Rs α} {Q : β → Hp → Prop} (p : Pk K S rel ρ H m Q) : Pk K S rel ρ1 H1 m Q := by
  cases m with
  | ok v h => exact fun V H' ρ' y r q => p V H' ρ' (x.trans y) r q
  | exc c fs h => exact p
  | bad => exact p
theorem Po.bind {m : Rs α} {k : α → Hh → Rs γ} {Q : δ → Hp → Prop} {Q' : β → Hp → Prop} {E : XK} (po : Po K S rel2 ρ H (m.bind k) Q E)
    (hk : ∀ v h1 V H1 ρ1, Ext ρ H ρ1 H1 → Rl K S ρ1 h1 H1 → rel ρ1 H1 v V → Po K S rel2 ρ1 H1 (k v h1) Q E → Q' V H1) : Po K S rel ρ H m Q' E := by
  cases m with
  | ok v h => exact fun V H' ρ' y r q => hk v h V H' ρ' y r q (Po.ext y po)
  | exc c fs h => exact po
  | bad => exact po
theorem Po.noExc {m : Rs α} {Q : β → Hp → Prop} {E : XK} (po : Po K S rel ρ H (noExc m) Q E) : Pk K S rel ρ H m Q := by
  cases m with
  | ok v h => exact po
  | exc c fs h => exact po
  | bad => exact po
theorem Pk.po {m : Rs α} {Q : β → Hp → Prop} {E : XK} (p : Pk K S rel ρ H m Q) : Po K S rel ρ H m Q E := by
  cases m with
  | ok v h => exact p
  | exc c fs h => exact p.elim
  | bad => exact p
theorem Po.mono {m : Rs α} {Q Q' : β → Hp → Prop} {E E' : XK} (p : Po K S rel ρ H m Q E) (hq : ∀ V H', Q V H' → Q' V H') (he : ∀ c d H', E c d H' → E' c d H') : Po K S rel ρ H m Q' E' := by
  cases m with
  | ok v h => exact fun V H' ρ' y r q => hq _ _ (p V H' ρ' y r q)
  | exc c fs h => exact fun H' ρ' cls d y r q => he _ _ _ (p H' ρ' cls d y r q)
  | bad => exact p
/-- a value that is ready -/
theorem Po.done {v : α} {V : β} {Q : β → Hp → Prop} {E : XK} (r : Rl K S ρ h H) (q : rel ρ H v V) (p : Po K S rel ρ H (.ok v h) Q E) : Q V H := p V H ρ Ext.refl r q
end

section
variable {X : Cx} {S : Stat} {W : WX} {pos : Pos}
theorem _root_.L2.PE.imp {x : Expr} {t t' : TE} (p : PE X x t) (h : ∀ σ H Q, t' σ H Q → t σ H Q) : PE X x t' := ⟨fun pins s σ H Q I q => p.run pins s σ H Q I (h _ _ _ q)⟩
theorem _root_.L2.PT.imp {x : Expr} {t t' : TT} (p : PT X x t) (h : ∀ σ H Q, t' σ H Q → t σ H Q) : PT X x t' := ⟨fun pins s σ H Q I q => p.run pins s σ H Q I (h _ _ _ q)⟩
theorem _root_.L2.PA.imp {x : List Expr} {t t' : TA} (p : PA X x t) (h : ∀ σ H Q, t' σ H Q → t σ H Q) : PA X x t' := ⟨fun pos pins s σ H Q I q => p.run pos pins s σ H Q I (h _ _ _ q)⟩

/-! ### names, constants -/
theorem g_var {i : Nat} {x : Str} (hN : X.N[i]? = some x) (hv : Vis X.env.scope x) (hd : (x == ("__debug__" : Str)) = false) (hcd : (x == ("__classdict__" : Str)) = false) : PE X (.Name x pos) (tE X.K S (varC i) W) :=
  (pe_var hN hv hd hcd).imp fun σ H Q ⟨ρ, e, h, rl, re, po⟩ => by
    unfold varC at po
    split at po
    · rename_i v hv
      obtain ⟨V, e1, e2⟩ := re.at_ i v hv
      exact ⟨V, e1, Po.done rl e2 po⟩
    · exact po.elim
theorem g_int {i : Int} {j} : PE X (.Constant (.int i) j pos) (tE X.K S (conC (.int i)) W) :=
  pe_int.imp fun σ H Q ⟨ρ, e, h, rl, re, po⟩ => Po.done rl (by unfold RV; rfl) po
theorem g_bl {b : Bool} {j} : PE X (.Constant (.bool b) j pos) (tE X.K S (conC (.bl b)) W) :=
  pe_bl.imp fun σ H Q ⟨ρ, e, h, rl, re, po⟩ => Po.done rl (by unfold RV; rfl) po
theorem g_non {j} : PE X (.Constant .none j pos) (tE X.K S (conC .non) W) :=
  pe_non.imp fun σ H Q ⟨ρ, e, h, rl, re, po⟩ => Po.done rl (by unfold RV; rfl) po
theorem g_str {x : Str} {j} : PE X (.Constant (.str x) j pos) (tE X.K S (conC (.str x)) W) :=
  pe_str.imp fun σ H Q ⟨ρ, e, h, rl, re, po⟩ => Po.done rl (by unfold RV; rfl) po
/-- a value that hangs on no heap -/
def RK (K : PySem.W.Frag) (S : Stat) (p : PV) (v : V) : Prop := ∀ ρ H, RV K S ρ H p v
theorem g_glob {x : Str} {p : PV} {v : V} {u : Value} (hg : Gl X x) (hm : X.mg x = some u) (r : RelV v u) (rk : RK X.K S p v) (hd : (x == ("__debug__" : Str)) = false) : PE X (.Name x pos) (tE X.K S (conC p) W) :=
  (pe_glob hg hm r hd).imp fun σ H Q ⟨ρ, e, h, rl, re, po⟩ => Po.done rl (rk ρ H) po

/-! ### lists of expressions, displays -/
theorem g_nil : PA X [] (tL X.K S nilC W) := pa_nil.imp fun σ H Q ⟨ρ, e, h, rl, re, po⟩ => Po.done rl RVs.nil po
theorem g_cons {a : Expr} {es : List Expr} {f : FE} {g : FL} (ha : PE X a (tE X.K S f W)) (hr : PA X es (tL X.K S g W)) (hs : starEach (a :: es) X.env = (false, eval a X.env) :: starEach es X.env) : PA X (a :: es) (tL X.K S (consC f g) W) :=
  (pa_cons ha hr hs).imp fun σ H Q ⟨ρ, e, h, rl, re, po⟩ =>
    ⟨ρ, e, h, rl, re, Po.bind po fun v h1 V H1 ρ1 x1 r1 q1 po1 => ⟨ρ1, e, h1, r1, RE.ext rl x1 re, Po.bind po1 fun vs h2 Vs H2 ρ2 x2 r2 q2 po2 => Po.done r2 (RVs.cons (RV.ext r1 x2 _ _ q1) q2) po2⟩⟩
theorem blt_true {a b : Nat} (h : Nat.blt a b = true) : a < b := by
  have := Nat.le_of_ble_eq_true h; omega
theorem szL_eq : szL = sizeLine := by rw [sizeLine_eq]; rfl
theorem g_tup {es : List Expr} {k} {g : FL} (h : PA X es (tL X.K S g W)) : PE X (.Tuple es k pos) (tE X.K S (tupC g) W) :=
  (pe_tupU h).imp fun σ H Q ⟨ρ, e, h, rl, re, po⟩ => ⟨ρ, e, h, rl, re, Po.bind po fun vs h1 xs H1 ρ1 x1 r1 q1 po1 => by
    unfold newT at po1
    split at po1
    · rename_i hl
      refine ⟨by rw [← q1.length, ← szL_eq]; exact Nat.le_of_ble_eq_true hl, fun p o hp ho => ?_⟩
      obtain ⟨x2, r2⟩ := r1.tup (u := .frz o (.tup xs)) hp
      exact po1 _ _ _ x2 r2 (by unfold RV; exact ⟨p, xs, rfl, SqU.new ho, RVs.ext r1 x2 _ _ q1⟩)
    · exact po1.elim⟩
theorem g_lst {es : List Expr} {g : FL} (h : PA X es (tL X.K S g W)) : PE X (.List es pos) (tE X.K S (lstC g) W) :=
  (pe_lst h).imp fun σ H Q ⟨ρ, e, h, rl, re, po⟩ => ⟨ρ, e, h, rl, re, Po.bind po fun vs h1 xs H1 ρ1 x1 r1 q1 po1 => by
    unfold newL at po1
    split at po1
    · rename_i hl
      refine ⟨by rw [← q1.length, ← szL_eq]; exact Nat.le_of_ble_eq_true hl, fun p hp => ?_⟩
      obtain ⟨x2, r2⟩ := r1.push (u := .lst xs) (o := .lst vs) hp fun y => ⟨xs, upd_same, RVs.ext r1 y _ _ q1⟩
      exact po1 _ _ _ x2 r2 (by unfold RV; exact ⟨p, rfl, by rw [← r1.len]; simp⟩)
    · exact po1.elim⟩

/-! ### operators -/
/-- an operation by values -/
def OpL (X : Cx) (S : Stat) (f : Value → Value → Sem Value) (g : PV → PV → Hh → Rs PV) : Prop :=
  OpR X f fun x y H Q => ∃ ρ h p q, Rl X.K S ρ h H ∧ RV X.K S ρ H p x ∧ RV X.K S ρ H q y ∧ Pk X.K S (RV X.K S) ρ H (g p q h) Q
theorem op_imp {r : R2} {a b : Op → Op} {g : PV → PV → Hh → Rs PV} {f1 f2 : FE} {σ : L2.St} {H : Hp} {Q : VK}
    (hq : tE X.K S (fun e h => (f1 e h).bind fun x h => (f2 e h).bind fun y h => noExc (g x y h)) W σ H Q) :
    tOp (fun x y H Q => ∃ ρ h p q, Rl X.K S ρ h H ∧ RV X.K S ρ H p x ∧ RV X.K S ρ H q y ∧ Pk X.K S (RV X.K S) ρ H (g p q h) Q) (tE X.K S f1 W) (tE X.K S f2 W) σ H Q := by
  obtain ⟨ρ, e, h, rl, re, po⟩ := hq
  exact ⟨ρ, e, h, rl, re, Po.bind po fun v h1 V H1 ρ1 x1 r1 q1 po1 => ⟨ρ1, e, h1, r1, RE.ext rl x1 re, Po.bind po1 fun u h2 U H2 ρ2 x2 r2 q2 po2 => ⟨ρ2, h2, v, u, r2, RV.ext r1 x2 _ _ q1, q2, Po.noExc po2⟩⟩⟩
theorem g_bin {o : Operator} {g : Op → PV → PV → Hh → Rs PV} {k : Op} {a b : Expr} {f1 f2 : FE} (ho : OpL X S (binaryOp o) (g k)) (ha : PE X a (tE X.K S f1 W)) (hb : PE X b (tE X.K S f2 W)) :
    PE X (.BinOp a o b pos) (tE X.K S (opC g k f1 f2) W) := (pe_op ho ha hb).imp fun σ H Q h => op_imp (a := id) (b := id) (r := fun _ _ _ _ => True) h
theorem g_cmp {o : CmpOp} {g : Op → PV → PV → Hh → Rs PV} {k : Op} {a b : Expr} {f1 f2 : FE} (ho : OpL X S (compareOp o) (g k)) (ha : PE X a (tE X.K S f1 W)) (hb : PE X b (tE X.K S f2 W)) (hm : behindInMarks o b = false) :
    PE X (.Compare a [o] [b] pos) (tE X.K S (opC g k f1 f2) W) := (pe_cmpR ho ha hb hm).imp fun σ H Q h => op_imp (a := id) (b := id) (r := fun _ _ _ _ => True) h
theorem asB_po {ρ : List Addr} {H : Hp} {m : Rs PV} {Q : Bool → Hp → Prop} {E : XK} (po : Po X.K S (fun _ _ (a b : Bool) => a = b) ρ H (asB m) Q E) :
    Po X.K S (RV X.K S) ρ H m (fun V H' => ∃ c, V = .bl c ∧ Q c H') E :=
  Po.bind po fun v h1 V H1 ρ1 x1 r1 q1 po1 => by
    cases v with
    | bl b =>
      unfold RV at q1
      exact ⟨b, q1, Po.done r1 rfl po1⟩
    | _ => exact po1.elim
/-- a comparison that is asked -/
theorem t_cmp {o : CmpOp} {g : Op → PV → PV → Hh → Rs PV} {k : Op} {a b : Expr} {f1 f2 : FE} (ho : OpL X S (compareOp o) (g k)) (ha : PE X a (tE X.K S f1 W)) (hb : PE X b (tE X.K S f2 W)) (hm : behindInMarks o b = false) :
    PT X (.Compare a [o] [b] pos) (tT X.K S (opC g k f1 f2) W) := (pt_cmpR ho ha hb hm).imp fun σ H Q ⟨ρ, e, h, rl, re, po⟩ => op_imp (a := id) (b := id) (r := fun _ _ _ _ => True) ⟨ρ, e, h, rl, re, asB_po po⟩
/-- any other expression that is asked -/
theorem t_val {x : Expr} {f : FE} (h : PE X x (tE X.K S f W)) (he : ∀ whole, isTrue x X.env whole = (do let v ← whole; standAt x.pos; holding [v] (truthy v))) : PT X x (tT X.K S f W) :=
  (pt_val h he).imp fun σ H Q ⟨ρ, e, h, rl, re, po⟩ => ⟨ρ, e, h, rl, re, asB_po po⟩
theorem g_neg {a : Expr} {f : FE} (ha : PE X a (tE X.K S f W)) : PE X (.UnaryOp .USub a pos) (tE X.K S (negC f) W) :=
  (pe_un un_neg ha).imp fun σ H Q ⟨ρ, e, h, rl, re, po⟩ => ⟨ρ, e, h, rl, re, Po.bind po fun v h1 V H1 ρ1 x1 r1 q1 po1 => by
    cases v with
    | int i =>
      unfold RV at q1
      exact ⟨i, q1, Po.done r1 (by unfold RV; rfl) po1⟩
    | _ => exact po1.elim⟩
theorem g_not {a : Expr} {f : FE} (ha : PE X a (tE X.K S f W)) : PE X (.UnaryOp .Not a pos) (tE X.K S (notC f) W) :=
  (pe_not ha).imp fun σ H Q ⟨ρ, e, h, rl, re, po⟩ => ⟨ρ, e, h, rl, re, asB_po (Po.bind po fun v h1 V H1 ρ1 x1 r1 q1 po1 => by
    subst q1
    exact Po.done r1 (by unfold RV; rfl) po1)⟩
theorem t_not {a : Expr} {f : FE} (ha : PT X a (tT X.K S f W)) : PT X (.UnaryOp .Not a pos) (tT X.K S (notC f) W) :=
  (pt_not ha).imp fun σ H Q ⟨ρ, e, h, rl, re, po⟩ => ⟨ρ, e, h, rl, re, by
    refine Po.bind (rel2 := RV X.K S) (Q := fun V H' => ∃ c, V = .bl c ∧ Q c H') (k := fun b h => .ok (.bl (!b)) h) (asB_po po) fun v h1 V H1 ρ1 x1 r1 q1 po1 => ?_
    subst q1
    obtain ⟨c, e1, e2⟩ := Po.done r1 (V := .bl (!v)) (by unfold RV; rfl) po1
    cases e1
    exact e2⟩
theorem g_and {a b : Expr} {rest : List Expr} {f g : FE} (ha : PE X a (tE X.K S f W)) (hb : PE X (.BoolOp .And (b :: rest) pos) (tE X.K S g W)) : PE X (.BoolOp .And (a :: b :: rest) pos) (tE X.K S (andC f g) W) :=
  (pe_and ha hb).imp fun σ H Q ⟨ρ, e, h, rl, re, po⟩ => ⟨ρ, e, h, rl, re, asB_po (Po.bind po fun v h1 V H1 ρ1 x1 r1 q1 po1 => by
    subst q1
    cases v with
    | false => exact Po.done r1 (by unfold RV; rfl) po1
    | true =>
      refine ⟨ρ1, e, h1, r1, RE.ext rl x1 re, ?_⟩
      refine Po.mono (asB_po (Po.bind po1 (Q' := fun b H' => Q (.bl b) H') fun v h2 V H2 ρ2 x2 r2 q2 po2 => ?_)) (fun V H' z => ?_) fun _ _ _ z => z
      · subst q2
        exact Po.done r2 (by unfold RV; rfl) po2
      · obtain ⟨c, rfl, z⟩ := z
        exact z)⟩
theorem g_or {a b : Expr} {rest : List Expr} {f g : FE} (ha : PE X a (tE X.K S f W)) (hb : PE X (.BoolOp .Or (b :: rest) pos) (tE X.K S g W)) : PE X (.BoolOp .Or (a :: b :: rest) pos) (tE X.K S (orC f g) W) :=
  (pe_or ha hb).imp fun σ H Q ⟨ρ, e, h, rl, re, po⟩ => ⟨ρ, e, h, rl, re, asB_po (Po.bind po fun v h1 V H1 ρ1 x1 r1 q1 po1 => by
    subst q1
    cases v with
    | true => exact Po.done r1 (by unfold RV; rfl) po1
    | false =>
      refine ⟨ρ1, e, h1, r1, RE.ext rl x1 re, ?_⟩
      refine Po.mono (asB_po (Po.bind po1 (Q' := fun b H' => Q (.bl b) H') fun v h2 V H2 ρ2 x2 r2 q2 po2 => ?_)) (fun V H' z => ?_) fun _ _ _ z => z
      · subst q2
        exact Po.done r2 (by unfold RV; rfl) po2
      · obtain ⟨c, rfl, z⟩ := z
        exact z)⟩
/-- and, or that are asked -/
theorem t_and {a b : Expr} {rest : List Expr} {f g : FE} (ha : PT X a (tT X.K S f W)) (hb : PW X (.BoolOp .And (b :: rest) pos) (tT X.K S g W)) : PW X (.BoolOp .And (a :: b :: rest) pos) (tT X.K S (andC f g) W) := by
  refine ⟨fun whole pins s σ H Q I ⟨ρ, e, h, rl, re, po⟩ => (pw_and ha hb).run whole pins s σ H Q I ⟨ρ, e, h, rl, re, ?_⟩⟩
  refine Po.bind (rel2 := RV X.K S) (asB_po po) fun v h1 V H1 ρ1 x1 r1 q1 po1 => ?_
  subst q1
  cases v with
  | false =>
    obtain ⟨c, e1, e2⟩ := Po.done r1 (V := .bl false) (by unfold RV; rfl) po1
    cases e1
    exact e2
  | true =>
    refine ⟨ρ1, e, h1, r1, RE.ext rl x1 re, Po.bind po1 fun v h2 V H2 ρ2 x2 r2 q2 po2 => ?_⟩
    subst q2
    obtain ⟨c, e1, e2⟩ := Po.done r2 (V := .bl v) (by unfold RV; rfl) po2
    cases e1
    exact e2
theorem t_or {a b : Expr} {rest : List Expr} {f g : FE} (ha : PT X a (tT X.K S f W)) (hb : PW X (.BoolOp .Or (b :: rest) pos) (tT X.K S g W)) : PW X (.BoolOp .Or (a :: b :: rest) pos) (tT X.K S (orC f g) W) := by
  refine ⟨fun whole pins s σ H Q I ⟨ρ, e, h, rl, re, po⟩ => (pw_or ha hb).run whole pins s σ H Q I ⟨ρ, e, h, rl, re, ?_⟩⟩
  refine Po.bind (rel2 := RV X.K S) (asB_po po) fun v h1 V H1 ρ1 x1 r1 q1 po1 => ?_
  subst q1
  cases v with
  | true =>
    obtain ⟨c, e1, e2⟩ := Po.done r1 (V := .bl true) (by unfold RV; rfl) po1
    cases e1
    exact e2
  | false =>
    refine ⟨ρ1, e, h1, r1, RE.ext rl x1 re, Po.bind po1 fun v h2 V H2 ρ2 x2 r2 q2 po2 => ?_⟩
    subst q2
    obtain ⟨c, e1, e2⟩ := Po.done r2 (V := .bl v) (by unfold RV; rfl) po2
    cases e1
    exact e2
theorem g_ite {c a b : Expr} {f1 f2 f3 : FE} (hc : PT X c (tT X.K S f1 W)) (ha : PE X a (tE X.K S f2 W)) (hb : PE X b (tE X.K S f3 W)) : PE X (.IfExp c a b pos) (tE X.K S (iteC f1 f2 f3) W) :=
  (pe_ifExp hc ha hb).imp fun σ H Q ⟨ρ, e, h, rl, re, po⟩ => ⟨ρ, e, h, rl, re, Po.bind po fun v h1 V H1 ρ1 x1 r1 q1 po1 => by
    subst q1
    cases v with
    | true => exact ⟨ρ1, e, h1, r1, RE.ext rl x1 re, po1⟩
    | false => exact ⟨ρ1, e, h1, r1, RE.ext rl x1 re, po1⟩⟩
end
end Lf

end
section
set_option Elab.async false
set_option linter.all false
set_option maxRecDepth 100000
set_option autoImplicit false
/-! LfF: the operations by values are those of the model. -/
namespace Lf
open PySem PySem.Spec PyProof.Rows L2

/-! ### values as data -/
mutual
theorem eqD_eqv : ∀ a b : PyData, a.plain = true → b.plain = true → eqD a b = PyData.eqv a b
  | .none, b, _, _ => by cases b <;> simp [eqD, PyData.eqv]
  | .bool _, b, _, _ => by cases b <;> simp [eqD, PyData.eqv]
  | .int _, b, _, _ => by cases b <;> simp [eqD, PyData.eqv]
  | .str x, b, _, _ => by
    cases b with
    | str y =>
      simp only [eqD, PyData.eqv]
      rw [Bool.eq_iff_iff, strEq_iff]
      simp
    | _ => simp [eqD, PyData.eqv]
  | .list xs, b, h1, h2 => by
    cases b with
    | list ys =>
      simp only [eqD, PyData.eqv]
      exact eqDs_eqv xs ys (by simpa [PyData.plain] using h1) (by simpa [PyData.plain] using h2)
    | _ => simp [eqD, PyData.eqv]
  | .tuple xs, b, h1, h2 => by
    cases b with
    | tuple ys =>
      simp only [eqD, PyData.eqv]
      exact eqDs_eqv xs ys (by simpa [PyData.plain] using h1) (by simpa [PyData.plain] using h2)
    | _ => simp [eqD, PyData.eqv]
  | .dict _, b, h, _ => by simp [PyData.plain] at h
theorem eqDs_eqv : ∀ a b : List PyData, PyData.plainAll a = true → PyData.plainAll b = true → eqDs a b = PyData.eqvAll a b
  | [], [], _, _ => rfl
  | [], _ :: _, _, _ => rfl
  | _ :: _, [], _, _ => rfl
  | x :: xs, y :: ys, h1, h2 => by
    simp only [PyData.plainAll, Bool.and_eq_true] at h1 h2
    simp only [eqDs, PyData.eqvAll, eqD_eqv x y h1.1 h2.1, eqDs_eqv xs ys h1.2 h2.2]
end

inductive F2 {α β : Type} (R : α → β → Prop) : List α → List β → Prop
  | nil : F2 R [] []
  | cons {a b l m} : R a b → F2 R l m → F2 R (a :: l) (b :: m)
theorem allSome_cons {α : Type} {a : Option α} {r : List (Option α)} {l : List α} (h : allSome (a :: r) = some l) : ∃ b m, a = some b ∧ allSome r = some m ∧ l = b :: m := by
  cases a with
  | none => simp [allSome] at h
  | some b =>
    simp only [allSome] at h
    split at h
    · rename_i m hm
      exact ⟨b, m, rfl, hm, (Option.some.inj h).symm⟩
    · cases h

section
variable {K : PySem.W.Frag} {S : Stat} {ρ : List Addr} {h : Hh} {H : Hp}
theorem dat_all (f : PV → Option PyData) (P : PyData → Prop) (Q : V → PyData → Prop) (hf : ∀ p d, f p = some d → P d ∧ ∀ x, RV K S ρ H p x → Q x d) :
    ∀ (ps : List PV) (l : List PyData), allSome (ps.map f) = some l → (∀ d ∈ l, P d) ∧ ∀ xs, RVs K S ρ H ps xs → F2 Q xs l
  | [], l, e => by
    simp [allSome] at e
    subst e
    refine ⟨by simp, fun xs r => ?_⟩
    unfold RVs at r
    subst r
    exact .nil
  | p :: ps, l, e => by
    obtain ⟨d, m, e1, e2, rfl⟩ := allSome_cons (by simpa using e)
    obtain ⟨a1, a2⟩ := hf p d e1
    obtain ⟨b1, b2⟩ := dat_all f P Q hf ps m e2
    refine ⟨fun d' hd => ?_, fun xs r => ?_⟩
    · rcases List.mem_cons.mp hd with rfl | hd
      · exact a1
      · exact b1 d' hd
    · unfold RVs at r
      obtain ⟨x, s, rfl, r1, r2⟩ := r
      exact .cons (a2 x r1) (b2 s r2)
theorem dpAll_of : ∀ {xs : List V} {ds : List PyData}, F2 (Dp K H) xs ds → DpAll K H xs ds
  | _, _, .nil => .nil
  | _, _, .cons a b => .cons a (dpAll_of b)
theorem plainAll_of : ∀ {ds : List PyData}, (∀ d ∈ ds, d.plain = true) → PyData.plainAll ds = true
  | [], _ => rfl
  | d :: ds, h => by
    simp only [PyData.plainAll, Bool.and_eq_true]
    exact ⟨h d List.mem_cons_self, plainAll_of fun d hd => h d (List.mem_cons_of_mem _ hd)⟩
theorem depthAll_of {n : Nat} : ∀ {ds : List PyData}, (∀ d ∈ ds, d.depth ≤ n) → PyData.depthAll ds ≤ n
  | [], _ => Nat.zero_le _
  | d :: ds, h => by
    simp only [PyData.depthAll]
    exact Nat.max_le.mpr ⟨h d List.mem_cons_self, depthAll_of fun d hd => h d (List.mem_cons_of_mem _ hd)⟩
theorem dat_ok (r : Rl K S ρ h H) : ∀ (n : Nat) (p : PV) (d : PyData), dat h n p = some d → (d.plain = true ∧ d.depth ≤ n) ∧ ∀ x, RV K S ρ H p x → Dp K H x d
  | n, .non, d, e => by
    simp [dat] at e
    subst e
    refine ⟨⟨rfl, by simp [PyData.depth]⟩, fun x q => ?_⟩
    unfold RV at q; subst q; exact .non
  | n, .bl b, d, e => by
    simp [dat] at e
    subst e
    refine ⟨⟨rfl, by simp [PyData.depth]⟩, fun x q => ?_⟩
    unfold RV at q; subst q; exact .bl b
  | n, .int b, d, e => by
    simp [dat] at e
    subst e
    refine ⟨⟨rfl, by simp [PyData.depth]⟩, fun x q => ?_⟩
    unfold RV at q; subst q; exact .int b
  | n, .str b, d, e => by
    simp [dat] at e
    subst e
    refine ⟨⟨rfl, by simp [PyData.depth]⟩, fun x q => ?_⟩
    unfold RV at q; subst q; exact .str b
  | 0, .tup _, d, e => by simp [dat] at e
  | 0, .kl _, d, e => by simp [dat] at e
  | 0, .wt _, d, e => by simp [dat] at e
  | n + 1, .wt _, d, e => by simp [dat] at e
  | 0, .ref _, d, e => by simp [dat] at e
  | 0, .ty _, d, e => by simp [dat] at e
  | 0, .fn _, d, e => by simp [dat] at e
  | n + 1, .ty _, d, e => by simp [dat] at e
  | n + 1, .fn _, d, e => by simp [dat] at e
  | n + 1, .tup ps, d, e => by
    simp only [dat] at e
    split at e
    · rename_i l hl
      cases e
      obtain ⟨a1, a2⟩ := dat_all (dat h n) (fun d => d.plain = true ∧ d.depth ≤ n) (Dp K H) (fun p d e => dat_ok r n p d e) ps l hl
      refine ⟨⟨by simp only [PyData.plain]; exact plainAll_of fun d hd => (a1 d hd).1, by simp only [PyData.depth]; have := depthAll_of (fun d hd => (a1 d hd).2); omega⟩, fun x q => ?_⟩
      unfold RV at q
      obtain ⟨a, xs, rfl, t, q⟩ := q
      exact .tup t.sq (dpAll_of (a2 xs q))
    · cases e
  | n + 1, .kl ps, d, e => by
    simp only [dat] at e
    split at e
    · rename_i l hl
      cases e
      obtain ⟨a1, a2⟩ := dat_all (dat h n) (fun d => d.plain = true ∧ d.depth ≤ n) (Dp K H) (fun p d e => dat_ok r n p d e) ps l hl
      refine ⟨⟨by simp only [PyData.plain]; exact plainAll_of fun d hd => (a1 d hd).1, by simp only [PyData.depth]; have := depthAll_of (fun d hd => (a1 d hd).2); omega⟩, fun x q => ?_⟩
      unfold RV at q
      obtain ⟨a, xs, rfl, t, q⟩ := q
      exact .lst t.sq (dpAll_of (a2 xs q))
    · cases e
  | n + 1, .ref k, d, e => by
    simp only [dat] at e
    split at e
    · rename_i ps hk
      split at e
      · rename_i l hl
        cases e
        obtain ⟨a1, a2⟩ := dat_all (dat h n) (fun d => d.plain = true ∧ d.depth ≤ n) (Dp K H) (fun p d e => dat_ok r n p d e) ps l hl
        refine ⟨⟨by simp only [PyData.plain]; exact plainAll_of fun d hd => (a1 d hd).1, by simp only [PyData.depth]; have := depthAll_of (fun d hd => (a1 d hd).2); omega⟩, fun x q => ?_⟩
        unfold RV at q
        obtain ⟨a, rfl, q⟩ := q
        obtain ⟨xs, e1, e2⟩ := r.ob _ _ a hk q
        exact .lst (.inl (.inl e1)) (dpAll_of (a2 xs e2))
      · cases e
    · cases e
end

section
variable {X : Cx} {S : Stat} {ρ : List Addr} {h : Hh} {H : Hp}
/-- what a value reads as -/
theorem dat_reads {pins : List (Addr × Obj)} {σ : L2.St} {s : Shared} {p : PV} {x : V} {v : Value} {d : PyData} (I : Inv X pins σ H s) (r : Rl X.K S ρ h H) (e : dat h deep p = some d) (q : RV X.K S ρ H p x) (rx : RelV x v) :
    d.plain = true ∧ d.depth ≤ deep ∧ ∃ as, Reads s.heap v d as := by
  obtain ⟨⟨a, b⟩, c⟩ := dat_ok r deep p d e
  exact ⟨a, b, Dp.reads I d x v (c x q) rx⟩
/-- nothing changed: a value at hand -/
theorem Pk.done {α β : Type} {K : PySem.W.Frag} {rel : List Addr → Hp → α → β → Prop} {v : α} {V : β} {Q : β → Hp → Prop} (r : Rl K S ρ h H) (q : rel ρ H v V) (p : Pk K S rel ρ H (.ok v h) Q) : Q V H := p V H ρ Ext.refl r q
theorem rv_bl {K : PySem.W.Frag} {b : Bool} : RV K S ρ H (.bl b) (.bl b) := by unfold RV; rfl
theorem rv_int {K : PySem.W.Frag} {i : Int} : RV K S ρ H (.int i) (.int i) := by unfold RV; rfl
theorem rv_str {K : PySem.W.Frag} {x : Str} : RV K S ρ H (.str x) (.str x) := by unfold RV; rfl
theorem rv_non {K : PySem.W.Frag} : RV K S ρ H .non .non := by unfold RV; rfl

abbrev OpK (X : Cx) (S : Stat) (g : PV → PV → Hh → Rs PV) : V → V → Hp → VK → Prop := fun x y H Q => ∃ ρ h p q, Rl X.K S ρ h H ∧ RV X.K S ρ H p x ∧ RV X.K S ρ H q y ∧ Pk X.K S (RV X.K S) ρ H (g p q h) Q
/-- an answer from data alone -/
theorem okB_pk {m : Option Bool} {Q : VK} (r : Rl X.K S ρ h H) (k : Pk X.K S (RV X.K S) ρ H (okB m h) Q) : ∃ b, m = some b ∧ Q (.bl b) H := by
  cases m with
  | none => exact k.elim
  | some b => exact ⟨b, rfl, Pk.done r rv_bl k⟩
theorem blt_lt {a b : Nat} (h : Nat.blt a b = true) : a < b := blt_true h
theorem o_eq (hu : X.A.units + 200 < cLine) : OpL X S (compareOp .Eq) (op1 .eq) := by
  intro pins s σ H x y v u Q I rx ry ⟨ρ, h, p, q, rl, rp, rq, k⟩
  obtain ⟨b, e, k⟩ := okB_pk rl (show Pk X.K S (RV X.K S) ρ H (okB (eqP h p q) h) Q from k)
  unfold eqP at e
  split at e
  · rename_i da db ea eb
    cases e
    obtain ⟨a1, a2, _, a3⟩ := dat_reads I rl ea rp rx
    obtain ⟨b1, b2, _, b3⟩ := dat_reads I rl eb rq ry
    rw [eqD_eqv da db a1 b1] at k
    exact SeqAt.eq_plain a3 b3 a1 b1 (by unfold deep at a2; omega) ⟨.bl _, H, I, rfl, k⟩
  · cases e
theorem o_ne (hu : X.A.units + 200 < cLine) : OpL X S (compareOp .NotEq) (op1 .ne) := by
  intro pins s σ H x y v u Q I rx ry ⟨ρ, h, p, q, rl, rp, rq, k⟩
  obtain ⟨b, e, k⟩ := okB_pk rl (show Pk X.K S (RV X.K S) ρ H (okB ((eqP h p q).map (!·)) h) Q from k)
  unfold eqP at e
  split at e
  · rename_i da db ea eb
    cases e
    obtain ⟨a1, a2, _, a3⟩ := dat_reads I rl ea rp rx
    obtain ⟨b1, b2, _, b3⟩ := dat_reads I rl eb rq ry
    rw [eqD_eqv da db a1 b1] at k
    exact SeqAt.ne_plain a3 b3 a1 b1 (by unfold deep at a2; omega) ⟨.bl _, H, I, rfl, k⟩
  · cases e
theorem o_sub : OpL X S (binaryOp .Sub) (op1 .sub) := by
  intro pins s σ H x y v u Q I rx ry ⟨ρ, h, p, q, rl, rp, rq, k⟩
  simp only [op1] at k
  unfold subV at k
  split at k
  · unfold RV at rp rq
    exact op_sub pins s σ H x y v u Q I rx ry ⟨_, _, rp, rq, Pk.done rl rv_int k⟩
  · exact k.elim
theorem o_mod : OpL X S (binaryOp .Mod) (op1 .mod) := by
  intro pins s σ H x y v u Q I rx ry ⟨ρ, h, p, q, rl, rp, rq, k⟩
  simp only [op1] at k
  unfold modV at k
  split at k
  · unfold RV at rp rq
    exact op_mod pins s σ H x y v u Q I rx ry ⟨_, _, rp, rq, by show (0 : Int) < ((_ + 1 : Nat) : Int); omega, Pk.done rl rv_int k⟩
  · exact k.elim
theorem o_fdv : OpL X S (binaryOp .FloorDiv) (op1 .fdv) := by
  intro pins s σ H x y v u Q I rx ry ⟨ρ, h, p, q, rl, rp, rq, k⟩
  simp only [op1] at k
  unfold fdvV at k
  split at k
  · split at k
    · rename_i hb
      have hb := blt_lt hb
      unfold RV at rp rq
      exact op_fdiv pins s σ H x y v u Q I rx ry ⟨_, _, rp, rq, ⟨by show (0 : Int) < ((_ + 1 : Nat) : Int); omega, by show ((_ + 1 : Nat) : Int) < _; omega⟩, Pk.done rl rv_int k⟩
    · exact k.elim
  · exact k.elim
theorem o_pow : OpL X S (binaryOp .Pow) (op1 .pow) := by
  intro pins s σ H x y v u Q I rx ry ⟨ρ, h, p, q, rl, rp, rq, k⟩
  simp only [op1] at k
  unfold powV at k
  split at k
  · split at k
    · rename_i hb
      simp only [Bool.and_eq_true] at hb
      have h1 := blt_lt hb.1
      have h2 := Nat.le_of_ble_eq_true hb.2
      unfold RV at rp rq
      refine op_pow pins s σ H x y v u Q I rx ry ⟨_, _, rp, rq, ⟨?_, ?_, ?_⟩, Pk.done rl rv_int k⟩
      · show (0 : Int) ≤ ((_ : Nat) : Int)
        omega
      · show ((_ : Nat) : Int) ≤ 1000000
        omega
      · exact h1
    · exact k.elim
  · exact k.elim

/-! ### places, ends of a slice -/
theorem ixP_ixN {i : Int} {n k : Nat} (h : ixP i n = some k) : ixN n i = some k := by
  unfold ixP at h
  unfold ixN
  split at h
  · split at h
    · rename_i hb
      have hb := blt_lt hb
      cases h
      rw [if_pos (by show (0 : Int) ≤ ((_ : Nat) : Int); omega), if_pos (by show ((_ : Nat) : Int) < _; omega)]
      rfl
    · cases h
  · rename_i j
    split at h
    · rename_i hb
      have hb := blt_lt hb
      have e : Int.negSucc j = -((j : Int) + 1) := by omega
      cases h
      rw [if_neg (by omega), if_pos (by omega)]
      congr 1
      omega
    · cases h
theorem ixP_atI {α : Type} {xs : List α} {i : Int} {k : Nat} {v : α} (h : ixP i xs.length = some k) (hv : xs[k]? = some v) : atI xs i = some v := by
  unfold atI
  rw [ixP_ixN h]
  exact hv
/-- a subscript by values -/
def IxL (X : Cx) (S : Stat) : Prop := IxR X (OpK X S ixV)
theorem o_ix : IxL X S := by
  intro value slice pins s σ H x y v u Q I rx ry ⟨ρ, h, p, q, rl, rp, rq, k⟩ hs
  unfold ixV at k
  have item : ∀ {ps : List PV} {xs : List V} (hl : RVs X.K S ρ H ps xs) (k : Pk X.K S (RV X.K S) ρ H (itemV ps q h) Q), ∃ i z, y = .int i ∧ atI xs i = some z ∧ Q z H := by
    intro ps xs hl k
    unfold itemV at k
    split at k
    · split at k
      · rename_i j hj
        split at k
        · rename_i z hz
          obtain ⟨w, e1, e2⟩ := RVs.get hl hz
          unfold RV at rq
          exact ⟨_, w, rq, ixP_atI (by rw [← hl.length]; exact hj) e1, Pk.done rl e2 k⟩
        · exact k.elim
      · exact k.elim
    · exact k.elim
  split at k
  · unfold RV at rp
    obtain ⟨a, xs, ex, t, hl⟩ := rp
    obtain ⟨i, z, e1, e2, e3⟩ := item hl k
    exact ix_tup value slice pins s σ H x y v u Q I rx ry ⟨a, xs, i, z, ex, e1, t.sq, e2, e3⟩ hs
  · unfold RV at rp
    obtain ⟨a, xs, ex, t, hl⟩ := rp
    obtain ⟨i, z, e1, e2, e3⟩ := item hl k
    exact ix_list value slice pins s σ H x y v u Q I rx ry ⟨a, xs, i, z, ex, e1, t.sq, e2, e3⟩ hs
  · unfold RV at rp
    obtain ⟨a, ex, ha⟩ := rp
    split at k
    · rename_i ps hn
      obtain ⟨xs, t, hl⟩ := rl.ob _ _ a hn ha
      obtain ⟨i, z, e1, e2, e3⟩ := item hl k
      exact ix_list value slice pins s σ H x y v u Q I rx ry ⟨a, xs, i, z, ex, e1, .inl (.inl t), e2, e3⟩ hs
    · exact k.elim
    · exact k.elim
  · exact k.elim
theorem newL_pk {ps : List PV} {xs : List V} {Q : VK} (rl : Rl X.K S ρ h H) (hl : RVs X.K S ρ H ps xs) (k : Pk X.K S (RV X.K S) ρ H (newL ps h) Q) : xs.length ≤ sizeLine ∧ ∀ p, H p = none → Q (.ref p) (upd H p (.lst xs)) := by
  unfold newL at k
  split at k
  · rename_i hb
    refine ⟨by rw [← hl.length, ← szL_eq]; exact Nat.le_of_ble_eq_true hb, fun p hp => ?_⟩
    obtain ⟨x2, r2⟩ := rl.push (u := .lst xs) (o := .lst ps) hp fun y => ⟨xs, upd_same, RVs.ext rl y _ _ hl⟩
    exact k _ _ _ x2 r2 (by unfold RV; exact ⟨p, rfl, by rw [← rl.len]; simp⟩)
  · exact k.elim
theorem newT_pk {ps : List PV} {xs : List V} {Q : VK} (rl : Rl X.K S ρ h H) (hl : RVs X.K S ρ H ps xs) (k : Pk X.K S (RV X.K S) ρ H (.ok (.tup ps) h) Q) : NewT H xs Q := fun p o hp ho => by
  obtain ⟨x2, r2⟩ := rl.tup (u := .frz o (.tup xs)) hp
  exact k _ _ _ x2 r2 (by unfold RV; exact ⟨p, xs, rfl, SqU.new ho, RVs.ext rl x2 _ _ hl⟩)
theorem o_add : OpL X S (binaryOp .Add) (op1 .add) := by
  intro pins s σ H x y v u Q I rx ry ⟨ρ, h, p, q, rl, rp, rq, k⟩
  simp only [op1] at k
  unfold addV at k
  split at k
  · unfold RV at rp rq
    exact op_add pins s σ H x y v u Q I rx ry ⟨_, _, rp, rq, Pk.done rl rv_int k⟩
  · split at k
    · rename_i hb
      unfold RV at rp rq
      exact op_add_str pins s σ H x y v u Q I rx ry ⟨_, _, rp, rq, by rw [← szL_eq]; exact Nat.le_of_ble_eq_true hb, Pk.done rl rv_str k⟩
    · exact k.elim
  · rename_i ps qs
    unfold RV at rp rq
    obtain ⟨a, xs, rfl, t1, r1⟩ := rp
    obtain ⟨b, ys, rfl, t2, r2⟩ := rq
    unfold newT at k
    split at k
    · rename_i hb
      have hb := Nat.le_of_ble_eq_true hb
      refine op_catU pins s σ H _ _ v u Q I rx ry ⟨a, b, xs, ys, rfl, rfl, t1.sq, t2.sq, by rw [← szL_eq, ← r1.length, ← r2.length, ← List.length_append]; exact hb, fun e => ?_, fun _ e => ?_, fun _ _ => newT_pk rl (r1.append r2) k⟩
      · subst e
        have := r1.length
        have e : ps = [] := List.eq_nil_of_length_eq_zero (by simpa using this)
        subst e
        exact Pk.done rl (by unfold RV; exact ⟨b, ys, rfl, t2, r2⟩) k
      · subst e
        have := r2.length
        have e : qs = [] := List.eq_nil_of_length_eq_zero (by simpa using this)
        subst e
        rw [List.append_nil] at k
        exact Pk.done rl (by unfold RV; exact ⟨a, xs, rfl, t1, r1⟩) k
    · exact k.elim
  · rename_i n m
    unfold RV at rp rq
    obtain ⟨a, rfl, ha⟩ := rp
    obtain ⟨b, rfl, hb⟩ := rq
    split at k
    · rename_i ps hn
      split at k
      · rename_i qs hm
        obtain ⟨xs, t1, r1⟩ := rl.ob _ _ a hn ha
        obtain ⟨ys, t2, r2⟩ := rl.ob _ _ b hm hb
        obtain ⟨hz, hq⟩ := newL_pk rl (r1.append r2) k
        exact op_cat pins s σ H _ _ v u Q I rx ry ⟨a, b, xs, ys, rfl, rfl, t1, t2, by rw [← List.length_append]; exact hz, hq⟩
      · exact k.elim
    · exact k.elim
  · exact k.elim

/-! ### is -/
theorem isNon_iff {K : PySem.W.Frag} {p : PV} {x : V} (r : RV K S ρ H p x) : decide (x = .non) = isNon p := by
  cases p <;> unfold RV at r <;> first
    | (subst r; rfl)
    | (obtain ⟨_, _, rfl, _⟩ := r; rfl)
    | (obtain ⟨_, rfl, _⟩ := r; rfl)
theorem o_is : OpL X S (compareOp .Is) (op1 .isN) := by
  intro pins s σ H x y v u Q I rx ry ⟨ρ, h, p, q, rl, rp, rq, k⟩
  simp only [op1] at k
  unfold isV at k
  split at k
  · have e := isNon_iff rp
    unfold RV at rq
    exact op_isN pins s σ H x y v u Q I rx ry ⟨rq, Pk.done rl (by rw [e]; exact rv_bl) k⟩
  · simp only [Bool.beq_eq_decide_eq] at k
    unfold RV at rp rq
    exact op_isBl pins s σ H x y v u Q I rx ry ⟨_, _, rp, rq, Pk.done rl rv_bl k⟩
  · exact k.elim
theorem o_isn : OpL X S (compareOp .IsNot) (op1 .isnN) := by
  intro pins s σ H x y v u Q I rx ry ⟨ρ, h, p, q, rl, rp, rq, k⟩
  simp only [op1] at k
  unfold isnV at k
  split at k
  · have e := isNon_iff rp
    unfold RV at rq
    exact op_notN pins s σ H x y v u Q I rx ry ⟨rq, Pk.done rl (by rw [e]; exact rv_bl) k⟩
  · simp only [Bool.beq_eq_decide_eq] at k
    unfold RV at rp rq
    exact op_notBl pins s σ H x y v u Q I rx ry ⟨_, _, rp, rq, Pk.done rl rv_bl k⟩
  · exact k.elim

/-! ### in, not in -/
theorem anyD_eqv {d : PyData} (hd : d.plain = true) : ∀ {l : List PyData}, PyData.plainAll l = true → anyD d l = l.any fun y => PyData.eqv y d
  | [], _ => rfl
  | y :: r, h => by
    simp only [PyData.plainAll, Bool.and_eq_true] at h
    simp only [anyD, List.any_cons, eqD_eqv y d h.1 hd, anyD_eqv hd h.2]
theorem mem_core {pins : List (Addr × Obj)} {s : Shared} {σ : L2.St} {x y : V} {v u : Value} {p q : PV} {b : Bool} (hu : X.A.units + 200 < cLine) (I : Inv X pins σ H s) (rx : RelV x v) (ry : RelV y u) (rl : Rl X.K S ρ h H) (rp : RV X.K S ρ H p x) (rq : RV X.K S ρ H q y)
    (e : inV1 p q h = some b) : ∃ d ds bs, d.plain = true ∧ PyData.plainAll ds = true ∧ Reads s.heap v d bs ∧ X.A.units + 1 + min (PyData.depthAll ds) d.depth < cLine ∧ (∃ as, Reads s.heap u (.list ds) as ∨ Reads s.heap u (.tuple ds) as) ∧ b = ds.any fun y => PyData.eqv y d := by
  have core : ∀ {ps : List PV}, memV h p ps = some b → ∃ d ds bs, d.plain = true ∧ PyData.plainAll ds = true ∧ Reads s.heap v d bs ∧ X.A.units + 1 + min (PyData.depthAll ds) d.depth < cLine ∧ (∀ xs, RVs X.K S ρ H ps xs → DpAll X.K H xs ds) ∧ b = ds.any fun y => PyData.eqv y d := by
    intro ps e
    unfold memV at e
    split at e
    · rename_i d ds ed es
      cases e
      obtain ⟨a1, a2, bs, a3⟩ := dat_reads I rl ed rp rx
      obtain ⟨c1, c2⟩ := dat_all (dat h deep) (fun d => d.plain = true ∧ d.depth ≤ deep) (Dp X.K H) (fun p d e => dat_ok rl deep p d e) ps ds es
      have pl := plainAll_of fun d hd => (c1 d hd).1
      exact ⟨d, ds, bs, a1, pl, a3, by unfold deep at a2; omega, fun xs r => dpAll_of (c2 xs r), anyD_eqv a1 pl⟩
    · cases e
  unfold inV1 at e
  split at e
  · unfold RV at rq
    obtain ⟨a, xs, rfl, t, hl⟩ := rq
    obtain ⟨d, ds, bs, h1, h2, h3, h4, h5, h6⟩ := core e
    obtain ⟨as, r⟩ := Dp.reads I _ _ u (.tup t.sq (h5 xs hl)) ry
    exact ⟨d, ds, bs, h1, h2, h3, h4, ⟨as, .inr r⟩, h6⟩
  · unfold RV at rq
    obtain ⟨a, xs, rfl, t, hl⟩ := rq
    obtain ⟨d, ds, bs, h1, h2, h3, h4, h5, h6⟩ := core e
    obtain ⟨as, r⟩ := Dp.reads I _ _ u (.lst t.sq (h5 xs hl)) ry
    exact ⟨d, ds, bs, h1, h2, h3, h4, ⟨as, .inl r⟩, h6⟩
  · unfold RV at rq
    obtain ⟨a, rfl, ha⟩ := rq
    split at e
    · rename_i hn
      obtain ⟨xs, t, hl⟩ := rl.ob _ _ a hn ha
      obtain ⟨d, ds, bs, h1, h2, h3, h4, h5, h6⟩ := core e
      obtain ⟨as, r⟩ := Dp.reads I _ _ u (.lst (.inl (.inl t)) (h5 xs hl)) ry
      exact ⟨d, ds, bs, h1, h2, h3, h4, ⟨as, .inl r⟩, h6⟩
    · cases e
    · cases e
  · cases e
theorem o_in (hu : X.A.units + 200 < cLine) : OpL X S (compareOp .In) (op1 .mem) := by
  intro pins s σ H x y v u Q I rx ry ⟨ρ, h, p, q, rl, rp, rq, k⟩
  obtain ⟨b, e, k⟩ := okB_pk rl (show Pk X.K S (RV X.K S) ρ H (okB (inV1 p q h) h) Q from k)
  obtain ⟨d, ds, bs, h1, h2, h3, h4, ⟨as, h5⟩, rfl⟩ := mem_core hu I rx ry rl rp rq e
  rcases h5 with h5 | h5
  · exact SeqAt.in_list_data h5 h3 h2 h1 h4 ⟨.bl _, H, I, rfl, k⟩
  · exact SeqAt.in_tuple_data h5 h3 h2 h1 h4 ⟨.bl _, H, I, rfl, k⟩
theorem o_nin (hu : X.A.units + 200 < cLine) : OpL X S (compareOp .NotIn) (op1 .nmem) := by
  intro pins s σ H x y v u Q I rx ry ⟨ρ, h, p, q, rl, rp, rq, k⟩
  obtain ⟨b', e, k⟩ := okB_pk rl (show Pk X.K S (RV X.K S) ρ H (okB ((inV1 p q h).map (!·)) h) Q from k)
  obtain ⟨b, e2, rfl⟩ := Option.map_eq_some_iff.mp e
  obtain ⟨d, ds, bs, h1, h2, h3, h4, ⟨as, h5⟩, rfl⟩ := mem_core hu I rx ry rl rp rq e2
  rcases h5 with h5 | h5
  · exact SeqAt.notIn_list_data h5 h3 h2 h1 h4 ⟨.bl _, H, I, rfl, k⟩
  · exact SeqAt.notIn_tuple_data h5 h3 h2 h1 h4 ⟨.bl _, H, I, rfl, k⟩

/-! ### * -/
theorem o_mul : OpL X S (binaryOp .Mult) (op1 .mul) := by
  intro pins s σ H x y v u Q I rx ry ⟨ρ, h, p, q, rl, rp, rq, k⟩
  simp only [op1] at k
  unfold mulV at k
  split at k
  · split at k
    · rename_i i j hb
      unfold RV at rp rq
      have two : (big64 : Int) = 2 ^ 64 := by decide
      refine op_mul pins s σ H x y v u Q I rx ry ⟨_, _, rp, rq, ?_, Pk.done rl rv_int k⟩
      rcases (Bool.or_eq_true _ _).mp hb with hb | hb
      · have hb := blt_lt hb
        exact .inl (by omega)
      · have hb := blt_lt hb
        exact .inr (by omega)
    · exact k.elim
  · split at k
    · rename_i ps m hb
      simp only [Bool.and_eq_true] at hb
      have h1 := Nat.le_of_ble_eq_true hb.1
      have h2 := Nat.le_of_ble_eq_true hb.2
      unfold RV at rp rq
      obtain ⟨a, xs, rfl, t, hl⟩ := rp
      have el := hl.length
      refine op_repU pins s σ H _ _ v u Q I rx ry ⟨a, m, xs, rfl, rq, t.sq, by omega, fun hs => ?_, fun _ => by simpa using newT_pk rl (hl.rep m) k⟩
      have e : (List.replicate m ps).flatten = ps := by
        rcases hs with e | e
        · have : m = 1 := by omega
          subst this
          simp
        · have : ps = [] := List.eq_nil_of_length_eq_zero (by rw [el, e]; rfl)
          subst this
          simp
      rw [e] at k
      exact Pk.done rl (by unfold RV; exact ⟨a, xs, rfl, t, hl⟩) k
    · exact k.elim
  · rename_i n m
    unfold RV at rp rq
    obtain ⟨a, rfl, ha⟩ := rp
    split at k
    · rename_i ps hn
      split at k
      · rename_i hb
        simp only [Bool.and_eq_true] at hb
        have h1 := Nat.le_of_ble_eq_true hb.1
        have h2 := Nat.le_of_ble_eq_true hb.2
        obtain ⟨xs, t1, r1⟩ := rl.ob _ _ a hn ha
        obtain ⟨hz, hq⟩ := newL_pk rl (r1.rep m) k
        have el := r1.length
        have hm : xs.length * m ≤ 1000 * 1000 := Nat.mul_le_mul (by omega) h2
        exact op_rep pins s σ H _ _ v u Q I rx ry ⟨a, m, xs, rfl, rq, t1, by omega, by omega, by rw [sizeLine_eq]; simp; omega, by simpa using hq⟩
      · exact k.elim
    · exact k.elim
  · exact k.elim
end
end Lf

end
section
set_option Elab.async false
set_option linter.all false
set_option maxRecDepth 100000
set_option autoImplicit false
/-! LfO: <, <=, >, >= of data. -/
namespace Lf
open PySem PySem.Spec PyProof.Rows L2
mutual
theorem alike_w : ∀ a b : PyData, alike a b = PySem.W.alike a b
  | .none, b => by cases b <;> simp [alike, PySem.W.alike]
  | .bool _, b => by cases b <;> simp [alike, PySem.W.alike]
  | .int _, b => by cases b <;> simp [alike, PySem.W.alike]
  | .str _, b => by cases b <;> simp [alike, PySem.W.alike]
  | .list xs, b => by
    cases b with
    | list ys => simp only [alike, PySem.W.alike]; exact alikes_w xs ys
    | _ => simp [alike, PySem.W.alike]
  | .tuple xs, b => by
    cases b with
    | tuple ys => simp only [alike, PySem.W.alike]; exact alikes_w xs ys
    | _ => simp [alike, PySem.W.alike]
  | .dict _, b => by cases b <;> simp [alike, PySem.W.alike]
theorem alikes_w : ∀ a b : List PyData, alikes a b = PySem.W.alikeAll a b
  | [], [] => by simp [alikes, PySem.W.alikeAll]
  | [], _ :: _ => by simp [alikes, PySem.W.alikeAll]
  | _ :: _, [] => by simp [alikes, PySem.W.alikeAll]
  | x :: xs, y :: ys => by simp only [alikes, PySem.W.alikeAll, alike_w x y, alikes_w xs ys]
end
theorem natsLt_eq : ∀ a b : List Nat, natsLt a b = decide (a < b)
  | [], [] => by simp [natsLt]
  | [], _ :: _ => by simp [natsLt]
  | _ :: _, [] => by simp [natsLt]
  | x :: a, y :: b => by
    unfold natsLt
    rw [natsLt_eq a b]
    rw [Bool.eq_iff_iff]
    by_cases e : x = y
    · subst e
      simp [List.cons_lt_cons_iff]
    · have e' : Nat.beq x y = false := by
        rw [Bool.eq_false_iff]
        intro z
        exact e (Nat.eq_of_beq_eq_true z)
      rw [e']
      simp only [Bool.false_eq_true, if_false, decide_eq_true_eq, List.cons_lt_cons_iff, e, false_and, or_false]
      constructor
      · exact blt_lt
      · intro z
        exact Nat.ble_eq_true_of_le z
mutual
theorem ltD_w : ∀ a b : PyData, a.plain = true → b.plain = true → alike a b = true → ltD a b = PySem.W.dataLt a b
  | .none, b, _, _, h => by
    cases b <;> simp [alike] at h
    rfl
  | .bool x, b, _, _, h => by
    cases b <;> simp [alike] at h
    rw [PySem.W.dataLt_bool]
    rename_i y _
    cases x <;> cases y <;> rfl
  | .int x, b, _, _, h => by
    cases b <;> simp [alike] at h
    rw [PySem.W.dataLt_int]
    rfl
  | .str x, b, _, _, h => by
    cases b <;> simp [alike] at h
    rw [PySem.W.dataLt_str]
    simp only [ltD, natsLt_eq]
  | .list xs, b, p, q, h => by
    cases b <;> simp [alike] at h
    show ltDs xs _ = PyProof.Rows.lexLt itemOrd (PySem.W.keyToksAll xs) (PySem.W.keyToksAll _)
    exact ltDs_w xs _ (by simpa [PyData.plain] using p) (by simpa [PyData.plain] using q) h
  | .tuple xs, b, p, q, h => by
    cases b <;> simp [alike] at h
    show ltDs xs _ = PyProof.Rows.lexLt itemOrd (PySem.W.keyToksAll xs) (PySem.W.keyToksAll _)
    exact ltDs_w xs _ (by simpa [PyData.plain] using p) (by simpa [PyData.plain] using q) h
  | .dict _, b, h, _, _ => by simp [PyData.plain] at h
theorem ltDs_w : ∀ a b : List PyData, PyData.plainAll a = true → PyData.plainAll b = true → alikes a b = true → ltDs a b = PyProof.Rows.lexLt itemOrd (PySem.W.keyToksAll a) (PySem.W.keyToksAll b)
  | [], [], _, _, _ => by
    have := PySem.W.firstLt_toks [] [] (by simp [PySem.W.alikeAll])
    rw [← this]
    simp [ltDs, SeqAt.firstLt]
  | [], y :: ys, _, _, _ => by
    have := PySem.W.firstLt_toks [] (y :: ys) (by simp [PySem.W.alikeAll])
    rw [← this]
    simp [ltDs, SeqAt.firstLt]
  | x :: xs, [], _, _, _ => by
    have := PySem.W.firstLt_toks (x :: xs) [] (by simp [PySem.W.alikeAll])
    rw [← this]
    simp [ltDs, SeqAt.firstLt]
  | x :: xs, y :: ys, p, q, h => by
    simp only [PyData.plainAll, Bool.and_eq_true] at p q
    simp only [alikes, Bool.and_eq_true] at h
    have ha : PySem.W.alike x y = true := by rw [← alike_w]; exact h.1
    unfold ltDs
    rw [eqD_eqv x y p.1 q.1]
    cases e : PyData.eqv x y with
    | true => rw [if_pos rfl, PySem.W.dataLt_all_yes ha e, ltDs_w xs ys p.2 q.2 h.2]
    | false => rw [if_neg Bool.false_ne_true, PySem.W.dataLt_all_no ha e, ltD_w x y p.1 q.1 h.1]
end
section
variable {X : Cx} {S : Stat}
theorem ord_core {ρ : List Addr} {h : Hh} {H : Hp} {pins : List (Addr × Obj)} {s : Shared} {σ : L2.St} {x y : V} {v u : Value} {p q : PV} {f : PyData → PyData → Bool} {Q : VK} (hu : X.A.units + 200 < cLine) (I : Inv X pins σ H s) (rx : RelV x v) (ry : RelV y u) (rl : Rl X.K S ρ h H)
    (rp : RV X.K S ρ H p x) (rq : RV X.K S ρ H q y) (k : Pk X.K S (RV X.K S) ρ H (ordV f p q h) Q) :
    ∃ a b as bs, Reads s.heap v a as ∧ Reads s.heap u b bs ∧ a.plain = true ∧ b.plain = true ∧ alike a b = true ∧ a ≠ .none ∧ X.A.units + min a.depth b.depth < cLine ∧ Q (.bl (f a b)) H := by
  unfold ordV at k
  split at k
  · rename_i a b ea eb
    obtain ⟨a1, a2, as, a3⟩ := dat_reads I rl ea rp rx
    obtain ⟨b1, b2, bs, b3⟩ := dat_reads I rl eb rq ry
    split at k
    · exact k.elim
    · rename_i ne
      split at k
      · rename_i al
        exact ⟨a, b, as, bs, a3, b3, a1, b1, al, ne, by unfold deep at a2; omega, Pk.done rl rv_bl k⟩
      · exact k.elim
  · exact k.elim
theorem alike_sym : ∀ a b : PyData, alike a b = alike b a := by
  have main : ∀ n : Nat, (∀ a b : PyData, sizeOf a < n → alike a b = alike b a) ∧ ∀ a b : List PyData, sizeOf a < n → alikes a b = alikes b a := by
    intro n
    induction n with
    | zero => exact ⟨fun _ _ h => absurd h (Nat.not_lt_zero _), fun _ _ h => absurd h (Nat.not_lt_zero _)⟩
    | succ n ih =>
      refine ⟨fun a b hs => ?_, fun a b hs => ?_⟩
      · cases a <;> cases b <;> simp [alike]
        all_goals exact ih.2 _ _ (by simp at hs; omega)
      · cases a <;> cases b <;> simp [alikes]
        rename_i x xs y ys
        simp at hs
        rw [ih.1 x y (by omega), ih.2 xs ys (by omega)]
  exact fun a b => (main (sizeOf a + 1)).1 a b (Nat.lt_succ_self _)
theorem o_lt (hu : X.A.units + 200 < cLine) : OpL X S (compareOp .Lt) (op1 .lt) := by
  intro pins s σ H x y v u Q I rx ry ⟨ρ, h, p, q, rl, rp, rq, k⟩
  simp only [op1] at k
  unfold ltV at k
  split at k
  · unfold RV at rp rq
    exact op_lt pins s σ H x y v u Q I rx ry ⟨_, _, rp, rq, Pk.done rl rv_bl k⟩
  · obtain ⟨a, b, as, bs, h1, h2, a1, b1, al, ne, hd, k⟩ := ord_core hu I rx ry rl rp rq k
    simp only [ltD_w _ _ a1 b1 al] at k
    exact PySem.W.lt_data h1 h2 (by rw [← alike_w]; exact al) ne hd ⟨.bl _, H, I, rfl, k⟩
theorem o_le (hu : X.A.units + 200 < cLine) : OpL X S (compareOp .LtE) (op1 .le) := by
  intro pins s σ H x y v u Q I rx ry ⟨ρ, h, p, q, rl, rp, rq, k⟩
  simp only [op1] at k
  unfold leV at k
  split at k
  · unfold RV at rp rq
    exact op_le pins s σ H x y v u Q I rx ry ⟨_, _, rp, rq, Pk.done rl rv_bl k⟩
  · obtain ⟨a, b, as, bs, h1, h2, a1, b1, al, ne, hd, k⟩ := ord_core hu I rx ry rl rp rq k
    simp only [ltD_w _ _ b1 a1 (by rw [alike_sym]; exact al)] at k
    exact PySem.W.le_data h1 h2 (by rw [← alike_w]; exact al) ne hd ⟨.bl _, H, I, rfl, k⟩
theorem o_gt (hu : X.A.units + 200 < cLine) : OpL X S (compareOp .Gt) (op1 .gt) := by
  intro pins s σ H x y v u Q I rx ry ⟨ρ, h, p, q, rl, rp, rq, k⟩
  simp only [op1] at k
  unfold gtV at k
  split at k
  · unfold RV at rp rq
    exact op_gt pins s σ H x y v u Q I rx ry ⟨_, _, rp, rq, Pk.done rl rv_bl k⟩
  · obtain ⟨a, b, as, bs, h1, h2, a1, b1, al, ne, hd, k⟩ := ord_core hu I rx ry rl rp rq k
    simp only [ltD_w _ _ b1 a1 (by rw [alike_sym]; exact al)] at k
    exact PySem.W.gt_data h1 h2 (by rw [← alike_w]; exact al) ne hd ⟨.bl _, H, I, rfl, k⟩
theorem o_ge (hu : X.A.units + 200 < cLine) : OpL X S (compareOp .GtE) (op1 .ge) := by
  intro pins s σ H x y v u Q I rx ry ⟨ρ, h, p, q, rl, rp, rq, k⟩
  simp only [op1] at k
  unfold geV at k
  split at k
  · unfold RV at rp rq
    exact op_ge pins s σ H x y v u Q I rx ry ⟨_, _, rp, rq, Pk.done rl rv_bl k⟩
  · obtain ⟨a, b, as, bs, h1, h2, a1, b1, al, ne, hd, k⟩ := ord_core hu I rx ry rl rp rq k
    simp only [ltD_w _ _ a1 b1 al] at k
    exact PySem.W.ge_data h1 h2 (by rw [← alike_w]; exact al) ne hd ⟨.bl _, H, I, rfl, k⟩
end
end Lf

end
section
set_option Elab.async false
set_option linter.all false
set_option maxRecDepth 100000
set_option autoImplicit false
/-! LfG: subscripts, slices, calls, built-ins, attributes, methods. -/
namespace Lf
open PySem PySem.Spec PyProof.Rows L2

section
variable {X : Cx} {S : Stat} {W : WX} {pos p2 : Pos}
theorem g_ix {a b : Expr} {f1 f2 : FE} (ha : PE X a (tE X.K S f1 W)) (hb : PE X b (tE X.K S f2 W)) (hs : PlainIx b) : PE X (.Subscript a b pos) (tE X.K S (opC op1 .ix f1 f2) W) :=
  (pe_ix o_ix ha hb hs).imp fun σ H Q h => op_imp (g := ixV) (a := id) (b := id) (r := fun _ _ _ _ => True) h

/-! ### slices -/
def tO (K : PySem.W.Frag) (S : Stat) (f : FO) (W : WX) : TO := fun σ H Q => ∃ ρ e h, Rl K S ρ h H ∧ RE K S ρ H e σ ∧ Po K S (fun _ _ (a b : Option Int) => a = b) ρ H (f e h) Q (At W σ)
theorem poImp {e : Option Expr} {t t' : TO} (p : PO X e t) (h : ∀ σ H Q, t' σ H Q → t σ H Q) : PO X e t' := ⟨fun pins s σ H Q I q => p.run pins s σ H Q I (h _ _ _ q)⟩
theorem gp_none : PO X none (tO X.K S noneO W) := poImp po_none fun σ H Q ⟨ρ, e, h, rl, re, po⟩ => Po.done rl rfl po
theorem gp_some {a : Expr} {f : FE} (ha : PE X a (tE X.K S f W)) : PO X (some a) (tO X.K S (someO f) W) :=
  poImp (po_some ha) fun σ H Q ⟨ρ, e, h, rl, re, po⟩ => ⟨ρ, e, h, rl, re, Po.bind po fun v h1 V H1 ρ1 x1 r1 q1 po1 => by
    cases v with
    | int i =>
      unfold RV at q1
      exact ⟨i, q1, Po.done r1 rfl po1⟩
    | _ => exact po1.elim⟩
theorem sliEnd_sIx (n d : Nat) (o : Option Int) : sliEnd n d o = HT.sIx n d o := by
  unfold sliEnd
  split
  · rfl
  · rename_i k
    show _ = HT.sIx n d (some ((k : Nat) : Int))
    rw [HT.sIx_nat]
    split
    · rename_i hb
      have := Nat.le_of_ble_eq_true hb
      omega
    · rename_i hb
      have : ¬ k ≤ n := fun z => hb (Nat.ble_eq_true_of_le z)
      omega
  · rename_i k
    unfold HT.sIx
    simp only
    rw [if_pos (by omega)]
    omega
theorem cutP_rv {ρ : List Addr} {H : Hp} {ps : List PV} {xs : List V} (l u : Option Int) (r : RVs X.K S ρ H ps xs) : RVs X.K S ρ H (cutP ps l u) (cutV xs l u) := by
  unfold cutP cut cutV
  rw [sliEnd_sIx, sliEnd_sIx, r.length]
  exact (r.drop _).take _
theorem o_sli : SlR X (fun x l u H Q => ∃ ρ h p, Rl X.K S ρ h H ∧ RV X.K S ρ H p x ∧ Pk X.K S (RV X.K S) ρ H (sli1 p l u h) Q) := by
  intro pins s σ H x v vl vu lo hi sl Q I rx hs pl pu ⟨ρ, h, p, rl, rp, k⟩
  unfold sli1 at k
  split at k
  · rename_i ps
    unfold RV at rp
    obtain ⟨a, xs, rfl, t, r⟩ := rp
    refine sl_tupU pins s σ H _ v vl vu lo hi sl Q I rx hs pl pu ⟨a, xs, rfl, t.sq, fun ⟨e1, e2⟩ => ?_, fun _ => newT_pk rl (cutP_rv lo hi r) k⟩
    have e : cutP ps lo hi = ps := by
      unfold cutP cut
      rw [sliEnd_sIx, sliEnd_sIx, r.length, e1, e2, ← r.length]
      simp
    rw [e] at k
    exact Pk.done rl (by unfold RV; exact ⟨a, xs, rfl, t, r⟩) k
  · unfold RV at rp
    obtain ⟨a, xs, rfl, t, r⟩ := rp
    exact sl_list pins s σ H _ v vl vu lo hi sl Q I rx hs pl pu ⟨a, xs, rfl, t.sq, (newL_pk rl (cutP_rv lo hi r) k).2⟩
  · unfold RV at rp
    obtain ⟨a, rfl, ha⟩ := rp
    split at k
    · rename_i ps hn
      obtain ⟨xs, t, r⟩ := rl.ob _ _ a hn ha
      exact sl_list pins s σ H _ v vl vu lo hi sl Q I rx hs pl pu ⟨a, xs, rfl, .inl (.inl t), (newL_pk rl (cutP_rv lo hi r) k).2⟩
    · exact k.elim
  · exact k.elim
theorem g_sli {a : Expr} {lo hi : Option Expr} {f : FE} {l u : FO} (ha : PE X a (tE X.K S f W)) (hl : PO X lo (tO X.K S l W)) (hu : PO X hi (tO X.K S u W)) : PE X (.Subscript a (.Slice lo hi none p2) pos) (tE X.K S (sliC sli1 f l u) W) :=
  (pe_slice o_sli ha hl hu).imp fun σ H Q ⟨ρ, e, h, rl, re, po⟩ => ⟨ρ, e, h, rl, re, Po.bind po fun v h1 V H1 ρ1 x1 r1 q1 po1 => ⟨ρ1, e, h1, r1, RE.ext rl x1 re, Po.bind po1 fun w h2 w' H2 ρ2 x2 r2 q2 po2 =>
    ⟨ρ2, e, h2, r2, RE.ext r1 x2 (RE.ext rl x1 re), Po.bind po2 fun z h3 z' H3 ρ3 x3 r3 q3 po3 => by
      cases q2
      cases q3
      exact ⟨ρ3, h3, v, r3, RV.ext r2 x3 _ _ (RV.ext r1 x2 _ _ q1), Po.noExc po3⟩⟩⟩⟩

/-! ### chains of comparisons -/
theorem chain_imp {g : Op → PV → PV → Hh → Rs PV} {k1 k2 : Op} {f1 f2 f3 : FE} {σ : L2.St} {H : Hp} {Q : VK} (hq : tE X.K S (chnC g k1 k2 f1 f2 f3) W σ H Q) :
    tChain (OpK X S (g k1)) (OpK X S (g k2)) (tE X.K S f1 W) (tE X.K S f2 W) (tE X.K S f3 W) σ H Q := by
  obtain ⟨ρ, e, h, rl, re, po⟩ := hq
  refine ⟨ρ, e, h, rl, re, Po.bind po fun v h1 V H1 ρ1 x1 r1 q1 po1 => ⟨ρ1, e, h1, r1, RE.ext rl x1 re, Po.bind po1 fun u h2 U H2 ρ2 x2 r2 q2 po2 => ⟨ρ2, h2, v, u, r2, RV.ext r1 x2 _ _ q1, q2, ?_⟩⟩⟩
  have go : Po X.K S (RV X.K S) ρ2 H2 (noExc (g k1 v u h2)) (fun z H' => ∃ k, z = .bl k ∧ (if k = true then tE X.K S f3 W σ H' (fun w' H4 => OpK X S (g k2) U w' H4 Q) else Q (.bl false) H')) (At W σ) := by
    refine Po.mono (asB_po (Po.bind po2 fun b h3 B H3 ρ3 x3 r3 q3 po3 => ?_)) (fun V H' z => z) (fun _ _ _ z => z)
    subst q3
    cases b with
    | false =>
      simp only [Bool.false_eq_true, if_false]
      exact Po.done r3 rv_bl po3
    | true =>
      simp only [if_true]
      refine ⟨ρ3, e, h3, r3, RE.ext r2 x3 (RE.ext r1 x2 (RE.ext rl x1 re)), Po.bind po3 fun w h4 W' H4 ρ4 x4 r4 q4 po4 => ⟨ρ4, h4, u, w, r4, RV.ext r3 x4 _ _ (RV.ext r2 x3 _ _ q2), q4, ?_⟩⟩
      refine Po.noExc (E := At W σ) ?_
      refine Po.mono (asB_po (Po.bind po4 (Q' := fun b H' => Q (.bl b) H') fun b h5 B H5 ρ5 x5 r5 q5 po5 => ?_)) (fun V H' z => ?_) fun _ _ _ z => z
      · subst q5
        exact Po.done r5 rv_bl po5
      · obtain ⟨c, rfl, z⟩ := z
        exact z
  exact Po.noExc go
theorem g_chn {g : Op → PV → PV → Hh → Rs PV} {o o' : CmpOp} {k1 k2 : Op} {a b c : Expr} {f1 f2 f3 : FE} (ho : OpL X S (compareOp o) (g k1)) (ho' : OpL X S (compareOp o') (g k2)) (ha : PE X a (tE X.K S f1 W)) (hb : PE X b (tE X.K S f2 W)) (hc : PE X c (tE X.K S f3 W))
    (hm : lastMarks [o, o'] [b, c] = false) : PE X (.Compare a [o, o'] [b, c] pos) (tE X.K S (chnC g k1 k2 f1 f2 f3) W) :=
  (pe_chain ho ho' ha hb hc hm).imp fun σ H Q h => chain_imp h
theorem t_chn {g : Op → PV → PV → Hh → Rs PV} {o o' : CmpOp} {k1 k2 : Op} {a b c : Expr} {f1 f2 f3 : FE} (ho : OpL X S (compareOp o) (g k1)) (ho' : OpL X S (compareOp o') (g k2)) (ha : PE X a (tE X.K S f1 W)) (hb : PE X b (tE X.K S f2 W)) (hc : PE X c (tE X.K S f3 W))
    (hm : lastMarks [o, o'] [b, c] = false) : PT X (.Compare a [o, o'] [b, c] pos) (tT X.K S (chnC g k1 k2 f1 f2 f3) W) :=
  (pt_chain ho ho' ha hb hc hm).imp fun σ H Q ⟨ρ, e, h, rl, re, po⟩ => chain_imp ⟨ρ, e, h, rl, re, asB_po po⟩

/-! ### built-ins -/
abbrev CallK (X : Cx) (S : Stat) (g : List PV → Hh → Rs PV) : List V → Hp → VK → Prop := fun xs H Q => ∃ ρ h ps, Rl X.K S ρ h H ∧ RVs X.K S ρ H ps xs ∧ Pk X.K S (RV X.K S) ρ H (g ps h) Q
theorem cb_imp {g : List PV → Hh → Rs PV} {f : FL} {σ : L2.St} {H : Hp} {Q : VK} (hq : tE X.K S (biC g f) W σ H Q) : tCB (CallK X S g) (tL X.K S f W) σ H Q := by
  obtain ⟨ρ, e, h, rl, re, po⟩ := hq
  exact ⟨ρ, e, h, rl, re, Po.bind po fun v h1 V H1 ρ1 x1 r1 q1 po1 => ⟨ρ1, h1, v, r1, q1, Po.noExc po1⟩⟩
theorem g_biB {id : String} {x : Str} {e : Expr} {es : List Expr} {p : Pos} {g : List PV → Hh → Rs PV} {f : FL} (hc : CallR X (.builtin id) (CallK X S g)) (hg : Gl X x) (hm : X.mg x = none) (hv : bootBuiltins x = some (.builtin id)) (ha : PA X (e :: es) (tL X.K S f W)) (hn : x ≠ "__name__") (hdb : (x == ("__debug__" : Str)) = false)
    (he : starEach (e :: es) X.env = (false, eval e X.env) :: starEach es X.env) (hpl : (backTo pos (starEach es X.env)).any (·.1) = false) : PE X (.Call (.Name x p) (e :: es) [] pos) (tE X.K S (biC g f) W) :=
  (pe_callB hc hg hm hv ha hn hdb he hpl).imp fun σ H Q h => cb_imp h
theorem g_biT {T : String} {x : Str} {e : Expr} {es : List Expr} {p : Pos} {g : List PV → Hh → Rs PV} {f : FL} (hc : CallR X (.type T) (CallK X S g)) (hg : Gl X x) (hm : X.mg x = none) (hv : bootBuiltins x = some (.type T)) (ha : PA X (e :: es) (tL X.K S f W)) (hn : x ≠ "__name__") (hdb : (x == ("__debug__" : Str)) = false)
    (he : starEach (e :: es) X.env = (false, eval e X.env) :: starEach es X.env) (hpl : (backTo pos (starEach es X.env)).any (·.1) = false) : PE X (.Call (.Name x p) (e :: es) [] pos) (tE X.K S (biC g f) W) :=
  (pe_callTy hc hg hm hv ha hn hdb he hpl).imp fun σ H Q h => cb_imp h
theorem on1_k {f : PV → Hh → Rs PV} {ρ : List Addr} {H : Hp} {h : Hh} {ps : List PV} {xs : List V} {Q : VK} (r : RVs X.K S ρ H ps xs) (k : Pk X.K S (RV X.K S) ρ H (on1 f ps h) Q) : ∃ p x, ps = [p] ∧ xs = [x] ∧ RV X.K S ρ H p x ∧ Pk X.K S (RV X.K S) ρ H (f p h) Q := by
  unfold on1 at k
  split at k
  · unfold RVs at r
    obtain ⟨x, s, rfl, r1, r2⟩ := r
    unfold RVs at r2
    subst r2
    exact ⟨_, x, rfl, rfl, r1, k⟩
  · exact k.elim
theorem on2_k {f : PV → PV → Hh → Rs PV} {ρ : List Addr} {H : Hp} {h : Hh} {ps : List PV} {xs : List V} {Q : VK} (r : RVs X.K S ρ H ps xs) (k : Pk X.K S (RV X.K S) ρ H (on2 f ps h) Q) :
    ∃ p q x y, ps = [p, q] ∧ xs = [x, y] ∧ RV X.K S ρ H p x ∧ RV X.K S ρ H q y ∧ Pk X.K S (RV X.K S) ρ H (f p q h) Q := by
  unfold on2 at k
  split at k
  · unfold RVs at r
    obtain ⟨x, s, rfl, r1, r2⟩ := r
    unfold RVs at r2
    obtain ⟨y, s, rfl, r2, r3⟩ := r2
    unfold RVs at r3
    subst r3
    exact ⟨_, _, x, y, rfl, rfl, r1, r2, k⟩
  · exact k.elim
theorem b_len : CallR X (.builtin "len") (CallK X S (bi1 .len)) := by
  intro pins s σ H xs us Q I r ⟨ρ, h, ps, rl, rs, k⟩
  obtain ⟨p, x, rfl, rfl, r1, k⟩ := on1_k (f := lenVV) rs k
  unfold lenVV at k
  split at k
  · rename_i n hn
    refine call_len pins s σ H _ us Q I r ⟨x, n, rfl, ?_, Pk.done rl rv_int k⟩
    unfold lenV at hn
    split at hn
    · unfold RV at r1
      obtain ⟨a, xs, rfl, t, r2⟩ := r1
      cases hn
      exact .inr ⟨xs, t.sq, r2.length⟩
    · unfold RV at r1
      obtain ⟨a, xs, rfl, t, r2⟩ := r1
      cases hn
      exact .inl ⟨xs, t.sq, r2.length⟩
    · unfold RV at r1
      subst r1
      split at hn
      · rename_i hb
        cases hn
        exact ⟨by rw [← szL_eq]; exact Nat.le_of_ble_eq_true hb, rfl⟩
      · cases hn
    · unfold RV at r1
      obtain ⟨a, rfl, ha⟩ := r1
      split at hn
      · rename_i hk
        obtain ⟨xs, t, r2⟩ := rl.ob _ _ a hk ha
        cases hn
        exact .inl ⟨xs, .inl (.inl t), r2.length⟩
      · cases hn
    · cases hn
  · exact k.elim
theorem b_tuple : CallR X (.type "tuple") (CallK X S (bi1 .tuple)) := by
  intro pins s σ H xs us Q I r ⟨ρ, h, ps, rl, rs, k⟩
  obtain ⟨p, x, rfl, rfl, r1, k⟩ := on1_k (f := tupleV) rs k
  unfold tupleV at k
  split at k
  · unfold RV at r1
    obtain ⟨a, xs, rfl, t, r2⟩ := r1
    exact call_tupU pins s σ H _ us Q I r ⟨a, xs, rfl, .inr ⟨t.sq, Pk.done rl (by unfold RV; exact ⟨a, xs, rfl, t, r2⟩) k⟩⟩
  · unfold RV at r1
    obtain ⟨a, xs, rfl, t, r2⟩ := r1
    exact call_tupU pins s σ H _ us Q I r ⟨a, xs, rfl, .inl ⟨t.sq, newT_pk rl r2 k⟩⟩
  · unfold RV at r1
    obtain ⟨a, rfl, ha⟩ := r1
    split at k
    · rename_i hk
      obtain ⟨xs, t, r2⟩ := rl.ob _ _ a hk ha
      exact call_tupU pins s σ H _ us Q I r ⟨a, xs, rfl, .inl ⟨.inl (.inl t), newT_pk rl r2 k⟩⟩
    · exact k.elim
  · exact k.elim
theorem b_list : CallR X (.type "list") (CallK X S (bi1 .list)) := by
  intro pins s σ H xs us Q I r ⟨ρ, h, ps, rl, rs, k⟩
  obtain ⟨p, x, rfl, rfl, r1, k⟩ := on1_k (f := listV) rs k
  unfold listV at k
  split at k
  · unfold RV at r1
    obtain ⟨a, xs, rfl, t, r2⟩ := r1
    exact call_list_of pins s σ H _ us Q I r ⟨a, xs, rfl, .inr t.sq, (newL_pk rl r2 k).2⟩
  · unfold RV at r1
    obtain ⟨a, xs, rfl, t, r2⟩ := r1
    exact call_list_of pins s σ H _ us Q I r ⟨a, xs, rfl, .inl t.sq, (newL_pk rl r2 k).2⟩
  · unfold RV at r1
    obtain ⟨a, rfl, ha⟩ := r1
    split at k
    · rename_i hk
      obtain ⟨xs, t, r2⟩ := rl.ob _ _ a hk ha
      exact call_list_of pins s σ H _ us Q I r ⟨a, xs, rfl, .inl (.inl (.inl t)), (newL_pk rl r2 k).2⟩
    · exact k.elim
  · exact k.elim
theorem b_int : CallR X (.type "int") (CallK X S (bi1 .int)) := by
  intro pins s σ H xs us Q I r ⟨ρ, h, ps, rl, rs, k⟩
  obtain ⟨p, x, rfl, rfl, r1, k⟩ := on1_k (f := intV) rs k
  unfold intV at k
  split at k
  · unfold RV at r1
    subst r1
    exact call_int1 pins s σ H _ us Q I r (.inl ⟨_, rfl, Pk.done rl rv_int k⟩)
  · unfold RV at r1
    subst r1
    exact call_int1 pins s σ H _ us Q I r (.inr ⟨_, rfl, Pk.done rl rv_int k⟩)
  · exact k.elim
theorem b_abs : CallR X (.builtin "abs") (CallK X S (bi1 .abs)) := by
  intro pins s σ H xs us Q I r ⟨ρ, h, ps, rl, rs, k⟩
  obtain ⟨p, x, rfl, rfl, r1, k⟩ := on1_k (f := absV1) rs k
  unfold absV1 at k
  split at k
  · rename_i i _
    unfold RV at r1
    subst r1
    have e : ((i.natAbs : Nat) : Int) = if i < 0 then -i else i := by split <;> omega
    rw [e] at k
    exact call_abs pins s σ H _ us Q I r ⟨_, rfl, Pk.done rl rv_int k⟩
  · exact k.elim
theorem b_max (hc : X.calm = true) : CallR X (.builtin "max") (CallK X S (bi1 .max2)) := by
  intro pins s σ H xs us Q I r ⟨ρ, h, ps, rl, rs, k⟩
  obtain ⟨p, q, x, y, rfl, rfl, r1, r2, k⟩ := on2_k (f := maxV) rs k
  unfold maxV at k
  split at k
  · unfold RV at r1 r2
    subst r1 r2
    exact call_max2 hc pins s σ H _ us Q I r ⟨_, _, rfl, Pk.done rl rv_int (by simpa using k)⟩
  · exact k.elim
theorem b_min (hc : X.calm = true) : CallR X (.builtin "min") (CallK X S (bi1 .min2)) := by
  intro pins s σ H xs us Q I r ⟨ρ, h, ps, rl, rs, k⟩
  obtain ⟨p, q, x, y, rfl, rfl, r1, r2, k⟩ := on2_k (f := minV) rs k
  unfold minV at k
  split at k
  · unfold RV at r1 r2
    subst r1 r2
    exact call_min2 hc pins s σ H _ us Q I r ⟨_, _, rfl, Pk.done rl rv_int (by simpa using k)⟩
  · exact k.elim

/-! ### methods of built-in types -/
theorem isLst_of {ρ : List Addr} {H : Hp} {h : Hh} {p : PV} {x : V} (rl : Rl X.K S ρ h H) (r : RV X.K S ρ H p x) (e : isLst h p = true) : tyV X.K "list" x H := by
  unfold isLst at e
  split at e
  · split at e
    · rename_i hk
      unfold RV at r
      obtain ⟨a, rfl, ha⟩ := r
      obtain ⟨xs, t, _⟩ := rl.ob _ _ a hk ha
      exact .inl ⟨rfl, xs, .inl (.inl t)⟩
    · cases e
  · cases e
abbrev MtK (X : Cx) (S : Stat) (g : PV → List PV → Hh → Rs PV) : V → List V → Hp → VK → Prop := fun x xs H Q => ∃ ρ h p ps, Rl X.K S ρ h H ∧ RV X.K S ρ H p x ∧ RVs X.K S ρ H ps xs ∧ Pk X.K S (RV X.K S) ρ H (g p ps h) Q
theorem mt_imp {m : Mt} {T : String} {g : PV → List PV → Hh → Rs PV} {f : FE} {fs : FL} {σ : L2.St} {H : Hp} {Q : VK} (hT : ∀ (ρ : List Addr) (H : Hp) (h : Hh) (p : PV) (x : V), Rl X.K S ρ h H → RV X.K S ρ H p x → mtTy m h p = true → tyV X.K T x H)
    (hq : tE X.K S (mthC m g f fs) W σ H Q) : tBM X.K T (MtK X S g) (tE X.K S f W) (tL X.K S fs W) σ H Q := by
  obtain ⟨ρ, e, h, rl, re, po⟩ := hq
  exact ⟨ρ, e, h, rl, re, Po.bind po fun v h1 V H1 ρ1 x1 r1 q1 po1 => by
    split at po1
    · rename_i ht
      exact ⟨hT ρ1 H1 h1 v V r1 q1 ht, ρ1, e, h1, r1, RE.ext rl x1 re, Po.bind po1 fun vs h2 Vs H2 ρ2 x2 r2 q2 po2 => ⟨ρ2, h2, v, vs, r2, RV.ext r1 x2 _ _ q1, q2, Po.noExc po2⟩⟩
    · exact po1.elim⟩
theorem m_append : MtR X "list.append" (MtK X S (mt1 .append)) := by
  intro pins s σ H x xs v us Q I rx rv ⟨ρ, h, p, ps, rl, rp, rs, k⟩
  simp only [mt1] at k
  unfold mon1 at k
  split at k
  · rename_i w
    unfold RVs at rs
    obtain ⟨y, t, rfl, r1, r2⟩ := rs
    unfold RVs at r2
    subst r2
    unfold appendV at k
    split at k
    · unfold RV at rp
      obtain ⟨a, rfl, ha⟩ := rp
      split at k
      · rename_i qs hk
        split at k
        · rename_i hb
          have hb := blt_true hb
          obtain ⟨zs, t, r3⟩ := rl.ob _ _ a hk ha
          obtain ⟨x2, rl2⟩ := rl.set (u := .lst (zs ++ [y])) (o' := .lst (qs ++ [w])) hk ha fun x2 => ⟨_, upd_same, RVs.ext rl x2 _ _ (r3.append (RVs.cons r1 RVs.nil))⟩
          exact mt_append pins s σ H _ _ v us Q I rx rv ⟨a, zs, y, rfl, rfl, t, by rw [← r3.length, ← szL_eq]; exact hb, k _ _ _ x2 rl2 rv_non⟩
        · exact k.elim
      · exact k.elim
    · exact k.elim
  · exact k.elim
theorem g_append {o e : Expr} {es : List Expr} {apos cpos : Pos} {f : FE} {fs : FL} (ho : PE X o (tE X.K S f W)) (ha : PA X (e :: es) (tL X.K S fs W)) (hbase : attributeBase o "append" X.env (eval o X.env) = eval o X.env)
    (hfew : ((backTo cpos (starEach (e :: es) X.env)).all (fun x => !x.1) && (backToKw cpos (keywordEach [] X.env)).all (fun x => x.1.isSome)
      && decide ((e :: es).length + ([] : List Keyword).length + (if ([] : List Keyword).isEmpty then 0 else 1) < 30)) = true)
    (hline : (apos.endLine == cpos.line) = true) (hs : starEach (e :: es) X.env = (false, eval e X.env) :: starEach es X.env) (hplain : (backTo cpos (starEach es X.env)).any (·.1) = false) :
    PE X (.Call (.Attribute o "append" apos) (e :: es) [] cpos) (tE X.K S (mthC .append (mt1 .append) f fs) W) :=
  (pe_bm F.plainAttrs_list F.slot_list_append F.type_list_append m_append ho ha hbase hfew hline hs hplain).imp fun σ H Q h => mt_imp (m := .append) (fun ρ H h p x rl r e => isLst_of rl r e) h
end
end Lf

end
section
set_option Elab.async false
set_option linter.all false
set_option maxRecDepth 100000
set_option maxHeartbeats 2000000
set_option autoImplicit false
/-! LfU: dict(pairs) with keys of any kind. -/
namespace Lf
open PySem PySem.W PySem.Calls PyProof.Rows

def putAll (xs ps : List Ent) : List Ent := ps.foldl (fun acc p => putN acc p.1 p.2.1 p.2.2) xs
theorem putN_length (xs : List Ent) (k : NestedKey) (a v : Value) : (putN xs k a v).length ≤ xs.length + 1 := by
  unfold putN
  split
  · rw [List.length_modify]; omega
  · simp
theorem putAll_length : ∀ (ps xs : List Ent), (putAll xs ps).length ≤ xs.length + ps.length
  | [], xs => Nat.le_refl _
  | p :: ps, xs => by
    have h1 := putAll_length ps (putN xs p.1 p.2.1 p.2.2)
    have h2 := putN_length xs p.1 p.2.1 p.2.2
    show (putAll (putN xs p.1 p.2.1 p.2.2) ps).length ≤ _
    rw [List.length_cons]
    omega
theorem putAll_take (xs ps : List Ent) (i : Nat) (p : Ent) (h : ps[i]? = some p) : putAll xs (ps.take (i + 1)) = putN (putAll xs (ps.take i)) p.1 p.2.1 p.2.2 := by
  unfold putAll
  rw [List.take_add_one, h, List.foldl_append]
  rfl
theorem putN_key {P : NestedKey → Value → Prop} {xs : List Ent} {k : NestedKey} {a v : Value} (h : ∀ x ∈ xs, P x.1 x.2.1) (hk : P k a) : ∀ x ∈ putN xs k a v, P x.1 x.2.1 := by
  intro x hx
  unfold putN at hx
  split at hx
  · obtain ⟨y, hy, e1, e2⟩ := mem_modify hx
    rw [e1, e2]; exact h y hy
  · rcases List.mem_append.mp hx with hx | hx
    · exact h x hx
    · simp only [List.mem_singleton] at hx
      subst hx
      exact hk
theorem putAll_keys {P : NestedKey → Value → Prop} : ∀ {ps xs : List Ent}, (∀ x ∈ xs, P x.1 x.2.1) → (∀ x ∈ ps, P x.1 x.2.1) → ∀ x ∈ putAll xs ps, P x.1 x.2.1
  | [], _, h, _ => h
  | p :: ps, xs, h, h2 => putAll_keys (ps := ps) (xs := putN xs p.1 p.2.1 p.2.2) (putN_key h (h2 p List.mem_cons_self)) fun x hx => h2 x (List.mem_cons_of_mem _ hx)

section
variable {prog : Program} {w : World} {A : Around} {E : Value → Shared → Prop} {s : Shared} {T : String} {a d : Addr} {fp wr : List Addr} {n : Nat} {Rel : Nat → Value → Value → Prop} {OK : Heap → Prop}
def PairsN (n : Nat) (Rel : Nat → Value → Value → Prop) (ps : List Ent) : Prop := ps.length = n ∧ ∀ i key v, Rel i key v → ∃ k, ps[i]? = some (k, key, v)
def KeysN (h : Heap) (d : Addr) (wr : List Addr) (xs : List Ent) : Prop := ∀ h', (∀ b o, b ≠ d → b ∉ wr → h.get? b = some o → h'.get? b = some o) → ∀ x ∈ xs, NestedIs h' x.1 x.2.1 ∧ x.1.depth ≤ 8
theorem IsDN.at' {h h' : Heap} {xs : List Ent} (x : IsDN w h d xs) (e : ∀ o, h.get? d = some o → h'.get? d = some o) (his : ∀ x ∈ xs, NestedIs h' x.1 x.2.1 ∧ x.1.depth ≤ 8) : IsDN w h' d xs :=
  let ⟨o, es, ep, ho, hc, hd, he, _, hn⟩ := x; ⟨o, es, ep, e o ho, hc, hd, he, his, hn⟩
theorem IsDN.lt {h : Heap} {xs : List Ent} (x : IsDN w h d xs) : d < h.objs.size := let ⟨_, _, _, ho, _⟩ := x; Heap.lt_size ho
theorem IsDN.new (h : Heap) : IsDN w (h.push { cls := .type "dict", data := .dict #[] }) h.objs.size [] :=
  ⟨_, #[], _, Heap.get?_push_size _ rfl, ⟨rfl, rfl, rfl⟩, rfl, rfl, by simp, List.nodup_nil⟩
theorem updateFrom_n {R : Result → Shared → Prop} {nm : String} {acc ps : List Ent} (P : PairArg prog w T a fp wr n Rel OK) (res : Value) (hh : A.handled = none) (hu : A.in1.units + 8 < cLine) (ok : OK s.heap) (hdf : d ∉ fp) (hc : PairsN n Rel ps)
    (hst : KeysN s.heap d wr (acc ++ ps)) (hm : IsDN w s.heap d acc)
    (hsz : acc.length + n ≤ sizeLine) (hR : ∀ h' tk, IsDN w h' d (putAll acc ps) → (∀ b o, b ≠ d → b ∉ wr → s.heap.get? b = some o → h'.get? b = some o) → R (.ok (.ret res)) { s with heap := h', toks := tk }) :
    wpAny (model prog w) A.in1 (Builtin.Dict.updateFrom nm d (.ref a) [] res)
      (fun fin s' => match fin with | .done f => R (.ok f) s' | .again c' => c'.quiet = true ∧ codeAny (model prog w) A c' R s') (fun e s' => R (.error e) s') s := by
  have his : ∀ i h, (∀ b o, b ≠ d → b ∉ wr → s.heap.get? b = some o → h.get? b = some o) → ∀ x ∈ putAll acc (ps.take i), NestedIs h x.1 x.2.1 ∧ x.1.depth ≤ 8 := fun i h hk =>
    putAll_keys (P := fun k b => NestedIs h k b ∧ k.depth ≤ 8) (fun x hx => hst h hk x (List.mem_append_left _ hx)) fun x hx => hst h hk x (List.mem_append_right _ (List.mem_of_mem_take hx))
  refine updateFrom_arg (Tab := fun i h => IsDN w h d (putAll acc (ps.take i)) ∧ ∀ b o, b ≠ d → b ∉ wr → s.heap.get? b = some o → h.get? b = some o) P res hh ok hdf ⟨hm, fun _ _ _ _ e => e⟩ (fun _ _ tb => tb.1.lt) ?_ ?_ ?_
  · intro i h h' wr' hd hw tb hk
    have hk' : ∀ b o, b ≠ d → b ∉ wr → s.heap.get? b = some o → h'.get? b = some o := fun b o h1 h2 e => hk b o (fun hm' => by
      rcases hw b hm' with q | q
      · exact h2 q
      · rw [q] at e; cases e) (tb.2 b o h1 h2 e)
    exact ⟨tb.1.at' (fun o e => hk d o hd e) (his i h' hk'), hk'⟩
  · intro i key v s' Q E' hi hrel tb _ hQ
    obtain ⟨k, hk⟩ := hc.2 i key v hrel
    refine dictSet_n hu (hst _ tb.2 _ (List.mem_append_right _ (List.mem_of_getElem? hk))) tb.1 (fun h' tk hm' hs => ?_) (by have := putAll_length (ps.take i) acc; rw [List.length_take] at this; omega)
    exact hQ h' tk ⟨by rw [putAll_take acc ps i _ hk]; exact hm', fun c o h1 h2 e => hs.extBut c o h1 (tb.2 c o h1 h2 e)⟩ hs
  · intro h' tk tb hk
    have e : ps.take n = ps := List.take_of_length_le (Nat.le_of_eq hc.1)
    rw [e] at tb
    exact hR h' tk tb.1 hk
theorem call_dict_n {ps : List Ent} {Q : Value → Shared → Prop} (P : PairArg prog w T a fp wr n Rel OK) (hh : A.handled = none) (hu : A.units + 20 < cLine) (ok : OK s.heap) (hc : PairsN n Rel ps) (hst : KeysN s.heap s.heap.objs.size wr ps) (hsz : n ≤ sizeLine)
    (h : ∀ h' tk, IsDN w h' s.heap.objs.size (putAll [] ps) → (∀ b o, b ∉ wr → s.heap.get? b = some o → h'.get? b = some o) → Q (.ref s.heap.objs.size) { s with heap := h', toks := tk }) :
    wpAny (model prog w) A (call (.type "dict") [.ref a]) Q E s := by
  refine call_dict_arg P ok fun s₁ hs₁ hdf ok₁ => ?_
  subst hs₁
  refine updateFrom_n (A := A.in1) (acc := []) P .none hh (by show A.units + 1 + 1 + 8 < cLine; omega) ok₁ hdf hc (fun h' hk x hx => hst h' (fun b o h1 h2 e => hk b o h1 h2 (Heap.get?_push_of_some _ e)) x (by simpa using hx)) (IsDN.new s.heap) (by simpa using hsz) fun h' tk hd' hk => ?_
  exact ⟨rfl, h h' tk hd' fun b o hw e => hk b o (Nat.ne_of_lt (Heap.lt_size e)) hw (Heap.get?_push_of_some _ e)⟩
end
end Lf

end
section
set_option Elab.async false
set_option linter.all false
set_option maxRecDepth 100000
set_option maxHeartbeats 2000000
set_option autoImplicit false
/-! LfV: dicts. -/
namespace Lf
open PySem PySem.Spec PyProof.Rows L2

mutual
theorem flat_nkey : ∀ p : PV, p.flat = true → ∃ k, nkey p = some k ∧ k.depth = p.dp
  | .non, _ => ⟨_, rfl, rfl⟩
  | .bl _, _ => ⟨_, rfl, rfl⟩
  | .int _, _ => ⟨_, rfl, rfl⟩
  | .str _, _ => ⟨_, rfl, rfl⟩
  | .tup ps, h => by
    obtain ⟨l, e, d⟩ := flat_nkeys ps (by simpa [PV.flat] using h)
    exact ⟨.tup l, by simp [nkey, e], by simp [NestedKey.depth, PV.dp, d]⟩
  | .kl _, h => by simp [PV.flat] at h
  | .wt _, h => by simp [PV.flat] at h
  | .ref _, h => by simp [PV.flat] at h
  | .ty _, h => by simp [PV.flat] at h
  | .fn _, h => by simp [PV.flat] at h
theorem flat_nkeys : ∀ ps : List PV, PV.flatAll ps = true → ∃ l, nkeys ps = some l ∧ NestedKey.depthAll l = PV.dps ps
  | [], _ => ⟨[], rfl, rfl⟩
  | p :: ps, h => by
    simp only [PV.flatAll, Bool.and_eq_true] at h
    obtain ⟨k, e1, d1⟩ := flat_nkey p h.1
    obtain ⟨l, e2, d2⟩ := flat_nkeys ps h.2
    exact ⟨k :: l, by simp [nkeys, e1, e2], by simp [NestedKey.depthAll, PV.dps, d1, d2]⟩
end
theorem keyOk_of {p : PV} (h : keyOk p = true) : ∃ k, nkey p = some k ∧ k.depth ≤ 8 := by
  simp only [keyOk, Bool.and_eq_true] at h
  obtain ⟨k, e, d⟩ := flat_nkey p h.1
  exact ⟨k, e, by rw [d]; exact Nat.le_of_ble_eq_true h.2⟩
mutual
theorem eq_beq : ∀ (p q : PV) (a b : NestedKey), nkey p = some a → nkey q = some b → PV.eq p q = NestedKey.beq a b
  | .non, q, a, b, h, k => by
    cases q <;> simp [nkey] at h k <;> subst h <;> first | (subst k; simp [PV.eq, NestedKey.beq]; done) | (split at k <;> cases k; simp [PV.eq, NestedKey.beq])
  | .bl x, q, a, b, h, k => by
    have h : NestedKey.num (if x = true then 1 else 0) = a := Option.some.inj h
    subst h
    cases q with
    | bl y =>
      have k : NestedKey.num (if y = true then 1 else 0) = b := Option.some.inj k
      subst k
      cases x <;> cases y <;> rfl
    | int j =>
      have k : NestedKey.num j = b := Option.some.inj k
      subst k
      simp only [PV.eq, NestedKey.beq]
      rw [Bool.eq_iff_iff]
      simp
    | non => have k : NestedKey.none = b := Option.some.inj k; subst k; rfl
    | str y => have k : NestedKey.text y = b := Option.some.inj k; subst k; rfl
    | tup ps =>
      simp only [nkey] at k
      split at k <;> cases k
      rfl
    | kl _ => cases k
    | wt _ => cases k
    | ref _ => cases k
    | ty _ => cases k
    | fn _ => cases k
  | .int x, q, a, b, h, k => by
    have h : NestedKey.num x = a := Option.some.inj h
    subst h
    cases q with
    | bl y =>
      have k : NestedKey.num (if y = true then 1 else 0) = b := Option.some.inj k
      subst k
      simp only [PV.eq, NestedKey.beq]
      rw [Bool.eq_iff_iff]
      simp
    | int j =>
      have k : NestedKey.num j = b := Option.some.inj k
      subst k
      simp only [PV.eq, NestedKey.beq]
      rw [Bool.eq_iff_iff]
      simp
    | non => have k : NestedKey.none = b := Option.some.inj k; subst k; rfl
    | str y => have k : NestedKey.text y = b := Option.some.inj k; subst k; rfl
    | tup ps =>
      simp only [nkey] at k
      split at k <;> cases k
      rfl
    | kl _ => cases k
    | wt _ => cases k
    | ref _ => cases k
    | ty _ => cases k
    | fn _ => cases k
  | .str x, q, a, b, h, k => by
    cases q <;> simp [nkey] at h k <;> subst h <;> first | (subst k; simp [PV.eq, NestedKey.beq]; done) | (split at k <;> cases k; simp [PV.eq, NestedKey.beq]) | (subst k; rename_i y; simp only [PV.eq, NestedKey.beq]; rw [Bool.eq_iff_iff, strEq_iff]; simp)
  | .tup ps, q, a, b, h, k => by
    simp only [nkey] at h
    split at h
    · rename_i l hl
      cases h
      cases q <;> simp [nkey] at k <;> first | (subst k; simp [PV.eq, NestedKey.beq]; done) | skip
      rename_i qs
      split at k
      · rename_i m hm
        cases k
        simp only [PV.eq, NestedKey.beq]
        exact eqs_beq ps qs l m hl hm
      · cases k
    · cases h
  | .kl _, q, a, b, h, k => by simp [nkey] at h
  | .wt _, q, a, b, h, k => by simp [nkey] at h
  | .ref _, q, a, b, h, k => by simp [nkey] at h
  | .ty _, q, a, b, h, k => by simp [nkey] at h
  | .fn _, q, a, b, h, k => by simp [nkey] at h
theorem eqs_beq : ∀ (ps qs : List PV) (a b : List NestedKey), nkeys ps = some a → nkeys qs = some b → PV.eqAll ps qs = NestedKey.beqAll a b
  | [], [], a, b, h, k => by
    simp [nkeys] at h k
    subst h k
    rfl
  | [], q :: qs, a, b, h, k => by
    simp [nkeys] at h
    subst h
    simp only [nkeys] at k
    split at k
    · split at k <;> cases k
      simp [PV.eqAll, NestedKey.beqAll]
    · cases k
  | p :: ps, [], a, b, h, k => by
    simp [nkeys] at k
    subst k
    simp only [nkeys] at h
    split at h
    · split at h <;> cases h
      simp [PV.eqAll, NestedKey.beqAll]
    · cases h
  | p :: ps, q :: qs, a, b, h, k => by
    simp only [nkeys] at h k
    split at h
    · rename_i a1 h1
      split at h <;> cases h
      rename_i a2 h2
      split at k
      · rename_i b1 k1
        split at k <;> cases k
        rename_i b2 k2
        simp only [PV.eqAll, NestedKey.beqAll, eq_beq p q a1 b1 h1 k1, eqs_beq ps qs a2 b2 h2 k2]
      · cases k
    · cases h
end
section
variable {X : Cx} {S : Stat} {pins : List (Addr × Obj)} {σ : L2.St} {H : Hp} {s : Shared} {ρ : List Addr} {h : Hh}
mutual
/-- a key, as the model has it -/
theorem nested_of (I : Inv X pins σ H s) : ∀ (p : PV) (k : NestedKey) (x : V) (v : Value), nkey p = some k → RV X.K S ρ H p x → RelV x v → NestedIs s.heap k v
  | .non, k, x, v, e, r, rx => by
    cases e
    unfold RV at r
    subst r
    cases rx
    exact .none
  | .bl b, k, x, v, e, r, rx => by
    cases e
    unfold RV at r
    subst r
    cases rx
    exact .bool rfl
  | .int i, k, x, v, e, r, rx => by
    cases e
    unfold RV at r
    subst r
    obtain ⟨t, rfl⟩ := rx
    exact .int i t
  | .str z, k, x, v, e, r, rx => by
    cases e
    unfold RV at r
    subst r
    obtain ⟨t, rfl⟩ := rx
    exact .text z t
  | .tup ps, k, x, v, e, r, rx => by
    simp only [nkey] at e
    split at e
    · rename_i l hl
      cases e
      unfold RV at r
      obtain ⟨a, xs, rfl, t, r⟩ := r
      cases rx
      obtain ⟨its, o, n, rv, ho, hc, _, hd, _⟩ := uTup I t
      exact .tup ho hc hd (nesteds_of I ps l xs its hl r rv)
    · cases e
  | .kl _, k, x, v, e, r, rx => by cases e
  | .wt _, k, x, v, e, r, rx => by cases e
  | .ref _, k, x, v, e, r, rx => by cases e
  | .ty _, k, x, v, e, r, rx => by cases e
  | .fn _, k, x, v, e, r, rx => by cases e
theorem nesteds_of (I : Inv X pins σ H s) : ∀ (ps : List PV) (ks : List NestedKey) (xs : List V) (vs : List Value), nkeys ps = some ks → RVs X.K S ρ H ps xs → Vals xs vs → NestedAll s.heap ks vs
  | [], ks, xs, vs, e, r, rx => by
    cases e
    unfold RVs at r
    subst r
    cases rx
    exact .nil
  | p :: ps, ks, xs, vs, e, r, rx => by
    simp only [nkeys] at e
    split at e
    · rename_i k hk
      split at e <;> cases e
      rename_i l hl
      unfold RVs at r
      obtain ⟨x, t, rfl, r1, r2⟩ := r
      cases rx with
      | cons q1 q2 => exact .cons (nested_of I p k x _ hk r1 q1) (nesteds_of I ps l t _ hl r2 q2)
    · cases e
end
theorem rx_is (I : Inv X pins σ H s) : ∀ {kvs : List (PV × PV)} {xs : List Ent}, RX X.K S ρ H kvs xs → ∀ x ∈ xs, NestedIs s.heap x.1 x.2.1 ∧ x.1.depth ≤ 8
  | [], xs, r => by
    unfold RX at r
    subst r
    simp
  | q :: r, xs, z => by
    unfold RX at z
    obtain ⟨x, t, rfl, ⟨h1, h2, ⟨kV, h3, h4⟩, _⟩, z⟩ := z
    intro y hy
    rcases List.mem_cons.mp hy with rfl | hy
    · exact ⟨nested_of I q.1 _ kV _ h1 h4 h3, h2⟩
    · exact rx_is I z y hy
/-- the dict's object -/
theorem dic_is (I : Inv X pins σ H s) (hw : S.w = X.w) {a : Addr} {kvs : List (PV × PV)} (z : OR X.K S ρ H a (.dic kvs)) : ∃ xs, (a == sysModules) = false ∧ IsDN X.w s.heap a xs ∧ RX X.K S ρ H kvs xs := by
  obtain ⟨es, xs, n, e1, e2, q, d⟩ := z
  obtain ⟨⟨o, ep, ho, hc, hd⟩, _, _⟩ := I.hok a _ e1
  exact ⟨xs, n, ⟨o, es, ep, ho, hc, hd, by rw [e2, hw], rx_is I q, d⟩, q⟩
/-- what is found -/
theorem find_val {K : PySem.W.Frag} {k : PV} {nk : NestedKey} (hk : nkey k = some nk) : ∀ {kvs : List (PV × PV)} {xs : List Ent}, RX K S ρ H kvs xs → match findK k kvs with
    | some v => ∃ u vV, valN xs nk = some u ∧ RelV vV u ∧ RV K S ρ H v vV
    | none => valN xs nk = none
  | [], xs, r => by
    unfold RX at r
    subst r
    rfl
  | (j, v) :: r, xs, z => by
    unfold RX at z
    obtain ⟨x, t, rfl, ⟨h1, h2, h3, vV, h5, h6⟩, z⟩ := z
    have ih := find_val hk z
    unfold findK
    have e := eq_beq j k x.1 nk h1 hk
    rw [e]
    cases hb : NestedKey.beq x.1 nk with
    | true =>
      simp only [if_true]
      refine ⟨x.2.2, vV, ?_, h5, h6⟩
      unfold valN ixK
      rw [List.findIdx?_cons, hb]
      rfl
    | false =>
      simp only [Bool.false_eq_true, if_false]
      have ev : valN (x :: t) nk = valN t nk := by
        unfold valN ixK
        rw [List.findIdx?_cons, hb]
        simp only [Bool.false_eq_true, if_false]
        cases hf : t.findIdx? (fun x => NestedKey.beq x.1 nk) with
        | none => rfl
        | some i => rfl
      rw [ev]
      exact ih

/-! ### what is put -/
theorem ixK_cons {x : Ent} {t : List Ent} {nk : NestedKey} (hb : NestedKey.beq x.1 nk = false) : ixK (x :: t) nk = (ixK t nk).map (· + 1) := by
  unfold ixK
  rw [List.findIdx?_cons, hb]
  rfl
theorem rx_put {K : PySem.W.Frag} {k v : PV} {nk : NestedKey} {key u : Value} (hk : nkey k = some nk) (hd : nk.depth ≤ 8) (h3 : ∃ kV, RelV kV key ∧ RV K S ρ H k kV) (h4 : ∃ vV, RelV vV u ∧ RV K S ρ H v vV) :
    ∀ {kvs : List (PV × PV)} {xs : List Ent}, RX K S ρ H kvs xs → RX K S ρ H (putK k v kvs) (putN xs nk key u)
  | [], xs, r => by
    unfold RX at r
    subst r
    unfold putK putN ixK
    simp only [List.findIdx?_nil, List.nil_append]
    unfold RX
    exact ⟨_, [], rfl, ⟨hk, hd, h3, h4⟩, by unfold RX; rfl⟩
  | (j, w) :: r, xs, z => by
    unfold RX at z
    obtain ⟨x, t, rfl, ⟨h1, h2, h5, h6⟩, z⟩ := z
    have ih := rx_put hk hd h3 h4 z
    unfold putK
    rw [eq_beq j k x.1 nk h1 hk]
    cases hb : NestedKey.beq x.1 nk with
    | true =>
      simp only [if_true]
      have e : putN (x :: t) nk key u = (x.1, x.2.1, u) :: t := by
        unfold putN ixK
        rw [List.findIdx?_cons, hb]
        rfl
      rw [e]
      unfold RX
      exact ⟨_, t, rfl, ⟨h1, h2, h5, h4⟩, z⟩
    | false =>
      simp only [Bool.false_eq_true, if_false]
      have e : putN (x :: t) nk key u = x :: putN t nk key u := by
        unfold putN
        rw [ixK_cons hb]
        cases hf : ixK t nk with
        | none => rfl
        | some i => simp [List.modify_succ_cons]
      rw [e]
      unfold RX
      exact ⟨x, _, rfl, ⟨h1, h2, h5, h6⟩, ih⟩
theorem rx_puts {K : PySem.W.Frag} : ∀ {l : List (PV × PV)} {es : List Ent} {acc : List (PV × PV)} {xs : List Ent}, RX K S ρ H l es → RX K S ρ H acc xs → RX K S ρ H (putsK l acc) (putAll xs es)
  | [], es, acc, xs, r, z => by
    unfold RX at r
    subst r
    exact z
  | (k, v) :: l, es, acc, xs, r, z => by
    unfold RX at r
    obtain ⟨x, t, rfl, ⟨h1, h2, h3, h4⟩, r⟩ := r
    unfold putsK
    show RX K S ρ H _ (putAll (putN xs x.1 x.2.1 x.2.2) t)
    exact rx_puts r (rx_put h1 h2 h3 h4 z)
/-- the pairs of a sequence -/
theorem pairs_in (I : Inv X pins σ H s) : ∀ {ps : List PV} {xs : List V} {us : List Value} {l : List (PV × PV)}, RVs X.K S ρ H ps xs → Vals xs us → pairsK ps = some l →
    ∃ (bs : List Addr) (es : List Ent), us = bs.map Value.ref ∧ bs.length = es.length ∧ l.length = es.length ∧ RX X.K S ρ H l es ∧ ∀ (j : Nat) (b : Addr) (x : Ent), bs[j]? = some b → es[j]? = some x → s.heap.IsTuple b #[x.2.1, x.2.2]
  | [], xs, us, l, r, rv, e => by
    cases e
    unfold RVs at r
    subst r
    cases rv
    exact ⟨[], [], rfl, rfl, rfl, by unfold RX; rfl, fun j b x h => by simp at h⟩
  | p :: ps, xs, us, l, r, rv, e => by
    unfold pairsK at e
    split at e
    · rename_i hnil
      cases hnil
    · rename_i k v r0 heq
      cases heq
      split at e
      · rename_i l0 hl0
        split at e
        · rename_i hk
          cases e
          unfold RVs at r
          obtain ⟨x, t, rfl, r1, r2⟩ := r
          cases rv with
          | cons q1 q2 =>
            obtain ⟨bs, es, e1, e2, e3, e4, e5⟩ := pairs_in I r2 q2 hl0
            unfold RV at r1
            obtain ⟨b, ys, rfl, tt, ry⟩ := r1
            cases q1
            obtain ⟨nk, hn, hd⟩ := keyOk_of hk
            obtain ⟨its, o, n, rv', ho, hc, _, hdt, _⟩ := uTup I tt
            unfold RVs at ry
            obtain ⟨kx, s1, rfl, rk, ry⟩ := ry
            unfold RVs at ry
            obtain ⟨vx, s2, rfl, rvv, ry⟩ := ry
            unfold RVs at ry
            subst ry
            obtain ⟨ku, vu, rfl, rk2, rv2⟩ := Vals.two rv'
            refine ⟨b :: bs, (nk, ku, vu) :: es, by rw [e1]; rfl, by simp [e2], by simp [e3], ?_, fun j b' x' h1 h2 => ?_⟩
            · unfold RX
              exact ⟨_, es, rfl, ⟨hn, hd, ⟨kx, rk2, rk⟩, vx, rv2, rvv⟩, e4⟩
            · cases j with
              | zero =>
                have h1 : b = b' := by simpa using h1
                have h2 : (nk, ku, vu) = x' := by simpa using h2
                subst h1 h2
                exact ⟨o, ho, hc, n, hdt⟩
              | succ j => exact e5 j b' x' (by simpa using h1) (by simpa using h2)
        · cases e
      · cases e
    · cases e
theorem nested_stay {h1 h2 : Heap} {k : NestedKey} {v : Value} (x : NestedIs h1 k v) (e : ∀ b o, h1.get? b = some o → h2.get? b = some o) : NestedIs h2 k v := NestedIs.at (fun a o vs n ha _ => e a o ha) k v x
/-- a dict just made joins the own heap -/
theorem new_dic (I : Inv X pins σ H s) (rl : Rl X.K S ρ h H) (hw : S.w = X.w) {h' : Heap} {tk : Nat} {kvs : List (PV × PV)} {xs : List Ent} {Q : VK} (hm : IsDN X.w h' s.heap.objs.size xs) (hk : ∀ b o, s.heap.get? b = some o → h'.get? b = some o) (rx : RX X.K S ρ H kvs xs)
    (k : Pk X.K S (RV X.K S) ρ H (newD kvs h) Q) : EP X pins σ Q (.ref s.heap.objs.size) { s with heap := h', toks := tk } := by
  obtain ⟨o, es, ep, ho, hc, hd, he, _, hn⟩ := hm
  have hp : H s.heap.objs.size = none := I.hok.fresh (Nat.le_refl _)
  have I1 : Inv X pins σ (upd H s.heap.objs.size (dcO s.heap.objs.size es)) { s with heap := h', toks := tk } :=
    I.laid (t' := tk) (o := dcO s.heap.objs.size es) hk (Nat.le_refl _) ⟨⟨o, ep, ho, hc, hd⟩, ⟨o, ho⟩, fun h1 h2 ⟨o, ep, a, b⟩ st => ⟨o, ep, st o a, b⟩⟩
  obtain ⟨x2, r2⟩ := rl.push (u := dcO s.heap.objs.size es) (o := .dic kvs) hp fun y => ⟨es, xs, beq_eq_false_iff_ne.mpr (Nat.ne_of_gt I.big), upd_same, by rw [he, hw], RX.ext rl y _ _ rx, hn⟩
  exact ⟨.ref s.heap.objs.size, _, I1, rfl, k _ _ _ x2 r2 (by unfold RV; exact ⟨_, rfl, by rw [← rl.len]; simp⟩)⟩
theorem dict_core (hu : X.A.units + 200 < cLine) (hcalm : X.calm = true) (hw : S.w = X.w) (I : Inv X pins σ H s) (rl : Rl X.K S ρ h H) {a : Addr} {T : String} {o : Obj} {n : Nat} {ps : List PV} {xs : List V} {us : List Value} {Q : VK} (hT : T = "list" ∨ T = "tuple") (ho : s.heap.get? a = some o) (hc : o.cls = .type T) (hd : o.dict = none)
    (hdt : o.data = .seq us.toArray n) (rv : Vals xs us) (r : RVs X.K S ρ H ps xs) (k : Pk X.K S (RV X.K S) ρ H (dictV1 ps h) Q) : wpAny (model X.prog X.w) X.A (call (.type "dict") [.ref a]) (EP X pins σ Q) X.xe s := by
  unfold dictV1 at k
  split at k
  · rename_i hz
    have hz := Nat.le_of_ble_eq_true hz
    split at k
    · rename_i l hl
      obtain ⟨bs, es, e1, e2, e3, e4, e5⟩ := pairs_in I r rv hl
      have el : es.length ≤ sizeLine := by
        rw [← szL_eq]
        have h1 := r.length
        have h2 := rv.length
        have h3 : us.length = bs.length := by rw [e1, List.length_map]
        omega
      have items : PySem.PairItems s.heap us.toArray (fun j => (bs[j]?).getD 0) (es.map fun x => (x.2.1, x.2.2)) := by
        refine ⟨by simp [e1, e2], fun j kk vv hj => ?_⟩
        rw [List.getElem?_map] at hj
        cases hx : es[j]? with
        | none => rw [hx] at hj; cases hj
        | some x =>
          rw [hx] at hj
          have hj' : (x.2.1, x.2.2) = (kk, vv) := by simpa using hj
          cases hj'
          have hjl : j < bs.length := by rw [e2]; exact (List.getElem?_eq_some_iff.mp hx).1
          have hb : bs[j]? = some bs[j] := List.getElem?_eq_getElem hjl
          have hg : (fun j => (bs[j]?).getD 0) j = bs[j] := by
            show (bs[j]?).getD 0 = bs[j]
            rw [hb]
            rfl
          refine ⟨?_, .inl ?_⟩
          · rw [List.getElem?_toArray, e1, List.getElem?_map, hb, hg]
            rfl
          · rw [hg]
            exact e5 j _ x hb hx
      have pn : PairsN es.length (PySem.PairRel (es.map fun x => (x.2.1, x.2.2))) es := ⟨rfl, fun i key v hr => by
        have hr : (es.map fun x => (x.2.1, x.2.2))[i]? = some (key, v) := hr
        rw [List.getElem?_map] at hr
        cases hx : es[i]? with
        | none => rw [hx] at hr; cases hr
        | some x =>
          rw [hx] at hr
          have hr' : (x.2.1, x.2.2) = (key, v) := by simpa using hr
          cases hr'
          exact ⟨x.1, rfl⟩⟩
      have ks : KeysN s.heap s.heap.objs.size [] es := fun h' hk x hx => by
        obtain ⟨g1, g2⟩ := rx_is I e4 x hx
        exact ⟨nested_stay g1 fun b o e => hk b o (Nat.ne_of_lt (Heap.lt_size e)) (by simp) e, g2⟩
      have fin : ∀ h' tk, IsDN X.w h' s.heap.objs.size (putAll [] es) → (∀ b o, b ∉ ([] : List Addr) → s.heap.get? b = some o → h'.get? b = some o) → EP X pins σ Q (.ref s.heap.objs.size) { s with heap := h', toks := tk } := fun h' tk hm hk =>
        new_dic I rl hw hm (fun b o e => hk b o (by simp) e) (rx_puts e4 (by unfold RX; rfl)) k
      have hlen : (es.map fun x : Ent => (x.2.1, x.2.2)).length = es.length := List.length_map ..
      rcases hT with rfl | rfl
      · have P := PySem.PairArg.list (prog := X.prog) (w := X.w) a us.toArray (fun j => (bs[j]?).getD 0) (es.map fun x : Ent => (x.2.1, x.2.2))
        rw [hlen] at P
        exact call_dict_n P (I.ok.hd hcalm) (by omega) ⟨⟨o, n, ho, hc, hd, hdt⟩, items⟩ pn ks el fin
      · have P := PySem.PairArg.tuple (prog := X.prog) (w := X.w) a us.toArray (fun j => (bs[j]?).getD 0) (es.map fun x : Ent => (x.2.1, x.2.2))
        rw [hlen] at P
        exact call_dict_n P (I.ok.hd hcalm) (by omega) ⟨⟨o, n, ho, hc, hd, hdt⟩, items⟩ pn ks el fin
    · exact k.elim
  · exact k.elim
theorem b_dict (hu : X.A.units + 200 < cLine) (hcalm : X.calm = true) (hw : S.w = X.w) : CallR X (.type "dict") (CallK X S (bi1 .dict)) := by
  intro pins s σ H xs us Q I r ⟨ρ, h, ps, rl, rs, k⟩
  obtain ⟨p, x, rfl, rfl, r1, k⟩ := on1_k (f := dictV) rs k
  obtain ⟨u, rfl, rx⟩ := vals1 r
  unfold dictV at k
  split at k
  · unfold RV at r1
    obtain ⟨a, ys, rfl, t, r2⟩ := r1
    cases rx
    obtain ⟨its, o, n, rv, ho, hc, hd, hdt, _⟩ := uTup I t
    exact dict_core hu hcalm hw I rl (.inr rfl) ho hc hd hdt rv r2 k
  · unfold RV at r1
    obtain ⟨a, rfl, ha⟩ := r1
    cases rx
    split at k
    · rename_i hk
      obtain ⟨ys, t, r2⟩ := rl.ob _ _ a hk ha
      obtain ⟨its, rv, ⟨o, n, ho, hc, hd, hdt⟩, hz⟩ := I.list (.inl (.inl t))
      exact dict_core hu hcalm hw I rl (.inl rfl) ho hc hd hdt rv r2 k
    · exact k.elim
  · exact k.elim

/-! ### methods of built-in types, the type told otherwise -/
section
variable {W : WX}
def tBMU (ty : V → Hp → Prop) (r : V → List V → Hp → VK → Prop) (to : TE) (t : TA) : TE := fun σ H Q => to σ H fun x H1 => ty x H1 ∧ t σ H1 fun xs H2 => r x xs H2 Q
theorem pe_bmU {o e : Expr} {es : List Expr} {to : TE} {t : TA} {name : Str} {apos cpos : Pos} {T id : String} {r : V → List V → Hp → VK → Prop} {ty : V → Hp → Prop} (pa : PlainAttrs T) (slot : Slot T name id) (hty : typeOf (.builtin id) = pure (.type "method_descriptor")) (hm : MtR X id r)
    (hT : ∀ (pins : List (Addr × Obj)) (σ : L2.St) (H : Hp) (s : Shared) (x : V) (v : Value), Inv X pins σ H s → RelV x v → ty x H → s.TypeIs v T ∧ ∀ a, v = .ref a → ∃ ob, s.heap.get? a = some ob ∧ ob.dict = none)
    (ho : PE X o to) (ha : PA X (e :: es) t)
    (hbase : attributeBase o name X.env (eval o X.env) = eval o X.env)
    (hfew : ((backTo cpos (starEach (e :: es) X.env)).all (fun x => !x.1) && (backToKw cpos (keywordEach [] X.env)).all (fun x => x.1.isSome)
      && decide ((e :: es).length + ([] : List Keyword).length + (if ([] : List Keyword).isEmpty then 0 else 1) < 30)) = true)
    (hline : (apos.endLine == cpos.line) = true) (hs : starEach (e :: es) X.env = (false, eval e X.env) :: starEach es X.env) (hplain : (backTo cpos (starEach es X.env)).any (·.1) = false) :
    PE X (.Call (.Attribute o name apos) (e :: es) [] cpos) (tBMU ty r to t) := by
  refine ⟨fun pins s σ H Q I h => ?_⟩
  refine wpAny_Call_method_late hbase hfew hline rfl (thn (ho.run pins s σ H _ I h) fun v s1 ⟨x, H1, I1, r1, ty, q1⟩ => ?_)
  obtain ⟨h1, h2⟩ := hT _ _ _ _ _ _ I1 r1 ty
  refine ⟨T, id, pa, slot, hty, h1, h2, ?_⟩
  have hA := ha.run cpos pins s1 σ H1 _ I1 q1
  rw [hs] at hA ⊢
  refine Calls.callWith_builtin (by show (false || (backTo cpos (starEach es X.env)).any (·.1)) = false; rw [hplain] <;> rfl) (Calls.evalArgs_plain ?_)
  exact thn hA fun us s2 ⟨vs, H2, I2, r2, q2⟩ => hm pins s2 σ H2 x vs v us Q I2 r1 r2 q2

/-! ### d.get -/
def tyD (X : Cx) (S : Stat) : V → Hp → Prop := fun x H => ∃ (ρ : List Addr) (a : Addr) (kvs : List (PV × PV)), x = .ref a ∧ OR X.K S ρ H a (.dic kvs)
theorem tyD_ok (hw : S.w = X.w) (pins : List (Addr × Obj)) (σ : L2.St) (H : Hp) (s : Shared) (x : V) (v : Value) (I : Inv X pins σ H s) (r : RelV x v) (t : tyD X S x H) : s.TypeIs v "dict" ∧ ∀ a, v = .ref a → ∃ ob, s.heap.get? a = some ob ∧ ob.dict = none := by
  obtain ⟨ρ, a, kvs, rfl, z⟩ := t
  cases r
  obtain ⟨xs, _, ⟨o, es, ep, ho, hc, _⟩, _⟩ := dic_is I hw z
  exact ⟨⟨o, ho, hc.1⟩, fun b e => by cases e; exact ⟨o, ho, hc.2.1⟩⟩
theorem mtU_imp {m : Mt} {ty : V → Hp → Prop} {g : PV → List PV → Hh → Rs PV} {f : FE} {fs : FL} {σ : L2.St} {H : Hp} {Q : VK} (hT : ∀ (ρ : List Addr) (H : Hp) (h : Hh) (p : PV) (x : V), Rl X.K S ρ h H → RV X.K S ρ H p x → mtTy m h p = true → ty x H)
    (hq : tE X.K S (mthC m g f fs) W σ H Q) : tBMU ty (MtK X S g) (tE X.K S f W) (tL X.K S fs W) σ H Q := by
  obtain ⟨ρ, e, h, rl, re, po⟩ := hq
  exact ⟨ρ, e, h, rl, re, Po.bind po fun v h1 V H1 ρ1 x1 r1 q1 po1 => by
    split at po1
    · rename_i ht
      exact ⟨hT ρ1 H1 h1 v V r1 q1 ht, ρ1, e, h1, r1, RE.ext rl x1 re, Po.bind po1 fun vs h2 Vs H2 ρ2 x2 r2 q2 po2 => ⟨ρ2, h2, v, vs, r2, RV.ext r1 x2 _ _ q1, q2, Po.noExc po2⟩⟩
    · exact po1.elim⟩
theorem isDic_of {ρ : List Addr} {H : Hp} {h : Hh} {p : PV} {x : V} (rl : Rl X.K S ρ h H) (r : RV X.K S ρ H p x) (e : isDic h p = true) : tyD X S x H := by
  unfold isDic at e
  split at e
  · split at e
    · rename_i hk
      unfold RV at r
      obtain ⟨a, rfl, ha⟩ := r
      exact ⟨ρ, a, _, rfl, rl.ob _ _ a hk ha⟩
    · cases e
  · cases e
theorem dicAt_of {ρ : List Addr} {H : Hp} {h : Hh} {p : PV} {x : V} {n : Nat} {kvs : List (PV × PV)} (rl : Rl X.K S ρ h H) (r : RV X.K S ρ H p x) (e : dicAt h p = some (n, kvs)) : p = .ref n ∧ h[n]? = some (.dic kvs) ∧ ∃ a, x = .ref a ∧ ρ[n]? = some a ∧ OR X.K S ρ H a (.dic kvs) := by
  unfold dicAt at e
  split at e
  · split at e
    · rename_i hk
      cases e
      unfold RV at r
      obtain ⟨a, rfl, ha⟩ := r
      exact ⟨rfl, hk, a, rfl, ha, rl.ob _ _ a hk ha⟩
    · cases e
  · cases e
theorem m_get1 (hu : X.A.units + 200 < cLine) (hw : S.w = X.w) : MtR X "dict.get" (MtK X S (mt1 .get1)) := by
  intro pins s σ H x xs v us Q I rx rv ⟨ρ, h, p, ps, rl, rp, rs, k⟩
  simp only [mt1] at k
  unfold mon1 at k
  split at k
  · rename_i q
    unfold RVs at rs
    obtain ⟨y, t, rfl, r1, r2⟩ := rs
    unfold RVs at r2
    subst r2
    obtain ⟨ku, rfl, rk⟩ := Vals.one rv
    unfold get1V at k
    split at k
    · rename_i n kvs hd
      obtain ⟨rfl, hn, a, rfl, ha, z⟩ := dicAt_of rl rp hd
      cases rx
      split at k
      · rename_i hk
        obtain ⟨nk, e1, e2⟩ := keyOk_of hk
        obtain ⟨es, hs, hm, rxx⟩ := dic_is I hw z
        have hf := find_val e1 rxx
        refine get1_n (by omega) ⟨nested_of I q nk y ku e1 r1 rk, e2⟩ hs hm fun tk => ?_
        split at k
        · rename_i w hw'
          rw [hw'] at hf
          obtain ⟨u, vV, f1, f2, f3⟩ := hf
          rw [f1]
          exact ⟨vV, H, I.tok tk, f2, Pk.done rl f3 k⟩
        · rename_i hw'
          rw [hw'] at hf
          rw [hf]
          exact ⟨.non, H, I.tok tk, rfl, Pk.done rl rv_non k⟩
      · exact k.elim
    · exact k.elim
  · exact k.elim
theorem m_get2 (hu : X.A.units + 200 < cLine) (hw : S.w = X.w) : MtR X "dict.get" (MtK X S (mt1 .get2)) := by
  intro pins s σ H x xs v us Q I rx rv ⟨ρ, h, p, ps, rl, rp, rs, k⟩
  simp only [mt1] at k
  unfold mon2 at k
  split at k
  · rename_i q q2
    unfold RVs at rs
    obtain ⟨y, t, rfl, r1, rs⟩ := rs
    unfold RVs at rs
    obtain ⟨y2, t, rfl, r2, rs⟩ := rs
    unfold RVs at rs
    subst rs
    obtain ⟨ku, du, rfl, rk, rd⟩ := Vals.two rv
    unfold get2V at k
    split at k
    · rename_i n kvs hd
      obtain ⟨rfl, hn, a, rfl, ha, z⟩ := dicAt_of rl rp hd
      cases rx
      split at k
      · rename_i hk
        obtain ⟨nk, e1, e2⟩ := keyOk_of hk
        obtain ⟨es, hs, hm, rxx⟩ := dic_is I hw z
        have hf := find_val e1 rxx
        refine get2_n (by omega) ⟨nested_of I q nk y ku e1 r1 rk, e2⟩ hs hm fun tk => ?_
        split at k
        · rename_i w hw'
          rw [hw'] at hf
          obtain ⟨u, vV, f1, f2, f3⟩ := hf
          rw [f1]
          exact ⟨vV, H, I.tok tk, f2, Pk.done rl f3 k⟩
        · rename_i hw'
          rw [hw'] at hf
          rw [hf]
          exact ⟨y2, H, I.tok tk, rd, Pk.done rl r2 k⟩
      · exact k.elim
    · exact k.elim
  · exact k.elim
theorem g_get {m : Mt} {o e : Expr} {es : List Expr} {apos cpos : Pos} {f : FE} {fs : FL} (hw : S.w = X.w) (hm : MtR X "dict.get" (MtK X S (mt1 m))) (hty : ∀ h p, mtTy m h p = isDic h p) (ho : PE X o (tE X.K S f W)) (ha : PA X (e :: es) (tL X.K S fs W)) (hbase : attributeBase o "get" X.env (eval o X.env) = eval o X.env)
    (hfew : ((backTo cpos (starEach (e :: es) X.env)).all (fun x => !x.1) && (backToKw cpos (keywordEach [] X.env)).all (fun x => x.1.isSome)
      && decide ((e :: es).length + ([] : List Keyword).length + (if ([] : List Keyword).isEmpty then 0 else 1) < 30)) = true)
    (hline : (apos.endLine == cpos.line) = true) (hs : starEach (e :: es) X.env = (false, eval e X.env) :: starEach es X.env) (hplain : (backTo cpos (starEach es X.env)).any (·.1) = false) :
    PE X (.Call (.Attribute o "get" apos) (e :: es) [] cpos) (tE X.K S (mthC m (mt1 m) f fs) W) :=
  (pe_bmU F.plainAttrs_dict F.slot_dict_get F.type_dict_get hm (tyD_ok hw) ho ha hbase hfew hline hs hplain).imp fun σ H Q h => mtU_imp (m := m) (fun ρ H h p x rl r e => isDic_of rl r (by rw [← hty]; exact e)) h
end
end
end Lf

end
section
set_option Elab.async false
set_option linter.all false
set_option maxRecDepth 100000
set_option autoImplicit false
/-! LfH: calls of defs; targets; statements. -/
namespace Lf
open PySem PySem.Spec PyProof.Rows L2

/-- what a def does, by values -/
def spF (K : PySem.W.Frag) (S : Stat) (f : List PV → Hh → Rs PV) : Sp := fun vs H Q E => ∃ ρ h ps, Rl K S ρ h H ∧ RVs K S ρ H ps vs ∧ Po K S (RV K S) ρ H (f ps h) Q E

section
variable {X : Cx} {S : Stat} {W : WX} {pos p2 : Pos}
theorem g_call {x : Str} {f : Addr} {fd : FuncData} {ps : List Str} {k : Nat} {g : List PV → Hh → Rs PV} {e : Expr} {es : List Expr} {fl : FL} {p : Pos} (F : FnOk X.prog X.w X.K X.mg X.base (CX X.prog X.w) k f fd ps (spF X.K S g)) (hr : Room k X.A) (hg : Gl X x) (hm : X.mg x = some (.ref f)) (hk : PySem.W.keepIn X.K (.ref f) = true) (hb : Binds X.K fd ps [])
    (tk : Takes X W) (ha : PA X (e :: es) (tL X.K S fl W)) (hdb : (x == ("__debug__" : Str)) = false) (he : starEach (e :: es) X.env = (false, eval e X.env) :: starEach es X.env) (hpl : (backTo pos (starEach es X.env)).any (·.1) = false) :
    PE X (.Call (.Name x p) (e :: es) [] pos) (tE X.K S (argC g fl) W) :=
  (pe_callSD F hr hg hm hk hb .nil (E := fun σ => At W σ) (fun σ => passAt tk σ) ha hdb he hpl).imp fun σ H Q ⟨ρ, e, h, rl, re, po⟩ => ⟨ρ, e, h, rl, re, Po.bind po fun vs h1 Vs H1 ρ1 x1 r1 q1 po1 => by
    rw [List.append_nil]
    exact ⟨ρ1, h1, vs, r1, q1, po1⟩⟩

/-! ### statements -/
def Ps (K : PySem.W.Frag) (S : Stat) (ρ : List Addr) (H : Hp) (m : SR) (D : Ends) (W : WX) : Prop := match m with
  | .nx e h => ∀ σ' H' ρ', Ext ρ H ρ' H' → Rl K S ρ' h H' → RE K S ρ' H' e σ' → D.nx σ' H'
  | .rt v h => ∀ V H' ρ', Ext ρ H ρ' H' → Rl K S ρ' h H' → RV K S ρ' H' v V → D.rt V H'
  | .bk e h => ∀ σ' H' ρ', Ext ρ H ρ' H' → Rl K S ρ' h H' → RE K S ρ' H' e σ' → D.bk σ' H'
  | .ct e h => ∀ σ' H' ρ', Ext ρ H ρ' H' → Rl K S ρ' h H' → RE K S ρ' H' e σ' → D.ct σ' H'
  | .exc c fs e h => ∀ σ' H' ρ' cls d, Ext ρ H ρ' H' → Rl K S ρ' h H' → RE K S ρ' H' e σ' → XR K S ρ' H' c fs cls d → W cls d σ' H'
  | .bad => False
def sS (K : PySem.W.Frag) (S : Stat) (f : FS) (W : WX) : TS := fun D σ H => ∃ ρ e h, Rl K S ρ h H ∧ RE K S ρ H e σ ∧ Ps K S ρ H (f e h) D W
end
section
variable {K : PySem.W.Frag} {S : Stat} {ρ ρ1 : List Addr} {H H1 : Hp} {h h1 : Hh} {D D' : Ends} {W W' : WX} {m : SR} {e : En} {σ : L2.St}
theorem Ps.ext (x : Ext ρ H ρ1 H1) (p : Ps K S ρ H m D W) : Ps K S ρ1 H1 m D W := by
  cases m with
  | nx e h => exact fun σ' H' ρ' y => p σ' H' ρ' (x.trans y)
  | rt v h => exact fun V H' ρ' y => p V H' ρ' (x.trans y)
  | bk e h => exact fun σ' H' ρ' y => p σ' H' ρ' (x.trans y)
  | ct e h => exact fun σ' H' ρ' y => p σ' H' ρ' (x.trans y)
  | exc c fs e h => exact fun σ' H' ρ' cls d y => p σ' H' ρ' cls d (x.trans y)
  | bad => exact p
theorem Ps.mono (p : Ps K S ρ H m D W) (h1 : ∀ σ H, D.nx σ H → D'.nx σ H) (h2 : ∀ σ H, D.rt σ H → D'.rt σ H) (h3 : ∀ σ H, D.bk σ H → D'.bk σ H) (h4 : ∀ σ H, D.ct σ H → D'.ct σ H) (h5 : ∀ c d σ H, W c d σ H → W' c d σ H) : Ps K S ρ H m D' W' := by
  cases m with
  | nx e h => exact fun σ' H' ρ' y r q => h1 _ _ (p σ' H' ρ' y r q)
  | rt v h => exact fun V H' ρ' y r q => h2 _ _ (p V H' ρ' y r q)
  | bk e h => exact fun σ' H' ρ' y r q => h3 _ _ (p σ' H' ρ' y r q)
  | ct e h => exact fun σ' H' ρ' y r q => h4 _ _ (p σ' H' ρ' y r q)
  | exc c fs e h => exact fun σ' H' ρ' cls d y r q z => h5 _ _ _ _ (p σ' H' ρ' cls d y r q z)
  | bad => exact p
theorem Ps.nx (r : Rl K S ρ h H) (q : RE K S ρ H e σ) (p : Ps K S ρ H (.nx e h) D W) : D.nx σ H := p σ H ρ Ext.refl r q
/-- an expression, then the rest -/
theorem Ps.thn {α β : Type} {rel : List Addr → Hp → α → β → Prop} {m : Rs α} {k : α → Hh → SR} {Q : β → Hp → Prop} (rl : Rl K S ρ h H) (re : RE K S ρ H e σ) (p : Ps K S ρ H (m.thn e k) D W)
    (hk : ∀ v h1 V H1 ρ1, Ext ρ H ρ1 H1 → Rl K S ρ1 h1 H1 → rel ρ1 H1 v V → Ps K S ρ1 H1 (k v h1) D W → Q V H1) : Po K S rel ρ H m Q (At W σ) := by
  cases m with
  | ok v h => exact fun V H' ρ' y r q => hk v h V H' ρ' y r q (Ps.ext y p)
  | exc c fs h => exact fun H' ρ' cls d y r z => p σ H' ρ' cls d y r (RE.ext rl y re) z
  | bad => exact p
theorem RE.set {i : Nat} {v : PV} {V : V} (re : RE K S ρ H e σ) (r : RV K S ρ H v V) : RE K S ρ H (e.set i (some v)) (σ.set i (some V)) := by
  refine ⟨by rw [List.length_set, List.length_set, re.len], fun j p hj => ?_⟩
  by_cases hij : i = j
  · subst hij
    by_cases hl : i < e.length
    · rw [List.getElem?_set_self hl] at hj
      cases hj
      exact ⟨V, by rw [List.getElem?_set_self (by rw [← re.len]; exact hl)], r⟩
    · rw [List.getElem?_eq_none (by rw [List.length_set]; omega)] at hj
      cases hj
  · rw [List.getElem?_set_ne hij] at hj ⊢
    exact re.at_ j p hj
theorem RE.setNone {i : Nat} (re : RE K S ρ H e σ) : RE K S ρ H (e.set i none) (σ.set i none) := by
  refine ⟨by rw [List.length_set, List.length_set, re.len], fun j p hj => ?_⟩
  by_cases hij : i = j
  · subst hij
    by_cases hl : i < e.length
    · rw [List.getElem?_set_self hl] at hj
      cases hj
    · rw [List.getElem?_eq_none (by rw [List.length_set]; omega)] at hj
      cases hj
  · rw [List.getElem?_set_ne hij] at hj ⊢
    exact re.at_ j p hj
theorem RE.wip {vs : List Nat} (re : RE K S ρ H e σ) : RE K S ρ H (wip e vs) (wipe σ vs) := by
  induction vs with
  | nil => exact re
  | cons v vs ih =>
    unfold Lf.wip wipe
    exact ih.setNone
end

section
variable {X : Cx} {S : Stat} {W : WX} {pos p2 : Pos}
theorem _root_.L2.PS.imp {x : Stmt} {t t' : TS} (p : PS X x t) (h : ∀ D σ H, t' D σ H → t D σ H) : PS X x t' := ⟨fun pins s σ H D I q => p.run pins s σ H D I (h _ _ _ q)⟩
theorem _root_.L2.PSs.imp {x : List Stmt} {t t' : TS} (p : PSs X x t) (h : ∀ D σ H, t' D σ H → t D σ H) : PSs X x t' := ⟨fun pins s σ H D I q => p.run pins s σ H D I (h _ _ _ q)⟩
theorem _root_.L2.PG.imp {x : Expr} {t t' : TG} (p : PG X x t) (h : ∀ v σ H Q, t' v σ H Q → t v σ H Q) : PG X x t' := ⟨fun pins s σ H v u Q I r q => p.run pins s σ H v u Q I r (h _ _ _ _ q)⟩
theorem _root_.L2.PGs.imp {x : List Expr} {t t' : TGs} (p : PGs X x t) (h : ∀ v σ H Q, t' v σ H Q → t v σ H Q) : PGs X x t' := ⟨fun pins s σ H v u Q I r q => p.run pins s σ H v u Q I r (h _ _ _ _ q)⟩
theorem s_nil : PSs X [] (sS X.K S snilC W) := pss_nil.imp fun D σ H ⟨ρ, e, h, rl, re, p⟩ => Ps.nx rl re p
theorem s_seq {st : Stmt} {rest : List Stmt} {f g : FS} (h1 : PS X st (sS X.K S f W)) (h2 : PSs X rest (sS X.K S g W)) : PSs X (st :: rest) (sS X.K S (seqC f g) W) :=
  (pss_cons h1 h2).imp fun D σ H ⟨ρ, e, h, rl, re, p⟩ => ⟨ρ, e, h, rl, re, by
    unfold seqC at p
    cases he : f e h with
    | nx e1 h1 =>
      rw [he] at p
      exact fun σ' H' ρ' y r q => ⟨ρ', _, _, r, q, Ps.ext y p⟩
    | rt v h1 => rw [he] at p; exact p
    | bk e1 h1 => rw [he] at p; exact p
    | ct e1 h1 => rw [he] at p; exact p
    | exc c fs e1 h1 => rw [he] at p; exact p
    | bad => rw [he] at p; exact p⟩
theorem s_one {st : Stmt} {f : FS} (h1 : PS X st (sS X.K S f W)) : PSs X [st] (sS X.K S f W) := pss_one h1
theorem s_pass : PS X (.Pass pos) (sS X.K S snilC W) := ps_pass.imp fun D σ H ⟨ρ, e, h, rl, re, p⟩ => Ps.nx rl re p
theorem s_doc {x j pos'} : PS X (.Expr (.Constant (.str x) j pos) pos') (sS X.K S snilC W) := ps_doc.imp fun D σ H ⟨ρ, e, h, rl, re, p⟩ => Ps.nx rl re p
theorem s_brk : PS X (.Break pos) (sS X.K S brkC W) := ps_break.imp fun D σ H ⟨ρ, e, h, rl, re, p⟩ => p σ H ρ Ext.refl rl re
theorem s_cnt : PS X (.Continue pos) (sS X.K S cntC W) := ps_continue.imp fun D σ H ⟨ρ, e, h, rl, re, p⟩ => p σ H ρ Ext.refl rl re
theorem s_exp {a : Expr} {f : FE} (ha : PE X a (tE X.K S f W)) (hs : swapsWith a none pos.line X.env = pure false) : PS X (.Expr a pos) (sS X.K S (expC f) W) :=
  (ps_expr ha hs).imp fun D σ H ⟨ρ, e, h, rl, re, p⟩ => ⟨ρ, e, h, rl, re, Ps.thn rl re p fun v h1 V H1 ρ1 x1 r1 q1 p1 => Ps.nx r1 (RE.ext rl x1 re) p1⟩
theorem s_ret {a : Expr} {f : FE} (ha : PE X a (tE X.K S f W)) : PS X (.Return (some a) pos) (sS X.K S (retC f) W) :=
  (ps_ret ha).imp fun D σ H ⟨ρ, e, h, rl, re, p⟩ => ⟨ρ, e, h, rl, re, Ps.thn rl re p fun v h1 V H1 ρ1 x1 r1 q1 p1 => p1 V H1 ρ1 Ext.refl r1 q1⟩
theorem s_rtn : PS X (.Return none pos) (sS X.K S rtnC W) := ps_retN.imp fun D σ H ⟨ρ, e, h, rl, re, p⟩ => p .non H ρ Ext.refl rl rv_non
theorem s_if {c : Expr} {a b : List Stmt} {fc : FE} {fa fb : FS} (hc : PT X c (tT X.K S fc W)) (ha : PSs X a (sS X.K S fa W)) (hb : PSs X b (sS X.K S fb W)) : PS X (.If c a b pos) (sS X.K S (iffC fc fa fb) W) :=
  (ps_if hc ha hb).imp fun D σ H ⟨ρ, e, h, rl, re, p⟩ => ⟨ρ, e, h, rl, re, Ps.thn rl re p fun v h1 V H1 ρ1 x1 r1 q1 p1 => by
    subst q1
    cases v with
    | true => exact ⟨ρ1, e, h1, r1, RE.ext rl x1 re, p1⟩
    | false => exact ⟨ρ1, e, h1, r1, RE.ext rl x1 re, p1⟩⟩
theorem s_aug {i : Nat} {x : Str} {a : Expr} {f : FE} {op : Operator} {g : Op → PV → PV → Hh → Rs PV} {k : Op} {pos' : Pos} (hN : X.N.Nodup) (hi : X.N[i]? = some x) (hx : Loc X.env.scope x) (ha : PE X a (tE X.K S f W)) (ho : PIp X op (OpK X S (g k))) (hf : X.fn x = true ∨ X.env.scope.names.lookup x = some .local) :
    PS X (.AugAssign (.Name x pos') op a pos) (sS X.K S (augC g i k f) W) :=
  (ps_aug hN hi hx ha ho hf).imp fun D σ H ⟨ρ, e, h, rl, re, p⟩ => by
    unfold augC at p
    split at p
    · rename_i v hv
      obtain ⟨V, e1, e2⟩ := re.at_ i v hv
      exact ⟨V, e1, ρ, e, h, rl, re, Ps.thn rl re p fun u h1 U H1 ρ1 x1 r1 q1 p1 => ⟨ρ1, h1, v, u, r1, RV.ext rl x1 _ _ e2, q1,
        Po.noExc (Ps.thn (D := D) r1 (RE.ext rl x1 re) p1 fun z h2 Z H2 ρ2 x2 r2 q2 p2 => Ps.nx r2 ((RE.ext r1 x2 (RE.ext rl x1 re)).set q2) p2)⟩⟩
    · exact p.elim

/-! ### targets -/
def tG (K : PySem.W.Frag) (S : Stat) (f : FT) : TG := fun v σ H Q => ∃ ρ e h p, Rl K S ρ h H ∧ RE K S ρ H e σ ∧ RV K S ρ H p v ∧ Pk K S (RE K S) ρ H (f p e h) Q
def tGs (K : PySem.W.Frag) (S : Stat) (f : FTs) : TGs := fun vs σ H Q => ∃ ρ e h ps, Rl K S ρ h H ∧ RE K S ρ H e σ ∧ RVs K S ρ H ps vs ∧ Pk K S (RE K S) ρ H (f ps e h) Q
theorem Pk.bind {α β γ δ : Type} {K : PySem.W.Frag} {rel : List Addr → Hp → α → β → Prop} {rel2 : List Addr → Hp → γ → δ → Prop} {ρ : List Addr} {H : Hp} {m : Rs α} {k : α → Hh → Rs γ} {Q : δ → Hp → Prop} {Q' : β → Hp → Prop} (po : Pk K S rel2 ρ H (m.bind k) Q)
    (hk : ∀ v h1 V H1 ρ1, Ext ρ H ρ1 H1 → Rl K S ρ1 h1 H1 → rel ρ1 H1 v V → Pk K S rel2 ρ1 H1 (k v h1) Q → Q' V H1) : Pk K S rel ρ H m Q' := by
  cases m with
  | ok v h => exact fun V H' ρ' y r q => hk v h V H' ρ' y r q (Pk.ext y po)
  | exc c fs h => exact po
  | bad => exact po
theorem Pk.noExc {α β : Type} {K : PySem.W.Frag} {rel : List Addr → Hp → α → β → Prop} {ρ : List Addr} {H : Hp} {m : Rs α} {Q : β → Hp → Prop} (p : Pk K S rel ρ H (noExc m) Q) : Pk K S rel ρ H m Q := by
  cases m with
  | ok v h => exact p
  | exc c fs h => exact p
  | bad => exact p
theorem t_name {i : Nat} {x : Str} (hN : X.N.Nodup) (hi : X.N[i]? = some x) (hx : Loc X.env.scope x) (hf : X.fn x = true ∨ X.env.scope.names.lookup x = some .local) : PG X (.Name x pos) (tG X.K S (tnC i)) :=
  (pg_name hN hi hx hf).imp fun v σ H Q ⟨ρ, e, h, p, rl, re, rp, k⟩ => k _ _ _ Ext.refl rl (re.set rp)
theorem t_nil : PGs X [] (tGs X.K S tnilC) := pgs_nil.imp fun vs σ H Q ⟨ρ, e, h, ps, rl, re, rp, k⟩ => by
  unfold tnilC at k
  split at k
  · unfold RVs at rp
    exact ⟨rp, k _ _ _ Ext.refl rl re⟩
  · exact k.elim
theorem t_cons {a : Expr} {es : List Expr} {f : FT} {g : FTs} (h1 : PG X a (tG X.K S f)) (h2 : PGs X es (tGs X.K S g)) (hs : (assignEach (a :: es) X.env).map (·.2) = assign a X.env :: (assignEach es X.env).map (·.2)) : PGs X (a :: es) (tGs X.K S (tconsC f g)) :=
  (pgs_cons h1 h2 hs).imp fun vs σ H Q ⟨ρ, e, h, ps, rl, re, rp, k⟩ => by
    unfold tconsC at k
    split at k
    · rename_i p ps
      unfold RVs at rp
      obtain ⟨x, s, rfl, r1, r2⟩ := rp
      exact ⟨x, s, rfl, ρ, e, h, p, rl, re, r1, Pk.bind k fun e1 h1 σ1 H1 ρ1 x1 rl1 q1 k1 => ⟨ρ1, e1, h1, ps, rl1, q1, RVs.ext rl x1 _ _ r2, k1⟩⟩
    · exact k.elim
theorem t_sub {o i : Expr} {f g : FE} (ho : PE X o (tE X.K S f W)) (hi : PE X i (tE X.K S g W)) (ha : ∀ v, assign (.Subscript o i pos) X.env v = (do
      let ov ← holding [v] (eval o X.env)
      let iv ← holding [v, ov] (eval i X.env)
      standAt pos
      holding [v, ov, iv] (setItem ov iv v)
      release [v, ov, iv] [])) (hs : PSet X (fun o i v H Q => ∃ ρ h p q z, Rl X.K S ρ h H ∧ RV X.K S ρ H p o ∧ RV X.K S ρ H q i ∧ RV X.K S ρ H z v ∧ Pk X.K S (fun _ _ (_ _ : Unit) => True) ρ H (set1 p q z h) (fun _ => Q))) :
    PG X (.Subscript o i pos) (tG X.K S (tsuC set1 f g)) :=
  (pg_sub ho hi hs ha).imp fun v σ H Q ⟨ρ, e, h, p, rl, re, rp, k⟩ => ⟨ρ, e, h, rl, re, Pk.po (Pk.bind k fun x h1 V H1 ρ1 x1 r1 q1 k1 => ⟨ρ1, e, h1, r1, RE.ext rl x1 re, Pk.po (Pk.bind k1 fun y h2 V2 H2 ρ2 x2 r2 q2 k2 =>
    ⟨ρ2, h2, x, y, p, r2, RV.ext r1 x2 _ _ q1, q2, RV.ext r1 x2 _ _ (RV.ext rl x1 _ _ rp), Pk.noExc (Pk.bind k2 fun u h3 U H3 ρ3 x3 r3 q3 k3 => Pk.done r3 (RE.ext r2 x3 (RE.ext r1 x2 (RE.ext rl x1 re))) k3)⟩)⟩)⟩
theorem s_asg {tg a : Expr} {f : FE} {g : FT} (ha : PE X a (tE X.K S f W)) (hg : PG X tg (tG X.K S g)) (hs : swapsWithSole [tg] a pos.line X.env = pure false) (hw : swappedStores [tg] a X.env = pure none)
    (h1 : (assignEach [tg] X.env).map (·.2) = [assign tg X.env]) : PS X (.Assign [tg] a pos) (sS X.K S (asgC g f) W) :=
  (ps_asg ha hg hs hw h1).imp fun D σ H ⟨ρ, e, h, rl, re, p⟩ => ⟨ρ, e, h, rl, re, Ps.thn rl re p fun v h1 V H1 ρ1 x1 r1 q1 p1 => ⟨ρ1, e, h1, v, r1, RE.ext rl x1 re, q1,
    Po.noExc (Ps.thn (D := D) r1 (RE.ext rl x1 re) p1 fun e2 h2 σ2 H2 ρ2 x2 r2 q2 p2 => Ps.nx r2 q2 p2)⟩⟩
end
end Lf

end
section
set_option Elab.async false
set_option linter.all false
set_option maxRecDepth 100000
set_option autoImplicit false
/-! LfI: what is walked; for, while, comprehensions. -/
namespace Lf
open PySem PySem.Spec PyProof.Rows L2

section
variable {K : PySem.W.Frag} {S : Stat}
/-- the iterator J walks t, from here on -/
def RW (K : PySem.W.Frag) (S : Stat) (ρ0 : List Addr) (H0 : Hp) (t : Wk) (J : It) : Prop := ∀ (ρ : List Addr) (h : Hh) (H : Hp) (i : Nat), Ext ρ0 H0 ρ H → Rl K S ρ h H →
  (t.at h i = some none → J.stop i H) ∧ ∀ p, t.at h i = some (some p) → J.go i H ∧ ∀ x H', J.yld i H x H' → Ext ρ H ρ H' ∧ Rl K S ρ h H' ∧ RV K S ρ H' p x
variable {ρ : List Addr} {h : Hh} {H : Hp}
theorem rw_tup {a : Addr} {xs : List V} {ps : List PV} (rl : Rl K S ρ h H) (t : SqU K H a xs) (r : RVs K S ρ H ps xs) : RW K S ρ H (.tup ps) (Itt K a) := by
  intro ρ1 h1 H1 i x rl1
  have t1 := (SqU.ext rl x t).sq
  have r1 := RVs.ext rl x _ _ r
  refine ⟨fun e => ?_, fun p e => ?_⟩
  · have e : ps[i]? = none := by simpa [Wk.at] using e
    exact ⟨xs, t1, List.getElem?_eq_none_iff.mp (r1.none e)⟩
  · have e : ps[i]? = some p := by simpa [Wk.at] using e
    obtain ⟨v, e1, e2⟩ := r1.get e
    refine ⟨⟨xs, v, t1, e1⟩, fun y H' ⟨e3, e4⟩ => ?_⟩
    subst e3
    have := e4 xs t1
    rw [e1] at this
    cases this
    exact ⟨Ext.refl, rl1, e2⟩
theorem rw_kls {a : Addr} {xs : List V} {ps : List PV} (rl : Rl K S ρ h H) (t : SqF K H a xs) (r : RVs K S ρ H ps xs) : RW K S ρ H (.kls ps) (Itl K a) := by
  intro ρ1 h1 H1 i x rl1
  have t1 := (SqF.ext rl x t).sq
  have r1 := RVs.ext rl x _ _ r
  refine ⟨fun e => ?_, fun p e => ?_⟩
  · have e : ps[i]? = none := by simpa [Wk.at] using e
    exact ⟨xs, t1, List.getElem?_eq_none_iff.mp (r1.none e)⟩
  · have e : ps[i]? = some p := by simpa [Wk.at] using e
    obtain ⟨v, e1, e2⟩ := r1.get e
    refine ⟨⟨xs, v, t1, e1⟩, fun y H' ⟨e3, e4⟩ => ?_⟩
    subst e3
    have := e4 xs t1
    rw [e1] at this
    cases this
    exact ⟨Ext.refl, rl1, e2⟩
theorem rw_lst {n : Nat} {a : Addr} (ha : ρ[n]? = some a) : RW K S ρ H (.lst n) (Itl K a) := by
  intro ρ1 h1 H1 i x rl1
  have ha1 := x.at_ ha
  have core : ∀ {o : Ob} {ps : List PV} {xs : List V}, h1[n]? = some o → SqL K H1 a xs → RVs K S ρ1 H1 ps xs → (some ps[i]? = some none → (Itl K a).stop i H1) ∧ ∀ p, some ps[i]? = some (some p) → (Itl K a).go i H1 ∧ ∀ x H', (Itl K a).yld i H1 x H' → Ext ρ1 H1 ρ1 H' ∧ Rl K S ρ1 h1 H' ∧ RV K S ρ1 H' p x := by
    intro o ps xs hk t1 r1
    refine ⟨fun e => ?_, fun p e => ?_⟩
    · exact ⟨xs, t1, List.getElem?_eq_none_iff.mp (r1.none (Option.some.inj e))⟩
    · obtain ⟨v, e1, e2⟩ := r1.get (Option.some.inj e)
      refine ⟨⟨xs, v, t1, e1⟩, fun y H' ⟨e3, e4⟩ => ?_⟩
      subst e3
      have := e4 xs t1
      rw [e1] at this
      cases this
      exact ⟨Ext.refl, rl1, e2⟩
  unfold Wk.at
  split
  · rename_i ps hk
    obtain ⟨xs, t, r⟩ := rl1.ob _ _ a hk ha1
    exact core hk (.inl (.inl t)) r
  · exact ⟨fun e => (by cases e), fun p e => (by cases e)⟩
theorem rw_rng {lo : Int} {k : Nat} : RW K S ρ H (.rng lo k) (Itr lo k) := by
  intro ρ1 h1 H1 i x rl1
  unfold Wk.at
  split
  · rename_i hb
    have hb := blt_true hb
    refine ⟨fun e => (by simp at e), fun p e => ⟨hb, fun y H' ⟨e1, e2⟩ => ?_⟩⟩
    subst e1 e2
    have e : PV.int (lo + (i : Int)) = p := by simpa using e
    subst e
    exact ⟨Ext.refl, rl1, rv_int⟩
  · rename_i hb
    have hb : ¬ i < k := fun z => hb (Nat.ble_eq_true_of_le z)
    exact ⟨fun _ => by show k ≤ i; omega, fun p e => by simp at e⟩
/-- a new pair -/
theorem pair_new (rl : Rl K S ρ h H) {T : Addr} {p q : PV} {x y : V} (hT : H T = none) (r1 : RV K S ρ H p x) (r2 : RV K S ρ H q y) :
    Ext ρ H ρ (upd H T (.tup [x, y])) ∧ Rl K S ρ h (upd H T (.tup [x, y])) ∧ RV K S ρ (upd H T (.tup [x, y])) (.wt [p, q]) (.ref T) := by
  obtain ⟨x2, rl2⟩ := rl.tup (u := .tup [x, y]) hT
  exact ⟨x2, rl2, by unfold RV; exact ⟨T, _, rfl, SqT.of upd_same, RVs.cons (RV.ext rl x2 _ _ r1) (RVs.cons (RV.ext rl x2 _ _ r2) RVs.nil)⟩⟩
theorem lst_look {n : Nat} {a : Addr} (rl : Rl K S ρ h H) (ha : ρ[n]? = some a) {i : Nat} {o : Option PV} (e : (Wk.lst n).at h i = some o) : ∃ ps xs, SqL K H a xs ∧ RVs K S ρ H ps xs ∧ o = ps[i]? := by
  unfold Wk.at at e
  split at e
  · rename_i ps hk
    obtain ⟨xs, t, r⟩ := rl.ob _ _ a hk ha
    exact ⟨ps, xs, .inl (.inl t), r, (Option.some.inj e).symm⟩
  · cases e
theorem rw_enm {n : Nat} {a : Addr} (ha : ρ[n]? = some a) : RW K S ρ H (.enm (.lst n)) (Ite K a) := by
  intro ρ1 h1 H1 i x rl1
  have ha1 := x.at_ ha
  refine ⟨fun e => ?_, fun p e => ?_⟩
  · have e' : (Wk.lst n).at h1 i = some none := by
      rw [Wk.at] at e
      split at e
      · cases e
      · assumption
      · cases e
    obtain ⟨ps, xs, t, r, e2⟩ := lst_look rl1 ha1 e'
    exact ⟨xs, t, List.getElem?_eq_none_iff.mp (r.none e2.symm)⟩
  · obtain ⟨v, e', rfl⟩ : ∃ v, (Wk.lst n).at h1 i = some (some v) ∧ p = .wt [.int (i : Int), v] := by
      rw [Wk.at] at e
      split at e
      · rename_i v hv
        exact ⟨v, hv, (by simpa using e.symm)⟩
      · cases e
      · cases e
    obtain ⟨ps, xs, t, r, e2⟩ := lst_look rl1 ha1 e'
    obtain ⟨w, e3, e4⟩ := r.get e2.symm
    refine ⟨⟨xs, w, t, e3⟩, fun y H' ⟨T, z, h1, h2, h3, h4⟩ => ?_⟩
    have := h4 xs t
    rw [e3] at this
    cases this
    subst h1 h3
    exact pair_new rl1 h2 rv_int e4
theorem tup_look {ps : List PV} {i : Nat} {o : Option PV} (e : (Wk.tup ps).at h i = some o) : o = ps[i]? := by
  unfold Wk.at at e
  exact (Option.some.inj e).symm
/-- what a zip that is not strict gives -/
theorem zip_none {a b : Wk} {i : Nat} (e : (Wk.zip a b).at h i = some none) : ∃ u v, a.at h i = some u ∧ b.at h i = some v ∧ (u = none ∨ v = none) := by
  rw [Wk.at] at e
  split at e
  · rename_i v hv
    split at e
    · simp at e
    · rename_i hb
      exact ⟨_, _, hv, hb, .inr rfl⟩
    · cases e
  · rename_i hv
    split at e
    · rename_i w hw
      exact ⟨_, _, hv, hw, .inl rfl⟩
    · cases e
  · cases e
theorem zip_some {a b : Wk} {i : Nat} {p : PV} (e : (Wk.zip a b).at h i = some (some p)) : ∃ v w, a.at h i = some (some v) ∧ b.at h i = some (some w) ∧ p = .wt [v, w] := by
  rw [Wk.at] at e
  split at e
  · rename_i v hv
    split at e
    · rename_i w hw
      exact ⟨v, w, hv, hw, by simpa using e.symm⟩
    · simp at e
    · cases e
  · split at e
    · simp at e
    · cases e
  · cases e
theorem rw_zpl {n m : Nat} {a b : Addr} (ha : ρ[n]? = some a) (hb : ρ[m]? = some b) : RW K S ρ H (.zip (.lst n) (.lst m)) (Itz K a b) := by
  intro ρ1 h1 H1 i x rl1
  have ha1 := x.at_ ha
  have hb1 := x.at_ hb
  refine ⟨fun e => ?_, fun p e => ?_⟩
  · obtain ⟨u, v, e1, e2, e3⟩ := zip_none e
    obtain ⟨ps, xs, t, r, f1⟩ := lst_look rl1 ha1 e1
    obtain ⟨qs, ys, t2, r2, f2⟩ := lst_look rl1 hb1 e2
    refine ⟨xs, ys, t, t2, ?_⟩
    rcases e3 with rfl | rfl
    · exact .inl (List.getElem?_eq_none_iff.mp (r.none f1.symm))
    · exact .inr (List.getElem?_eq_none_iff.mp (r2.none f2.symm))
  · obtain ⟨v, w, e1, e2, rfl⟩ := zip_some e
    obtain ⟨ps, xs, t, r, e3⟩ := lst_look rl1 ha1 e1
    obtain ⟨qs, ys, t2, r2, e4⟩ := lst_look rl1 hb1 e2
    obtain ⟨x1, e5, e6⟩ := r.get e3.symm
    obtain ⟨y1, e7, e8⟩ := r2.get e4.symm
    refine ⟨⟨xs, ys, x1, y1, t, t2, e5, e7⟩, fun z H' ⟨T, x', y', h1, h2, h3, h4, h5⟩ => ?_⟩
    have q1 := h4 xs t
    have q2 := h5 ys t2
    rw [e5] at q1
    rw [e7] at q2
    cases q1
    cases q2
    subst h1 h3
    exact pair_new rl1 h2 e6 e8
theorem rw_zpt {ps qs : List PV} {a b : Addr} {xs ys : List V} (rl : Rl K S ρ h H) (t : SqU K H a xs) (t' : SqU K H b ys) (r : RVs K S ρ H ps xs) (r' : RVs K S ρ H qs ys) : RW K S ρ H (.zip (.tup ps) (.tup qs)) (RZ.ItzT K a b) := by
  intro ρ1 h1 H1 i x rl1
  have t1 := (SqU.ext rl x t).sq
  have t2 := (SqU.ext rl x t').sq
  have r1 := RVs.ext rl x _ _ r
  have r2 := RVs.ext rl x _ _ r'
  refine ⟨fun e => ?_, fun p e => ?_⟩
  · obtain ⟨u, v, e1, e2, e3⟩ := zip_none e
    refine ⟨xs, ys, t1, t2, ?_⟩
    rcases e3 with rfl | rfl
    · exact .inl (List.getElem?_eq_none_iff.mp (r1.none (tup_look e1).symm))
    · exact .inr (List.getElem?_eq_none_iff.mp (r2.none (tup_look e2).symm))
  · obtain ⟨v, w, e1, e2, rfl⟩ := zip_some e
    obtain ⟨x1, e5, e6⟩ := r1.get (tup_look e1).symm
    obtain ⟨y1, e7, e8⟩ := r2.get (tup_look e2).symm
    refine ⟨⟨xs, ys, x1, y1, t1, t2, e5, e7⟩, fun z H' ⟨T, x', y', h1, h2, h3, h4, h5⟩ => ?_⟩
    have q1 := h4 xs t1
    have q2 := h5 ys t2
    rw [e5] at q1
    rw [e7] at q2
    cases q1
    cases q2
    subst h1 h3
    exact pair_new rl1 h2 e6 e8
end

section
variable {X : Cx} {S : Stat} {W : WX} {pos p2 : Pos} {tg : Expr}
def tI (K : PySem.W.Frag) (S : Stat) (f : FI) (W : WX) : TI := fun σ H R => ∃ ρ e h, Rl K S ρ h H ∧ RE K S ρ H e σ ∧ Po K S (RW K S) ρ H (f e h) R (At W σ)
theorem _root_.L2.PI.imp {tg x : Expr} {t t' : TI} (p : PI X tg x t) (h : ∀ σ H Q, t' σ H Q → t σ H Q) : PI X tg x t' := ⟨fun pins s σ H Q I q => p.run pins s σ H Q I (h _ _ _ q)⟩
/-- a list or a tuple -/
theorem pi_seq {l : Expr} {tl : TE} (hl : PE X l tl) : PI X tg l (fun σ H R => tl σ H fun x H1 => (∃ a, x = .ref a ∧ (∃ xs, SqL X.K H1 a xs) ∧ R (Itl X.K a) H1) ∨ ∃ a, x = .ref a ∧ (∃ xs, SqT X.K H1 a xs) ∧ R (Itt X.K a) H1) := by
  refine ⟨fun pins s σ H R I h => ?_⟩
  refine thn (hl.run pins s σ H _ I h) fun v s1 ⟨x, H1, I1, r1, q1⟩ => ?_
  rcases q1 with ⟨a, e, ⟨xs, hq⟩, q⟩ | ⟨a, e, ⟨xs, hq⟩, q⟩
  · subst e
    cases r1
    obtain ⟨its, rv, p, hz⟩ := I1.list hq
    refine wpAny_pyIter_list p.isList ?_
    refine ⟨s1.heap.objs.size, [s1.heap.objs.size], _, _, H1, rfl, I1.kept (t' := s1.toks) fun b o e => Heap.get?_push_of_some _ e, turn_list a _, ⟨_, Heap.get?_push_size _ rfl, rfl, rfl⟩, fun b hb => ?_, q⟩
    have e : b = s1.heap.objs.size := by simpa using hb
    subst e
    exact I1.fpOk (Nat.le_refl _) (I1.hok.fresh (Nat.le_refl _))
  · subst e
    cases r1
    obtain ⟨its, rv, p, hz⟩ := I1.tuple hq
    refine wpAny_pyIter_tuple (show s1.heap.IsTuple a its.toArray from p) ?_
    refine ⟨s1.heap.objs.size, [s1.heap.objs.size], _, _, H1, rfl, I1.kept (t' := s1.toks) fun b o e => Heap.get?_push_of_some _ e, turn_tuple a _, ⟨_, Heap.get?_push_size _ rfl, rfl, rfl⟩, fun b hb => ?_, q⟩
    have e : b = s1.heap.objs.size := by simpa using hb
    subst e
    exact I1.fpOk (Nat.le_refl _) (I1.hok.fresh (Nat.le_refl _))
theorem okI_po {m : Option Wk} {h : Hh} {ρ : List Addr} {H : Hp} {Q : It → Hp → Prop} {E : XK} (rl : Rl X.K S ρ h H) (po : Po X.K S (RW X.K S) ρ H (okI m h) Q E) : ∃ t, m = some t ∧ ∀ J, RW X.K S ρ H t J → Q J H := by
  cases m with
  | none => exact po.elim
  | some t => exact ⟨t, rfl, fun J r => Po.done rl r po⟩
theorem itOf_lst {h : Hh} {p : PV} {n : Nat} (e : itOf h p = some (.lst n)) : p = .ref n ∧ ∃ ps, h[n]? = some (.lst ps) := by
  unfold itOf at e
  split at e
  · cases e
  · cases e
  · split at e
    · rename_i ps hk
      cases e
      exact ⟨rfl, ps, hk⟩
    · cases e
  · cases e
theorem itOf_tup {h : Hh} {p : PV} {ps : List PV} (e : itOf h p = some (.tup ps)) : p = .tup ps := by
  unfold itOf at e
  split at e
  · cases e; rfl
  · cases e
  · split at e <;> cases e
  · cases e
theorem itOf_kl {h : Hh} {p : PV} {ps : List PV} (e : itOf h p = some (.kls ps)) : p = .kl ps := by
  unfold itOf at e
  split at e
  · cases e
  · cases e; rfl
  · split at e <;> cases e
  · cases e
theorem itOf_cases {h : Hh} {p : PV} {t : Wk} (e : itOf h p = some t) : (∃ n, t = .lst n) ∨ (∃ ps, t = .tup ps) ∨ ∃ ps, t = .kls ps := by
  unfold itOf at e
  split at e
  · cases e; exact .inr (.inl ⟨_, rfl⟩)
  · cases e; exact .inr (.inr ⟨_, rfl⟩)
  · split at e
    · cases e; exact .inl ⟨_, rfl⟩
    · cases e
  · cases e
/-- a list of the own heap, now and later -/
theorem lst_now {K : PySem.W.Frag} {ρ : List Addr} {h : Hh} {H : Hp} {n : Nat} {a : Addr} {ps : List PV} (rl : Rl K S ρ h H) (ha : ρ[n]? = some a) (hk : h[n]? = some (.lst ps)) : ∃ xs, SqL K H a xs := by
  obtain ⟨xs, t, _⟩ := rl.ob _ _ a hk ha
  exact ⟨xs, .inl (.inl t)⟩
theorem i_val {a : Expr} {f : FE} (ha : PE X a (tE X.K S f W)) : PI X tg a (tI X.K S (itvC f) W) :=
  (pi_seq ha).imp fun σ H R ⟨ρ, e, h, rl, re, po⟩ => ⟨ρ, e, h, rl, re, Po.bind po fun v h1 V H1 ρ1 x1 r1 q1 po1 => by
    obtain ⟨t, e1, po2⟩ := okI_po r1 po1
    rcases itOf_cases e1 with ⟨n, rfl⟩ | ⟨ps, rfl⟩ | ⟨ps, rfl⟩
    · obtain ⟨rfl, ps, hk⟩ := itOf_lst e1
      unfold RV at q1
      obtain ⟨a, rfl, q1⟩ := q1
      exact .inl ⟨a, rfl, lst_now r1 q1 hk, po2 _ (rw_lst q1)⟩
    · have := itOf_tup e1
      subst this
      unfold RV at q1
      obtain ⟨a, xs, rfl, t, r⟩ := q1
      exact .inr ⟨a, rfl, ⟨xs, t.sq⟩, po2 _ (rw_tup r1 t r)⟩
    · have := itOf_kl e1
      subst this
      unfold RV at q1
      obtain ⟨a, xs, rfl, t, r⟩ := q1
      exact .inl ⟨a, rfl, ⟨xs, t.sq⟩, po2 _ (rw_kls r1 t r)⟩⟩
theorem in62_of {i : Int} (h : in62 i = true) : -(2 ^ 62) ≤ i ∧ i < 2 ^ 62 := by
  have := blt_true h
  have e : (2 : Int) ^ 62 = 4611686018427387904 := by decide
  rw [e]
  omega
theorem i_r1 {a : Expr} {f : FL} {p : Pos} (hg : Gl X "range") (hm : X.mg "range" = none) (ha : PA X [a] (tL X.K S f W)) (hs : starEach [a] X.env = [(false, eval a X.env)]) : PI X tg (.Call (.Name "range" p) [a] [] pos) (tI X.K S (argI rng1 f) W) :=
  (pi_range1 hg hm ha hs).imp fun σ H R ⟨ρ, e, h, rl, re, po⟩ => ⟨ρ, e, h, rl, re, Po.bind po fun v h1 V H1 ρ1 x1 r1 q1 po1 => by
    obtain ⟨t, e1, po2⟩ := okI_po r1 po1
    unfold rng1 at e1
    split at e1
    · split at e1
      · rename_i j hb
        cases e1
        unfold RVs at q1
        obtain ⟨x, s, rfl, q1, q2⟩ := q1
        unfold RV at q1
        unfold RVs at q2
        subst q1 q2
        exact ⟨j, rfl, (in62_of hb).1, (in62_of hb).2, po2 _ rw_rng⟩
      · cases e1
    · cases e1⟩
theorem i_r2 {a b : Expr} {f : FL} {p : Pos} (hg : Gl X "range") (hm : X.mg "range" = none) (ha : PA X [a, b] (tL X.K S f W)) (hs : starEach [a, b] X.env = [(false, eval a X.env), (false, eval b X.env)]) (hs2 : starEach [b] X.env = [(false, eval b X.env)]) : PI X tg (.Call (.Name "range" p) [a, b] [] pos) (tI X.K S (argI rng2 f) W) :=
  (pi_range2 hg hm ha hs hs2).imp fun σ H R ⟨ρ, e, h, rl, re, po⟩ => ⟨ρ, e, h, rl, re, Po.bind po fun v h1 V H1 ρ1 x1 r1 q1 po1 => by
    obtain ⟨t, e1, po2⟩ := okI_po r1 po1
    unfold rng2 at e1
    split at e1
    · split at e1
      · rename_i i j hb
        simp only [Bool.and_eq_true] at hb
        cases e1
        unfold RVs at q1
        obtain ⟨x, s, rfl, q1, q2⟩ := q1
        unfold RVs at q2
        obtain ⟨y, s, rfl, q2, q3⟩ := q2
        unfold RV at q1 q2
        unfold RVs at q3
        subst q1 q2 q3
        exact ⟨i, j, rfl, ⟨(in62_of hb.1).1, (in62_of hb.1).2, (in62_of hb.2).1, (in62_of hb.2).2⟩, po2 _ rw_rng⟩
      · cases e1
    · cases e1⟩
theorem i_enm {elts : List Expr} {kk : Nat} {tpos : Pos} {a : Expr} {f : FL} {p : Pos} (hg : Gl X "enumerate") (hm : X.mg "enumerate" = none) (ha : PA X [a] (tL X.K S f W)) (hs : starEach [a] X.env = [(false, eval a X.env)]) : PI X (.Tuple elts kk tpos) (.Call (.Name "enumerate" p) [a] [] pos) (tI X.K S (argI enOf f) W) :=
  (pi_enum hg hm ha hs).imp fun σ H R ⟨ρ, e, h, rl, re, po⟩ => ⟨ρ, e, h, rl, re, Po.bind po fun v h1 V H1 ρ1 x1 r1 q1 po1 => by
    obtain ⟨t, e1, po2⟩ := okI_po r1 po1
    unfold enOf at e1
    split at e1
    · split at e1
      · rename_i x n hn
        cases e1
        obtain ⟨rfl, ps, hk⟩ := itOf_lst hn
        unfold RVs at q1
        obtain ⟨x, s, rfl, q1, q2⟩ := q1
        unfold RV at q1
        obtain ⟨a, rfl, ha⟩ := q1
        unfold RVs at q2
        subst q2
        obtain ⟨xs, hx⟩ := lst_now r1 ha hk
        exact ⟨a, xs, rfl, hx, po2 _ (rw_enm ha)⟩
      · cases e1
    · cases e1⟩
theorem i_zip {elts : List Expr} {kk : Nat} {tpos : Pos} {a b : Expr} {f : FL} {p : Pos} (hg : Gl X "zip") (hm : X.mg "zip" = none) (ha : PA X [a, b] (tL X.K S f W)) (hs : starEach [a, b] X.env = (false, eval a X.env) :: starEach [b] X.env) (hpl : (backTo pos (starEach [b] X.env)).any (·.1) = false) :
    PI X (.Tuple elts kk tpos) (.Call (.Name "zip" p) [a, b] [] pos) (tI X.K S (argI zpOf f) W) :=
  (RZ.pi_zipA hg hm ha hs hpl).imp fun σ H R ⟨ρ, e, h, rl, re, po⟩ => ⟨ρ, e, h, rl, re, Po.bind po fun v h1 V H1 ρ1 x1 r1 q1 po1 => by
    obtain ⟨t, e1, po2⟩ := okI_po r1 po1
    unfold zpOf at e1
    split at e1
    · unfold RVs at q1
      obtain ⟨x, s, rfl, q1, q2⟩ := q1
      unfold RVs at q2
      obtain ⟨y, s, rfl, q2, q3⟩ := q2
      unfold RVs at q3
      subst q3
      split at e1
      · rename_i hn hm
        cases e1
        obtain ⟨rfl, ps, hk⟩ := itOf_lst hn
        obtain ⟨rfl, qs, hk2⟩ := itOf_lst hm
        unfold RV at q1 q2
        obtain ⟨a, rfl, ha⟩ := q1
        obtain ⟨b, rfl, hb⟩ := q2
        obtain ⟨xs, hx⟩ := lst_now r1 ha hk
        obtain ⟨ys, hy⟩ := lst_now r1 hb hk2
        exact ⟨a, b, xs, ys, rfl, .inl ⟨hx, hy, po2 _ (rw_zpl ha hb)⟩⟩
      · rename_i hn hm
        cases e1
        have e1 := itOf_tup hn
        have e2 := itOf_tup hm
        subst e1 e2
        unfold RV at q1 q2
        obtain ⟨a, xs, rfl, t1, s1⟩ := q1
        obtain ⟨b, ys, rfl, t2, s2⟩ := q2
        exact ⟨a, b, xs, ys, rfl, .inr ⟨t1.sq, t2.sq, po2 _ (rw_zpt r1 t1 t2 s1 s2)⟩⟩
      · cases e1
    · cases e1⟩
end
end Lf

end
section
set_option Elab.async false
set_option linter.all false
set_option maxRecDepth 100000
set_option autoImplicit false
/-! LfJ: for, while, comprehensions. -/
namespace Lf
open PySem PySem.Spec PyProof.Rows L2

section
variable {X : Cx} {S : Stat} {W : WX} {pos p2 : Pos} {tg : Expr}
theorem s_for {iter : Expr} {body : List Stmt} {f : FI} {g : FT} {b : FS} (hp : PassesOwn (model X.prog X.w) X.A X.env X.xe) (hc : X.calm = true) (hi : PI X tg iter (tI X.K S f W)) (hg : PG X tg (tG X.K S g)) (hb : PSs X body (sS X.K S b W))
    (hs : ∀ x, foldedSetIterable iter X.env x = pure x) : PS X (.For tg iter body [] pos) (sS X.K S (frC f g b) W) :=
  (ps_for hp hc hi hg hb hs).imp fun D σ H ⟨ρ, e, h, rl, re, p⟩ => ⟨ρ, e, h, rl, re, Ps.thn rl re p fun t h1 J H1 ρ1 x1 rl1 rw p1 => by
    have re1 := RE.ext rl x1 re
    clear p re rl x1
    refine ⟨fun i m σ H => ∃ ρ e h, Ext ρ1 H1 ρ H ∧ Rl X.K S ρ h H ∧ RE X.K S ρ H e σ ∧ Ps X.K S ρ H (forL t (frBody g b) m i e h) D W, ⟨_, ρ1, e, h1, Ext.refl, rl1, re1, p1⟩, ?_⟩
    rintro i m σ2 H2 ⟨ρ2, e2, h2, x2, rl2, re2, p2⟩
    obtain ⟨stop, go⟩ := rw ρ2 h2 H2 i x2 rl2
    cases m with
    | zero =>
      unfold forL at p2
      split at p2
      · rename_i he
        exact .inl ⟨stop he, Ps.nx rl2 re2 p2⟩
      · exact p2.elim
    | succ m =>
      unfold forL at p2
      split at p2
      · rename_i he
        exact .inl ⟨stop he, Ps.nx rl2 re2 p2⟩
      · rename_i v he
        obtain ⟨go, item⟩ := go v he
        refine .inr ⟨go, fun σ' H' => ∃ ρ e h, Ext ρ1 H1 ρ H' ∧ Rl X.K S ρ h H' ∧ RE X.K S ρ H' e σ' ∧ Ps X.K S ρ H' (forL t (frBody g b) m (i + 1) e h) D W, fun σ' H' z => ⟨m, Nat.lt_succ_self m, z⟩, fun x H' y => ?_⟩
        obtain ⟨x3, rl3, rv⟩ := item x H' y
        refine ⟨ρ2, e2, h2, v, rl3, RE.ext rl2 x3 re2, rv, ?_⟩
        have p3 := Ps.ext x3 p2
        unfold frBody at p3
        -- the target
        cases ht : g v e2 h2 with
        | ok e4 h4 =>
          rw [ht] at p3
          intro σ4 H4 ρ4 x4 rl4 re4
          refine ⟨ρ4, e4, h4, rl4, re4, ?_⟩
          have p4 := Ps.ext x4 p3
          have x5 := (x2.trans x3).trans x4
          simp only [noExc, Rs.thn] at p4
          cases hbd : b e4 h4 with
          | nx e5 h5 =>
            rw [hbd] at p4
            exact fun σ5 H5 ρ5 x6 r5 q5 => ⟨ρ5, e5, h5, x5.trans x6, r5, q5, Ps.ext x6 p4⟩
          | ct e5 h5 =>
            rw [hbd] at p4
            exact fun σ5 H5 ρ5 x6 r5 q5 => ⟨ρ5, e5, h5, x5.trans x6, r5, q5, Ps.ext x6 p4⟩
          | bk e5 h5 => rw [hbd] at p4; exact p4
          | rt v5 h5 => rw [hbd] at p4; exact p4
          | exc c fs e5 h5 => rw [hbd] at p4; exact p4
          | bad => rw [hbd] at p4; exact p4
        | exc c fs h4 =>
          rw [ht] at p3
          exact p3
        | bad =>
          rw [ht] at p3
          exact p3
      · exact p2.elim⟩
theorem s_while {c : Expr} {body : List Stmt} {f : FE} {b : FS} {n : Nat} (hp : PassesOwn (model X.prog X.w) X.A X.env X.xe) (hc : PT X c (tT X.K S f W)) (hb : PSs X body (sS X.K S b W)) : PS X (.While c body [] pos) (sS X.K S (whlC n f b) W) :=
  (ps_while hp hc hb).imp fun D σ H ⟨ρ, e, h, rl, re, p⟩ => by
    refine ⟨fun m σ H => ∃ ρ e h, Rl X.K S ρ h H ∧ RE X.K S ρ H e σ ∧ Ps X.K S ρ H (whileL (fun e h => asB (f e h)) b m e h) D W, ⟨n, ρ, e, h, rl, re, p⟩, ?_⟩
    clear p re rl
    rintro m σ H ⟨ρ, e, h, rl, re, p⟩
    cases m with
    | zero => exact p.elim
    | succ m =>
      unfold whileL at p
      refine ⟨ρ, e, h, rl, re, Ps.thn (rel := fun _ _ (a b : Bool) => a = b) rl re p fun k h1 k' H1 ρ1 x1 rl1 q1 p1 => ?_⟩
      subst q1
      have re1 := RE.ext rl x1 re
      cases k with
      | false =>
        simp only [Bool.false_eq_true, if_false] at p1 ⊢
        exact Ps.nx rl1 re1 p1
      | true =>
        simp only [if_true] at p1 ⊢
        refine ⟨fun σ' H' => ∃ ρ e h, Rl X.K S ρ h H' ∧ RE X.K S ρ H' e σ' ∧ Ps X.K S ρ H' (whileL (fun e h => asB (f e h)) b m e h) D W, fun σ' H' z => ⟨m, Nat.lt_succ_self m, z⟩, ρ1, e, h1, rl1, re1, ?_⟩
        cases hbd : b e h1 with
        | nx e5 h5 =>
          rw [hbd] at p1
          exact fun σ5 H5 ρ5 x6 r5 q5 => ⟨ρ5, e5, h5, r5, q5, Ps.ext x6 p1⟩
        | ct e5 h5 =>
          rw [hbd] at p1
          exact fun σ5 H5 ρ5 x6 r5 q5 => ⟨ρ5, e5, h5, r5, q5, Ps.ext x6 p1⟩
        | bk e5 h5 => rw [hbd] at p1; exact p1
        | rt v5 h5 => rw [hbd] at p1; exact p1
        | exc c fs e5 h5 => rw [hbd] at p1; exact p1
        | bad => rw [hbd] at p1; exact p1
end

/-! ### comprehensions: a list that grows stands aside -/
section
variable {K : PySem.W.Frag} {S : Stat} {ρ ρ1 : List Addr} {h : Hh} {H H1 : Hp} {D : Addr} {xs ys : List V}
theorem aside_sqT {a : Addr} {zs : List V} {u : HO} (hD : H D = none ∨ H D = some (.lst xs)) (t : SqT K H a zs) : SqT K (upd H D u) a zs := by
  rcases t with (t | ⟨o, t⟩) | t
  · have ne : a ≠ D := by
      rintro rfl
      rcases hD with e | e <;> rw [e] at t <;> cases t
    exact .inl (.inl (by rw [upd_ne ne]; exact t))
  · have ne : a ≠ D := by
      rintro rfl
      rcases hD with e | e <;> rw [e] at t <;> cases t
    exact .inl (.inr ⟨o, by rw [upd_ne ne]; exact t⟩)
  · exact .inr t
theorem aside_sqU {a : Addr} {zs : List V} {u : HO} (hD : H D = none ∨ H D = some (.lst xs)) (t : SqU K H a zs) : SqU K (upd H D u) a zs := by
  rcases t with ⟨o, t, d⟩ | t
  · have ne : a ≠ D := by
      rintro rfl
      rcases hD with e | e <;> rw [e] at t <;> cases t
    exact .inl ⟨o, by rw [upd_ne ne]; exact t, d⟩
  · exact .inr t
theorem aside_sqF {a : Addr} {zs : List V} {u : HO} (hD : H D = none ∨ H D = some (.lst xs)) (t : SqF K H a zs) : SqF K (upd H D u) a zs := by
  rcases t with ⟨o, t⟩ | t
  · have ne : a ≠ D := by
      rintro rfl
      rcases hD with e | e <;> rw [e] at t <;> cases t
    exact .inl ⟨o, by rw [upd_ne ne]; exact t⟩
  · exact .inr t
mutual
theorem aside_rv {u : HO} (hD : H D = none ∨ H D = some (.lst xs)) : ∀ (p : PV) (v : V), RV K S ρ H p v → RV K S ρ (upd H D u) p v
  | .non, _, q => by unfold RV at *; exact q
  | .bl _, _, q => by unfold RV at *; exact q
  | .int _, _, q => by unfold RV at *; exact q
  | .str _, _, q => by unfold RV at *; exact q
  | .tup ps, _, q => by
    unfold RV at *
    obtain ⟨a, zs, e, t, q⟩ := q
    exact ⟨a, zs, e, aside_sqU hD t, aside_rvs hD ps zs q⟩
  | .wt ps, _, q => by
    unfold RV at *
    obtain ⟨a, zs, e, t, q⟩ := q
    exact ⟨a, zs, e, aside_sqT hD t, aside_rvs hD ps zs q⟩
  | .kl ps, _, q => by
    unfold RV at *
    obtain ⟨a, zs, e, t, q⟩ := q
    exact ⟨a, zs, e, aside_sqF hD t, aside_rvs hD ps zs q⟩
  | .ref n, _, q => by unfold RV at *; exact q
  | .ty _, _, q => by unfold RV at *; exact q
  | .fn _, _, q => by unfold RV at *; exact q
theorem aside_rvs {u : HO} (hD : H D = none ∨ H D = some (.lst xs)) : ∀ (ps : List PV) (vs : List V), RVs K S ρ H ps vs → RVs K S ρ (upd H D u) ps vs
  | [], _, q => by unfold RVs at *; exact q
  | p :: ps, _, q => by
    unfold RVs at *
    obtain ⟨y, s, e, q1, q2⟩ := q
    exact ⟨y, s, e, aside_rv hD p y q1, aside_rvs hD ps s q2⟩
end
theorem aside_rf {u : HO} (hD : H D = none ∨ H D = some (.lst xs)) : ∀ (fs : List (Nat × PV)) (vs : List (Str × V)), RF K S ρ H fs vs → RF K S ρ (upd H D u) fs vs
  | [], _, q => by unfold RF at *; exact q
  | (f, p) :: ps, _, q => by
    unfold RF at *
    obtain ⟨y, s, e, q1, q2⟩ := q
    exact ⟨y, s, e, aside_rv hD p y q1, aside_rf hD ps s q2⟩
theorem aside_rx {u : HO} (hD : H D = none ∨ H D = some (.lst xs)) : ∀ (kvs : List (PV × PV)) (es : List Ent), RX K S ρ H kvs es → RX K S ρ (upd H D u) kvs es
  | [], _, q => by unfold RX at *; exact q
  | p :: ps, _, q => by
    unfold RX at *
    obtain ⟨e, s, rfl, ⟨h1, h2, ⟨kV, h3, h4⟩, vV, h5, h6⟩, q2⟩ := q
    exact ⟨e, s, rfl, ⟨h1, h2, ⟨kV, h3, aside_rv hD _ _ h4⟩, vV, h5, aside_rv hD _ _ h6⟩, aside_rx hD ps s q2⟩
theorem aside_rl {u : HO} (hD : H D = none ∨ H D = some (.lst xs)) (hn : D ∉ ρ) (r : Rl K S ρ h H) : Rl K S ρ h (upd H D u) := by
  refine ⟨r.len, r.nd, fun n o a e1 e2 => ?_⟩
  have z := r.ob n o a e1 e2
  have ne : a ≠ D := fun c => hn (c ▸ List.mem_of_getElem? e2)
  have ue : upd H D u a = H a := upd_ne ne
  cases o with
  | lst ps => obtain ⟨xs, e1, q⟩ := z; exact ⟨xs, ue.trans e1, aside_rvs hD _ _ q⟩
  | dic kvs => obtain ⟨es, ys, n, e1, e2, q, d⟩ := z; exact ⟨es, ys, n, ue.trans e1, e2, aside_rx hD _ _ q, d⟩
  | set _ => exact z.elim
  | ins c fs => obtain ⟨C, dx, xs, c1, e1, q⟩ := z; exact ⟨C, dx, xs, c1, ue.trans e1, aside_rf hD _ _ q⟩
theorem aside_re {u : HO} {e : En} {σ : L2.St} (hD : H D = none ∨ H D = some (.lst xs)) (q : RE K S ρ H e σ) : RE K S ρ (upd H D u) e σ :=
  ⟨q.len, fun i p z => let ⟨v, a, b⟩ := q.at_ i p z; ⟨v, a, aside_rv hD p v b⟩⟩
theorem aside_ext {u : HO} (x : Ext ρ H ρ1 H1) (hD : H D = none) : Ext ρ H ρ1 (upd H1 D u) where
  pre := x.pre
  fix := fun a o e n => by
    have ne : a ≠ D := fun z => by rw [z, hD] at e; cases e
    rw [upd_ne ne]; exact x.fix a o e n
  new := x.new
end

/-! ### more addresses -/
section
variable {K : PySem.W.Frag} {S : Stat} {ρ l : List Addr} {h : Hh} {H : Hp}
mutual
theorem more_rv : ∀ (p : PV) (v : V), RV K S ρ H p v → RV K S (ρ ++ l) H p v
  | .non, _, q => by unfold RV at *; exact q
  | .bl _, _, q => by unfold RV at *; exact q
  | .int _, _, q => by unfold RV at *; exact q
  | .str _, _, q => by unfold RV at *; exact q
  | .tup ps, _, q => by
    unfold RV at *
    obtain ⟨a, zs, e, t, q⟩ := q
    exact ⟨a, zs, e, t, more_rvs ps zs q⟩
  | .wt ps, _, q => by
    unfold RV at *
    obtain ⟨a, zs, e, t, q⟩ := q
    exact ⟨a, zs, e, t, more_rvs ps zs q⟩
  | .kl ps, _, q => by
    unfold RV at *
    obtain ⟨a, zs, e, t, q⟩ := q
    exact ⟨a, zs, e, t, more_rvs ps zs q⟩
  | .ref n, _, q => by
    unfold RV at *
    obtain ⟨a, e, q⟩ := q
    exact ⟨a, e, by rw [List.getElem?_append_left (List.getElem?_eq_some_iff.mp q).1]; exact q⟩
  | .ty _, _, q => by unfold RV at *; exact q
  | .fn _, _, q => by unfold RV at *; exact q
theorem more_rvs : ∀ (ps : List PV) (vs : List V), RVs K S ρ H ps vs → RVs K S (ρ ++ l) H ps vs
  | [], _, q => by unfold RVs at *; exact q
  | p :: ps, _, q => by
    unfold RVs at *
    obtain ⟨y, s, e, q1, q2⟩ := q
    exact ⟨y, s, e, more_rv p y q1, more_rvs ps s q2⟩
end
theorem more_rf : ∀ (fs : List (Nat × PV)) (vs : List (Str × V)), RF K S ρ H fs vs → RF K S (ρ ++ l) H fs vs
  | [], _, q => by unfold RF at *; exact q
  | (f, p) :: ps, _, q => by
    unfold RF at *
    obtain ⟨y, s, e, q1, q2⟩ := q
    exact ⟨y, s, e, more_rv p y q1, more_rf ps s q2⟩
theorem more_rx : ∀ (kvs : List (PV × PV)) (es : List Ent), RX K S ρ H kvs es → RX K S (ρ ++ l) H kvs es
  | [], _, q => by unfold RX at *; exact q
  | p :: ps, _, q => by
    unfold RX at *
    obtain ⟨e, s, rfl, ⟨h1, h2, ⟨kV, h3, h4⟩, vV, h5, h6⟩, q2⟩ := q
    exact ⟨e, s, rfl, ⟨h1, h2, ⟨kV, h3, more_rv _ _ h4⟩, vV, h5, more_rv _ _ h6⟩, more_rx ps s q2⟩
theorem more_or {a : Addr} : ∀ (o : Ob), OR K S ρ H a o → OR K S (ρ ++ l) H a o
  | .lst ps, z => by obtain ⟨xs, e1, q⟩ := z; exact ⟨xs, e1, more_rvs _ _ q⟩
  | .dic kvs, z => by obtain ⟨es, ys, n, e1, e2, q, d⟩ := z; exact ⟨es, ys, n, e1, e2, more_rx _ _ q, d⟩
  | .set _, z => z.elim
  | .ins c fs, z => by obtain ⟨C, dx, xs, c1, e1, q⟩ := z; exact ⟨C, dx, xs, c1, e1, more_rf _ _ q⟩
/-- a list that stood aside joins -/
theorem Rl.join {D : Addr} {qs : List PV} {acc : List V} (r : Rl K S ρ h H) (hn : D ∉ ρ) (hD : H D = some (.lst acc)) (q : RVs K S ρ H qs acc) : Rl K S (ρ ++ [D]) (h ++ [.lst qs]) H := by
  refine ⟨by simp [r.len], ?_, fun n o a e1 e2 => ?_⟩
  · rw [List.nodup_append]
    exact ⟨r.nd, by simp, fun a ha b hb e => by simp at hb; subst hb; subst e; exact hn ha⟩
  · by_cases hl : n < h.length
    · rw [List.getElem?_append_left hl] at e1
      rw [List.getElem?_append_left (by rw [r.len]; exact hl)] at e2
      exact more_or _ (r.ob n o a e1 e2)
    · have hl' : n = h.length := by
        have := (List.getElem?_eq_some_iff.mp e1).1
        simp at this
        omega
      subst hl'
      have e1' : o = .lst qs := by simpa using e1.symm
      have e2' : D = a := by
        rw [← r.len] at e2
        simpa using e2
      subst e1' e2'
      exact ⟨acc, hD, more_rvs _ _ q⟩
theorem Ext.join {ρ1 : List Addr} {H1 : Hp} {D : Addr} (x : Ext ρ1 H1 ρ H) (hD : H1 D = none) : Ext ρ1 H1 (ρ ++ [D]) H where
  pre := by obtain ⟨l, rfl⟩ := x.pre; exact ⟨l ++ [D], by simp⟩
  fix := x.fix
  new := fun a hm n => by
    rcases List.mem_append.mp hm with hm | hm
    · exact x.new a hm n
    · simp at hm; rw [hm]; exact hD
end
/-! ### targets that write names alone -/
/-- only the slots of ws are changed -/
def Ch (ws : List Nat) (σ σ' : L2.St) : Prop := σ'.length = σ.length ∧ ∀ i, i ∉ ws → σ'[i]? = σ[i]?
theorem Ch.refl {ws : List Nat} {σ : L2.St} : Ch ws σ σ := ⟨rfl, fun _ _ => rfl⟩
theorem Ch.trans {ws : List Nat} {σ σ1 σ2 : L2.St} (a : Ch ws σ σ1) (b : Ch ws σ1 σ2) : Ch ws σ σ2 := ⟨b.1.trans a.1, fun i h => (b.2 i h).trans (a.2 i h)⟩
theorem Ch.mono {ws vs : List Nat} {σ σ1 : L2.St} (a : Ch ws σ σ1) (h : ∀ i ∈ ws, i ∈ vs) : Ch vs σ σ1 := ⟨a.1, fun i z => a.2 i fun w => z (h i w)⟩
theorem wipe_get {σ : L2.St} {i : Nat} : ∀ {vs : List Nat}, (wipe σ vs)[i]? = if i ∈ vs then (if i < σ.length then some none else none) else σ[i]?
  | [] => by simp [wipe]
  | v :: vs => by
    unfold wipe
    by_cases e : v = i
    · subst e
      by_cases hl : v < σ.length
      · rw [List.getElem?_set_self (by rw [wipe_length]; exact hl)]
        simp [hl]
      · rw [List.getElem?_eq_none (by rw [List.length_set, wipe_length]; omega)]
        simp [hl]
    · rw [List.getElem?_set_ne e, wipe_get]
      have : i ≠ v := fun z => e z.symm
      simp [this]
theorem Ch.wipe {vs : List Nat} {σ σ2 : L2.St} (c : Ch vs (wipe σ vs) σ2) : wipe σ2 vs = wipe σ vs := by
  apply List.ext_getElem?
  intro i
  have hl : σ2.length = σ.length := by rw [c.1, wipe_length]
  rw [wipe_get, wipe_get]
  split
  · rw [hl]
  · rename_i h
    rw [c.2 i h, wipe_get, if_neg h]
section
variable {X : Cx} {S : Stat} {W : WX} {pos p2 : Pos} {tg : Expr}
def RC (K : PySem.W.Frag) (S : Stat) (ws : List Nat) (σ : L2.St) (ρ : List Addr) (H : Hp) (e : En) (σ' : L2.St) : Prop := RE K S ρ H e σ' ∧ Ch ws σ σ'
def tGw (K : PySem.W.Frag) (S : Stat) (ws : List Nat) (f : FT) : TG := fun v σ H Q => ∃ ρ e h p, Rl K S ρ h H ∧ RE K S ρ H e σ ∧ RV K S ρ H p v ∧ Pk K S (RC K S ws σ) ρ H (f p e h) Q
def tGsw (K : PySem.W.Frag) (S : Stat) (ws : List Nat) (f : FTs) : TGs := fun vs σ H Q => ∃ ρ e h ps, Rl K S ρ h H ∧ RE K S ρ H e σ ∧ RVs K S ρ H ps vs ∧ Pk K S (RC K S ws σ) ρ H (f ps e h) Q
theorem Pk.rel {α β : Type} {K : PySem.W.Frag} {rel rel2 : List Addr → Hp → α → β → Prop} {ρ : List Addr} {H : Hp} {m : Rs α} {Q : β → Hp → Prop} (p : Pk K S rel ρ H m Q) (h : ∀ ρ H a b, rel2 ρ H a b → rel ρ H a b) : Pk K S rel2 ρ H m Q := by
  cases m with
  | ok v h1 => exact fun V H' ρ' y r q => p V H' ρ' y r (h _ _ _ _ q)
  | exc c fs h => exact p
  | bad => exact p
/-- .. as any target -/
theorem t_of {ws : List Nat} {f : FT} (h : PG X tg (tGw X.K S ws f)) : PG X tg (tG X.K S f) := h.imp fun v σ H Q ⟨ρ, e, h, p, rl, re, rp, k⟩ => ⟨ρ, e, h, p, rl, re, rp, k.rel fun _ _ _ _ z => z.1⟩
theorem w_mono {ws vs : List Nat} {f : FT} (h : PG X tg (tGw X.K S ws f)) (hs : ∀ i ∈ ws, i ∈ vs) : PG X tg (tGw X.K S vs f) := h.imp fun v σ H Q ⟨ρ, e, h, p, rl, re, rp, k⟩ => ⟨ρ, e, h, p, rl, re, rp, k.rel fun _ _ _ _ z => ⟨z.1, z.2.mono hs⟩⟩
theorem w_name {i : Nat} {x : Str} (hN : X.N.Nodup) (hi : X.N[i]? = some x) (hx : Loc X.env.scope x) (hf : X.fn x = true ∨ X.env.scope.names.lookup x = some .local) : PG X (.Name x pos) (tGw X.K S [i] (tnC i)) :=
  (pg_name hN hi hx hf).imp fun v σ H Q ⟨ρ, e, h, p, rl, re, rp, k⟩ => k _ _ _ Ext.refl rl ⟨re.set rp, by simp, fun j hj => List.getElem?_set_ne (by simpa using Ne.symm (by simpa using hj))⟩
theorem w_nil {ws : List Nat} : PGs X [] (tGsw X.K S ws tnilC) := pgs_nil.imp fun vs σ H Q ⟨ρ, e, h, ps, rl, re, rp, k⟩ => by
  unfold tnilC at k
  split at k
  · unfold RVs at rp
    exact ⟨rp, k _ _ _ Ext.refl rl ⟨re, Ch.refl⟩⟩
  · exact k.elim
theorem w_cons {a : Expr} {es : List Expr} {ws : List Nat} {f : FT} {g : FTs} (h1 : PG X a (tGw X.K S ws f)) (h2 : PGs X es (tGsw X.K S ws g)) (hs : (assignEach (a :: es) X.env).map (·.2) = assign a X.env :: (assignEach es X.env).map (·.2)) : PGs X (a :: es) (tGsw X.K S ws (tconsC f g)) :=
  (pgs_cons h1 h2 hs).imp fun vs σ H Q ⟨ρ, e, h, ps, rl, re, rp, k⟩ => by
    unfold tconsC at k
    split at k
    · rename_i p ps
      unfold RVs at rp
      obtain ⟨x, s, rfl, r1, r2⟩ := rp
      exact ⟨x, s, rfl, ρ, e, h, p, rl, re, r1, Pk.bind k fun e1 h1 σ1 H1 ρ1 x1 rl1 q1 k1 => ⟨ρ1, e1, h1, ps, rl1, q1.1, RVs.ext rl x1 _ _ r2, k1.rel fun _ _ _ _ z => ⟨z.1, q1.2.trans z.2⟩⟩⟩
    · exact k.elim
theorem tt_cases {K : PySem.W.Frag} {rel : List Addr → Hp → En → L2.St → Prop} {ρ : List Addr} {h : Hh} {H : Hp} {p : PV} {v : V} {g : FTs} {e : En} {Q : L2.St → Hp → Prop} (rp : RV K S ρ H p v) (k : Pk K S rel ρ H (ttC g p e h) Q) :
    ∃ ps a xs, v = .ref a ∧ SqT K H a xs ∧ RVs K S ρ H ps xs ∧ Pk K S rel ρ H (g ps e h) Q := by
  unfold ttC at k
  split at k
  · rename_i ps
    unfold RV at rp
    obtain ⟨a, xs, rfl, t, r⟩ := rp
    exact ⟨ps, a, xs, rfl, t.sq, r, k⟩
  · rename_i ps
    unfold RV at rp
    obtain ⟨a, xs, rfl, t, r⟩ := rp
    exact ⟨ps, a, xs, rfl, t, r, k⟩
  · exact k.elim
theorem w_tup {es : List Expr} {kk n : Nat} {ws : List Nat} {g : FTs} (hc : X.calm = true) (h : PGs X es (tGsw X.K S ws g)) (hn : (assignEach es X.env).length = n) (hst : (assignEach es X.env).findIdx? (·.1) = none)
    (hlen : ∀ ps e h, ps.length ≠ n → ∀ z k, g ps e h ≠ .ok z k) : PG X (.Tuple es kk pos) (tGw X.K S ws (ttC g)) :=
  (pg_tup hc h hn hst).imp fun v σ H Q ⟨ρ, e, h, p, rl, re, rp, k⟩ => by
    obtain ⟨ps, a, xs, rfl, t, r, k⟩ := tt_cases rp k
    refine ⟨a, xs, rfl, t, ?_, ρ, e, h, ps, rl, re, r, k⟩
    apply Classical.byContradiction
    intro z
    have := hlen ps e h (by rw [r.length]; exact z)
    cases hg : g ps e h with
    | ok z k => exact this z k hg
    | exc c fs h => rw [hg] at k; exact k
    | bad => rw [hg] at k; exact k
/-- what no exception leaves -/
def WNo : WX := fun _ _ _ _ => False
theorem tt_yes {σ : L2.St} {H : Hp} {Q : Bool → Hp → Prop} (hq : tT X.K S (conC (.bl true)) WNo σ H Q) : tYes σ H Q := by
  obtain ⟨ρ, e, h, rl, re, po⟩ := hq
  exact Po.done rl rfl po
theorem ptsImp {ifs : List Expr} {t t' : TT} (p : PTs X ifs t) (h : ∀ σ H Q, t' σ H Q → t σ H Q) : PTs X ifs t' := ⟨fun pins s σ H Q I q => p.run pins s σ H Q I (h _ _ _ q)⟩
theorem ts_none : PTs X [] (tT X.K S (conC (.bl true)) WNo) := ptsImp pts_nil fun σ H Q h => tt_yes h
theorem ts_one {c : Expr} {f : FE} (h : PT X c (tT X.K S f WNo)) : PTs X [c] (tT X.K S f WNo) := pts_one h
/-- the reading of a comprehension -/
theorem lc_imp {K : PySem.W.Frag} {it : FI} {g : FT} {cd el : FE} {vs : List Nat} {σ : L2.St} {H : Hp} {Q : VK} (hq : tE K S (lcC it g cd el vs) W σ H Q) : tLc (tI K S it W) (tGw K S vs g) (tT K S cd WNo) (tE K S el WNo) vs σ H Q := by
  obtain ⟨ρ, e, h, rl, re, po⟩ := hq
  refine ⟨ρ, e, h, rl, re, Pk.po (Po.noExc (Po.bind po fun t h1 J H1 ρ1 x1 rl1 rw po1 => ?_))⟩
  intro D hD
  have re1 := RE.ext rl x1 re
  clear po re rl x1
  have hnD : D ∉ ρ1 := fun hm => by
    obtain ⟨_, _, _, _, z⟩ := rl1.get hm
    obtain ⟨u, e1, _⟩ := z.some
    rw [hD] at e1; cases e1
  -- the items to come, on top of those that stand
  refine ⟨fun i m H => ∃ ρ h acc qs, Ext ρ1 H1 ρ H ∧ D ∉ ρ ∧ H D = some (.lst acc) ∧ Rl K S ρ h H ∧ RE K S ρ H (wip e vs) (wipe σ vs) ∧ RVs K S ρ H qs acc ∧ Po K S (RV K S) ρ1 H1 ((noExc (lcL t (lcStep g cd el (wip e vs)) m i h)).bind fun ys h => newL (qs ++ ys) h) Q (At W σ), ⟨t.most h1, ?_⟩, ?_⟩
  · exact ⟨ρ1, h1, [], [], aside_ext Ext.refl hD, hnD, upd_same, aside_rl (xs := []) (.inl hD) hnD rl1, aside_re (xs := []) (.inl hD) re1.wip, RVs.nil, by simpa using po1⟩
  · rintro i m H2 ⟨ρ2, h2, acc, qs, x2, hn2, hD2, rl2, re2, rq, po2⟩
    obtain ⟨stop, go⟩ := rw ρ2 h2 H2 i x2 rl2
    have fin : Po K S (RV K S) ρ1 H1 (newL qs h2) Q (At W σ) → Q (.ref D) H2 := by
      intro po3
      unfold newL at po3
      split at po3
      · exact po3 (.ref D) H2 (ρ2 ++ [D]) (Ext.join x2 hD) (Rl.join rl2 hn2 hD2 rq) (by unfold RV; exact ⟨D, rfl, by rw [← rl2.len]; simp⟩)
      · exact po3.elim
    cases m with
    | zero =>
      unfold lcL at po2
      split at po2
      · rename_i he
        exact .inl ⟨stop he, fin (by simpa [noExc, Rs.bind] using po2)⟩
      · exact po2.elim
    | succ m =>
      unfold lcL at po2
      split at po2
      · rename_i he
        exact .inl ⟨stop he, fin (by simpa [noExc, Rs.bind] using po2)⟩
      · rename_i v he
        obtain ⟨go, item⟩ := go v he
        refine .inr ⟨go, fun H => ∃ ρ h acc qs, Ext ρ1 H1 ρ H ∧ D ∉ ρ ∧ H D = some (.lst acc) ∧ Rl K S ρ h H ∧ RE K S ρ H (wip e vs) (wipe σ vs) ∧ RVs K S ρ H qs acc ∧ Po K S (RV K S) ρ1 H1 ((noExc (lcL t (lcStep g cd el (wip e vs)) m (i + 1) h)).bind fun ys h => newL (qs ++ ys) h) Q (At W σ),
          fun H' z => ⟨m, Nat.lt_succ_self m, z⟩, fun x H' y => ?_⟩
        obtain ⟨x3, rl3, rv⟩ := item x H' y
        have keep : ∀ {ρ' : List Addr} {H' : Hp}, Ext ρ2 H2 ρ' H' → D ∉ ρ' ∧ H' D = some (.lst acc) := fun {ρ' H'} x => ⟨fun hm => (by
          have := x.new D hm hn2
          rw [hD2] at this; cases this), x.fix D _ hD2 hn2⟩
        have rl2' := rl2
        have re3 := RE.ext rl2 x3 re2
        refine ⟨ρ2, wip e vs, h2, v, rl3, re3, rv, ?_⟩
        -- the step
        cases hst : lcStep g cd el (wip e vs) v h2 with
        | exc c fs h4 => rw [hst] at po2; exact po2.elim
        | bad => rw [hst] at po2; exact po2.elim
        | ok o h4 =>
          rw [hst] at po2
          unfold lcStep at hst
          cases hg : g v (wip e vs) h2 with
          | exc c fs h5 => rw [hg] at hst; cases hst
          | bad => rw [hg] at hst; cases hst
          | ok e5 h5 =>
            rw [hg] at hst
            intro σ5 H5 ρ5 x5 rl5 ⟨re5, ch⟩
            refine ⟨ch.wipe, ρ5, e5, h5, rl5, re5, ?_⟩
            simp only at hst
            cases hc : asB (cd e5 h5) with
            | exc c fs h6 => rw [hc] at hst; cases hst
            | bad => rw [hc] at hst; cases hst
            | ok b h6 =>
              rw [hc] at hst
              intro b' H6 ρ6 x6 rl6 eb
              subst eb
              have x26 := (x3.trans x5).trans x6
              cases b with
              | false =>
                simp only at hst
                cases hst
                obtain ⟨k1, k2⟩ := keep x26
                simp only [Bool.false_eq_true, if_false]
                refine ⟨ρ6, h4, acc, qs, x2.trans x26, k1, k2, rl6, RE.ext rl2 x26 re2, RVs.ext rl2 x26 _ _ rq, ?_⟩
                cases hl : lcL t (lcStep g cd el (wip e vs)) m (i + 1) h4 with
                | ok ys h7 => simp only [Rs.bind, hl] at po2; exact po2
                | exc c fs h7 => simp only [Rs.bind, hl] at po2; exact po2.elim
                | bad => simp only [Rs.bind, hl] at po2; exact po2.elim
              | true =>
                simp only at hst
                simp only [if_true]
                cases hy : el e5 h6 with
                | exc c fs h7 => rw [hy] at hst; cases hst
                | bad => rw [hy] at hst; cases hst
                | ok z h7 =>
                  rw [hy] at hst
                  cases hst
                  refine ⟨ρ6, e5, h6, rl6, RE.ext rl5 x6 re5, ?_⟩
                  rw [hy]
                  intro V H7 ρ7 x7 rl7 rz
                  have x27 := x26.trans x7
                  obtain ⟨k1, k2⟩ := keep x27
                  cases hl : lcL t (lcStep g cd el (wip e vs)) m (i + 1) h4 with
                  | exc c fs h8 => simp only [Rs.bind, hl] at po2; exact po2.elim
                  | bad => simp only [Rs.bind, hl] at po2; exact po2.elim
                  | ok ys h8 =>
                    simp only [Rs.bind, hl] at po2
                    have po3 : Po K S (RV K S) ρ1 H1 (newL (qs ++ z :: ys) h8) Q (At W σ) := po2
                    have rq7 := RVs.ext rl2 x27 _ _ rq
                    have hlen : acc.length < sizeLine := by
                      unfold newL at po3
                      split at po3
                      · rename_i hb
                        have := Nat.le_of_ble_eq_true hb
                        rw [← szL_eq, ← rq.length]
                        simp at this
                        omega
                      · exact po3.elim
                    refine ⟨acc, k2, hlen, ρ7, h4, acc ++ [V], qs ++ [z], aside_ext (x2.trans x27) hD, k1, upd_same, aside_rl (xs := acc) (.inr k2) k1 rl7, aside_re (xs := acc) (.inr k2) (RE.ext rl2 x27 re2), aside_rvs (xs := acc) (.inr k2) _ _ (rq7.append (RVs.cons rz RVs.nil)), ?_⟩
                    rw [hl]
                    show Po K S (RV K S) ρ1 H1 (newL ((qs ++ [z]) ++ ys) h8) Q (At W σ)
                    simpa using po3
      · exact po2.elim
theorem g_lc {elt iter : Expr} {ifs : List Expr} {scope : Scope} {own : List (Str × Nat)} {it : FI} {g : FT} {cd el : FE} (hc : X.calm = true) (hN : X.N.Nodup) (hi : PI X tg iter (tI X.K S it W)) (ok : BlkOk X.N X.env.scope scope own)
    (hg : ∀ (s : Shared) (H : Hp) (C : Addr) (cl : List (Str × Addr)) (fp : List Addr), PG (X.blk s H scope (compEnvC scope cl C X.env) fp) tg (tGw X.K S (own.map (·.2)) g)) (ht : ∀ (s : Shared) (H : Hp) (C : Addr) (cl : List (Str × Addr)) (fp : List Addr), PTs (X.blk s H scope (compEnvC scope cl C X.env) fp) ifs (tT X.K S cd WNo))
    (he : ∀ (s : Shared) (H : Hp) (C : Addr) (cl : List (Str × Addr)) (fp : List Addr), PE (X.blk s H scope (compEnvC scope cl C X.env) fp) elt (tE X.K S el WNo)) (hs : ∀ x, foldedSetIterable iter X.env x = pure x) :
    PE X (.ListComp elt [⟨tg, iter, ifs, 0⟩] scope pos) (tE X.K S (lcC it g cd el (own.map (·.2))) W) :=
  (pe_lc hc hN hi ok hg ht he hs).imp fun σ H Q h => lc_imp h
theorem s_setLc {i : Nat} {y : Str} {py : Pos} {spos : Pos} {elt iter : Expr} {ifs : List Expr} {scope : Scope} {own : List (Str × Nat)} {it : FI} {g : FT} {cd el : FE} (hc : X.calm = true) (hN : X.N.Nodup) (hy : X.N[i]? = some y) (hyl : X.env.scope.names.lookup y = some .local)
    (hsw : swapsWith (.ListComp elt [⟨tg, iter, ifs, 0⟩] scope pos) (some (.Name y py)) spos.line X.env = pure true) (hi : PI X tg iter (tI X.K S it W)) (ok : BlkOk X.N X.env.scope scope own)
    (hg : ∀ (s : Shared) (H : Hp) (C : Addr) (cl : List (Str × Addr)) (fp : List Addr), PG (X.blk s H scope (compEnvC scope cl C X.env) fp) tg (tGw X.K S (own.map (·.2)) g)) (ht : ∀ (s : Shared) (H : Hp) (C : Addr) (cl : List (Str × Addr)) (fp : List Addr), PTs (X.blk s H scope (compEnvC scope cl C X.env) fp) ifs (tT X.K S cd WNo))
    (he : ∀ (s : Shared) (H : Hp) (C : Addr) (cl : List (Str × Addr)) (fp : List Addr), PE (X.blk s H scope (compEnvC scope cl C X.env) fp) elt (tE X.K S el WNo)) (hs : ∀ x, foldedSetIterable iter X.env x = pure x) :
    PS X (.Assign [.Name y py] (.ListComp elt [⟨tg, iter, ifs, 0⟩] scope pos) spos) (sS X.K S (asgC (tnC i) (lcC it g cd el (own.map (·.2)))) W) :=
  (ps_setLc hc hN hy hyl hsw hi ok hg ht he hs).imp fun D σ H ⟨ρ, e, h, rl, re, p⟩ => lc_imp ⟨ρ, e, h, rl, re, Ps.thn rl re p fun v h1 V H1 ρ1 x1 r1 q1 p1 => Ps.nx r1 ((RE.ext rl x1 re).set q1) p1⟩
end
end Lf

end
section
set_option Elab.async false
set_option linter.all false
set_option maxRecDepth 100000
set_option autoImplicit false
/-! LfK: does a text say what a program of the small language says? -/
namespace Lf
open PySem PySem.Spec PyProof.Rows L2

inductive GK where
  | fn (i : Nat)
  deriving DecidableEq
structure Gam where
  N : List Str
  sc : Scope
  fnv : Str → Bool
  gl : List (Str × GK)
def ixS (N : List Str) (i : Nat) (x : Str) : Bool := match N[i]? with
  | some y => strEq y x
  | none => false
def lookS {α : Type} (x : Str) : List (Str × α) → Option α
  | [] => none
  | (y, a) :: r => if strEq x y then some a else lookS x r
theorem ixS_of {N : List Str} {i : Nat} {x : Str} (h : ixS N i x = true) : N[i]? = some x := by
  unfold ixS at h
  split at h
  · rename_i y hy
    rw [hy, strEq_iff.mp h]
  · cases h
theorem lookS_eq {α : Type} {x : Str} : ∀ {l : List (Str × α)}, lookS x l = l.lookup x
  | [] => rfl
  | (y, a) :: r => by
    unfold lookS
    rw [List.lookup_cons]
    by_cases e : x = y
    · subst e
      rw [if_pos (strEq_iff.mpr rfl)]
      simp
    · rw [if_neg (fun z => e (strEq_iff.mp z)), lookS_eq]
      have : (x == y) = false := by simpa using e
      rw [this]
def visB (sc : Scope) (x : Str) : Bool := match lookS x sc.names with
  | some .local => true
  | some .cell => true
  | some .free => true
  | _ => false
def locB (sc : Scope) (x : Str) : Bool := match lookS x sc.names with
  | some .local => true
  | some .cell => true
  | _ => false
def lclB (sc : Scope) (x : Str) : Bool := match lookS x sc.names with
  | some .local => true
  | _ => false
def glB (sc : Scope) (x : Str) : Bool := match lookS x sc.names with
  | some .globalImplicit => true
  | _ => false
theorem visB_of {sc : Scope} {x : Str} (h : visB sc x = true) : Vis sc x := by
  unfold visB at h
  rw [lookS_eq] at h
  unfold Vis
  split at h <;> first | (simp [*]; done) | cases h
theorem locB_of {sc : Scope} {x : Str} (h : locB sc x = true) : L2.Loc sc x := by
  unfold locB at h
  rw [lookS_eq] at h
  unfold L2.Loc
  split at h <;> first | (simp [*]; done) | cases h
theorem lclB_of {sc : Scope} {x : Str} (h : lclB sc x = true) : sc.names.lookup x = some .local := by
  unfold lclB at h
  rw [lookS_eq] at h
  split at h <;> first | assumption | cases h
theorem glB_of {sc : Scope} {x : Str} (h : glB sc x = true) : sc.names.lookup x = some .globalImplicit := by
  unfold glB at h
  rw [lookS_eq] at h
  split at h <;> first | assumption | cases h
/-- a text by its codes -/
def isC (x : Str) (l : List Nat) : Bool := natsEq x.cps.toList l
theorem isC_of {x y : Str} {l : List Nat} (hy : y.cps.toList = l) (h : isC x l = true) : x = y := by
  unfold isC at h
  rw [← hy] at h
  exact strEq_iff.mp h
theorem isC_not {x y : Str} {l : List Nat} (hy : y.cps.toList = l) (h : isC x l = false) : (x == y) = false := by
  rw [beq_eq_false_iff_ne]
  rintro rfl
  unfold isC at h
  rw [hy, natsEq_iff.mpr rfl] at h
  cases h
def cDebug : List Nat := [95, 95, 100, 101, 98, 117, 103, 95, 95]
def cClassdict : List Nat := [95, 95, 99, 108, 97, 115, 115, 100, 105, 99, 116, 95, 95]
def cName : List Nat := [95, 95, 110, 97, 109, 101, 95, 95]
def cSuper : List Nat := [115, 117, 112, 101, 114]
def cRange : List Nat := [114, 97, 110, 103, 101]
def cEnum : List Nat := [101, 110, 117, 109, 101, 114, 97, 116, 101]
def cZip : List Nat := [122, 105, 112]
def cAppend : List Nat := [97, 112, 112, 101, 110, 100]
theorem eDebug : ("__debug__" : Str).cps.toList = cDebug := by decide +kernel
theorem eClassdict : ("__classdict__" : Str).cps.toList = cClassdict := by decide +kernel
theorem eName : ("__name__" : Str).cps.toList = cName := by decide +kernel
theorem eSuper : ("super" : Str).cps.toList = cSuper := by decide +kernel
theorem eRange : ("range" : Str).cps.toList = cRange := by decide +kernel
theorem eEnum : ("enumerate" : Str).cps.toList = cEnum := by decide +kernel
theorem eZip : ("zip" : Str).cps.toList = cZip := by decide +kernel
def cGet : List Nat := [103, 101, 116]
theorem eGet : ("get" : Str).cps.toList = cGet := by decide +kernel
theorem eAppend : ("append" : Str).cps.toList = cAppend := by decide +kernel

/-! ### what a form is not -/
def notStar : Expr → Bool
  | .Starred .. => false
  | _ => true
def noStars : List Expr → Bool
  | [] => true
  | e :: r => notStar e && noStars r
theorem star_cons {e : Expr} {es : List Expr} {env : Env} (h : notStar e = true) : starEach (e :: es) env = (false, eval e env) :: starEach es env := by
  cases e <;> first | rfl | cases h
theorem star_none {pos : Pos} : ∀ {es : List Expr} {env : Env}, noStars es = true → (backTo pos (starEach es env)).any (·.1) = false
  | [], _, _ => rfl
  | e :: es, env, h => by
    simp only [noStars, Bool.and_eq_true] at h
    rw [star_cons h.1]
    have := star_none (pos := pos) (env := env) h.2
    simp only [backTo, List.map_cons, List.any_cons, Bool.false_or] at this ⊢
    exact this
theorem star_few {pos : Pos} : ∀ {es : List Expr} {env : Env}, noStars es = true → (backTo pos (starEach es env)).all (fun x => !x.1) = true
  | [], _, _ => rfl
  | e :: es, env, h => by
    simp only [noStars, Bool.and_eq_true] at h
    rw [star_cons h.1]
    have := star_few (pos := pos) (env := env) h.2
    simp only [backTo, List.map_cons, List.all_cons, Bool.not_false, Bool.true_and] at this ⊢
    exact this
theorem asg_cons {e : Expr} {es : List Expr} {env : Env} (h : notStar e = true) : assignEach (e :: es) env = (false, assign e env) :: assignEach es env := by
  cases e <;> first | rfl | cases h
theorem asg_len : ∀ {es : List Expr} {env : Env}, noStars es = true → (assignEach es env).length = es.length
  | [], _, _ => rfl
  | e :: es, env, h => by
    simp only [noStars, Bool.and_eq_true] at h
    rw [asg_cons h.1, List.length_cons, List.length_cons, asg_len h.2]
theorem asg_idx : ∀ {es : List Expr} {env : Env}, noStars es = true → (assignEach es env).findIdx? (·.1) = none
  | [], _, _ => rfl
  | e :: es, env, h => by
    simp only [noStars, Bool.and_eq_true] at h
    rw [asg_cons h.1, List.findIdx?_cons, asg_idx h.2]
    rfl
def notSet : Expr → Bool
  | .Set .. => false
  | _ => true
theorem fold_no {e : Expr} {env : Env} (h : notSet e = true) : ∀ x, foldedSetIterable e env x = pure x := by
  intro x
  cases e <;> first | rfl | cases h
theorem marks_no {o : CmpOp} {e : Expr} (h : notSet e = true) : behindInMarks o e = false := by
  cases e <;> first | rfl | cases h
def notSlice : Expr → Bool
  | .Slice .. => false
  | _ => true
theorem plain_ix {e : Expr} (h : notSlice e = true) : PlainIx e := by
  intro o i
  cases e <;> first | rfl | cases h
def notComp : Expr → Bool
  | .ListComp .. => false
  | .SetComp .. => false
  | .DictComp .. => false
  | _ => true
theorem swaps_no {e : Expr} {t : Option Expr} {l : Nat} {env : Env} (h : notComp e = true) : swapsWith e t l env = pure false := by
  cases e <;> first | rfl | cases h
def isName : Expr → Bool
  | .Name .. => true
  | _ => false
theorem swaps_tg {e t : Expr} {l : Nat} {env : Env} (h : isName t = false) : swapsWith e (some t) l env = pure false := by
  cases e <;> first | rfl | (cases t <;> first | rfl | cases h)
/-- truth is asked of the value -/
def plainT : Expr → Bool
  | .UnaryOp .Not .. => false
  | .BoolOp .. => false
  | .IfExp .. => false
  | .Compare .. => false
  | _ => true
theorem true_val {e : Expr} {env : Env} (h : plainT e = true) : ∀ whole, isTrue e env whole = (do let v ← whole; standAt e.pos; holding [v] (truthy v)) := by
  intro whole
  cases e with
  | UnaryOp o _ _ => cases o <;> first | rfl | cases h
  | _ => first | rfl | cases h
/-- no super() stands ahead of the dot -/
def notCall : Expr → Bool
  | .Call .. => false
  | _ => true
theorem base_no {o : Expr} {m : Str} {env : Env} {w : Sem Value} (h : notCall o = true) : attributeBase o m env w = w := by
  cases o <;> first | rfl | cases h
/-- no super() stands ahead of the dot; a call with arguments may -/
def notCallG : Expr → Bool
  | .Call (.Name _ _) [] [] _ => false
  | _ => true
theorem base_noG {o : Expr} {m : Str} {env : Env} {w : Sem Value} (h : notCallG o = true) : attributeBase o m env w = w := by
  unfold attributeBase
  split
  · cases h
  · rfl
def isTup : Expr → Bool
  | .Tuple .. => true
  | _ => false
/-- a, b = v: no stores exchanged -/
theorem stores_no {t e : Expr} {env : Env} (h : isTup e = false ∨ (isTup t = false ∧ ∀ es p, t ≠ .List es p)) : swappedStores [t] e env = pure none := by
  rcases h with h | ⟨h, h2⟩
  · cases e <;> first | (cases t <;> rfl) | cases h
  · cases t <;> first | rfl | (exact absurd rfl (h2 _ _)) | cases h
theorem asg_one {t : Expr} {env : Env} (h : notStar t = true) : (assignEach [t] env).map (·.2) = [assign t env] := by
  rw [asg_cons h]
  rfl
theorem asg_map {t : Expr} {ts : List Expr} {env : Env} (h : notStar t = true) : (assignEach (t :: ts) env).map (·.2) = assign t env :: (assignEach ts env).map (·.2) := by
  rw [asg_cons h]
  rfl
end Lf

end
section
set_option Elab.async false
set_option linter.all false
set_option maxRecDepth 100000
set_option autoImplicit false
/-! LfL: the check of a text against a program of the small language. -/
namespace Lf
open PySem PySem.Spec PyProof.Rows L2

def binK : Operator → Op → Bool
  | .Add, .add => true
  | .Sub, .sub => true
  | .Mult, .mul => true
  | .Mod, .mod => true
  | .FloorDiv, .fdv => true
  | .Pow, .pow => true
  | _, _ => false
def cmpK : CmpOp → Op → Bool
  | .Eq, .eq => true
  | .NotEq, .ne => true
  | .Lt, .lt => true
  | .LtE, .le => true
  | .Gt, .gt => true
  | .GtE, .ge => true
  | .Is, .isN => true
  | .IsNot, .isnN => true
  | .In, .mem => true
  | .NotIn, .nmem => true
  | _, _ => false
def biC1 : Bi → Option (List Nat)
  | .len => some [108, 101, 110]
  | .tuple => some [116, 117, 112, 108, 101]
  | .list => some [108, 105, 115, 116]
  | .int => some [105, 110, 116]
  | .abs => some [97, 98, 115]
  | .max2 => some [109, 97, 120]
  | .min2 => some [109, 105, 110]
  | .dict => some [100, 105, 99, 116]
  | _ => none
def biIs (f : Bi) (x : Str) : Bool := match biC1 f with
  | some l => isC x l
  | none => false
def Gam.blk (Γ : Gam) (scope : Scope) : Gam := { Γ with sc := relS scope Γ.sc, fnv := fun x => scope.names.lookup x == some .cell }
def ownN (N : List Str) : List Nat → Option (List (Str × Nat))
  | [] => some []
  | i :: r => match N[i]?, ownN N r with
    | some x, some l => some ((x, i) :: l)
    | _, _ => none
theorem ownN_map {N : List Str} : ∀ {w : List Nat} {l : List (Str × Nat)}, ownN N w = some l → l.map (·.2) = w
  | [], l, h => by cases h; rfl
  | i :: r, l, h => by
    unfold ownN at h
    split at h
    · rename_i x m h1 h2
      cases h
      rw [List.map_cons, ownN_map h2]
    · cases h
mutual
/-- a target that writes names alone, of the slots ws -/
def kW (n : Nat) (Γ : Gam) (ws : List Nat) (t : Expr) (p : PX) : Bool := match n with
  | 0 => false
  | n + 1 => match t, p with
    | .Name x _, .tn i => ixS Γ.N i x && locB Γ.sc x && (Γ.fnv x || lclB Γ.sc x) && ws.contains i
    | .Tuple es _ _, .tt q => noStars es && kWs n Γ ws es q
    | _, _ => false
termination_by structural n
def kWs (n : Nat) (Γ : Gam) (ws : List Nat) (es : List Expr) (p : PX) : Bool := match n with
  | 0 => false
  | n + 1 => match es, p with
    | [], .nil => true
    | e :: es, .cons p q => notStar e && kW n Γ ws e p && kWs n Γ ws es q
    | _, _ => false
termination_by structural n
end
mutual
/-- an expression -/
def kE (n : Nat) (Γ : Gam) (x : Expr) (p : PX) : Bool := match n with
  | 0 => false
  | n + 1 => match x, p with
    | .Name x _, .var i => ixS Γ.N i x && visB Γ.sc x && !isC x cDebug && !isC x cClassdict
    | .Constant (.int i) _ _, .con (.int j) => decide (i = j)
    | .Constant (.bool b) _ _, .con (.bl c) => b == c
    | .Constant .none _ _, .con .non => true
    | .Constant (.str s) _ _, .con (.str t) => strEq s t
    | .Tuple es _ _, .tup q => kL n Γ es q
    | .List es _, .lst q => kL n Γ es q
    | .BinOp a o b _, .op k p q => binK o k && kE n Γ a p && kE n Γ b q
    | .Compare a [o] [b] _, .op k p q => cmpK o k && notSet b && kE n Γ a p && kE n Γ b q
    | .Compare a [o, o'] [b, c] _, .chn k k' p q r => cmpK o k && cmpK o' k' && notSet c && kE n Γ a p && kE n Γ b q && kE n Γ c r
    | .UnaryOp .USub a _, .neg p => kE n Γ a p
    | .UnaryOp .Not a _, .not p => kE n Γ a p
    | .BoolOp .And es _, p => kAnd n Γ es p
    | .BoolOp .Or es _, p => kOr n Γ es p
    | .IfExp c a b _, .ite p q r => kT n Γ c p && kE n Γ a q && kE n Γ b r
    | .Subscript a (.Slice lo hi none _) _, .sli p l u => kE n Γ a p && kO n Γ lo l && kO n Γ hi u
    | .Subscript a b _, .op .ix p q => notSlice b && kE n Γ a p && kE n Γ b q
    | .Call (.Name f _) (e :: es) [] _, .cal i q => (match lookS f Γ.gl with
      | some (.fn j) => Nat.beq i j
      | none => false) && glB Γ.sc f && !isC f cDebug && noStars (e :: es) && kL n Γ (e :: es) q
    | .Call (.Name f _) (e :: es) [] _, .bi b q => biIs b f && glB Γ.sc f && noStars (e :: es) && kL n Γ (e :: es) q
    | .Call (.Attribute o m apos) (e :: es) [] cpos, .mth .append po q => isC m cAppend && Nat.beq apos.endLine cpos.line && notCall o && noStars (e :: es) && Nat.blt (e :: es).length 20 && kE n Γ o po && kL n Γ (e :: es) q
    | .Call (.Attribute o m apos) [a] [] cpos, .mth .get1 po q => isC m cGet && Nat.beq apos.endLine cpos.line && notCallG o && noStars [a] && kE n Γ o po && kL n Γ [a] q
    | .Call (.Attribute o m apos) [a, b] [] cpos, .mth .get2 po q => isC m cGet && Nat.beq apos.endLine cpos.line && notCallG o && noStars [a, b] && kE n Γ o po && kL n Γ [a, b] q
    | .ListComp elt [⟨tg, iter, ifs, 0⟩] scope _, .lc it tp cd el w => (match ownN Γ.N w with
      | some own => blkC Γ.N Γ.sc scope own && notSet iter && kI n Γ tg iter it && kW n (Γ.blk scope) w tg tp && kF n (Γ.blk scope) ifs cd && kE n (Γ.blk scope) elt el
      | none => false)
    | _, _ => false
termination_by structural n
/-- and, or, as values -/
def kAnd (n : Nat) (Γ : Gam) (es : List Expr) (p : PX) : Bool := match n with
  | 0 => false
  | n + 1 => match es, p with
    | [a], p => kE n Γ a p
    | a :: b :: r, .and p q => kE n Γ a p && kAnd n Γ (b :: r) q
    | _, _ => false
termination_by structural n
def kOr (n : Nat) (Γ : Gam) (es : List Expr) (p : PX) : Bool := match n with
  | 0 => false
  | n + 1 => match es, p with
    | [a], p => kE n Γ a p
    | a :: b :: r, .or p q => kE n Γ a p && kOr n Γ (b :: r) q
    | _, _ => false
termination_by structural n
/-- a test -/
def kT (n : Nat) (Γ : Gam) (x : Expr) (p : PX) : Bool := match n with
  | 0 => false
  | n + 1 => match x, p with
    | .Compare a [o] [b] _, .op k p q => cmpK o k && notSet b && kE n Γ a p && kE n Γ b q
    | .Compare a [o, o'] [b, c] _, .chn k k' p q r => cmpK o k && cmpK o' k' && notSet c && kE n Γ a p && kE n Γ b q && kE n Γ c r
    | .UnaryOp .Not a _, .not p => kT n Γ a p
    | .BoolOp .And es _, p => kAndT n Γ es p
    | .BoolOp .Or es _, p => kOrT n Γ es p
    | x, p => plainT x && kE n Γ x p
termination_by structural n
def kAndT (n : Nat) (Γ : Gam) (es : List Expr) (p : PX) : Bool := match n with
  | 0 => false
  | n + 1 => match es, p with
    | [a], p => kT n Γ a p
    | a :: b :: r, .and p q => kT n Γ a p && kAndT n Γ (b :: r) q
    | _, _ => false
termination_by structural n
def kOrT (n : Nat) (Γ : Gam) (es : List Expr) (p : PX) : Bool := match n with
  | 0 => false
  | n + 1 => match es, p with
    | [a], p => kT n Γ a p
    | a :: b :: r, .or p q => kT n Γ a p && kOrT n Γ (b :: r) q
    | _, _ => false
termination_by structural n
/-- a list of expressions -/
def kL (n : Nat) (Γ : Gam) (es : List Expr) (p : PX) : Bool := match n with
  | 0 => false
  | n + 1 => match es, p with
    | [], .nil => true
    | a :: r, .cons p q => notStar a && kE n Γ a p && kL n Γ r q
    | _, _ => false
termination_by structural n
/-- an end of a slice -/
def kO (n : Nat) (Γ : Gam) (x : Option Expr) (p : PX) : Bool := match n with
  | 0 => false
  | n + 1 => match x, p with
    | none, .nil => true
    | some _, .nil => false
    | some a, p => kE n Γ a p
    | _, _ => false
termination_by structural n
/-- what is walked -/
def kI (n : Nat) (Γ : Gam) (tg x : Expr) (p : PX) : Bool := match n with
  | 0 => false
  | n + 1 => match x, p with
    | .Call (.Name f _) [a] [] _, .ir1 p => isC f cRange && glB Γ.sc f && notStar a && kE n Γ a p
    | .Call (.Name f _) [a, b] [] _, .ir2 p q => isC f cRange && glB Γ.sc f && notStar a && notStar b && kE n Γ a p && kE n Γ b q
    | .Call (.Name f _) [a] [] _, .ien p => isC f cEnum && glB Γ.sc f && isTup tg && notStar a && kE n Γ a p
    | .Call (.Name f _) [a, b] [] _, .izp false p q => isC f cZip && glB Γ.sc f && isTup tg && notStar a && notStar b && kE n Γ a p && kE n Γ b q
    | x, .itv p => kE n Γ x p
    | _, _ => false
termination_by structural n
/-- the tests of a comprehension -/
def kF (n : Nat) (Γ : Gam) (es : List Expr) (p : PX) : Bool := match n with
  | 0 => false
  | n + 1 => match es, p with
    | [], .con (.bl true) => true
    | [a], p => kT n Γ a p
    | _, _ => false
termination_by structural n
end
mutual
/-- a target -/
def kG (n : Nat) (Γ : Gam) (t : Expr) (p : PX) : Bool := match n with
  | 0 => false
  | n + 1 => match t, p with
    | .Name x _, .tn i => ixS Γ.N i x && locB Γ.sc x && (Γ.fnv x || lclB Γ.sc x)
    | .Tuple es _ _, .tt q => noStars es && kGs n Γ es q
    | .Subscript o i _, .tsu p q => notSlice i && kE n Γ o p && kE n Γ i q
    | _, _ => false
termination_by structural n
def kGs (n : Nat) (Γ : Gam) (es : List Expr) (p : PX) : Bool := match n with
  | 0 => false
  | n + 1 => match es, p with
    | [], .nil => true
    | e :: es, .cons p q => notStar e && kG n Γ e p && kGs n Γ es q
    | _, _ => false
termination_by structural n
end
/-- a name that is no plain local (a captured one), or no name at all -/
def oddT (sc : Scope) : Expr → Bool
  | .Name x _ => !lclB sc x
  | _ => true
def swNo (sc : Scope) (t v : Expr) : Bool := match t, v with
  | .Tuple ts _ _, .Tuple vs _ _ => !(ts.length == 2 || ts.length == 3) || (vs.length != ts.length) || ts.any (oddT sc)
  | .Tuple _ _ _, _ => true
  | _, _ => true
def isLstE : Expr → Bool
  | .List .. => true
  | _ => false
/-- not all of the values stand in the text -/
def notAll (es : List Expr) : Bool := !es.all (foldedForSure 8) && !es.all (constantsAlone 8)
mutual
/-- a statement -/
def kS (n : Nat) (Γ : Gam) (x : Stmt) (p : PX) : Bool := match n with
  | 0 => false
  | n + 1 => match x, p with
    | .Pass _, .pas => true
    | .Expr (.Constant (.str _) _ _) _, .pas => true
    | .Expr a _, .exp p => notComp a && kE n Γ a p
    | .Return (some a) _, .ret p => kE n Γ a p
    | .Return none _, .rtn => true
    | .If c a b _, .iff p q r => kT n Γ c p && kSs n Γ a q && kSs n Γ b r
    | .While c b [] _, .whl p q => kT n Γ c p && kSs n Γ b q
    | .For tg iter b [] _, .fr it tp q => notSet iter && kI n Γ tg iter it && kG n Γ tg tp && kSs n Γ b q
    | .Break _, .brk => true
    | .Continue _, .cnt => true
    | .Assign [.Name y py] (.ListComp elt [⟨tg, iter, ifs, 0⟩] scope pos) _, .asg (.tn i) (.lc it tp cd el w) => (match ownN Γ.N w with
      | some own => blkC Γ.N Γ.sc scope own && notSet iter && kI n Γ tg iter it && kW n (Γ.blk scope) w tg tp && kF n (Γ.blk scope) ifs cd && kE n (Γ.blk scope) elt el && ixS Γ.N i y && lclB Γ.sc y && (py.line == pos.line)
        && !(scope.names.any fun (n, k) => n == y && (k == .local || k == .cell))
      | none => false)
    | .Assign [.Tuple [.Name x px, .Name y py] _ _] (.Tuple [a, b] _ _) _, .par [i, j] q => ixS Γ.N i x && ixS Γ.N j y && !Nat.beq i j && lclB Γ.sc x && lclB Γ.sc y && (px.line == py.line) && notAll [a, b] && noStars [a, b] && kL n Γ [a, b] q
    | .Assign [.Tuple [.Name x px, .Name y py, .Name z pz] _ _] (.Tuple [a, b, c] _ _) _, .par [i, j, l] q => ixS Γ.N i x && ixS Γ.N j y && ixS Γ.N l z && !Nat.beq i j && !Nat.beq i l && !Nat.beq j l && lclB Γ.sc x && lclB Γ.sc y && lclB Γ.sc z && (px.line == py.line) && (px.line == pz.line) &&
        notAll [a, b, c] && noStars [a, b, c] && kL n Γ [a, b, c] q
    | .Assign [tg] a _, .asg tp p => notStar tg && !isLstE tg && swNo Γ.sc tg a && (notComp a || !isName tg) && kG n Γ tg tp && kE n Γ a p
    | .AugAssign (.Name x _) .Add a _, .aug i .add p => ixS Γ.N i x && locB Γ.sc x && (Γ.fnv x || lclB Γ.sc x) && kE n Γ a p
    | .AugAssign (.Name x _) .Sub a _, .aug i .sub p => ixS Γ.N i x && locB Γ.sc x && (Γ.fnv x || lclB Γ.sc x) && kE n Γ a p
    | _, _ => false
termination_by structural n
def kSs (n : Nat) (Γ : Gam) (es : List Stmt) (p : PX) : Bool := match n with
  | 0 => false
  | n + 1 => match es, p with
    | [], .nil => true
    | e :: es, .cons p q => kS n Γ e p && kSs n Γ es q
    | _, _ => false
termination_by structural n
end
end Lf

end
section
set_option Elab.async false
set_option linter.all false
set_option maxRecDepth 100000
set_option maxHeartbeats 4000000
set_option autoImplicit false
/-! LfN: what the check promises. -/
namespace Lf
open PySem PySem.Spec PyProof.Rows L2

/-- a def at a name: what it does -/
def FnAt (X : Cx) (S : Stat) (x : Str) (g : List PV → Hh → Rs PV) : Prop :=
  ∃ f fd ps k, X.mg x = some (.ref f) ∧ PySem.W.keepIn X.K (.ref f) = true ∧ Binds X.K fd ps [] ∧ Room k X.A ∧ FnOk X.prog X.w X.K X.mg X.base (CX X.prog X.w) k f fd ps (spF X.K S g)
def bltCs : List (List Nat) := [[100, 105, 99, 116], [108, 101, 110], [116, 117, 112, 108, 101], [108, 105, 115, 116], [105, 110, 116], [97, 98, 115], [109, 97, 120], [109, 105, 110], cRange, cEnum, cZip]
structure Gd (X : Cx) (S : Stat) (Γ : Gam) (call : Nat → List PV → Hh → Rs PV) (W : WX) : Prop where
  N : X.N = Γ.N
  sc : X.env.scope = Γ.sc
  kind : X.env.scope.kind = .function
  fnv : X.fn = Γ.fnv
  nd : X.N.Nodup
  hw : S.w = X.w
  calm : X.calm = true
  own : PassesOwn (model X.prog X.w) X.A X.env X.xe
  tk : Takes X W
  un : X.A.units + 200 < cLine
  blt : ∀ l ∈ bltCs, ∀ x, isC x l = true → X.mg x = none
  fns : ∀ x i, Γ.gl.lookup x = some (.fn i) → FnAt X S x (call i)
section
variable {X : Cx} {S : Stat} {Γ : Gam} {call call' : Nat → List PV → Hh → Rs PV} {W : WX} {P : Prog}
theorem Gd.blk (G : Gd X S Γ call W) (scope : Scope) (hk : scope.kind = .function) (s : Shared) (H : Hp) (C : Addr) (cl : List (Str × Addr)) (fp : List Addr) : Gd (X.blk s H scope (compEnvC scope cl C X.env) fp) S (Γ.blk scope) call WNo where
  N := G.N
  sc := by
    show relS scope X.env.scope = relS scope Γ.sc
    rw [G.sc]
  kind := hk
  fnv := rfl
  nd := G.nd
  hw := G.hw
  calm := G.calm
  own := PassesOwn.never
  tk := fun u s' ⟨a, B, sI, pins, σ, H, cls, d, e, I, nb, up, sky, na, os, ag, w⟩ => w
  un := G.un
  blt := G.blt
  fns := G.fns
theorem Gd.vis (G : Gd X S Γ call W) {x : Str} (h : visB Γ.sc x = true) : Vis X.env.scope x := by rw [G.sc]; exact visB_of h
theorem Gd.loc (G : Gd X S Γ call W) {x : Str} (h : locB Γ.sc x = true) : L2.Loc X.env.scope x := by rw [G.sc]; exact locB_of h
theorem Gd.lcl (G : Gd X S Γ call W) {x : Str} (h : lclB Γ.sc x = true) : X.env.scope.names.lookup x = some .local := by rw [G.sc]; exact lclB_of h
theorem Gd.gl (G : Gd X S Γ call W) {x : Str} (h : glB Γ.sc x = true) : Gl X x := by
  show X.env.scope.names.lookup x = some .globalImplicit
  rw [G.sc]; exact glB_of h
theorem Gd.ix (G : Gd X S Γ call W) {x : Str} {i : Nat} (h : ixS Γ.N i x = true) : X.N[i]? = some x := by rw [G.N]; exact ixS_of h
theorem Gd.sto (G : Gd X S Γ call W) {x : Str} (h : (Γ.fnv x || lclB Γ.sc x) = true) : X.fn x = true ∨ X.env.scope.names.lookup x = some .local := by
  rcases (Bool.or_eq_true _ _).mp h with h | h
  · exact .inl (by rw [G.fnv]; exact h)
  · exact .inr (G.lcl h)
theorem binK_ok {o : Operator} {k : Op} (h : binK o k = true) : OpL X S (binaryOp o) (op1 k) := by
  unfold binK at h
  split at h
  · exact o_add
  · exact o_sub
  · exact o_mul
  · exact o_mod
  · exact o_fdv
  · exact o_pow
  · cases h
theorem cmpK_ok (hu : X.A.units + 200 < cLine) {o : CmpOp} {k : Op} (h : cmpK o k = true) : OpL X S (compareOp o) (op1 k) := by
  unfold cmpK at h
  split at h
  · exact o_eq hu
  · exact o_ne hu
  · exact o_lt hu
  · exact o_le hu
  · exact o_gt hu
  · exact o_ge hu
  · exact o_is
  · exact o_isn
  · exact o_in hu
  · exact o_nin hu
  · cases h
theorem eLen : ("len" : Str).cps.toList = [108, 101, 110] := by decide +kernel
theorem eTuple : ("tuple" : Str).cps.toList = [116, 117, 112, 108, 101] := by decide +kernel
theorem eList : ("list" : Str).cps.toList = [108, 105, 115, 116] := by decide +kernel
theorem eInt : ("int" : Str).cps.toList = [105, 110, 116] := by decide +kernel
theorem eAbs : ("abs" : Str).cps.toList = [97, 98, 115] := by decide +kernel
theorem eMax : ("max" : Str).cps.toList = [109, 97, 120] := by decide +kernel
theorem eDict : ("dict" : Str).cps.toList = [100, 105, 99, 116] := by decide +kernel
theorem eMin : ("min" : Str).cps.toList = [109, 105, 110] := by decide +kernel
/-- a built-in's call -/
theorem bi_ok (G : Gd X S Γ call W) {b : Bi} {f : Str} {e : Expr} {es : List Expr} {p pos : Pos} {fl : FL} (hb : biIs b f = true) (hg : Gl X f) (ha : PA X (e :: es) (tL X.K S fl W)) (hs : noStars (e :: es) = true) :
    PE X (.Call (.Name f p) (e :: es) [] pos) (tE X.K S (biC (bi1 b) fl) W) := by
  have hs1 := hs
  simp only [noStars, Bool.and_eq_true] at hs1
  have h1 := star_cons (es := es) (env := X.env) hs1.1
  have h2 := star_none (pos := pos) (env := X.env) hs1.2
  unfold biIs at hb
  cases b <;> simp only [biC1] at hb <;> first
    | (have e := isC_of eLen hb; have m := G.blt _ (by decide) f hb; subst e; exact g_biB b_len hg m boot_len ha (by decide) (by decide) h1 h2)
    | (have e := isC_of eTuple hb; have m := G.blt _ (by decide) f hb; subst e; exact g_biT b_tuple hg m boot_tuple ha (by decide) (by decide) h1 h2)
    | (have e := isC_of eList hb; have m := G.blt _ (by decide) f hb; subst e; exact g_biT b_list hg m boot_list ha (by decide) (by decide) h1 h2)
    | (have e := isC_of eInt hb; have m := G.blt _ (by decide) f hb; subst e; exact g_biT b_int hg m boot_int ha (by decide) (by decide) h1 h2)
    | (have e := isC_of eAbs hb; have m := G.blt _ (by decide) f hb; subst e; exact g_biB b_abs hg m boot_abs ha (by decide) (by decide) h1 h2)
    | (have e := isC_of eMax hb; have m := G.blt _ (by decide) f hb; subst e; exact g_biB (b_max G.calm) hg m boot_max ha (by decide) (by decide) h1 h2)
    | (have e := isC_of eMin hb; have m := G.blt _ (by decide) f hb; subst e; exact g_biB (b_min G.calm) hg m boot_min ha (by decide) (by decide) h1 h2)
    | (have e := isC_of eDict hb; have m := G.blt _ (by decide) f hb; subst e; exact g_biT (b_dict G.un G.calm G.hw) hg m boot_dict ha (by decide) (by decide) h1 h2)
    | cases hb
/-- targets of names -/
theorem kW_ok (n : Nat) : (∀ {X : Cx} {Γ : Gam} {W : WX} {ws : List Nat} {t : Expr} {p : PX}, Gd X S Γ call W → kW n Γ ws t p = true → PG X t (tGw X.K S ws (evT (mkCtx P call call') p))) ∧
    (∀ {X : Cx} {Γ : Gam} {W : WX} {ws : List Nat} {es : List Expr} {p : PX}, Gd X S Γ call W → kWs n Γ ws es p = true → PGs X es (tGsw X.K S ws (evTs (mkCtx P call call') p)) ∧ ∀ ps e h, ps.length ≠ es.length → ∀ z k, evTs (mkCtx P call call') p ps e h ≠ .ok z k) := by
  induction n with
  | zero => exact ⟨fun G h => by simp [kW] at h, fun G h => by simp [kWs] at h⟩
  | succ n ih =>
    refine ⟨fun {X Γ W ws t p} G h => ?_, fun {X Γ W ws es p} G h => ?_⟩
    · unfold kW at h
      split at h
      · simp only [Bool.and_eq_true] at h
        obtain ⟨⟨⟨h1, h2⟩, h3⟩, h4⟩ := h
        simp only [evT]
        exact w_mono (w_name G.nd (G.ix h1) (G.loc h2) (G.sto h3)) (fun i hi => by simp at hi; subst hi; simpa using h4)
      · simp only [Bool.and_eq_true] at h
        obtain ⟨q1, q2⟩ := ih.2 G h.2
        simp only [evT]
        exact w_tup G.calm q1 (asg_len h.1) (asg_idx h.1) q2
      · cases h
    · unfold kWs at h
      split at h
      · simp only [evTs]
        refine ⟨w_nil, fun ps e h hl z k => ?_⟩
        unfold tnilC
        split
        · exact absurd rfl hl
        · intro q; cases q
      · simp only [Bool.and_eq_true] at h
        obtain ⟨q1, q2⟩ := ih.2 G h.2
        have q3 := ih.1 G h.1.2
        simp only [evTs]
        refine ⟨w_cons q3 q1 (asg_map h.1.1), fun ps e h hl z k => ?_⟩
        unfold tconsC
        split
        · rename_i v vs
          cases hv : evT (mkCtx P call call') _ v e h with
          | ok e1 h1 => exact q2 vs e1 h1 (fun z => hl (by simp [z])) z k
          | exc c fs h1 => intro q; cases q
          | bad => intro q; cases q
        · intro q; cases q
      · cases h

/-- what the check of an expression promises -/
structure SE (S : Stat) (P : Prog) (call call' : Nat → List PV → Hh → Rs PV) (n : Nat) : Prop where
  e : ∀ {X : Cx} {Γ : Gam} {W : WX} {x : Expr} {p : PX}, Gd X S Γ call W → kE n Γ x p = true → PE X x (tE X.K S (evE (mkCtx P call call') p) W)
  and : ∀ {X : Cx} {Γ : Gam} {W : WX} {es : List Expr} {p : PX} {pos : Pos}, Gd X S Γ call W → kAnd n Γ es p = true → PE X (.BoolOp .And es pos) (tE X.K S (evE (mkCtx P call call') p) W)
  or : ∀ {X : Cx} {Γ : Gam} {W : WX} {es : List Expr} {p : PX} {pos : Pos}, Gd X S Γ call W → kOr n Γ es p = true → PE X (.BoolOp .Or es pos) (tE X.K S (evE (mkCtx P call call') p) W)
  t : ∀ {X : Cx} {Γ : Gam} {W : WX} {x : Expr} {p : PX}, Gd X S Γ call W → kT n Γ x p = true → PT X x (tT X.K S (evE (mkCtx P call call') p) W)
  andT : ∀ {X : Cx} {Γ : Gam} {W : WX} {es : List Expr} {p : PX} {pos : Pos}, Gd X S Γ call W → kAndT n Γ es p = true → PW X (.BoolOp .And es pos) (tT X.K S (evE (mkCtx P call call') p) W)
  orT : ∀ {X : Cx} {Γ : Gam} {W : WX} {es : List Expr} {p : PX} {pos : Pos}, Gd X S Γ call W → kOrT n Γ es p = true → PW X (.BoolOp .Or es pos) (tT X.K S (evE (mkCtx P call call') p) W)
  l : ∀ {X : Cx} {Γ : Gam} {W : WX} {es : List Expr} {p : PX}, Gd X S Γ call W → kL n Γ es p = true → PA X es (tL X.K S (evL (mkCtx P call call') p) W)
  o : ∀ {X : Cx} {Γ : Gam} {W : WX} {x : Option Expr} {p : PX}, Gd X S Γ call W → kO n Γ x p = true → PO X x (tO X.K S (evO p (evE (mkCtx P call call') p)) W)
  i : ∀ {X : Cx} {Γ : Gam} {W : WX} {tg x : Expr} {p : PX}, Gd X S Γ call W → kI n Γ tg x p = true → PI X tg x (tI X.K S (evI (mkCtx P call call') p) W)
  f : ∀ {X : Cx} {Γ : Gam} {es : List Expr} {p : PX}, Gd X S Γ call WNo → kF n Γ es p = true → PTs X es (tT X.K S (evE (mkCtx P call call') p) WNo)
theorem PA.one {a : Expr} {f : FE} (ha : PE X a (tE X.K S f W)) (h : notStar a = true) : PA X [a] (tL X.K S (consC f nilC) W) := g_cons ha g_nil (star_cons h)
theorem kE_ok (n : Nat) : SE S P call call' n := by
  induction n with
  | zero => exact ⟨fun G h => by simp [kE] at h, fun G h => by simp [kAnd] at h, fun G h => by simp [kOr] at h, fun G h => by simp [kT] at h, fun G h => by simp [kAndT] at h, fun G h => by simp [kOrT] at h, fun G h => by simp [kL] at h, fun G h => by simp [kO] at h, fun G h => by simp [kI] at h, fun G h => by simp [kF] at h⟩
  | succ n ih =>
    refine ⟨fun {X Γ W x p} G h => ?_, fun {X Γ W es p pos} G h => ?_, fun {X Γ W es p pos} G h => ?_, fun {X Γ W x p} G h => ?_, fun {X Γ W es p pos} G h => ?_, fun {X Γ W es p pos} G h => ?_, fun {X Γ W es p} G h => ?_, fun {X Γ W x p} G h => ?_, fun {X Γ W tg x p} G h => ?_, fun {X Γ es p} G h => ?_⟩
    · unfold kE at h
      split at h
      · -- a name
        simp only [Bool.and_eq_true, Bool.not_eq_true'] at h
        obtain ⟨⟨⟨h1, h2⟩, h3⟩, h4⟩ := h
        simp only [evE]
        exact g_var (G.ix h1) (G.vis h2) (isC_not eDebug h3) (isC_not eClassdict h4)
      · have e := of_decide_eq_true h
        subst e
        simp only [evE]
        exact g_int
      · have e := eq_of_beq h
        subst e
        simp only [evE]
        exact g_bl
      · simp only [evE]
        exact g_non
      · have e := strEq_iff.mp h
        subst e
        simp only [evE]
        exact g_str
      · simp only [evE]
        exact g_tup (ih.l G h)
      · simp only [evE]
        exact g_lst (ih.l G h)
      · simp only [Bool.and_eq_true] at h
        simp only [evE]
        exact g_bin (g := op1) (binK_ok h.1.1) (ih.e G h.1.2) (ih.e G h.2)
      · simp only [Bool.and_eq_true] at h
        obtain ⟨⟨⟨h1, h2⟩, h3⟩, h4⟩ := h
        simp only [evE]
        exact g_cmp (g := op1) (cmpK_ok G.un h1) (ih.e G h3) (ih.e G h4) (marks_no h2)
      · simp only [Bool.and_eq_true] at h
        obtain ⟨⟨⟨⟨⟨h1, h2⟩, h3⟩, h4⟩, h5⟩, h6⟩ := h
        simp only [evE]
        exact g_chn (g := op1) (cmpK_ok G.un h1) (cmpK_ok G.un h2) (ih.e G h4) (ih.e G h5) (ih.e G h6) (marks_no h3)
      · simp only [evE]
        exact g_neg (ih.e G h)
      · simp only [evE]
        exact g_not (ih.e G h)
      · exact ih.and G h
      · exact ih.or G h
      · simp only [Bool.and_eq_true] at h
        simp only [evE]
        exact g_ite (ih.t G h.1.1) (ih.e G h.1.2) (ih.e G h.2)
      · simp only [Bool.and_eq_true] at h
        simp only [evE]
        exact g_sli (ih.e G h.1.1) (ih.o G h.1.2) (ih.o G h.2)
      · simp only [Bool.and_eq_true] at h
        simp only [evE]
        exact g_ix (ih.e G h.1.2) (ih.e G h.2) (plain_ix h.1.1)
      · -- a def's call
        simp only [Bool.and_eq_true, Bool.not_eq_true'] at h
        obtain ⟨⟨⟨⟨h1, h2⟩, h3⟩, h4⟩, h5⟩ := h
        split at h1
        · rename_i j hj
          have e := Nat.eq_of_beq_eq_true h1
          subst e
          rw [lookS_eq] at hj
          obtain ⟨f, fd, ps, k, m1, m2, m3, m4, m5⟩ := G.fns _ _ hj
          simp only [evE]
          have h4' := h4
          simp only [noStars, Bool.and_eq_true] at h4'
          exact g_call m5 m4 (G.gl h2) m1 m2 m3 G.tk (ih.l G h5) (isC_not eDebug h3) (star_cons h4'.1) (star_none h4'.2)
        · cases h1
      · simp only [Bool.and_eq_true] at h
        obtain ⟨⟨⟨h1, h2⟩, h3⟩, h4⟩ := h
        simp only [evE]
        exact bi_ok G h1 (G.gl h2) (ih.l G h4) h3
      · simp only [Bool.and_eq_true] at h
        obtain ⟨⟨⟨⟨⟨⟨h1, h2⟩, h3⟩, h4⟩, h5⟩, h6⟩, h7⟩ := h
        have e := isC_of eAppend h1
        subst e
        have h4' := h4
        simp only [noStars, Bool.and_eq_true] at h4'
        simp only [evE]
        refine g_append (ih.e G h6) (ih.l G h7) (base_no h3) ?_ (beq_iff_eq.mpr (Nat.eq_of_beq_eq_true h2)) (star_cons h4'.1) (star_none h4'.2)
        have h5 := blt_true h5
        rw [star_few h4]
        simp only [keywordEach, backToKw, List.map_nil, List.all_nil, Bool.true_and, Bool.and_self, List.length_nil, List.isEmpty_nil, if_true, decide_eq_true_eq]
        omega
      · simp only [Bool.and_eq_true] at h
        obtain ⟨⟨⟨⟨⟨h1, h2⟩, h3⟩, h4⟩, h6⟩, h7⟩ := h
        have e := isC_of eGet h1
        subst e
        have h4' := h4
        simp only [noStars, Bool.and_eq_true] at h4'
        simp only [evE]
        refine g_get G.hw (m_get1 G.un G.hw) (fun _ _ => rfl) (ih.e G h6) (ih.l G h7) (base_noG h3) ?_ (beq_iff_eq.mpr (Nat.eq_of_beq_eq_true h2)) (star_cons h4'.1) rfl
        rw [star_few h4]
        rfl
      · simp only [Bool.and_eq_true] at h
        obtain ⟨⟨⟨⟨⟨h1, h2⟩, h3⟩, h4⟩, h6⟩, h7⟩ := h
        have e := isC_of eGet h1
        subst e
        have h4' := h4
        simp only [noStars, Bool.and_eq_true] at h4'
        simp only [evE]
        refine g_get G.hw (m_get2 G.un G.hw) (fun _ _ => rfl) (ih.e G h6) (ih.l G h7) (base_noG h3) ?_ (beq_iff_eq.mpr (Nat.eq_of_beq_eq_true h2)) (star_cons h4'.1) (star_none (by simp [noStars, h4'.2.1]))
        rw [star_few h4]
        rfl
      · -- a comprehension
        split at h
        · rename_i own ho
          simp only [Bool.and_eq_true] at h
          obtain ⟨⟨⟨⟨⟨h1, h2⟩, h3⟩, h4⟩, h5⟩, h6⟩ := h
          have hm := ownN_map ho
          subst hm
          have ok := blkOk_by h1
          rw [← G.N, ← G.sc] at ok
          simp only [evE]
          exact g_lc G.calm G.nd (ih.i G h3) ok (fun s H C cl fp => (kW_ok n).1 (G.blk _ ok.kind s H C cl fp) h4) (fun s H C cl fp => ih.f (G.blk _ ok.kind s H C cl fp) h5) (fun s H C cl fp => ih.e (G.blk _ ok.kind s H C cl fp) h6) (fold_no h2)
        · cases h
      · cases h
    · unfold kAnd at h
      split at h
      · exact pe_one (ih.e G h)
      · simp only [Bool.and_eq_true] at h
        simp only [evE]
        exact g_and (ih.e G h.1) (ih.and G h.2)
      · cases h
    · unfold kOr at h
      split at h
      · exact pe_one (ih.e G h)
      · simp only [Bool.and_eq_true] at h
        simp only [evE]
        exact g_or (ih.e G h.1) (ih.or G h.2)
      · cases h
    · unfold kT at h
      split at h
      · simp only [Bool.and_eq_true] at h
        obtain ⟨⟨⟨h1, h2⟩, h3⟩, h4⟩ := h
        simp only [evE]
        exact t_cmp (g := op1) (cmpK_ok G.un h1) (ih.e G h3) (ih.e G h4) (marks_no h2)
      · simp only [Bool.and_eq_true] at h
        obtain ⟨⟨⟨⟨⟨h1, h2⟩, h3⟩, h4⟩, h5⟩, h6⟩ := h
        simp only [evE]
        exact t_chn (g := op1) (cmpK_ok G.un h1) (cmpK_ok G.un h2) (ih.e G h4) (ih.e G h5) (ih.e G h6) (marks_no h3)
      · simp only [evE]
        exact t_not (ih.t G h)
      · exact (ih.andT G h).pt
      · exact (ih.orT G h).pt
      · simp only [Bool.and_eq_true] at h
        exact t_val (ih.e G h.2) (true_val h.1)
    · unfold kAndT at h
      split at h
      · exact pw_and1 (ih.t G h)
      · simp only [Bool.and_eq_true] at h
        simp only [evE]
        exact t_and (ih.t G h.1) (ih.andT G h.2)
      · cases h
    · unfold kOrT at h
      split at h
      · exact pw_or1 (ih.t G h)
      · simp only [Bool.and_eq_true] at h
        simp only [evE]
        exact t_or (ih.t G h.1) (ih.orT G h.2)
      · cases h
    · unfold kL at h
      split at h
      · simp only [evL]
        exact g_nil
      · simp only [Bool.and_eq_true] at h
        simp only [evL]
        exact g_cons (ih.e G h.1.2) (ih.l G h.2) (star_cons h.1.1)
      · cases h
    · unfold kO at h
      split at h
      · exact gp_none
      · cases h
      · rename_i a hp
        have e : evO p (evE (mkCtx P call call') p) = someO (evE (mkCtx P call call') p) := by
          unfold evO
          split
          · exact absurd rfl (by assumption)
          · rfl
        rw [e]
        exact gp_some (ih.e G h)
      · cases h
    · unfold kI at h
      split at h
      · simp only [Bool.and_eq_true] at h
        obtain ⟨⟨⟨h1, h2⟩, h3⟩, h4⟩ := h
        have e := isC_of eRange h1
        have m := G.blt _ (by decide) _ h1
        subst e
        simp only [evI]
        exact i_r1 (G.gl h2) m (PA.one (ih.e G h4) h3) (star_cons h3)
      · simp only [Bool.and_eq_true] at h
        obtain ⟨⟨⟨⟨⟨h1, h2⟩, h3⟩, h4⟩, h5⟩, h6⟩ := h
        have e := isC_of eRange h1
        have m := G.blt _ (by decide) _ h1
        subst e
        simp only [evI]
        exact i_r2 (G.gl h2) m (g_cons (ih.e G h5) (PA.one (ih.e G h6) h4) (star_cons h3)) (by rw [star_cons h3, star_cons h4]; rfl) (star_cons h4)
      · simp only [Bool.and_eq_true] at h
        obtain ⟨⟨⟨⟨h1, h2⟩, h3⟩, h4⟩, h5⟩ := h
        have e := isC_of eEnum h1
        have m := G.blt _ (by decide) _ h1
        subst e
        simp only [evI]
        unfold isTup at h3
        split at h3
        · exact i_enm (G.gl h2) m (PA.one (ih.e G h5) h4) (star_cons h4)
        · cases h3
      · simp only [Bool.and_eq_true] at h
        obtain ⟨⟨⟨⟨⟨⟨h1, h2⟩, h3⟩, h4⟩, h5⟩, h6⟩, h7⟩ := h
        have e := isC_of eZip h1
        have m := G.blt _ (by decide) _ h1
        subst e
        simp only [evI]
        unfold isTup at h3
        split at h3
        · exact i_zip (G.gl h2) m (g_cons (ih.e G h6) (PA.one (ih.e G h7) h5) (star_cons h4)) (star_cons h4) (by rw [star_cons h5]; rfl)
        · cases h3
      · simp only [evI]
        exact i_val (ih.e G h)
      · cases h
    · unfold kF at h
      split at h
      · simp only [evE]
        exact ts_none
      · exact ts_one (ih.t G h)
      · cases h
end
end Lf

end
section
set_option Elab.async false
set_option linter.all false
set_option maxRecDepth 100000
set_option maxHeartbeats 4000000
set_option autoImplicit false
/-! LfP: statements. -/
namespace Lf
open PySem PySem.Spec PyProof.Rows L2

section
variable {X : Cx} {S : Stat} {Γ : Gam} {call call' : Nat → List PV → Hh → Rs PV} {W : WX} {P : Prog} {pos p2 : Pos}
theorem two_rvs {K : PySem.W.Frag} {ρ : List Addr} {H : Hp} {ps : List PV} {vs : List V} (r : RVs K S ρ H ps vs) (h : ps.length = 2) : ∃ p q v w, ps = [p, q] ∧ vs = [v, w] ∧ RV K S ρ H p v ∧ RV K S ρ H q w := by
  match ps, h with
  | [p, q], _ =>
    unfold RVs at r
    obtain ⟨x, s, rfl, r1, r2⟩ := r
    unfold RVs at r2
    obtain ⟨y, s, rfl, r2, r3⟩ := r2
    unfold RVs at r3
    subst r3
    exact ⟨p, q, x, y, rfl, rfl, r1, r2⟩
theorem three_rvs {K : PySem.W.Frag} {ρ : List Addr} {H : Hp} {ps : List PV} {vs : List V} (r : RVs K S ρ H ps vs) (h : ps.length = 3) : ∃ p q t v w u, ps = [p, q, t] ∧ vs = [v, w, u] ∧ RV K S ρ H p v ∧ RV K S ρ H q w ∧ RV K S ρ H t u := by
  match ps, h with
  | [p, q, t], _ =>
    unfold RVs at r
    obtain ⟨x, s, rfl, r1, r2⟩ := r
    obtain ⟨a, b, c, d, e1, rfl, f1, f2⟩ := two_rvs r2 rfl
    cases e1
    exact ⟨p, q, t, x, c, d, rfl, rfl, r1, f1, f2⟩
theorem s_par {i j : Nat} {x y : Str} {a b : Expr} {f : FL} {px py pt pos : Pos} {kt k2 pt2} (hc : X.calm = true) (hN : X.N.Nodup) (hi : X.N[i]? = some x) (hj : X.N[j]? = some y) (hij : i ≠ j)
    (hx : X.env.scope.names.lookup x = some .local) (hy : X.env.scope.names.lookup y = some .local) (ha : PA X [a, b] (tL X.K S f W))
    (hw : swappedStores [.Tuple [.Name x px, .Name y py] kt pt] (.Tuple [a, b] k2 pt2) X.env = pure (some [x, y])) :
    PS X (.Assign [.Tuple [.Name x px, .Name y py] kt pt] (.Tuple [a, b] k2 pt2) pos) (sS X.K S (parC [i, j] f) W) :=
  (ps_par hc hN hi hj hij hx hy ha hw rfl).imp fun D σ H ⟨ρ, e, h, rl, re, p⟩ => ⟨ρ, e, h, rl, re, Ps.thn rl re p fun vs h1 Vs H1 ρ1 x1 r1 q1 p1 => by
    split at p1
    · rename_i hl
      obtain ⟨p, q, v, w, rfl, rfl, f1, f2⟩ := two_rvs q1 (Nat.eq_of_beq_eq_true hl)
      exact ⟨v, w, rfl, Ps.nx r1 (((RE.ext rl x1 re).set f1).set f2) p1⟩
    · exact p1.elim⟩
theorem s_par3 {i j l : Nat} {x y z : Str} {a b c : Expr} {f : FL} {px py pz pt pos : Pos} {kt k2 pt2} (hc : X.calm = true) (hN : X.N.Nodup) (hi : X.N[i]? = some x) (hj : X.N[j]? = some y) (hl : X.N[l]? = some z) (hij : i ≠ j) (hil : i ≠ l) (hjl : j ≠ l)
    (hx : X.env.scope.names.lookup x = some .local) (hy : X.env.scope.names.lookup y = some .local) (hz : X.env.scope.names.lookup z = some .local) (ha : PA X [a, b, c] (tL X.K S f W))
    (hw : swappedStores [.Tuple [.Name x px, .Name y py, .Name z pz] kt pt] (.Tuple [a, b, c] k2 pt2) X.env = pure (some [x, y, z])) :
    PS X (.Assign [.Tuple [.Name x px, .Name y py, .Name z pz] kt pt] (.Tuple [a, b, c] k2 pt2) pos) (sS X.K S (parC [i, j, l] f) W) :=
  (ps_par3 hc hN hi hj hl hij hil hjl hx hy hz ha hw rfl).imp fun D σ H ⟨ρ, e, h, rl, re, p⟩ => ⟨ρ, e, h, rl, re, Ps.thn rl re p fun vs h1 Vs H1 ρ1 x1 r1 q1 p1 => by
    split at p1
    · rename_i hl
      obtain ⟨p, q, t, v, w, u, rfl, rfl, f1, f2, f3⟩ := three_rvs q1 (Nat.eq_of_beq_eq_true hl)
      exact ⟨v, w, u, rfl, Ps.nx r1 ((((RE.ext rl x1 re).set f1).set f2).set f3) p1⟩
    · exact p1.elim⟩
theorem noStars_any : ∀ {es : List Expr}, noStars es = true → (es.any fun | .Starred .. => true | _ => false) = false
  | [], _ => rfl
  | e :: es, h => by
    simp only [noStars, Bool.and_eq_true] at h
    rw [List.any_cons, noStars_any h.2]
    cases e <;> first | rfl | cases h.1
theorem sw_par {env : Env} {x y : Str} {a b : Expr} {px py pt : Pos} {kt k2 pt2} (hk : env.scope.kind = .function) (hx : env.scope.names.lookup x = some .local) (hy : env.scope.names.lookup y = some .local) (hne : x ≠ y) (hl : (px.line == py.line) = true)
    (ha : notAll [a, b] = true) (hs : noStars [a, b] = true) : swappedStores [.Tuple [.Name x px, .Name y py] kt pt] (.Tuple [a, b] k2 pt2) env = pure (some [x, y]) := by
  have kx : env.kindOf x = some .local := hx
  have ky : env.kindOf y = some .local := hy
  have hb : env.blockKind = .function := by unfold Env.blockKind; rw [hk]; rfl
  simp only [notAll, Bool.and_eq_true, Bool.not_eq_true'] at ha
  have hl' : (py.line == px.line) = true := by rw [beq_iff_eq] at hl ⊢; exact hl.symm
  unfold swappedStores
  simp only [hb, ha.1, ha.2, List.filterMap_cons, List.filterMap_nil, kx, ky, List.head?_cons, Option.map_some, Option.getD_some, Expr.pos, hl', beq_self_eq_true, Bool.and_self, if_true, List.length_cons, List.length_nil]
  have e : ([x, y].eraseDups.length != 2) = false := by
    have : ([x, y].eraseDups) = [x, y] := by
      simp [List.eraseDups_cons, hne, Ne.symm hne]
    rw [this]
    rfl
  simp [e]
  intro h
  exfalso
  simp only [noStars, Bool.and_eq_true] at hs
  rcases h with h | h
  · cases a <;> first | (exact absurd h Bool.false_ne_true) | (exact absurd hs.1 Bool.false_ne_true)
  · cases b <;> first | (exact absurd h Bool.false_ne_true) | (exact absurd hs.2.1 Bool.false_ne_true)
theorem sw_par3 {env : Env} {x y z : Str} {a b c : Expr} {px py pz pt : Pos} {kt k2 pt2} (hk : env.scope.kind = .function) (hx : env.scope.names.lookup x = some .local) (hy : env.scope.names.lookup y = some .local) (hz : env.scope.names.lookup z = some .local) (hne : x ≠ y) (hne2 : x ≠ z) (hne3 : y ≠ z)
    (hl : (px.line == py.line) = true) (hl2 : (px.line == pz.line) = true)
    (ha : notAll [a, b, c] = true) (hs : noStars [a, b, c] = true) : swappedStores [.Tuple [.Name x px, .Name y py, .Name z pz] kt pt] (.Tuple [a, b, c] k2 pt2) env = pure (some [x, y, z]) := by
  have kx : env.kindOf x = some .local := hx
  have ky : env.kindOf y = some .local := hy
  have kz : env.kindOf z = some .local := hz
  have hb : env.blockKind = .function := by unfold Env.blockKind; rw [hk]; rfl
  simp only [notAll, Bool.and_eq_true, Bool.not_eq_true'] at ha
  have hl' : (py.line == px.line) = true := by rw [beq_iff_eq] at hl ⊢; exact hl.symm
  have hl2' : (pz.line == px.line) = true := by rw [beq_iff_eq] at hl2 ⊢; exact hl2.symm
  unfold swappedStores
  simp only [hb, ha.1, ha.2, List.filterMap_cons, List.filterMap_nil, kx, ky, kz, List.head?_cons, Option.map_some, Option.getD_some, Expr.pos, hl', hl2', beq_self_eq_true, Bool.and_self, if_true, List.length_cons, List.length_nil]
  have e : ([x, y, z].eraseDups.length != 3) = false := by
    have : ([x, y, z].eraseDups) = [x, y, z] := by
      simp [List.eraseDups_cons, hne, hne2, hne3, Ne.symm hne, Ne.symm hne2, Ne.symm hne3]
    rw [this]
    rfl
  simp [e]
  intro h
  exfalso
  simp only [noStars, Bool.and_eq_true] at hs
  rcases h with h | h | h
  · cases a <;> first | (exact absurd h Bool.false_ne_true) | (exact absurd hs.1 Bool.false_ne_true)
  · cases b <;> first | (exact absurd h Bool.false_ne_true) | (exact absurd hs.2.1 Bool.false_ne_true)
  · cases c <;> first | (exact absurd h Bool.false_ne_true) | (exact absurd hs.2.2.1 Bool.false_ne_true)

theorem fm_short {α β : Type} {f : α → Option β} : ∀ {l : List α}, (∃ a ∈ l, f a = none) → (l.filterMap f).length < l.length
  | [], h => by obtain ⟨_, h, _⟩ := h; cases h
  | a :: l, h => by
    have hle : (l.filterMap f).length ≤ l.length := List.length_filterMap_le f l
    cases e : f a with
    | none =>
      rw [List.filterMap_cons_none e, List.length_cons]
      omega
    | some b =>
      rw [List.filterMap_cons_some e, List.length_cons, List.length_cons]
      obtain ⟨c, hc, hn⟩ := h
      rcases List.mem_cons.mp hc with rfl | hc
      · rw [e] at hn; cases hn
      · exact Nat.succ_lt_succ (fm_short ⟨c, hc, hn⟩)
theorem sw_none {env : Env} {t v : Expr} (h : swNo env.scope t v = true) (hl : isLstE t = false) : swappedStores [t] v env = pure none := by
  by_cases ht : isTup t = true
  · by_cases hv : isTup v = true
    · cases t <;> first | cases ht | skip
      cases v <;> first | cases hv | skip
      rename_i ts k p vs k2 p2
      simp only [swNo, Bool.or_eq_true] at h
      have hodd : ts.any (oddT env.scope) = true → ((ts.filterMap fun
          | .Name id pos => if env.kindOf id == some .local && pos.line == (ts.head?.map (·.pos.line)).getD 0 then some id else none
          | _ => none).length != ts.length) = true := fun ho => by
        obtain ⟨a, ha, hb⟩ := List.any_eq_true.mp ho
        have := fm_short (l := ts) (f := fun
          | .Name id pos => if env.kindOf id == some .local && pos.line == (ts.head?.map (·.pos.line)).getD 0 then some id else none
          | _ => none) ⟨a, ha, by
            cases a <;> first | rfl | skip
            rename_i x px
            simp only [oddT, Bool.not_eq_true'] at hb
            have : (env.kindOf x == some NameKind.local) = false := by
              rw [Bool.eq_false_iff]
              intro z
              have z' : env.scope.names.lookup x = some .local := eq_of_beq z
              unfold lclB at hb
              rw [lookS_eq, z'] at hb
              cases hb
            simp [this]⟩
        exact bne_iff_ne.mpr (Nat.ne_of_lt this)
      unfold swappedStores
      simp only [pure_bind]
      by_cases c1 : (!(ts.length == 2 || ts.length == 3) || vs.length != ts.length || env.blockKind != .function) = true
      · rw [if_pos c1]
      · rw [if_neg c1]
        have c1' := c1
        simp only [Bool.or_eq_true, not_or] at c1'
        have ho : ts.any (oddT env.scope) = true := by
          rcases h with (h | h) | h
          · exact absurd h c1'.1.1
          · exact absurd h c1'.1.2
          · exact h
        have c3 := hodd ho
        split
        · rfl
        · rw [if_pos (by rw [Bool.or_eq_true]; exact .inl c3)]
    · exact stores_no (.inl (by simpa using hv))
  · exact stores_no (.inr ⟨by simpa using ht, fun es p z => by subst z; cases hl⟩)
/-- a store into a list -/
theorem set_ok : PSet X (fun o i v H Q => ∃ ρ h p q z, Rl X.K S ρ h H ∧ RV X.K S ρ H p o ∧ RV X.K S ρ H q i ∧ RV X.K S ρ H z v ∧ Pk X.K S (fun _ _ (_ _ : Unit) => True) ρ H (set1 p q z h) (fun _ => Q)) := by
  intro pins s σ H o i v ov iv u Q I ro ri rv ⟨ρ, h, p, q, z, rl, rp, rq, rz, k⟩
  unfold set1 at k
  split at k
  · rename_i n
    unfold RV at rp
    obtain ⟨a, rfl, ha⟩ := rp
    split at k
    · rename_i ps hk
      split at k
      · rename_i j
        unfold RV at rq
        split at k
        · rename_i m hm
          obtain ⟨xs, t, r⟩ := rl.ob _ _ a hk ha
          obtain ⟨x2, rl2⟩ := rl.set (u := .lst (xs.set m v)) (o' := .lst (ps.set m z)) hk ha fun x2 => ⟨_, upd_same, (RVs.ext rl x2 _ _ r).set m (RV.ext rl x2 _ _ rz)⟩
          exact set_list pins s σ H _ i v ov iv u Q I ro ri rv ⟨a, xs, j, m, rfl, rq, t, by rw [← r.length]; exact ixP_ixN hm, k () _ _ x2 rl2 trivial⟩
        · exact k.elim
      · exact k.elim
    · exact k.elim
  · exact k.elim
theorem t_tup2 {es : List Expr} {kk n : Nat} {g : FTs} (hc : X.calm = true) (h : PGs X es (tGs X.K S g)) (hn : (assignEach es X.env).length = n) (hst : (assignEach es X.env).findIdx? (·.1) = none)
    (hlen : ∀ ps e h, ps.length ≠ n → ∀ z k, g ps e h ≠ .ok z k) : PG X (.Tuple es kk pos) (tG X.K S (ttC g)) :=
  (pg_tup hc h hn hst).imp fun v σ H Q ⟨ρ, e, h, p, rl, re, rp, k⟩ => by
    obtain ⟨ps, a, xs, rfl, t, r, k⟩ := tt_cases rp k
    refine ⟨a, xs, rfl, t, ?_, ρ, e, h, ps, rl, re, r, k⟩
    apply Classical.byContradiction
    intro z
    have := hlen ps e h (by rw [r.length]; exact z)
    cases hg : g ps e h with
    | ok z k => exact this z k hg
    | exc c fs h => rw [hg] at k; exact k
    | bad => rw [hg] at k; exact k
theorem kG_ok (n : Nat) : (∀ {X : Cx} {Γ : Gam} {W : WX} {t : Expr} {p : PX}, Gd X S Γ call W → kG n Γ t p = true → PG X t (tG X.K S (evT (mkCtx P call call') p))) ∧
    (∀ {X : Cx} {Γ : Gam} {W : WX} {es : List Expr} {p : PX}, Gd X S Γ call W → kGs n Γ es p = true → PGs X es (tGs X.K S (evTs (mkCtx P call call') p)) ∧ ∀ ps e h, ps.length ≠ es.length → ∀ z k, evTs (mkCtx P call call') p ps e h ≠ .ok z k) := by
  induction n with
  | zero => exact ⟨fun G h => by simp [kG] at h, fun G h => by simp [kGs] at h⟩
  | succ n ih =>
    refine ⟨fun {X Γ W t p} G h => ?_, fun {X Γ W es p} G h => ?_⟩
    · unfold kG at h
      split at h
      · simp only [Bool.and_eq_true] at h
        obtain ⟨⟨h1, h2⟩, h3⟩ := h
        simp only [evT]
        exact t_name G.nd (G.ix h1) (G.loc h2) (G.sto h3)
      · simp only [Bool.and_eq_true] at h
        obtain ⟨q1, q2⟩ := ih.2 G h.2
        simp only [evT]
        exact t_tup2 G.calm q1 (asg_len h.1) (asg_idx h.1) q2
      · simp only [Bool.and_eq_true] at h
        obtain ⟨⟨h1, h2⟩, h3⟩ := h
        simp only [evT]
        refine t_sub (kE_ok n |>.e G h2) (kE_ok n |>.e G h3) (fun v => ?_) set_ok
        rename_i i _ _ _
        cases i <;> first | rfl | cases h1
      · cases h
    · unfold kGs at h
      split at h
      · simp only [evTs]
        refine ⟨t_nil, fun ps e h hl z k => ?_⟩
        unfold tnilC
        split
        · exact absurd rfl hl
        · intro q; cases q
      · simp only [Bool.and_eq_true] at h
        obtain ⟨q1, q2⟩ := ih.2 G h.2
        have q3 := ih.1 G h.1.2
        simp only [evTs]
        refine ⟨t_cons q3 q1 (asg_map h.1.1), fun ps e h hl z k => ?_⟩
        unfold tconsC
        split
        · rename_i v vs
          cases hv : evT (mkCtx P call call') _ v e h with
          | ok e1 h1 => exact q2 vs e1 h1 (fun z => hl (by simp [z])) z k
          | exc c fs h1 => intro q; cases q
          | bad => intro q; cases q
        · intro q; cases q
      · cases h
theorem aug_add : PIp X .Add (OpK X S (aug1 .add)) := by
  intro pins s σ H x y v u Q I rx ry ⟨ρ, h, p, q, rl, rp, rq, k⟩
  simp only [aug1] at k
  unfold augAdd at k
  split at k
  · unfold RV at rp rq
    exact in_add pins s σ H x y v u Q I rx ry ⟨_, _, rp, rq, Pk.done rl rv_int k⟩
  · exact k.elim
theorem aug_sub : PIp X .Sub (OpK X S (aug1 .sub)) := by
  intro pins s σ H x y v u Q I rx ry ⟨ρ, h, p, q, rl, rp, rq, k⟩
  simp only [aug1] at k
  unfold augSub at k
  split at k
  · unfold RV at rp rq
    exact in_sub pins s σ H x y v u Q I rx ry ⟨_, _, rp, rq, Pk.done rl rv_int k⟩
  · exact k.elim
theorem kS_ok (n : Nat) : (∀ {X : Cx} {Γ : Gam} {W : WX} {x : Stmt} {p : PX}, Gd X S Γ call W → kS n Γ x p = true → PS X x (sS X.K S (evS (mkCtx P call call') p) W)) ∧
    (∀ {X : Cx} {Γ : Gam} {W : WX} {es : List Stmt} {p : PX}, Gd X S Γ call W → kSs n Γ es p = true → PSs X es (sS X.K S (evS (mkCtx P call call') p) W)) := by
  induction n with
  | zero => exact ⟨fun G h => by simp [kS] at h, fun G h => by simp [kSs] at h⟩
  | succ n ih =>
    have E := kE_ok (S := S) (call := call) (call' := call') (P := P) n
    refine ⟨fun {X Γ W x p} G h => ?_, fun {X Γ W es p} G h => ?_⟩
    · unfold kS at h
      split at h
      · simp only [evS]
        exact s_pass
      · simp only [evS]
        exact s_doc
      · simp only [Bool.and_eq_true] at h
        simp only [evS]
        exact s_exp (E.e G h.2) (swaps_no h.1)
      · simp only [evS]
        exact s_ret (E.e G h)
      · simp only [evS]
        exact s_rtn
      · simp only [Bool.and_eq_true] at h
        simp only [evS]
        exact s_if (E.t G h.1.1) (ih.2 G h.1.2) (ih.2 G h.2)
      · simp only [Bool.and_eq_true] at h
        simp only [evS]
        exact s_while G.own (E.t G h.1) (ih.2 G h.2)
      · simp only [Bool.and_eq_true] at h
        obtain ⟨⟨⟨h1, h2⟩, h3⟩, h4⟩ := h
        simp only [evS]
        exact s_for G.own G.calm (E.i G h2) ((kG_ok n).1 G h3) (ih.2 G h4) (fold_no h1)
      · simp only [evS]
        exact s_brk
      · simp only [evS]
        exact s_cnt
      · split at h
        · rename_i own ho
          simp only [Bool.and_eq_true, Bool.not_eq_true'] at h
          obtain ⟨⟨⟨⟨⟨⟨⟨⟨⟨h1, h2⟩, h3⟩, h4⟩, h5⟩, h6⟩, h7⟩, h8⟩, h9⟩, h10⟩ := h
          have hm := ownN_map ho
          subst hm
          have ok := blkOk_by h1
          rw [← G.N, ← G.sc] at ok
          simp only [evS, evT, evE]
          exact s_setLc G.calm G.nd (G.ix h7) (G.lcl h8) (sw_true G.kind (G.lcl h8) h9 h10) (E.i G h3) ok (fun s H C cl fp => (kW_ok n).1 (G.blk _ ok.kind s H C cl fp) h4) (fun s H C cl fp => E.f (G.blk _ ok.kind s H C cl fp) h5) (fun s H C cl fp => E.e (G.blk _ ok.kind s H C cl fp) h6) (fold_no h2)
        · cases h
      · simp only [Bool.and_eq_true, Bool.not_eq_true'] at h
        obtain ⟨⟨⟨⟨⟨⟨⟨⟨h1, h2⟩, h3⟩, h4⟩, h5⟩, h6⟩, h7⟩, h8⟩, h9⟩ := h
        have ne : _ ≠ _ := fun z => Nat.ne_of_beq_eq_false h3 z
        have i1 := G.ix h1
        have i2 := G.ix h2
        simp only [evS]
        refine s_par G.calm G.nd i1 i2 ne (G.lcl h4) (G.lcl h5) (E.l G h9) (sw_par G.kind (G.lcl h4) (G.lcl h5) (fun z => ?_) h6 h7 h8)
        subst z
        obtain ⟨l1, e1⟩ := List.getElem?_eq_some_iff.mp i1
        obtain ⟨l2, e2⟩ := List.getElem?_eq_some_iff.mp i2
        exact ne ((List.getElem_inj G.nd).mp (e1.trans e2.symm))
      · simp only [Bool.and_eq_true, Bool.not_eq_true'] at h
        obtain ⟨⟨⟨⟨⟨⟨⟨⟨⟨⟨⟨⟨⟨h1, h2⟩, h3⟩, n1⟩, n2⟩, n3⟩, h4⟩, h5⟩, h6⟩, h7⟩, h8⟩, h9⟩, h10⟩, h11⟩ := h
        have ne1 : _ ≠ _ := fun z => Nat.ne_of_beq_eq_false n1 z
        have ne2 : _ ≠ _ := fun z => Nat.ne_of_beq_eq_false n2 z
        have ne3 : _ ≠ _ := fun z => Nat.ne_of_beq_eq_false n3 z
        have i1 := G.ix h1
        have i2 := G.ix h2
        have i3 := G.ix h3
        simp only [evS]
        have apart : ∀ {i j : Nat} {x y : Str}, X.N[i]? = some x → X.N[j]? = some y → i ≠ j → x ≠ y := fun {i j x y} i1 i2 ne z => by
          subst z
          obtain ⟨l1, e1⟩ := List.getElem?_eq_some_iff.mp i1
          obtain ⟨l2, e2⟩ := List.getElem?_eq_some_iff.mp i2
          exact ne ((List.getElem_inj G.nd).mp (e1.trans e2.symm))
        exact s_par3 G.calm G.nd i1 i2 i3 ne1 ne2 ne3 (G.lcl h4) (G.lcl h5) (G.lcl h6) (E.l G h11) (sw_par3 G.kind (G.lcl h4) (G.lcl h5) (G.lcl h6) (apart i1 i2 ne1) (apart i1 i3 ne2) (apart i2 i3 ne3) h7 h8 h9 h10)
      · simp only [Bool.and_eq_true, Bool.not_eq_true', Bool.or_eq_true] at h
        obtain ⟨⟨⟨⟨⟨h1, h2⟩, h3⟩, h4⟩, h5⟩, h6⟩ := h
        simp only [evS]
        refine s_asg (E.e G h6) ((kG_ok n).1 G h5) ?_ (sw_none (by rw [G.sc]; exact h3) ?_) (asg_one h1)
        · show swapsWith _ (some _) _ _ = _
          rcases h4 with h4 | h4
          · exact swaps_no h4
          · exact swaps_tg h4
        · exact h2
      · simp only [Bool.and_eq_true] at h
        obtain ⟨⟨⟨h1, h2⟩, h3⟩, h4⟩ := h
        simp only [evS]
        exact s_aug (g := aug1) (k := .add) G.nd (G.ix h1) (G.loc h2) (E.e G h4) aug_add (G.sto h3)
      · simp only [Bool.and_eq_true] at h
        obtain ⟨⟨⟨h1, h2⟩, h3⟩, h4⟩ := h
        simp only [evS]
        exact s_aug (g := aug1) (k := .sub) G.nd (G.ix h1) (G.loc h2) (E.e G h4) aug_sub (G.sto h3)
      · cases h
    · unfold kSs at h
      split at h
      · simp only [evS]
        exact s_nil
      · simp only [Bool.and_eq_true] at h
        simp only [evS]
        exact s_seq (ih.1 G h.1) (ih.2 G h.2)
      · cases h
end
end Lf

end
section
set_option Elab.async false
set_option linter.all false
set_option maxRecDepth 100000
set_option maxHeartbeats 4000000
set_option autoImplicit false
/-! LfQ: defs, programs. -/
namespace Lf
open PySem PySem.Spec PyProof.Rows L2

/-- one def: its number, its global name, its text, its slots, its parameters, its program -/
structure Df where
  i : Nat
  x : Str
  st : Stmt
  N : List Str
  ps : List Str
  px : PX
def strsEq : List Str → List Str → Bool
  | [], [] => true
  | a :: r, b :: s => strEq a b && strsEq r s
  | _, _ => false
theorem strsEq_of : ∀ {a b : List Str}, strsEq a b = true → a = b
  | [], [], _ => rfl
  | [], _ :: _, h => by cases h
  | _ :: _, [], h => by cases h
  | a :: r, b :: s, h => by
    simp only [strsEq, Bool.and_eq_true] at h
    rw [strEq_iff.mp h.1, strsEq_of h.2]
def memS (x : Str) : List Str → Bool
  | [] => false
  | y :: r => strEq x y || memS x r
theorem memS_not {x : Str} : ∀ {l : List Str}, memS x l = false → x ∉ l
  | [], _ => by simp
  | y :: r, h => by
    simp only [memS, Bool.or_eq_false_iff] at h
    intro hm
    rcases List.mem_cons.mp hm with rfl | hm
    · rw [strEq_iff.mpr rfl] at h
      cases h.1
    · exact memS_not h.2 hm
def noDup : List Str → Bool
  | [] => true
  | x :: r => !memS x r && noDup r
theorem noDup_of : ∀ {l : List Str}, noDup l = true → l.Nodup
  | [], _ => List.nodup_nil
  | x :: r, h => by
    simp only [noDup, Bool.and_eq_true, Bool.not_eq_true'] at h
    exact List.nodup_cons.mpr ⟨memS_not h.1, noDup_of h.2⟩
def scB (N P : List Str) (sc : Scope) : Bool := (match sc.kind with
  | .function => true
  | _ => false) && !sc.isCoroutine && !sc.isGenerator && noDup N && strsEq (N.take P.length) P && (P.all fun x => locB sc x) && sc.names.all fun y => match y.2 with
  | .free => false
  | _ => true
theorem scB_ok {N P : List Str} {sc : Scope} (h : scB N P sc = true) : FnScope N P sc := by
  simp only [scB, Bool.and_eq_true, Bool.not_eq_true', List.all_eq_true] at h
  obtain ⟨⟨⟨⟨⟨⟨h1, h2⟩, h3⟩, h4⟩, h5⟩, h6⟩, h7⟩ := h
  refine ⟨?_, h2, h3, noDup_of h4, strsEq_of h5, fun x hx => locB_of (h6 x hx), fun y hy e => ?_⟩
  · split at h1
    · assumption
    · cases h1
  · have := h7 y hy
    rw [e] at this
    cases this
def Df.gam (gl : List (Str × GK)) (d : Df) : Gam := ⟨d.N, defScope d.st, fun _ => true, gl⟩
/-- the check of a def -/
def Df.chk (fuel : Nat) (gl : List (Str × GK)) (d : Df) : Bool := scB d.N d.ps (defScope d.st) && kSs fuel (d.gam gl) (defBody d.st) d.px

section
variable {K : PySem.W.Frag} {S : Stat} {ρ : List Addr} {H : Hp} {h : Hh}
theorem start_re {N : List Str} {ps : List PV} {vs : List V} (r : RVs K S ρ H ps vs) : RE K S ρ H (startE N.length ps) (start N vs) := by
  have hl := r.length
  refine ⟨by simp [startE, L2.start, hl], fun i p e => ?_⟩
  unfold startE at e
  unfold L2.start
  by_cases hi : i < ps.length
  · rw [List.getElem?_append_left (by simpa using hi), List.getElem?_map] at e
    rw [List.getElem?_append_left (by simpa using (by omega : i < vs.length)), List.getElem?_map]
    cases hp : ps[i]? with
    | none => rw [hp] at e; cases e
    | some q =>
      rw [hp] at e
      have e' : q = p := by simpa using e
      subst e'
      obtain ⟨v, e1, e2⟩ := r.get hp
      exact ⟨v, by rw [e1]; rfl, e2⟩
  · rw [List.getElem?_append_right (by simpa using (by omega : ps.length ≤ i))] at e
    rw [List.getElem?_replicate] at e
    split at e <;> cases e
theorem run_ps {C : Ctx} {F : Fn} {N : List Str} {ps : List PV} {vs : List V} {Q : VK} {E : XK} (hN : F.ns = N.length) (rl : Rl K S ρ h H) (r : RVs K S ρ H ps vs) (po : Po K S (RV K S) ρ H (runFn C F ps h) Q E) :
    sS K S (F.body C) (fun cls d _ H => E cls d H) { nx := fun _ H' => Q .non H', rt := Q } (start N vs) H := by
  unfold runFn at po
  split at po
  · refine ⟨ρ, startE F.ns ps, h, rl, by rw [hN]; exact start_re r, ?_⟩
    cases hb : F.body C (startE F.ns ps) h with
    | nx e h' => rw [hb] at po; exact fun σ' H' ρ' x r q => po .non H' ρ' x r rv_non
    | rt v h' => rw [hb] at po; exact po
    | bk e h' => rw [hb] at po; exact po.elim
    | ct e h' => rw [hb] at po; exact po.elim
    | exc c fs e h' => rw [hb] at po; exact fun σ' H' ρ' cls d x r q z => po H' ρ' cls d x r z
    | bad => rw [hb] at po; exact po.elim
  · exact po.elim
end

section
variable {Pr : Program} {w : World} {K : PySem.W.Frag} {mg : Str → Option Value} {base : Heap} {S : Stat} {P : Prog}
/-- what is known of a def of the program -/
structure DfOk (K : PySem.W.Frag) (mg : Str → Option Value) (P : Prog) (fuel : Nat) (gl : List (Str × GK)) (d : Df) : Prop where
  chk : d.chk fuel gl = true
  fn : ∃ B, P.fn d.i = some ⟨d.ps.length, d.N.length, B⟩ ∧ ∀ C, B C = evS C d.px
  at_ : ∃ f fd, mg d.x = some (.ref f) ∧ FunD K d.x d.x (defArgs d.st) (defBody d.st) (defScope d.st) [] [] f fd ∧ Binds K fd d.ps []
def FnAt0 (Pr : Program) (w : World) (K : PySem.W.Frag) (mg : Str → Option Value) (base : Heap) (S : Stat) (n : Nat) (x : Str) (g : List PV → Hh → Rs PV) : Prop :=
  ∃ f fd ps, mg x = some (.ref f) ∧ PySem.W.keepIn K (.ref f) = true ∧ Binds K fd ps [] ∧ FnOk Pr w K mg base (L2.CX Pr w) n f fd ps (spF K S g)
theorem runFn_len {C : Ctx} {F : Fn} {ps : List PV} {h : Hh} {ρ : List Addr} {H : Hp} {Q : VK} {E : XK} (po : Po K S (RV K S) ρ H (runFn C F ps h) Q E) : ps.length = F.np := by
  unfold runFn at po
  split at po
  · exact Nat.eq_of_beq_eq_true (by assumption)
  · exact po.elim
theorem callN_fn {n i : Nat} {F : Fn} (hF : P.fn i = some F) : ∃ c', callN P (n + 1) i = pureCall (runFn (mkCtx P (callN P n) c') F) := by
  cases n with
  | zero => exact ⟨noCall, by simp [callN, hF]⟩
  | succ n => exact ⟨callN P n, by simp [callN, hF]⟩
mutual
theorem pure_rv {ρ ρ' : List Addr} {H : Hp} : ∀ (p : PV) (v : V), p.pure = true → RV K S ρ H p v → RV K S ρ' H p v
  | .non, _, _, q => by unfold RV at *; exact q
  | .bl _, _, _, q => by unfold RV at *; exact q
  | .int _, _, _, q => by unfold RV at *; exact q
  | .str _, _, _, q => by unfold RV at *; exact q
  | .tup ps, _, h, q => by
    unfold RV at *
    obtain ⟨a, xs, e, t, q⟩ := q
    exact ⟨a, xs, e, t, pure_rvs ps xs (by simpa [PV.pure] using h) q⟩
  | .kl ps, _, h, q => by
    unfold RV at *
    obtain ⟨a, xs, e, t, q⟩ := q
    exact ⟨a, xs, e, t, pure_rvs ps xs (by simpa [PV.pure] using h) q⟩
  | .wt ps, _, h, q => by
    unfold RV at *
    obtain ⟨a, xs, e, t, q⟩ := q
    exact ⟨a, xs, e, t, pure_rvs ps xs (by simpa [PV.pure] using h) q⟩
  | .ref n, _, h, q => by simp [PV.pure] at h
  | .ty _, _, _, q => by unfold RV at *; exact q
  | .fn _, _, _, q => by unfold RV at *; exact q
theorem pure_rvs {ρ ρ' : List Addr} {H : Hp} : ∀ (ps : List PV) (vs : List V), PV.pures ps = true → RVs K S ρ H ps vs → RVs K S ρ' H ps vs
  | [], _, _, q => by unfold RVs at *; exact q
  | p :: ps, _, h, q => by
    unfold RVs at *
    simp only [PV.pures, Bool.and_eq_true] at h
    obtain ⟨y, s, e, q1, q2⟩ := q
    exact ⟨y, s, e, pure_rv p y h.1 q1, pure_rvs ps s h.2 q2⟩
end
theorem pure_sp {g : List PV → Hh → Rs PV} {vs : List V} {H : Hp} {Q : VK} {E : XK} (h : spF K S (pureCall g) vs H Q E) : spF K S g vs H Q E := by
  obtain ⟨ρ, h, ps, rl, rs, po⟩ := h
  unfold pureCall at po
  split at po
  · exact ⟨ρ, [], ps, rl, rs, po⟩
  · split at po
    · rename_i hp
      split at po
      · rename_i v h' hg
        split at po
        · rename_i hv
          refine ⟨[], [], ps, ⟨rfl, List.nodup_nil, fun n o a e => by simp at e⟩, pure_rvs ps vs hp rs, ?_⟩
          rw [hg]
          intro V H' ρ' x r q
          have x2 : Ext ρ H ρ H' := ⟨⟨[], by simp⟩, fun a o e _ => x.fix a o e (by simp), fun a h1 h2 => absurd h1 h2⟩
          refine po V H' ρ x2 ⟨rl.len, rl.nd, fun n o a e1 e2 => ?_⟩ (pure_rv v V hv q)
          have z := rl.ob n o a e1 e2
          obtain ⟨u, e, _⟩ := z.some
          exact OR.ext rl x2 ((x.fix a u e (by simp)).trans e.symm) o z
        · exact ⟨ρ, _, ps, rl, rs, po⟩
      · exact ⟨ρ, _, ps, rl, rs, po⟩
      · exact po.elim
    · exact ⟨ρ, _, ps, rl, rs, po⟩
theorem def_ok (hw : S.w = w) {fuel n : Nat} {gl : List (Str × GK)} {d : Df} (D : DfOk K mg P fuel gl d) (hb : ∀ l ∈ bltCs, ∀ x, isC x l = true → mg x = none)
    (hc : ∀ x i, gl.lookup x = some (.fn i) → FnAt0 Pr w K mg base S n x (callN P n i)) {f : Addr} {fd : FuncData} (F : FunD K d.x d.x (defArgs d.st) (defBody d.st) (defScope d.st) [] [] f fd) : FnOk Pr w K mg base (L2.CX Pr w) (n + 1) f fd d.ps (spF K S (callN P (n + 1) d.i)) := by
  obtain ⟨B, hP, hB⟩ := D.fn
  obtain ⟨c', hcN⟩ := callN_fn (n := n) hP
  have hk := D.chk
  simp only [Df.chk, Bool.and_eq_true] at hk
  have SC := scB_ok hk.1
  rw [hcN]
  refine FnOk.imp (sp := spF K S (runFn (mkCtx P (callN P n) c') ⟨d.ps.length, d.N.length, B⟩)) (F.ok SC (fun vs H Q E ⟨ρ, h, ps, rl, rs, po⟩ => ?_) fun cdv A outer s H vs Q E hr ⟨ρ, h, ps, rl, rs, po⟩ => ?_) fun vs H Q E z => pure_sp z
  · rw [← rs.length]
    exact runFn_len po
  · have q := run_ps (N := d.N) rfl rl rs po
    rw [show (Fn.mk d.ps.length d.N.length B).body (mkCtx P (callN P n) c') = evS (mkCtx P (callN P n) c') d.px from hB _] at q
    refine ⟨_, (kS_ok fuel).2 (Γ := d.gam gl) ⟨rfl, rfl, SC.kind, rfl, SC.nd, hw, rfl, ?_, ?_, ?_, hb, ?_⟩ hk.2, q⟩
    · exact passes_of (K := fun e s'' => L2.CX Pr w outer H s E e s'') (E₁ := fun e' s'' => L2.CX Pr w outer H s E e' s'') rfl
    · exact takes_of rfl rfl rfl rfl
    · have := hr.un
      show (A.deeper _).units + 200 < cLine
      omega
    · intro x i hx
      obtain ⟨f', fd', ps', m1, m2, m3, m4⟩ := hc x i hx
      exact ⟨f', fd', ps', n, m1, m2, m3, hr, m4⟩
theorem fn_zero {f : Addr} {fd : FuncData} {ps : List Str} {i : Nat} : FnOk Pr w K mg base (L2.CX Pr w) 0 f fd ps (spF K S (callN P 0 i)) := ⟨fun vs H Q E ⟨ρ, h, ps, rl, rs, po⟩ => po.elim, fun A outer s H args us vs Q E _ _ _ _ ⟨ρ, h, ps, rl, rs, po⟩ => po.elim⟩
/-- all defs of a program, at every depth -/
theorem all_ok (hw : S.w = w) {fuel : Nat} {ds : List Df} {gl : List (Str × GK)} (hgl : ∀ x i, gl.lookup x = some (.fn i) → ∃ d ∈ ds, d.x = x ∧ d.i = i) (D : ∀ d ∈ ds, DfOk K mg P fuel gl d) (hb : ∀ l ∈ bltCs, ∀ x, isC x l = true → mg x = none) :
    ∀ (n : Nat), ∀ d ∈ ds, ∀ {f : Addr} {fd : FuncData}, FunD K d.x d.x (defArgs d.st) (defBody d.st) (defScope d.st) [] [] f fd → FnOk Pr w K mg base (L2.CX Pr w) n f fd d.ps (spF K S (callN P n d.i)) := by
  intro n
  induction n with
  | zero => exact fun d hd f fd F => fn_zero
  | succ n ih =>
    intro d hd f fd F
    refine def_ok hw (D d hd) hb (fun x i hx => ?_) F
    obtain ⟨d', hd', rfl, rfl⟩ := hgl x i hx
    obtain ⟨f', fd', hm, F', bd⟩ := (D d' hd').at_
    exact ⟨f', fd', d'.ps, hm, F'.kp, bd, ih d' hd' F'⟩
end
end Lf

end
section
set_option Elab.async false
set_option linter.all false
set_option maxRecDepth 100000
set_option maxHeartbeats 4000000
set_option autoImplicit false
/-! LfR: the end. -/
namespace Lf
open PySem PySem.Spec PyProof.Rows L2

def Df.dd (d : Df) : He.DefD := ⟨(d.x, none), d.x, d.x, defArgs d.st, defBody d.st, defScope d.st, [], []⟩
def bltNm : List Str := ["dict", "len", "tuple", "list", "int", "abs", "max", "min", "range", "enumerate", "zip"]
theorem bltNm_cs : bltNm.map (fun x => x.cps.toList) = bltCs := by decide +kernel
def faOf (ds : List Df) : List He.Fa := ds.map (fun d => .glo d.x) ++ bltNm.map .free
def fnOfD (ds : List Df) : List He.DefD := ds.map Df.dd
section
variable {K : PySem.W.Frag} {mg : Str → Option Value} {h : Heap} {ds : List Df}
theorem blt_of (X : K.In h) (G : h.Ns mainGlobals mg) (c : He.SaysD (faOf ds) (fnOfD ds) K) : ∀ l ∈ bltCs, ∀ x, isC x l = true → mg x = none := by
  intro l hl x hx
  rw [← bltNm_cs] at hl
  obtain ⟨y, hy, rfl⟩ := List.mem_map.mp hl
  have e := isC_of rfl hx
  subst e
  exact He.free_ok X G (c.facts (List.mem_append_right _ (List.mem_map.mpr ⟨_, hy, rfl⟩)))
theorem at_of (X : K.In h) (G : h.Ns mainGlobals mg) (c : He.SaysD (faOf ds) (fnOfD ds) K) {d : Df} (hd : d ∈ ds) : ∃ f fd, mg d.x = some (.ref f) ∧ FunD K d.x d.x (defArgs d.st) (defBody d.st) (defScope d.st) [] [] f fd := by
  obtain ⟨fd, F⟩ := c.defs (d := d.dd) (List.mem_map.mpr ⟨d, hd, rfl⟩)
  exact ⟨_, fd, He.glo_ok X G (c.facts (List.mem_append_left _ (List.mem_map.mpr ⟨d, hd, rfl⟩))), F⟩
/-- how a def's parameters are bound, told by its text alone -/
def BindsT (d : Df) : Prop := ∀ (kV doc pm : Value) (an : Option Addr) (cdv ct : Value) (us : List Value), us.length = d.ps.length → bindArgs (PySem.W.fnOf d.x d.x (defArgs d.st) (defBody d.st) (defScope d.st) .none kV doc pm an cdv ct) ⟨us, []⟩ = pure (d.ps.zip us)
/-- what is checked of each def, the model's heap not in sight -/
structure DfT (P : Prog) (fuel : Nat) (gl : List (Str × GK)) (d : Df) : Prop where
  chk : d.chk fuel gl = true
  fn : ∃ B, P.fn d.i = some ⟨d.ps.length, d.N.length, B⟩ ∧ ∀ C, B C = evS C d.px
  bind : BindsT d
theorem dfOk_of {P : Prog} {fuel : Nat} {gl : List (Str × GK)} (X : K.In h) (G : h.Ns mainGlobals mg) (c : He.SaysD (faOf ds) (fnOfD ds) K) (T : ∀ d ∈ ds, DfT P fuel gl d) : ∀ d ∈ ds, DfOk K mg P fuel gl d := fun d hd => by
  obtain ⟨f, fd, hm, F⟩ := at_of X G c hd
  exact ⟨(T d hd).chk, (T d hd).fn, f, fd, hm, F, F.bindsN (T d hd).bind⟩
theorem ints_rvs {S : Stat} {H : Hp} : ∀ ns : List Int, RVs K S [] H (ns.map .int) (ns.map V.int)
  | [] => RVs.nil
  | n :: ns => RVs.cons rv_int (ints_rvs ns)
/-- the law's promise from its value -/
theorem law_sp {S : Stat} {g : List PV → Hh → Rs PV} {H : Hp} {a : Addr} {ns : List Int} (hO : Only H) (hS : SqL K H a (ns.map V.int)) (hv : ∃ h, g [.kl (ns.map .int)] [] = .ok (.bl true) h) :
    spF K S g [.ref a] H (fun v _ => v = .bl true) fun _ _ _ => False := by
  obtain ⟨h, hv⟩ := hv
  have t : SqF K H a (ns.map V.int) := by
    rcases hS with (e | ⟨o, e⟩) | e
    · rcases hO a with z | ⟨o, xs, z⟩ <;> rw [e] at z <;> cases z
    · exact .inl ⟨o, e⟩
    · exact .inr e
  refine ⟨[], [], [.kl (ns.map .int)], ⟨rfl, List.nodup_nil, fun n o a e => by simp at e⟩, RVs.cons (by unfold RV; exact ⟨a, _, rfl, t, ints_rvs ns⟩) RVs.nil, ?_⟩
  rw [hv]
  intro V H' ρ' _ _ q
  unfold RV at q
  exact q
def S0 (w : World) : Stat := ⟨w, fun _ => none, fun _ => none, fun _ => Str.empty, fun _ => Str.empty⟩
/-- what walk_ofE asks -/
theorem end_of {l : PySem.W.OpenLaw} {P : Prog} {fuel n k : Nat} {gl : List (Str × GK)} {w : World} {fa : Addr} {dl : Df} (X : K.In h) (G : h.Ns mainGlobals mg) (hfa : mg dl.x = some (.ref fa)) (c : He.SaysD (faOf ds) (fnOfD ds) K) (T : ∀ d ∈ ds, DfT P fuel gl d)
    (hgl : ∀ x i, gl.lookup x = some (.fn i) → ∃ d ∈ ds, d.x = x ∧ d.i = i) (hd : dl ∈ ds) (x : Str) (hx : dl.ps = [x])
    (hv : ∀ ns : List Int, ns.length ≤ n → ∃ h, callN P k dl.i [.kl (ns.map .int)] [] = .ok (.bl true) h) :
    ∃ (K : PySem.W.Frag) (fd : FuncData) (sp : Sp), K.In h ∧ (∀ (s : Shared) (u : Value), BindsTo s fd ⟨[u], []⟩ [(x, u)]) ∧
        (∀ (H : Hp) (a : Addr) (ns : List Int), ns.length ≤ n → Only H → SqL K H a (ns.map V.int) → sp [.ref a] H (fun v _ => v = .bl true) fun _ _ _ => False) ∧
        ∀ base : Heap, K.In base → base.Ns mainGlobals mg → FnOk l.prog w K mg base (L2.CX l.prog w) k fa fd [x] sp := by
  obtain ⟨f, fd, hm, F⟩ := at_of X G c hd
  have e := hfa.symm.trans hm
  cases e
  have b := FunD.bindsA (ps := dl.ps) F (T dl hd).bind
  refine ⟨K, fd, spF K (S0 w) (callN P k dl.i), X, fun s v => ?_, fun H a ns hl hO hS => law_sp hO hS (hv ns hl), fun base _ _ => ?_⟩
  · have := b s [v] (by rw [hx]; rfl)
    rw [hx] at this
    exact this
  · have := all_ok (Pr := l.prog) (w := w) (base := base) (S := S0 w) rfl hgl (dfOk_of X G c T) (blt_of X G c) k dl hd F
    rw [hx] at this
    exact this
/-- every name of the table is a def's -/
def glOk (ds : List Df) (gl : List (Str × GK)) : Bool := gl.all fun q => ds.any fun d => strEq d.x q.1 && (match q.2 with
  | .fn i => Nat.beq d.i i)
theorem gl_find {ds : List Df} {gl : List (Str × GK)} (h : glOk ds gl = true) {x : Str} {i : Nat} (e : gl.lookup x = some (.fn i)) : ∃ d ∈ ds, d.x = x ∧ d.i = i := by
  have hm : (x, GK.fn i) ∈ gl := by
    clear h
    induction gl with
    | nil => cases e
    | cons q r ih =>
      obtain ⟨y, g⟩ := q
      rw [List.lookup_cons] at e
      by_cases hq : (x == y) = true
      · rw [hq] at e
        cases e
        rw [eq_of_beq hq]
        exact List.mem_cons_self
      · rw [Bool.eq_false_iff.mpr hq] at e
        exact List.mem_cons_of_mem _ (ih e)
  have h2 := List.all_eq_true.mp h _ hm
  obtain ⟨d, hd, h3⟩ := List.any_eq_true.mp h2
  simp only [Bool.and_eq_true] at h3
  exact ⟨d, hd, strEq_iff.mp h3.1, Nat.eq_of_beq_eq_true h3.2⟩
/-- walk_ofE, what may be raised told by the world -/
theorem walk_w {l : PySem.W.OpenLaw} {n k : Nat} {q : Program} {loose : List Str} {XP : (Str → Option Value) → Heap → Prop} {YP : World → Heap → Prop} {d : DefRec} {x : Str}
    (hn : l.most = some n) (hn2 : n ≤ sizeLine) (hdf : d.params.defaults = []) (hr : Room k callerA)
    (F : ∀ (w : World) (mg : Str → Option Value) (fa : Addr) (h : Heap), YP w h → h.Ns mainGlobals mg → mg d.name = some (.ref fa) →
      ∃ (K : PySem.W.Frag) (fd : FuncData) (sp : Sp), K.In h ∧ (∀ (s : Shared) (u : Value), BindsTo s fd ⟨[u], []⟩ [(x, u)]) ∧
        (∀ (H : Hp) (a : Addr) (ns : List Int), ns.length ≤ n → Only H → SqL K H a (ns.map V.int) → sp [.ref a] H (fun v _ => v = .bl true) fun _ _ _ => False) ∧
        ∀ base : Heap, K.In base → base.Ns mainGlobals mg → FnOk l.prog w K mg base (L2.CX l.prog w) k fa fd [x] sp) :
    PySem.W.WalkO q loose XP YP l.row.toRowW d [] (fun f vs => PySem.call f vs) := by
  refine Att.attach_call hn hdf fun w s₀ s₁ mg mb fa o pm cd doc a vs ns G Y ho hd hcd hmg hobj hints hlen hg => ?_
  obtain ⟨K, fd, sp, KX, hb, hsp, hF⟩ := F w mg fa _ Y G.T.g hmg
  exact law_call KX G.T.g G.T.b G.T.builtins G.T.nolimit hg hobj hints (Nat.le_trans hlen hn2) hr hF hb (fun H hO hS => hsp H a ns hlen hO hS) fun H e s' h => by
    obtain ⟨_, _, _, _, _, _, _, _, _, _, _, _, z⟩ := h
    exact z
end
end Lf

end
set_option Elab.async false
set_option linter.all false
set_option maxRecDepth 100000
set_option maxHeartbeats 0
namespace Cl
open Lf
noncomputable section
def top (i : Nat) : PySem.Stmt := PySem.Challenge.pw_leavefirst_k50_walks_by_hand.main.body.getD i (.Pass ⟨0, 0, 0, 0⟩)
-- 0: plan sign
def b_change_count : PX := (.cons (.ret (.bi .len (.cons (.op .ix (.op .ix (.op .ix (.var 0) (.con (.int 0))) (.var 1)) (.con (.int 1))) .nil))) .nil)
def s_change_count (C : Ctx) : FS := (seqC (retC (biC (C.bi .len) (consC (opC C.op .ix (opC C.op .ix (opC C.op .ix (varC 0) (conC (.int 0))) (varC 1)) (conC (.int 1))) nilC))) snilC)
theorem e_change_count (C : Ctx) : evS C b_change_count = s_change_count C := rfl
def f_change_count : Fn := ⟨2, 2, s_change_count⟩
abbrev i_change_count : Nat := 0
def d_change_count : Df := ⟨0, ⟨#[99, 104, 97, 110, 103, 101, 95, 99, 111, 117, 110, 116]⟩, top 1, [⟨#[112, 108, 97, 110]⟩, ⟨#[115, 105, 103, 110]⟩], [⟨#[112, 108, 97, 110]⟩, ⟨#[115, 105, 103, 110]⟩], b_change_count⟩
-- 1: plan sign first changes name later
def b_values_of : PX := (.cons (.asg (.tt (.cons (.tn 2) (.cons (.tn 3) .nil))) (.op .ix (.op .ix (.var 0) (.con (.int 0))) (.var 1))) (.cons (.ret (.op .add (.lst (.cons (.var 2) .nil)) (.lc (.itv (.var 3)) (.tt (.cons (.tn 4) (.cons (.tn 5) .nil))) (.con (.bl true)) (.var 5) [4, 5]))) .nil))
def s_values_of (C : Ctx) : FS := (seqC (asgC (ttC (tconsC (tnC 2) (tconsC (tnC 3) tnilC))) (opC C.op .ix (opC C.op .ix (varC 0) (conC (.int 0))) (varC 1))) (seqC (retC (opC C.op .add (lstC (consC (varC 2) nilC)) (lcC (itvC (varC 3)) (ttC (tconsC (tnC 4) (tconsC (tnC 5) tnilC))) (conC (.bl true)) (varC 5) [4, 5]))) snilC))
theorem e_values_of (C : Ctx) : evS C b_values_of = s_values_of C := rfl
def f_values_of : Fn := ⟨2, 6, s_values_of⟩
abbrev i_values_of : Nat := 1
def d_values_of : Df := ⟨1, ⟨#[118, 97, 108, 117, 101, 115, 95, 111, 102]⟩, top 2, [⟨#[112, 108, 97, 110]⟩, ⟨#[115, 105, 103, 110]⟩, ⟨#[102, 105, 114, 115, 116]⟩, ⟨#[99, 104, 97, 110, 103, 101, 115]⟩, ⟨#[110, 97, 109, 101]⟩, ⟨#[108, 97, 116, 101, 114]⟩], [⟨#[112, 108, 97, 110]⟩, ⟨#[115, 105, 103, 110]⟩], b_values_of⟩
-- 2: plan sign version
def b_value_of : PX := (.cons (.ret (.op .ix (.cal 1 (.cons (.var 0) (.cons (.var 1) .nil))) (.var 2))) .nil)
def s_value_of (C : Ctx) : FS := (seqC (retC (opC C.op .ix (argC (C.call 1) (consC (varC 0) (consC (varC 1) nilC))) (varC 2))) snilC)
theorem e_value_of (C : Ctx) : evS C b_value_of = s_value_of C := rfl
def f_value_of : Fn := ⟨3, 3, s_value_of⟩
abbrev i_value_of : Nat := 2
def d_value_of : Df := ⟨2, ⟨#[118, 97, 108, 117, 101, 95, 111, 102]⟩, top 3, [⟨#[112, 108, 97, 110]⟩, ⟨#[115, 105, 103, 110]⟩, ⟨#[118, 101, 114, 115, 105, 111, 110]⟩], [⟨#[112, 108, 97, 110]⟩, ⟨#[115, 105, 103, 110]⟩, ⟨#[118, 101, 114, 115, 105, 111, 110]⟩], b_value_of⟩
-- 3: node
def b_is_read : PX := (.cons (.ret (.op .eq (.op .ix (.var 0) (.con (.int 0))) (.con (.str ⟨#[114, 101, 97, 100]⟩)))) .nil)
def s_is_read (C : Ctx) : FS := (seqC (retC (opC C.op .eq (opC C.op .ix (varC 0) (conC (.int 0))) (conC (.str ⟨#[114, 101, 97, 100]⟩)))) snilC)
theorem e_is_read (C : Ctx) : evS C b_is_read = s_is_read C := rfl
def f_is_read : Fn := ⟨1, 1, s_is_read⟩
abbrev i_is_read : Nat := 3
def d_is_read : Df := ⟨3, ⟨#[105, 115, 95, 114, 101, 97, 100]⟩, top 5, [⟨#[110, 111, 100, 101]⟩], [⟨#[110, 111, 100, 101]⟩], b_is_read⟩
-- 4: plan node value
def b_next_node : PX := (.cons (.ret (.mth .get2 (.bi .dict (.cons (.op .ix (.op .ix (.op .ix (.var 0) (.con (.int 2))) (.var 1)) (.con (.int 2))) .nil)) (.cons (.var 2) (.cons (.op .ix (.op .ix (.op .ix (.var 0) (.con (.int 2))) (.var 1)) (.con (.int 3))) .nil)))) .nil)
def s_next_node (C : Ctx) : FS := (seqC (retC (mthC .get2 (C.mt .get2) (biC (C.bi .dict) (consC (opC C.op .ix (opC C.op .ix (opC C.op .ix (varC 0) (conC (.int 2))) (varC 1)) (conC (.int 2))) nilC)) (consC (varC 2) (consC (opC C.op .ix (opC C.op .ix (opC C.op .ix (varC 0) (conC (.int 2))) (varC 1)) (conC (.int 3))) nilC)))) snilC)
theorem e_next_node (C : Ctx) : evS C b_next_node = s_next_node C := rfl
def f_next_node : Fn := ⟨3, 3, s_next_node⟩
abbrev i_next_node : Nat := 4
def d_next_node : Df := ⟨4, ⟨#[110, 101, 120, 116, 95, 110, 111, 100, 101]⟩, top 6, [⟨#[112, 108, 97, 110]⟩, ⟨#[110, 111, 100, 101]⟩, ⟨#[118, 97, 108, 117, 101]⟩], [⟨#[112, 108, 97, 110]⟩, ⟨#[110, 111, 100, 101]⟩, ⟨#[118, 97, 108, 117, 101]⟩], b_next_node⟩
-- 5: plan sign version
def b_value_at : PX := (.cons (.ret (.cal 2 (.cons (.var 0) (.cons (.var 1) (.cons (.var 2) .nil))))) .nil)
def s_value_at (C : Ctx) : FS := (seqC (retC (argC (C.call 2) (consC (varC 0) (consC (varC 1) (consC (varC 2) nilC))))) snilC)
theorem e_value_at (C : Ctx) : evS C b_value_at = s_value_at C := rfl
def f_value_at : Fn := ⟨3, 3, s_value_at⟩
abbrev i_value_at : Nat := 5
def d_value_at : Df := ⟨5, ⟨#[118, 97, 108, 117, 101, 95, 97, 116]⟩, top 7, [⟨#[112, 108, 97, 110]⟩, ⟨#[115, 105, 103, 110]⟩, ⟨#[118, 101, 114, 115, 105, 111, 110]⟩], [⟨#[112, 108, 97, 110]⟩, ⟨#[115, 105, 103, 110]⟩, ⟨#[118, 101, 114, 115, 105, 111, 110]⟩], b_value_at⟩
-- 6: plan node sights reads nodes version sign value
def b_walk : PX := (.cons (.par [3, 4] (.cons (.lst .nil) (.cons (.op .ix (.var 0) (.con (.int 2))) .nil))) (.cons (.fr (.itv (.var 2)) (.tn 5) (.cons (.iff (.not (.cal 3 (.cons (.op .ix (.var 4) (.var 1)) .nil))) (.cons .brk .nil) .nil) (.cons (.asg (.tn 6) (.op .ix (.op .ix (.var 4) (.var 1)) (.con (.int 1)))) (.cons (.iff (.op .gt (.var 5) (.cal 0 (.cons (.var 0) (.cons (.var 6) .nil)))) (.cons (.ret (.tup (.cons (.bi .tuple (.cons (.var 3) .nil)) (.cons (.tup (.cons (.con (.str ⟨#[97, 115, 116, 114, 97, 121]⟩)) (.cons (.var 1) .nil))) .nil)))) .nil) .nil) (.cons (.asg (.tn 7) (.cal 5 (.cons (.var 0) (.cons (.var 6) (.cons (.var 5) .nil))))) (.cons (.exp (.mth .append (.var 3) (.cons (.tup (.cons (.var 1) (.cons (.var 6) (.cons (.var 5) (.cons (.var 7) .nil))))) .nil))) (.cons (.asg (.tn 1) (.cal 4 (.cons (.var 0) (.cons (.var 1) (.cons (.var 7) .nil))))) .nil))))))) (.cons (.ret (.tup (.cons (.bi .tuple (.cons (.var 3) .nil)) (.cons (.ite (.cal 3 (.cons (.op .ix (.var 4) (.var 1)) .nil)) (.tup (.cons (.con (.str ⟨#[111, 112, 101, 110]⟩)) (.cons (.var 1) .nil))) (.op .ix (.var 4) (.var 1))) .nil)))) .nil)))
def s_walk (C : Ctx) : FS := (seqC (parC [3, 4] (consC (lstC nilC) (consC (opC C.op .ix (varC 0) (conC (.int 2))) nilC))) (seqC (frC (itvC (varC 2)) (tnC 5) (seqC (iffC (notC (argC (C.call 3) (consC (opC C.op .ix (varC 4) (varC 1)) nilC))) (seqC brkC snilC) snilC) (seqC (asgC (tnC 6) (opC C.op .ix (opC C.op .ix (varC 4) (varC 1)) (conC (.int 1)))) (seqC (iffC (opC C.op .gt (varC 5) (argC (C.call 0) (consC (varC 0) (consC (varC 6) nilC)))) (seqC (retC (tupC (consC (biC (C.bi .tuple) (consC (varC 3) nilC)) (consC (tupC (consC (conC (.str ⟨#[97, 115, 116, 114, 97, 121]⟩)) (consC (varC 1) nilC))) nilC)))) snilC) snilC) (seqC (asgC (tnC 7) (argC (C.call 5) (consC (varC 0) (consC (varC 6) (consC (varC 5) nilC))))) (seqC (expC (mthC .append (C.mt .append) (varC 3) (consC (tupC (consC (varC 1) (consC (varC 6) (consC (varC 5) (consC (varC 7) nilC))))) nilC))) (seqC (asgC (tnC 1) (argC (C.call 4) (consC (varC 0) (consC (varC 1) (consC (varC 7) nilC))))) snilC))))))) (seqC (retC (tupC (consC (biC (C.bi .tuple) (consC (varC 3) nilC)) (consC (iteC (argC (C.call 3) (consC (opC C.op .ix (varC 4) (varC 1)) nilC)) (tupC (consC (conC (.str ⟨#[111, 112, 101, 110]⟩)) (consC (varC 1) nilC))) (opC C.op .ix (varC 4) (varC 1))) nilC)))) snilC)))
theorem e_walk (C : Ctx) : evS C b_walk = s_walk C := rfl
def f_walk : Fn := ⟨3, 8, s_walk⟩
abbrev i_walk : Nat := 6
def d_walk : Df := ⟨6, ⟨#[119, 97, 108, 107]⟩, top 8, [⟨#[112, 108, 97, 110]⟩, ⟨#[110, 111, 100, 101]⟩, ⟨#[115, 105, 103, 104, 116, 115]⟩, ⟨#[114, 101, 97, 100, 115]⟩, ⟨#[110, 111, 100, 101, 115]⟩, ⟨#[118, 101, 114, 115, 105, 111, 110]⟩, ⟨#[115, 105, 103, 110]⟩, ⟨#[118, 97, 108, 117, 101]⟩], [⟨#[112, 108, 97, 110]⟩, ⟨#[110, 111, 100, 101]⟩, ⟨#[115, 105, 103, 104, 116, 115]⟩], b_walk⟩
-- 7: plan versions node count here
def b_still_walk : PX := (.cons (.fr (.ir1 (.bi .len (.cons (.op .ix (.var 0) (.con (.int 2))) .nil))) (.tn 3) (.cons (.asg (.tn 4) (.op .ix (.op .ix (.var 0) (.con (.int 2))) (.var 2))) (.cons (.iff (.not (.cal 3 (.cons (.var 4) .nil))) (.cons (.ret (.tup (.cons (.var 3) (.cons (.op .ix (.var 4) (.con (.int 1))) .nil)))) .nil) .nil) (.cons (.asg (.tn 2) (.cal 4 (.cons (.var 0) (.cons (.var 2) (.cons (.cal 5 (.cons (.var 0) (.cons (.op .ix (.var 4) (.con (.int 1))) (.cons (.op .ix (.var 1) (.op .ix (.var 4) (.con (.int 1)))) .nil)))) .nil))))) .nil)))) (.cons (.ret (.con .non)) .nil))
def s_still_walk (C : Ctx) : FS := (seqC (frC (argI rng1 (consC (biC (C.bi .len) (consC (opC C.op .ix (varC 0) (conC (.int 2))) nilC)) nilC)) (tnC 3) (seqC (asgC (tnC 4) (opC C.op .ix (opC C.op .ix (varC 0) (conC (.int 2))) (varC 2))) (seqC (iffC (notC (argC (C.call 3) (consC (varC 4) nilC))) (seqC (retC (tupC (consC (varC 3) (consC (opC C.op .ix (varC 4) (conC (.int 1))) nilC)))) snilC) snilC) (seqC (asgC (tnC 2) (argC (C.call 4) (consC (varC 0) (consC (varC 2) (consC (argC (C.call 5) (consC (varC 0) (consC (opC C.op .ix (varC 4) (conC (.int 1))) (consC (opC C.op .ix (varC 1) (opC C.op .ix (varC 4) (conC (.int 1)))) nilC)))) nilC))))) snilC)))) (seqC (retC (conC .non)) snilC))
theorem e_still_walk (C : Ctx) : evS C b_still_walk = s_still_walk C := rfl
def f_still_walk : Fn := ⟨3, 5, s_still_walk⟩
abbrev i_still_walk : Nat := 7
def d_still_walk : Df := ⟨7, ⟨#[115, 116, 105, 108, 108, 95, 119, 97, 108, 107]⟩, top 9, [⟨#[112, 108, 97, 110]⟩, ⟨#[118, 101, 114, 115, 105, 111, 110, 115]⟩, ⟨#[110, 111, 100, 101]⟩, ⟨#[99, 111, 117, 110, 116]⟩, ⟨#[104, 101, 114, 101]⟩], [⟨#[112, 108, 97, 110]⟩, ⟨#[118, 101, 114, 115, 105, 111, 110, 115]⟩, ⟨#[110, 111, 100, 101]⟩], b_still_walk⟩
-- 8: _law_script
def b_law_pen : PX := (.cons (.ret (.lst (.cons (.bi .list (.cons (.sli (.var 0) .nil (.con (.int 63))) .nil)) (.cons (.con (.int 0)) (.cons (.con (.int 0)) .nil))))) .nil)
def s_law_pen (C : Ctx) : FS := (seqC (retC (lstC (consC (biC (C.bi .list) (consC (sliC C.sli (varC 0) noneO (someO (conC (.int 63)))) nilC)) (consC (conC (.int 0)) (consC (conC (.int 0)) nilC))))) snilC)
theorem e_law_pen (C : Ctx) : evS C b_law_pen = s_law_pen C := rfl
def f_law_pen : Fn := ⟨1, 1, s_law_pen⟩
abbrev i_law_pen : Nat := 8
def d_law_pen : Df := ⟨8, ⟨#[95, 108, 97, 119, 95, 112, 101, 110]⟩, top 11, [⟨#[95, 108, 97, 119, 95, 115, 99, 114, 105, 112, 116]⟩], [⟨#[95, 108, 97, 119, 95, 115, 99, 114, 105, 112, 116]⟩], b_law_pen⟩
-- 9: _law_pen_here _law_at _law_cell _law_p _law_state _law_found _law_turn
def b_law_fresh : PX := (.cons (.asg (.tn 1) (.op .ix (.var 0) (.con (.int 1)))) (.cons (.asg (.tsu (.var 0) (.con (.int 1))) (.op .add (.var 1) (.con (.int 1)))) (.cons (.asg (.tn 2) (.con (.int 0))) (.cons (.iff (.op .ne (.op .ix (.var 0) (.con (.int 0))) (.lst .nil)) (.cons (.asg (.tn 2) (.op .ix (.op .ix (.var 0) (.con (.int 0))) (.op .mod (.bi .int (.cons (.var 1) .nil)) (.bi .len (.cons (.op .ix (.var 0) (.con (.int 0))) .nil))))) .nil) .nil) (.cons (.iff (.and (.op .lt (.var 1) (.bi .len (.cons (.op .ix (.var 0) (.con (.int 0))) .nil))) (.op .ge (.var 2) (.op .pow (.con (.int 10)) (.con (.int 18))))) (.cons (.ret (.op .sub (.var 2) (.op .pow (.con (.int 10)) (.con (.int 18))))) .nil) .nil) (.cons (.asg (.tn 3) (.con (.int 2305843009213693951))) (.cons (.asg (.tn 4) (.op .mod (.bi .int (.cons (.op .add (.op .add (.op .mul (.var 2) (.con (.int 48271))) (.op .mul (.con (.int 40692)) (.var 1))) (.con (.int 31))) .nil)) (.var 3))) (.cons (.asg (.tn 5) (.var 4)) (.cons (.fr (.ir1 (.con (.int 6))) (.tn 6) (.cons (.asg (.tn 4) (.op .mod (.bi .int (.cons (.op .add (.op .add (.op .mul (.var 4) (.var 4)) (.op .mul (.op .mul (.con (.int 69621)) (.op .add (.var 6) (.con (.int 1)))) (.op .add (.var 1) (.con (.int 1))))) (.var 2)) .nil)) (.var 3))) (.cons (.asg (.tn 5) (.op .add (.op .mul (.var 5) (.var 3)) (.var 4))) .nil))) (.cons (.ret (.var 5)) .nil))))))))))
def s_law_fresh (C : Ctx) : FS := (seqC (asgC (tnC 1) (opC C.op .ix (varC 0) (conC (.int 1)))) (seqC (asgC (tsuC C.set (varC 0) (conC (.int 1))) (opC C.op .add (varC 1) (conC (.int 1)))) (seqC (asgC (tnC 2) (conC (.int 0))) (seqC (iffC (opC C.op .ne (opC C.op .ix (varC 0) (conC (.int 0))) (lstC nilC)) (seqC (asgC (tnC 2) (opC C.op .ix (opC C.op .ix (varC 0) (conC (.int 0))) (opC C.op .mod (biC (C.bi .int) (consC (varC 1) nilC)) (biC (C.bi .len) (consC (opC C.op .ix (varC 0) (conC (.int 0))) nilC))))) snilC) snilC) (seqC (iffC (andC (opC C.op .lt (varC 1) (biC (C.bi .len) (consC (opC C.op .ix (varC 0) (conC (.int 0))) nilC))) (opC C.op .ge (varC 2) (opC C.op .pow (conC (.int 10)) (conC (.int 18))))) (seqC (retC (opC C.op .sub (varC 2) (opC C.op .pow (conC (.int 10)) (conC (.int 18))))) snilC) snilC) (seqC (asgC (tnC 3) (conC (.int 2305843009213693951))) (seqC (asgC (tnC 4) (opC C.op .mod (biC (C.bi .int) (consC (opC C.op .add (opC C.op .add (opC C.op .mul (varC 2) (conC (.int 48271))) (opC C.op .mul (conC (.int 40692)) (varC 1))) (conC (.int 31))) nilC)) (varC 3))) (seqC (asgC (tnC 5) (varC 4)) (seqC (frC (argI rng1 (consC (conC (.int 6)) nilC)) (tnC 6) (seqC (asgC (tnC 4) (opC C.op .mod (biC (C.bi .int) (consC (opC C.op .add (opC C.op .add (opC C.op .mul (varC 4) (varC 4)) (opC C.op .mul (opC C.op .mul (conC (.int 69621)) (opC C.op .add (varC 6) (conC (.int 1)))) (opC C.op .add (varC 1) (conC (.int 1))))) (varC 2)) nilC)) (varC 3))) (seqC (asgC (tnC 5) (opC C.op .add (opC C.op .mul (varC 5) (varC 3)) (varC 4))) snilC))) (seqC (retC (varC 5)) snilC))))))))))
theorem e_law_fresh (C : Ctx) : evS C b_law_fresh = s_law_fresh C := rfl
def f_law_fresh : Fn := ⟨1, 7, s_law_fresh⟩
abbrev i_law_fresh : Nat := 9
def d_law_fresh : Df := ⟨9, ⟨#[95, 108, 97, 119, 95, 102, 114, 101, 115, 104]⟩, top 12, [⟨#[95, 108, 97, 119, 95, 112, 101, 110, 95, 104, 101, 114, 101]⟩, ⟨#[95, 108, 97, 119, 95, 97, 116]⟩, ⟨#[95, 108, 97, 119, 95, 99, 101, 108, 108]⟩, ⟨#[95, 108, 97, 119, 95, 112]⟩, ⟨#[95, 108, 97, 119, 95, 115, 116, 97, 116, 101]⟩, ⟨#[95, 108, 97, 119, 95, 102, 111, 117, 110, 100]⟩, ⟨#[95, 108, 97, 119, 95, 116, 117, 114, 110]⟩], [⟨#[95, 108, 97, 119, 95, 112, 101, 110, 95, 104, 101, 114, 101]⟩], b_law_fresh⟩
-- 10: _law_pen_here _law_many _law_digit
def b_law_draw : PX := (.cons (.iff (.op .lt (.op .ix (.var 0) (.con (.int 2))) (.var 1)) (.cons (.asg (.tsu (.var 0) (.con (.int 2))) (.cal 9 (.cons (.var 0) .nil))) .nil) .nil) (.cons (.asg (.tn 2) (.op .mod (.bi .int (.cons (.op .ix (.var 0) (.con (.int 2))) .nil)) (.var 1))) (.cons (.asg (.tsu (.var 0) (.con (.int 2))) (.op .fdv (.bi .int (.cons (.op .ix (.var 0) (.con (.int 2))) .nil)) (.var 1))) (.cons (.ret (.var 2)) .nil))))
def s_law_draw (C : Ctx) : FS := (seqC (iffC (opC C.op .lt (opC C.op .ix (varC 0) (conC (.int 2))) (varC 1)) (seqC (asgC (tsuC C.set (varC 0) (conC (.int 2))) (argC (C.call 9) (consC (varC 0) nilC))) snilC) snilC) (seqC (asgC (tnC 2) (opC C.op .mod (biC (C.bi .int) (consC (opC C.op .ix (varC 0) (conC (.int 2))) nilC)) (varC 1))) (seqC (asgC (tsuC C.set (varC 0) (conC (.int 2))) (opC C.op .fdv (biC (C.bi .int) (consC (opC C.op .ix (varC 0) (conC (.int 2))) nilC)) (varC 1))) (seqC (retC (varC 2)) snilC))))
theorem e_law_draw (C : Ctx) : evS C b_law_draw = s_law_draw C := rfl
def f_law_draw : Fn := ⟨2, 3, s_law_draw⟩
abbrev i_law_draw : Nat := 10
def d_law_draw : Df := ⟨10, ⟨#[95, 108, 97, 119, 95, 100, 114, 97, 119]⟩, top 13, [⟨#[95, 108, 97, 119, 95, 112, 101, 110, 95, 104, 101, 114, 101]⟩, ⟨#[95, 108, 97, 119, 95, 109, 97, 110, 121]⟩, ⟨#[95, 108, 97, 119, 95, 100, 105, 103, 105, 116]⟩], [⟨#[95, 108, 97, 119, 95, 112, 101, 110, 95, 104, 101, 114, 101]⟩, ⟨#[95, 108, 97, 119, 95, 109, 97, 110, 121]⟩], b_law_draw⟩
-- 11: _law_script _law_pen_here _law_value _law_many _law_rows _law_number _law_fan _law_words _law_due _law_ring _law_at _law_plan _law_long _law_turns
def b_law : PX := (.cons (.asg (.tn 1) (.cal 8 (.cons (.var 0) .nil))) (.cons (.asg (.tt (.cons (.tn 2) (.cons (.tn 3) .nil))) (.tup (.cons (.cal 10 (.cons (.var 1) (.cons (.con (.int 10)) .nil))) (.cons (.op .add (.con (.int 1)) (.cal 10 (.cons (.var 1) (.cons (.con (.int 11)) .nil)))) .nil)))) (.cons (.asg (.tn 4) (.bi .tuple (.cons (.lc (.ir1 (.con (.int 10))) (.tn 5) (.con (.bl true)) (.tup (.cons (.var 5) (.cons (.op .add (.con (.int 1)) (.op .mod (.bi .int (.cons (.var 5) .nil)) (.con (.int 2)))) .nil))) [5]) .nil))) (.cons (.asg (.tn 6) (.tup (.cons (.tup (.cons (.tup (.cons (.var 2) (.cons (.tup (.cons (.tup (.cons (.con (.int 3)) (.cons (.op .mod (.bi .int (.cons (.op .add (.var 2) (.con (.int 1))) .nil)) (.con (.int 10))) .nil))) .nil)) .nil))) .nil)) (.cons (.tup (.cons (.con (.int 0)) .nil)) (.cons (.tup (.cons (.tup (.cons (.con (.str ⟨#[114, 101, 97, 100]⟩)) (.cons (.con (.int 0)) (.cons (.var 4) (.cons (.con (.int 0)) .nil))))) (.cons (.tup (.cons (.con (.str ⟨#[101, 110, 100]⟩)) (.cons (.con (.str ⟨#[103, 111, 111, 100]⟩)) .nil))) (.cons (.tup (.cons (.con (.str ⟨#[101, 110, 100]⟩)) (.cons (.con (.str ⟨#[109, 105, 115, 108, 101, 100]⟩)) .nil))) .nil)))) .nil))))) (.cons (.asg (.tn 7) (.lst (.cons (.tup (.cons (.con (.str ⟨#[101, 110, 100]⟩)) (.cons (.con (.str ⟨#[103, 111, 111, 100]⟩)) .nil))) (.cons (.tup (.cons (.con (.str ⟨#[101, 110, 100]⟩)) (.cons (.con (.str ⟨#[109, 105, 115, 108, 101, 100]⟩)) .nil))) .nil)))) (.cons (.asg (.tn 8) (.tup (.cons (.tup (.cons (.tup (.cons (.con (.int 0)) (.cons (.con (.int 0)) (.cons (.con (.int 0)) (.cons (.var 2) .nil))))) .nil)) (.cons (.op .ix (.var 7) (.op .mod (.bi .int (.cons (.var 2) .nil)) (.con (.int 2)))) .nil)))) (.cons (.iff (.or (.op .ne (.cal 6 (.cons (.var 6) (.cons (.con (.int 0)) (.cons (.tup (.cons (.con (.int 0)) .nil)) .nil)))) (.var 8)) (.or (.op .ne (.cal 6 (.cons (.var 6) (.cons (.con (.int 0)) (.cons (.tup (.cons (.con (.int 0)) (.cons (.con (.int 4)) (.cons (.con (.int 4)) .nil)))) .nil)))) (.var 8)) (.op .ne (.cal 6 (.cons (.var 6) (.cons (.con (.int 2)) (.cons (.tup (.cons (.con (.int 4)) .nil)) .nil)))) (.tup (.cons (.tup .nil) (.cons (.op .ix (.var 7) (.con (.int 1))) .nil)))))) (.cons (.ret (.con (.bl false))) .nil) .nil) (.cons (.iff (.or (.op .ne (.cal 6 (.cons (.var 6) (.cons (.con (.int 0)) (.cons (.tup (.cons (.con (.int 2)) .nil)) .nil)))) (.tup (.cons (.tup .nil) (.cons (.tup (.cons (.con (.str ⟨#[97, 115, 116, 114, 97, 121]⟩)) (.cons (.con (.int 0)) .nil))) .nil)))) (.op .ne (.cal 6 (.cons (.var 6) (.cons (.con (.int 0)) (.cons (.tup .nil) .nil)))) (.tup (.cons (.tup .nil) (.cons (.tup (.cons (.con (.str ⟨#[111, 112, 101, 110]⟩)) (.cons (.con (.int 0)) .nil))) .nil))))) (.cons (.ret (.con (.bl false))) .nil) .nil) (.cons (.iff (.op .ne (.cal 6 (.cons (.var 6) (.cons (.con (.int 0)) (.cons (.tup (.cons (.con (.int 1)) .nil)) .nil)))) (.tup (.cons (.tup (.cons (.tup (.cons (.con (.int 0)) (.cons (.con (.int 0)) (.cons (.con (.int 1)) (.cons (.op .mod (.bi .int (.cons (.op .add (.var 2) (.con (.int 1))) .nil)) (.con (.int 10))) .nil))))) .nil)) (.cons (.op .ix (.var 7) (.op .mod (.bi .int (.cons (.op .add (.var 2) (.con (.int 1))) .nil)) (.con (.int 2)))) .nil)))) (.cons (.ret (.con (.bl false))) .nil) .nil) (.cons (.iff (.or (.op .ne (.cal 7 (.cons (.var 6) (.cons (.tup (.cons (.con (.int 1)) .nil)) (.cons (.con (.int 0)) .nil)))) (.tup (.cons (.con (.int 1)) (.cons (.op .ix (.op .ix (.var 7) (.op .mod (.bi .int (.cons (.op .add (.var 2) (.con (.int 1))) .nil)) (.con (.int 2)))) (.con (.int 1))) .nil)))) (.op .ne (.cal 7 (.cons (.var 6) (.cons (.tup (.cons (.con (.int 0)) .nil)) (.cons (.con (.int 1)) .nil)))) (.tup (.cons (.con (.int 0)) (.cons (.con (.str ⟨#[103, 111, 111, 100]⟩)) .nil))))) (.cons (.ret (.con (.bl false))) .nil) .nil) (.cons (.asg (.tn 9) (.op .add (.lc (.ir1 (.op .sub (.var 3) (.con (.int 1)))) (.tn 10) (.con (.bl true)) (.tup (.cons (.con (.str ⟨#[114, 101, 97, 100]⟩)) (.cons (.con (.int 0)) (.cons (.tup .nil) (.cons (.op .mod (.bi .int (.cons (.op .add (.var 10) (.con (.int 1))) .nil)) (.var 3)) .nil))))) [10]) (.lst (.cons (.tup (.cons (.con (.str ⟨#[114, 101, 97, 100]⟩)) (.cons (.con (.int 1)) (.cons (.tup (.cons (.tup (.cons (.con (.int 5)) (.cons (.var 3) .nil))) .nil)) (.cons (.con (.int 0)) .nil))))) .nil)))) (.cons (.asg (.tn 11) (.tup (.cons (.tup (.cons (.tup (.cons (.con (.int 7)) (.cons (.tup .nil) .nil))) (.cons (.tup (.cons (.con (.int 0)) (.cons (.tup (.cons (.tup (.cons (.con (.int 0)) (.cons (.con (.int 5)) .nil))) .nil)) .nil))) .nil))) (.cons (.tup (.cons (.con (.int 0)) .nil)) (.cons (.op .add (.bi .tuple (.cons (.var 9) .nil)) (.tup (.cons (.tup (.cons (.con (.str ⟨#[101, 110, 100]⟩)) (.cons (.con (.str ⟨#[103, 111, 111, 100]⟩)) .nil))) .nil))) .nil))))) (.cons (.iff (.or (.op .isnN (.cal 7 (.cons (.var 11) (.cons (.tup (.cons (.con (.int 0)) (.cons (.con (.int 0)) .nil))) (.cons (.con (.int 0)) .nil)))) (.con .non)) (.op .ne (.cal 7 (.cons (.var 11) (.cons (.tup (.cons (.con (.int 0)) (.cons (.con (.int 1)) .nil))) (.cons (.con (.int 0)) .nil)))) (.tup (.cons (.var 3) (.cons (.con (.str ⟨#[103, 111, 111, 100]⟩)) .nil))))) (.cons (.ret (.con (.bl false))) .nil) .nil) (.cons (.asg (.tn 12) (.cal 6 (.cons (.var 11) (.cons (.con (.int 0)) (.cons (.op .mul (.tup (.cons (.con (.int 0)) .nil)) (.con (.int 400))) .nil))))) (.cons (.iff (.or (.op .ne (.bi .len (.cons (.op .ix (.var 12) (.con (.int 0))) .nil)) (.con (.int 400))) (.op .ne (.op .ix (.var 12) (.con (.int 1))) (.tup (.cons (.con (.str ⟨#[111, 112, 101, 110]⟩)) (.cons (.op .mod (.bi .int (.cons (.con (.int 400)) .nil)) (.var 3)) .nil))))) (.cons (.ret (.con (.bl false))) .nil) .nil) (.cons (.asg (.tn 13) (.tup (.cons (.tup (.cons (.tup (.cons (.con (.int 7)) (.cons (.tup (.cons (.tup (.cons (.var 2) (.cons (.con (.int 5)) .nil))) .nil)) .nil))) .nil)) (.cons (.tup (.cons (.con (.int 0)) .nil)) (.cons (.tup (.cons (.tup (.cons (.con (.str ⟨#[114, 101, 97, 100]⟩)) (.cons (.con (.int 0)) (.cons (.tup .nil) (.cons (.con (.int 0)) .nil))))) .nil)) .nil))))) (.cons (.iff (.op .ne (.cal 6 (.cons (.var 13) (.cons (.con (.int 0)) (.cons (.op .mul (.tup (.cons (.con (.int 0)) (.cons (.con (.int 1)) .nil))) (.con (.int 200))) .nil)))) (.tup (.cons (.op .mul (.tup (.cons (.tup (.cons (.con (.int 0)) (.cons (.con (.int 0)) (.cons (.con (.int 0)) (.cons (.con (.int 7)) .nil))))) (.cons (.tup (.cons (.con (.int 0)) (.cons (.con (.int 0)) (.cons (.con (.int 1)) (.cons (.con (.int 5)) .nil))))) .nil))) (.con (.int 200))) (.cons (.tup (.cons (.con (.str ⟨#[111, 112, 101, 110]⟩)) (.cons (.con (.int 0)) .nil))) .nil)))) (.cons (.ret (.con (.bl false))) .nil) .nil) (.cons (.ret (.op .eq (.op .ix (.cal 6 (.cons (.var 11) (.cons (.con (.int 0)) (.cons (.op .add (.op .mul (.tup (.cons (.con (.int 0)) .nil)) (.op .sub (.var 3) (.con (.int 1)))) (.tup (.cons (.con (.int 1)) .nil))) .nil)))) (.con (.int 1))) (.tup (.cons (.con (.str ⟨#[101, 110, 100]⟩)) (.cons (.con (.str ⟨#[103, 111, 111, 100]⟩)) .nil))))) .nil))))))))))))))))))
def r_law_18 (C : Ctx) : FS := snilC
def r_law_17 (C : Ctx) : FS := seqC (retC (opC C.op .eq (opC C.op .ix (argC (C.call 6) (consC (varC 11) (consC (conC (.int 0)) (consC (opC C.op .add (opC C.op .mul (tupC (consC (conC (.int 0)) nilC)) (opC C.op .sub (varC 3) (conC (.int 1)))) (tupC (consC (conC (.int 1)) nilC))) nilC)))) (conC (.int 1))) (tupC (consC (conC (.str ⟨#[101, 110, 100]⟩)) (consC (conC (.str ⟨#[103, 111, 111, 100]⟩)) nilC))))) (r_law_18 C)
def r_law_16 (C : Ctx) : FS := seqC (iffC (opC C.op .ne (argC (C.call 6) (consC (varC 13) (consC (conC (.int 0)) (consC (opC C.op .mul (tupC (consC (conC (.int 0)) (consC (conC (.int 1)) nilC))) (conC (.int 200))) nilC)))) (tupC (consC (opC C.op .mul (tupC (consC (tupC (consC (conC (.int 0)) (consC (conC (.int 0)) (consC (conC (.int 0)) (consC (conC (.int 7)) nilC))))) (consC (tupC (consC (conC (.int 0)) (consC (conC (.int 0)) (consC (conC (.int 1)) (consC (conC (.int 5)) nilC))))) nilC))) (conC (.int 200))) (consC (tupC (consC (conC (.str ⟨#[111, 112, 101, 110]⟩)) (consC (conC (.int 0)) nilC))) nilC)))) (seqC (retC (conC (.bl false))) snilC) snilC) (r_law_17 C)
def r_law_15 (C : Ctx) : FS := seqC (asgC (tnC 13) (tupC (consC (tupC (consC (tupC (consC (conC (.int 7)) (consC (tupC (consC (tupC (consC (varC 2) (consC (conC (.int 5)) nilC))) nilC)) nilC))) nilC)) (consC (tupC (consC (conC (.int 0)) nilC)) (consC (tupC (consC (tupC (consC (conC (.str ⟨#[114, 101, 97, 100]⟩)) (consC (conC (.int 0)) (consC (tupC nilC) (consC (conC (.int 0)) nilC))))) nilC)) nilC))))) (r_law_16 C)
def r_law_14 (C : Ctx) : FS := seqC (iffC (orC (opC C.op .ne (biC (C.bi .len) (consC (opC C.op .ix (varC 12) (conC (.int 0))) nilC)) (conC (.int 400))) (opC C.op .ne (opC C.op .ix (varC 12) (conC (.int 1))) (tupC (consC (conC (.str ⟨#[111, 112, 101, 110]⟩)) (consC (opC C.op .mod (biC (C.bi .int) (consC (conC (.int 400)) nilC)) (varC 3)) nilC))))) (seqC (retC (conC (.bl false))) snilC) snilC) (r_law_15 C)
def r_law_13 (C : Ctx) : FS := seqC (asgC (tnC 12) (argC (C.call 6) (consC (varC 11) (consC (conC (.int 0)) (consC (opC C.op .mul (tupC (consC (conC (.int 0)) nilC)) (conC (.int 400))) nilC))))) (r_law_14 C)
def r_law_12 (C : Ctx) : FS := seqC (iffC (orC (opC C.op .isnN (argC (C.call 7) (consC (varC 11) (consC (tupC (consC (conC (.int 0)) (consC (conC (.int 0)) nilC))) (consC (conC (.int 0)) nilC)))) (conC .non)) (opC C.op .ne (argC (C.call 7) (consC (varC 11) (consC (tupC (consC (conC (.int 0)) (consC (conC (.int 1)) nilC))) (consC (conC (.int 0)) nilC)))) (tupC (consC (varC 3) (consC (conC (.str ⟨#[103, 111, 111, 100]⟩)) nilC))))) (seqC (retC (conC (.bl false))) snilC) snilC) (r_law_13 C)
def r_law_11 (C : Ctx) : FS := seqC (asgC (tnC 11) (tupC (consC (tupC (consC (tupC (consC (conC (.int 7)) (consC (tupC nilC) nilC))) (consC (tupC (consC (conC (.int 0)) (consC (tupC (consC (tupC (consC (conC (.int 0)) (consC (conC (.int 5)) nilC))) nilC)) nilC))) nilC))) (consC (tupC (consC (conC (.int 0)) nilC)) (consC (opC C.op .add (biC (C.bi .tuple) (consC (varC 9) nilC)) (tupC (consC (tupC (consC (conC (.str ⟨#[101, 110, 100]⟩)) (consC (conC (.str ⟨#[103, 111, 111, 100]⟩)) nilC))) nilC))) nilC))))) (r_law_12 C)
def r_law_10 (C : Ctx) : FS := seqC (asgC (tnC 9) (opC C.op .add (lcC (argI rng1 (consC (opC C.op .sub (varC 3) (conC (.int 1))) nilC)) (tnC 10) (conC (.bl true)) (tupC (consC (conC (.str ⟨#[114, 101, 97, 100]⟩)) (consC (conC (.int 0)) (consC (tupC nilC) (consC (opC C.op .mod (biC (C.bi .int) (consC (opC C.op .add (varC 10) (conC (.int 1))) nilC)) (varC 3)) nilC))))) [10]) (lstC (consC (tupC (consC (conC (.str ⟨#[114, 101, 97, 100]⟩)) (consC (conC (.int 1)) (consC (tupC (consC (tupC (consC (conC (.int 5)) (consC (varC 3) nilC))) nilC)) (consC (conC (.int 0)) nilC))))) nilC)))) (r_law_11 C)
def r_law_9 (C : Ctx) : FS := seqC (iffC (orC (opC C.op .ne (argC (C.call 7) (consC (varC 6) (consC (tupC (consC (conC (.int 1)) nilC)) (consC (conC (.int 0)) nilC)))) (tupC (consC (conC (.int 1)) (consC (opC C.op .ix (opC C.op .ix (varC 7) (opC C.op .mod (biC (C.bi .int) (consC (opC C.op .add (varC 2) (conC (.int 1))) nilC)) (conC (.int 2)))) (conC (.int 1))) nilC)))) (opC C.op .ne (argC (C.call 7) (consC (varC 6) (consC (tupC (consC (conC (.int 0)) nilC)) (consC (conC (.int 1)) nilC)))) (tupC (consC (conC (.int 0)) (consC (conC (.str ⟨#[103, 111, 111, 100]⟩)) nilC))))) (seqC (retC (conC (.bl false))) snilC) snilC) (r_law_10 C)
def r_law_8 (C : Ctx) : FS := seqC (iffC (opC C.op .ne (argC (C.call 6) (consC (varC 6) (consC (conC (.int 0)) (consC (tupC (consC (conC (.int 1)) nilC)) nilC)))) (tupC (consC (tupC (consC (tupC (consC (conC (.int 0)) (consC (conC (.int 0)) (consC (conC (.int 1)) (consC (opC C.op .mod (biC (C.bi .int) (consC (opC C.op .add (varC 2) (conC (.int 1))) nilC)) (conC (.int 10))) nilC))))) nilC)) (consC (opC C.op .ix (varC 7) (opC C.op .mod (biC (C.bi .int) (consC (opC C.op .add (varC 2) (conC (.int 1))) nilC)) (conC (.int 2)))) nilC)))) (seqC (retC (conC (.bl false))) snilC) snilC) (r_law_9 C)
def r_law_7 (C : Ctx) : FS := seqC (iffC (orC (opC C.op .ne (argC (C.call 6) (consC (varC 6) (consC (conC (.int 0)) (consC (tupC (consC (conC (.int 2)) nilC)) nilC)))) (tupC (consC (tupC nilC) (consC (tupC (consC (conC (.str ⟨#[97, 115, 116, 114, 97, 121]⟩)) (consC (conC (.int 0)) nilC))) nilC)))) (opC C.op .ne (argC (C.call 6) (consC (varC 6) (consC (conC (.int 0)) (consC (tupC nilC) nilC)))) (tupC (consC (tupC nilC) (consC (tupC (consC (conC (.str ⟨#[111, 112, 101, 110]⟩)) (consC (conC (.int 0)) nilC))) nilC))))) (seqC (retC (conC (.bl false))) snilC) snilC) (r_law_8 C)
def r_law_6 (C : Ctx) : FS := seqC (iffC (orC (opC C.op .ne (argC (C.call 6) (consC (varC 6) (consC (conC (.int 0)) (consC (tupC (consC (conC (.int 0)) nilC)) nilC)))) (varC 8)) (orC (opC C.op .ne (argC (C.call 6) (consC (varC 6) (consC (conC (.int 0)) (consC (tupC (consC (conC (.int 0)) (consC (conC (.int 4)) (consC (conC (.int 4)) nilC)))) nilC)))) (varC 8)) (opC C.op .ne (argC (C.call 6) (consC (varC 6) (consC (conC (.int 2)) (consC (tupC (consC (conC (.int 4)) nilC)) nilC)))) (tupC (consC (tupC nilC) (consC (opC C.op .ix (varC 7) (conC (.int 1))) nilC)))))) (seqC (retC (conC (.bl false))) snilC) snilC) (r_law_7 C)
def r_law_5 (C : Ctx) : FS := seqC (asgC (tnC 8) (tupC (consC (tupC (consC (tupC (consC (conC (.int 0)) (consC (conC (.int 0)) (consC (conC (.int 0)) (consC (varC 2) nilC))))) nilC)) (consC (opC C.op .ix (varC 7) (opC C.op .mod (biC (C.bi .int) (consC (varC 2) nilC)) (conC (.int 2)))) nilC)))) (r_law_6 C)
def r_law_4 (C : Ctx) : FS := seqC (asgC (tnC 7) (lstC (consC (tupC (consC (conC (.str ⟨#[101, 110, 100]⟩)) (consC (conC (.str ⟨#[103, 111, 111, 100]⟩)) nilC))) (consC (tupC (consC (conC (.str ⟨#[101, 110, 100]⟩)) (consC (conC (.str ⟨#[109, 105, 115, 108, 101, 100]⟩)) nilC))) nilC)))) (r_law_5 C)
def r_law_3 (C : Ctx) : FS := seqC (asgC (tnC 6) (tupC (consC (tupC (consC (tupC (consC (varC 2) (consC (tupC (consC (tupC (consC (conC (.int 3)) (consC (opC C.op .mod (biC (C.bi .int) (consC (opC C.op .add (varC 2) (conC (.int 1))) nilC)) (conC (.int 10))) nilC))) nilC)) nilC))) nilC)) (consC (tupC (consC (conC (.int 0)) nilC)) (consC (tupC (consC (tupC (consC (conC (.str ⟨#[114, 101, 97, 100]⟩)) (consC (conC (.int 0)) (consC (varC 4) (consC (conC (.int 0)) nilC))))) (consC (tupC (consC (conC (.str ⟨#[101, 110, 100]⟩)) (consC (conC (.str ⟨#[103, 111, 111, 100]⟩)) nilC))) (consC (tupC (consC (conC (.str ⟨#[101, 110, 100]⟩)) (consC (conC (.str ⟨#[109, 105, 115, 108, 101, 100]⟩)) nilC))) nilC)))) nilC))))) (r_law_4 C)
def r_law_2 (C : Ctx) : FS := seqC (asgC (tnC 4) (biC (C.bi .tuple) (consC (lcC (argI rng1 (consC (conC (.int 10)) nilC)) (tnC 5) (conC (.bl true)) (tupC (consC (varC 5) (consC (opC C.op .add (conC (.int 1)) (opC C.op .mod (biC (C.bi .int) (consC (varC 5) nilC)) (conC (.int 2)))) nilC))) [5]) nilC))) (r_law_3 C)
def r_law_1 (C : Ctx) : FS := seqC (asgC (ttC (tconsC (tnC 2) (tconsC (tnC 3) tnilC))) (tupC (consC (argC (C.call 10) (consC (varC 1) (consC (conC (.int 10)) nilC))) (consC (opC C.op .add (conC (.int 1)) (argC (C.call 10) (consC (varC 1) (consC (conC (.int 11)) nilC)))) nilC)))) (r_law_2 C)
def r_law_0 (C : Ctx) : FS := seqC (asgC (tnC 1) (argC (C.call 8) (consC (varC 0) nilC))) (r_law_1 C)
def s_law (C : Ctx) : FS := r_law_0 C
def g_law_0_1 (C : Ctx) : FS := (seqC (asgC (tnC 1) (argC (C.call 8) (consC (varC 0) nilC))) snilC)
theorem c_law_0_1 (C : Ctx) : r_law_0 C = seqC (g_law_0_1 C) (r_law_1 C) := by unfold g_law_0_1; simp only [seq_assoc, seq_nil]; rfl
def g_law_1_2 (C : Ctx) : FS := (seqC (asgC (ttC (tconsC (tnC 2) (tconsC (tnC 3) tnilC))) (tupC (consC (argC (C.call 10) (consC (varC 1) (consC (conC (.int 10)) nilC))) (consC (opC C.op .add (conC (.int 1)) (argC (C.call 10) (consC (varC 1) (consC (conC (.int 11)) nilC)))) nilC)))) snilC)
theorem c_law_1_2 (C : Ctx) : r_law_1 C = seqC (g_law_1_2 C) (r_law_2 C) := by unfold g_law_1_2; simp only [seq_assoc, seq_nil]; rfl
def g_law_2_10 (C : Ctx) : FS := (seqC (asgC (tnC 4) (biC (C.bi .tuple) (consC (lcC (argI rng1 (consC (conC (.int 10)) nilC)) (tnC 5) (conC (.bl true)) (tupC (consC (varC 5) (consC (opC C.op .add (conC (.int 1)) (opC C.op .mod (biC (C.bi .int) (consC (varC 5) nilC)) (conC (.int 2)))) nilC))) [5]) nilC))) (seqC (asgC (tnC 6) (tupC (consC (tupC (consC (tupC (consC (varC 2) (consC (tupC (consC (tupC (consC (conC (.int 3)) (consC (opC C.op .mod (biC (C.bi .int) (consC (opC C.op .add (varC 2) (conC (.int 1))) nilC)) (conC (.int 10))) nilC))) nilC)) nilC))) nilC)) (consC (tupC (consC (conC (.int 0)) nilC)) (consC (tupC (consC (tupC (consC (conC (.str ⟨#[114, 101, 97, 100]⟩)) (consC (conC (.int 0)) (consC (varC 4) (consC (conC (.int 0)) nilC))))) (consC (tupC (consC (conC (.str ⟨#[101, 110, 100]⟩)) (consC (conC (.str ⟨#[103, 111, 111, 100]⟩)) nilC))) (consC (tupC (consC (conC (.str ⟨#[101, 110, 100]⟩)) (consC (conC (.str ⟨#[109, 105, 115, 108, 101, 100]⟩)) nilC))) nilC)))) nilC))))) (seqC (asgC (tnC 7) (lstC (consC (tupC (consC (conC (.str ⟨#[101, 110, 100]⟩)) (consC (conC (.str ⟨#[103, 111, 111, 100]⟩)) nilC))) (consC (tupC (consC (conC (.str ⟨#[101, 110, 100]⟩)) (consC (conC (.str ⟨#[109, 105, 115, 108, 101, 100]⟩)) nilC))) nilC)))) (seqC (asgC (tnC 8) (tupC (consC (tupC (consC (tupC (consC (conC (.int 0)) (consC (conC (.int 0)) (consC (conC (.int 0)) (consC (varC 2) nilC))))) nilC)) (consC (opC C.op .ix (varC 7) (opC C.op .mod (biC (C.bi .int) (consC (varC 2) nilC)) (conC (.int 2)))) nilC)))) (seqC (iffC (orC (opC C.op .ne (argC (C.call 6) (consC (varC 6) (consC (conC (.int 0)) (consC (tupC (consC (conC (.int 0)) nilC)) nilC)))) (varC 8)) (orC (opC C.op .ne (argC (C.call 6) (consC (varC 6) (consC (conC (.int 0)) (consC (tupC (consC (conC (.int 0)) (consC (conC (.int 4)) (consC (conC (.int 4)) nilC)))) nilC)))) (varC 8)) (opC C.op .ne (argC (C.call 6) (consC (varC 6) (consC (conC (.int 2)) (consC (tupC (consC (conC (.int 4)) nilC)) nilC)))) (tupC (consC (tupC nilC) (consC (opC C.op .ix (varC 7) (conC (.int 1))) nilC)))))) (seqC (retC (conC (.bl false))) snilC) snilC) (seqC (iffC (orC (opC C.op .ne (argC (C.call 6) (consC (varC 6) (consC (conC (.int 0)) (consC (tupC (consC (conC (.int 2)) nilC)) nilC)))) (tupC (consC (tupC nilC) (consC (tupC (consC (conC (.str ⟨#[97, 115, 116, 114, 97, 121]⟩)) (consC (conC (.int 0)) nilC))) nilC)))) (opC C.op .ne (argC (C.call 6) (consC (varC 6) (consC (conC (.int 0)) (consC (tupC nilC) nilC)))) (tupC (consC (tupC nilC) (consC (tupC (consC (conC (.str ⟨#[111, 112, 101, 110]⟩)) (consC (conC (.int 0)) nilC))) nilC))))) (seqC (retC (conC (.bl false))) snilC) snilC) (seqC (iffC (opC C.op .ne (argC (C.call 6) (consC (varC 6) (consC (conC (.int 0)) (consC (tupC (consC (conC (.int 1)) nilC)) nilC)))) (tupC (consC (tupC (consC (tupC (consC (conC (.int 0)) (consC (conC (.int 0)) (consC (conC (.int 1)) (consC (opC C.op .mod (biC (C.bi .int) (consC (opC C.op .add (varC 2) (conC (.int 1))) nilC)) (conC (.int 10))) nilC))))) nilC)) (consC (opC C.op .ix (varC 7) (opC C.op .mod (biC (C.bi .int) (consC (opC C.op .add (varC 2) (conC (.int 1))) nilC)) (conC (.int 2)))) nilC)))) (seqC (retC (conC (.bl false))) snilC) snilC) (seqC (iffC (orC (opC C.op .ne (argC (C.call 7) (consC (varC 6) (consC (tupC (consC (conC (.int 1)) nilC)) (consC (conC (.int 0)) nilC)))) (tupC (consC (conC (.int 1)) (consC (opC C.op .ix (opC C.op .ix (varC 7) (opC C.op .mod (biC (C.bi .int) (consC (opC C.op .add (varC 2) (conC (.int 1))) nilC)) (conC (.int 2)))) (conC (.int 1))) nilC)))) (opC C.op .ne (argC (C.call 7) (consC (varC 6) (consC (tupC (consC (conC (.int 0)) nilC)) (consC (conC (.int 1)) nilC)))) (tupC (consC (conC (.int 0)) (consC (conC (.str ⟨#[103, 111, 111, 100]⟩)) nilC))))) (seqC (retC (conC (.bl false))) snilC) snilC) snilC))))))))
theorem c_law_2_10 (C : Ctx) : r_law_2 C = seqC (g_law_2_10 C) (r_law_10 C) := by unfold g_law_2_10; simp only [seq_assoc, seq_nil]; rfl
def g_law_10_15 (C : Ctx) : FS := (seqC (asgC (tnC 9) (opC C.op .add (lcC (argI rng1 (consC (opC C.op .sub (varC 3) (conC (.int 1))) nilC)) (tnC 10) (conC (.bl true)) (tupC (consC (conC (.str ⟨#[114, 101, 97, 100]⟩)) (consC (conC (.int 0)) (consC (tupC nilC) (consC (opC C.op .mod (biC (C.bi .int) (consC (opC C.op .add (varC 10) (conC (.int 1))) nilC)) (varC 3)) nilC))))) [10]) (lstC (consC (tupC (consC (conC (.str ⟨#[114, 101, 97, 100]⟩)) (consC (conC (.int 1)) (consC (tupC (consC (tupC (consC (conC (.int 5)) (consC (varC 3) nilC))) nilC)) (consC (conC (.int 0)) nilC))))) nilC)))) (seqC (asgC (tnC 11) (tupC (consC (tupC (consC (tupC (consC (conC (.int 7)) (consC (tupC nilC) nilC))) (consC (tupC (consC (conC (.int 0)) (consC (tupC (consC (tupC (consC (conC (.int 0)) (consC (conC (.int 5)) nilC))) nilC)) nilC))) nilC))) (consC (tupC (consC (conC (.int 0)) nilC)) (consC (opC C.op .add (biC (C.bi .tuple) (consC (varC 9) nilC)) (tupC (consC (tupC (consC (conC (.str ⟨#[101, 110, 100]⟩)) (consC (conC (.str ⟨#[103, 111, 111, 100]⟩)) nilC))) nilC))) nilC))))) (seqC (iffC (orC (opC C.op .isnN (argC (C.call 7) (consC (varC 11) (consC (tupC (consC (conC (.int 0)) (consC (conC (.int 0)) nilC))) (consC (conC (.int 0)) nilC)))) (conC .non)) (opC C.op .ne (argC (C.call 7) (consC (varC 11) (consC (tupC (consC (conC (.int 0)) (consC (conC (.int 1)) nilC))) (consC (conC (.int 0)) nilC)))) (tupC (consC (varC 3) (consC (conC (.str ⟨#[103, 111, 111, 100]⟩)) nilC))))) (seqC (retC (conC (.bl false))) snilC) snilC) (seqC (asgC (tnC 12) (argC (C.call 6) (consC (varC 11) (consC (conC (.int 0)) (consC (opC C.op .mul (tupC (consC (conC (.int 0)) nilC)) (conC (.int 400))) nilC))))) (seqC (iffC (orC (opC C.op .ne (biC (C.bi .len) (consC (opC C.op .ix (varC 12) (conC (.int 0))) nilC)) (conC (.int 400))) (opC C.op .ne (opC C.op .ix (varC 12) (conC (.int 1))) (tupC (consC (conC (.str ⟨#[111, 112, 101, 110]⟩)) (consC (opC C.op .mod (biC (C.bi .int) (consC (conC (.int 400)) nilC)) (varC 3)) nilC))))) (seqC (retC (conC (.bl false))) snilC) snilC) snilC)))))
theorem c_law_10_15 (C : Ctx) : r_law_10 C = seqC (g_law_10_15 C) (r_law_15 C) := by unfold g_law_10_15; simp only [seq_assoc, seq_nil]; rfl
def g_law_15_17 (C : Ctx) : FS := (seqC (asgC (tnC 13) (tupC (consC (tupC (consC (tupC (consC (conC (.int 7)) (consC (tupC (consC (tupC (consC (varC 2) (consC (conC (.int 5)) nilC))) nilC)) nilC))) nilC)) (consC (tupC (consC (conC (.int 0)) nilC)) (consC (tupC (consC (tupC (consC (conC (.str ⟨#[114, 101, 97, 100]⟩)) (consC (conC (.int 0)) (consC (tupC nilC) (consC (conC (.int 0)) nilC))))) nilC)) nilC))))) (seqC (iffC (opC C.op .ne (argC (C.call 6) (consC (varC 13) (consC (conC (.int 0)) (consC (opC C.op .mul (tupC (consC (conC (.int 0)) (consC (conC (.int 1)) nilC))) (conC (.int 200))) nilC)))) (tupC (consC (opC C.op .mul (tupC (consC (tupC (consC (conC (.int 0)) (consC (conC (.int 0)) (consC (conC (.int 0)) (consC (conC (.int 7)) nilC))))) (consC (tupC (consC (conC (.int 0)) (consC (conC (.int 0)) (consC (conC (.int 1)) (consC (conC (.int 5)) nilC))))) nilC))) (conC (.int 200))) (consC (tupC (consC (conC (.str ⟨#[111, 112, 101, 110]⟩)) (consC (conC (.int 0)) nilC))) nilC)))) (seqC (retC (conC (.bl false))) snilC) snilC) snilC))
theorem c_law_15_17 (C : Ctx) : r_law_15 C = seqC (g_law_15_17 C) (r_law_17 C) := by unfold g_law_15_17; simp only [seq_assoc, seq_nil]; rfl
theorem e_law (C : Ctx) : evS C b_law = s_law C := rfl
def f_law : Fn := ⟨1, 14, s_law⟩
abbrev i_law : Nat := 11
def d_law : Df := ⟨11, ⟨#[108, 97, 119]⟩, top 14, [⟨#[95, 108, 97, 119, 95, 115, 99, 114, 105, 112, 116]⟩, ⟨#[95, 108, 97, 119, 95, 112, 101, 110, 95, 104, 101, 114, 101]⟩, ⟨#[95, 108, 97, 119, 95, 118, 97, 108, 117, 101]⟩, ⟨#[95, 108, 97, 119, 95, 109, 97, 110, 121]⟩, ⟨#[95, 108, 97, 119, 95, 114, 111, 119, 115]⟩, ⟨#[95, 108, 97, 119, 95, 110, 117, 109, 98, 101, 114]⟩, ⟨#[95, 108, 97, 119, 95, 102, 97, 110]⟩, ⟨#[95, 108, 97, 119, 95, 119, 111, 114, 100, 115]⟩, ⟨#[95, 108, 97, 119, 95, 100, 117, 101]⟩, ⟨#[95, 108, 97, 119, 95, 114, 105, 110, 103]⟩, ⟨#[95, 108, 97, 119, 95, 97, 116]⟩, ⟨#[95, 108, 97, 119, 95, 112, 108, 97, 110]⟩, ⟨#[95, 108, 97, 119, 95, 108, 111, 110, 103]⟩, ⟨#[95, 108, 97, 119, 95, 116, 117, 114, 110, 115]⟩], [⟨#[95, 108, 97, 119, 95, 115, 99, 114, 105, 112, 116]⟩], b_law⟩
def progL : List Fn := [f_change_count, f_values_of, f_value_of, f_is_read, f_next_node, f_value_at, f_walk, f_still_walk, f_law_pen, f_law_fresh, f_law_draw, f_law]
def prog : Prog := ⟨fun i => progL[i]?, fun _ => none, fun _ _ => none⟩
abbrev ds : List Df := [d_change_count, d_values_of, d_value_of, d_is_read, d_next_node, d_value_at, d_walk, d_still_walk, d_law_pen, d_law_fresh, d_law_draw, d_law]
def gl : List (PySem.Str × GK) := [(⟨#[99, 104, 97, 110, 103, 101, 95, 99, 111, 117, 110, 116]⟩, .fn 0), (⟨#[118, 97, 108, 117, 101, 115, 95, 111, 102]⟩, .fn 1), (⟨#[118, 97, 108, 117, 101, 95, 111, 102]⟩, .fn 2), (⟨#[105, 115, 95, 114, 101, 97, 100]⟩, .fn 3), (⟨#[110, 101, 120, 116, 95, 110, 111, 100, 101]⟩, .fn 4), (⟨#[118, 97, 108, 117, 101, 95, 97, 116]⟩, .fn 5), (⟨#[119, 97, 108, 107]⟩, .fn 6), (⟨#[115, 116, 105, 108, 108, 95, 119, 97, 108, 107]⟩, .fn 7), (⟨#[95, 108, 97, 119, 95, 112, 101, 110]⟩, .fn 8), (⟨#[95, 108, 97, 119, 95, 102, 114, 101, 115, 104]⟩, .fn 9), (⟨#[95, 108, 97, 119, 95, 100, 114, 97, 119]⟩, .fn 10), (⟨#[108, 97, 119]⟩, .fn 11)]
theorem t_change_count : DfT prog 60 gl d_change_count := ⟨by decide +kernel, ⟨s_change_count, rfl, fun C => (e_change_count C).symm⟩, fun _ _ _ _ _ _ us hl => match us, hl with | [_, _], _ => rfl⟩
theorem t_values_of : DfT prog 60 gl d_values_of := ⟨by decide +kernel, ⟨s_values_of, rfl, fun C => (e_values_of C).symm⟩, fun _ _ _ _ _ _ us hl => match us, hl with | [_, _], _ => rfl⟩
theorem t_value_of : DfT prog 60 gl d_value_of := ⟨by decide +kernel, ⟨s_value_of, rfl, fun C => (e_value_of C).symm⟩, fun _ _ _ _ _ _ us hl => match us, hl with | [_, _, _], _ => rfl⟩
theorem t_is_read : DfT prog 60 gl d_is_read := ⟨by decide +kernel, ⟨s_is_read, rfl, fun C => (e_is_read C).symm⟩, fun _ _ _ _ _ _ us hl => match us, hl with | [_], _ => rfl⟩
theorem t_next_node : DfT prog 60 gl d_next_node := ⟨by decide +kernel, ⟨s_next_node, rfl, fun C => (e_next_node C).symm⟩, fun _ _ _ _ _ _ us hl => match us, hl with | [_, _, _], _ => rfl⟩
theorem t_value_at : DfT prog 60 gl d_value_at := ⟨by decide +kernel, ⟨s_value_at, rfl, fun C => (e_value_at C).symm⟩, fun _ _ _ _ _ _ us hl => match us, hl with | [_, _, _], _ => rfl⟩
theorem t_walk : DfT prog 60 gl d_walk := ⟨by decide +kernel, ⟨s_walk, rfl, fun C => (e_walk C).symm⟩, fun _ _ _ _ _ _ us hl => match us, hl with | [_, _, _], _ => rfl⟩
theorem t_still_walk : DfT prog 60 gl d_still_walk := ⟨by decide +kernel, ⟨s_still_walk, rfl, fun C => (e_still_walk C).symm⟩, fun _ _ _ _ _ _ us hl => match us, hl with | [_, _, _], _ => rfl⟩
theorem t_law_pen : DfT prog 60 gl d_law_pen := ⟨by decide +kernel, ⟨s_law_pen, rfl, fun C => (e_law_pen C).symm⟩, fun _ _ _ _ _ _ us hl => match us, hl with | [_], _ => rfl⟩
theorem t_law_fresh : DfT prog 60 gl d_law_fresh := ⟨by decide +kernel, ⟨s_law_fresh, rfl, fun C => (e_law_fresh C).symm⟩, fun _ _ _ _ _ _ us hl => match us, hl with | [_], _ => rfl⟩
theorem t_law_draw : DfT prog 60 gl d_law_draw := ⟨by decide +kernel, ⟨s_law_draw, rfl, fun C => (e_law_draw C).symm⟩, fun _ _ _ _ _ _ us hl => match us, hl with | [_, _], _ => rfl⟩
theorem t_law : DfT prog 60 gl d_law := ⟨by decide +kernel, ⟨s_law, rfl, fun C => (e_law C).symm⟩, fun _ _ _ _ _ _ us hl => match us, hl with | [_], _ => rfl⟩
theorem t_all : ∀ d ∈ ds, DfT prog 60 gl d := by
  intro d hd
  simp only [ds, List.mem_cons, List.not_mem_nil, or_false] at hd
  rcases hd with rfl | rfl | rfl | rfl | rfl | rfl | rfl | rfl | rfl | rfl | rfl | rfl
  · exact t_change_count
  · exact t_values_of
  · exact t_value_of
  · exact t_is_read
  · exact t_next_node
  · exact t_value_at
  · exact t_walk
  · exact t_still_walk
  · exact t_law_pen
  · exact t_law_fresh
  · exact t_law_draw
  · exact t_law
def loose0 : List PySem.Str := ["change_count", "values_of", "value_of", "is_read", "next_node", "value_at", "walk", "still_walk", "_law_pen", "_law_fresh", "_law_draw"]
abbrev loose : List PySem.Str := loose0
theorem gl_of : ∀ x i, gl.lookup x = some (.fn i) → ∃ d ∈ ds, d.x = x ∧ d.i = i := by
  intro x i h
  exact gl_find (by decide +kernel) h
end
noncomputable section
open PySem PySem.Spec PyProof.Rows L2
abbrev R : PySem.W.OpenRow := PySem.W.OpenLaw.row PySem.Challenge.rw_leavefirst_k50_walks_by_hand
abbrev hk : PySem.W.Hook := He.hookD 4 (faOf ds) (fnOfD ds)
def ob (s : PySem.W.SharedT) : He.AlD := He.obsDG 4 (faOf ds) (fnOfD ds) (HandSHeadRun.getT s)
theorem ob_eq (s : PySem.W.SharedT) : ob s = hk.obs s.abs := He.obsDG_eq (HandSHeadRun.getT_eq s)
theorem run (w : World) : HandSHeadRun.RunEq R (PySem.W.view R.prog [14]) hk ob 600 loose w := by
  intro os
  kernel_rfl
end
end Cl

namespace Cl
open Lf
abbrev C50 : Ctx := mkCtx prog (callN prog 11) (callN prog 10)
def RA (v0 m : PV) (h : Hh) (d : Int) : SR := g_law_2_10 C50 [some v0, some (.ref 2), some (.int d), some m, none, none, none, none, none, none, none, none, none, none] h
def RB (v0 : PV) (d m : Int) (v4 v5 v6 v7 v8 : Option PV) (h : Hh) : SR := r_law_10 C50 [some v0, some (.ref 2), some (.int d), some (.int (1 + m)), v4, v5, v6, v7, v8, none, none, none, none, none] h
theorem ten {d : Int} (h0 : 0 ≤ d) (h1 : d < 10) : d = 0 ∨ d = 1 ∨ d = 2 ∨ d = 3 ∨ d = 4 ∨ d = 5 ∨ d = 6 ∨ d = 7 ∨ d = 8 ∨ d = 9 := by omega
theorem eleven {d : Int} (h0 : 0 ≤ d) (h1 : d < 11) : d = 0 ∨ d = 1 ∨ d = 2 ∨ d = 3 ∨ d = 4 ∨ d = 5 ∨ d = 6 ∨ d = 7 ∨ d = 8 ∨ d = 9 ∨ d = 10 := by omega
theorem stA4_0 (v0 m : PV) (o0 o1 o2 : Ob) : RA v0 m [o0, o1, o2, .lst []] 0 = .nx [some v0, some (.ref 2), some (.int 0), some m, gE (RA v0 m [o0, o1, o2, .lst []] 0) 4, gE (RA v0 m [o0, o1, o2, .lst []] 0) 5, gE (RA v0 m [o0, o1, o2, .lst []] 0) 6, gE (RA v0 m [o0, o1, o2, .lst []] 0) 7, gE (RA v0 m [o0, o1, o2, .lst []] 0) 8, none, none, none, none, none] ([o0, o1, o2, .lst []] ++ [gO (RA v0 m [o0, o1, o2, .lst []] 0) 4, gO (RA v0 m [o0, o1, o2, .lst []] 0) 5]) := by kernel_rfl
theorem stA4_1 (v0 m : PV) (o0 o1 o2 : Ob) : RA v0 m [o0, o1, o2, .lst []] 1 = .nx [some v0, some (.ref 2), some (.int 1), some m, gE (RA v0 m [o0, o1, o2, .lst []] 1) 4, gE (RA v0 m [o0, o1, o2, .lst []] 1) 5, gE (RA v0 m [o0, o1, o2, .lst []] 1) 6, gE (RA v0 m [o0, o1, o2, .lst []] 1) 7, gE (RA v0 m [o0, o1, o2, .lst []] 1) 8, none, none, none, none, none] ([o0, o1, o2, .lst []] ++ [gO (RA v0 m [o0, o1, o2, .lst []] 1) 4, gO (RA v0 m [o0, o1, o2, .lst []] 1) 5]) := by kernel_rfl
theorem stA4_2 (v0 m : PV) (o0 o1 o2 : Ob) : RA v0 m [o0, o1, o2, .lst []] 2 = .nx [some v0, some (.ref 2), some (.int 2), some m, gE (RA v0 m [o0, o1, o2, .lst []] 2) 4, gE (RA v0 m [o0, o1, o2, .lst []] 2) 5, gE (RA v0 m [o0, o1, o2, .lst []] 2) 6, gE (RA v0 m [o0, o1, o2, .lst []] 2) 7, gE (RA v0 m [o0, o1, o2, .lst []] 2) 8, none, none, none, none, none] ([o0, o1, o2, .lst []] ++ [gO (RA v0 m [o0, o1, o2, .lst []] 2) 4, gO (RA v0 m [o0, o1, o2, .lst []] 2) 5]) := by kernel_rfl
theorem stA4_3 (v0 m : PV) (o0 o1 o2 : Ob) : RA v0 m [o0, o1, o2, .lst []] 3 = .nx [some v0, some (.ref 2), some (.int 3), some m, gE (RA v0 m [o0, o1, o2, .lst []] 3) 4, gE (RA v0 m [o0, o1, o2, .lst []] 3) 5, gE (RA v0 m [o0, o1, o2, .lst []] 3) 6, gE (RA v0 m [o0, o1, o2, .lst []] 3) 7, gE (RA v0 m [o0, o1, o2, .lst []] 3) 8, none, none, none, none, none] ([o0, o1, o2, .lst []] ++ [gO (RA v0 m [o0, o1, o2, .lst []] 3) 4, gO (RA v0 m [o0, o1, o2, .lst []] 3) 5]) := by kernel_rfl
theorem stA4_4 (v0 m : PV) (o0 o1 o2 : Ob) : RA v0 m [o0, o1, o2, .lst []] 4 = .nx [some v0, some (.ref 2), some (.int 4), some m, gE (RA v0 m [o0, o1, o2, .lst []] 4) 4, gE (RA v0 m [o0, o1, o2, .lst []] 4) 5, gE (RA v0 m [o0, o1, o2, .lst []] 4) 6, gE (RA v0 m [o0, o1, o2, .lst []] 4) 7, gE (RA v0 m [o0, o1, o2, .lst []] 4) 8, none, none, none, none, none] ([o0, o1, o2, .lst []] ++ [gO (RA v0 m [o0, o1, o2, .lst []] 4) 4, gO (RA v0 m [o0, o1, o2, .lst []] 4) 5]) := by kernel_rfl
theorem stA4_5 (v0 m : PV) (o0 o1 o2 : Ob) : RA v0 m [o0, o1, o2, .lst []] 5 = .nx [some v0, some (.ref 2), some (.int 5), some m, gE (RA v0 m [o0, o1, o2, .lst []] 5) 4, gE (RA v0 m [o0, o1, o2, .lst []] 5) 5, gE (RA v0 m [o0, o1, o2, .lst []] 5) 6, gE (RA v0 m [o0, o1, o2, .lst []] 5) 7, gE (RA v0 m [o0, o1, o2, .lst []] 5) 8, none, none, none, none, none] ([o0, o1, o2, .lst []] ++ [gO (RA v0 m [o0, o1, o2, .lst []] 5) 4, gO (RA v0 m [o0, o1, o2, .lst []] 5) 5]) := by kernel_rfl
theorem stA4_6 (v0 m : PV) (o0 o1 o2 : Ob) : RA v0 m [o0, o1, o2, .lst []] 6 = .nx [some v0, some (.ref 2), some (.int 6), some m, gE (RA v0 m [o0, o1, o2, .lst []] 6) 4, gE (RA v0 m [o0, o1, o2, .lst []] 6) 5, gE (RA v0 m [o0, o1, o2, .lst []] 6) 6, gE (RA v0 m [o0, o1, o2, .lst []] 6) 7, gE (RA v0 m [o0, o1, o2, .lst []] 6) 8, none, none, none, none, none] ([o0, o1, o2, .lst []] ++ [gO (RA v0 m [o0, o1, o2, .lst []] 6) 4, gO (RA v0 m [o0, o1, o2, .lst []] 6) 5]) := by kernel_rfl
theorem stA4_7 (v0 m : PV) (o0 o1 o2 : Ob) : RA v0 m [o0, o1, o2, .lst []] 7 = .nx [some v0, some (.ref 2), some (.int 7), some m, gE (RA v0 m [o0, o1, o2, .lst []] 7) 4, gE (RA v0 m [o0, o1, o2, .lst []] 7) 5, gE (RA v0 m [o0, o1, o2, .lst []] 7) 6, gE (RA v0 m [o0, o1, o2, .lst []] 7) 7, gE (RA v0 m [o0, o1, o2, .lst []] 7) 8, none, none, none, none, none] ([o0, o1, o2, .lst []] ++ [gO (RA v0 m [o0, o1, o2, .lst []] 7) 4, gO (RA v0 m [o0, o1, o2, .lst []] 7) 5]) := by kernel_rfl
theorem stA4_8 (v0 m : PV) (o0 o1 o2 : Ob) : RA v0 m [o0, o1, o2, .lst []] 8 = .nx [some v0, some (.ref 2), some (.int 8), some m, gE (RA v0 m [o0, o1, o2, .lst []] 8) 4, gE (RA v0 m [o0, o1, o2, .lst []] 8) 5, gE (RA v0 m [o0, o1, o2, .lst []] 8) 6, gE (RA v0 m [o0, o1, o2, .lst []] 8) 7, gE (RA v0 m [o0, o1, o2, .lst []] 8) 8, none, none, none, none, none] ([o0, o1, o2, .lst []] ++ [gO (RA v0 m [o0, o1, o2, .lst []] 8) 4, gO (RA v0 m [o0, o1, o2, .lst []] 8) 5]) := by kernel_rfl
theorem stA4_9 (v0 m : PV) (o0 o1 o2 : Ob) : RA v0 m [o0, o1, o2, .lst []] 9 = .nx [some v0, some (.ref 2), some (.int 9), some m, gE (RA v0 m [o0, o1, o2, .lst []] 9) 4, gE (RA v0 m [o0, o1, o2, .lst []] 9) 5, gE (RA v0 m [o0, o1, o2, .lst []] 9) 6, gE (RA v0 m [o0, o1, o2, .lst []] 9) 7, gE (RA v0 m [o0, o1, o2, .lst []] 9) 8, none, none, none, none, none] ([o0, o1, o2, .lst []] ++ [gO (RA v0 m [o0, o1, o2, .lst []] 9) 4, gO (RA v0 m [o0, o1, o2, .lst []] 9) 5]) := by kernel_rfl
theorem stB4_0 (v0 : PV) (d : Int) (v4 v5 v6 v7 v8 : Option PV) (o0 o1 o2 o3 o4 o5 : Ob) : isRT (RB v0 d 0 v4 v5 v6 v7 v8 [o0, o1, o2, o3, o4, o5]) = true := by kernel_rfl
theorem stB4_1 (v0 : PV) (d : Int) (v4 v5 v6 v7 v8 : Option PV) (o0 o1 o2 o3 o4 o5 : Ob) : isRT (RB v0 d 1 v4 v5 v6 v7 v8 [o0, o1, o2, o3, o4, o5]) = true := by kernel_rfl
theorem stB4_2 (v0 : PV) (d : Int) (v4 v5 v6 v7 v8 : Option PV) (o0 o1 o2 o3 o4 o5 : Ob) : isRT (RB v0 d 2 v4 v5 v6 v7 v8 [o0, o1, o2, o3, o4, o5]) = true := by kernel_rfl
theorem stB4_3 (v0 : PV) (d : Int) (v4 v5 v6 v7 v8 : Option PV) (o0 o1 o2 o3 o4 o5 : Ob) : isRT (RB v0 d 3 v4 v5 v6 v7 v8 [o0, o1, o2, o3, o4, o5]) = true := by kernel_rfl
theorem stB4_4 (v0 : PV) (d : Int) (v4 v5 v6 v7 v8 : Option PV) (o0 o1 o2 o3 o4 o5 : Ob) : isRT (RB v0 d 4 v4 v5 v6 v7 v8 [o0, o1, o2, o3, o4, o5]) = true := by kernel_rfl
theorem stB4_5 (v0 : PV) (d : Int) (v4 v5 v6 v7 v8 : Option PV) (o0 o1 o2 o3 o4 o5 : Ob) : isRT (RB v0 d 5 v4 v5 v6 v7 v8 [o0, o1, o2, o3, o4, o5]) = true := by kernel_rfl
theorem stB4_6 (v0 : PV) (d : Int) (v4 v5 v6 v7 v8 : Option PV) (o0 o1 o2 o3 o4 o5 : Ob) : isRT (RB v0 d 6 v4 v5 v6 v7 v8 [o0, o1, o2, o3, o4, o5]) = true := by kernel_rfl
theorem stB4_7 (v0 : PV) (d : Int) (v4 v5 v6 v7 v8 : Option PV) (o0 o1 o2 o3 o4 o5 : Ob) : isRT (RB v0 d 7 v4 v5 v6 v7 v8 [o0, o1, o2, o3, o4, o5]) = true := by kernel_rfl
theorem stB4_8 (v0 : PV) (d : Int) (v4 v5 v6 v7 v8 : Option PV) (o0 o1 o2 o3 o4 o5 : Ob) : isRT (RB v0 d 8 v4 v5 v6 v7 v8 [o0, o1, o2, o3, o4, o5]) = true := by kernel_rfl
theorem stB4_9 (v0 : PV) (d : Int) (v4 v5 v6 v7 v8 : Option PV) (o0 o1 o2 o3 o4 o5 : Ob) : isRT (RB v0 d 9 v4 v5 v6 v7 v8 [o0, o1, o2, o3, o4, o5]) = true := by kernel_rfl
theorem stB4_10 (v0 : PV) (d : Int) (v4 v5 v6 v7 v8 : Option PV) (o0 o1 o2 o3 o4 o5 : Ob) : isRT (RB v0 d 10 v4 v5 v6 v7 v8 [o0, o1, o2, o3, o4, o5]) = true := by kernel_rfl
theorem stA4 (v0 m : PV) (o0 o1 o2 : Ob) (d : Int) (h0 : 0 ≤ d) (h1 : d < 10) : RA v0 m [o0, o1, o2, .lst []] d =
    .nx [some v0, some (.ref 2), some (.int d), some m, gE (RA v0 m [o0, o1, o2, .lst []] d) 4, gE (RA v0 m [o0, o1, o2, .lst []] d) 5, gE (RA v0 m [o0, o1, o2, .lst []] d) 6, gE (RA v0 m [o0, o1, o2, .lst []] d) 7, gE (RA v0 m [o0, o1, o2, .lst []] d) 8, none, none, none, none, none]
      ([o0, o1, o2, .lst []] ++ [gO (RA v0 m [o0, o1, o2, .lst []] d) 4, gO (RA v0 m [o0, o1, o2, .lst []] d) 5]) := by
  rcases ten h0 h1 with rfl | rfl | rfl | rfl | rfl | rfl | rfl | rfl | rfl | rfl
  · exact stA4_0 v0 m o0 o1 o2
  · exact stA4_1 v0 m o0 o1 o2
  · exact stA4_2 v0 m o0 o1 o2
  · exact stA4_3 v0 m o0 o1 o2
  · exact stA4_4 v0 m o0 o1 o2
  · exact stA4_5 v0 m o0 o1 o2
  · exact stA4_6 v0 m o0 o1 o2
  · exact stA4_7 v0 m o0 o1 o2
  · exact stA4_8 v0 m o0 o1 o2
  · exact stA4_9 v0 m o0 o1 o2
theorem stB4 (v0 : PV) (d : Int) (v4 v5 v6 v7 v8 : Option PV) (o0 o1 o2 o3 o4 o5 : Ob) (m : Int) (h0 : 0 ≤ m) (h1 : m < 11) : isRT (RB v0 d m v4 v5 v6 v7 v8 [o0, o1, o2, o3, o4, o5]) = true := by
  rcases eleven h0 h1 with rfl | rfl | rfl | rfl | rfl | rfl | rfl | rfl | rfl | rfl | rfl
  · exact stB4_0 v0 d v4 v5 v6 v7 v8 o0 o1 o2 o3 o4 o5
  · exact stB4_1 v0 d v4 v5 v6 v7 v8 o0 o1 o2 o3 o4 o5
  · exact stB4_2 v0 d v4 v5 v6 v7 v8 o0 o1 o2 o3 o4 o5
  · exact stB4_3 v0 d v4 v5 v6 v7 v8 o0 o1 o2 o3 o4 o5
  · exact stB4_4 v0 d v4 v5 v6 v7 v8 o0 o1 o2 o3 o4 o5
  · exact stB4_5 v0 d v4 v5 v6 v7 v8 o0 o1 o2 o3 o4 o5
  · exact stB4_6 v0 d v4 v5 v6 v7 v8 o0 o1 o2 o3 o4 o5
  · exact stB4_7 v0 d v4 v5 v6 v7 v8 o0 o1 o2 o3 o4 o5
  · exact stB4_8 v0 d v4 v5 v6 v7 v8 o0 o1 o2 o3 o4 o5
  · exact stB4_9 v0 d v4 v5 v6 v7 v8 o0 o1 o2 o3 o4 o5
  · exact stB4_10 v0 d v4 v5 v6 v7 v8 o0 o1 o2 o3 o4 o5
theorem st4 (v0 : PV) (o0 o1 o2 : Ob) (d m : Int) (h0 : 0 ≤ d) (h1 : d < 10) (g0 : 0 ≤ m) (g1 : m < 11) : ∃ h, r_law_2 C50 [some v0, some (.ref 2), some (.int d), some (.int (1 + m)), none, none, none, none, none, none, none, none, none, none] [o0, o1, o2, .lst []] = .rt (.bl true) h := by
  obtain ⟨h, e⟩ := isRT_ok (stB4 v0 d (gE (RA v0 (.int (1 + m)) [o0, o1, o2, .lst []] d) 4) (gE (RA v0 (.int (1 + m)) [o0, o1, o2, .lst []] d) 5) (gE (RA v0 (.int (1 + m)) [o0, o1, o2, .lst []] d) 6) (gE (RA v0 (.int (1 + m)) [o0, o1, o2, .lst []] d) 7) (gE (RA v0 (.int (1 + m)) [o0, o1, o2, .lst []] d) 8) o0 o1 o2 (.lst []) (gO (RA v0 (.int (1 + m)) [o0, o1, o2, .lst []] d) 4) (gO (RA v0 (.int (1 + m)) [o0, o1, o2, .lst []] d) 5) m g0 g1)
  refine ⟨h, ?_⟩
  rw [c_law_2_10]
  exact (seq_nx (stA4 v0 (.int (1 + m)) o0 o1 o2 d h0 h1)).trans e
theorem stA5_0 (v0 m : PV) (o0 o1 o2 : Ob) : RA v0 m [o0, o1, o2, .lst [], .lst []] 0 = .nx [some v0, some (.ref 2), some (.int 0), some m, gE (RA v0 m [o0, o1, o2, .lst [], .lst []] 0) 4, gE (RA v0 m [o0, o1, o2, .lst [], .lst []] 0) 5, gE (RA v0 m [o0, o1, o2, .lst [], .lst []] 0) 6, gE (RA v0 m [o0, o1, o2, .lst [], .lst []] 0) 7, gE (RA v0 m [o0, o1, o2, .lst [], .lst []] 0) 8, none, none, none, none, none] ([o0, o1, o2, .lst [], .lst []] ++ [gO (RA v0 m [o0, o1, o2, .lst [], .lst []] 0) 5, gO (RA v0 m [o0, o1, o2, .lst [], .lst []] 0) 6]) := by kernel_rfl
theorem stA5_1 (v0 m : PV) (o0 o1 o2 : Ob) : RA v0 m [o0, o1, o2, .lst [], .lst []] 1 = .nx [some v0, some (.ref 2), some (.int 1), some m, gE (RA v0 m [o0, o1, o2, .lst [], .lst []] 1) 4, gE (RA v0 m [o0, o1, o2, .lst [], .lst []] 1) 5, gE (RA v0 m [o0, o1, o2, .lst [], .lst []] 1) 6, gE (RA v0 m [o0, o1, o2, .lst [], .lst []] 1) 7, gE (RA v0 m [o0, o1, o2, .lst [], .lst []] 1) 8, none, none, none, none, none] ([o0, o1, o2, .lst [], .lst []] ++ [gO (RA v0 m [o0, o1, o2, .lst [], .lst []] 1) 5, gO (RA v0 m [o0, o1, o2, .lst [], .lst []] 1) 6]) := by kernel_rfl
theorem stA5_2 (v0 m : PV) (o0 o1 o2 : Ob) : RA v0 m [o0, o1, o2, .lst [], .lst []] 2 = .nx [some v0, some (.ref 2), some (.int 2), some m, gE (RA v0 m [o0, o1, o2, .lst [], .lst []] 2) 4, gE (RA v0 m [o0, o1, o2, .lst [], .lst []] 2) 5, gE (RA v0 m [o0, o1, o2, .lst [], .lst []] 2) 6, gE (RA v0 m [o0, o1, o2, .lst [], .lst []] 2) 7, gE (RA v0 m [o0, o1, o2, .lst [], .lst []] 2) 8, none, none, none, none, none] ([o0, o1, o2, .lst [], .lst []] ++ [gO (RA v0 m [o0, o1, o2, .lst [], .lst []] 2) 5, gO (RA v0 m [o0, o1, o2, .lst [], .lst []] 2) 6]) := by kernel_rfl
theorem stA5_3 (v0 m : PV) (o0 o1 o2 : Ob) : RA v0 m [o0, o1, o2, .lst [], .lst []] 3 = .nx [some v0, some (.ref 2), some (.int 3), some m, gE (RA v0 m [o0, o1, o2, .lst [], .lst []] 3) 4, gE (RA v0 m [o0, o1, o2, .lst [], .lst []] 3) 5, gE (RA v0 m [o0, o1, o2, .lst [], .lst []] 3) 6, gE (RA v0 m [o0, o1, o2, .lst [], .lst []] 3) 7, gE (RA v0 m [o0, o1, o2, .lst [], .lst []] 3) 8, none, none, none, none, none] ([o0, o1, o2, .lst [], .lst []] ++ [gO (RA v0 m [o0, o1, o2, .lst [], .lst []] 3) 5, gO (RA v0 m [o0, o1, o2, .lst [], .lst []] 3) 6]) := by kernel_rfl
theorem stA5_4 (v0 m : PV) (o0 o1 o2 : Ob) : RA v0 m [o0, o1, o2, .lst [], .lst []] 4 = .nx [some v0, some (.ref 2), some (.int 4), some m, gE (RA v0 m [o0, o1, o2, .lst [], .lst []] 4) 4, gE (RA v0 m [o0, o1, o2, .lst [], .lst []] 4) 5, gE (RA v0 m [o0, o1, o2, .lst [], .lst []] 4) 6, gE (RA v0 m [o0, o1, o2, .lst [], .lst []] 4) 7, gE (RA v0 m [o0, o1, o2, .lst [], .lst []] 4) 8, none, none, none, none, none] ([o0, o1, o2, .lst [], .lst []] ++ [gO (RA v0 m [o0, o1, o2, .lst [], .lst []] 4) 5, gO (RA v0 m [o0, o1, o2, .lst [], .lst []] 4) 6]) := by kernel_rfl
theorem stA5_5 (v0 m : PV) (o0 o1 o2 : Ob) : RA v0 m [o0, o1, o2, .lst [], .lst []] 5 = .nx [some v0, some (.ref 2), some (.int 5), some m, gE (RA v0 m [o0, o1, o2, .lst [], .lst []] 5) 4, gE (RA v0 m [o0, o1, o2, .lst [], .lst []] 5) 5, gE (RA v0 m [o0, o1, o2, .lst [], .lst []] 5) 6, gE (RA v0 m [o0, o1, o2, .lst [], .lst []] 5) 7, gE (RA v0 m [o0, o1, o2, .lst [], .lst []] 5) 8, none, none, none, none, none] ([o0, o1, o2, .lst [], .lst []] ++ [gO (RA v0 m [o0, o1, o2, .lst [], .lst []] 5) 5, gO (RA v0 m [o0, o1, o2, .lst [], .lst []] 5) 6]) := by kernel_rfl
theorem stA5_6 (v0 m : PV) (o0 o1 o2 : Ob) : RA v0 m [o0, o1, o2, .lst [], .lst []] 6 = .nx [some v0, some (.ref 2), some (.int 6), some m, gE (RA v0 m [o0, o1, o2, .lst [], .lst []] 6) 4, gE (RA v0 m [o0, o1, o2, .lst [], .lst []] 6) 5, gE (RA v0 m [o0, o1, o2, .lst [], .lst []] 6) 6, gE (RA v0 m [o0, o1, o2, .lst [], .lst []] 6) 7, gE (RA v0 m [o0, o1, o2, .lst [], .lst []] 6) 8, none, none, none, none, none] ([o0, o1, o2, .lst [], .lst []] ++ [gO (RA v0 m [o0, o1, o2, .lst [], .lst []] 6) 5, gO (RA v0 m [o0, o1, o2, .lst [], .lst []] 6) 6]) := by kernel_rfl
theorem stA5_7 (v0 m : PV) (o0 o1 o2 : Ob) : RA v0 m [o0, o1, o2, .lst [], .lst []] 7 = .nx [some v0, some (.ref 2), some (.int 7), some m, gE (RA v0 m [o0, o1, o2, .lst [], .lst []] 7) 4, gE (RA v0 m [o0, o1, o2, .lst [], .lst []] 7) 5, gE (RA v0 m [o0, o1, o2, .lst [], .lst []] 7) 6, gE (RA v0 m [o0, o1, o2, .lst [], .lst []] 7) 7, gE (RA v0 m [o0, o1, o2, .lst [], .lst []] 7) 8, none, none, none, none, none] ([o0, o1, o2, .lst [], .lst []] ++ [gO (RA v0 m [o0, o1, o2, .lst [], .lst []] 7) 5, gO (RA v0 m [o0, o1, o2, .lst [], .lst []] 7) 6]) := by kernel_rfl
theorem stA5_8 (v0 m : PV) (o0 o1 o2 : Ob) : RA v0 m [o0, o1, o2, .lst [], .lst []] 8 = .nx [some v0, some (.ref 2), some (.int 8), some m, gE (RA v0 m [o0, o1, o2, .lst [], .lst []] 8) 4, gE (RA v0 m [o0, o1, o2, .lst [], .lst []] 8) 5, gE (RA v0 m [o0, o1, o2, .lst [], .lst []] 8) 6, gE (RA v0 m [o0, o1, o2, .lst [], .lst []] 8) 7, gE (RA v0 m [o0, o1, o2, .lst [], .lst []] 8) 8, none, none, none, none, none] ([o0, o1, o2, .lst [], .lst []] ++ [gO (RA v0 m [o0, o1, o2, .lst [], .lst []] 8) 5, gO (RA v0 m [o0, o1, o2, .lst [], .lst []] 8) 6]) := by kernel_rfl
theorem stA5_9 (v0 m : PV) (o0 o1 o2 : Ob) : RA v0 m [o0, o1, o2, .lst [], .lst []] 9 = .nx [some v0, some (.ref 2), some (.int 9), some m, gE (RA v0 m [o0, o1, o2, .lst [], .lst []] 9) 4, gE (RA v0 m [o0, o1, o2, .lst [], .lst []] 9) 5, gE (RA v0 m [o0, o1, o2, .lst [], .lst []] 9) 6, gE (RA v0 m [o0, o1, o2, .lst [], .lst []] 9) 7, gE (RA v0 m [o0, o1, o2, .lst [], .lst []] 9) 8, none, none, none, none, none] ([o0, o1, o2, .lst [], .lst []] ++ [gO (RA v0 m [o0, o1, o2, .lst [], .lst []] 9) 5, gO (RA v0 m [o0, o1, o2, .lst [], .lst []] 9) 6]) := by kernel_rfl
theorem stB5_0 (v0 : PV) (d : Int) (v4 v5 v6 v7 v8 : Option PV) (o0 o1 o2 o3 o4 o5 o6 : Ob) : isRT (RB v0 d 0 v4 v5 v6 v7 v8 [o0, o1, o2, o3, o4, o5, o6]) = true := by kernel_rfl
theorem stB5_1 (v0 : PV) (d : Int) (v4 v5 v6 v7 v8 : Option PV) (o0 o1 o2 o3 o4 o5 o6 : Ob) : isRT (RB v0 d 1 v4 v5 v6 v7 v8 [o0, o1, o2, o3, o4, o5, o6]) = true := by kernel_rfl
theorem stB5_2 (v0 : PV) (d : Int) (v4 v5 v6 v7 v8 : Option PV) (o0 o1 o2 o3 o4 o5 o6 : Ob) : isRT (RB v0 d 2 v4 v5 v6 v7 v8 [o0, o1, o2, o3, o4, o5, o6]) = true := by kernel_rfl
theorem stB5_3 (v0 : PV) (d : Int) (v4 v5 v6 v7 v8 : Option PV) (o0 o1 o2 o3 o4 o5 o6 : Ob) : isRT (RB v0 d 3 v4 v5 v6 v7 v8 [o0, o1, o2, o3, o4, o5, o6]) = true := by kernel_rfl
theorem stB5_4 (v0 : PV) (d : Int) (v4 v5 v6 v7 v8 : Option PV) (o0 o1 o2 o3 o4 o5 o6 : Ob) : isRT (RB v0 d 4 v4 v5 v6 v7 v8 [o0, o1, o2, o3, o4, o5, o6]) = true := by kernel_rfl
theorem stB5_5 (v0 : PV) (d : Int) (v4 v5 v6 v7 v8 : Option PV) (o0 o1 o2 o3 o4 o5 o6 : Ob) : isRT (RB v0 d 5 v4 v5 v6 v7 v8 [o0, o1, o2, o3, o4, o5, o6]) = true := by kernel_rfl
theorem stB5_6 (v0 : PV) (d : Int) (v4 v5 v6 v7 v8 : Option PV) (o0 o1 o2 o3 o4 o5 o6 : Ob) : isRT (RB v0 d 6 v4 v5 v6 v7 v8 [o0, o1, o2, o3, o4, o5, o6]) = true := by kernel_rfl
theorem stB5_7 (v0 : PV) (d : Int) (v4 v5 v6 v7 v8 : Option PV) (o0 o1 o2 o3 o4 o5 o6 : Ob) : isRT (RB v0 d 7 v4 v5 v6 v7 v8 [o0, o1, o2, o3, o4, o5, o6]) = true := by kernel_rfl
theorem stB5_8 (v0 : PV) (d : Int) (v4 v5 v6 v7 v8 : Option PV) (o0 o1 o2 o3 o4 o5 o6 : Ob) : isRT (RB v0 d 8 v4 v5 v6 v7 v8 [o0, o1, o2, o3, o4, o5, o6]) = true := by kernel_rfl
theorem stB5_9 (v0 : PV) (d : Int) (v4 v5 v6 v7 v8 : Option PV) (o0 o1 o2 o3 o4 o5 o6 : Ob) : isRT (RB v0 d 9 v4 v5 v6 v7 v8 [o0, o1, o2, o3, o4, o5, o6]) = true := by kernel_rfl
theorem stB5_10 (v0 : PV) (d : Int) (v4 v5 v6 v7 v8 : Option PV) (o0 o1 o2 o3 o4 o5 o6 : Ob) : isRT (RB v0 d 10 v4 v5 v6 v7 v8 [o0, o1, o2, o3, o4, o5, o6]) = true := by kernel_rfl
theorem stA5 (v0 m : PV) (o0 o1 o2 : Ob) (d : Int) (h0 : 0 ≤ d) (h1 : d < 10) : RA v0 m [o0, o1, o2, .lst [], .lst []] d =
    .nx [some v0, some (.ref 2), some (.int d), some m, gE (RA v0 m [o0, o1, o2, .lst [], .lst []] d) 4, gE (RA v0 m [o0, o1, o2, .lst [], .lst []] d) 5, gE (RA v0 m [o0, o1, o2, .lst [], .lst []] d) 6, gE (RA v0 m [o0, o1, o2, .lst [], .lst []] d) 7, gE (RA v0 m [o0, o1, o2, .lst [], .lst []] d) 8, none, none, none, none, none]
      ([o0, o1, o2, .lst [], .lst []] ++ [gO (RA v0 m [o0, o1, o2, .lst [], .lst []] d) 5, gO (RA v0 m [o0, o1, o2, .lst [], .lst []] d) 6]) := by
  rcases ten h0 h1 with rfl | rfl | rfl | rfl | rfl | rfl | rfl | rfl | rfl | rfl
  · exact stA5_0 v0 m o0 o1 o2
  · exact stA5_1 v0 m o0 o1 o2
  · exact stA5_2 v0 m o0 o1 o2
  · exact stA5_3 v0 m o0 o1 o2
  · exact stA5_4 v0 m o0 o1 o2
  · exact stA5_5 v0 m o0 o1 o2
  · exact stA5_6 v0 m o0 o1 o2
  · exact stA5_7 v0 m o0 o1 o2
  · exact stA5_8 v0 m o0 o1 o2
  · exact stA5_9 v0 m o0 o1 o2
theorem stB5 (v0 : PV) (d : Int) (v4 v5 v6 v7 v8 : Option PV) (o0 o1 o2 o3 o4 o5 o6 : Ob) (m : Int) (h0 : 0 ≤ m) (h1 : m < 11) : isRT (RB v0 d m v4 v5 v6 v7 v8 [o0, o1, o2, o3, o4, o5, o6]) = true := by
  rcases eleven h0 h1 with rfl | rfl | rfl | rfl | rfl | rfl | rfl | rfl | rfl | rfl | rfl
  · exact stB5_0 v0 d v4 v5 v6 v7 v8 o0 o1 o2 o3 o4 o5 o6
  · exact stB5_1 v0 d v4 v5 v6 v7 v8 o0 o1 o2 o3 o4 o5 o6
  · exact stB5_2 v0 d v4 v5 v6 v7 v8 o0 o1 o2 o3 o4 o5 o6
  · exact stB5_3 v0 d v4 v5 v6 v7 v8 o0 o1 o2 o3 o4 o5 o6
  · exact stB5_4 v0 d v4 v5 v6 v7 v8 o0 o1 o2 o3 o4 o5 o6
  · exact stB5_5 v0 d v4 v5 v6 v7 v8 o0 o1 o2 o3 o4 o5 o6
  · exact stB5_6 v0 d v4 v5 v6 v7 v8 o0 o1 o2 o3 o4 o5 o6
  · exact stB5_7 v0 d v4 v5 v6 v7 v8 o0 o1 o2 o3 o4 o5 o6
  · exact stB5_8 v0 d v4 v5 v6 v7 v8 o0 o1 o2 o3 o4 o5 o6
  · exact stB5_9 v0 d v4 v5 v6 v7 v8 o0 o1 o2 o3 o4 o5 o6
  · exact stB5_10 v0 d v4 v5 v6 v7 v8 o0 o1 o2 o3 o4 o5 o6
theorem st5 (v0 : PV) (o0 o1 o2 : Ob) (d m : Int) (h0 : 0 ≤ d) (h1 : d < 10) (g0 : 0 ≤ m) (g1 : m < 11) : ∃ h, r_law_2 C50 [some v0, some (.ref 2), some (.int d), some (.int (1 + m)), none, none, none, none, none, none, none, none, none, none] [o0, o1, o2, .lst [], .lst []] = .rt (.bl true) h := by
  obtain ⟨h, e⟩ := isRT_ok (stB5 v0 d (gE (RA v0 (.int (1 + m)) [o0, o1, o2, .lst [], .lst []] d) 4) (gE (RA v0 (.int (1 + m)) [o0, o1, o2, .lst [], .lst []] d) 5) (gE (RA v0 (.int (1 + m)) [o0, o1, o2, .lst [], .lst []] d) 6) (gE (RA v0 (.int (1 + m)) [o0, o1, o2, .lst [], .lst []] d) 7) (gE (RA v0 (.int (1 + m)) [o0, o1, o2, .lst [], .lst []] d) 8) o0 o1 o2 (.lst []) (.lst []) (gO (RA v0 (.int (1 + m)) [o0, o1, o2, .lst [], .lst []] d) 5) (gO (RA v0 (.int (1 + m)) [o0, o1, o2, .lst [], .lst []] d) 6) m g0 g1)
  refine ⟨h, ?_⟩
  rw [c_law_2_10]
  exact (seq_nx (stA5 v0 (.int (1 + m)) o0 o1 o2 d h0 h1)).trans e
/-- the law at every script -/
theorem hv (ns : List Int) (hl : ns.length ≤ 63) : ∃ h, callN prog 12 i_law [.kl (ns.map .int)] [] = .ok (.bl true) h := by
  have e0 : callN prog 12 i_law [.kl (ns.map .int)] [] = srV (r_law_0 C50 [some (.kl (ns.map .int)), none, none, none, none, none, none, none, none, none, none, none, none, none] []) := rfl
  -- the pen
  have e1 : r_law_0 C50 [some (.kl (ns.map .int)), none, none, none, none, none, none, none, none, none, none, none, none, none] [] = r_law_1 C50 [some (.kl (ns.map .int)), some (.ref 2), none, none, none, none, none, none, none, none, none, none, none, none] [.lst (ns.map .int), .lst (ns.map .int), .lst [.ref 1, .int 0, .int 0]] :=
    seq_nx (asg_tn (arg_ok (cons_ok (var_ok rfl) nil_ok) (penN (P := prog) (i := 8) (n := 10) rfl hl)))
  -- two draws
  have pn : Pen [.lst (ns.map .int), .lst (ns.map .int), .lst [.ref 1, .int 0, .int 0]] 2 1 ns 0 0 := ⟨rfl, rfl, by decide, by decide⟩
  obtain ⟨d, a, b, h1, c1, d0, d1, pn1, q1⟩ := drawN (P := prog) (i := 10) (k := 9) (n := 9) rfl rfl pn (m := 10) (by decide) (by decide)
  obtain ⟨m, a2, b2, h2, c2, m0, m1, pn2, q2⟩ := drawN (P := prog) (i := 10) (k := 9) (n := 9) rfl rfl pn1 (m := 11) (by decide) (by decide)
  have e2 : r_law_1 C50 [some (.kl (ns.map .int)), some (.ref 2), none, none, none, none, none, none, none, none, none, none, none, none] [.lst (ns.map .int), .lst (ns.map .int), .lst [.ref 1, .int 0, .int 0]] = r_law_2 C50 [some (.kl (ns.map .int)), some (.ref 2), some (.int d), some (.int (1 + m)), none, none, none, none, none, none, none, none, none, none] h2 := by
    refine seq_nx (asg_ok (v := .tup [.int d, .int (1 + m)]) (h1 := h2) (tup_ok (cons_ok (h1 := h1) (arg_ok (cons_ok (var_ok rfl) (cons_ok con_ok nil_ok)) c1) (cons_ok (op_ok (op := op1) (o := .add) (h1 := h1) (h2 := h2) (v := .int 1) (w := .int m) con_ok (arg_ok (cons_ok (var_ok rfl) (cons_ok con_ok nil_ok)) c2) rfl) nil_ok)) rfl) rfl)
  rw [e0, e1, e2]
  have fin : ∃ h, r_law_2 C50 [some (.kl (ns.map .int)), some (.ref 2), some (.int d), some (.int (1 + m)), none, none, none, none, none, none, none, none, none, none] h2 = .rt (.bl true) h := by
    rcases q1 with ⟨q, _⟩ | ⟨_, q1⟩
    · exact absurd q (by decide)
    · rcases q2 with ⟨_, q2⟩ | ⟨_, q2⟩ <;> rw [q2, q1]
      · exact st4 _ _ _ _ d m d0 d1 m0 m1
      · exact st5 _ _ _ _ d m d0 d1 m0 m1
  obtain ⟨h, e⟩ := fin
  exact ⟨h, by rw [e]; rfl⟩
end Cl

open PySem PySem.W PySem.Calls PyProof.Rows in
theorem holds_of (hv : ∀ ns : List Int, ns.length ≤ 63 → ∃ h, Lf.callN Cl.prog 12 Cl.i_law [.kl (ns.map .int)] [] = .ok (.bl true) h) : PySem.Challenge.rw_leavefirst_k50_walks_by_hand.Holds := by
  w_on; o_law
  refine HandSHeadRun.head_any (r := OpenLaw.row PySem.Challenge.rw_leavefirst_k50_walks_by_hand) (q := view (OpenLaw.row PySem.Challenge.rw_leavefirst_k50_walks_by_hand).prog [14]) (H := Cl.hk) (ob := Cl.ob) (M := 600) (loose := Cl.loose) (d := HandSHeadRun.topDef (OpenLaw.row PySem.Challenge.rw_leavefirst_k50_walks_by_hand).prog 14) (kwd := []) Cl.ob_eq
    (by kernel_rfl) (fun s => by kernel_rfl) Cl.run (by kernel_rfl) (by kernel_rfl) (by kernel_rfl) (by rfl) (by first | assumption | decide +kernel) (by decide +kernel) ⟨rfl, rfl, rfl, rfl, rfl, by decide +kernel⟩ ?hw ?hc
  case hw => w_witness2
  case hc =>
    refine Lf.walk_w (l := PySem.Challenge.rw_leavefirst_k50_walks_by_hand) (n := 63) (k := 12) (x := ⟨#[95, 108, 97, 119, 95, 115, 99, 114, 105, 112, 116]⟩) rfl (by decide) (by kernel_rfl) ⟨rfl, by decide, by decide⟩ ?F
    case F =>
      intro w mg fa h Y G hmg0
      obtain ⟨K, KX, c⟩ := Y
      have hmg : mg Cl.d_law.x = some (.ref fa) := by
        have e : (HandSHeadRun.topDef (OpenLaw.row PySem.Challenge.rw_leavefirst_k50_walks_by_hand).prog 14).name = Cl.d_law.x := by kernel_rfl
        rw [← e]
        exact hmg0
      exact Lf.end_of (l := PySem.Challenge.rw_leavefirst_k50_walks_by_hand) (P := Cl.prog) (fuel := 60) (k := 12) (w := w) KX G hmg c Cl.t_all Cl.gl_of (List.mem_of_getElem? (i := 11) rfl) ⟨#[95, 108, 97, 119, 95, 115, 99, 114, 105, 112, 116]⟩ rfl hv


theorem PySem.Challenge.cw_leavefirst_k50_walks_by_hand_holds : PySem.Challenge.rw_leavefirst_k50_walks_by_hand.Holds := by
  exact holds_of Cl.hv
