import PyProof.Rows.All
import Wide.All
import OpenK.AllK
import Wide.FinOn
import PySem.Syntax
import PyProof.P3Statements
import HandS.Base
import HandS.Call
import HandS.List
import HandS.Comp
import HandS.Ends
import HandS.Exc
import HandS.Words
import HandS.WordsExc
import HandS.Defaults
import HandS.CallSlots
import HandS.TupAny
import HandS.Deep
import HandS.IsInst
import HandS.Flow
import HandS.Dict
import HandS.Text
import HandS.ExcOwn
import HandS.ExcInit
import HandS.ExcField
import HandS.ExcIs
import HandS.OwnEq
import HandS.Codes
import KE.KExcIs
import HandS.Iter
import HandS.TryMany
import HandS.TryOnly
import KE.KExcSuper
import HandS.ExcSuper
import HandS.Head0
import HandS.Head1
import HandS.Head2
import HandS.HeadEnd
import HandS.HeadHook1
import HandS.HeadHook2
import HandS.HeadHook4
import PySem.Challenge.RW_calledanew_k41_event_texts
set_option linter.all false
set_option maxRecDepth 100000
/-! PM1: a small language of expressions and statements without positions, and its interpreter over plain data. -/
namespace PM
open PySem (Str Operator CmpOp)

/-- values: tuples are data; lists, dicts and instances stand in the heap, by number -/
inductive D where
  | non | bl (b : Bool) | int (i : Int) | str (x : Str) | tup (xs : List D) | loc (n : Nat)
  deriving Inhabited

/-- objects: a list; the script (a list that is only read); a dict (lk: it is walked now); an instance of class c with fields by number -/
inductive O where
  | lst (xs : List D) | frl (xs : List D) | dct (kvs : List ((Int ⊕ Str) × D)) | ins (c : Nat) (fs : List (Nat × D))
  deriving Inhabited

abbrev Hh := List O

inductive R (α : Type) where
  | ok (a : α) (h : Hh) | exc (c : Nat) (fs : List (Nat × D)) (h : Hh) | bad

def R.bind {α β : Type} (x : R α) (f : α → Hh → R β) : R β := match x with
  | .ok a h => f a h
  | .exc c fs h => .exc c fs h
  | .bad => .bad

inductive Ty where
  | int | str | bool | tuple | list | dict | own (c : Nat) | verr
  deriving DecidableEq

/-- built-in functions -/
inductive Bl where
  | len | abs | int | bool | tuple | list | sorted | max2 | min2 | all | str
  | lenSet | sortedSet | dict | dictZip
  deriving DecidableEq

/-- methods of built-in types -/
inductive Bm where
  | append | clear | pop | pop0 | reverse | remove | index | count | get | get2 | setdefault | update | join | split | endswith | dpop
  deriving DecidableEq

inductive Tg where
  | nm (i : Nat) | tp (is : List Nat)
  deriving DecidableEq

mutual
inductive E where
  | non | bl (b : Bool) | int (i : Int) | str (x : Str)
  | var (i : Nat) | cst (d : D)
  | tup (es : Es) | lst (es : Es) | dct (es : Es)
  | bin (op : Operator) (a b : E)
  | neg (a : E) | not (a : E) | and (a b : E) | or (a b : E)
  | cmp (op : CmpOp) (a b : E) | chn (o1 o2 : CmpOp) (a b c : E)
  | ife (c a b : E)
  | call (f : Nat) (as : Es) | make (c : Nat) (as : Es)
  | blt (b : Bl) (as : Es) | isi (a : E) (ts : List Ty)
  | bmt (m : Bm) (o : E) (as : Es) | mth (m : Nat) (o : E) (as : Es)
  | att (o : E) (f : Nat) | exa (i f : Nat) | exi (i : Nat) (ts : List Ty)
  | sub (a i : E) | slo (a i : E) | shi (a i : E) | slh (a i j : E) | rev (a : E)
  | lc (ws : List Nat) (tg : Tg) (it : It) (ifs : Es) (e : E)
  | lc2 (ws ws2 : List Nat) (tg : Tg) (it : It) (ifs : Es) (tg2 : Tg) (it2 : It) (ifs2 : Es) (e : E)
  | dc (ws : List Nat) (tg : Tg) (it : It) (k v : E)
inductive Es where
  | nil | cons (e : E) (es : Es)
inductive It where
  | val (e : E) | rng1 (a : E) | rng2 (a b : E) | rng3 (a b c : E) | enu (e : E) | zip (a b : E)
end

mutual
inductive S where
  | ass (i : Nat) (e : E) | asT (is : List Nat) (e : E) | asP (is : List Nat) (es : Es) | asA (o : E) (f : Nat) (e : E) | asS (o i e : E)
  | aug (i : Nat) (op : Operator) (e : E) | auA (o : E) (f : Nat) (op : Operator) (e : E)
  | exp (e : E) | ite (c : E) (a b : Ss) | for (tg : Tg) (it : It) (b : Ss) | whl (c : E) (b : Ss)
  | ret (e : E) | rtN | rai (c : Nat) (as : Es) | brk | cnt | pas
  | try (b : Ss) (hs : Hs)
inductive Ss where
  | nil | cons (s : S) (ss : Ss)
inductive Hs where
  | nil | cons (c : Nat) (nm : Option Nat) (b : Ss) (r : Hs)
end

/-- the exception that is being handled: class, fields, the slot of its name -/
structure Xc where
  c : Nat
  fs : List (Nat × D)
  i : Option Nat
/-- slots, and the exception that is being handled -/
structure En where
  s : List (Option D)
  x : Option Xc
/-- a slot that may be stored to -/
def En.free (n : En) (i : Nat) : Bool := match n.x with
  | some q => decide (q.i ≠ some i)
  | none => true

/-- a frame's result -/
inductive Rs where
  | nx (n : En) (h : Hh) | rt (d : D) (h : Hh) | bk (n : En) (h : Hh) | ct (n : En) (h : Hh) | th (c : Nat) (fs : List (Nat × D)) (n : En) (h : Hh) | bad

/-- what a run leans on: calls of defs, methods of classes, subclasses of exceptions, turns of a while -/
structure Ct where
  call : Nat → List D → Hh → R D
  meth : Nat → Nat → Option Nat
  init : Nat → Option Nat
  sub : Nat → Nat → Bool
  exf : Nat → List D → Option (List (Nat × D))
  fok : Nat → Nat → Bool
  turns : Nat

def sizeLine : Nat := 2 ^ 24

/-! ### data -/
mutual
/-- no list, dict or instance in it; texts are texts -/
def D.flat : D → Bool
  | .tup xs => D.flats xs
  | .loc _ => false
  | .str x => PySem.PyData.canLay0 (.str x)
  | _ => true
def D.flats : List D → Bool
  | [] => true
  | x :: xs => D.flat x && D.flats xs
end
mutual
def D.pd : D → PySem.PyData
  | .non => .none
  | .bl b => .bool b
  | .int i => .int i
  | .str x => .str x
  | .tup xs => .tuple (D.pds xs)
  | .loc _ => .none
def D.pds : List D → List PySem.PyData
  | [] => []
  | x :: xs => D.pd x :: D.pds xs
end
mutual
def D.deep : D → Nat
  | .tup xs => D.deeps xs + 1
  | _ => 0
def D.deeps : List D → Nat
  | [] => 0
  | x :: xs => max (D.deep x) (D.deeps xs)
end
mutual
/-- Python's == on flat data -/
def D.eq : D → D → Bool
  | .non, .non => true
  | .bl a, .bl b => a == b
  | .bl a, .int j => (if a then 1 else 0) == j
  | .int i, .bl b => i == (if b then 1 else 0)
  | .int i, .int j => i == j
  | .str x, .str y => decide (x = y)
  | .tup xs, .tup ys => D.eqs xs ys
  | _, _ => false
def D.eqs : List D → List D → Bool
  | [], [] => true
  | x :: xs, y :: ys => D.eq x y && D.eqs xs ys
  | _, _ => false
end
mutual
/-- the very same data -/
def D.same : D → D → Bool
  | .non, .non => true
  | .bl a, .bl b => a == b
  | .int i, .int j => i == j
  | .str x, .str y => decide (x = y)
  | .tup xs, .tup ys => D.sames xs ys
  | .loc m, .loc n => m == n
  | _, _ => false
def D.sames : List D → List D → Bool
  | [], [] => true
  | x :: xs, y :: ys => D.same x y && D.sames xs ys
  | _, _ => false
end
mutual
theorem D.same_refl : ∀ x : D, D.same x x = true
  | .non => by simp [D.same]
  | .bl _ => by simp [D.same]
  | .int _ => by simp [D.same]
  | .str _ => by simp [D.same]
  | .tup xs => by rw [D.same]; exact D.sames_refl xs
  | .loc _ => by simp [D.same]
theorem D.sames_refl : ∀ x : List D, D.sames x x = true
  | [] => by simp [D.sames]
  | x :: xs => by rw [D.sames, D.same_refl x, D.sames_refl xs]; rfl
end
mutual
theorem D.eq_of_same : ∀ x y : D, D.same x y = true → x = y
  | .non, .non, _ => rfl
  | .bl a, .bl b, h => by simp [D.same] at h; rw [h]
  | .int a, .int b, h => by simp [D.same] at h; rw [h]
  | .str a, .str b, h => by simp [D.same] at h; rw [h]
  | .tup xs, .tup ys, h => by rw [D.same] at h; rw [D.eq_of_sames xs ys h]
  | .loc a, .loc b, h => by simp [D.same] at h; rw [h]
  | .non, .bl _, h => by simp [D.same] at h
  | .non, .int _, h => by simp [D.same] at h
  | .non, .str _, h => by simp [D.same] at h
  | .non, .tup _, h => by simp [D.same] at h
  | .non, .loc _, h => by simp [D.same] at h
  | .bl _, .non, h => by simp [D.same] at h
  | .bl _, .int _, h => by simp [D.same] at h
  | .bl _, .str _, h => by simp [D.same] at h
  | .bl _, .tup _, h => by simp [D.same] at h
  | .bl _, .loc _, h => by simp [D.same] at h
  | .int _, .non, h => by simp [D.same] at h
  | .int _, .bl _, h => by simp [D.same] at h
  | .int _, .str _, h => by simp [D.same] at h
  | .int _, .tup _, h => by simp [D.same] at h
  | .int _, .loc _, h => by simp [D.same] at h
  | .str _, .non, h => by simp [D.same] at h
  | .str _, .bl _, h => by simp [D.same] at h
  | .str _, .int _, h => by simp [D.same] at h
  | .str _, .tup _, h => by simp [D.same] at h
  | .str _, .loc _, h => by simp [D.same] at h
  | .tup _, .non, h => by simp [D.same] at h
  | .tup _, .bl _, h => by simp [D.same] at h
  | .tup _, .int _, h => by simp [D.same] at h
  | .tup _, .str _, h => by simp [D.same] at h
  | .tup _, .loc _, h => by simp [D.same] at h
  | .loc _, .non, h => by simp [D.same] at h
  | .loc _, .bl _, h => by simp [D.same] at h
  | .loc _, .int _, h => by simp [D.same] at h
  | .loc _, .str _, h => by simp [D.same] at h
  | .loc _, .tup _, h => by simp [D.same] at h
theorem D.eq_of_sames : ∀ x y : List D, D.sames x y = true → x = y
  | [], [], _ => rfl
  | x :: xs, y :: ys, h => by
    rw [D.sames, Bool.and_eq_true] at h
    rw [D.eq_of_same x y h.1, D.eq_of_sames xs ys h.2]
  | [], _ :: _, h => by simp [D.sames] at h
  | _ :: _, [], h => by simp [D.sames] at h
end
instance : DecidableEq D := fun a b => if h : D.same a b = true then .isTrue (D.eq_of_same a b h) else .isFalse fun e => h (e ▸ D.same_refl a)

/-- the items of xs[lo:hi], by places as Python reckons them -/
def sIx (n d : Nat) : Option Int → Nat
  | none => d
  | some v => if v < 0 then (v + (n : Int)).toNat else min v.toNat n
def cut {α : Type} (xs : List α) (lo hi : Option Int) : List α := (xs.drop (sIx xs.length 0 lo)).take (sIx xs.length xs.length hi - sIx xs.length 0 lo)
def ixN (n : Nat) (i : Int) : Option Nat := if 0 ≤ i then (if i < n then some i.toNat else none) else if -(n : Int) ≤ i then some (i + n).toNat else none
def atI {α : Type} (xs : List α) (i : Int) : Option α := (ixN xs.length i).bind fun j => xs[j]?

/-- may be compared: flat, not too deep -/
def D.good (d : D) : Bool := D.flat d && decide (D.deep d ≤ 60)

/-- the items of a list or tuple -/
def items (h : Hh) : D → Option (List D)
  | .tup xs => some xs
  | .loc n => match h[n]? with
    | some (.lst xs) => some xs
    | some (.frl xs) => some xs
    | _ => none
  | _ => none

/-- a value's data where it is a list, tuple or plain thing whose inner things are flat -/
def opd (h : Hh) : D → Option PySem.PyData
  | .loc n => match h[n]? with
    | some (.lst xs) => if xs.all D.good then some (.list (D.pds xs)) else none
    | _ => none
  | d => if D.good d then some (D.pd d) else none

/-! ### truth -/
def truth (h : Hh) : D → Option Bool
  | .non => some false
  | .bl b => some b
  | .int i => some (i != 0)
  | .str x => if x.length ≤ sizeLine then some (x.length != 0) else none
  | .tup xs => some (!xs.isEmpty)
  | .loc n => match h[n]? with
    | some (.lst xs) => some (!xs.isEmpty)
    | some (.frl xs) => some (!xs.isEmpty)
    | _ => none

/-! ### operators -/
def okMul (i j : Int) : Bool := decide (i.natAbs < 2 ^ 64) || decide (j.natAbs < 2 ^ 64)
def binop (op : Operator) (x y : D) (h : Hh) : R D := match op, x, y with
  | .Add, .int i, .int j => .ok (.int (i + j)) h
  | .Add, .str a, .str b => if a.length + b.length ≤ sizeLine then .ok (.str (a ++ b)) h else .bad
  | .Add, .tup a, .tup b => if a.length + b.length ≤ sizeLine then .ok (.tup (a ++ b)) h else .bad
  | .Add, .loc a, .loc b => match h[a]?, h[b]? with
    | some (.lst xs), some (.lst ys) => if xs.length + ys.length ≤ sizeLine then .ok (.loc h.length) (h ++ [.lst (xs ++ ys)]) else .bad
    | _, _ => .bad
  | .Sub, .int i, .int j => .ok (.int (i - j)) h
  | .Mult, .int i, .int j => if okMul i j then .ok (.int (i * j)) h else .bad
  | .FloorDiv, .int i, .int j => if 0 < j ∧ j < 1073741824 then .ok (.int (i / j)) h else .bad
  | .Mod, .int i, .int j => if 0 < j then .ok (.int (i % j)) h else .bad
  | .Pow, .int i, .int j => if 0 ≤ j ∧ j ≤ 1000 ∧ i.natAbs < 2 ^ 1000 then .ok (.int (i ^ j.toNat)) h else .bad
  | _, _, _ => .bad

/-- == of data -/
def eqop (h : Hh) (x y : D) : Option Bool := match opd h x, opd h y with
  | some a, some b => some (PySem.PyData.eqv a b)
  | _, _ => none

/-- a key of a dict -/
def keyOf : D → Option (Int ⊕ Str)
  | .int i => some (.inl i)
  | .str x => some (.inr x)
  | _ => none
def valOf (k : Int ⊕ Str) : List ((Int ⊕ Str) × D) → Option D
  | [] => none
  | (q, d) :: r => if q = k then some d else valOf k r
def D.isStr : D → Bool
  | .str x => D.flat (.str x)
  | _ => false
/-- a list or a dict -/
def odd (h : Hh) : D → Bool
  | .loc n => match h[n]? with
    | some (.lst _) => true
    | some (.dct _) => true
    | _ => false
  | _ => false
def inop (h : Hh) (x y : D) : Option Bool := match y with
  | .str t => match x with
    | .str s => match s.cps.toList with
      | [c] => some (decide (c ∈ t.cps.toList))
      | _ => none
    | _ => none
  | .tup ys => if D.good x && ys.all D.good then some (ys.any fun y => D.eq y x) else if odd h x && ys.all D.isStr then some false else none
  | .loc n => match h[n]? with
    | some (.lst ys) => if D.good x && ys.all D.good then some (ys.any fun y => D.eq y x) else none
    | some (.dct kvs) => match keyOf x with
      | some k => some (valOf k kvs).isSome
      | none => none
    | _ => none
  | _ => none

def cmpop (op : CmpOp) (x y : D) (h : Hh) : R D := match op with
  | .Eq => match eqop h x y with
    | some b => .ok (.bl b) h
    | none => .bad
  | .NotEq => match eqop h x y with
    | some b => .ok (.bl (!b)) h
    | none => .bad
  | .Lt => match x, y with
    | .int i, .int j => .ok (.bl (decide (i < j))) h
    | _, _ => .bad
  | .LtE => match x, y with
    | .int i, .int j => .ok (.bl (decide (i ≤ j))) h
    | _, _ => .bad
  | .Gt => match x, y with
    | .int i, .int j => .ok (.bl (decide (j < i))) h
    | _, _ => .bad
  | .GtE => match x, y with
    | .int i, .int j => .ok (.bl (decide (j ≤ i))) h
    | _, _ => .bad
  | .Is => match x, y with
    | .non, .non => .ok (.bl true) h
    | _, .non => .ok (.bl false) h
    | _, _ => .bad
  | .IsNot => match x, y with
    | .non, .non => .ok (.bl false) h
    | _, .non => .ok (.bl true) h
    | _, _ => .bad
  | .In => match inop h x y with
    | some b => .ok (.bl b) h
    | none => .bad
  | .NotIn => match inop h x y with
    | some b => .ok (.bl (!b)) h
    | none => .bad

/-- id of the method __eq__ -/
def mEq : Nat := 0
def mLen : Nat := 1
def mBool : Nat := 2
def mContains : Nat := 3
def mGetitem : Nat := 4
def mSetitem : Nat := 5
def mCall : Nat := 6
def mOr : Nat := 7
def mAnd : Nat := 8
def mSub : Nat := 9
def mIor : Nat := 10

/-! ### isinstance -/
def isTy (C : Ct) (h : Hh) (d : D) (t : Ty) : Option Bool := match d, t with
  | .non, _ => some false
  | .bl _, .int => some true
  | .bl _, .bool => some true
  | .bl _, _ => some false
  | .int _, .int => some true
  | .int _, _ => some false
  | .str _, .str => some true
  | .str _, _ => some false
  | .tup _, .tuple => some true
  | .tup _, _ => some false
  | .loc n, t => match h[n]?, t with
    | some (.lst _), .list => some true
    | some (.lst _), _ => some false
    | some (.dct _), .dict => some true
    | some (.dct _), _ => some false
    | some (.ins c _), .own k => some (decide (c = k))
    | some (.ins _ _), .verr => none
    | some (.ins _ _), _ => some false
    | _, _ => none

/-! ### built-in functions, by values -/
def bLen (xs : List D) (h : Hh) : R D := match xs with
  | [.str x] => if x.length ≤ sizeLine then .ok (.int x.length) h else .bad
  | [.tup ys] => .ok (.int ys.length) h
  | [.loc n] => match h[n]? with
    | some (.lst ys) => .ok (.int ys.length) h
    | some (.frl ys) => .ok (.int ys.length) h
    | _ => .bad
  | _ => .bad
def bAbs (xs : List D) (h : Hh) : R D := match xs with
  | [.int i] => .ok (.int (if i < 0 then -i else i)) h
  | _ => .bad
def bInt (xs : List D) (h : Hh) : R D := match xs with
  | [.int i] => .ok (.int i) h
  | [.bl b] => .ok (.int (if b then 1 else 0)) h
  | _ => .bad
def bBool (xs : List D) (h : Hh) : R D := match xs with
  | [.int i] => .ok (.bl (i != 0)) h
  | [.bl b] => .ok (.bl b) h
  | _ => .bad
def bTuple (xs : List D) (h : Hh) : R D := match xs with
  | [.tup ys] => .ok (.tup ys) h
  | [.loc n] => match h[n]? with
    | some (.lst ys) => .ok (.tup ys) h
    | _ => .bad
  | _ => .bad
def bList (xs : List D) (h : Hh) : R D := match xs with
  | [.tup ys] => .ok (.loc h.length) (h ++ [.lst ys])
  | [.loc n] => match h[n]? with
    | some (.lst ys) => .ok (.loc h.length) (h ++ [.lst ys])
    | _ => .bad
  | _ => .bad
def bMax (xs : List D) (h : Hh) : R D := match xs with
  | [.int i, .int j] => .ok (.int (if j > i then j else i)) h
  | _ => .bad
def bMin (xs : List D) (h : Hh) : R D := match xs with
  | [.int i, .int j] => .ok (.int (if j < i then j else i)) h
  | _ => .bad
def blt (b : Bl) (xs : List D) (h : Hh) : R D := match b with
  | .len => bLen xs h
  | .abs => bAbs xs h
  | .int => bInt xs h
  | .bool => bBool xs h
  | .tuple => bTuple xs h
  | .list => bList xs h
  | .max2 => bMax xs h
  | .min2 => bMin xs h
  | _ => .bad

/-! ### subscripts -/
def subop (x i : D) (h : Hh) : R D := match x, i with
  | .tup xs, .int k => match atI xs k with
    | some d => .ok d h
    | none => .bad
  | .str t, .int k => if t.length ≤ sizeLine then (match atI t.cps.toList k with
    | some c => .ok (.str ⟨#[c]⟩) h
    | none => .bad) else .bad
  | .loc n, d => match h[n]?, d with
    | some (.lst xs), .int k => match atI xs k with
      | some d => .ok d h
      | none => .bad
    | some (.frl xs), .int k => match atI xs k with
      | some d => .ok d h
      | none => .bad
    | some (.dct kvs), d => match keyOf d with
      | some k => match valOf k kvs with
        | some v => .ok v h
        | none => .bad
      | none => .bad
    | _, _ => .bad
  | _, _ => .bad
def cutT (z : Str) (lo hi : Option Int) : Str := ⟨(cut z.cps.toList lo hi).toArray⟩
def slcop (x : D) (lo hi : Option Int) (h : Hh) : R D := match x with
  | .tup xs => .ok (.tup (cut xs lo hi)) h
  | .str z => if z.length ≤ sizeLine then .ok (.str (cutT z lo hi)) h else .bad
  | .loc n => match h[n]? with
    | some (.lst xs) => .ok (.loc h.length) (h ++ [.lst (cut xs lo hi)])
    | some (.frl xs) => .ok (.loc h.length) (h ++ [.lst (cut xs lo hi)])
    | _ => .bad
  | _ => .bad
/-- x[i] = v -/
def putop (x i v : D) (h : Hh) : R Unit := match x, i with
  | .loc n, .int k => match h[n]? with
    | some (.lst xs) => match ixN xs.length k with
      | some j => .ok () (h.set n (.lst (xs.set j v)))
      | none => .bad
    | _ => .bad
  | _, _ => .bad

/-! ### methods of built-in types, by values -/
def mAppend (x : D) (as : List D) (h : Hh) : R D := match x, as with
  | .loc n, [v] => match h[n]? with
    | some (.lst xs) => if xs.length < sizeLine then .ok .non (h.set n (.lst (xs ++ [v]))) else .bad
    | _ => .bad
  | _, _ => .bad
/-- parts between the sign c -/
def splitL (c : Nat) : List Nat → List Nat → List (List Nat)
  | acc, [] => [acc]
  | acc, x :: r => if x = c then acc :: splitL c [] r else splitL c (acc ++ [x]) r
def joinL (s : List Nat) : List (List Nat) → List Nat
  | [] => []
  | [p] => p
  | p :: q :: r => p ++ (s ++ joinL s (q :: r))
def strsOf : List D → Option (List (List Nat))
  | [] => some []
  | .str x :: r => (strsOf r).map fun ys => x.cps.toList :: ys
  | _ => none
def lenSum : List (List Nat) → Nat
  | [] => 0
  | x :: r => x.length + lenSum r
def mSplit (x : D) (as : List D) (h : Hh) : R D := match x, as with
  | .str a, [.str b] => match b.cps.toList with
    | [c] => if a.length + 2 ≤ sizeLine ∧ c < 256 then .ok (.loc h.length) (h ++ [.lst ((splitL c [] a.cps.toList).map fun p => .str ⟨p.toArray⟩)]) else .bad
    | _ => .bad
  | _, _ => .bad
def mJoin (x : D) (as : List D) (h : Hh) : R D := match x, as with
  | .str a, [.tup xs] => match strsOf xs with
    | some ys => if lenSum ys + ys.length * a.length ≤ 16777216 then .ok (.str ⟨(joinL a.cps.toList ys).toArray⟩) h else .bad
    | none => .bad
  | .str a, [.loc n] => match h[n]? with
    | some (.lst xs) => match strsOf xs with
      | some ys => if lenSum ys + ys.length * a.length ≤ 16777216 then .ok (.str ⟨(joinL a.cps.toList ys).toArray⟩) h else .bad
      | none => .bad
    | _ => .bad
  | _, _ => .bad
def mEnds (x : D) (as : List D) (h : Hh) : R D := match x, as with
  | .str a, [.str b] => match b.cps.toList with
    | [c] => .ok (.bl (decide (a.cps.toList.getLast? = some c))) h
    | _ => .bad
  | _, _ => .bad
def bmt (m : Bm) (x : D) (as : List D) (h : Hh) : R D := match m with
  | .append => mAppend x as h
  | .split => mSplit x as h
  | .join => mJoin x as h
  | .endswith => mEnds x as h
  | _ => .bad

/-! ### attributes -/
def putF (f : Nat) (v : D) : List (Nat × D) → List (Nat × D)
  | [] => [(f, v)]
  | (g, x) :: r => if g = f then (g, v) :: r else (g, x) :: putF f v r
def attop (C : Ct) (x : D) (f : Nat) (h : Hh) : R D := match x with
  | .loc n => match h[n]? with
    | some (.ins c fs) => if C.fok c f then (match fs.lookup f with
      | some d => .ok d h
      | none => .bad) else .bad
    | _ => .bad
  | _ => .bad
def setop (C : Ct) (x : D) (f : Nat) (v : D) (h : Hh) : R Unit := match x with
  | .loc n => match h[n]? with
    | some (.ins c fs) => if C.fok c f && decide (fs.length < 1000) then .ok () (h.set n (.ins c (putF f v fs))) else .bad
    | _ => .bad
  | _ => .bad

/-! ### slots -/
def getS (n : En) (i : Nat) : Option D := (n.s[i]?).bind id
def setS (n : En) (i : Nat) (d : D) : En := { n with s := n.s.set i (some d) }
def wipe (s : List (Option D)) : List Nat → List (Option D)
  | [] => s
  | i :: r => (wipe s r).set i none
def setAll (n : En) : List Nat → List D → Option En
  | [], [] => some n
  | i :: r, d :: ds => setAll (setS n i d) r ds
  | _, _ => none
/-- a target gets a value -/
def putT (tg : Tg) (d : D) (n : En) : Option En := match tg with
  | .nm i => some (setS n i d)
  | .tp is => match d with
    | .tup ds => setAll n is ds
    | _ => none

/-- a text's signs -/
def signs (x : Str) : List D := x.cps.toList.map fun c => .str ⟨#[c]⟩
/-- what a loop walks: its items, and the list that must stay -/
structure Src where
  its : List D
  at_ : List (Nat × List D)
/-- a list stands there -/
def stands (h : Hh) (p : Nat × List D) : Bool := match h[p.1]? with
  | some (.lst xs) => D.sames xs p.2
  | some (.frl xs) => D.sames xs p.2
  | _ => false
/-- the walked lists stand as they stood -/
def Src.still (src : Src) (h : Hh) : Bool := src.at_.all (stands h)

def rangeD (lo : Int) (n : Nat) : List D := (List.range n).map fun i => .int (lo + (i : Nat))
def enumD : Nat → List D → List D
  | _, [] => []
  | k, x :: xs => .tup [.int (k : Nat), x] :: enumD (k + 1) xs

/-- a comprehension's turns -/
def lcGo (f : D → Hh → R (Option D)) (ok : Hh → Bool) : List D → Hh → R (List D)
  | [], h => if ok h then .ok [] h else .bad
  | x :: xs, h => if ok h then (f x h).bind fun o h => (lcGo f ok xs h).bind fun ds h => .ok (match o with
    | some d => d :: ds
    | none => ds) h else .bad

/-- a for's turns -/
def forGo (f : D → En → Hh → Rs) (ok : Hh → Bool) : List D → En → Hh → Rs
  | [], n, h => if ok h then .nx n h else .bad
  | x :: xs, n, h => if ok h then (match f x n h with
    | .nx n h => forGo f ok xs n h
    | .ct n h => forGo f ok xs n h
    | .bk n h => .nx n h
    | r => r) else .bad

/-- a while's turns -/
def whGo (c : En → Hh → R Bool) (f : En → Hh → Rs) : Nat → En → Hh → Rs
  | 0, _, _ => .bad
  | k + 1, n, h => match c n h with
    | .ok true h => (match f n h with
      | .nx n h => whGo c f k n h
      | .ct n h => whGo c f k n h
      | .bk n h => .nx n h
      | r => r)
    | .ok false h => .nx n h
    | .exc e fs h => .th e fs n h
    | .bad => .bad

def R.opt {α : Type} (o : Option α) (h : Hh) : R α := match o with
  | some a => .ok a h
  | none => .bad
def tru (d : D) (h : Hh) : R Bool := R.opt (truth h d) h
def intOf (d : D) (h : Hh) : R Int := match d with
  | .int i => .ok i h
  | _ => .bad

/-- what a value's walk gives -/
def srcOf (d : D) (h : Hh) : R Src := match d with
  | .tup xs => .ok ⟨xs, []⟩ h
  | .str x => if x.length ≤ sizeLine then .ok ⟨signs x, []⟩ h else .bad
  | .loc n => match h[n]? with
    | some (.lst xs) => .ok ⟨xs, [(n, xs)]⟩ h
    | some (.frl xs) => .ok ⟨xs, [(n, xs)]⟩ h
    | _ => .bad
  | _ => .bad
/-- what enumerate of a list or tuple gives -/
def enuOf (d : D) (h : Hh) : R Src := match d with
  | .loc n => match h[n]? with
    | some (.lst xs) => .ok ⟨enumD 0 xs, [(n, xs)]⟩ h
    | _ => .bad
  | _ => .bad
def okR (j : Int) : Bool := decide (-(2 ^ 23) ≤ j) && decide (j < 2 ^ 23)

/-- no exception may leave -/
def R.calm {α : Type} (r : R α) : R α := match r with
  | .ok a h => .ok a h
  | _ => .bad

/-- == of two instances of a class with __eq__ -/
def ownEq (C : Ct) (x y : D) (h : Hh) : Option (R D) := match x with
  | .loc n => match h[n]? with
    | some (.ins c _) => some (match y with
      | .loc n2 => match h[n2]? with
        | some (.ins c2 _) => if c = c2 then (match C.meth c mEq with
          | some f => (C.call f [x, y] h).calm.bind fun r h => match r with
            | .bl b => .ok (.bl b) h
            | _ => .bad
          | none => .bad) else .bad
        | _ => .bad
      | _ => .bad)
    | _ => none
  | _ => none
/-- == of two values: own __eq__ of instances, else data -/
def cmpC (C : Ct) (hot : Bool) (op : CmpOp) (x y : D) (h : Hh) : R D := match op with
  | .Eq => match ownEq C x y h with
    | some r => if hot then .bad else r
    | none => cmpop .Eq x y h
  | _ => cmpop op x y h

/-- the method that a value has -/
def mthF (C : Ct) (m : Nat) (x : D) (h : Hh) : Option Nat := match x with
  | .loc n => match h[n]? with
    | some (.ins c _) => C.meth c m
    | _ => none
  | _ => none
/-- a value that has the method -/
def bmOk (m : Bm) (x : D) (h : Hh) : Bool := match m, x with
  | .append, .loc n => match h[n]? with
    | some (.lst _) => true
    | _ => false
  | .split, .str _ => true
  | .join, .str _ => true
  | .endswith, .str _ => true
  | _, _ => false

def makeC (C : Ct) (c : Nat) (as : List D) (h : Hh) : R D := match C.init c with
  | some f => (C.call f (.loc h.length :: as) (h ++ [.ins c []])).bind fun r h' => match r with
    | .non => .ok (.loc h.length) h'
    | _ => .bad
  | none => .bad

/-- a display's keys and values -/
def pairUp : List D → Option (List ((Int ⊕ Str) × D))
  | [] => some []
  | .int i :: d :: r => (pairUp r).map fun ps => (.inl i, d) :: ps
  | .str x :: d :: r => (pairUp r).map fun ps => (.inr x, d) :: ps
  | _ => none
def okKeys (ps : List ((Int ⊕ Str) × D)) : Bool := decide (ps.length ≤ 15) && decide ((ps.map (·.1)).Nodup)
mutual
def ev (C : Ct) : E → En → Hh → R D
  | .non, _, h => .ok .non h
  | .bl b, _, h => .ok (.bl b) h
  | .int i, _, h => .ok (.int i) h
  | .str x, _, h => .ok (.str x) h
  | .var i, n, h => R.opt (getS n i) h
  | .cst d, _, h => .ok d h
  | .tup es, n, h => (evs C es n h).bind fun ds h => if ds.length ≤ sizeLine then .ok (.tup ds) h else .bad
  | .lst es, n, h => (evs C es n h).bind fun ds h => if ds.length ≤ sizeLine then .ok (.loc h.length) (h ++ [.lst ds]) else .bad
  | .dct es, n, h => (evs C es n h).bind fun ds h => match pairUp ds with
    | some ps => if okKeys ps then .ok (.loc h.length) (h ++ [.dct ps]) else .bad
    | none => .bad
  | .bin op a b, n, h => (ev C a n h).bind fun x h => (ev C b n h).bind fun y h => binop op x y h
  | .neg a, n, h => (ev C a n h).bind fun x h => (intOf x h).bind fun i h => .ok (.int (-i)) h
  | .not a, n, h => (ev C a n h).bind fun x h => (tru x h).bind fun b h => .ok (.bl (!b)) h
  | .and a b, n, h => (ev C a n h).bind fun x h => (tru x h).bind fun t h => if t = true then ev C b n h else .ok x h
  | .or a b, n, h => (ev C a n h).bind fun x h => (tru x h).bind fun t h => if t = true then .ok x h else ev C b n h
  | .cmp op a b, n, h => (ev C a n h).bind fun x h => (ev C b n h).bind fun y h => cmpC C n.x.isSome op x y h
  | .chn o1 o2 a b c, n, h => (ev C a n h).bind fun x h => (ev C b n h).bind fun y h => (cmpop o1 x y h).bind fun r h => match r with
    | .bl true => (ev C c n h).bind fun z h => cmpop o2 y z h
    | .bl false => .ok (.bl false) h
    | _ => .bad
  | .ife c a b, n, h => (ev C c n h).bind fun x h => (tru x h).bind fun t h => if t = true then ev C a n h else ev C b n h
  | .call f as, n, h => if n.x.isSome then .bad else (evs C as n h).bind fun ds h => C.call f ds h
  | .make c as, n, h => if n.x.isSome then .bad else (evs C as n h).bind fun ds h => makeC C c ds h
  | .blt b as, n, h => if n.x.isSome && decide (b ≠ .int) then .bad else (evs C as n h).bind fun ds h => blt b ds h
  | .isi a ts, n, h => (ev C a n h).bind fun x h => match ts with
    | [t] => (R.opt (isTy C h x t) h).bind fun b h => .ok (.bl b) h
    | _ => .bad
  | .bmt m o as, n, h => if n.x.isSome then .bad else (ev C o n h).bind fun x h => if bmOk m x h then (evs C as n h).bind fun ds h => bmt m x ds h else .bad
  | .mth m o as, n, h => if n.x.isSome then .bad else (ev C o n h).bind fun x h => match mthF C m x h with
    | some f => (evs C as n h).bind fun ds h => C.call f (x :: ds) h
    | none => .bad
  | .att o f, n, h => (ev C o n h).bind fun x h => attop C x f h
  | .exa i f, n, h => match n.x with
    | some q => if q.i = some i then (if C.fok q.c f then R.opt (q.fs.lookup f) h else .bad) else .bad
    | none => .bad
  | .exi i ts, n, h => match n.x, ts with
    | some q, [.own k] => if q.i = some i then .ok (.bl (C.sub q.c k)) h else .bad
    | some q, [.verr] => if q.i = some i then .ok (.bl true) h else .bad
    | _, _ => .bad
  | .sub a i, n, h => (ev C a n h).bind fun x h => (ev C i n h).bind fun y h => subop x y h
  | .slo a i, n, h => (ev C a n h).bind fun x h => (ev C i n h).bind fun y h => (intOf y h).bind fun k h => slcop x (some k) none h
  | .shi a i, n, h => (ev C a n h).bind fun x h => (ev C i n h).bind fun y h => (intOf y h).bind fun k h => slcop x none (some k) h
  | .slh a i j, n, h => (ev C a n h).bind fun x h => (ev C i n h).bind fun y h => (intOf y h).bind fun k h => (ev C j n h).bind fun z h => (intOf z h).bind fun l h => slcop x (some k) (some l) h
  | .rev _, _, _ => .bad
  | .lc ws tg it ifs e, n, h => if n.x.isSome then .bad else (evIt C it n h).bind fun src h =>
      (lcGo (fun d h => match putT tg d { n with s := wipe n.s ws } with
        | some m => ((tests C ifs m h).bind fun t h => if t = true then (ev C e m h).bind fun v h => .ok (some v) h else .ok none h).calm
        | none => .bad) src.still src.its h).bind fun ds h => .ok (.loc h.length) (h ++ [.lst ds])
  | .lc2 .., _, _ => .bad
  | .dc .., _, _ => .bad
def evs (C : Ct) : Es → En → Hh → R (List D)
  | .nil, _, h => .ok [] h
  | .cons e es, n, h => (ev C e n h).bind fun d h => (evs C es n h).bind fun ds h => .ok (d :: ds) h
/-- the ifs of a comprehension: none or one -/
def tests (C : Ct) : Es → En → Hh → R Bool
  | .nil, _, h => .ok true h
  | .cons e .nil, n, h => (ev C e n h).bind fun d h => tru d h
  | .cons _ (.cons _ _), _, _ => .bad
def evIt (C : Ct) : It → En → Hh → R Src
  | .val e, n, h => (ev C e n h).bind fun d h => srcOf d h
  | .rng1 a, n, h => (ev C a n h).bind fun x h => (intOf x h).bind fun j h => if okR j then .ok ⟨rangeD 0 j.toNat, []⟩ h else .bad
  | .rng2 a b, n, h => (ev C a n h).bind fun x h => (intOf x h).bind fun i h => (ev C b n h).bind fun y h => (intOf y h).bind fun j h => if okR i && okR j then .ok ⟨rangeD i (j - i).toNat, []⟩ h else .bad
  | .rng3 .., _, _ => .bad
  | .enu e, n, h => (ev C e n h).bind fun d h => enuOf d h
  | .zip .., _, _ => .bad
end

/-- an expression in a statement -/
def inS (r : R D) (n : En) (f : D → Hh → Rs) : Rs := match r with
  | .ok d h => f d h
  | .exc c fs h => .th c fs n h
  | .bad => .bad
def inSs (r : R (List D)) (n : En) (f : List D → Hh → Rs) : Rs := match r with
  | .ok d h => f d h
  | .exc c fs h => .th c fs n h
  | .bad => .bad
def unS (r : R Unit) (n : En) : Rs := match r with
  | .ok _ h => .nx n h
  | .exc c fs h => .th c fs n h
  | .bad => .bad

/-- the clause's name goes, nothing is handled any more -/
def offE (nm : Option Nat) (n : En) : En := ⟨(match nm with
  | some i => n.s.set i none
  | none => n.s), none⟩
def okN (nm : Option Nat) (n : En) : Bool := match nm with
  | some i => decide (i < n.s.length)
  | none => true
def offS (nm : Option Nat) : Rs → Rs
  | .nx n h => .nx (offE nm n) h
  | .rt d h => .rt d h
  | .bk n h => .bk (offE nm n) h
  | .ct n h => .ct (offE nm n) h
  | _ => .bad

mutual
def ex (C : Ct) : S → En → Hh → Rs
  | .ass i e, n, h => if n.free i then inS (ev C e n h) n fun d h => .nx (setS n i d) h else .bad
  | .asT is e, n, h => if n.x.isSome then .bad else inS (ev C e n h) n fun d h => match putT (.tp is) d n with
    | some m => .nx m h
    | none => .bad
  | .asP _ _, _, _ => .bad
  | .asA o f e, n, h => inS (ev C e n h) n fun d h => inS (ev C o n h) n fun x h => unS (setop C x f d h) n
  | .asS o i e, n, h => inS (ev C e n h) n fun d h => inS (ev C o n h) n fun x h => inS (ev C i n h) n fun k h => unS (putop x k d h) n
  | .aug i op e, n, h => if n.x.isSome then .bad else match getS n i with
    | some x => inS (ev C e n h) n fun y h => inS (binop op x y h) n fun z h => .nx (setS n i z) h
    | none => .bad
  | .auA .., _, _ => .bad
  | .exp e, n, h => inS (ev C e n h) n fun _ h => .nx n h
  | .ite c a b, n, h => inS (ev C c n h) n fun x h => match truth h x with
    | some true => exs C a n h
    | some false => exs C b n h
    | none => .bad
  | .for tg it b, n, h => if n.x.isSome then .bad else match evIt C it n h with
    | .ok src h => forGo (fun d n h => match putT tg d n with
      | some m => exs C b m h
      | none => .bad) src.still src.its n h
    | .exc c fs h => .th c fs n h
    | .bad => .bad
  | .whl c b, n, h => if n.x.isSome then .bad else whGo (fun n h => (ev C c n h).bind fun d h => tru d h) (fun n h => exs C b n h) C.turns n h
  | .ret e, n, h => inS (ev C e n h) n fun d h => .rt d h
  | .rtN, _, h => .rt .non h
  | .rai c as, n, h => if n.x.isSome then .bad else inSs (evs C as n h) n fun ds h => match C.exf c ds with
    | some fs => .th c fs n h
    | none => .bad
  | .brk, n, h => .bk n h
  | .cnt, n, h => .ct n h
  | .pas, n, h => .nx n h
  | .try b hs, n, h => if n.x.isSome then .bad else match exs C b n h with
    | .th c fs n h => exh C hs c fs n h
    | r => r
def exs (C : Ct) : Ss → En → Hh → Rs
  | .nil, n, h => .nx n h
  | .cons s ss, n, h => match ex C s n h with
    | .nx n h => exs C ss n h
    | r => r
/-- the clauses of a try -/
def exh (C : Ct) : Hs → Nat → List (Nat × D) → En → Hh → Rs
  | .nil, c, fs, n, h => .th c fs n h
  | .cons k nm b r, c, fs, n, h => if C.sub c k = true then (if okN nm n then offS nm (exs C b ⟨(offE nm n).s, some ⟨c, fs, nm⟩⟩ h) else .bad) else exh C r c fs n h
end

/-- a def: how many parameters, how many slots, its body -/
structure Df where
  ps : Nat
  ns : Nat
  body : Ss
/-- a def called -/
def runDf (C : Ct) (d : Df) (as : List D) (h : Hh) : R D := if as.length = d.ps then (match exs C d.body ⟨as.map some ++ List.replicate (d.ns - d.ps) none, none⟩ h with
  | .nx _ h => .ok .non h
  | .rt v h => .ok v h
  | .th c fs _ h => .exc c fs h
  | _ => .bad) else .bad

/-- a program: its defs, its classes -/
structure Pg where
  df : Nat → Option Df
  meth : Nat → Nat → Option Nat
  init : Nat → Option Nat
  sub : Nat → Nat → Bool
  exf : Nat → List D → Option (List (Nat × D))
  fok : Nat → Nat → Bool
  turns : Nat
def Pg.ct (P : Pg) (call : Nat → List D → Hh → R D) : Ct := ⟨call, P.meth, P.init, P.sub, P.exf, P.fok, P.turns⟩
/-- calls to depth k -/
def calls (P : Pg) : Nat → Nat → List D → Hh → R D
  | 0, _, _, _ => .bad
  | k + 1, f, as, h => match P.df f with
    | some d => runDf (P.ct (calls P k)) d as h
    | none => .bad
end PM
set_option Elab.async false
set_option linter.all false
set_option maxRecDepth 100000
set_option maxHeartbeats 4000000
/-! PM2: how PM's data and heap stand in the hand layer's abstract heap. -/
namespace PM
open PySem PySem.Spec PyProof.Rows L2

/-- names of fields, addresses of classes -/
structure Tb where
  fld : Nat → Str
  inj : ∀ i j, fld i = fld j → i = j
  cad : Nat → Addr
  cls : List Nat
  xcs : List Nat

mutual
inductive VR (K : PySem.W.Frag) (m : List Addr) (H : Hp) : D → V → Prop
  | non : VR K m H .non .non
  | bl (b : Bool) : VR K m H (.bl b) (.bl b)
  | int (i : Int) : VR K m H (.int i) (.int i)
  | str (x : Str) : VR K m H (.str x) (.str x)
  | tup {a : Addr} {xs : List D} {vs : List V} : SqT K H a vs → VRs K m H xs vs → xs.length ≤ sizeLine → VR K m H (.tup xs) (.ref a)
  | loc {n : Nat} {a : Addr} : m[n]? = some a → VR K m H (.loc n) (.ref a)
inductive VRs (K : PySem.W.Frag) (m : List Addr) (H : Hp) : List D → List V → Prop
  | nil : VRs K m H [] []
  | cons {d : D} {v : V} {ds : List D} {vs : List V} : VR K m H d v → VRs K m H ds vs → VRs K m H (d :: ds) (v :: vs)
end

inductive FRs (T : Tb) (K : PySem.W.Frag) (m : List Addr) (H : Hp) : List (Nat × D) → List (Str × V) → Prop
  | nil : FRs T K m H [] []
  | cons {f : Nat} {d : D} {v : V} {fs : List (Nat × D)} {gs : List (Str × V)} : VR K m H d v → FRs T K m H fs gs → FRs T K m H ((f, d) :: fs) ((T.fld f, v) :: gs)

/-- what an own class is asked -/
structure CF (K : PySem.W.Frag) (C : Addr) : Prop where
  cl : Cls K C
  ha : PySem.W.findIn K (.ref C) "__class__" = some (some (.builtin "object.__class__"))
  hn : PySem.W.specialIn K (.builtin "object.__class__") "__get__" = some (some (.builtin "getset_descriptor.__get__"))
  htk : PySem.W.takesIn K (.builtin "object.__class__") = some true
  hm : PySem.W.mroIn K C (.type "object") = some true
  kp : PySem.W.keepIn K (.ref C) = true

inductive KRs (K : PySem.W.Frag) (m : List Addr) (H : Hp) : List ((Int ⊕ Str) × D) → List (L2.Key × V) → Prop
  | nil : KRs K m H [] []
  | cons {q : Int ⊕ Str} {d : D} {v : V} {fs : List ((Int ⊕ Str) × D)} {gs : List (L2.Key × V)} : VR K m H d v → KRs K m H fs gs → KRs K m H ((q, d) :: fs) ((q, v) :: gs)
inductive OR (T : Tb) (K : PySem.W.Frag) (m : List Addr) (H : Hp) : O → HO → Prop
  | lst {xs : List D} {vs : List V} : VRs K m H xs vs → xs.length ≤ sizeLine → OR T K m H (.lst xs) (.lst vs)
  | frl {xs : List D} {vs : List V} {o : Obj} : VRs K m H xs vs → xs.length ≤ sizeLine → OR T K m H (.frl xs) (.frz o (.lst vs))
  | ins {c : Nat} {dx : Addr} {fs : List (Nat × D)} {gs : List (Str × V)} : c ∈ T.cls → FRs T K m H fs gs → OR T K m H (.ins c fs) (.ins (T.cad c) dx gs)
  | dct {kvs : List ((Int ⊕ Str) × D)} {gs : List (L2.Key × V)} : KRs K m H kvs gs → OR T K m H (.dct kvs) (.dK gs)

structure Rel (T : Tb) (K : PySem.W.Frag) (m : List Addr) (h : Hh) (H : Hp) : Prop where
  len : m.length = h.length
  nd : m.Nodup
  ob : ∀ (n : Nat) (a : Addr) (o : O), m[n]? = some a → h[n]? = some o → ∃ u, H a = some u ∧ OR T K m H o u

structure Ext (K : PySem.W.Frag) (m : List Addr) (H : Hp) (m' : List Addr) (H' : Hp) : Prop where
  pre : ∃ r, m' = m ++ r
  keep : ∀ b o, H b = some o → b ∉ m → H' b = some o
  fresh : ∀ a, a ∈ m' → a ∉ m → H a = none
  tups : ∀ a vs, SqT K H a vs → SqT K H' a vs

theorem nodup_ixA {N : List Addr} (hN : N.Nodup) {i j : Nat} {x : Addr} (a : N[i]? = some x) (b : N[j]? = some x) : i = j := by
  obtain ⟨h1, e1⟩ := List.getElem?_eq_some_iff.mp a
  obtain ⟨h2, e2⟩ := List.getElem?_eq_some_iff.mp b
  exact (List.getElem_inj hN).mp (e1.trans e2.symm)
section
variable {T : Tb} {K : PySem.W.Frag} {m m' m1 m2 : List Addr} {H H' H1 H2 : Hp} {h h' : Hh}

theorem Ext.refl : Ext K m H m H := ⟨⟨[], by simp⟩, fun _ _ e _ => e, fun _ h1 h2 => absurd h1 h2, fun _ _ e => e⟩
theorem Ext.sub (e : Ext K m H m' H') {n : Nat} {a : Addr} (x : m[n]? = some a) : m'[n]? = some a := by
  obtain ⟨r, rfl⟩ := e.pre
  rw [List.getElem?_append_left (List.getElem?_eq_some_iff.mp x).1]
  exact x
theorem Ext.mem (e : Ext K m H m' H') {a : Addr} (x : a ∈ m) : a ∈ m' := by
  obtain ⟨r, rfl⟩ := e.pre
  exact List.mem_append_left _ x
theorem Ext.trans (a : Ext K m H m1 H1) (b : Ext K m1 H1 m2 H2) : Ext K m H m2 H2 where
  pre := by
    obtain ⟨r, rfl⟩ := a.pre
    obtain ⟨r2, rfl⟩ := b.pre
    exact ⟨r ++ r2, by simp⟩
  keep := fun c o e n => by
    by_cases hc : c ∈ m1
    · have := a.fresh c hc n
      rw [this] at e; cases e
    · exact b.keep c o (a.keep c o e n) hc
  fresh := fun c h1 h2 => by
    by_cases hc : c ∈ m1
    · exact a.fresh c hc h2
    · have q := b.fresh c h1 hc
      cases e : H c with
      | none => rfl
      | some o =>
        rw [a.keep c o e h2] at q; cases q
  tups := fun c vs e => b.tups c vs (a.tups c vs e)

mutual
theorem VR.mono (e : Ext K m H m' H') : ∀ {d : D} {v : V}, VR K m H d v → VR K m' H' d v
  | _, _, .non => .non
  | _, _, .bl b => .bl b
  | _, _, .int i => .int i
  | _, _, .str x => .str x
  | _, _, .tup s r l => .tup (e.tups _ _ s) (VRs.mono e r) l
  | _, _, .loc x => .loc (e.sub x)
theorem VRs.mono (e : Ext K m H m' H') : ∀ {d : List D} {v : List V}, VRs K m H d v → VRs K m' H' d v
  | _, _, .nil => .nil
  | _, _, .cons a b => .cons (VR.mono e a) (VRs.mono e b)
end
mutual
/-- another heap with the same tuples -/
theorem VR.same (t : ∀ a vs, SqT K H a vs → SqT K H' a vs) : ∀ {d : D} {v : V}, VR K m H d v → VR K m H' d v
  | _, _, .non => .non
  | _, _, .bl b => .bl b
  | _, _, .int i => .int i
  | _, _, .str x => .str x
  | _, _, .tup s r l => .tup (t _ _ s) (VRs.same t r) l
  | _, _, .loc x => .loc x
theorem VRs.same (t : ∀ a vs, SqT K H a vs → SqT K H' a vs) : ∀ {d : List D} {v : List V}, VRs K m H d v → VRs K m H' d v
  | _, _, .nil => .nil
  | _, _, .cons a b => .cons (VR.same t a) (VRs.same t b)
end
mutual
/-- more numbers -/
theorem VR.grow {r : List Addr} : ∀ {d : D} {v : V}, VR K m H d v → VR K (m ++ r) H d v
  | _, _, .non => .non
  | _, _, .bl b => .bl b
  | _, _, .int i => .int i
  | _, _, .str x => .str x
  | _, _, .tup s q l => .tup s (VRs.grow q) l
  | _, _, .loc x => .loc (by rw [List.getElem?_append_left (List.getElem?_eq_some_iff.mp x).1]; exact x)
theorem VRs.grow {r : List Addr} : ∀ {d : List D} {v : List V}, VRs K m H d v → VRs K (m ++ r) H d v
  | _, _, .nil => .nil
  | _, _, .cons a b => .cons (VR.grow a) (VRs.grow b)
end
theorem VRs.length : ∀ {d : List D} {v : List V}, VRs K m H d v → d.length = v.length
  | _, _, .nil => rfl
  | _, _, .cons _ b => by simp [VRs.length b]
theorem VRs.get : ∀ {ds : List D} {vs : List V} {i : Nat} {d : D}, VRs K m H ds vs → ds[i]? = some d → ∃ v, vs[i]? = some v ∧ VR K m H d v
  | _, _, _, _, .nil, e => by simp at e
  | _, _, 0, _, .cons r _, e => by simp at e; subst e; exact ⟨_, rfl, r⟩
  | _, _, i + 1, _, .cons _ t, e => by
    obtain ⟨v, h1, h2⟩ := VRs.get (i := i) t (by simpa using e)
    exact ⟨v, by simpa using h1, h2⟩
theorem VRs.getV : ∀ {ds : List D} {vs : List V} {i : Nat} {v : V}, VRs K m H ds vs → vs[i]? = some v → ∃ d, ds[i]? = some d ∧ VR K m H d v
  | _, _, _, _, .nil, e => by simp at e
  | _, _, 0, _, .cons r _, e => by simp at e; subst e; exact ⟨_, rfl, r⟩
  | _, _, i + 1, _, .cons _ t, e => by
    obtain ⟨v, h1, h2⟩ := VRs.getV (i := i) t (by simpa using e)
    exact ⟨v, by simpa using h1, h2⟩
theorem VRs.append : ∀ {ds es : List D} {vs us : List V}, VRs K m H ds vs → VRs K m H es us → VRs K m H (ds ++ es) (vs ++ us)
  | _, _, _, _, .nil, s => s
  | _, _, _, _, .cons r t, s => .cons r (VRs.append t s)
theorem VRs.take : ∀ {ds : List D} {vs : List V} (n : Nat), VRs K m H ds vs → VRs K m H (ds.take n) (vs.take n)
  | _, _, 0, _ => .nil
  | _, _, _ + 1, .nil => .nil
  | _, _, n + 1, .cons r t => .cons r (VRs.take n t)
theorem VRs.drop : ∀ {ds : List D} {vs : List V} (n : Nat), VRs K m H ds vs → VRs K m H (ds.drop n) (vs.drop n)
  | _, _, 0, r => r
  | _, _, _ + 1, .nil => .nil
  | _, _, n + 1, .cons _ t => VRs.drop n t
theorem VRs.set {d : D} {v : V} (r : VR K m H d v) : ∀ {ds : List D} {vs : List V} (i : Nat), VRs K m H ds vs → VRs K m H (ds.set i d) (vs.set i v)
  | _, _, _, .nil => .nil
  | _, _, 0, .cons _ t => .cons r t
  | _, _, i + 1, .cons q t => .cons q (VRs.set r i t)
theorem FRs.mono (e : Ext K m H m' H') : ∀ {d : List (Nat × D)} {v : List (Str × V)}, FRs T K m H d v → FRs T K m' H' d v
  | _, _, .nil => .nil
  | _, _, .cons a b => .cons (VR.mono e a) (FRs.mono e b)
theorem FRs.length : ∀ {d : List (Nat × D)} {v : List (Str × V)}, FRs T K m H d v → d.length = v.length
  | _, _, .nil => rfl
  | _, _, .cons _ b => by simp [FRs.length b]
theorem FRs.look {f : Nat} {d : D} : ∀ {fs : List (Nat × D)} {gs : List (Str × V)}, FRs T K m H fs gs → fs.lookup f = some d → ∃ v, gs.lookup (T.fld f) = some v ∧ VR K m H d v
  | _, _, .nil, e => by simp at e
  | (g, d') :: fs, _, .cons (f := _) (v := v) a b, e => by
    by_cases q : f = g
    · subst q
      simp only [List.lookup, beq_self_eq_true] at e ⊢
      cases e
      exact ⟨v, rfl, a⟩
    · have q1 : (f == g) = false := beq_eq_false_iff_ne.mpr q
      have q2 : (T.fld f == T.fld g) = false := beq_eq_false_iff_ne.mpr fun z => q (T.inj _ _ z)
      simp only [List.lookup, q1] at e
      obtain ⟨v', h1, h2⟩ := FRs.look b e
      exact ⟨v', by simp only [List.lookup, q2]; exact h1, h2⟩
theorem FRs.lookNone {f : Nat} : ∀ {fs : List (Nat × D)} {gs : List (Str × V)}, FRs T K m H fs gs → fs.lookup f = none → gs.lookup (T.fld f) = none
  | _, _, .nil, e => rfl
  | (g, d') :: fs, _, .cons (f := _) (v := v) a b, e => by
    by_cases q : f = g
    · subst q
      simp only [List.lookup, beq_self_eq_true] at e
      cases e
    · have q1 : (f == g) = false := beq_eq_false_iff_ne.mpr q
      have q2 : (T.fld f == T.fld g) = false := beq_eq_false_iff_ne.mpr fun z => q (T.inj _ _ z)
      simp only [List.lookup, q1] at e
      simp only [List.lookup, q2]
      exact FRs.lookNone b e
theorem FRs.put {f : Nat} {d : D} {v : V} (r : VR K m H d v) : ∀ {fs : List (Nat × D)} {gs : List (Str × V)}, FRs T K m H fs gs → FRs T K m H (PM.putF f d fs) (L2.putF (T.fld f) v gs)
  | _, _, .nil => .cons r .nil
  | (g, d') :: fs, (_, v') :: gs, .cons a b => by
    by_cases q : g = f
    · subst q
      simp only [PM.putF, L2.putF, if_true]
      exact .cons r b
    · have q2 : ¬ T.fld g = T.fld f := fun z => q (T.inj _ _ z)
      simp only [PM.putF, L2.putF, if_neg q, if_neg q2]
      exact .cons a (FRs.put r b)
theorem KRs.mono (e : Ext K m H m' H') : ∀ {d : List ((Int ⊕ Str) × D)} {v : List (L2.Key × V)}, KRs K m H d v → KRs K m' H' d v
  | _, _, .nil => .nil
  | _, _, .cons a b => .cons (VR.mono e a) (KRs.mono e b)
theorem KRs.same (t : ∀ a vs, SqT K H a vs → SqT K H' a vs) : ∀ {d : List ((Int ⊕ Str) × D)} {v : List (L2.Key × V)}, KRs K m H d v → KRs K m H' d v
  | _, _, .nil => .nil
  | _, _, .cons a b => .cons (VR.same t a) (KRs.same t b)
theorem KRs.grow {r : List Addr} : ∀ {d : List ((Int ⊕ Str) × D)} {v : List (L2.Key × V)}, KRs K m H d v → KRs K (m ++ r) H d v
  | _, _, .nil => .nil
  | _, _, .cons a b => .cons (VR.grow a) (KRs.grow b)
theorem OR.mono (e : Ext K m H m' H') {o : O} {u : HO} (r : OR T K m H o u) : OR T K m' H' o u := by
  cases r with
  | lst x l => exact .lst (x.mono e) l
  | frl x l => exact .frl (x.mono e) l
  | ins c x => exact .ins c (x.mono e)
  | dct x => exact .dct (x.mono e)
theorem FRs.same (t : ∀ a vs, SqT K H a vs → SqT K H' a vs) : ∀ {d : List (Nat × D)} {v : List (Str × V)}, FRs T K m H d v → FRs T K m H' d v
  | _, _, .nil => .nil
  | _, _, .cons a b => .cons (VR.same t a) (FRs.same t b)
theorem FRs.grow {r : List Addr} : ∀ {d : List (Nat × D)} {v : List (Str × V)}, FRs T K m H d v → FRs T K (m ++ r) H d v
  | _, _, .nil => .nil
  | _, _, .cons a b => .cons (VR.grow a) (FRs.grow b)
theorem OR.same (t : ∀ a vs, SqT K H a vs → SqT K H' a vs) {o : O} {u : HO} (r : OR T K m H o u) : OR T K m H' o u := by
  cases r with
  | lst x l => exact .lst (x.same t) l
  | frl x l => exact .frl (x.same t) l
  | ins c x => exact .ins c (x.same t)
  | dct x => exact .dct (x.same t)
theorem OR.grow {r : List Addr} {o : O} {u : HO} (q : OR T K m H o u) : OR T K (m ++ r) H o u := by
  cases q with
  | lst x l => exact .lst x.grow l
  | frl x l => exact .frl x.grow l
  | ins c x => exact .ins c x.grow
  | dct x => exact .dct x.grow
theorem OR.noTup {o : O} {vs : List V} (r : OR T K m H o (.tup vs)) : False := by cases r
theorem Rel.at (R : Rel T K m h H) {n : Nat} {a : Addr} (e : m[n]? = some a) : ∃ o, h[n]? = some o := by
  have := (List.getElem?_eq_some_iff.mp e).1
  rw [R.len] at this
  exact ⟨h[n], List.getElem?_eq_getElem this⟩
theorem Rel.addr (R : Rel T K m h H) {n : Nat} {o : O} (e : h[n]? = some o) : ∃ a, m[n]? = some a := by
  have := (List.getElem?_eq_some_iff.mp e).1
  rw [← R.len] at this
  exact ⟨m[n], List.getElem?_eq_getElem this⟩
theorem Rel.get (R : Rel T K m h H) {n : Nat} {o : O} (e : h[n]? = some o) : ∃ a u, m[n]? = some a ∧ H a = some u ∧ OR T K m H o u := by
  obtain ⟨a, ea⟩ := R.addr e
  obtain ⟨u, eu, r⟩ := R.ob n a o ea e
  exact ⟨a, u, ea, eu, r⟩
/-- what stands at a number -/
theorem Rel.of (R : Rel T K m h H) {n : Nat} {a : Addr} {o : O} (ea : m[n]? = some a) (e : h[n]? = some o) : ∃ u, H a = some u ∧ OR T K m H o u := R.ob n a o ea e
theorem Rel.notTup (R : Rel T K m h H) {a : Addr} (e : a ∈ m) : ∀ vs, ¬ Rd H a (.tup vs) := fun vs hr => by
  obtain ⟨n, hn, rfl⟩ := List.getElem_of_mem e
  obtain ⟨o, ho⟩ := R.at (List.getElem?_eq_getElem hn)
  obtain ⟨u, eu, r⟩ := R.ob n _ o (List.getElem?_eq_getElem hn) ho
  rcases hr with z | ⟨ob, z⟩
  · rw [eu] at z; cases z; exact r.noTup
  · rw [eu] at z; cases z; cases r
/-- tuples stay where another object is written -/
theorem sqT_upd {a b : Addr} {o : HO} {vs : List V} (ha : ∀ vs, ¬ Rd H a (.tup vs)) (e : SqT K H b vs) : SqT K (upd H a o) b vs := by
  rcases e with hr | hk
  · left
    have nb : b ≠ a := fun z => by subst z; exact ha _ hr
    rcases hr with z | ⟨ob, z⟩
    · exact .inl (by rw [upd_ne nb]; exact z)
    · exact .inr ⟨ob, by rw [upd_ne nb]; exact z⟩
  · exact .inr hk
theorem noTup_none {a : Addr} (e : H a = none) : ∀ vs, ¬ Rd H a (.tup vs) := fun vs hr => by
  rcases hr with z | ⟨ob, z⟩
  · rw [e] at z; cases z
  · rw [e] at z; cases z
/-- a new thing that is no number: a tuple, an exception's dict -/
theorem Ext.lay {p : Addr} {o : HO} (hp : H p = none) : Ext K m H m (upd H p o) where
  pre := ⟨[], by simp⟩
  keep := fun b u e _ => by
    rw [upd_ne (ne_of_none e hp)]; exact e
  fresh := fun _ h1 h2 => absurd h1 h2
  tups := fun a vs e => sqT_upd (noTup_none hp) e
theorem Rel.ext (R : Rel T K m h H) (e : Ext K m H m H') (k : ∀ a, a ∈ m → H' a = H a) : Rel T K m h H' where
  len := R.len
  nd := R.nd
  ob := fun n a o ea eo => by
    obtain ⟨u, eu, r⟩ := R.ob n a o ea eo
    exact ⟨u, by rw [k a (List.mem_of_getElem? ea)]; exact eu, r.mono e⟩
theorem Rel.some_of (R : Rel T K m h H) {a : Addr} (e : a ∈ m) : ∃ u, H a = some u := by
  obtain ⟨n, hn, rfl⟩ := List.getElem_of_mem e
  obtain ⟨o, ho⟩ := R.at (List.getElem?_eq_getElem hn)
  obtain ⟨u, eu, r⟩ := R.ob n _ o (List.getElem?_eq_getElem hn) ho
  exact ⟨u, eu⟩
theorem Rel.lay (R : Rel T K m h H) {p : Addr} {o : HO} (hp : H p = none) : Rel T K m h (upd H p o) :=
  R.ext (Ext.lay hp) fun a ha => by
    obtain ⟨u, eu⟩ := R.some_of ha
    exact upd_ne (ne_of_none eu hp)
/-- a new object with a number -/
theorem Ext.new (R : Rel T K m h H) {p : Addr} {o : HO} (hp : H p = none) : Ext K m H (m ++ [p]) (upd H p o) where
  pre := ⟨[p], rfl⟩
  keep := fun b u e _ => by rw [upd_ne (ne_of_none e hp)]; exact e
  fresh := fun a h1 h2 => by
    rcases List.mem_append.mp h1 with z | z
    · exact absurd z h2
    · have : a = p := by simpa using z
      subst this; exact hp
  tups := fun a vs e => sqT_upd (noTup_none hp) e
theorem Rel.new (R : Rel T K m h H) {p : Addr} {o : O} {u : HO} (hp : H p = none) (r : OR T K (m ++ [p]) (upd H p u) o u) : Rel T K (m ++ [p]) (h ++ [o]) (upd H p u) where
  len := by simp [R.len]
  nd := by
    rw [List.nodup_append]
    refine ⟨R.nd, by simp, fun a ha b hb => ?_⟩
    have : b = p := by simpa using hb
    subst this
    intro z; subst z
    obtain ⟨u, eu⟩ := R.some_of ha
    rw [hp] at eu; cases eu
  ob := fun n a o' ea eo => by
    by_cases hn : n < m.length
    · rw [List.getElem?_append_left hn] at ea
      rw [List.getElem?_append_left (by rw [← R.len]; exact hn)] at eo
      obtain ⟨u', eu, r'⟩ := R.ob n a o' ea eo
      exact ⟨u', by rw [upd_ne (ne_of_none eu hp)]; exact eu, r'.mono (Ext.new R hp)⟩
    · have hn' : m.length ≤ n := Nat.le_of_not_lt hn
      rw [List.getElem?_append_right hn'] at ea
      rw [List.getElem?_append_right (by rw [← R.len]; exact hn')] at eo
      rw [← R.len] at eo
      cases q : n - m.length with
      | zero =>
        rw [q] at ea eo
        simp at ea eo
        subst ea eo
        exact ⟨u, upd_same, r⟩
      | succ k =>
        rw [q] at ea
        simp at ea
theorem Rel.last (R : Rel T K m h H) {p : Addr} : (m ++ [p])[h.length]? = some p := by
  rw [← R.len]; simp
/-- an object with a number is written -/
theorem Ext.put (R : Rel T K m h H) {n : Nat} {a : Addr} {o : HO} (ea : m[n]? = some a) : Ext K m H m (upd H a o) where
  pre := ⟨[], by simp⟩
  keep := fun b u e nb => by
    have q : b ≠ a := fun z => nb (by rw [z]; exact List.mem_of_getElem? ea)
    rw [upd_ne q]; exact e
  fresh := fun _ h1 h2 => absurd h1 h2
  tups := fun b vs e => sqT_upd (R.notTup (List.mem_of_getElem? ea)) e
theorem Rel.put (R : Rel T K m h H) {n : Nat} {a : Addr} {o : O} {u : HO} (ea : m[n]? = some a) (r : OR T K m (upd H a u) o u) : Rel T K m (h.set n o) (upd H a u) where
  len := by simp [R.len]
  nd := R.nd
  ob := fun k b o' eb eo => by
    by_cases q : k = n
    · subst q
      rw [ea] at eb; cases eb
      have hk : k < h.length := by rw [← R.len]; exact (List.getElem?_eq_some_iff.mp ea).1
      rw [List.getElem?_set_self hk] at eo
      cases eo
      exact ⟨u, upd_same, r⟩
    · rw [List.getElem?_set_ne (Ne.symm q)] at eo
      obtain ⟨u', eu, r'⟩ := R.ob k b o' eb eo
      have nb : b ≠ a := fun z => q (nodup_ixA R.nd eb (z ▸ ea))
      exact ⟨u', by rw [upd_ne nb]; exact eu, r'.mono (Ext.put R ea)⟩
end
end PM
set_option Elab.async false
set_option linter.all false
set_option maxRecDepth 100000
set_option maxHeartbeats 4000000
/-! PM3: what a run of PM's asks of the hand layer; operators by values. -/
namespace PM
open PySem PySem.Spec PyProof.Rows L2

/-- an exception as it leaves -/
def XR (T : Tb) (K : PySem.W.Frag) (m : List Addr) (H : Hp) (c : Nat) (fs : List (Nat × D)) (cls : Value) (d : Option Addr) : Prop :=
  cls = .ref (T.cad c) ∧ c ∈ T.xcs ∧ ((fs = [] ∧ d = none) ∨ ∃ dd gs, d = some dd ∧ H dd = some (.xd gs) ∧ FRs T K m H fs gs)

/-- a run's result is good: what is wished of its end, of its exception -/
def Gd {α : Type} (T : Tb) (K : PySem.W.Frag) (r : R α) (m : List Addr) (H : Hp) (g : α → List Addr → Hh → Hp → Prop) (W : XK) : Prop := match r with
  | .ok a h => ∀ m' H', Ext K m H m' H' → Rel T K m' h H' → g a m' h H'
  | .exc c fs h => ∀ m' H' cls d, Ext K m H m' H' → Rel T K m' h H' → XR T K m' H' c fs cls d → W cls d H'
  | .bad => False

/-- the wish of a value -/
def wV (K : PySem.W.Frag) (Q : VK) : D → List Addr → Hh → Hp → Prop := fun d m' _ H' => ∀ v, VR K m' H' d v → Q v H'
def wVs (K : PySem.W.Frag) (Q : List V → Hp → Prop) : List D → List Addr → Hh → Hp → Prop := fun d m' _ H' => ∀ v, VRs K m' H' d v → Q v H'
def noX : XK := fun _ _ _ => False

section
variable {T : Tb} {K : PySem.W.Frag} {m m' m1 m2 : List Addr} {H H' H1 H2 : Hp} {h h' : Hh}
theorem XR.mono (e : Ext K m H m' H') (n : ∀ dd gs, H dd = some (.xd gs) → dd ∉ m) {c : Nat} {fs : List (Nat × D)} {cls : Value} {d : Option Addr} (x : XR T K m H c fs cls d) : XR T K m' H' c fs cls d := by
  obtain ⟨e1, e0, x⟩ := x
  refine ⟨e1, e0, ?_⟩
  rcases x with x | ⟨dd, gs, e2, e3, r⟩
  · exact .inl x
  · exact .inr ⟨dd, gs, e2, e.keep _ _ e3 (n _ _ e3), r.mono e⟩
theorem Rel.noXd (R : Rel T K m h H) : ∀ dd gs, H dd = some (.xd gs) → dd ∉ m := fun dd gs e hm => by
  obtain ⟨n, hn, rfl⟩ := List.getElem_of_mem hm
  obtain ⟨o, ho⟩ := R.at (List.getElem?_eq_getElem hn)
  obtain ⟨u, eu, r⟩ := R.ob n _ o (List.getElem?_eq_getElem hn) ho
  rw [eu] at e; cases e; cases r
theorem Gd.imp {α : Type} {r : R α} {g g' : α → List Addr → Hh → Hp → Prop} {W W' : XK} (x : Gd T K r m H g W)
    (f : ∀ a m' h' H', Ext K m H m' H' → Rel T K m' h' H' → g a m' h' H' → g' a m' h' H') (fx : ∀ c d H', W c d H' → W' c d H') : Gd T K r m H g' W' := by
  cases r with
  | ok a h => exact fun m' H' e R => f a m' h H' e R (x m' H' e R)
  | exc c fs h => exact fun m' H' cls d e R z => fx _ _ _ (x m' H' cls d e R z)
  | bad => exact x
theorem Gd.mono {α : Type} {r : R α} {g : α → List Addr → Hh → Hp → Prop} {W : XK} (e : Ext K m H m1 H1) (x : Gd T K r m H g W) : Gd T K r m1 H1 g W := by
  cases r with
  | ok a h => exact fun m' H' e' R => x m' H' (e.trans e') R
  | exc c fs h => exact fun m' H' cls d e' R z => x m' H' cls d (e.trans e') R z
  | bad => exact x
theorem Gd.bind {α β : Type} {r : R α} {f : α → Hh → R β} {g : β → List Addr → Hh → Hp → Prop} {W : XK} (x : Gd T K (r.bind f) m H g W) :
    Gd T K r m H (fun a m1 h1 H1 => Gd T K (f a h1) m1 H1 g W) W := by
  cases r with
  | ok a h => exact fun m' H' e R => Gd.mono e x
  | exc c fs h => exact x
  | bad => exact x
theorem Gd.ok {α : Type} {a : α} {h : Hh} {g : α → List Addr → Hh → Hp → Prop} {W : XK} (x : Gd T K (.ok a h) m H g W) (R : Rel T K m h H) : g a m h H := x m H Ext.refl R
theorem Gd.at {α : Type} {a : α} {h : Hh} {g : α → List Addr → Hh → Hp → Prop} {W : XK} (x : Gd T K (.ok a h) m H g W) (e : Ext K m H m' H') (R : Rel T K m' h H') : g a m' h H' := x m' H' e R
end

/-! ### shapes of values -/
section
variable {T : Tb} {K : PySem.W.Frag} {m : List Addr} {H : Hp} {h : Hh} {v : V}
theorem VR.int_of {i : Int} (r : VR K m H (.int i) v) : v = .int i := by cases r; rfl
theorem VR.str_of {x : Str} (r : VR K m H (.str x) v) : v = .str x := by cases r; rfl
theorem VR.bl_of {b : Bool} (r : VR K m H (.bl b) v) : v = .bl b := by cases r; rfl
theorem VR.non_of (r : VR K m H .non v) : v = .non := by cases r; rfl
theorem VR.tup_of {xs : List D} (r : VR K m H (.tup xs) v) : ∃ a vs, v = .ref a ∧ SqT K H a vs ∧ VRs K m H xs vs := by
  cases r with
  | tup s q _ => exact ⟨_, _, rfl, s, q⟩
theorem VR.tup_len {xs : List D} (r : VR K m H (.tup xs) v) : xs.length ≤ sizeLine := by
  cases r with
  | tup _ _ l => exact l
theorem Rel.lst_len (R : Rel T K m h H) {n : Nat} {xs : List D} (e : h[n]? = some (.lst xs)) : xs.length ≤ sizeLine := by
  obtain ⟨a, u, _, _, q⟩ := R.get e
  cases q with
  | lst _ l => exact l
theorem Rel.frl_len (R : Rel T K m h H) {n : Nat} {xs : List D} (e : h[n]? = some (.frl xs)) : xs.length ≤ sizeLine := by
  obtain ⟨a, u, _, _, q⟩ := R.get e
  cases q with
  | frl _ l => exact l
theorem cut_le {α : Type} (xs : List α) (lo hi : Option Int) : (PM.cut xs lo hi).length ≤ xs.length := by
  unfold PM.cut
  rw [List.length_take, List.length_drop]
  omega
theorem VR.loc_of {n : Nat} (r : VR K m H (.loc n) v) : ∃ a, v = .ref a ∧ m[n]? = some a := by
  cases r with
  | loc e => exact ⟨_, rfl, e⟩
theorem VR.lst_of (R : Rel T K m h H) {n : Nat} {xs : List D} (r : VR K m H (.loc n) v) (e : h[n]? = some (.lst xs)) : ∃ a vs, v = .ref a ∧ m[n]? = some a ∧ H a = some (.lst vs) ∧ VRs K m H xs vs := by
  obtain ⟨a, rfl, ea⟩ := r.loc_of
  obtain ⟨u, eu, q⟩ := R.of ea e
  cases q with
  | lst q _ => exact ⟨a, _, rfl, ea, eu, q⟩
theorem VR.frl_of (R : Rel T K m h H) {n : Nat} {xs : List D} (r : VR K m H (.loc n) v) (e : h[n]? = some (.frl xs)) : ∃ a vs, v = .ref a ∧ m[n]? = some a ∧ SqL K H a vs ∧ VRs K m H xs vs := by
  obtain ⟨a, rfl, ea⟩ := r.loc_of
  obtain ⟨u, eu, q⟩ := R.of ea e
  cases q with
  | frl q _ => exact ⟨a, _, rfl, ea, .inl (.inr ⟨_, eu⟩), q⟩
theorem VR.ins_of (R : Rel T K m h H) {n c : Nat} {fs : List (Nat × D)} (r : VR K m H (.loc n) v) (e : h[n]? = some (.ins c fs)) : ∃ a dx gs, v = .ref a ∧ m[n]? = some a ∧ H a = some (.ins (T.cad c) dx gs) ∧ FRs T K m H fs gs ∧ c ∈ T.cls := by
  obtain ⟨a, rfl, ea⟩ := r.loc_of
  obtain ⟨u, eu, q⟩ := R.of ea e
  cases q with
  | ins c q => exact ⟨a, _, _, rfl, ea, eu, q, c⟩
/-- a list that is read -/
theorem VR.seq_of (R : Rel T K m h H) {n : Nat} {xs : List D} (r : VR K m H (.loc n) v) (e : h[n]? = some (.lst xs) ∨ h[n]? = some (.frl xs)) : ∃ a vs, v = .ref a ∧ m[n]? = some a ∧ SqL K H a vs ∧ VRs K m H xs vs := by
  rcases e with e | e
  · obtain ⟨a, vs, e1, e2, e3, q⟩ := r.lst_of R e
    exact ⟨a, vs, e1, e2, SqL.of e3, q⟩
  · exact r.frl_of R e
end

/-! ### flat data as the library's data -/
section
variable {K : PySem.W.Frag} {m : List Addr} {H : Hp}
mutual
theorem VR.dp : ∀ {d : D} {v : V}, VR K m H d v → D.flat d = true → Dp K H v (D.pd d)
  | _, _, .non, _ => by rw [D.pd]; exact .non
  | _, _, .bl b, _ => by rw [D.pd]; exact .bl b
  | _, _, .int i, _ => by rw [D.pd]; exact .int i
  | _, _, .str x, _ => by rw [D.pd]; exact .str x
  | _, _, .tup s r _, f => by rw [D.pd]; exact .tup s (VRs.dps r (by rw [D.flat] at f; exact f))
  | _, _, .loc _, f => by rw [D.flat] at f; cases f
theorem VRs.dps : ∀ {d : List D} {v : List V}, VRs K m H d v → D.flats d = true → DpAll K H v (D.pds d)
  | _, _, .nil, _ => by rw [D.pds]; exact .nil
  | _, _, .cons a b, f => by
    rw [D.flats, Bool.and_eq_true] at f
    rw [D.pds]
    exact .cons (VR.dp a f.1) (VRs.dps b f.2)
end
mutual
theorem D.pd_lay : ∀ d : D, D.flat d = true → PyData.canLay0 (D.pd d) = true
  | .non, _ => by simp [D.pd, PyData.canLay0]
  | .bl b, _ => by simp [D.pd, PyData.canLay0]
  | .int i, _ => by simp [D.pd, PyData.canLay0]
  | .str x, f => by rw [D.flat] at f; rw [D.pd]; exact f
  | .tup xs, f => by
    rw [D.flat] at f
    rw [D.pd, PyData.canLay0]
    exact D.pds_lay xs f
  | .loc _, f => by rw [D.flat] at f; cases f
theorem D.pds_lay : ∀ d : List D, D.flats d = true → PyData.canLayAll0 (D.pds d) = true
  | [], _ => by simp [D.pds, PyData.canLayAll0]
  | x :: xs, f => by
    rw [D.flats, Bool.and_eq_true] at f
    rw [D.pds, PyData.canLayAll0, D.pd_lay x f.1, D.pds_lay xs f.2]
    rfl
end
mutual
theorem D.pd_deep : ∀ d : D, (D.pd d).depth = D.deep d
  | .non => by simp [D.pd, PyData.depth, D.deep]
  | .bl b => by simp [D.pd, PyData.depth, D.deep]
  | .int i => by simp [D.pd, PyData.depth, D.deep]
  | .str x => by simp [D.pd, PyData.depth, D.deep]
  | .tup xs => by rw [D.pd, PyData.depth, D.deep, D.pds_deep xs]
  | .loc _ => by simp [D.pd, PyData.depth, D.deep]
theorem D.pds_deep : ∀ d : List D, PyData.depthAll (D.pds d) = D.deeps d
  | [] => by simp [D.pds, PyData.depthAll, D.deeps]
  | x :: xs => by rw [D.pds, PyData.depthAll, D.deeps, D.pd_deep x, D.pds_deep xs]
end
theorem D.good_flat {d : D} (g : D.good d = true) : D.flat d = true := by
  rw [D.good, Bool.and_eq_true] at g; exact g.1
theorem D.good_shaped {d : D} (g : D.good d = true) : SeqAt.shaped (D.pd d) = true := by
  rw [D.good, Bool.and_eq_true] at g
  show ((D.pd d).canLay0 && decide ((D.pd d).depth ≤ 64)) = true
  rw [Bool.and_eq_true, D.pd_deep]
  exact ⟨D.pd_lay d g.1, decide_eq_true (Nat.le_trans (of_decide_eq_true g.2) (by decide))⟩
mutual
theorem D.eqv_pd : ∀ d e : D, D.flat d = true → D.flat e = true → PyData.eqv (D.pd d) (D.pd e) = D.eq d e
  | .tup xs, .tup ys, f, g => by
    rw [D.flat] at f g
    rw [D.pd, D.pd, PyData.eqv, D.eq, D.eqvs_pd xs ys f g]
  | .loc _, _, f, _ => by rw [D.flat] at f; cases f
  | d, .loc _, _, g => by rw [D.flat] at g; cases g
  | .non, .non, _, _ => by simp [D.pd, PyData.eqv, D.eq]
  | .non, .bl _, _, _ => by simp [D.pd, PyData.eqv, D.eq]
  | .non, .int _, _, _ => by simp [D.pd, PyData.eqv, D.eq]
  | .non, .str _, _, _ => by simp [D.pd, PyData.eqv, D.eq]
  | .non, .tup _, _, _ => by simp [D.pd, PyData.eqv, D.eq]
  | .bl _, .non, _, _ => by simp [D.pd, PyData.eqv, D.eq]
  | .bl _, .bl _, _, _ => by simp [D.pd, PyData.eqv, D.eq]
  | .bl _, .int _, _, _ => by simp [D.pd, PyData.eqv, D.eq]
  | .bl _, .str _, _, _ => by simp [D.pd, PyData.eqv, D.eq]
  | .bl _, .tup _, _, _ => by simp [D.pd, PyData.eqv, D.eq]
  | .int _, .non, _, _ => by simp [D.pd, PyData.eqv, D.eq]
  | .int _, .bl _, _, _ => by simp [D.pd, PyData.eqv, D.eq]
  | .int _, .int _, _, _ => by simp [D.pd, PyData.eqv, D.eq]
  | .int _, .str _, _, _ => by simp [D.pd, PyData.eqv, D.eq]
  | .int _, .tup _, _, _ => by simp [D.pd, PyData.eqv, D.eq]
  | .str _, .non, _, _ => by simp [D.pd, PyData.eqv, D.eq]
  | .str _, .bl _, _, _ => by simp [D.pd, PyData.eqv, D.eq]
  | .str _, .int _, _, _ => by simp [D.pd, PyData.eqv, D.eq]
  | .str a, .str b, _, _ => by
    rw [D.pd, D.pd, PyData.eqv, D.eq]
    rw [Bool.eq_iff_iff]
    simp
  | .str _, .tup _, _, _ => by simp [D.pd, PyData.eqv, D.eq]
  | .tup _, .non, _, _ => by simp [D.pd, PyData.eqv, D.eq]
  | .tup _, .bl _, _, _ => by simp [D.pd, PyData.eqv, D.eq]
  | .tup _, .int _, _, _ => by simp [D.pd, PyData.eqv, D.eq]
  | .tup _, .str _, _, _ => by simp [D.pd, PyData.eqv, D.eq]
theorem D.eqvs_pd : ∀ d e : List D, D.flats d = true → D.flats e = true → PyData.eqvAll (D.pds d) (D.pds e) = D.eqs d e
  | [], [], _, _ => by simp [D.pds, PyData.eqvAll, D.eqs]
  | [], _ :: _, _, _ => by simp [D.pds, PyData.eqvAll, D.eqs]
  | _ :: _, [], _, _ => by simp [D.pds, PyData.eqvAll, D.eqs]
  | x :: xs, y :: ys, f, g => by
    rw [D.flats, Bool.and_eq_true] at f g
    rw [D.pds, D.pds, PyData.eqvAll, D.eqs, D.eqv_pd x y f.1 g.1, D.eqvs_pd xs ys f.2 g.2]
end
theorem allGood_flats : ∀ {xs : List D}, xs.all D.good = true → D.flats xs = true
  | [], _ => by simp [D.flats]
  | x :: xs, g => by
    rw [List.all_cons, Bool.and_eq_true] at g
    rw [D.flats, D.good_flat g.1, allGood_flats g.2]
    rfl
theorem allGood_deeps : ∀ {xs : List D}, xs.all D.good = true → D.deeps xs ≤ 60
  | [], _ => by simp [D.deeps]
  | x :: xs, g => by
    rw [List.all_cons, Bool.and_eq_true] at g
    have h1 := allGood_deeps g.2
    have h2 := g.1
    rw [D.good, Bool.and_eq_true] at h2
    have h3 : D.deep x ≤ 60 := by simpa using h2.2
    rw [D.deeps]
    omega
end
end PM
set_option Elab.async false
set_option linter.all false
set_option maxRecDepth 100000
set_option maxHeartbeats 4000000
/-! PM4: operators, comparisons, truth, built-in functions: by values. -/
namespace PM
open PySem PySem.Spec PyProof.Rows L2

/-- an operation on two values of PM's, as a reading -/
def rA2 (T : Tb) (K : PySem.W.Frag) (f : D → D → Hh → R D) : R2 := fun x y H Q => ∃ m h d e, Rel T K m h H ∧ VR K m H d x ∧ VR K m H e y ∧ Gd T K (f d e h) m H (wV K Q) noX

section
variable {T : Tb} {X : Cx}

theorem op_bin {op : Operator} : OpR X (binaryOp op) (rA2 T X.K (binop op)) := by
  intro pins s σ H x y v u Q I rx ry hh
  obtain ⟨m, h, d, e, R, vx, vy, g⟩ := hh
  unfold binop at g
  split at g
  · cases vx; cases vy
    exact op_add pins s σ H _ _ v u Q I rx ry ⟨_, _, rfl, rfl, g.ok R _ (.int _)⟩
  · split at g
    · rename_i hz
      cases vx; cases vy
      exact op_add_str pins s σ H _ _ v u Q I rx ry ⟨_, _, rfl, rfl, hz, g.ok R _ (.str _)⟩
    · exact g.elim
  · split at g
    · rename_i hz
      obtain ⟨a, vs, rfl, sa, ra⟩ := vx.tup_of
      obtain ⟨b, us, rfl, sb, rb⟩ := vy.tup_of
      refine op_catA pins s σ H _ _ v u Q I rx ry ⟨a, b, vs, us, rfl, rfl, sa, sb, by rw [← ra.length, ← rb.length]; exact hz, fun q => ?_, fun q1 q2 => ?_, fun q1 q2 p hp => ?_⟩
      · subst q
        cases ra
        exact g.ok R _ (.tup sb rb vy.tup_len)
      · subst q2
        cases rb
        exact g.ok R _ (.tup sa (by rw [List.append_nil]; exact ra) (by rw [List.length_append]; exact hz))
      · exact g.at (Ext.lay hp) (R.lay hp) _ (.tup (SqT.of upd_same) ((ra.append rb).mono (Ext.lay hp)) (by rw [List.length_append]; exact hz))
    · exact g.elim
  · split at g
    · rename_i xs ys e1 e2
      split at g
      · rename_i hz
        obtain ⟨a, vs, rfl, ea, sa, ra⟩ := vx.lst_of R e1
        obtain ⟨b, us, rfl, eb, sb, rb⟩ := vy.lst_of R e2
        refine op_cat pins s σ H _ _ v u Q I rx ry ⟨a, b, vs, us, rfl, rfl, sa, sb, by rw [← ra.length, ← rb.length]; exact hz, fun p hp => ?_⟩
        have E := Ext.new (o := .lst (vs ++ us)) R hp
        exact g.at E (R.new hp (.lst ((ra.append rb).mono E) (by rw [List.length_append]; exact hz))) _ (.loc R.last)
      · exact g.elim
    · exact g.elim
  · cases vx; cases vy
    exact op_sub pins s σ H _ _ v u Q I rx ry ⟨_, _, rfl, rfl, g.ok R _ (.int _)⟩
  · split at g
    · rename_i hz
      cases vx; cases vy
      refine op_mul pins s σ H _ _ v u Q I rx ry ⟨_, _, rfl, rfl, ?_, g.ok R _ (.int _)⟩
      simp only [okMul, Bool.or_eq_true, decide_eq_true_eq] at hz
      unfold CMul
      omega
    · exact g.elim
  · split at g
    · rename_i hz
      cases vx; cases vy
      exact op_fdiv pins s σ H _ _ v u Q I rx ry ⟨_, _, rfl, rfl, hz, g.ok R _ (.int _)⟩
    · exact g.elim
  · split at g
    · rename_i hz
      cases vx; cases vy
      exact op_mod pins s σ H _ _ v u Q I rx ry ⟨_, _, rfl, rfl, hz, g.ok R _ (.int _)⟩
    · exact g.elim
  · split at g
    · rename_i i j hz
      cases vx; cases vy
      obtain ⟨t, rfl⟩ := rx
      obtain ⟨t', rfl⟩ := ry
      refine pow_int hz.1 ?_ ⟨.int (i ^ j.toNat), H, I.tok _, ⟨_, rfl⟩, g.ok R _ (.int _)⟩
      have hb : Builtin.Int.intBits i ≤ 1000 := by
        unfold Builtin.Int.intBits
        split
        · omega
        · rename_i h0
          have h0' : i.natAbs ≠ 0 := by
            intro z
            apply h0
            simp [Int.natAbs_eq_zero.mp z]
          have := (Nat.log2_lt h0').mpr hz.2.2
          omega
      have h1 : (Builtin.Int.intBits i : Int) * j ≤ 1000 * j := Int.mul_le_mul_of_nonneg_right (by omega) hz.1
      omega
    · exact g.elim
  · exact g.elim

theorem Rel.opd_dp {m : List Addr} {h : Hh} {H : Hp} {K : PySem.W.Frag} {d : D} {v : V} {p : PyData} (R : Rel T K m h H) (r : VR K m H d v) (e : opd h d = some p) : Dp K H v p ∧ SeqAt.shaped p = true := by
  have plain : ∀ d : D, VR K m H d v → (if D.good d then some (D.pd d) else none) = some p → Dp K H v p ∧ SeqAt.shaped p = true := fun d r e => by
    split at e
    · rename_i g
      cases e
      exact ⟨r.dp (D.good_flat g), D.good_shaped g⟩
    · cases e
  cases d with
  | loc n =>
    simp only [opd] at e
    split at e
    · rename_i xs q
      split at e
      · rename_i g
        cases e
        obtain ⟨a, vs, rfl, ea, sa, ra⟩ := r.lst_of R q
        refine ⟨.lst (SqL.of sa) (ra.dps (allGood_flats g)), ?_⟩
        have h1 := D.pds_lay xs (allGood_flats g)
        have h2 := allGood_deeps g
        show (PyData.canLay0 (.list (D.pds xs)) && decide (PyData.depth (.list (D.pds xs)) ≤ 64)) = true
        rw [PyData.canLay0, h1, PyData.depth, D.pds_deep]
        simp
        omega
      · cases e
    · cases e
  | non => exact plain _ r e
  | bl b => exact plain _ r e
  | int b => exact plain _ r e
  | str b => exact plain _ r e
  | tup b => exact plain _ r e

theorem eqsAny {xs : List D} {x : D} (g : xs.all D.good = true) (gx : D.good x = true) : ((D.pds xs).any fun z => PyData.eqv z (D.pd x)) = xs.any fun y => D.eq y x := by
  induction xs with
  | nil => simp [D.pds]
  | cons y ys ih =>
    rw [List.all_cons, Bool.and_eq_true] at g
    rw [D.pds, List.any_cons, List.any_cons, ih g.2, D.eqv_pd y x (D.good_flat g.1) (D.good_flat gx)]

theorem one_sign {x : Str} {c : Nat} (hc : x.cps.toList = [c]) : x = ⟨#[c]⟩ := by
  obtain ⟨cps⟩ := x
  have : cps = #[c] := by
    apply Array.ext'
    simpa using hc
  rw [this]
section
variable {A : Around} {s : Shared}
theorem str_decl {b : Str} {u : Tok} {l : Addr} {o : Obj} : Meets (Builtin.«str.__eq__» ⟨[.str b u, .ref l], []⟩) (fun _ R s => s.heap.get? l = some o ∧ o.cls = .type "dict" ∧ (∃ es n, o.data = .dict es n) ∧ R (.ok (.ret .notImplemented)) s) :=
  .of_wp fun prog w A R s h => by
    obtain ⟨hp, g, d, tk, os⟩ := s
    obtain ⟨hl, hc, ⟨es, n, hd⟩, h⟩ := h
    obtain ⟨c, dd, dt, sl⟩ := o
    simp only at hc hd
    subst hc hd
    wp_walk using wpAny_loadPart' hl, wpAny_load hl
    exact ⟨_, rfl, h⟩
theorem dict_decl {b : Str} {u : Tok} {l : Addr} {o : Obj} : Meets (Builtin.«dict.__eq__» ⟨[.ref l, .str b u], []⟩) (fun _ R s => s.heap.get? l = some o ∧ o.cls = .type "dict" ∧ (∃ es n, o.data = .dict es n) ∧ R (.ok (.ret .notImplemented)) s) :=
  .of_wp fun prog w A R s h => by
    obtain ⟨hp, g, d, tk, os⟩ := s
    obtain ⟨hl, hc, ⟨es, n, hd⟩, h⟩ := h
    obtain ⟨c, dd, dt, sl⟩ := o
    simp only at hc hd
    subst hc hd
    wp_walk using wpAny_loadPart' hl, wpAny_load hl, wpAny_of_eq F.sub_str_dict
    exact ⟨_, rfl, h⟩
theorem eq_str_dict {l : Addr} {o : Obj} (b : Str) (u : Tok) (hl : s.heap.get? l = some o) (hc : o.cls = .type "dict") (hd : ∃ es n, o.data = .dict es n) (hu : A.units < cLine) : SeqAt.EqAt A s (.str b u) (.ref l) false := fun prog w E Q h => by
  unfold eqBool
  refine wpAny_holding ?_
  refine wpAny_ite_split (fun hab => absurd (eq_of_beq hab) nofun) (fun _ => ?_)
  refine wpAny_bind ?_
  exact SeqAt.rc_eq_decline_or (k := false) (typeIs_str s b u) ⟨_, hl, hc⟩ (by decide) F.sub_dict_str F.slot_str_eq F.slot_dict_eq_refl
    (fun _ hq => call_meets F.slot_str_eq (typeIs_str s b u) F.entry_str_eq (F.args_str_eq_2 _ _) (str_decl (l := l) (o := o)) ⟨hl, hc, hd, hq⟩)
    (fun _ hq => call_meets F.slot_dict_eq_refl ⟨_, hl, hc⟩ F.entry_dict_eq (F.args_dict_eq_2 _ _) (dict_decl (l := l) (o := o)) ⟨hl, hc, hd, hq⟩)
    (fun _ hq => wpAny_of_eq (rfl : isSame (.str b u) (.ref l) = pure false) hq) (.inr hu) (wpAny_truthy_bool h)
end
theorem reads_strs {hp : Heap} : ∀ {ys : List D} {vs : List Value} {as : List Addr}, (ys.all D.isStr) = true → ReadsAll hp vs (D.pds ys) as → ∀ y ∈ vs, ∃ b u, y = .str b u
  | [], _, _, _, r, y, hy => by rw [D.pds] at r; cases r; cases hy
  | d :: ys, _, _, h, r, y, hy => by
    simp only [List.all_cons, Bool.and_eq_true] at h
    rw [D.pds] at r
    cases r with
    | cons r1 r2 =>
      rcases List.mem_cons.mp hy with z | z
      · subst z
        cases d with
        | str x => rw [D.pd] at r1; cases r1; exact ⟨_, _, rfl⟩
        | _ => simp [D.isStr] at h
      · exact reads_strs h.2 r2 y z
theorem strs_flat {ys : List D} (h : (ys.all D.isStr) = true) : D.flats ys = true := by
  induction ys with
  | nil => rw [D.flats]
  | cons d ys ih =>
    simp only [List.all_cons, Bool.and_eq_true] at h
    rw [D.flats, ih h.2, Bool.and_true]
    cases d with
    | str x => exact h.1
    | _ => simp [D.isStr] at h
theorem op_in0 (hu : X.A.units + 65 < cLine) {pins : List (Addr × Obj)} {s : Shared} {σ : L2.St} {H : Hp} {x y : V} {v u : Value} {m : List Addr} {h : Hh} {d e : D} {b : Bool} (I : Inv X pins σ H s) (rx : RelV x v) (ry : RelV y u)
    (R : Rel T X.K m h H) (vx : VR X.K m H d x) (vy : VR X.K m H e y) (he : inop h d e = some b) (hnd : ∀ n kvs, e = .loc n → h[n]? ≠ some (.dct kvs)) {Q : Value → Shared → Prop} {E : Value → Shared → Prop} :
    (Q (.bool b) s → wpAny (model X.prog X.w) X.A (compareOp .In v u) Q E s) ∧ (Q (.bool (!b)) s → wpAny (model X.prog X.w) X.A (compareOp .NotIn v u) Q E s) := by
  unfold inop at he
  split at he
  · split at he
    · split at he
      · rename_i t s' c hc
        cases he
        cases vx; cases vy
        obtain ⟨t1, rfl⟩ := rx
        obtain ⟨t2, rfl⟩ := ry
        have e1 := one_sign hc
        subst e1
        exact ⟨fun q => PyProof.Rows.in_str (by rw [PySem.StrLaws.found_one]; exact q), fun q => PyProof.Rows.notIn_str (by rw [PySem.StrLaws.found_one]; exact q)⟩
      · cases he
    · cases he
  · split at he
    · rename_i ys g
      cases he
      rw [Bool.and_eq_true] at g
      obtain ⟨a, vs, rfl, sa, ra⟩ := vy.tup_of
      obtain ⟨bs, r1⟩ := Dp.reads I _ x v (vx.dp (D.good_flat g.1)) rx
      obtain ⟨as, r2⟩ := Dp.reads I (.tuple (D.pds ys)) _ u (.tup sa (ra.dps (allGood_flats g.2))) ry
      have h1 := D.pds_lay ys (allGood_flats g.2)
      have h2 := D.pd_lay _ (D.good_flat g.1)
      have h3 : X.A.units + 1 + min (PyData.depthAll (D.pds ys)) (D.pd d).depth < cLine := by
        have := allGood_deeps g.2
        rw [D.pds_deep]
        omega
      exact ⟨fun q => SeqAt.in_tuple_reads r2 r1 h1 h2 h3 (by rw [eqsAny g.2 g.1]; exact q), fun q => SeqAt.notIn_tuple_reads r2 r1 h1 h2 h3 (by rw [eqsAny g.2 g.1]; exact q)⟩
    · split at he
      · rename_i ys _ g
        cases he
        rw [Bool.and_eq_true] at g
        obtain ⟨a, vs, rfl, sa, ra⟩ := vy.tup_of
        obtain ⟨as, r2⟩ := Dp.reads I (.tuple (D.pds ys)) _ u (.tup sa (ra.dps (strs_flat g.2))) ry
        have eqs : ∀ y, (∃ b u, y = Value.str b u) → SeqAt.EqAt X.A.in1 s y v false := by
          rintro y ⟨b, t, rfl⟩
          have hu1 : X.A.in1.units < cLine := by show X.A.units + 1 < cLine; omega
          have g1 := g.1
          cases d with
          | loc n =>
            simp only [odd] at g1
            split at g1
            · rename_i xs e1
              obtain ⟨l, ws, rfl, ea, sl, _⟩ := vx.lst_of R e1
              cases rx
              obtain ⟨its, n, r, ho, hz⟩ := I.lst sl
              exact SeqAt.EqAt.str_list (items := its.toArray) b t ⟨_, ho, rfl, _, rfl⟩ hu1
            · rename_i kvs e1
              obtain ⟨l, rfl, ea⟩ := vx.loc_of
              obtain ⟨o, eo, q⟩ := R.of ea e1
              cases q with
              | dct q =>
                cases rx
                obtain ⟨z, hd, vs0, r0, ob, es, ep, e2, c, e3, _⟩ := dk_of I.hok eo
                exact eq_str_dict b t e2 c.1 ⟨_, _, e3⟩ hu1
            · cases g1
          | _ => simp [odd] at g1
        cases r2 with
        | tuple h1 h2 h3 h4 =>
          have all := reads_strs g.2 h4
          have an : ∀ items : Array Value, items.any (fun _ => false) = false := fun items => by simp
          refine ⟨fun q => SeqAt.in_tupleAt (fun _ => false) ⟨_, h1, h2, _, h3⟩ (fun y hy => eqs y (all y (by simpa using hy))) (by rw [an]; exact q), fun q => SeqAt.notIn_tupleAt (fun _ => false) ⟨_, h1, h2, _, h3⟩ (fun y hy => eqs y (all y (by simpa using hy))) (by rw [an]; exact q)⟩
      · cases he
  · split at he
    · split at he
      · rename_i ys e1 g
        cases he
        rw [Bool.and_eq_true] at g
        obtain ⟨a, vs, rfl, ea, sa, ra⟩ := vy.lst_of R e1
        obtain ⟨bs, r1⟩ := Dp.reads I _ x v (vx.dp (D.good_flat g.1)) rx
        obtain ⟨as, r2⟩ := Dp.reads I (.list (D.pds ys)) _ u (.lst (SqL.of sa) (ra.dps (allGood_flats g.2))) ry
        have h1 := D.pds_lay ys (allGood_flats g.2)
        have h2 := D.pd_lay _ (D.good_flat g.1)
        have h3 : X.A.units + 1 + min (PyData.depthAll (D.pds ys)) (D.pd d).depth < cLine := by
          have := allGood_deeps g.2
          rw [D.pds_deep]
          omega
        exact ⟨fun q => SeqAt.in_list_reads r2 r1 h1 h2 h3 (by rw [eqsAny g.2 g.1]; exact q), fun q => SeqAt.notIn_list_reads r2 r1 h1 h2 h3 (by rw [eqsAny g.2 g.1]; exact q)⟩
      · cases he
    · rename_i e1
      exact absurd e1 (hnd _ _ rfl)
    · cases he
  · cases he
theorem KRs.val {K : PySem.W.Frag} {m : List Addr} {H : Hp} {k : Int ⊕ Str} : ∀ {kvs : List ((Int ⊕ Str) × D)} {gs : List (L2.Key × V)}, KRs K m H kvs gs → (∀ d, valOf k kvs = some d → ∃ v, valV gs k = some v ∧ VR K m H d v) ∧ (valOf k kvs).isSome = (valV gs k).isSome
  | _, _, .nil => ⟨fun d e => (by cases e), rfl⟩
  | (q, d0) :: kvs, _, .cons (v := v0) a b => by
    obtain ⟨i1, i2⟩ := KRs.val (k := k) b
    unfold valV at i1 i2 ⊢
    by_cases hq : q = k
    · refine ⟨fun d e => ?_, by simp [valOf, hq]⟩
      simp only [valOf, if_pos hq] at e
      cases e
      exact ⟨v0, by simp [hq], a⟩
    · refine ⟨fun d e => ?_, ?_⟩
      · simp only [valOf, if_neg hq] at e
        obtain ⟨v, e1, e2⟩ := i1 d e
        exact ⟨v, by simpa [hq] using e1, e2⟩
      · simpa [valOf, hq] using i2
theorem key_of {K : PySem.W.Frag} {m : List Addr} {H : Hp} {d : D} {v : V} {k : Int ⊕ Str} (r : VR K m H d v) (e : keyOf d = some k) : v = kV k := by
  cases r <;> simp [keyOf] at e <;> subst e <;> rfl
theorem VR.dct_of {m : List Addr} {h : Hh} {H : Hp} {K : PySem.W.Frag} {v : V} (R : Rel T K m h H) {n : Nat} {kvs : List ((Int ⊕ Str) × D)} (r : VR K m H (.loc n) v) (e : h[n]? = some (.dct kvs)) : ∃ a gs, v = .ref a ∧ m[n]? = some a ∧ H a = some (.dK gs) ∧ KRs K m H kvs gs := by
  obtain ⟨a, rfl, ea⟩ := r.loc_of
  obtain ⟨u, eu, q⟩ := R.of ea e
  cases q with
  | dct q => exact ⟨a, _, rfl, ea, eu, q⟩
theorem op_in (hu : X.A.units + 65 < cLine) {pins : List (Addr × Obj)} {s : Shared} {σ : L2.St} {H : Hp} {x y : V} {v u : Value} {m : List Addr} {h : Hh} {d e : D} {b : Bool} (I : Inv X pins σ H s) (rx : RelV x v) (ry : RelV y u)
    (R : Rel T X.K m h H) (vx : VR X.K m H d x) (vy : VR X.K m H e y) (he : inop h d e = some b) {Q : Value → Shared → Prop} {E : Value → Shared → Prop} :
    ((∀ s', Inv X pins σ H s' → Q (.bool b) s') → wpAny (model X.prog X.w) X.A (compareOp .In v u) Q E s) ∧ ((∀ s', Inv X pins σ H s' → Q (.bool (!b)) s') → wpAny (model X.prog X.w) X.A (compareOp .NotIn v u) Q E s) := by
  by_cases hd : ∃ n kvs, e = .loc n ∧ h[n]? = some (.dct kvs)
  · obtain ⟨n, kvs, rfl, e1⟩ := hd
    simp only [inop, e1] at he
    split at he
    · rename_i k hk
      cases he
      have ek := key_of vx hk
      subst ek
      obtain ⟨a, gs, rfl, ea, ga, kr⟩ := vy.dct_of R e1
      cases ry
      have g := DGet.k (k := k) ga
      have e2 := (kr.val (k := k)).2
      refine ⟨fun q => d_in (by omega) I g rx fun s' I' => ?_, fun q => d_notIn (by omega) I g rx fun s' I' => ?_⟩
      · rw [← e2]; exact q s' I'
      · rw [← e2]; exact q s' I'
    · cases he
  · have := op_in0 hu I rx ry R vx vy he (fun n kvs e1 e2 => hd ⟨n, kvs, e1, e2⟩) (Q := Q) (E := E)
    exact ⟨fun q => this.1 (q s I), fun q => this.2 (q s I)⟩

theorem op_cmp (hu : X.A.units + 65 < cLine) {op : CmpOp} : OpR X (compareOp op) (rA2 T X.K (cmpop op)) := by
  intro pins s σ H x y v u Q I rx ry hh
  obtain ⟨m, h, d, e, R, vx, vy, g⟩ := hh
  unfold cmpop at g
  split at g
  · split at g
    · rename_i b q
      unfold eqop at q
      split at q
      · rename_i p1 p2 q1 q2
        cases q
        obtain ⟨d1, s1⟩ := R.opd_dp vx q1
        obtain ⟨d2, s2⟩ := R.opd_dp vy q2
        exact op_eqD (by omega) pins s σ H x y v u Q I rx ry ⟨_, _, d1, d2, s1, s2, g.ok R _ (.bl _)⟩
      · cases q
    · exact g.elim
  · split at g
    · rename_i b q
      unfold eqop at q
      split at q
      · rename_i p1 p2 q1 q2
        cases q
        obtain ⟨d1, s1⟩ := R.opd_dp vx q1
        obtain ⟨d2, s2⟩ := R.opd_dp vy q2
        exact op_neD (by omega) pins s σ H x y v u Q I rx ry ⟨_, _, d1, d2, s1, s2, g.ok R _ (.bl _)⟩
      · cases q
    · exact g.elim
  · split at g
    · cases vx; cases vy
      exact op_lt pins s σ H _ _ v u Q I rx ry ⟨_, _, rfl, rfl, g.ok R _ (.bl _)⟩
    · exact g.elim
  · split at g
    · cases vx; cases vy
      exact op_le pins s σ H _ _ v u Q I rx ry ⟨_, _, rfl, rfl, g.ok R _ (.bl _)⟩
    · exact g.elim
  · split at g
    · cases vx; cases vy
      exact op_gt pins s σ H _ _ v u Q I rx ry ⟨_, _, rfl, rfl, g.ok R _ (.bl _)⟩
    · exact g.elim
  · split at g
    · cases vx; cases vy
      exact op_ge pins s σ H _ _ v u Q I rx ry ⟨_, _, rfl, rfl, g.ok R _ (.bl _)⟩
    · exact g.elim
  · split at g
    · cases vx; cases vy
      exact op_isN pins s σ H _ _ v u Q I rx ry ⟨rfl, g.ok R _ (.bl _)⟩
    · rename_i hn
      cases vy
      refine op_isN pins s σ H _ _ v u Q I rx ry ⟨rfl, ?_⟩
      have : decide (x = V.non) = false := by
        apply decide_eq_false
        rintro rfl
        cases vx
        exact hn rfl
      rw [this]
      exact g.ok R _ (.bl _)
    · exact g.elim
  · split at g
    · cases vx; cases vy
      exact op_notN pins s σ H _ _ v u Q I rx ry ⟨rfl, g.ok R _ (.bl _)⟩
    · rename_i hn
      cases vy
      refine op_notN pins s σ H _ _ v u Q I rx ry ⟨rfl, ?_⟩
      have : decide (x = V.non) = false := by
        apply decide_eq_false
        rintro rfl
        cases vx
        exact hn rfl
      rw [this]
      exact g.ok R _ (.bl _)
    · exact g.elim
  · split at g
    · rename_i b q
      exact (op_in hu I rx ry R vx vy q).1 fun s' I' => ⟨.bl b, H, I', rfl, g.ok R _ (.bl _)⟩
    · exact g.elim
  · split at g
    · rename_i b q
      exact (op_in hu I rx ry R vx vy q).2 fun s' I' => ⟨.bl (!b), H, I', rfl, g.ok R _ (.bl _)⟩
    · exact g.elim

/-- truth -/
theorem Rel.tru {m : List Addr} {h : Hh} {H : Hp} {K : PySem.W.Frag} {d : D} {v : V} {b : Bool} (R : Rel T K m h H) (r : VR K m H d v) (e : truth h d = some b) : TruV K v H b := by
  cases d with
  | non => cases r; simp only [truth] at e; cases e; rfl
  | bl c => cases r; simp only [truth] at e; cases e; rfl
  | int i => cases r; simp only [truth] at e; cases e; rfl
  | str x =>
    cases r
    simp only [truth] at e
    split at e
    · rename_i q
      cases e
      refine ⟨q, ?_⟩
      rw [Bool.eq_iff_iff, bne_iff_ne, bne_iff_ne]
      omega
    · cases e
  | tup xs =>
    simp only [truth] at e
    cases e
    obtain ⟨a, vs, rfl, sa, ra⟩ := r.tup_of
    refine .inr (.inl ⟨vs, sa, ?_⟩)
    cases ra <;> rfl
  | loc n =>
    simp only [truth] at e
    split at e
    · rename_i xs q
      cases e
      obtain ⟨a, vs, rfl, ea, sa, ra⟩ := r.seq_of R (.inl q)
      refine .inl ⟨vs, sa, ?_⟩
      cases ra <;> rfl
    · rename_i xs q
      cases e
      obtain ⟨a, vs, rfl, ea, sa, ra⟩ := r.seq_of R (.inr q)
      refine .inl ⟨vs, sa, ?_⟩
      cases ra <;> rfl
    · cases e

/-! ### built-in functions -/
def rAs (T : Tb) (K : PySem.W.Frag) (f : List D → Hh → R D) : List V → Hp → VK → Prop := fun xs H Q => ∃ m h ds, Rel T K m h H ∧ VRs K m H ds xs ∧ Gd T K (f ds h) m H (wV K Q) noX
theorem VRs.one_of {K : PySem.W.Frag} {m : List Addr} {H : Hp} {d : D} {vs : List V} (r : VRs K m H [d] vs) : ∃ v, vs = [v] ∧ VR K m H d v := by
  cases r with
  | cons a b => cases b; exact ⟨_, rfl, a⟩
theorem VRs.two_of {K : PySem.W.Frag} {m : List Addr} {H : Hp} {d e : D} {vs : List V} (r : VRs K m H [d, e] vs) : ∃ v w, vs = [v, w] ∧ VR K m H d v ∧ VR K m H e w := by
  cases r with
  | cons a b =>
    cases b with
    | cons b c => cases c; exact ⟨_, _, rfl, a, b⟩
theorem call_bLen : CallR X (.builtin "len") (rAs T X.K bLen) := by
  intro pins s σ H xs us Q I r hh
  obtain ⟨m, h, ds, R, vr, g⟩ := hh
  unfold bLen at g
  split at g <;> first | exact g.elim | skip
  · split at g
    · rename_i hz
      obtain ⟨v, rfl, vv⟩ := vr.one_of
      cases vv
      exact call_len_str pins s σ H _ us Q I r ⟨_, rfl, hz, g.ok R _ (.int _)⟩
    · exact g.elim
  · obtain ⟨v, rfl, vv⟩ := vr.one_of
    obtain ⟨a, vs, rfl, sa, ra⟩ := vv.tup_of
    refine call_len_seq pins s σ H _ us Q I r ⟨a, vs, rfl, .inr sa, ?_⟩
    rw [← ra.length]
    exact g.ok R _ (.int _)
  · obtain ⟨v, rfl, vv⟩ := vr.one_of
    split at g
    · rename_i q
      obtain ⟨a, vs, rfl, ea, sa, ra⟩ := vv.seq_of R (.inl q)
      refine call_len_seq pins s σ H _ us Q I r ⟨a, vs, rfl, .inl sa, ?_⟩
      rw [← ra.length]
      exact g.ok R _ (.int _)
    · rename_i q
      obtain ⟨a, vs, rfl, ea, sa, ra⟩ := vv.seq_of R (.inr q)
      refine call_len_seq pins s σ H _ us Q I r ⟨a, vs, rfl, .inl sa, ?_⟩
      rw [← ra.length]
      exact g.ok R _ (.int _)
    · exact g.elim
theorem call_bAbs : CallR X (.builtin "abs") (rAs T X.K bAbs) := by
  intro pins s σ H xs us Q I r hh
  obtain ⟨m, h, ds, R, vr, g⟩ := hh
  unfold bAbs at g
  split at g <;> first | exact g.elim | skip
  obtain ⟨v, rfl, vv⟩ := vr.one_of
  cases vv
  exact call_abs pins s σ H _ us Q I r ⟨_, rfl, g.ok R _ (.int _)⟩
theorem call_bInt : CallR X (.type "int") (rAs T X.K bInt) := by
  intro pins s σ H xs us Q I r hh
  obtain ⟨m, h, ds, R, vr, g⟩ := hh
  unfold bInt at g
  split at g <;> first | exact g.elim | skip
  · obtain ⟨v, rfl, vv⟩ := vr.one_of
    cases vv
    exact call_int1 pins s σ H _ us Q I r (.inl ⟨_, rfl, g.ok R _ (.int _)⟩)
  · obtain ⟨v, rfl, vv⟩ := vr.one_of
    cases vv
    exact call_int1 pins s σ H _ us Q I r (.inr ⟨_, rfl, g.ok R _ (.int _)⟩)
theorem call_bBool : CallR X (.type "bool") (rAs T X.K bBool) := by
  intro pins s σ H xs us Q I r hh
  obtain ⟨m, h, ds, R, vr, g⟩ := hh
  unfold bBool at g
  split at g <;> first | exact g.elim | skip
  · obtain ⟨v, rfl, vv⟩ := vr.one_of
    cases vv
    exact call_bool1 pins s σ H _ us Q I r (.inl ⟨_, rfl, g.ok R _ (.bl _)⟩)
  · obtain ⟨v, rfl, vv⟩ := vr.one_of
    cases vv
    exact call_bool1 pins s σ H _ us Q I r (.inr ⟨_, rfl, g.ok R _ (.bl _)⟩)
theorem call_bTuple : CallR X (.type "tuple") (rAs T X.K bTuple) := by
  intro pins s σ H xs us Q I r hh
  obtain ⟨m, h, ds, R, vr, g⟩ := hh
  unfold bTuple at g
  split at g <;> first | exact g.elim | skip
  · obtain ⟨v, rfl, vv⟩ := vr.one_of
    obtain ⟨a, vs, rfl, sa, ra⟩ := vv.tup_of
    exact call_tuple_of pins s σ H _ us Q I r ⟨a, vs, rfl, .inr ⟨sa, g.ok R _ (.tup sa ra vv.tup_len)⟩⟩
  · obtain ⟨v, rfl, vv⟩ := vr.one_of
    split at g
    · rename_i q
      obtain ⟨a, vs, rfl, ea, sa, ra⟩ := vv.seq_of R (.inl q)
      exact call_tuple_of pins s σ H _ us Q I r ⟨a, vs, rfl, .inl ⟨sa, fun p hp => g.at (Ext.lay hp) (R.lay hp) _ (.tup (SqT.of upd_same) (ra.mono (Ext.lay hp)) (R.lst_len q))⟩⟩
    · exact g.elim
theorem call_bList : CallR X (.type "list") (rAs T X.K bList) := by
  intro pins s σ H xs us Q I r hh
  obtain ⟨m, h, ds, R, vr, g⟩ := hh
  unfold bList at g
  split at g <;> first | exact g.elim | skip
  · obtain ⟨v, rfl, vv⟩ := vr.one_of
    obtain ⟨a, vs, rfl, sa, ra⟩ := vv.tup_of
    refine call_list_of pins s σ H _ us Q I r ⟨a, vs, rfl, .inr sa, fun p hp => ?_⟩
    have E := Ext.new (o := .lst vs) R hp
    exact g.at E (R.new hp (.lst (ra.mono E) vv.tup_len)) _ (.loc R.last)
  · obtain ⟨v, rfl, vv⟩ := vr.one_of
    split at g
    · rename_i q
      obtain ⟨a, vs, rfl, ea, sa, ra⟩ := vv.seq_of R (.inl q)
      refine call_list_of pins s σ H _ us Q I r ⟨a, vs, rfl, .inl sa, fun p hp => ?_⟩
      have E := Ext.new (o := .lst vs) R hp
      exact g.at E (R.new hp (.lst (ra.mono E) (R.lst_len q))) _ (.loc R.last)
    · exact g.elim
theorem call_bMax (hc : X.calm = true) : CallR X (.builtin "max") (rAs T X.K bMax) := by
  intro pins s σ H xs us Q I r hh
  obtain ⟨m, h, ds, R, vr, g⟩ := hh
  unfold bMax at g
  split at g <;> first | exact g.elim | skip
  obtain ⟨v, w, rfl, vv, vw⟩ := vr.two_of
  cases vv; cases vw
  exact call_max2 hc pins s σ H _ us Q I r ⟨_, _, rfl, g.ok R _ (.int _)⟩
theorem call_bMin (hc : X.calm = true) : CallR X (.builtin "min") (rAs T X.K bMin) := by
  intro pins s σ H xs us Q I r hh
  obtain ⟨m, h, ds, R, vr, g⟩ := hh
  unfold bMin at g
  split at g <;> first | exact g.elim | skip
  obtain ⟨v, w, rfl, vv, vw⟩ := vr.two_of
  cases vv; cases vw
  exact call_min2 hc pins s σ H _ us Q I r ⟨_, _, rfl, g.ok R _ (.int _)⟩

/-! ### subscripts -/
theorem atI_get {K : PySem.W.Frag} {m : List Addr} {H : Hp} {ds : List D} {vs : List V} {i : Int} {d : D} (r : VRs K m H ds vs) (e : PM.atI ds i = some d) : ∃ v, L2.atI vs i = some v ∧ VR K m H d v := by
  unfold PM.atI at e
  rw [r.length] at e
  show ∃ v, (L2.ixN vs.length i).bind (fun j => vs[j]?) = some v ∧ _
  rw [show L2.ixN vs.length i = PM.ixN vs.length i from rfl]
  cases q : PM.ixN vs.length i with
  | none => rw [q] at e; cases e
  | some j =>
    rw [q] at e
    exact r.get e
theorem ix_dict (hu : X.A.units + 65 < cLine) : IxR X (fun x y H Q => ∃ a v, x = .ref a ∧ DGet H a y (some v) ∧ Q v H) := by
  intro value slice pins s σ H x y o i Q I rx ry hh hs
  obtain ⟨a, v, rfl, g, q⟩ := hh
  cases rx
  have hT := dict_typeIs I g
  have h₂ : wpAny (model X.prog X.w) X.A (getItem (.ref a) i) (EP X pins σ Q) X.xe s := d_getItem (by omega) I g ry fun w' s' I' rw' => ⟨v, H, I', rw', q⟩
  unfold subscriptTail
  refine wpAny_bind ?_
  rw [getitemInPython_of_ne hT.not_modules]
  refine wpAny_bind (wpAny_specialOf hT PySem.F.slot_dict_getitem.lookup ?_)
  have fin : wpAny (model X.prog X.w) X.A (subscripted slice false (.ref a) i) (fun r s₃ => wpAny (model X.prog X.w) X.A (letTemporaryGo value (.ref a) r >>= fun _ => pure r) (EP X pins σ Q) X.xe s₃) X.xe s := by
    rw [hs]
    exact wpAny_operating (wpAny_mono h₂ (fun r s₃ h₃ => wpAny_bind (wpAny_letTemporaryGo (wpAny_pure h₃))) fun _ _ x => x)
  first
    | exact wpAny_pure (wpAny_bind fin)
    | exact wpAny_bind (wpAny_pure (wpAny_bind fin))
    | exact wpAny_bind fin
theorem ix_sub (hu : X.A.units + 65 < cLine) : IxR X (rA2 T X.K subop) := by
  intro ve se pins s σ H x y v u Q I rx ry hh hs
  obtain ⟨m, h, d, e, R, vx, vy, g⟩ := hh
  unfold subop at g
  split at g
  · split at g
    · rename_i q
      cases vy
      obtain ⟨a, vs, rfl, sa, ra⟩ := vx.tup_of
      obtain ⟨z, ez, vz⟩ := atI_get ra q
      exact ix_tup ve se pins s σ H _ _ v u Q I rx ry ⟨a, vs, _, z, rfl, rfl, sa, ez, g.ok R _ vz⟩ hs
    · exact g.elim
  · split at g
    · rename_i hz
      split at g
      · rename_i c q
        cases vx; cases vy
        exact ix_str ve se pins s σ H _ _ v u Q I rx ry ⟨_, _, c, rfl, rfl, hz, q, g.ok R _ (.str _)⟩ hs
      · exact g.elim
    · exact g.elim
  · split at g
    · rename_i e1
      split at g
      · rename_i q
        cases vy
        obtain ⟨a, vs, rfl, ea, sa, ra⟩ := vx.seq_of R (.inl e1)
        obtain ⟨z, ez, vz⟩ := atI_get ra q
        exact ix_list ve se pins s σ H _ _ v u Q I rx ry ⟨a, vs, _, z, rfl, rfl, sa, ez, g.ok R _ vz⟩ hs
      · exact g.elim
    · rename_i e1
      split at g
      · rename_i q
        cases vy
        obtain ⟨a, vs, rfl, ea, sa, ra⟩ := vx.seq_of R (.inr e1)
        obtain ⟨z, ez, vz⟩ := atI_get ra q
        exact ix_list ve se pins s σ H _ _ v u Q I rx ry ⟨a, vs, _, z, rfl, rfl, sa, ez, g.ok R _ vz⟩ hs
      · exact g.elim
    · rename_i e1
      split at g
      · rename_i k hk
        split at g
        · rename_i z hz
          have ek := key_of vy hk
          subst ek
          obtain ⟨a, gs, rfl, ea, ga, kr⟩ := vx.dct_of R e1
          obtain ⟨w, ew, wr⟩ := (kr.val (k := k)).1 z hz
          have dg := DGet.k (k := k) ga
          rw [ew] at dg
          exact ix_dict hu ve se pins s σ H _ _ v u Q I rx ry ⟨a, w, rfl, dg, g.ok R _ wr⟩ hs
        · exact g.elim
      · exact g.elim
    · exact g.elim
  · exact g.elim

/-- slices -/
def rSl (T : Tb) (K : PySem.W.Frag) : V → Option Int → Option Int → Hp → VK → Prop := fun x lo hi H Q => ∃ m h d, Rel T K m h H ∧ VR K m H d x ∧ Gd T K (slcop d lo hi h) m H (wV K Q) noX
theorem cut_rel {K : PySem.W.Frag} {m : List Addr} {H : Hp} {ds : List D} {vs : List V} {lo hi : Option Int} (r : VRs K m H ds vs) : VRs K m H (PM.cut ds lo hi) (cutV vs lo hi) := by
  unfold PM.cut cutV
  rw [r.length]
  exact (r.drop _).take _
theorem sl_cut : SlR X (rSl T X.K) := by
  intro pins s σ H x v vl vu lo hi sl Q I rx hs pl pu hh
  obtain ⟨m, h, d, R, vx, g⟩ := hh
  unfold slcop at g
  split at g
  · obtain ⟨a, vs, rfl, sa, ra⟩ := vx.tup_of
    refine sl_tupA pins s σ H _ v vl vu lo hi sl Q I rx hs pl pu ⟨a, vs, rfl, sa, fun q => ?_, fun q p hp => ?_⟩
    · refine g.ok R _ (.tup sa ?_ (Nat.le_trans (cut_le _ _ _) vx.tup_len))
      have e2 : cutV vs lo hi = vs := by
        unfold cutV
        rw [q.1, q.2]
        simp
      have := cut_rel (lo := lo) (hi := hi) ra
      rw [e2] at this
      exact this
    · exact g.at (Ext.lay hp) (R.lay hp) _ (.tup (SqT.of upd_same) ((cut_rel ra).mono (Ext.lay hp)) (Nat.le_trans (cut_le _ _ _) vx.tup_len))
  · split at g
    · rename_i hz
      cases vx
      exact sl_str pins s σ H _ v vl vu lo hi sl Q I rx hs pl pu ⟨_, rfl, hz, g.ok R _ (.str _)⟩
    · exact g.elim
  · split at g
    · rename_i q
      obtain ⟨a, vs, rfl, ea, sa, ra⟩ := vx.seq_of R (.inl q)
      refine sl_list pins s σ H _ v vl vu lo hi sl Q I rx hs pl pu ⟨a, vs, rfl, sa, fun p hp => ?_⟩
      have E := Ext.new (o := .lst (cutV vs lo hi)) R hp
      exact g.at E (R.new hp (.lst ((cut_rel ra).mono E) (Nat.le_trans (cut_le _ _ _) (R.lst_len q)))) _ (.loc R.last)
    · rename_i q
      obtain ⟨a, vs, rfl, ea, sa, ra⟩ := vx.seq_of R (.inr q)
      refine sl_list pins s σ H _ v vl vu lo hi sl Q I rx hs pl pu ⟨a, vs, rfl, sa, fun p hp => ?_⟩
      have E := Ext.new (o := .lst (cutV vs lo hi)) R hp
      exact g.at E (R.new hp (.lst ((cut_rel ra).mono E) (Nat.le_trans (cut_le _ _ _) (R.frl_len q)))) _ (.loc R.last)
    · exact g.elim
  · exact g.elim
end
end PM
set_option Elab.async false
set_option linter.all false
set_option maxRecDepth 100000
set_option maxHeartbeats 4000000
/-! PM5: from the model's syntax to PM's. -/
namespace PM
open PySem PySem.Spec PyProof.Rows L2

/-- what the module's names mean -/
structure Gt where
  fn : List (Str × Nat)
  cl : List (Str × Nat)
  xc : List (Str × Nat)
  fl : List (Str × Nat)
  mt : List (Str × Nat)
  co : List (Str × D)
  free : List Str
  rz : List Nat

def isStar : Expr → Bool
  | .Starred .. => true
  | _ => false
def bltOf (G : Gt) (x : Str) (n : Nat) : Option Bl :=
  if G.free.contains x then
    if x = "len" ∧ n = 1 then some .len
    else if x = "abs" ∧ n = 1 then some .abs
    else if x = "int" ∧ n = 1 then some .int
    else if x = "bool" ∧ n = 1 then some .bool
    else if x = "tuple" ∧ n = 1 then some .tuple
    else if x = "list" ∧ n = 1 then some .list
    else if x = "max" ∧ n = 2 then some .max2
    else if x = "min" ∧ n = 2 then some .min2
    else none
  else none
def bmtOf (m : Str) (n : Nat) : Option Bm :=
  if m = "append" ∧ n = 1 then some .append
  else if m = "split" ∧ n = 1 then some .split
  else if m = "join" ∧ n = 1 then some .join
  else if m = "endswith" ∧ n = 1 then some .endswith
  else none
def tyOf (G : Gt) (x : Str) : Option Ty :=
  if G.free.contains x then
    if x = "int" then some .int else if x = "str" then some .str else if x = "bool" then some .bool else if x = "tuple" then some .tuple else if x = "list" then some .list else if x = "dict" then some .dict
    else if x = "ValueError" then some .verr else none
  else match G.cl.lookup x with
    | some c => some (.own c)
    | none => match G.xc.lookup x with
      | some c => some (.own c)
      | none => none

/-- where a name stands: a slot of the def's -/
def slotOf (N : List Str) (sc : Scope) (x : Str) : Option Nat :=
  match sc.names.lookup x with
  | some .local => N.idxOf? x
  | some .cell => N.idxOf? x
  | some .free => N.idxOf? x
  | _ => none
def isGlob (sc : Scope) (x : Str) : Bool := match sc.names.lookup x with
  | some .globalImplicit => true
  | _ => false
/-- a slot that may be stored to -/
def storeOf (N : List Str) (sc : Scope) (fnB : Str → Bool) (x : Str) : Option Nat :=
  match sc.names.lookup x with
  | some .local => N.idxOf? x
  | some .cell => if fnB x then N.idxOf? x else none
  | _ => none
def cNames (N : List Str) (sc : Scope) (fnB : Str → Bool) : List Expr → Option (List Nat)
  | [] => some []
  | .Name x _ :: r => do
    let i ← storeOf N sc fnB x
    let is ← cNames N sc fnB r
    some (i :: is)
  | _ => none
def cTg (N : List Str) (sc : Scope) (fnB : Str → Bool) : Expr → Option Tg
  | .Name x _ => (storeOf N sc fnB x).map .nm
  | .Tuple es _ _ => (cNames N sc fnB es).map .tp
  | _ => none
def Tg.slots : Tg → List Nat
  | .nm i => [i]
  | .tp is => is
/-- the block's own names with their slots -/
def ownOf (N : List Str) (scope : Scope) : List (Str × Nat) := scope.names.filterMap fun y => match y.2 with
  | .local => (N.idxOf? y.1).map fun i => (y.1, i)
  | .cell => (N.idxOf? y.1).map fun i => (y.1, i)
  | _ => none
/-- a name that is no odd one -/
def okName (x : Str) : Bool := !(x == ("__debug__" : Str)) && !(x == ("__classdict__" : Str)) && decide (x ≠ "__name__")
/-- an object whose attribute or method is plainly taken -/
def okBase : Expr → Bool
  | .Call (.Name _ _) [] [] _ => false
  | _ => true

/-- lists of expressions, by what compiles one -/
def cEs (f : Expr → Option E) : List Expr → Option Es
  | [] => some .nil
  | e :: es => do
    let x ← f e
    let xs ← cEs f es
    some (.cons x xs)
def cBool (f : Expr → Option E) (op : BoolOp) : List Expr → Option E
  | [] => none
  | e :: es => match es with
    | [] => f e
    | _ :: _ => do
      let x ← f e
      let y ← cBool f op es
      some (match op with
        | .And => .and x y
        | .Or => .or x y)
def cDict (c : Expr → Option E) : List (Option Expr) → List Expr → Option Es
  | [], [] => some .nil
  | some k :: ks, v :: vs => do
    let x ← c k
    let y ← c v
    let r ← cDict c ks vs
    some (.cons x (.cons y r))
  | _, _ => none
def cCall (G : Gt) (sc : Scope) (c : Expr → Option E) (f : Str) (as : List Expr) : Option E :=
  if okName f && isGlob sc f && as.all (fun a => !isStar a) then (do
    let ys ← cEs c as
    match G.fn.lookup f with
    | some i => some (.call i ys)
    | none => match G.cl.lookup f with
      | some c => some (.make c ys)
      | none => (bltOf G f as.length).map fun b => .blt b ys) else none
def isTupE : Expr → Bool
  | .Tuple .. => true
  | _ => false
def cIt (G : Gt) (sc : Scope) (tg : Expr) (c : Expr → Option E) (e : Expr) : Option It := match e with
  | .Call (.Name f _) [a] [] _ => if f = "range" then (if okName f && isGlob sc f && G.free.contains f && !isStar a then (c a).map .rng1 else none)
    else if f = "enumerate" then (if okName f && isGlob sc f && G.free.contains f && !isStar a && isTupE tg then (c a).map .enu else none)
    else (c e).map .val
  | .Call (.Name f _) [a, b] [] _ => if f = "range" then (if okName f && isGlob sc f && G.free.contains f && !isStar a && !isStar b then (do
      let x ← c a
      let y ← c b
      some (.rng2 x y)) else none)
    else (c e).map .val
  | _ => (c e).map .val

/-- the handled exception's name -/
def hotIs (hot : Option Str) (a : Expr) : Option Str := match hot, a with
  | some x, .Name y _ => if x = y then some x else none
  | _, _ => none
def cIsi (G : Gt) (N : List Str) (sc : Scope) (hot : Option Str) (c : Expr → Option E) (as : List Expr) : Option E := match as with
  | [a, .Name t _] => if okName t && isGlob sc ("isinstance" : Str) && G.free.contains ("isinstance" : Str) && isGlob sc t then (do
      let ty ← tyOf G t
      match hotIs hot a with
      | some x => (N.idxOf? x).map fun i => .exi i [ty]
      | none => (c a).map fun x => .isi x [ty]) else none
  | _ => none
def cE (G : Gt) (N : List Str) : Nat → Scope → (Str → Bool) → Option Str → Expr → Option E
  | 0, _, _, _, _ => none
  | k + 1, sc, fnB, hot, e => match e with
    | .Constant .none _ _ => some .non
    | .Constant (.bool b) _ _ => some (.bl b)
    | .Constant (.int i) _ _ => some (.int i)
    | .Constant (.str x) _ _ => some (.str x)
    | .Name x _ => if okName x then (if isGlob sc x then (G.co.lookup x).map .cst else if hot = some x then none else (slotOf N sc x).map .var) else none
    | .Tuple es _ _ => (cEs (cE G N k sc fnB hot) es).map .tup
    | .List es _ => (cEs (cE G N k sc fnB hot) es).map .lst
    | .Dict ks vs _ => if ks.length ≤ 15 then (cDict (cE G N k sc fnB hot) ks vs).map .dct else none
    | .BinOp a op b _ => do
      let x ← cE G N k sc fnB hot a
      let y ← cE G N k sc fnB hot b
      some (.bin op x y)
    | .UnaryOp .USub a _ => (cE G N k sc fnB hot a).map .neg
    | .UnaryOp .Not a _ => (cE G N k sc fnB hot a).map .not
    | .BoolOp op es _ => cBool (cE G N k sc fnB hot) op es
    | .Compare a [op] [b] _ => do
      let x ← cE G N k sc fnB hot a
      let y ← cE G N k sc fnB hot b
      some (.cmp op x y)
    | .Compare a [o1, o2] [b, c] _ => do
      let x ← cE G N k sc fnB hot a
      let y ← cE G N k sc fnB hot b
      let z ← cE G N k sc fnB hot c
      some (.chn o1 o2 x y z)
    | .IfExp c a b _ => do
      let x ← cE G N k sc fnB hot c
      let y ← cE G N k sc fnB hot a
      let z ← cE G N k sc fnB hot b
      some (.ife x y z)
    | .Call (.Name f _) as [] _ => if f = "isinstance" then cIsi G N sc hot (cE G N k sc fnB hot) as else cCall G sc (cE G N k sc fnB hot) f as
    | .Call (.Attribute o m apos) as [] pos => if okBase o && as.all (fun a => !isStar a) && decide (as.length < 29) && apos.endLine == pos.line then (do
        let x ← cE G N k sc fnB hot o
        let ys ← cEs (cE G N k sc fnB hot) as
        match G.mt.lookup m with
        | some i => some (.mth i x ys)
        | none => (bmtOf m as.length).map fun b => .bmt b x ys) else none
    | .Attribute o f _ => match hotIs hot o with
      | some x => (do
        let i ← N.idxOf? x
        let j ← G.fl.lookup f
        some (.exa i j))
      | none => if okBase o then (do
        let x ← cE G N k sc fnB hot o
        let j ← G.fl.lookup f
        some (.att x j)) else none
    | .Subscript a (.Slice (some i) none none _) _ => do
      let x ← cE G N k sc fnB hot a
      let y ← cE G N k sc fnB hot i
      some (.slo x y)
    | .Subscript a (.Slice none (some i) none _) _ => do
      let x ← cE G N k sc fnB hot a
      let y ← cE G N k sc fnB hot i
      some (.shi x y)
    | .Subscript a (.Slice (some i) (some j) none _) _ => do
      let x ← cE G N k sc fnB hot a
      let y ← cE G N k sc fnB hot i
      let z ← cE G N k sc fnB hot j
      some (.slh x y z)
    | .Subscript a i _ => do
      let x ← cE G N k sc fnB hot a
      let y ← cE G N k sc fnB hot i
      some (.sub x y)
    | .ListComp elt [⟨tg, it, ifs, 0⟩] scope _ => if hot = none ∧ blkC N sc scope (ownOf N scope) = true then (do
        let t ← cTg N (relS scope sc) (fun x => scope.names.lookup x == some .cell) tg
        if t.slots.all (fun i => decide (i ∈ (ownOf N scope).map (·.2))) then (do
          let w ← cIt G sc tg (cE G N k sc fnB none) it
          let fs ← cEs (cE G N k (relS scope sc) (fun x => scope.names.lookup x == some .cell) none) ifs
          let x ← cE G N k (relS scope sc) (fun x => scope.names.lookup x == some .cell) none elt
          if ifs.length ≤ 1 then some (.lc ((ownOf N scope).map (·.2)) t w fs x) else none) else none) else none
    | _ => none

/-! structural -/
example (G : Gt) (N : List Str) (k : Nat) (sc : Scope) (f : Str → Bool) (p : Pos) : cE G N (k+1) sc f none (.Constant (.int 3) 0 p) = some (.int 3) := rfl
end PM
set_option Elab.async false
set_option linter.all false
set_option maxRecDepth 100000
set_option maxHeartbeats 4000000
/-! PM6: expressions: what PM's run says, the model does. -/
namespace PM
open PySem PySem.Spec PyProof.Rows L2

/-- an exception that is handled: its class, its dict, its address, the slot of its name -/
structure Hot where
  cls : Value
  d : Option Addr
  a : Addr
  i : Option Nat
def HotOk (T : Tb) (K : PySem.W.Frag) (hot : Option Hot) (m : List Addr) (H : Hp) (n : En) (σ : L2.St) : Prop := match hot, n.x with
  | none, none => True
  | some t, some q => XR T K m H q.c q.fs t.cls t.d ∧ q.i = t.i ∧ ∀ i, t.i = some i → σ[i]? = some (some (.ref t.a))
  | _, _ => False
structure ER (T : Tb) (K : PySem.W.Frag) (hot : Option Hot) (m : List Addr) (H : Hp) (n : En) (σ : L2.St) : Prop where
  len : n.s.length = σ.length
  val : ∀ (i : Nat) (d : D), n.s[i]? = some (some d) → ∃ v, σ[i]? = some (some v) ∧ VR K m H d v
  ht : HotOk T K hot m H n σ
section
variable {T : Tb} {K : PySem.W.Frag} {hot : Option Hot} {m m' : List Addr} {H H' : Hp} {h : Hh} {n : En} {σ : L2.St}
theorem ER.mono (R : Rel T K m h H) (e : Ext K m H m' H') (x : ER T K hot m H n σ) : ER T K hot m' H' n σ := by
  refine ⟨x.len, fun i d q => ?_, ?_⟩
  · obtain ⟨v, e1, r⟩ := x.val i d q
    exact ⟨v, e1, r.mono e⟩
  · have z := x.ht
    unfold HotOk at z ⊢
    cases hx : n.x with
    | none =>
      rw [hx] at z
      cases hot with
      | none => exact z
      | some t => exact z
    | some q =>
      rw [hx] at z
      cases hot with
      | none => exact z
      | some t => exact ⟨z.1.mono e R.noXd, z.2⟩
theorem ER.cool (x : ER T K none m H n σ) : n.x = none := by
  have z := x.ht
  unfold HotOk at z
  cases hx : n.x with
  | none => rfl
  | some q => rw [hx] at z; exact z.elim
theorem ER.hotx {t : Hot} (x : ER T K (some t) m H n σ) : n.x.isSome = true := by
  have z := x.ht
  unfold HotOk at z
  cases hx : n.x with
  | none => rw [hx] at z; exact z.elim
  | some q => rfl
theorem ER.cold {b : Bool} (x : ER T K hot m H n σ) (e : n.x.isSome = false) : hot = none := by
  cases hot with
  | none => rfl
  | some t => have := x.hotx; rw [e] at this; cases this
end

/-- a def's promise: PM's run of it -/
def spF (T : Tb) (K : PySem.W.Frag) (Pr : Pg) (k i : Nat) : Sp := fun vs H Q E => ∃ m h ds, Rel T K m h H ∧ VRs K m H ds vs ∧ Gd T K (calls Pr k i ds h) m H (wV K Q) E

/-- a def that stands at f and keeps its promise at depth k -/
structure FF (P : Program) (w : World) (K : PySem.W.Frag) (mg : Str → Option Value) (base : Heap) (T : Tb) (Pr : Pg) (k i : Nat) (f : Addr) : Prop where
  ok : ∃ fd ps, Binds K fd ps [] ∧ FnOk P w K mg base (L2.CX P w) (2 * k + 2) f fd ps (spF T K Pr k i)

/-- what an own exception class is asked -/
structure XF (K : PySem.W.Frag) (C : Addr) : Prop where
  xfc : XfC K C
  cl : (PySem.W.clsIn K C).isSome = true
  ha : PySem.W.findIn K (.ref C) "__class__" = some (some (.builtin "object.__class__"))
  hn : PySem.W.specialIn K (.builtin "object.__class__") "__get__" = some (some (.builtin "getset_descriptor.__get__"))
  ht : PySem.W.takesIn K (.builtin "object.__class__") = some true
  hm : PySem.W.mroIn K C (.type "object") = some true
/-- an exception's __init__: its fields set from its parameters, in order -/
def spX (C : Addr) (fl : List Str) : Sp := fun vs H Q _ => ∃ a ws, vs = .ref a :: ws ∧ ws.length = fl.length ∧ H a = some (exo a C none) ∧ ∀ d, H d = none → d ≠ a → Q .non (upd (upd H d (exd d (fl.zip ws).reverse)) a (exo a C (some d)))
/-- an own exception that is raised: its class, its __init__ -/
structure RzF (P : Program) (w : World) (K : PySem.W.Frag) (mg : Str → Option Value) (base : Heap) (T : Tb) (Pr : Pg) (c : Nat) : Prop where
  xcs : c ∈ T.xcs
  oex : OexC K (T.cad c)
  ex : ∃ (fI : Addr) (fd : FuncData) (ps : List Str) (fl : List Nat), PySem.W.findIn K (.ref (T.cad c)) "__init__" = some (some (.ref fI)) ∧ PySem.W.typeIn K (.ref fI) = some (.type "function") ∧ Binds K fd ps [] ∧ 0 < fl.length ∧ fl.length ≤ 900 ∧
    (∀ ds fs, Pr.exf c ds = some fs → ds.length = fl.length ∧ fs = (fl.zip ds).reverse) ∧ FnOk P w K mg base (L2.CX P w) 1 fI fd ps (spX (T.cad c) (fl.map T.fld))
/-- what stands of the program behind its top, and its defs to depth k -/
structure Pf (P : Program) (w : World) (K : PySem.W.Frag) (mg : Str → Option Value) (base : Heap) (T : Tb) (G : Gt) (Pr : Pg) (k : Nat) : Prop where
  fn : ∀ x i, G.fn.lookup x = some i → ∃ f, mg x = some (.ref f) ∧ PySem.W.keepIn K (.ref f) = true ∧ FF P w K mg base T Pr k i f
  cl : ∀ x c, G.cl.lookup x = some c → mg x = some (.ref (T.cad c)) ∧ c ∈ T.cls
  cf : ∀ c, c ∈ T.cls → CF K (T.cad c)
  xf : ∀ c, c ∈ T.xcs → XF K (T.cad c)
  xi : ∀ x c j, tyOf G x = some (.own c) → j ∈ T.xcs → PySem.W.kitOne K (.ref (T.cad j)) (.ref (T.cad c)) = some (Pr.sub j c)
  xv : ∀ j, j ∈ T.xcs → PySem.W.kitOne K (.ref (T.cad j)) (.type "ValueError") = some true
  mkr : ∀ c i, Pr.init c = some i → ∃ f, Mk K (T.cad c) f ∧ FF P w K mg base T Pr k i f
  co : ∀ x d, G.co.lookup x = some d → ∃ u v, mg x = some u ∧ RelV v u ∧ ∀ m H, VR K m H d v
  fr : ∀ x, G.free.contains x = true → mg x = none
  fl : ∀ x f, G.fl.lookup x = some f → T.fld f = x
  fok : ∀ c f, Pr.fok c f = true → NoAttr K (T.cad c) (T.fld f)
  mt : ∀ c i j x, Pr.meth c i = some j → G.mt.lookup x = some i → (∀ f, T.fld f ≠ x) ∧ ∃ f, Meth K (T.cad c) x f ∧ FF P w K mg base T Pr k j f
  isB : ∀ x c t, tyOf G x = some (.own c) → t ∈ ["NoneType", "bool", "int", "str", "tuple", "list", "dict"] → PySem.W.kitOne K (.type t) (.ref (T.cad c)) = some false
  isO : ∀ x c j, tyOf G x = some (.own c) → j ∈ T.cls → PySem.W.kitOne K (.ref (T.cad j)) (.ref (T.cad c)) = some (decide (j = c))
  isT : ∀ t j, t ∈ ["bool", "int", "str", "tuple", "list", "dict"] → j ∈ T.cls → PySem.W.kitOne K (.ref (T.cad j)) (.type t) = some false
  xc : ∀ x c, G.xc.lookup x = some c → mg x = some (.ref (T.cad c))
  xm : ∀ x c j, G.xc.lookup x = some c → j ∈ T.xcs → PySem.W.exmOne K (.ref (T.cad j)) (.ref (T.cad c)) = some (Pr.sub j c)
  rz : ∀ c, G.rz.contains c = true → RzF P w K mg base T Pr c

/-- the frame at hand -/
structure Xk (X : Cx) (T : Tb) (G : Gt) (Pr : Pg) (N : List Str) (sc : Scope) (fnB : Str → Bool) (hot : Option Hot) (k : Nat) : Prop where
  hN : X.N = N
  nd : N.Nodup
  hsc : X.env.scope = sc
  hfn : X.fn = fnB
  calm : hot = none → X.calm = true
  room : hot = none → Room (2 * k + 3) X.A
  units : X.A.units + 65 < cLine
  pf : Pf X.prog X.w X.K X.mg X.base T G Pr k
  hx : ∀ t, hot = some t → ∃ X0 oe pn, X = Cx.suite X0 t.a ((t.a, oe) :: pn) ∧ Zc t.cls t.d oe ∧ ∃ vs, oe.data = .fields vs

/-- the reading of an expression, of an argument list, of a test -/
def tE (T : Tb) (K : PySem.W.Frag) (hot : Option Hot) (C : Ct) (W : WX) (e : E) : TE := fun σ H Q => ∃ m h n, Rel T K m h H ∧ ER T K hot m H n σ ∧ Gd T K (ev C e n h) m H (wV K Q) (fun c d H' => W c d σ H')
def tEs (T : Tb) (K : PySem.W.Frag) (hot : Option Hot) (C : Ct) (W : WX) (es : Es) : TA := fun σ H Q => ∃ m h n, Rel T K m h H ∧ ER T K hot m H n σ ∧ Gd T K (evs C es n h) m H (wVs K Q) (fun c d H' => W c d σ H')
def tT (T : Tb) (K : PySem.W.Frag) (hot : Option Hot) (C : Ct) (W : WX) (e : E) : TT := fun σ H Q => ∃ m h n, Rel T K m h H ∧ ER T K hot m H n σ ∧ Gd T K ((ev C e n h).bind fun d h => tru d h) m H (fun b _ _ H' => Q b H') (fun c d H' => W c d σ H')

theorem PE.imp {X : Cx} {e : Expr} {t t' : TE} (p : PE X e t) (f : ∀ σ H Q, t' σ H Q → t σ H Q) : PE X e t' := ⟨fun pins s σ H Q I h => p.run pins s σ H Q I (f σ H Q h)⟩
theorem PA.imp {X : Cx} {e : List Expr} {t t' : TA} (p : PA X e t) (f : ∀ σ H Q, t' σ H Q → t σ H Q) : PA X e t' := ⟨fun pos pins s σ H Q I h => p.run pos pins s σ H Q I (f σ H Q h)⟩
theorem PT.imp {X : Cx} {e : Expr} {t t' : TT} (p : PT X e t) (f : ∀ σ H Q, t' σ H Q → t σ H Q) : PT X e t' := ⟨fun pins s σ H Q I h => p.run pins s σ H Q I (f σ H Q h)⟩

section
variable {X : Cx} {T : Tb} {G : Gt} {Pr : Pg} {N : List Str} {sc : Scope} {fnB : Str → Bool} {hot : Option Hot} {k : Nat} {W : WX}

theorem tE.mono {K : PySem.W.Frag} {C : Ct} {e : E} {σ : L2.St} {H : Hp} {Q Q' : VK} (x : tE T K hot C W e σ H Q) (f : ∀ v H', Q v H' → Q' v H') : tE T K hot C W e σ H Q' := by
  obtain ⟨m, h, n, R, er, g⟩ := x
  exact ⟨m, h, n, R, er, g.imp (fun d m' h' H' _ _ z v r => f v H' (z v r)) fun _ _ _ z => z⟩
theorem tEs.mono {K : PySem.W.Frag} {C : Ct} {e : Es} {σ : L2.St} {H : Hp} {Q Q' : List V → Hp → Prop} (x : tEs T K hot C W e σ H Q) (f : ∀ v H', Q v H' → Q' v H') : tEs T K hot C W e σ H Q' := by
  obtain ⟨m, h, n, R, er, g⟩ := x
  exact ⟨m, h, n, R, er, g.imp (fun d m' h' H' _ _ z v r => f v H' (z v r)) fun _ _ _ z => z⟩
/-- one expression, then the rest -/
theorem seqE {K : PySem.W.Frag} {C : Ct} {e : E} {σ : L2.St} {H : Hp} {m : List Addr} {h : Hh} {n : En} {β : Type} {f : D → Hh → PM.R β} {g : β → List Addr → Hh → Hp → Prop} (R : Rel T K m h H) (er : ER T K hot m H n σ)
    (x : Gd T K ((ev C e n h).bind f) m H g (fun c d H' => W c d σ H')) :
    tE T K hot C W e σ H fun v H1 => ∃ m1 h1 d, Ext K m H m1 H1 ∧ Rel T K m1 h1 H1 ∧ ER T K hot m1 H1 n σ ∧ VR K m1 H1 d v ∧ Gd T K (f d h1) m1 H1 g (fun c d H' => W c d σ H') :=
  ⟨m, h, n, R, er, x.bind.imp (fun d m' h' H' e' R' z v r => ⟨m', h', d, e', R', er.mono R e', r, z⟩) fun _ _ _ z => z⟩
theorem seqEs {K : PySem.W.Frag} {C : Ct} {e : Es} {σ : L2.St} {H : Hp} {m : List Addr} {h : Hh} {n : En} {β : Type} {f : List D → Hh → PM.R β} {g : β → List Addr → Hh → Hp → Prop} (R : Rel T K m h H) (er : ER T K hot m H n σ)
    (x : Gd T K ((evs C e n h).bind f) m H g (fun c d H' => W c d σ H')) :
    tEs T K hot C W e σ H fun v H1 => ∃ m1 h1 d, Ext K m H m1 H1 ∧ Rel T K m1 h1 H1 ∧ ER T K hot m1 H1 n σ ∧ VRs K m1 H1 d v ∧ Gd T K (f d h1) m1 H1 g (fun c d H' => W c d σ H') :=
  ⟨m, h, n, R, er, x.bind.imp (fun d m' h' H' e' R' z v r => ⟨m', h', d, e', R', er.mono R e', r, z⟩) fun _ _ _ z => z⟩

/-- a result that is no exception -/
def quiet {α : Type} : PM.R α → Prop
  | .exc .. => False
  | _ => True
theorem Gd.quiet {α : Type} {K : PySem.W.Frag} {r : PM.R α} {m : List Addr} {H : Hp} {g : α → List Addr → Hh → Hp → Prop} {W : XK} (q : PM.quiet r) (x : Gd T K r m H g W) : Gd T K r m H g noX := by
  cases r with
  | ok a h => exact x
  | exc c fs h => exact q.elim
  | bad => exact x
theorem quiet_binop {op : Operator} {x y : D} {h : Hh} : PM.quiet (binop op x y h) := by
  unfold binop
  repeat' split
  all_goals trivial
theorem quiet_cmpop {op : CmpOp} {x y : D} {h : Hh} : PM.quiet (cmpop op x y h) := by
  unfold cmpop
  repeat' split
  all_goals trivial
theorem quiet_blt {b : Bl} {xs : List D} {h : Hh} : PM.quiet (blt b xs h) := by
  unfold blt bLen bAbs bInt bBool bTuple bList bMax bMin
  repeat' split
  all_goals trivial
theorem quiet_sub {x y : D} {h : Hh} : PM.quiet (subop x y h) := by
  unfold subop
  repeat' split
  all_goals trivial
theorem quiet_slc {x : D} {lo hi : Option Int} {h : Hh} : PM.quiet (slcop x lo hi h) := by
  unfold slcop
  repeat' split
  all_goals trivial
theorem quiet_bmt {m : Bm} {x : D} {as : List D} {h : Hh} : PM.quiet (bmt m x as h) := by
  unfold bmt mAppend mSplit mJoin mEnds
  repeat' split
  all_goals trivial

/-! ### constants, names -/
theorem pE_const {e : Expr} {v : V} {d : D} {E' : E} (p : PE X e (tC v)) (hv : ∀ m H, VR X.K m H d v) (he : ∀ C n h, ev C E' n h = .ok d h) : PE X e (tE T X.K hot (Pg.ct Pr (calls Pr k)) W E') := by
  refine PE.imp p fun σ H Q hh => ?_
  obtain ⟨m, h, n, R, er, g⟩ := hh
  rw [he] at g
  exact g.ok R _ (hv _ _)
theorem pE_var {x : Str} {pos : Pos} {i : Nat} (xk : Xk X T G Pr N sc fnB hot k) (ok : okName x = true) (hs : slotOf N sc x = some i) : PE X (.Name x pos) (tE T X.K hot (Pg.ct Pr (calls Pr k)) W (.var i)) := by
  have hN : X.N[i]? = some x := by
    rw [xk.hN]
    unfold slotOf at hs
    have z : N.idxOf? x = some i := by
      split at hs <;> first | exact hs | cases hs
    obtain ⟨h1, h2⟩ := List.idxOf?_eq_some_iff.mp z
    rw [List.getElem?_eq_getElem h1]
    simpa using h2.1
  have hv : Vis X.env.scope x := by
    rw [xk.hsc]
    unfold slotOf at hs
    unfold Vis
    split at hs
    · exact .inl (by assumption)
    · exact .inr (.inl (by assumption))
    · exact .inr (.inr (by assumption))
    · cases hs
  have hd : (x == ("__debug__" : Str)) = false := by
    unfold okName at ok
    simp only [Bool.and_eq_true, Bool.not_eq_true'] at ok
    exact ok.1.1
  have hcd : (x == ("__classdict__" : Str)) = false := by
    unfold okName at ok
    simp only [Bool.and_eq_true, Bool.not_eq_true'] at ok
    exact ok.1.2
  refine PE.imp (pe_var (i := i) hN hv hd hcd) fun σ H Q hh => ?_
  obtain ⟨m, h, n, R, er, g⟩ := hh
  simp only [ev] at g
  cases q : getS n i with
  | none => rw [q] at g; exact g.elim
  | some d =>
    rw [q] at g
    have q' : n.s[i]? = some (some d) := by
      unfold getS at q
      cases z : n.s[i]? with
      | none => rw [z] at q; cases q
      | some o => rw [z] at q; simp at q; rw [q]
    obtain ⟨v, ev', r⟩ := er.val i d q'
    exact ⟨v, ev', g.ok R v r⟩
theorem isGlob_Gl {x : Str} (xk : Xk X T G Pr N sc fnB hot k) (h : isGlob sc x = true) : Gl X x := by
  unfold isGlob at h
  show X.env.scope.names.lookup x = some .globalImplicit
  rw [xk.hsc]
  split at h
  · assumption
  · cases h
theorem okName_d {x : Str} (ok : okName x = true) : (x == ("__debug__" : Str)) = false := by
  unfold okName at ok
  simp only [Bool.and_eq_true, Bool.not_eq_true'] at ok
  exact ok.1.1
theorem okName_n {x : Str} (ok : okName x = true) : x ≠ "__name__" := by
  unfold okName at ok
  simp only [Bool.and_eq_true, decide_eq_true_eq] at ok
  exact ok.2

/-! ### displays, operators -/
theorem pE_tup {es : List Expr} {ks : Nat} {pos : Pos} {xs : Es} (p : PA X es (tEs T X.K hot (Pg.ct Pr (calls Pr k)) W xs)) : PE X (.Tuple es ks pos) (tE T X.K hot (Pg.ct Pr (calls Pr k)) W (.tup xs)) := by
  refine PE.imp (pe_tup p) fun σ H Q hh => ?_
  obtain ⟨m, h, n, R, er, g⟩ := hh
  simp only [ev] at g
  refine tEs.mono (seqEs R er g) fun vs H1 ⟨m1, h1, ds, E1, R1, er1, vr, g1⟩ => ?_
  split at g1
  · rename_i hz
    refine ⟨by rw [← vr.length]; exact hz, fun p hp => ?_⟩
    exact g1.at (Ext.lay hp) (R1.lay hp) _ (.tup (SqT.of upd_same) (vr.mono (Ext.lay hp)) hz)
  · exact g1.elim
theorem pE_lst {es : List Expr} {pos : Pos} {xs : Es} (p : PA X es (tEs T X.K hot (Pg.ct Pr (calls Pr k)) W xs)) : PE X (.List es pos) (tE T X.K hot (Pg.ct Pr (calls Pr k)) W (.lst xs)) := by
  refine PE.imp (pe_lst p) fun σ H Q hh => ?_
  obtain ⟨m, h, n, R, er, g⟩ := hh
  simp only [ev] at g
  refine tEs.mono (seqEs R er g) fun vs H1 ⟨m1, h1, ds, E1, R1, er1, vr, g1⟩ => ?_
  split at g1
  · rename_i hz
    refine ⟨by rw [← vr.length]; exact hz, fun p hp => ?_⟩
    have E := Ext.new (o := .lst vs) R1 hp
    exact g1.at E (R1.new hp (.lst (vr.mono E) hz)) _ (.loc R1.last)
  · exact g1.elim
theorem pE_bin {a b : Expr} {op : Operator} {pos : Pos} {x y : E} (pa : PE X a (tE T X.K hot (Pg.ct Pr (calls Pr k)) W x)) (pb : PE X b (tE T X.K hot (Pg.ct Pr (calls Pr k)) W y)) : PE X (.BinOp a op b pos) (tE T X.K hot (Pg.ct Pr (calls Pr k)) W (.bin op x y)) := by
  refine PE.imp (pe_op (op_bin (T := T)) pa pb) fun σ H Q hh => ?_
  obtain ⟨m, h, n, R, er, g⟩ := hh
  simp only [ev] at g
  refine tE.mono (seqE R er g) fun v H1 ⟨m1, h1, d, E1, R1, er1, vr, g1⟩ => ?_
  refine tE.mono (seqE R1 er1 g1) fun u H2 ⟨m2, h2, e, E2, R2, er2, ur, g2⟩ => ?_
  exact ⟨m2, h2, d, e, R2, vr.mono E2, ur, g2.quiet quiet_binop⟩
theorem pE_neg {a : Expr} {pos : Pos} {x : E} (pa : PE X a (tE T X.K hot (Pg.ct Pr (calls Pr k)) W x)) : PE X (.UnaryOp .USub a pos) (tE T X.K hot (Pg.ct Pr (calls Pr k)) W (.neg x)) := by
  refine PE.imp (pe_un un_neg pa) fun σ H Q hh => ?_
  obtain ⟨m, h, n, R, er, g⟩ := hh
  simp only [ev] at g
  refine tE.mono (seqE R er g) fun v H1 ⟨m1, h1, d, E1, R1, er1, vr, g1⟩ => ?_
  unfold intOf at g1
  split at g1
  · cases vr
    exact ⟨_, rfl, g1.ok R1 _ (.int _)⟩
  · exact g1.elim
theorem pE_not {a : Expr} {pos : Pos} {x : E} (pa : PE X a (tE T X.K hot (Pg.ct Pr (calls Pr k)) W x)) : PE X (.UnaryOp .Not a pos) (tE T X.K hot (Pg.ct Pr (calls Pr k)) W (.not x)) := by
  refine PE.imp (pe_notT pa) fun σ H Q hh => ?_
  obtain ⟨m, h, n, R, er, g⟩ := hh
  simp only [ev] at g
  refine tE.mono (seqE R er g) fun v H1 ⟨m1, h1, d, E1, R1, er1, vr, g1⟩ => ?_
  unfold tru PM.R.opt at g1
  cases q : truth h1 d with
  | none => rw [q] at g1; exact g1.elim
  | some b =>
    rw [q] at g1
    exact ⟨b, R1.tru vr q, g1.ok R1 _ (.bl _)⟩
/-- == of two own instances -/
theorem op_own {f : Addr} {fd : FuncData} {ps : List Str} {C : Addr} {sp : Sp} {j : Nat} (F : FnOk X.prog X.w X.K X.mg X.base (L2.CX X.prog X.w) j f fd ps sp) (hs : PySem.W.findIn X.K (.ref C) "__eq__" = some (some (.ref f))) (hf : PySem.W.isFn X.K (.ref f) = true) (hb : Binds X.K fd ps []) (hr : Room j X.A)
    {pins : List (Addr × Obj)} {s : Shared} {σ : L2.St} {H : Hp} {Q : VK} {a b dx dy : Addr} {fs gs : List (Str × V)} (I : Inv X pins σ H s) (ha : H a = some (.ins C dx fs)) (hb' : H b = some (.ins C dy gs)) (hsp : sp [.ref a, .ref b] H (fun v H' => (∃ b, v = .bl b) ∧ Q v H') noX) :
    wpAny (model X.prog X.w) X.A (compareOp .Eq (.ref a) (.ref b)) (EP X pins σ Q) X.xe s := by
  obtain ⟨mA, J, _⟩ := ins_get I.hok ha
  obtain ⟨mB, J', _⟩ := ins_get I.hok hb'
  obtain ⟨od, J, _⟩ := J.look
  obtain ⟨od', J', _⟩ := J'.look
  obtain ⟨m, hF⟩ := I.fr
  show wpAny (model X.prog X.w) X.A (richCompare .Eq (.ref a) (.ref b)) (EP X pins σ Q) X.xe s
  refine PySem.W.cmp_K (op := .Eq) (tb := .ref C) hr.units0 hF I.ok.mod.kin J J'.type (by simp [PySem.W.notFirst]) hs hf ?_
  have hl := F.len _ _ _ _ hsp
  have r2 : Vals [V.ref a, V.ref b] [Value.ref a, Value.ref b] := .cons rfl (.cons rfl .nil)
  refine wpAny_call (codeAny_mono (F.run X.A X.stack s H ⟨[.ref a, .ref b], []⟩ [.ref a, .ref b] [.ref a, .ref b] _ noX hr I.env0 (by
    have := hb s [.ref a, .ref b] I.kIn (by simpa using hl)
    simpa using this) r2 hsp) fun r s' hq => ?_)
  cases r with
  | error e =>
    obtain ⟨_, _, _, _, _, _, _, _, _, _, _, _, z⟩ := hq
    exact z.elim
  | ok fl =>
    cases fl with
    | ret w =>
      obtain ⟨z, H', I', rz, ⟨b, ez⟩, q⟩ := I.after hq
      subst ez
      cases rz
      exact ⟨.bl b, H', I', rfl, q⟩
    | next => exact False.elim hq
    | brk => exact False.elim hq
    | cont => exact False.elim hq
theorem Gd.calm {α : Type} {K : PySem.W.Frag} {r : PM.R α} {m : List Addr} {H : Hp} {g : α → List Addr → Hh → Hp → Prop} {W : XK} (x : Gd T K r.calm m H g W) : Gd T K r m H g noX := by
  cases r with
  | ok a h => exact x
  | exc c fs h => exact x.elim
  | bad => exact x
theorem Gd.calmBind {α β : Type} {K : PySem.W.Frag} {r : PM.R α} {f : α → Hh → PM.R β} {m : List Addr} {H : Hp} {g : β → List Addr → Hh → Hp → Prop} {W : XK} (x : Gd T K (r.calm.bind f) m H g W) : Gd T K r m H (fun a m1 h1 H1 => Gd T K (f a h1) m1 H1 g W) noX := x.bind.calm
theorem op_cmpC (xk : Xk X T G Pr N sc fnB hot k) (hmt : G.mt.lookup ("__eq__" : Str) = some mEq) {op : CmpOp} {hb : Bool} (hh : hb = false → hot = none) : OpR X (compareOp op) (rA2 T X.K (cmpC (Pg.ct Pr (calls Pr k)) hb op)) := by
  by_cases ho : op = .Eq
  · subst ho
    intro pins s σ H x y v u Q I rx ry hq
    obtain ⟨m, h, d, e, R, vx, vy, g⟩ := hq
    simp only [cmpC] at g
    cases q : ownEq (Pg.ct Pr (calls Pr k)) d e h with
    | none =>
      rw [q] at g
      exact op_cmp xk.units pins s σ H x y v u Q I rx ry ⟨m, h, d, e, R, vx, vy, g⟩
    | some r =>
      rw [q] at g
      dsimp only at g
      split at g
      · exact g.elim
      · rename_i hbb
        have hcool := hh (by simpa using hbb)
        unfold ownEq at q
        split at q
        · rename_i n
          split at q
          · rename_i c fs e1
            cases q
            split at g
            · rename_i n2
              split at g
              · rename_i c2 fs2 e2
                split at g
                · rename_i hc
                  subst hc
                  split at g
                  · rename_i f em
                    obtain ⟨a, dx, gs, rfl, ea, ha, fa, ca⟩ := vx.ins_of R e1
                    obtain ⟨b, dy, gs2, rfl, eb, hb', fb, cb⟩ := vy.ins_of R e2
                    cases rx; cases ry
                    obtain ⟨_, fadr, me, ff⟩ := xk.pf.mt _ _ _ _ em hmt
                    obtain ⟨fd, ps, bi, F⟩ := ff.ok
                    refine op_own F me.at_ me.fn bi ((xk.room hcool).mono (Nat.le_succ _)) I ha hb' ⟨m, h, _, R, .cons vx (.cons vy .nil), ?_⟩
                    refine g.calmBind.imp (fun r m1 h1 H1 E1 R1 z => ?_) fun _ _ _ z => z
                    intro w wr
                    cases r with
                    | bl b' =>
                      cases wr
                      exact ⟨⟨_, rfl⟩, z.ok R1 _ (.bl _)⟩
                    | non => exact z.elim
                    | int _ => exact z.elim
                    | str _ => exact z.elim
                    | tup _ => exact z.elim
                    | loc _ => exact z.elim
                  · exact g.elim
                · exact g.elim
              · exact g.elim
            · exact g.elim
          · cases q
        · cases q
  · have e : cmpC (Pg.ct Pr (calls Pr k)) hb op = cmpop op := by
      funext x y h
      cases op <;> first | rfl | exact absurd rfl ho
    rw [e]
    exact op_cmp xk.units
theorem quiet_bind {α β : Type} {r : PM.R α} {f : α → Hh → PM.R β} (h1 : PM.quiet r) (h2 : ∀ a h, PM.quiet (f a h)) : PM.quiet (r.bind f) := by
  cases r with
  | ok a h => exact h2 a h
  | exc c fs h => exact h1
  | bad => exact h1
theorem quiet_calm {α : Type} {r : PM.R α} : PM.quiet r.calm := by
  cases r <;> trivial
theorem quiet_ownEq {C : Ct} {x y : D} {h : Hh} {r : PM.R D} (e : ownEq C x y h = some r) : PM.quiet r := by
  unfold ownEq at e
  split at e
  · split at e
    · cases e
      repeat' split
      all_goals first
        | trivial
        | (refine quiet_bind quiet_calm fun a h => ?_
           split <;> trivial)
    · cases e
  · cases e
theorem quiet_cmpC {C : Ct} {hb : Bool} {op : CmpOp} {x y : D} {h : Hh} : PM.quiet (cmpC C hb op x y h) := by
  unfold cmpC
  split
  · split
    · rename_i r e
      split
      · trivial
      · exact quiet_ownEq e
    · exact quiet_cmpop
  · exact quiet_cmpop
theorem hb_cold {K : PySem.W.Frag} {m : List Addr} {H : Hp} {n : En} {σ : L2.St} (er : ER T K hot m H n σ) : n.x.isSome = false → hot = none := fun e => by
  cases hot with
  | none => rfl
  | some t => have := er.hotx; rw [e] at this; cases this
theorem pE_cmp {a b : Expr} {op : CmpOp} {pos : Pos} {x y : E} (xk : Xk X T G Pr N sc fnB hot k) (hmt : G.mt.lookup ("__eq__" : Str) = some mEq) (hm : behindInMarks op b = false) (pa : PE X a (tE T X.K hot (Pg.ct Pr (calls Pr k)) W x)) (pb : PE X b (tE T X.K hot (Pg.ct Pr (calls Pr k)) W y)) :
    PE X (.Compare a [op] [b] pos) (tE T X.K hot (Pg.ct Pr (calls Pr k)) W (.cmp op x y)) := by
  have go : ∀ hb : Bool, (hb = false → hot = none) → PE X (.Compare a [op] [b] pos) (tOp (rA2 T X.K (cmpC (Pg.ct Pr (calls Pr k)) hb op)) (tE T X.K hot (Pg.ct Pr (calls Pr k)) W x) (tE T X.K hot (Pg.ct Pr (calls Pr k)) W y)) := fun hb hh => pe_cmpR (op_cmpC xk hmt hh) pa pb hm
  refine ⟨fun pins s σ H Q I hh => ?_⟩
  obtain ⟨m, h, n, R, er, g⟩ := hh
  refine (go n.x.isSome (hb_cold er)).run pins s σ H Q I ?_
  simp only [ev] at g
  refine tE.mono (seqE R er g) fun v H1 ⟨m1, h1, d, E1, R1, er1, vr, g1⟩ => ?_
  refine tE.mono (seqE R1 er1 g1) fun u H2 ⟨m2, h2, e, E2, R2, er2, ur, g2⟩ => ?_
  exact ⟨m2, h2, d, e, R2, vr.mono E2, ur, g2.quiet quiet_cmpC⟩
theorem pE_chn {a b c : Expr} {o1 o2 : CmpOp} {pos : Pos} {x y z : E} (xk : Xk X T G Pr N sc fnB hot k) (hm : lastMarks [o1, o2] [b, c] = false) (pa : PE X a (tE T X.K hot (Pg.ct Pr (calls Pr k)) W x)) (pb : PE X b (tE T X.K hot (Pg.ct Pr (calls Pr k)) W y)) (pc : PE X c (tE T X.K hot (Pg.ct Pr (calls Pr k)) W z)) :
    PE X (.Compare a [o1, o2] [b, c] pos) (tE T X.K hot (Pg.ct Pr (calls Pr k)) W (.chn o1 o2 x y z)) := by
  refine PE.imp (pe_chain (op_cmp (T := T) xk.units) (op_cmp (T := T) xk.units) pa pb pc hm) fun σ H Q hh => ?_
  obtain ⟨m, h, n, R, er, g⟩ := hh
  simp only [ev] at g
  refine tE.mono (seqE R er g) fun v H1 ⟨m1, h1, d, E1, R1, er1, vr, g1⟩ => ?_
  refine tE.mono (seqE R1 er1 g1) fun u H2 ⟨m2, h2, e, E2, R2, er2, ur, g2⟩ => ?_
  refine ⟨m2, h2, d, e, R2, vr.mono E2, ur, ?_⟩
  refine (g2.bind.quiet quiet_cmpop).imp (fun r m3 h3 H3 E3 R3 g3 => ?_) fun _ _ _ q => q
  intro w wr
  split at g3
  · cases wr
    refine ⟨true, rfl, ?_⟩
    show tE T X.K hot (Pg.ct Pr (calls Pr k)) W z σ H3 _
    refine tE.mono (seqE R3 (er2.mono R2 E3) g3) fun t H4 ⟨m4, h4, q, E4, R4, er4, tr, g4⟩ => ?_
    exact ⟨m4, h4, e, q, R4, (ur.mono E3).mono E4, tr, g4.quiet quiet_cmpop⟩
  · cases wr
    exact ⟨false, rfl, g3.ok R3 _ (.bl _)⟩
  · exact g3.elim
theorem pE_ife {c a b : Expr} {pos : Pos} {x y z : E} (pc : PT X c (tT T X.K hot (Pg.ct Pr (calls Pr k)) W x)) (pa : PE X a (tE T X.K hot (Pg.ct Pr (calls Pr k)) W y)) (pb : PE X b (tE T X.K hot (Pg.ct Pr (calls Pr k)) W z)) :
    PE X (.IfExp c a b pos) (tE T X.K hot (Pg.ct Pr (calls Pr k)) W (.ife x y z)) := by
  refine PE.imp (pe_ifExp pc pa pb) fun σ H Q hh => ?_
  obtain ⟨m, h, n, R, er, g⟩ := hh
  simp only [ev] at g
  have g' : Gd T X.K (((ev (Pg.ct Pr (calls Pr k)) x n h).bind fun d h => tru d h).bind fun t h => if t = true then ev (Pg.ct Pr (calls Pr k)) y n h else ev (Pg.ct Pr (calls Pr k)) z n h) m H (wV X.K Q) (fun c d H' => W c d σ H') := by
    cases q : ev (Pg.ct Pr (calls Pr k)) x n h with
    | ok d h1 => rw [q] at g; exact g
    | exc c fs h1 => rw [q] at g; exact g
    | bad => rw [q] at g; exact g
  refine ⟨m, h, n, R, er, g'.bind.imp (fun b m1 h1 H1 E1 R1 z => ?_) fun _ _ _ q => q⟩
  cases b with
  | true => exact ⟨m1, h1, n, R1, er.mono R E1, z⟩
  | false => exact ⟨m1, h1, n, R1, er.mono R E1, z⟩
end
end PM
set_option Elab.async false
set_option linter.all false
set_option maxRecDepth 100000
set_option maxHeartbeats 4000000
/-! PM7: and, or, tests, calls, fields, subscripts. -/
namespace PM
open PySem PySem.Spec PyProof.Rows L2
section
variable {X : Cx} {T : Tb} {G : Gt} {Pr : Pg} {N : List Str} {sc : Scope} {fnB : Str → Bool} {hot : Option Hot} {k : Nat} {W : WX}
/-! ### and, or -/
theorem pE_and {a b : Expr} {rest : List Expr} {pos : Pos} {x y : E} (pa : PE X a (tE T X.K hot (Pg.ct Pr (calls Pr k)) W x)) (pb : PE X (.BoolOp .And (b :: rest) pos) (tE T X.K hot (Pg.ct Pr (calls Pr k)) W y)) :
    PE X (.BoolOp .And (a :: b :: rest) pos) (tE T X.K hot (Pg.ct Pr (calls Pr k)) W (.and x y)) := by
  refine PE.imp (pe_andT pa pb) fun σ H Q hh => ?_
  obtain ⟨m, h, n, R, er, g⟩ := hh
  simp only [ev] at g
  refine tE.mono (seqE R er g) fun v H1 ⟨m1, h1, d, E1, R1, er1, vr, g1⟩ => ?_
  unfold tru PM.R.opt at g1
  cases q : truth h1 d with
  | none => rw [q] at g1; exact g1.elim
  | some t =>
    rw [q] at g1
    refine ⟨t, R1.tru vr q, ?_⟩
    cases t with
    | true => exact ⟨m1, h1, n, R1, er1, g1⟩
    | false => exact Gd.ok (h := h1) (a := d) g1 R1 v vr
theorem pE_or {a b : Expr} {rest : List Expr} {pos : Pos} {x y : E} (pa : PE X a (tE T X.K hot (Pg.ct Pr (calls Pr k)) W x)) (pb : PE X (.BoolOp .Or (b :: rest) pos) (tE T X.K hot (Pg.ct Pr (calls Pr k)) W y)) :
    PE X (.BoolOp .Or (a :: b :: rest) pos) (tE T X.K hot (Pg.ct Pr (calls Pr k)) W (.or x y)) := by
  refine PE.imp (pe_orT pa pb) fun σ H Q hh => ?_
  obtain ⟨m, h, n, R, er, g⟩ := hh
  simp only [ev] at g
  refine tE.mono (seqE R er g) fun v H1 ⟨m1, h1, d, E1, R1, er1, vr, g1⟩ => ?_
  unfold tru PM.R.opt at g1
  cases q : truth h1 d with
  | none => rw [q] at g1; exact g1.elim
  | some t =>
    rw [q] at g1
    refine ⟨t, R1.tru vr q, ?_⟩
    cases t with
    | false => exact ⟨m1, h1, n, R1, er1, g1⟩
    | true => exact Gd.ok (h := h1) (a := d) g1 R1 v vr

/-! ### tests -/
theorem pT_plain {e : Expr} {x : E} (he : ∀ whole, isTrue e X.env whole = (do let v ← whole; standAt e.pos; holding [v] (truthy v))) (p : PE X e (tE T X.K hot (Pg.ct Pr (calls Pr k)) W x)) : PT X e (tT T X.K hot (Pg.ct Pr (calls Pr k)) W x) := by
  refine PT.imp (pt_truth p he) fun σ H Q hh => ?_
  obtain ⟨m, h, n, R, er, g⟩ := hh
  refine tE.mono (seqE R er g) fun v H1 ⟨m1, h1, d, E1, R1, er1, vr, g1⟩ => ?_
  unfold tru PM.R.opt at g1
  cases q : truth h1 d with
  | none => rw [q] at g1; exact g1.elim
  | some t =>
    rw [q] at g1
    exact ⟨t, R1.tru vr q, Gd.ok (h := h1) (a := t) g1 R1⟩
theorem tT.mono {K : PySem.W.Frag} {C : Ct} {e : E} {σ : L2.St} {H : Hp} {Q Q' : Bool → Hp → Prop} (x : tT T K hot C W e σ H Q) (f : ∀ v H', Q v H' → Q' v H') : tT T K hot C W e σ H Q' := by
  obtain ⟨m, h, n, R, er, g⟩ := x
  exact ⟨m, h, n, R, er, g.imp (fun d m' h' H' _ _ z => f d H' z) fun _ _ _ z => z⟩
/-- a test, then the rest -/
theorem seqT {K : PySem.W.Frag} {C : Ct} {e : E} {σ : L2.St} {H : Hp} {m : List Addr} {h : Hh} {n : En} {β : Type} {f : Bool → Hh → PM.R β} {g : β → List Addr → Hh → Hp → Prop} (R : Rel T K m h H) (er : ER T K hot m H n σ)
    (x : Gd T K (((ev C e n h).bind fun d h => tru d h).bind f) m H g (fun c d H' => W c d σ H')) :
    tT T K hot C W e σ H fun v H1 => ∃ m1 h1, Ext K m H m1 H1 ∧ Rel T K m1 h1 H1 ∧ ER T K hot m1 H1 n σ ∧ Gd T K (f v h1) m1 H1 g (fun c d H' => W c d σ H') :=
  ⟨m, h, n, R, er, x.bind.imp (fun d m' h' H' e' R' z => ⟨m', h', e', R', er.mono R e', z⟩) fun _ _ _ z => z⟩
theorem bind_assoc' {α β γ : Type} (r : PM.R α) (f : α → Hh → PM.R β) (g : β → Hh → PM.R γ) : (r.bind f).bind g = r.bind fun a h => (f a h).bind g := by
  cases r <;> rfl
theorem tru_bl (b : Bool) (h : Hh) : tru (.bl b) h = .ok b h := rfl
/-- truth of x and y, of x or y, of not x -/
theorem tru_and {C : Ct} {x y : E} {n : En} {h : Hh} : ((ev C (.and x y) n h).bind fun d h => tru d h) = ((ev C x n h).bind fun d h => tru d h).bind fun t h => if t = true then (ev C y n h).bind fun d h => tru d h else .ok false h := by
  simp only [ev]
  cases q : ev C x n h with
  | ok d h1 =>
    simp only [PM.R.bind]
    cases q2 : truth h1 d with
    | none => simp [tru, PM.R.opt, q2]
    | some t => cases t <;> simp [tru, PM.R.opt, q2]
  | exc c fs h1 => rfl
  | bad => rfl
theorem tru_or {C : Ct} {x y : E} {n : En} {h : Hh} : ((ev C (.or x y) n h).bind fun d h => tru d h) = ((ev C x n h).bind fun d h => tru d h).bind fun t h => if t = true then .ok true h else (ev C y n h).bind fun d h => tru d h := by
  simp only [ev]
  cases q : ev C x n h with
  | ok d h1 =>
    simp only [PM.R.bind]
    cases q2 : truth h1 d with
    | none => simp [tru, PM.R.opt, q2]
    | some t => cases t <;> simp [tru, PM.R.opt, q2]
  | exc c fs h1 => rfl
  | bad => rfl
theorem tru_not {C : Ct} {x : E} {n : En} {h : Hh} : ((ev C (.not x) n h).bind fun d h => tru d h) = ((ev C x n h).bind fun d h => tru d h).bind fun t h => .ok (!t) h := by
  simp only [ev]
  cases q : ev C x n h with
  | ok d h1 =>
    simp only [PM.R.bind]
    cases q2 : truth h1 d with
    | none => simp [tru, PM.R.opt, q2]
    | some t =>
      have z : tru d h1 = .ok t h1 := by simp [tru, PM.R.opt, q2]
      rw [z]
      rfl
  | exc c fs h1 => rfl
  | bad => rfl
theorem tru_ife {C : Ct} {x y z : E} {n : En} {h : Hh} : ((ev C (.ife x y z) n h).bind fun d h => tru d h) = ((ev C x n h).bind fun d h => tru d h).bind fun t h => if t = true then (ev C y n h).bind fun d h => tru d h else (ev C z n h).bind fun d h => tru d h := by
  simp only [ev]
  cases q : ev C x n h with
  | ok d h1 =>
    simp only [PM.R.bind]
    cases q2 : truth h1 d with
    | none => simp [tru, PM.R.opt, q2]
    | some t => cases t <;> simp [tru, PM.R.opt, q2]
  | exc c fs h1 => rfl
  | bad => rfl
theorem pT_not {e : Expr} {pos : Pos} {x : E} (p : PT X e (tT T X.K hot (Pg.ct Pr (calls Pr k)) W x)) : PT X (.UnaryOp .Not e pos) (tT T X.K hot (Pg.ct Pr (calls Pr k)) W (.not x)) := by
  refine PT.imp (pt_not p) fun σ H Q hh => ?_
  obtain ⟨m, h, n, R, er, g⟩ := hh
  rw [tru_not] at g
  refine tT.mono (seqT R er g) fun t H1 ⟨m1, h1, E1, R1, er1, g1⟩ => ?_
  exact Gd.ok (h := h1) (a := !t) g1 R1
theorem pW_and {a b : Expr} {rest : List Expr} {pos : Pos} {x y : E} (pa : PT X a (tT T X.K hot (Pg.ct Pr (calls Pr k)) W x)) (pb : PW X (.BoolOp .And (b :: rest) pos) (tT T X.K hot (Pg.ct Pr (calls Pr k)) W y)) :
    PW X (.BoolOp .And (a :: b :: rest) pos) (tT T X.K hot (Pg.ct Pr (calls Pr k)) W (.and x y)) := by
  refine ⟨fun wh pins s σ H Q I hh => (pw_and pa pb).run wh pins s σ H Q I ?_⟩
  obtain ⟨m, h, n, R, er, g⟩ := hh
  rw [tru_and] at g
  refine tT.mono (seqT R er g) fun t H1 ⟨m1, h1, E1, R1, er1, g1⟩ => ?_
  cases t with
  | true => exact ⟨m1, h1, n, R1, er1, g1⟩
  | false => exact Gd.ok (h := h1) (a := false) g1 R1
theorem pW_or {a b : Expr} {rest : List Expr} {pos : Pos} {x y : E} (pa : PT X a (tT T X.K hot (Pg.ct Pr (calls Pr k)) W x)) (pb : PW X (.BoolOp .Or (b :: rest) pos) (tT T X.K hot (Pg.ct Pr (calls Pr k)) W y)) :
    PW X (.BoolOp .Or (a :: b :: rest) pos) (tT T X.K hot (Pg.ct Pr (calls Pr k)) W (.or x y)) := by
  refine ⟨fun wh pins s σ H Q I hh => (pw_or pa pb).run wh pins s σ H Q I ?_⟩
  obtain ⟨m, h, n, R, er, g⟩ := hh
  rw [tru_or] at g
  refine tT.mono (seqT R er g) fun t H1 ⟨m1, h1, E1, R1, er1, g1⟩ => ?_
  cases t with
  | false => exact ⟨m1, h1, n, R1, er1, g1⟩
  | true => exact Gd.ok (h := h1) (a := true) g1 R1
theorem pT_ife {c a b : Expr} {pos : Pos} {x y z : E} (pc : PT X c (tT T X.K hot (Pg.ct Pr (calls Pr k)) W x)) (pa : PT X a (tT T X.K hot (Pg.ct Pr (calls Pr k)) W y)) (pb : PT X b (tT T X.K hot (Pg.ct Pr (calls Pr k)) W z)) :
    PT X (.IfExp c a b pos) (tT T X.K hot (Pg.ct Pr (calls Pr k)) W (.ife x y z)) := by
  refine ⟨fun pins s σ H Q I hh => ?_⟩
  obtain ⟨m, h, n, R, er, g⟩ := hh
  rw [tru_ife] at g
  have e1 : ∀ wh, isTrue (.IfExp c a b pos) X.env wh = (isTrue c X.env (eval c X.env) >>= fun t => if t = true then isTrue a X.env (eval a X.env) else isTrue b X.env (eval b X.env)) := fun wh => by
    first | rfl | (rw [isTrue])
  rw [e1]
  refine wpAny_bind (thn (pc.run pins s σ H _ I (seqT R er g)) fun t s1 ⟨H1, I1, m1, h1, E1, R1, er1, g1⟩ => ?_)
  cases t with
  | true => exact pa.run pins s1 σ H1 Q I1 ⟨m1, h1, n, R1, er1, g1⟩
  | false => exact pb.run pins s1 σ H1 Q I1 ⟨m1, h1, n, R1, er1, g1⟩
theorem isBl_cmpop {op : CmpOp} {x y : D} {h h' : Hh} {d : D} (e : cmpop op x y h = .ok d h') : ∃ b, d = .bl b := by
  unfold cmpop at e
  repeat' split at e
  all_goals first | (cases e; exact ⟨_, rfl⟩) | cases e
theorem isBl_cmpC {C : Ct} {hb : Bool} {op : CmpOp} {x y : D} {h h' : Hh} {d : D} (e : cmpC C hb op x y h = .ok d h') : ∃ b, d = .bl b := by
  unfold cmpC at e
  split at e
  · split at e
    · rename_i r q
      split at e
      · cases e
      · unfold ownEq at q
        split at q
        · split at q
          · cases q
            split at e
            · split at e
              · split at e
                · split at e
                  · cases hr : (C.call _ _ h).calm with
                    | ok r h1 =>
                      rw [hr] at e
                      simp only [PM.R.bind] at e
                      split at e
                      · cases e; exact ⟨_, rfl⟩
                      · cases e
                    | exc c fs h1 => rw [hr] at e; cases e
                    | bad => rw [hr] at e; cases e
                  · cases e
                · cases e
              · cases e
            · cases e
          · cases q
        · cases q
    · exact isBl_cmpop e
  · exact isBl_cmpop e
theorem Gd.toBl {K : PySem.W.Frag} {r : PM.R D} {m : List Addr} {H : Hp} {Q : Bool → Hp → Prop} {W : XK} (hb : ∀ d h', r = .ok d h' → ∃ b, d = .bl b) (x : Gd T K (r.bind fun d h => tru d h) m H (fun b _ _ H' => Q b H') W) :
    Gd T K r m H (wV K fun v H' => ∃ t, v = .bl t ∧ Q t H') W := by
  cases r with
  | ok d h =>
    obtain ⟨b, rfl⟩ := hb d h rfl
    exact fun m' H' e R v vr => by
      cases vr
      exact ⟨b, rfl, x m' H' e R⟩
  | exc c fs h => exact x
  | bad => exact x
theorem pT_cmp {a b : Expr} {op : CmpOp} {pos : Pos} {x y : E} (xk : Xk X T G Pr N sc fnB hot k) (hmt : G.mt.lookup ("__eq__" : Str) = some mEq) (hm : behindInMarks op b = false) (pa : PE X a (tE T X.K hot (Pg.ct Pr (calls Pr k)) W x)) (pb : PE X b (tE T X.K hot (Pg.ct Pr (calls Pr k)) W y)) :
    PT X (.Compare a [op] [b] pos) (tT T X.K hot (Pg.ct Pr (calls Pr k)) W (.cmp op x y)) := by
  have go : ∀ hb : Bool, (hb = false → hot = none) → PT X (.Compare a [op] [b] pos) (tTest (tOp (rA2 T X.K (cmpC (Pg.ct Pr (calls Pr k)) hb op)) (tE T X.K hot (Pg.ct Pr (calls Pr k)) W x) (tE T X.K hot (Pg.ct Pr (calls Pr k)) W y))) := fun hb hh => pt_cmpR (op_cmpC xk hmt hh) pa pb hm
  refine ⟨fun pins s σ H Q I hh => ?_⟩
  obtain ⟨m, h, n, R, er, g⟩ := hh
  refine (go n.x.isSome (hb_cold er)).run pins s σ H Q I ?_
  simp only [ev] at g
  rw [bind_assoc'] at g
  refine tE.mono (seqE R er g) fun v H1 ⟨m1, h1, d, E1, R1, er1, vr, g1⟩ => ?_
  rw [bind_assoc'] at g1
  refine tE.mono (seqE R1 er1 g1) fun u H2 ⟨m2, h2, e, E2, R2, er2, ur, g2⟩ => ?_
  exact ⟨m2, h2, d, e, R2, vr.mono E2, ur, (g2.toBl fun d h' q => isBl_cmpC q).quiet quiet_cmpC⟩
theorem pT_chn {a b c : Expr} {o1 o2 : CmpOp} {pos : Pos} {x y z : E} (xk : Xk X T G Pr N sc fnB hot k) (hm : lastMarks [o1, o2] [b, c] = false) (pa : PE X a (tE T X.K hot (Pg.ct Pr (calls Pr k)) W x)) (pb : PE X b (tE T X.K hot (Pg.ct Pr (calls Pr k)) W y)) (pc : PE X c (tE T X.K hot (Pg.ct Pr (calls Pr k)) W z)) :
    PT X (.Compare a [o1, o2] [b, c] pos) (tT T X.K hot (Pg.ct Pr (calls Pr k)) W (.chn o1 o2 x y z)) := by
  refine PT.imp (pt_chain (op_cmp (T := T) xk.units) (op_cmp (T := T) xk.units) pa pb pc hm) fun σ H Q hh => ?_
  obtain ⟨m, h, n, R, er, g⟩ := hh
  simp only [ev] at g
  rw [bind_assoc'] at g
  refine tE.mono (seqE R er g) fun v H1 ⟨m1, h1, d, E1, R1, er1, vr, g1⟩ => ?_
  rw [bind_assoc'] at g1
  refine tE.mono (seqE R1 er1 g1) fun u H2 ⟨m2, h2, e, E2, R2, er2, ur, g2⟩ => ?_
  refine ⟨m2, h2, d, e, R2, vr.mono E2, ur, ?_⟩
  rw [bind_assoc'] at g2
  refine (g2.bind.quiet quiet_cmpop).imp (fun r m3 h3 H3 E3 R3 g3 => ?_) fun _ _ _ q => q
  intro w wr
  split at g3
  · cases wr
    refine ⟨true, rfl, ?_⟩
    show tE T X.K hot (Pg.ct Pr (calls Pr k)) W z σ H3 _
    rw [bind_assoc'] at g3
    refine tE.mono (seqE R3 (er2.mono R2 E3) g3) fun t H4 ⟨m4, h4, q, E4, R4, er4, tr, g4⟩ => ?_
    exact ⟨m4, h4, e, q, R4, (ur.mono E3).mono E4, tr, (g4.toBl fun d h' q => isBl_cmpop q).quiet quiet_cmpop⟩
  · cases wr
    refine ⟨false, rfl, ?_⟩
    exact ⟨false, rfl, Gd.ok (h := h3) (a := false) g3 R3⟩
  · exact g3.elim

/-! ### argument lists -/
theorem star_of {e : Expr} {es : List Expr} {env : Env} (h : isStar e = false) : starEach (e :: es) env = (false, eval e env) :: starEach es env := by
  cases e <;> first | rfl | (simp [isStar] at h)
theorem noStar_any {pos : Pos} {env : Env} : ∀ {es : List Expr}, (es.all fun a => !isStar a) = true → (backTo pos (starEach es env)).any (·.1) = false
  | [], _ => rfl
  | e :: es, h => by
    rw [List.all_cons, Bool.and_eq_true] at h
    rw [star_of (by simpa using h.1)]
    show (false || (backTo pos (starEach es env)).any (·.1)) = false
    rw [noStar_any h.2]
    rfl
theorem noStar_all {pos : Pos} {env : Env} : ∀ {es : List Expr}, (es.all fun a => !isStar a) = true → (backTo pos (starEach es env)).all (fun x => !x.1) = true
  | [], _ => rfl
  | e :: es, h => by
    rw [List.all_cons, Bool.and_eq_true] at h
    rw [star_of (by simpa using h.1)]
    show (!false && (backTo pos (starEach es env)).all (fun x => !x.1)) = true
    rw [noStar_all h.2]
    rfl
theorem pEs_nil : PA X [] (tEs T X.K hot (Pg.ct Pr (calls Pr k)) W .nil) := by
  refine PA.imp pa_nil fun σ H Q hh => ?_
  obtain ⟨m, h, n, R, er, g⟩ := hh
  simp only [evs] at g
  exact g.ok R _ .nil
theorem pEs_cons {e : Expr} {es : List Expr} {x : E} {xs : Es} (hs : isStar e = false) (p : PE X e (tE T X.K hot (Pg.ct Pr (calls Pr k)) W x)) (ps : PA X es (tEs T X.K hot (Pg.ct Pr (calls Pr k)) W xs)) : PA X (e :: es) (tEs T X.K hot (Pg.ct Pr (calls Pr k)) W (.cons x xs)) := by
  refine PA.imp (pa_cons p ps (star_of hs)) fun σ H Q hh => ?_
  obtain ⟨m, h, n, R, er, g⟩ := hh
  simp only [evs] at g
  refine tE.mono (seqE R er g) fun v H1 ⟨m1, h1, d, E1, R1, er1, vr, g1⟩ => ?_
  refine tEs.mono (seqEs R1 er1 g1) fun vs H2 ⟨m2, h2, ds, E2, R2, er2, vsr, g2⟩ => ?_
  exact g2.ok R2 _ (.cons (vr.mono E2) vsr)

/-! ### calls -/
theorem pE_call {f : Str} {p pos : Pos} {as : List Expr} {i : Nat} {xs : Es} (xk : Xk X T G Pr N sc fnB hot k) (tk : Takes X W) (ok : okName f = true) (hg : isGlob sc f = true) (hs : (as.all fun a => !isStar a) = true) (hnil : as = [] → xs = .nil) (hf : G.fn.lookup f = some i)
    (pa : PA X as (tEs T X.K hot (Pg.ct Pr (calls Pr k)) W xs)) : PE X (.Call (.Name f p) as [] pos) (tE T X.K hot (Pg.ct Pr (calls Pr k)) W (.call i xs)) := by
  obtain ⟨fa, mgf, kp, ff⟩ := xk.pf.fn f i hf
  obtain ⟨fd, ps, bi, F⟩ := ff.ok
  cases hh : hot with
  | some t =>
    subst hh
    refine ⟨fun pins s σ H Q I hh => ?_⟩
    obtain ⟨m, h, n, R, er, g⟩ := hh
    simp only [ev, er.hotx] at g
    exact g.elim
  | none =>
    subst hh
    cases as with
    | nil =>
      refine ⟨fun pins s σ H Q I hh => ?_⟩
      obtain ⟨m, h, n, R, er, g⟩ := hh
      rw [hnil rfl] at g
      simp only [ev, evs, er.cool] at g
      refine wpAny_Call_Name_kw (ld_glob I (isGlob_Gl xk hg) mgf ?_ (okName_d ok))
      exact PySem.W.callWith_K0 I.kIn kp (run_fnS (E := fun σ c d H' => W c d σ H') (us := []) F ((xk.room rfl).mono (Nat.le_succ _)) bi (passAt tk σ) I .nil ⟨m, h, [], R, .nil, g⟩)
    | cons a as =>
      rw [List.all_cons, Bool.and_eq_true] at hs
      refine PE.imp (pe_callS (E := fun σ c d H' => W c d σ H') F ((xk.room rfl).mono (Nat.le_succ _)) (isGlob_Gl xk hg) mgf kp bi (fun σ => passAt tk σ) pa (okName_d ok) (star_of (by simpa using hs.1)) (noStar_any hs.2)) fun σ H Q hh => ?_
      obtain ⟨m, h, n, R, er, g⟩ := hh
      simp only [ev, er.cool] at g
      refine tEs.mono (seqEs R er g) fun vs H1 ⟨m1, h1, ds, E1, R1, er1, vsr, g1⟩ => ?_
      exact ⟨m1, h1, ds, R1, vsr, g1⟩
/-- C(..) by values -/
theorem run_mkS {C f : Addr} {fd : FuncData} {ps : List Str} {sp : Sp} {j : Nat} {pins : List (Addr × Obj)} {σ : L2.St} {H : Hp} {s : Shared} {Q : VK} {us : List Value} {vs : List V} {E : XK} (M : Mk X.K C f) (F : FnOk X.prog X.w X.K X.mg X.base (L2.CX X.prog X.w) j f fd ps sp) (hr : Room (j + 1) X.A) (hb : Binds X.K fd ps [])
    (hx : PassesAt (L2.CX X.prog X.w) X σ E) (I : Inv X pins σ H s) (r : Vals vs us)
    (h : ∀ x dx, H x = none → H dx = none → dx ≠ x → sp (.ref x :: vs) (upd (upd H dx (.own x)) x (.ins C dx [])) (fun v H2 => v = .non ∧ Q (.ref x) H2) E) :
    wpAny (model X.prog X.w) X.A (call (.ref C) us) (EP X pins σ Q) X.xe s := by
  have hq := h (s.heap.objs.size + 1) s.heap.objs.size (I.hok.fresh (Nat.le_succ _)) (I.hok.fresh (Nat.le_refl _)) (Nat.ne_of_lt (Nat.lt_succ_self _))
  have I2 := Inv.made (C := C) I
  have r2 : Vals (V.ref (s.heap.objs.size + 1) :: vs) (Value.ref (s.heap.objs.size + 1) :: us) := .cons rfl r
  have hl : (Value.ref (s.heap.objs.size + 1) :: us ++ []).length = ps.length := by
    rw [List.append_nil]
    have e := r2.length
    rw [F.len _ _ _ _ hq] at e
    exact e.symm
  have b := hb { s with heap := (s.heap.push PySem.W.emptyDict).push (PySem.W.instObj C s.heap.objs.size) } (Value.ref (s.heap.objs.size + 1) :: us) I2.kIn hl
  rw [List.append_nil] at b
  refine wpAny_call (make_map (f := f) I.kIn M.makes M.init (beq_iff_eq.mp M.fn) (codeAny_mono (F.run _ X.stack _ _ ⟨Value.ref (s.heap.objs.size + 1) :: us, []⟩ (Value.ref (s.heap.objs.size + 1) :: us) _ _ E (hr.make C us [])
    (I2.env0.make C us []) b r2 hq) fun r s' hq' => ?_))
  cases r with
  | error e => exact hx pins _ _ e s' I2 hq'
  | ok fl =>
    cases fl with
    | ret u =>
      obtain ⟨v, H', I3, rv, ev, q3⟩ := I2.after hq'
      subst ev
      exact ⟨rv, ⟨V.ref (s.heap.objs.size + 1), H', I3, rfl, q3⟩⟩
    | next => exact False.elim hq'
    | brk => exact False.elim hq'
    | cont => exact False.elim hq'
/-- a new instance, as PM has it -/
theorem made_rel {K : PySem.W.Frag} {m : List Addr} {h : Hh} {H : Hp} {c : Nat} {x dx : Addr} (R : Rel T K m h H) (cf : c ∈ T.cls) (hx : H x = none) (hdx : H dx = none) (ne : dx ≠ x) :
    Ext K m H (m ++ [x]) (upd (upd H dx (.own x)) x (.ins (T.cad c) dx [])) ∧ Rel T K (m ++ [x]) (h ++ [.ins c []]) (upd (upd H dx (.own x)) x (.ins (T.cad c) dx [])) := by
  have R1 : Rel T K m h (upd H dx (.own x)) := R.lay hdx
  have hx1 : upd H dx (.own x) x = none := by rw [upd_ne (Ne.symm ne)]; exact hx
  exact ⟨(Ext.lay hdx).trans (Ext.new R1 hx1), R1.new hx1 (.ins cf .nil)⟩
theorem pE_make {f : Str} {p pos : Pos} {as : List Expr} {c : Nat} {xs : Es} (xk : Xk X T G Pr N sc fnB hot k) (tk : Takes X W) (ok : okName f = true) (hg : isGlob sc f = true) (hs : (as.all fun a => !isStar a) = true) (hnil : as = [] → xs = .nil) (hf : G.cl.lookup f = some c)
    (pa : PA X as (tEs T X.K hot (Pg.ct Pr (calls Pr k)) W xs)) : PE X (.Call (.Name f p) as [] pos) (tE T X.K hot (Pg.ct Pr (calls Pr k)) W (.make c xs)) := by
  obtain ⟨mgf, hcl⟩ := xk.pf.cl f c hf
  have cf := xk.pf.cf c hcl
  cases hh : hot with
  | some t =>
    subst hh
    refine ⟨fun pins s σ H Q I hh => ?_⟩
    obtain ⟨m, h, n, R, er, g⟩ := hh
    simp only [ev, er.hotx] at g
    exact g.elim
  | none =>
    subst hh
    refine ⟨fun pins s σ H Q I hh => ?_⟩
    obtain ⟨m, h, n, R, er, g⟩ := hh
    simp only [ev, er.cool] at g
    -- by values
    have fin : ∀ {s1 : Shared} {H1 : Hp} {vs : List V} {us : List Value} {ds : List D} {m1 : List Addr} {h1 : Hh}, Inv X pins σ H1 s1 → Vals vs us → Rel T X.K m1 h1 H1 → VRs X.K m1 H1 ds vs → Gd T X.K (makeC (Pg.ct Pr (calls Pr k)) c ds h1) m1 H1 (wV X.K Q) (fun c d H' => W c d σ H') →
        PySem.W.keepIn X.K (.ref (T.cad c)) = true ∧ wpAny (model X.prog X.w) X.A (call (.ref (T.cad c)) us) (EP X pins σ Q) X.xe s1 := by
      intro s1 H1 vs us ds m1 h1 I1 r R1 vr g1
      unfold makeC at g1
      cases q : (Pg.ct Pr (calls Pr k)).init c with
      | none => rw [q] at g1; exact g1.elim
      | some i =>
        rw [q] at g1
        obtain ⟨fa, M, ff⟩ := xk.pf.mkr c i q
        obtain ⟨fd, ps, bi, F⟩ := ff.ok
        refine ⟨M.kp, run_mkS (E := fun c d H' => W c d σ H') M F (xk.room rfl) bi (passAt tk σ) I1 r fun x dx hx hdx ne => ?_⟩
        obtain ⟨E2, R2⟩ := made_rel R1 hcl hx hdx ne
        refine ⟨_, _, .loc h1.length :: ds, R2, .cons (.loc R1.last) (vr.mono E2), ?_⟩
        refine (Gd.mono E2 g1).bind.imp (fun r m3 h3 H3 E3 R3 z => ?_) fun _ _ _ z => z
        intro w wr
        cases r with
        | non =>
          cases wr
          exact ⟨rfl, Gd.ok (h := h3) z R3 _ (.loc (E3.sub R1.last))⟩
        | bl _ => exact z.elim
        | int _ => exact z.elim
        | str _ => exact z.elim
        | tup _ => exact z.elim
        | loc _ => exact z.elim
    cases as with
    | nil =>
      rw [hnil rfl] at g
      simp only [evs] at g
      refine wpAny_Call_Name_kw (ld_glob I (isGlob_Gl xk hg) mgf ?_ (okName_d ok))
      obtain ⟨kp, q⟩ := fin (vs := []) (us := []) I .nil R .nil g
      exact PySem.W.callWith_K0 I.kIn kp q
    | cons a as =>
      rw [List.all_cons, Bool.and_eq_true] at hs
      refine wpAny_Call_Name_kw (ld_glob I (isGlob_Gl xk hg) mgf ?_ (okName_d ok))
      refine PySem.W.callWith_K (h₀ := X.base) I.ok.mod.kin cf.kp (thn (pa.run pos pins s σ H _ I (seqEs R er g)) fun us s1 hu => ?_) (star_of (by simpa using hs.1)) (noStar_any hs.2)
      obtain ⟨vs, H1, I1, r, m1, h1, ds, E1, R1, er1, vr, g1⟩ := hu
      exact ⟨I1.kIn, (fin I1 r R1 vr g1).2⟩
/-! ### built-in functions -/
theorem pE_blt1 {b : Bl} {f : Str} {p pos : Pos} {a : Expr} {as : List Expr} {xs : Es} {v : Value} {r : List V → Hp → VK → Prop} (xk : Xk X T G Pr N sc fnB hot k) (hc : CallR X v (rAs T X.K (blt b))) (p1 : ∀ {r : List V → Hp → VK → Prop} {t : TA}, CallR X v r → PA X (a :: as) t → PE X (.Call (.Name f p) (a :: as) [] pos) (tCB r t))
    (pa : PA X (a :: as) (tEs T X.K hot (Pg.ct Pr (calls Pr k)) W xs)) : PE X (.Call (.Name f p) (a :: as) [] pos) (tE T X.K hot (Pg.ct Pr (calls Pr k)) W (.blt b xs)) := by
  refine PE.imp (p1 hc pa) fun σ H Q hh => ?_
  obtain ⟨m, h, n, R, er, g⟩ := hh
  simp only [ev] at g
  split at g
  · exact g.elim
  · refine tEs.mono (seqEs R er g) fun vs H1 ⟨m1, h1, ds, E1, R1, er1, vsr, g1⟩ => ?_
    exact ⟨m1, h1, ds, R1, vsr, g1.quiet quiet_blt⟩
theorem blt_name {f : Str} {n : Nat} {b : Bl} (e : bltOf G f n = some b) : G.free.contains f = true ∧ ((b = .len ∧ f = "len" ∧ n = 1) ∨ (b = .abs ∧ f = "abs" ∧ n = 1) ∨ (b = .int ∧ f = "int" ∧ n = 1) ∨ (b = .bool ∧ f = "bool" ∧ n = 1) ∨ (b = .tuple ∧ f = "tuple" ∧ n = 1) ∨ (b = .list ∧ f = "list" ∧ n = 1) ∨ (b = .max2 ∧ f = "max" ∧ n = 2) ∨ (b = .min2 ∧ f = "min" ∧ n = 2)) := by
  unfold bltOf at e
  split at e
  · rename_i hf
    refine ⟨hf, ?_⟩
    repeat' split at e
    all_goals first | (cases e; rename_i q; obtain ⟨q1, q2⟩ := q; subst q1 q2; simp) | cases e
  · cases e
theorem pE_blt {f : Str} {p pos : Pos} {as : List Expr} {b : Bl} {xs : Es} (xk : Xk X T G Pr N sc fnB hot k) (hg : isGlob sc f = true) (hs : (as.all fun a => !isStar a) = true) (hf : bltOf G f as.length = some b)
    (pa : PA X as (tEs T X.K hot (Pg.ct Pr (calls Pr k)) W xs)) : PE X (.Call (.Name f p) as [] pos) (tE T X.K hot (Pg.ct Pr (calls Pr k)) W (.blt b xs)) := by
  obtain ⟨hfr, hc⟩ := blt_name hf
  have gl := isGlob_Gl xk hg
  have mgn := xk.pf.fr f hfr
  cases as with
  | nil => simp at hc
  | cons a as =>
    rw [List.all_cons, Bool.and_eq_true] at hs
    have s1 : ∀ env, starEach (a :: as) env = (false, eval a env) :: starEach as env := fun env => star_of (by simpa using hs.1)
    have s2 : ∀ (pos : Pos) (env : Env), (backTo pos (starEach as env)).any (·.1) = false := fun pos env => noStar_any hs.2
    rcases hc with ⟨rfl, rfl, _⟩ | ⟨rfl, rfl, _⟩ | ⟨rfl, rfl, _⟩ | ⟨rfl, rfl, _⟩ | ⟨rfl, rfl, _⟩ | ⟨rfl, rfl, _⟩ | ⟨rfl, rfl, _⟩ | ⟨rfl, rfl, _⟩
    · exact pE_blt1 (r := fun _ _ _ => True) xk call_bLen (fun hc ha => pe_callB hc gl mgn boot_len ha (he := s1 _) (hpl := s2 _ _)) pa
    · exact pE_blt1 (r := fun _ _ _ => True) xk call_bAbs (fun hc ha => pe_callB hc gl mgn (by decide +kernel) ha (he := s1 _) (hpl := s2 _ _)) pa
    · exact pE_blt1 (r := fun _ _ _ => True) xk call_bInt (fun hc ha => pe_callTy hc gl mgn (by decide +kernel) ha (he := s1 _) (hpl := s2 _ _)) pa
    · exact pE_blt1 (r := fun _ _ _ => True) xk call_bBool (fun hc ha => pe_callTy hc gl mgn (by decide +kernel) ha (he := s1 _) (hpl := s2 _ _)) pa
    · exact pE_blt1 (r := fun _ _ _ => True) xk call_bTuple (fun hc ha => pe_callTy hc gl mgn (by decide +kernel) ha (he := s1 _) (hpl := s2 _ _)) pa
    · exact pE_blt1 (r := fun _ _ _ => True) xk call_bList (fun hc ha => pe_callTy hc gl mgn (by decide +kernel) ha (he := s1 _) (hpl := s2 _ _)) pa
    · cases hh : hot with
      | some t =>
        subst hh
        refine ⟨fun pins s σ H Q I hh => ?_⟩
        obtain ⟨m, h, n, R, er, g⟩ := hh
        simp [ev, er.hotx] at g
        exact g.elim
      | none =>
        subst hh
        exact pE_blt1 (r := fun _ _ _ => True) xk (call_bMax (xk.calm rfl)) (fun hc ha => pe_callB hc gl mgn (by decide +kernel) ha (he := s1 _) (hpl := s2 _ _)) pa
    · cases hh : hot with
      | some t =>
        subst hh
        refine ⟨fun pins s σ H Q I hh => ?_⟩
        obtain ⟨m, h, n, R, er, g⟩ := hh
        simp [ev, er.hotx] at g
        exact g.elim
      | none =>
        subst hh
        exact pE_blt1 (r := fun _ _ _ => True) xk (call_bMin (xk.calm rfl)) (fun hc ha => pe_callB hc gl mgn (by decide +kernel) ha (he := s1 _) (hpl := s2 _ _)) pa

/-! ### isinstance -/
theorem Rel.tyX {K : PySem.W.Frag} {m : List Addr} {h : Hh} {H : Hp} {d : D} {v : V} (hcf : ∀ c, c ∈ T.cls → CF K (T.cad c)) (R : Rel T K m h H) (r : VR K m H d v) : (∃ t, TyX K H v (.type t) ∧ ((d = .non ∧ t = "NoneType") ∨ (∃ b, d = .bl b ∧ t = "bool") ∨ (∃ i, d = .int i ∧ t = "int") ∨ (∃ x, d = .str x ∧ t = "str") ∨ (∃ xs, d = .tup xs ∧ t = "tuple") ∨
    (∃ n xs, d = .loc n ∧ h[n]? = some (.lst xs) ∧ t = "list") ∨ (∃ n xs, d = .loc n ∧ h[n]? = some (.frl xs) ∧ t = "list") ∨ (∃ n xs, d = .loc n ∧ h[n]? = some (.dct xs) ∧ t = "dict"))) ∨ (∃ n c fs, d = .loc n ∧ h[n]? = some (.ins c fs) ∧ c ∈ T.cls ∧ TyX K H v (.ref (T.cad c))) := by
  cases r with
  | non => exact .inl ⟨"NoneType", .base .non, .inl ⟨rfl, rfl⟩⟩
  | bl b => exact .inl ⟨"bool", .base (.bl b), .inr (.inl ⟨b, rfl, rfl⟩)⟩
  | int i => exact .inl ⟨"int", .base (.int i), .inr (.inr (.inl ⟨i, rfl, rfl⟩))⟩
  | str x => exact .inl ⟨"str", .base (.str x), .inr (.inr (.inr (.inl ⟨x, rfl, rfl⟩)))⟩
  | tup s q _ =>
    refine .inl ⟨"tuple", ?_, .inr (.inr (.inr (.inr (.inl ⟨_, rfl, rfl⟩))))⟩
    rcases s with (s | ⟨o, s⟩) | ⟨o, its, n, e, c, _⟩
    · exact .base (.tup s)
    · exact .fTuple s
    · exact .kTuple e c
  | @loc n a e =>
    obtain ⟨o, ho⟩ := R.at e
    obtain ⟨u, eu, q⟩ := R.of e ho
    cases q with
    | lst q _ => exact .inl ⟨"list", .base (.lst eu), .inr (.inr (.inr (.inr (.inr (.inl ⟨n, _, rfl, ho, rfl⟩)))))⟩
    | frl q _ => exact .inl ⟨"list", .base (.frz eu), .inr (.inr (.inr (.inr (.inr (.inr (.inl ⟨n, _, rfl, ho, rfl⟩))))))⟩
    | dct q => exact .inl ⟨"dict", .base (.dK eu), .inr (.inr (.inr (.inr (.inr (.inr (.inr ⟨n, _, rfl, ho, rfl⟩))))))⟩
    | ins hc q =>
      have cf := hcf _ hc
      exact .inr ⟨n, _, _, rfl, ho, hc, .base (.ins eu cf.cl cf.ha cf.hn cf.htk cf.hm)⟩
/-- the class that a name means -/
def tyV' (T : Tb) : Ty → V
  | .int => .ty "int"
  | .str => .ty "str"
  | .bool => .ty "bool"
  | .tuple => .ty "tuple"
  | .list => .ty "list"
  | .dict => .ty "dict"
  | .verr => .ty "ValueError"
  | .own c => .ref (T.cad c)
theorem pE_cls {t : Str} {p : Pos} {ty : Ty} (xk : Xk X T G Pr N sc fnB hot k) (ok : okName t = true) (hg : isGlob sc t = true) (e : tyOf G t = some ty) : PE X (.Name t p) (tC (tyV' T ty)) := by
  have gl := isGlob_Gl xk hg
  unfold tyOf at e
  split at e
  · rename_i hf
    have mgn := xk.pf.fr t hf
    repeat' split at e
    all_goals first
      | (cases e; rename_i q; subst q; exact pe_bltn gl mgn (by decide +kernel) rfl)
      | cases e
  · split at e
    · rename_i c q
      cases e
      exact pe_glob gl (xk.pf.cl t c q).1 rfl (okName_d ok)
    · split at e
      · rename_i c q
        cases e
        exact pe_glob gl (xk.pf.xc t c q) rfl (okName_d ok)
      · cases e
def tyU (T : Tb) : Ty → Value
  | .int => .type "int"
  | .str => .type "str"
  | .bool => .type "bool"
  | .tuple => .type "tuple"
  | .list => .type "list"
  | .dict => .type "dict"
  | .verr => .type "ValueError"
  | .own c => .ref (T.cad c)
theorem tyU_cls (ty : Ty) : ClsV (tyV' T ty) (tyU T ty) := by
  cases ty <;> first | exact .ty _ | exact .own _
theorem isTy_kit {t : Str} {ty : Ty} {m : List Addr} {h : Hh} {H : Hp} {d : D} {v : V} {b : Bool} {C : Ct} (pf : Pf X.prog X.w X.K X.mg X.base T G Pr k) (et : tyOf G t = some ty) (R : Rel T X.K m h H) (r : VR X.K m H d v) (e : isTy C h d ty = some b) :
    ∃ u, TyX X.K H v u ∧ PySem.W.kitOne X.K u (tyU T ty) = some b := by
  rcases R.tyX pf.cf r with ⟨tn, tx, q⟩ | ⟨n, c, fs, rfl, ho, cf, tx⟩
  · refine ⟨_, tx, ?_⟩
    have own : ∀ c, ty = .own c → tn ∈ ["NoneType", "bool", "int", "str", "tuple", "list", "dict"] → PySem.W.kitOne X.K (.type tn) (.ref (T.cad c)) = some false := fun c ec hm => pf.isB t c tn (by rw [et, ec]) hm
    rcases q with ⟨rfl, rfl⟩ | ⟨_, rfl, rfl⟩ | ⟨_, rfl, rfl⟩ | ⟨_, rfl, rfl⟩ | ⟨_, rfl, rfl⟩ | ⟨n, xs, rfl, ho, rfl⟩ | ⟨n, xs, rfl, ho, rfl⟩ | ⟨n, xs, rfl, ho, rfl⟩
    case inr.inr.inr.inr.inr.inr.inl =>
      exfalso
      simp only [isTy, ho] at e
      cases ty <;> cases e
    all_goals (cases ty)
    all_goals first
      | (simp only [isTy, ho] at e; cases e; first | exact kit_ty (by decide +kernel) | exact own _ rfl (by simp))
      | (simp only [isTy] at e; cases e; first | exact kit_ty (by decide +kernel) | exact own _ rfl (by simp))
  · refine ⟨_, tx, ?_⟩
    cases ty
    case own j =>
      simp only [isTy, ho] at e
      cases e
      exact pf.isO t j c et cf
    case verr =>
      simp only [isTy, ho] at e
      cases e
    all_goals (simp only [isTy, ho] at e; cases e; exact pf.isT _ c (by simp) cf)
theorem pE_isi {a : Expr} {t : Str} {p p2 pos : Pos} {ty : Ty} {x : E} (xk : Xk X T G Pr N sc fnB hot k) (hg : isGlob sc ("isinstance" : Str) = true) (hf : G.free.contains ("isinstance" : Str) = true) (ok : okName t = true) (hgt : isGlob sc t = true) (et : tyOf G t = some ty) (hs : isStar a = false)
    (pa : PE X a (tE T X.K hot (Pg.ct Pr (calls Pr k)) W x)) : PE X (.Call (.Name "isinstance" p) [a, .Name t p2] [] pos) (tE T X.K hot (Pg.ct Pr (calls Pr k)) W (.isi x [ty])) := by
  have s1 : ∀ env, starEach [a, .Name t p2] env = (false, eval a env) :: starEach [.Name t p2] env := fun env => star_of hs
  refine PE.imp (pe_callB call_isi (isGlob_Gl xk hg) (xk.pf.fr _ hf) (by decide +kernel) (pa_cons pa (pa_cons (pE_cls xk ok hgt et) pa_nil) (s1 _)) (he := s1 _)) fun σ H Q hh => ?_
  obtain ⟨m, h, n, R, er, g⟩ := hh
  simp only [ev] at g
  refine tE.mono (seqE R er g) fun v H1 ⟨m1, h1, d, E1, R1, er1, vr, g1⟩ => ?_
  unfold PM.R.opt at g1
  cases q : isTy (Pg.ct Pr (calls Pr k)) h1 d ty with
  | none => rw [q] at g1; exact g1.elim
  | some b =>
    rw [q] at g1
    obtain ⟨u, tx, ki⟩ := isTy_kit xk.pf et R1 vr q
    have z : wV X.K Q (.bl b) m1 h1 H1 := Gd.ok (h := h1) (a := D.bl b) g1 R1
    exact ⟨v, _, u, _, b, rfl, tyU_cls ty, tx, ki, z _ (.bl _)⟩

/-! ### methods of lists -/
theorem mt_app : MtM X "list.append" (fun x xs H Q => ∃ m h d ds, Rel T X.K m h H ∧ VR X.K m H d x ∧ VRs X.K m H ds xs ∧ Gd T X.K (mAppend d ds h) m H (wV X.K Q) noX) := by
  intro pins s σ H x xs v us Q I rx rxs hh
  obtain ⟨m, h, d, ds, R, vx, vr, g⟩ := hh
  unfold mAppend at g
  split at g
  · split at g
    · rename_i e1
      split at g
      · rename_i hz
        obtain ⟨a, vs, rfl, ea, sa, ra⟩ := vx.lst_of R e1
        obtain ⟨w, rfl, wr⟩ := vr.one_of
        refine mt_append pins s σ H _ _ v us Q I rx rxs ⟨a, vs, w, rfl, rfl, sa, by rw [← ra.length]; exact hz, ?_⟩
        have E := Ext.put (o := .lst (vs ++ [w])) R ea
        exact g.at E (R.put ea (.lst ((ra.append (.cons wr .nil)).mono E) (by rw [List.length_append]; exact hz))) _ .non
      · exact g.elim
    · exact g.elim
  · exact g.elim
theorem spl_one {c : Nat} : ∀ {l acc : List Nat}, TL.spl [c] 0 acc l = splitL c acc l
  | [], acc => by rw [TL.spl_nil]; rfl
  | x :: r, acc => by
    by_cases hx : x = c
    · subst hx
      rw [TL.spl_hit (by simp [TL.pre])]
      show acc :: TL.spl [x] 0 [] r = _
      rw [spl_one]
      simp [splitL]
    · rw [TL.spl_miss (by simp [TL.pre]; exact fun h => hx h), spl_one]
      simp [splitL, hx]
theorem txt_split {a : Str} {c : Nat} (hc : c < 256) : Txt.split a ⟨#[c]⟩ = (splitL c [] a.cps.toList).map fun p => (⟨p.toArray⟩ : Str) := by
  have e := SX.split_S (a := a.cps.toList) (b := [c]) (by simp) (by simpa using hc)
  rw [SX.S_tl, spl_one] at e
  exact e
theorem join_same (s : List Nat) : ∀ ys : List (List Nat), TL.joinL s ys = PM.joinL s ys
  | [] => rfl
  | [_] => rfl
  | p :: q :: r => by
    show p ++ (s ++ TL.joinL s (q :: r)) = p ++ (s ++ PM.joinL s (q :: r))
    rw [join_same s (q :: r)]
theorem txt_join (a : Str) (ys : List (List Nat)) : Txt.join a (ys.map fun p => (⟨p.toArray⟩ : Str)) = ⟨(PM.joinL a.cps.toList ys).toArray⟩ := by
  have e := SX.join_S a.cps.toList ys
  rw [SX.S_tl, join_same] at e
  exact e
theorem txt_ends (a : Str) (c : Nat) : Txt.endswith a ⟨#[c]⟩ = decide (a.cps.toList.getLast? = some c) := by
  have e := PySem.StrLaws.subAt_one a c (a.length - 1)
  have hl : (⟨#[c]⟩ : Str).length = 1 := rfl
  have ha : a.cps.toList.length = a.length := by simp [Str.length]
  rw [List.getLast?_eq_getElem?, ha]
  unfold Txt.endswith
  rw [hl] at e ⊢
  by_cases h0 : a.length = 0
  · have : ¬ (0 + 1 ≤ a.length) := by omega
    have n1 : a.cps.toList[a.length - 1]? = none := by
      rw [List.getElem?_eq_none_iff]; omega
    simp [this, n1]
  · have h1 : 0 + 1 ≤ a.length := by omega
    have h2 : a.length - 1 + 1 ≤ a.length := by omega
    rw [decide_eq_true h1, Bool.true_and]
    by_cases q : a.cps.toList[a.length - 1]? = some c
    · rw [decide_eq_true q]; exact (e.mpr q).2
    · rw [decide_eq_false q]
      cases z : Builtin.Str.subAt a ⟨#[c]⟩ (a.length - 1)
      · rfl
      · exact absurd (e.mp ⟨h2, z⟩) q
theorem strs_of {K : PySem.W.Frag} {m : List Addr} {H : Hp} : ∀ {ds : List D} {vs : List V} {ys : List (List Nat)}, VRs K m H ds vs → strsOf ds = some ys → vs = (ys.map fun p => (⟨p.toArray⟩ : Str)).map V.str
  | _, _, _, .nil, e => by cases e; rfl
  | d :: ds, _, ys, .cons r t, e => by
    cases r with
    | str x =>
      simp only [strsOf, Option.map_eq_some_iff] at e
      obtain ⟨zs, e1, rfl⟩ := e
      rw [strs_of t e1]
      simp
    | _ => simp [strsOf] at e
theorem lens_of : ∀ ys : List (List Nat), ((ys.map fun p => (⟨p.toArray⟩ : Str)).map (·.length)).sum = lenSum ys
  | [] => rfl
  | y :: ys => by
    simp only [List.map_cons, List.sum_cons, lenSum, lens_of ys]
    rfl
theorem VRs.strs {K : PySem.W.Frag} {m : List Addr} {H : Hp} : ∀ {ps : List (List Nat)}, VRs K m H (ps.map fun p => .str ⟨p.toArray⟩) ((ps.map fun p => (⟨p.toArray⟩ : Str)).map V.str)
  | [] => .nil
  | _ :: _ => .cons (.str _) VRs.strs
theorem splitL_len {c : Nat} : ∀ {l acc : List Nat}, (splitL c acc l).length ≤ l.length + 1
  | [], acc => by simp [splitL]
  | x :: r, acc => by
    by_cases hx : x = c
    · simp only [splitL, if_pos hx, List.length_cons]
      have := splitL_len (c := c) (l := r) (acc := [])
      omega
    · simp only [splitL, if_neg hx, List.length_cons]
      have := splitL_len (c := c) (l := r) (acc := acc ++ [x])
      omega
theorem mt_txt {b : Bm} {id : String} (hb : (b = .split ∧ id = "str.split") ∨ (b = .join ∧ id = "str.join") ∨ (b = .endswith ∧ id = "str.endswith")) : MtR X id (fun x xs H Q => ∃ m h d ds, Rel T X.K m h H ∧ VR X.K m H d x ∧ VRs X.K m H ds xs ∧ Gd T X.K (bmt b d ds h) m H (wV X.K Q) noX) := by
  intro pins s σ H x xs v us Q I rx rxs hh
  obtain ⟨m, h, d, ds, R, vx, vr, g⟩ := hh
  rcases hb with ⟨rfl, rfl⟩ | ⟨rfl, rfl⟩ | ⟨rfl, rfl⟩
  · simp only [bmt] at g
    unfold mSplit at g
    split at g
    · split at g
      · rename_i c hc
        split at g
        · rename_i hz
          cases vx
          obtain ⟨w, rfl, wr⟩ := vr.one_of
          cases wr
          have e1 := one_sign hc
          subst e1
          refine mt_split pins s σ H _ _ v us Q I rx rxs ⟨_, _, rfl, rfl, rfl, hz.1, fun p hp => ?_⟩
          rw [txt_split hz.2]
          rename_i a0 _
          have E := Ext.new (o := .lst (((splitL c [] a0.cps.toList).map fun p => (⟨p.toArray⟩ : Str)).map V.str)) R hp
          refine g.at E (R.new hp (.lst VRs.strs ?_)) _ (.loc R.last)
          rw [List.length_map]
          refine Nat.le_trans splitL_len ?_
          have := hz.1
          simp only [Str.length] at this
          simp only [Array.length_toList]
          omega
        · exact g.elim
      · exact g.elim
    · exact g.elim
  · simp only [bmt] at g
    unfold mJoin at g
    split at g
    · split at g
      · rename_i ys hy
        split at g
        · rename_i hz
          cases vx
          obtain ⟨w, rfl, wr⟩ := vr.one_of
          obtain ⟨a, vs, rfl, sa, ra⟩ := wr.tup_of
          have ev' := strs_of ra hy
          subst ev'
          refine mt_join pins s σ H _ _ v us Q I rx rxs ⟨_, a, _, rfl, rfl, .inr sa, by rw [lens_of, List.length_map]; exact hz, ?_⟩
          rw [txt_join]
          exact g.ok R _ (.str _)
        · exact g.elim
      · exact g.elim
    · split at g
      · rename_i e1
        split at g
        · rename_i ys hy
          split at g
          · rename_i hz
            cases vx
            obtain ⟨w, rfl, wr⟩ := vr.one_of
            obtain ⟨a, vs, rfl, ea, sa, ra⟩ := wr.seq_of R (.inl e1)
            have ev' := strs_of ra hy
            subst ev'
            refine mt_join pins s σ H _ _ v us Q I rx rxs ⟨_, a, _, rfl, rfl, .inl sa, by rw [lens_of, List.length_map]; exact hz, ?_⟩
            rw [txt_join]
            exact g.ok R _ (.str _)
          · exact g.elim
        · exact g.elim
      · exact g.elim
    · exact g.elim
  · simp only [bmt] at g
    unfold mEnds at g
    split at g
    · split at g
      · rename_i c hc
        cases vx
        obtain ⟨w, rfl, wr⟩ := vr.one_of
        cases wr
        have e1 := one_sign hc
        subst e1
        refine mt_endswith pins s σ H _ _ v us Q I rx rxs ⟨_, _, rfl, rfl, ?_⟩
        rw [txt_ends]
        exact g.ok R _ (.bl _)
      · exact g.elim
    · exact g.elim
theorem base_of {o : Expr} {name : Str} {env : Env} (h : okBase o = true) : attributeBase o name env (eval o env) = eval o env := by
  unfold attributeBase
  cases o <;> first
    | rfl
    | (rename_i f as ks pos
       cases f <;> first
         | rfl
         | (cases as <;> first
             | rfl
             | (cases ks <;> first | rfl | (simp [okBase] at h))))
theorem list_ty {m : List Addr} {h : Hh} {H : Hp} {n : Nat} {xs : List D} {v : V} (R : Rel T X.K m h H) (r : VR X.K m H (.loc n) v) (e : h[n]? = some (.lst xs)) : tyV X.K "list" v H := by
  obtain ⟨a, vs, rfl, ea, sa, ra⟩ := r.lst_of R e
  exact .inl ⟨rfl, _, SqL.of sa⟩
theorem bmt_name {m : Str} {n : Nat} {b : Bm} (e : bmtOf m n = some b) : n = 1 ∧ ((b = .append ∧ m = "append") ∨ (b = .split ∧ m = "split") ∨ (b = .join ∧ m = "join") ∨ (b = .endswith ∧ m = "endswith")) := by
  unfold bmtOf at e
  repeat' split at e
  all_goals first | (cases e; rename_i q; obtain ⟨q1, q2⟩ := q; subst q1 q2; simp) | cases e
/-- what a method asks of its object -/
theorem bm_ty {b : Bm} {m : List Addr} {h : Hh} {H : Hp} {d : D} {v : V} (R : Rel T X.K m h H) (r : VR X.K m H d v) (e : bmOk b d h = true) : tyV X.K (if b = .append then "list" else "str") v H := by
  unfold bmOk at e
  split at e
  · split at e
    · rename_i e1
      exact list_ty R r e1
    · cases e
  · cases r; rfl
  · cases r; rfl
  · cases r; rfl
  · cases e
theorem pE_bmt {o : Expr} {m : Str} {apos pos : Pos} {as : List Expr} {b : Bm} {x : E} {xs : Es} (ho : okBase o = true) (hs : (as.all fun a => !isStar a) = true) (hlen : as.length < 29) (hline : (apos.endLine == pos.line) = true) (hb : bmtOf m as.length = some b)
    (po : PE X o (tE T X.K hot (Pg.ct Pr (calls Pr k)) W x)) (pa : PA X as (tEs T X.K hot (Pg.ct Pr (calls Pr k)) W xs)) : PE X (.Call (.Attribute o m apos) as [] pos) (tE T X.K hot (Pg.ct Pr (calls Pr k)) W (.bmt b x xs)) := by
  obtain ⟨q2, hc⟩ := bmt_name hb
  cases as with
  | nil => simp at q2
  | cons a as =>
    have hs0 := hs
    rw [List.all_cons, Bool.and_eq_true] at hs
    have s1 : ∀ env, starEach (a :: as) env = (false, eval a env) :: starEach as env := fun env => star_of (by simpa using hs.1)
    have few : ((backTo pos (starEach (a :: as) X.env)).all (fun x => !x.1) && (backToKw pos (keywordEach [] X.env)).all (fun x => x.1.isSome) && decide ((a :: as).length + ([] : List Keyword).length + (if ([] : List Keyword).isEmpty then 0 else 1) < 30)) = true := by
      rw [noStar_all hs0]
      show (true && true && decide ((a :: as).length + 0 + 0 < 30)) = true
      simp only [Bool.and_self, Bool.true_and, decide_eq_true_eq]
      omega
    have fin : ∀ (ty : String), ty = (if b = .append then "list" else "str") → ∀ σ H Q, tE T X.K hot (Pg.ct Pr (calls Pr k)) W (.bmt b x xs) σ H Q → tBM X.K ty (fun x xs H Q => ∃ m h d ds, Rel T X.K m h H ∧ VR X.K m H d x ∧ VRs X.K m H ds xs ∧ Gd T X.K (bmt b d ds h) m H (wV X.K Q) noX) (tE T X.K hot (Pg.ct Pr (calls Pr k)) W x) (tEs T X.K hot (Pg.ct Pr (calls Pr k)) W xs) σ H Q := fun ty hty σ H Q hh => by
      obtain ⟨m, h, n, R, er, g⟩ := hh
      simp only [ev] at g
      split at g
      · exact g.elim
      · refine tE.mono (seqE R er g) fun v H1 ⟨m1, h1, d, E1, R1, er1, vr, g1⟩ => ?_
        split at g1
        · rename_i hk
          refine ⟨by rw [hty]; exact bm_ty R1 vr hk, tEs.mono (seqEs R1 er1 g1) fun vs H2 ⟨m2, h2, ds, E2, R2, er2, vsr, g2⟩ => ⟨m2, h2, _, ds, R2, vr.mono E2, vsr, g2.quiet (quiet_bmt (m := b))⟩⟩
        · exact g1.elim
    rcases hc with ⟨rfl, rfl⟩ | ⟨rfl, rfl⟩ | ⟨rfl, rfl⟩ | ⟨rfl, rfl⟩
    · exact PE.imp (pe_bm PySem.F.plainAttrs_list PySem.F.slot_list_append PySem.F.type_list_append (mt_app (T := T)) po pa (base_of ho) few hline (s1 _) (noStar_any hs.2)) (fin _ rfl)
    · exact PE.imp (pe_bm PySem.F.plainAttrs_str PySem.F.slot_str_split PySem.F.type_str_split (mt_txt (T := T) (.inl ⟨rfl, rfl⟩)) po pa (base_of ho) few hline (s1 _) (noStar_any hs.2)) (fin _ rfl)
    · exact PE.imp (pe_bm PySem.F.plainAttrs_str PySem.F.slot_str_join PySem.F.type_str_join (mt_txt (T := T) (.inr (.inl ⟨rfl, rfl⟩))) po pa (base_of ho) few hline (s1 _) (noStar_any hs.2)) (fin _ rfl)
    · exact PE.imp (pe_bm PySem.F.plainAttrs_str PySem.F.slot_str_endswith PySem.F.type_str_endswith (mt_txt (T := T) (.inr (.inr ⟨rfl, rfl⟩))) po pa (base_of ho) few hline (s1 _) (noStar_any hs.2)) (fin _ rfl)
/-- o.m(..) -/
theorem pE_mth {o : Expr} {m : Str} {apos pos : Pos} {as : List Expr} {i : Nat} {x : E} {xs : Es} (xk : Xk X T G Pr N sc fnB hot k) (tk : Takes X W) (ho : okBase o = true) (hs : (as.all fun a => !isStar a) = true) (hnil : as = [] → xs = .nil) (hlen : as.length < 29) (hline : (apos.endLine == pos.line) = true) (hb : G.mt.lookup m = some i)
    (po : PE X o (tE T X.K hot (Pg.ct Pr (calls Pr k)) W x)) (pa : PA X as (tEs T X.K hot (Pg.ct Pr (calls Pr k)) W xs)) : PE X (.Call (.Attribute o m apos) as [] pos) (tE T X.K hot (Pg.ct Pr (calls Pr k)) W (.mth i x xs)) := by
  have few : methodCallForm (as.length + ([] : List Keyword).length) (backTo pos (starEach as X.env)) (backToKw pos (keywordEach [] X.env)) = true := by
    unfold methodCallForm
    rw [noStar_all hs]
    show (true && true && decide (as.length + 0 + 0 < 30)) = true
    simp only [Bool.and_self, Bool.true_and, decide_eq_true_eq]
    omega
  have ht : eval (.Call (.Attribute o m apos) as [] pos) X.env = (do
      let ov ← eval o X.env
      standAt apos.atName
      let (f, first) ← holding [ov] (getMethod ov m (do return (← importBound o X.env).getD true))
      callWith pos f first (backTo pos (starEach as X.env)) (backToKw pos (keywordEach [] X.env))) := by
    have e1 : eval (.Call (.Attribute o m apos) as [] pos) X.env = (do
      let ov ← attributeBase o m X.env (eval o X.env)
      standAt apos.atName
      methodCall o m apos pos X.env ov (as.length + ([] : List Keyword).length) (backTo pos (starEach as X.env)) (backToKw pos (keywordEach [] X.env))) := by rw [eval]
    rw [e1, base_of ho]
    have e2 : methodCallPos true o X.env apos pos = pure pos := by
      unfold methodCallPos
      rw [hline]
      rfl
    unfold methodCall
    rw [few, e2]
    simp only [pure_bind, calleeOf, if_true]
  cases hh : hot with
  | some t =>
    subst hh
    refine ⟨fun pins s σ H Q I hh => ?_⟩
    obtain ⟨m, h, n, R, er, g⟩ := hh
    simp only [ev, er.hotx] at g
    exact g.elim
  | none =>
    subst hh
    refine ⟨fun pins s σ H Q I hh => ?_⟩
    obtain ⟨mm, h, n, R, er, g⟩ := hh
    simp only [ev, er.cool] at g
    refine PySem.W.methodCall_KW (thn (po.run pins s σ H _ I (seqE R er g)) fun u s1 hu => ?_) ht
    obtain ⟨v, H1, I1, rv, m1, h1, d, E1, R1, er1, vr, g1⟩ := hu
    cases q : mthF (Pg.ct Pr (calls Pr k)) i d h1 with
    | none => rw [q] at g1; exact g1.elim
    | some j =>
      rw [q] at g1
      unfold mthF at q
      split at q
      · split at q
        · rename_i nn c fs e1
          obtain ⟨a, dx, gs, rfl, ea, ha, fa, ca⟩ := vr.ins_of R1 e1
          obtain rfl : u = Value.ref a := rv
          obtain ⟨nf, fadr, me, ff⟩ := xk.pf.mt _ _ _ _ q hb
          obtain ⟨fd, ps, bi, F⟩ := ff.ok
          have lk : gs.lookup m = none := by
            clear g1 e1 ha
            induction fa with
            | nil => rfl
            | @cons f d v fs gs r rs ih =>
              have q2 : (m == T.fld f) = false := beq_eq_false_iff_ne.mpr fun z => nf f z.symm
              simp only [List.lookup, q2]
              exact ih
          refine getmeth_ok I1 ha (xk.pf.cf _ ca).cl me lk ?_
          cases as with
          | nil =>
            rw [hnil rfl] at g1
            simp only [evs] at g1
            exact PySem.W.callWith_K0 (first := [.ref a]) I1.kIn me.kp (run_fnS (E := fun σ c d H' => W c d σ H') (us := [.ref a]) (vs := [.ref a]) F ((xk.room rfl).mono (Nat.le_succ _)) bi (passAt tk σ) I1 (.cons rfl .nil) ⟨m1, h1, _, R1, .cons vr .nil, g1⟩)
          | cons a' as =>
            rw [List.all_cons, Bool.and_eq_true] at hs
            refine PySem.W.callWith_K (first := [.ref a]) (h₀ := X.base) I.ok.mod.kin me.kp (thn (pa.run pos pins s1 σ H1 _ I1 (seqEs R1 er1 g1)) fun us s2 hu => ?_) (star_of (by simpa using hs.1)) (noStar_any hs.2)
            obtain ⟨vs, H2, I2, r, m2, h2, ds, E2, R2, er2, vsr, g2⟩ := hu
            exact ⟨I2.kIn, run_fnS (E := fun σ c d H' => W c d σ H') (us := .ref a :: us) (vs := .ref a :: vs) F ((xk.room rfl).mono (Nat.le_succ _)) bi (passAt tk σ) I2 (.cons rfl r) ⟨m2, h2, _, R2, .cons (vr.mono E2) vsr, g2⟩⟩
        · cases q
      · cases q
end
end PM
set_option Elab.async false
set_option linter.all false
set_option maxRecDepth 100000
set_option maxHeartbeats 4000000
/-! PM8: fields, subscripts, comprehensions. -/
namespace PM
open PySem PySem.Spec PyProof.Rows L2
section
variable {X : Cx} {T : Tb} {G : Gt} {Pr : Pg} {N : List Str} {sc : Scope} {fnB : Str → Bool} {hot : Option Hot} {k : Nat} {W : WX}
theorem pE_att {o : Expr} {f : Str} {pos : Pos} {i : Nat} {x : E} (xk : Xk X T G Pr N sc fnB hot k) (ho : okBase o = true) (hf : G.fl.lookup f = some i) (po : PE X o (tE T X.K hot (Pg.ct Pr (calls Pr k)) W x)) :
    PE X (.Attribute o f pos) (tE T X.K hot (Pg.ct Pr (calls Pr k)) W (.att x i)) := by
  refine PE.imp (pe_fld po (base_of ho)) fun σ H Q hh => ?_
  obtain ⟨m, h, n, R, er, g⟩ := hh
  simp only [ev] at g
  refine tE.mono (seqE R er g) fun v H1 ⟨m1, h1, d, E1, R1, er1, vr, g1⟩ => ?_
  unfold attop at g1
  split at g1
  · split at g1
    · rename_i c fs e1
      split at g1
      · rename_i hok
        split at g1
        · rename_i d' e2
          obtain ⟨a, dx, gs, rfl, ea, ha, fa, ca⟩ := vr.ins_of R1 e1
          obtain ⟨w, e3, wr⟩ := fa.look e2
          have na := xk.pf.fok _ _ hok
          rw [xk.pf.fl f i hf] at e3 na
          exact ⟨a, _, dx, gs, w, rfl, ha, (xk.pf.cf _ ca).cl, na, e3, Gd.ok (h := h1) g1 R1 _ wr⟩
        · exact g1.elim
      · exact g1.elim
    · exact g1.elim
  · exact g1.elim
theorem pE_sub {a i : Expr} {pos : Pos} {x y : E} (xk : Xk X T G Pr N sc fnB hot k) (hp : PlainIx i) (pa : PE X a (tE T X.K hot (Pg.ct Pr (calls Pr k)) W x)) (pi : PE X i (tE T X.K hot (Pg.ct Pr (calls Pr k)) W y)) : PE X (.Subscript a i pos) (tE T X.K hot (Pg.ct Pr (calls Pr k)) W (.sub x y)) := by
  refine PE.imp (pe_ix (ix_sub (T := T) xk.units) pa pi hp) fun σ H Q hh => ?_
  obtain ⟨m, h, n, R, er, g⟩ := hh
  simp only [ev] at g
  refine tE.mono (seqE R er g) fun v H1 ⟨m1, h1, d, E1, R1, er1, vr, g1⟩ => ?_
  refine tE.mono (seqE R1 er1 g1) fun u H2 ⟨m2, h2, e, E2, R2, er2, ur, g2⟩ => ?_
  exact ⟨m2, h2, d, e, R2, vr.mono E2, ur, g2.quiet quiet_sub⟩
theorem pE_shi {a i : Expr} {p2 pos : Pos} {x y : E} (pa : PE X a (tE T X.K hot (Pg.ct Pr (calls Pr k)) W x)) (pi : PE X i (tE T X.K hot (Pg.ct Pr (calls Pr k)) W y)) : PE X (.Subscript a (.Slice none (some i) none p2) pos) (tE T X.K hot (Pg.ct Pr (calls Pr k)) W (.shi x y)) := by
  refine PE.imp (pe_slice (sl_cut (T := T)) pa po_none (po_some pi)) fun σ H Q hh => ?_
  obtain ⟨m, h, n, R, er, g⟩ := hh
  simp only [ev] at g
  refine tE.mono (seqE R er g) fun v H1 ⟨m1, h1, d, E1, R1, er1, vr, g1⟩ => ?_
  refine tE.mono (seqE R1 er1 g1) fun u H2 ⟨m2, h2, e, E2, R2, er2, ur, g2⟩ => ?_
  unfold intOf at g2
  split at g2
  · cases ur
    exact ⟨_, rfl, m2, h2, d, R2, vr.mono E2, g2.quiet quiet_slc⟩
  · exact g2.elim
theorem pE_slo {a i : Expr} {p2 pos : Pos} {x y : E} (pa : PE X a (tE T X.K hot (Pg.ct Pr (calls Pr k)) W x)) (pi : PE X i (tE T X.K hot (Pg.ct Pr (calls Pr k)) W y)) : PE X (.Subscript a (.Slice (some i) none none p2) pos) (tE T X.K hot (Pg.ct Pr (calls Pr k)) W (.slo x y)) := by
  refine PE.imp (pe_slice (sl_cut (T := T)) pa (po_some pi) po_none) fun σ H Q hh => ?_
  obtain ⟨m, h, n, R, er, g⟩ := hh
  simp only [ev] at g
  refine tE.mono (seqE R er g) fun v H1 ⟨m1, h1, d, E1, R1, er1, vr, g1⟩ => ?_
  refine tE.mono (seqE R1 er1 g1) fun u H2 ⟨m2, h2, e, E2, R2, er2, ur, g2⟩ => ?_
  unfold intOf at g2
  split at g2
  · cases ur
    exact ⟨_, rfl, m2, h2, d, R2, vr.mono E2, g2.quiet quiet_slc⟩
  · exact g2.elim
theorem pE_slh {a i j : Expr} {p2 pos : Pos} {x y z : E} (pa : PE X a (tE T X.K hot (Pg.ct Pr (calls Pr k)) W x)) (pi : PE X i (tE T X.K hot (Pg.ct Pr (calls Pr k)) W y)) (pj : PE X j (tE T X.K hot (Pg.ct Pr (calls Pr k)) W z)) : PE X (.Subscript a (.Slice (some i) (some j) none p2) pos) (tE T X.K hot (Pg.ct Pr (calls Pr k)) W (.slh x y z)) := by
  refine PE.imp (pe_slice (sl_cut (T := T)) pa (po_some pi) (po_some pj)) fun σ H Q hh => ?_
  obtain ⟨m, h, n, R, er, g⟩ := hh
  simp only [ev] at g
  refine tE.mono (seqE R er g) fun v H1 ⟨m1, h1, d, E1, R1, er1, vr, g1⟩ => ?_
  refine tE.mono (seqE R1 er1 g1) fun u H2 ⟨m2, h2, e, E2, R2, er2, ur, g2⟩ => ?_
  unfold intOf at g2
  split at g2
  · cases ur
    refine ⟨_, rfl, tE.mono (seqE R2 er2 g2) fun w H3 ⟨m3, h3, q, E3, R3, er3, wr, g3⟩ => ?_⟩
    dsimp only [PM.R.bind] at g3
    cases q with
    | int l =>
      cases wr
      exact ⟨_, rfl, m3, h3, d, R3, (vr.mono E2).mono E3, g3.quiet quiet_slc⟩
    | non => exact g3.elim
    | bl _ => exact g3.elim
    | str _ => exact g3.elim
    | tup _ => exact g3.elim
    | loc _ => exact g3.elim
  · exact g2.elim

/-! ### the exception at hand -/
theorem pE_exv {x : Str} {p : Pos} {i : Nat} {t : Hot} (xk : Xk X T G Pr N sc fnB (some t) k) (ok : okName x = true) (hv : Vis sc x) (hi : N.idxOf? x = some i) : PE X (.Name x p) (tVar i) := by
  have hN : X.N[i]? = some x := by
    rw [xk.hN]
    obtain ⟨h1, h2⟩ := List.idxOf?_eq_some_iff.mp hi
    rw [List.getElem?_eq_getElem h1]
    simpa using h2.1
  have hcd : (x == ("__classdict__" : Str)) = false := by
    unfold okName at ok
    simp only [Bool.and_eq_true, Bool.not_eq_true'] at ok
    exact ok.1.2
  exact pe_var hN (by rw [xk.hsc]; exact hv) (okName_d ok) hcd
theorem ER.hot_at {K : PySem.W.Frag} {m : List Addr} {H : Hp} {n : En} {σ : L2.St} {t : Hot} {q : Xc} {i : Nat} (er : ER T K (some t) m H n σ) (hx : n.x = some q) (hi : q.i = some i) : XR T K m H q.c q.fs t.cls t.d ∧ σ[i]? = some (some (.ref t.a)) := by
  have z := er.ht
  unfold HotOk at z
  rw [hx] at z
  exact ⟨z.1, z.2.2 i (by rw [← z.2.1]; exact hi)⟩
theorem pE_exa {x f : Str} {p pos : Pos} {i j : Nat} {t : Hot} (xk : Xk X T G Pr N sc fnB (some t) k) (ok : okName x = true) (hv : Vis sc x) (hi : N.idxOf? x = some i) (hf : G.fl.lookup f = some j) : PE X (.Attribute (.Name x p) f pos) (tE T X.K (some t) (Pg.ct Pr (calls Pr k)) W (.exa i j)) := by
  obtain ⟨X0, oe, pn, rfl, hz, hd⟩ := xk.hx t rfl
  refine ⟨fun pins s σ H Q I hh => ?_⟩
  obtain ⟨m, h, n, R, er, g⟩ := hh
  simp only [ev] at g
  cases hx : n.x with
  | none => rw [hx] at g; exact g.elim
  | some q =>
    rw [hx] at g
    dsimp only at g
    split at g
    · rename_i hq
      split at g
      · rename_i hok
        obtain ⟨xr, hs⟩ := er.hot_at hx hq
        obtain ⟨ec, hm, xd⟩ := xr
        have F := xk.pf.xf _ hm
        have na := xk.pf.fok _ _ hok
        rw [xk.pf.fl f j hf] at na
        unfold PM.R.opt at g
        cases l : q.fs.lookup j with
        | none => rw [l] at g; exact g.elim
        | some d =>
          rw [l] at g
          rcases xd with ⟨e1, _⟩ | ⟨dd, gs, e2, e3, fr⟩
          · rw [e1] at l; cases l
          · obtain ⟨w, e4, wr⟩ := fr.look l
            rw [xk.pf.fl f j hf] at e4
            refine (pe_xf (X := X0) (a := t.a) (pn := pn) F.xfc na hz hd (pE_exv xk ok hv hi)).run pins s σ H Q I ?_
            exact ⟨_, hs, rfl, ec, dd, gs, w, e2, e3, e4, Gd.ok (h := h) g R _ wr⟩
      · exact g.elim
    · exact g.elim
/-- isinstance(e, C), e the exception at hand -/
theorem call_isX {X0 : Cx} {a D : Addr} {oe : Obj} {pn : List (Addr × Obj)} {d : Option Addr} (F : XF X0.K D) (hz : Zc (.ref D) d oe) (hf : ∃ vs, oe.data = .fields vs) :
    CallR (X0.suite a ((a, oe) :: pn)) (.builtin "isinstance") (fun xs H Q => ∃ (c : V) (cv : Value) (b : Bool), xs = [.ref a, c] ∧ ClsV c cv ∧ PySem.W.kitOne X0.K (.ref D) cv = some b ∧ (d = none ∨ ∃ dd gs, d = some dd ∧ H dd = some (.xd gs)) ∧ Q (.bl b) H) := by
  intro pins s σ H xs us Q I r h
  obtain ⟨c, cv, b, rfl, hcv, e, hd, q⟩ := h
  cases r with
  | cons rx rr =>
    cases rr with
    | cons rt rr =>
      cases rr
      cases rx
      have ec := hcv.eq rt
      subst ec
      have hget := (I.pin (a, oe) (List.mem_append.mpr (.inl List.mem_cons_self))).1
      obtain ⟨vs, hv⟩ := hf
      have J : ∃ od, PySem.W.InstAt s.heap a oe D od := by
        obtain ⟨oc, odd, oda, osl⟩ := oe
        obtain ⟨h1, h2⟩ := hz
        dsimp only at h1 h2 hv
        subst h1 h2 hv
        rcases hd with hd | ⟨dd, gs, hd, hx⟩
        · subst hd
          exact ⟨none, hget, rfl, rfl, trivial⟩
        · subst hd
          have hk := I.hok dd _ hx
          obtain ⟨mA, ⟨o, es, ep, e1, _⟩, _⟩ := hk
          exact ⟨some o, hget, rfl, rfl, e1⟩
      obtain ⟨od, J⟩ := J
      exact PySem.W.kia_one (PySem.W.kitx_exc F.cl F.xfc.ga F.xfc.gg F.xfc.exC F.ha F.hn F.ht F.hm) I.kIn J e (fun z => nomatch z) fun tk => ⟨.bl b, H, I.kept (t' := tk) fun _ _ z => z, rfl, q⟩
theorem pE_exi {x y : Str} {p p1 p2 pos : Pos} {i : Nat} {ty : Ty} {t : Hot} (xk : Xk X T G Pr N sc fnB (some t) k) (hg : isGlob sc ("isinstance" : Str) = true) (hfi : G.free.contains ("isinstance" : Str) = true) (ok : okName x = true) (hv : Vis sc x) (hi : N.idxOf? x = some i) (oky : okName y = true) (hgy : isGlob sc y = true) (ety : tyOf G y = some ty) :
    PE X (.Call (.Name "isinstance" p) [.Name x p1, .Name y p2] [] pos) (tE T X.K (some t) (Pg.ct Pr (calls Pr k)) W (.exi i [ty])) := by
  obtain ⟨X0, oe, pn, rfl, hz, hd⟩ := xk.hx t rfl
  refine ⟨fun pins s σ H Q I hh => ?_⟩
  obtain ⟨m, h, n, R, er, g⟩ := hh
  have go : ∀ (q : Xc) (b : Bool), n.x = some q → q.i = some i → PySem.W.kitOne X0.K (.ref (T.cad q.c)) (tyU T ty) = some b → (∀ v, VR X0.K m H (.bl b) v → Q v H) → wpAny (model X0.prog X0.w) (X0.suite t.a ((t.a, oe) :: pn)).A (eval (.Call (.Name "isinstance" p) [.Name x p1, .Name y p2] [] pos) X0.env) (EP (X0.suite t.a ((t.a, oe) :: pn)) pins σ Q) (X0.suite t.a ((t.a, oe) :: pn)).xe s := fun q b hx hq hk hQ => by
    obtain ⟨⟨ec, hm, xd⟩, hs⟩ := er.hot_at hx hq
    have F := xk.pf.xf _ hm
    rw [ec] at hz
    refine (pe_callB (call_isX (X0 := X0) (pn := pn) F hz hd) (isGlob_Gl xk hg) (xk.pf.fr _ hfi) (by decide +kernel) (pa_cons (pE_exv xk ok hv hi) (pa_cons (pE_cls xk oky hgy ety) pa_nil))).run pins s σ H Q I ?_
    refine ⟨_, hs, tyV' T ty, tyU T ty, b, rfl, tyU_cls ty, hk, ?_, hQ _ (.bl _)⟩
    rcases xd with ⟨_, e2⟩ | ⟨dd, gs, e2, e3, _⟩
    · exact .inl e2
    · exact .inr ⟨dd, gs, e2, e3⟩
  simp only [ev] at g
  cases hx : n.x with
  | none => rw [hx] at g; exact g.elim
  | some q =>
    rw [hx] at g
    cases ty with
    | own c =>
      dsimp only at g
      split at g
      · rename_i hq
        exact go q _ hx hq (xk.pf.xi y c q.c ety (er.hot_at hx hq).1.2.1) fun v vr => Gd.ok (h := h) g R v vr
      · exact g.elim
    | verr =>
      dsimp only at g
      split at g
      · rename_i hq
        exact go q _ hx hq (xk.pf.xv q.c (er.hot_at hx hq).1.2.1) fun v vr => Gd.ok (h := h) g R v vr
      · exact g.elim
    | int => exact g.elim
    | str => exact g.elim
    | bool => exact g.elim
    | tuple => exact g.elim
    | list => exact g.elim
    | dict => exact g.elim
end
end PM
set_option Elab.async false
set_option linter.all false
set_option maxRecDepth 100000
set_option maxHeartbeats 4000000
/-! PM9: what loops walk; targets. -/
namespace PM
open PySem PySem.Spec PyProof.Rows L2
/-- a walk gives these items, while the walked list stands -/
structure Walk (T : Tb) (K : PySem.W.Frag) (J : L2.It) (src : Src) (m0 : List Addr) (H0 : Hp) : Prop where
  len : src.its.length ≤ sizeLine
  go : ∀ (i : Nat) (d : D) (m : List Addr) (h : Hh) (H : Hp), Ext K m0 H0 m H → Rel T K m h H → src.still h = true → src.its[i]? = some d → J.go i H
  yld : ∀ (i : Nat) (d : D) (m : List Addr) (h : Hh) (H H' : Hp) (v : V), Ext K m0 H0 m H → Rel T K m h H → src.still h = true → src.its[i]? = some d → J.yld i H v H' → Ext K m H m H' ∧ Rel T K m h H' ∧ VR K m H' d v
  stop : ∀ (m : List Addr) (h : Hh) (H : Hp), Ext K m0 H0 m H → Rel T K m h H → src.still h = true → J.stop src.its.length H
section
variable {T : Tb} {K : PySem.W.Frag} {m : List Addr} {h : Hh} {H : Hp}
theorem Src.still_lst {xs its : List D} {n : Nat} (e : Src.still ⟨its, [(n, xs)]⟩ h = true) : h[n]? = some (.lst xs) ∨ h[n]? = some (.frl xs) := by
  unfold Src.still at e
  simp only [List.all_cons, List.all_nil, Bool.and_true] at e
  unfold stands at e
  dsimp only at e
  split at e
  · rename_i ys q
    exact .inl (by rw [q, D.eq_of_sames _ _ e])
  · rename_i ys q
    exact .inr (by rw [q, D.eq_of_sames _ _ e])
  · cases e
theorem walk_list {a : Addr} {n : Nat} {xs : List D} (hl : xs.length ≤ sizeLine) (ea : m[n]? = some a) : Walk T K (Itl K a) ⟨xs, [(n, xs)]⟩ m H := by
  have at_ : ∀ (m' : List Addr) (h' : Hh) (H' : Hp), Ext K m H m' H' → Rel T K m' h' H' → Src.still ⟨xs, [(n, xs)]⟩ h' = true → ∃ vs, SqL K H' a vs ∧ VRs K m' H' xs vs := fun m' h' H' e R s => by
    have ea' := e.sub ea
    obtain ⟨a2, vs, q, ea2, sl, vr⟩ := VR.seq_of R (VR.loc (K := K) (H := H') ea') (Src.still_lst s)
    cases q
    exact ⟨vs, sl, vr⟩
  refine ⟨hl, fun i d m' h' H' e R s hd => ?_, fun i d m' h' H' H2 v e R s hd y => ?_, fun m' h' H' e R s => ?_⟩
  · obtain ⟨vs, sl, vr⟩ := at_ m' h' H' e R s
    obtain ⟨v, hv, _⟩ := vr.get hd
    exact ⟨vs, v, sl, hv⟩
  · obtain ⟨vs, sl, vr⟩ := at_ m' h' H' e R s
    obtain ⟨w, hw, wr⟩ := vr.get hd
    obtain ⟨e1, e2⟩ := y
    subst e1
    have e3 := e2 vs sl
    rw [hw] at e3; cases e3
    exact ⟨Ext.refl, R, wr⟩
  · obtain ⟨vs, sl, vr⟩ := at_ m' h' H' e R s
    exact ⟨vs, sl, by rw [← vr.length]; exact Nat.le_refl _⟩
theorem walk_tup {a : Addr} {xs : List D} {vs : List V} (hl : xs.length ≤ sizeLine) (sq : SqT K H a vs) (vr : VRs K m H xs vs) : Walk T K (Itt K a) ⟨xs, []⟩ m H := by
  refine ⟨hl, fun i d m' h' H' e R s hd => ?_, fun i d m' h' H' H2 v e R s hd y => ?_, fun m' h' H' e R s => ?_⟩
  · obtain ⟨v, hv, _⟩ := vr.get hd
    exact ⟨vs, v, e.tups _ _ sq, hv⟩
  · obtain ⟨w, hw, wr⟩ := (vr.mono e).get hd
    obtain ⟨e1, e2⟩ := y
    subst e1
    have e3 := e2 vs (e.tups _ _ sq)
    rw [hw] at e3; cases e3
    exact ⟨Ext.refl, R, wr⟩
  · exact ⟨vs, e.tups _ _ sq, by rw [← vr.length]; exact Nat.le_refl _⟩
theorem rangeD_get {lo : Int} {n i : Nat} {d : D} (e : (rangeD lo n)[i]? = some d) : i < n ∧ d = .int (lo + (i : Nat)) := by
  unfold rangeD at e
  rw [List.getElem?_map] at e
  cases q : (List.range n)[i]? with
  | none => rw [q] at e; cases e
  | some j =>
    rw [q] at e
    obtain ⟨h1, h2⟩ := List.getElem?_eq_some_iff.mp q
    simp at h1 h2
    subst h2
    cases e
    exact ⟨h1, rfl⟩
theorem walk_str {x : Str} (hl : x.length ≤ sizeLine) : Walk T K (Its x) ⟨signs x, []⟩ m H := by
  have get : ∀ (i : Nat) (d : D), (signs x)[i]? = some d → ∃ c, x.cps[i]? = some c ∧ d = .str ⟨#[c]⟩ := fun i d e => by
    unfold signs at e
    rw [List.getElem?_map] at e
    cases q : x.cps.toList[i]? with
    | none => rw [q] at e; cases e
    | some c =>
      rw [q] at e
      cases e
      exact ⟨c, by simpa using q, rfl⟩
  refine ⟨by simpa [signs, Str.length] using hl, fun i d m' h' H' e R s hd => ?_, fun i d m' h' H' H2 v e R s hd y => ?_, fun m' h' H' e R s => ?_⟩
  · obtain ⟨c, hc, _⟩ := get i d hd
    exact (Array.getElem?_eq_some_iff.mp hc).1
  · obtain ⟨c, hc, rfl⟩ := get i d hd
    obtain ⟨e1, c2, e2, e3⟩ := y
    subst e1
    rw [hc] at e2
    cases e2
    subst e3
    exact ⟨Ext.refl, R, .str _⟩
  · show x.cps.size ≤ (signs x).length
    simp [signs]
theorem enumD_get : ∀ {k i : Nat} {xs : List D} {d : D}, (enumD k xs)[i]? = some d → ∃ x, xs[i]? = some x ∧ d = .tup [.int ((k + i : Nat) : Int), x]
  | k, i, [], d, e => by simp [enumD] at e
  | k, 0, x :: xs, d, e => by
    simp [enumD] at e
    exact ⟨x, rfl, e.symm⟩
  | k, i + 1, x :: xs, d, e => by
    have e' : (enumD (k + 1) xs)[i]? = some d := by simpa [enumD] using e
    obtain ⟨y, h1, h2⟩ := enumD_get e'
    refine ⟨y, by simpa using h1, ?_⟩
    rw [h2]
    have : k + 1 + i = k + (i + 1) := by omega
    rw [this]
theorem enumD_len : ∀ {k : Nat} {xs : List D}, (enumD k xs).length = xs.length
  | _, [] => rfl
  | k, _ :: xs => by simp [enumD, enumD_len (k := k + 1) (xs := xs)]
theorem walk_enum {a : Addr} {n : Nat} {xs : List D} (hl : xs.length ≤ sizeLine) (ea : m[n]? = some a) : Walk T K (Ite K a) ⟨enumD 0 xs, [(n, xs)]⟩ m H := by
  have at_ : ∀ (m' : List Addr) (h' : Hh) (H' : Hp), Ext K m H m' H' → Rel T K m' h' H' → Src.still ⟨enumD 0 xs, [(n, xs)]⟩ h' = true → ∃ vs, SqL K H' a vs ∧ VRs K m' H' xs vs := fun m' h' H' e R s => by
    have ea' := e.sub ea
    obtain ⟨a2, vs, q, ea2, sl, vr⟩ := VR.seq_of R (VR.loc (K := K) (H := H') ea') (Src.still_lst s)
    cases q
    exact ⟨vs, sl, vr⟩
  refine ⟨by rw [enumD_len]; exact hl, fun i d m' h' H' e R s hd => ?_, fun i d m' h' H' H2 v e R s hd y => ?_, fun m' h' H' e R s => ?_⟩
  · obtain ⟨vs, sl, vr⟩ := at_ m' h' H' e R s
    obtain ⟨x, hx, _⟩ := enumD_get hd
    obtain ⟨v, hv, _⟩ := vr.get hx
    exact ⟨vs, v, sl, hv⟩
  · obtain ⟨vs, sl, vr⟩ := at_ m' h' H' e R s
    obtain ⟨x, hx, rfl⟩ := enumD_get hd
    obtain ⟨w, hw, wr⟩ := vr.get hx
    obtain ⟨T', z, rfl, hT, rfl, e2⟩ := y
    have e3 := e2 vs sl
    rw [hw] at e3; cases e3
    have E : Ext K m' H' m' (upd H' T' (.tup [.int (i : Nat), w])) := Ext.lay hT
    refine ⟨E, R.lay hT, .tup (SqT.of upd_same) (.cons ?_ (.cons (wr.mono E) .nil)) (by show 2 ≤ sizeLine; decide)⟩
    rw [Nat.zero_add]
    exact .int _
  · obtain ⟨vs, sl, vr⟩ := at_ m' h' H' e R s
    exact ⟨vs, sl, by rw [enumD_len, ← vr.length]; exact Nat.le_refl _⟩
theorem walk_range {lo : Int} {n : Nat} (hl : n ≤ sizeLine) : Walk T K (Itr lo n) ⟨rangeD lo n, []⟩ m H := by
  refine ⟨by simp [rangeD]; exact hl, fun i d m' h' H' e R s hd => ?_, fun i d m' h' H' H2 v e R s hd y => ?_, fun m' h' H' e R s => ?_⟩
  · exact (rangeD_get hd).1
  · obtain ⟨_, rfl⟩ := rangeD_get hd
    obtain ⟨e1, e2⟩ := y
    subst e1 e2
    exact ⟨Ext.refl, R, .int _⟩
  · show n ≤ (rangeD lo n).length
    simp [rangeD]
end

/-- the reading of what a loop walks -/
def tIt (T : Tb) (K : PySem.W.Frag) (C : Ct) (W : WX) (it : It) : TI := fun σ H R => ∃ m h n, Rel T K m h H ∧ ER T K none m H n σ ∧ Gd T K (evIt C it n h) m H (fun src m1 h1 H1 => Ext K m H m1 H1 ∧ Rel T K m1 h1 H1 ∧ ∀ J, Walk T K J src m1 H1 → R J H1) (fun c d H' => W c d σ H')
section
variable {X : Cx} {T : Tb} {G : Gt} {Pr : Pg} {N : List Str} {sc : Scope} {fnB : Str → Bool} {k : Nat} {W : WX} {tg : Expr}
theorem PI.imp {X : Cx} {tg e : Expr} {t t' : TI} (p : PI X tg e t) (f : ∀ σ H Q, t' σ H Q → t σ H Q) : PI X tg e t' := ⟨fun pins s σ H R I h => p.run pins s σ H R I (f σ H R h)⟩
theorem pI_val {e : Expr} {x : E} (p : PE X e (tE T X.K none (Pg.ct Pr (calls Pr k)) W x)) : PI X tg e (tIt T X.K (Pg.ct Pr (calls Pr k)) W (.val x)) := by
  refine ⟨fun pins s σ H Rr I hh => ?_⟩
  obtain ⟨m, h, n, R, er, g⟩ := hh
  simp only [evIt] at g
  -- the value first
  have g0 := seqE R er g
  have both : PI X tg e (fun σ H R => (tE T X.K none (Pg.ct Pr (calls Pr k)) W x) σ H fun v H1 => (∃ a, v = .ref a ∧ (((∃ xs, SqL X.K H1 a xs) ∧ R (Itl X.K a) H1) ∨ ((∃ xs, SqT X.K H1 a xs) ∧ R (Itt X.K a) H1))) ∨ ∃ x, v = .str x ∧ R (Its x) H1) := by
    refine ⟨fun pins s σ H R I h => ?_⟩
    refine thn (p.run pins s σ H _ I h) fun v s1 ⟨x1, H1, I1, r1, q0⟩ => ?_
    rcases q0 with ⟨a, ex, q⟩ | ⟨x, ex, q⟩
    case inr =>
      subst ex
      obtain ⟨t, rfl⟩ := r1
      cases ha : x.cps.all (· < 128)
      · exact wpAny_pyIter_wide ha (pi_one (tk := s1.toks) I1 _ (turn_str _ x t "str_iterator" (.inr rfl)) ⟨_, Heap.get?_push_size _ rfl, rfl, rfl⟩ q)
      · exact wpAny_pyIter_ascii ha (pi_one (tk := s1.toks) I1 _ (turn_str _ x t "str_ascii_iterator" (.inl rfl)) ⟨_, Heap.get?_push_size _ rfl, rfl, rfl⟩ q)
    subst ex
    rcases q with ⟨⟨xs, hq⟩, q⟩ | ⟨⟨xs, hq⟩, q⟩
    · have pe : PE X e (tC (.ref a)) → True := fun _ => trivial
      cases r1
      obtain ⟨its, rv, pl, hz⟩ := I1.list hq
      refine wpAny_pyIter_list pl.isList ?_
      refine ⟨s1.heap.objs.size, [s1.heap.objs.size], _, _, H1, rfl, I1.kept (t' := s1.toks) fun b o e => Heap.get?_push_of_some _ e, turn_list a _, ⟨_, Heap.get?_push_size _ rfl, rfl, rfl⟩, fun b hb => ?_, q⟩
      obtain rfl : b = s1.heap.objs.size := by simpa using hb
      exact I1.fpOk (Nat.le_refl _) (I1.hok.fresh (Nat.le_refl _))
    · cases r1
      obtain ⟨its, rv, pl, hz⟩ := I1.tuple hq
      refine wpAny_pyIter_tuple (show s1.heap.IsTuple a its.toArray from pl) ?_
      refine ⟨s1.heap.objs.size, [s1.heap.objs.size], _, _, H1, rfl, I1.kept (t' := s1.toks) fun b o e => Heap.get?_push_of_some _ e, turn_tuple a _, ⟨_, Heap.get?_push_size _ rfl, rfl, rfl⟩, fun b hb => ?_, q⟩
      obtain rfl : b = s1.heap.objs.size := by simpa using hb
      exact I1.fpOk (Nat.le_refl _) (I1.hok.fresh (Nat.le_refl _))
  refine both.run pins s σ H Rr I (tE.mono g0 fun v H1 ⟨m1, h1, d, E1, R1, er1, vr, g1⟩ => ?_)
  unfold srcOf at g1
  split at g1
  · obtain ⟨a, vs, rfl, sa, ra⟩ := vr.tup_of
    obtain ⟨_, _, q⟩ := g1.ok R1
    exact .inl ⟨a, rfl, .inr ⟨⟨vs, sa⟩, q _ (walk_tup vr.tup_len sa ra)⟩⟩
  · split at g1
    · rename_i hz
      cases vr
      obtain ⟨_, _, q⟩ := g1.ok R1
      exact .inr ⟨_, rfl, q _ (walk_str hz)⟩
    · exact g1.elim
  · split at g1
    · rename_i e1
      obtain ⟨a, vs, rfl, ea, sa, ra⟩ := vr.seq_of R1 (.inl e1)
      obtain ⟨_, _, q⟩ := g1.ok R1
      exact .inl ⟨a, rfl, .inl ⟨⟨vs, sa⟩, q _ (walk_list (R1.lst_len e1) ea)⟩⟩
    · rename_i e1
      obtain ⟨a, vs, rfl, ea, sa, ra⟩ := vr.seq_of R1 (.inr e1)
      obtain ⟨_, _, q⟩ := g1.ok R1
      exact .inl ⟨a, rfl, .inl ⟨⟨vs, sa⟩, q _ (walk_list (R1.frl_len e1) ea)⟩⟩
    · exact g1.elim
  · exact g1.elim
theorem okR_of {j : Int} (e : okR j = true) : -(2 ^ 23) ≤ j ∧ j < 2 ^ 23 := by
  unfold okR at e
  simpa only [Bool.and_eq_true, decide_eq_true_eq] using e
theorem pI_rng1 {a : Expr} {p pos : Pos} {x : E} (xk : Xk X T G Pr N sc fnB none k) (hg : isGlob sc ("range" : Str) = true) (hf : G.free.contains ("range" : Str) = true) (hs : isStar a = false) (pa : PE X a (tE T X.K none (Pg.ct Pr (calls Pr k)) W x)) :
    PI X tg (.Call (.Name "range" p) [a] [] pos) (tIt T X.K (Pg.ct Pr (calls Pr k)) W (.rng1 x)) := by
  have s1 : ∀ env, starEach [a] env = [(false, eval a env)] := fun env => star_of hs
  refine PI.imp (pi_range1 (isGlob_Gl xk hg) (xk.pf.fr _ hf) (pa_cons pa pa_nil (s1 _)) (s1 _)) fun σ H Rr hh => ?_
  obtain ⟨m, h, n, R, er, g⟩ := hh
  simp only [evIt] at g
  refine tE.mono (seqE R er g) fun v H1 ⟨m1, h1, d, E1, R1, er1, vr, g1⟩ => ?_
  unfold intOf at g1
  split at g1
  · cases vr
    dsimp only [PM.R.bind] at g1
    split at g1
    · rename_i hj
      obtain ⟨h1', h2'⟩ := okR_of hj
      obtain ⟨_, _, q⟩ := Gd.ok g1 R1
      exact ⟨_, rfl, by omega, by omega, q _ (walk_range (by unfold sizeLine; omega))⟩
    · exact g1.elim
  · exact g1.elim
theorem pI_rng2 {a b : Expr} {p pos : Pos} {x y : E} (xk : Xk X T G Pr N sc fnB none k) (hg : isGlob sc ("range" : Str) = true) (hf : G.free.contains ("range" : Str) = true) (hs : isStar a = false) (hs2 : isStar b = false) (pa : PE X a (tE T X.K none (Pg.ct Pr (calls Pr k)) W x)) (pb : PE X b (tE T X.K none (Pg.ct Pr (calls Pr k)) W y)) :
    PI X tg (.Call (.Name "range" p) [a, b] [] pos) (tIt T X.K (Pg.ct Pr (calls Pr k)) W (.rng2 x y)) := by
  have s2 : ∀ env, starEach [b] env = [(false, eval b env)] := fun env => star_of hs2
  have s1 : ∀ env, starEach [a, b] env = [(false, eval a env), (false, eval b env)] := fun env => by rw [star_of hs, s2]
  have s0 : ∀ env, starEach [a, b] env = (false, eval a env) :: starEach [b] env := fun env => star_of hs
  refine PI.imp (pi_range2 (isGlob_Gl xk hg) (xk.pf.fr _ hf) (pa_cons pa (pa_cons pb pa_nil (s2 _)) (s0 _)) (s1 _) (s2 _)) fun σ H Rr hh => ?_
  obtain ⟨m, h, n, R, er, g⟩ := hh
  simp only [evIt] at g
  refine tE.mono (seqE R er g) fun v H1 ⟨m1, h1, d, E1, R1, er1, vr, g1⟩ => ?_
  unfold intOf at g1
  split at g1
  · cases vr
    dsimp only [PM.R.bind] at g1
    refine tE.mono (seqE R1 er1 g1) fun u H2 ⟨m2, h2, e, E2, R2, er2, ur, g2⟩ => ?_
    cases e with
    | int j =>
      cases ur
      dsimp only [PM.R.bind] at g2
      split at g2
      · rename_i hj
        rw [Bool.and_eq_true] at hj
        obtain ⟨a1, a2⟩ := okR_of hj.1
        obtain ⟨b1, b2⟩ := okR_of hj.2
        obtain ⟨_, _, q⟩ := Gd.ok g2 R2
        exact ⟨_, j, rfl, ⟨by omega, by omega, by omega, by omega⟩, q _ (walk_range (by unfold sizeLine; omega))⟩
      · exact g2.elim
    | non => exact g2.elim
    | bl _ => exact g2.elim
    | str _ => exact g2.elim
    | tup _ => exact g2.elim
    | loc _ => exact g2.elim
  · exact g1.elim
theorem pI_enu {a : Expr} {p pos tpos : Pos} {elts : List Expr} {kk : Nat} {x : E} (xk : Xk X T G Pr N sc fnB none k) (hg : isGlob sc ("enumerate" : Str) = true) (hf : G.free.contains ("enumerate" : Str) = true) (hs : isStar a = false) (pa : PE X a (tE T X.K none (Pg.ct Pr (calls Pr k)) W x)) :
    PI X (.Tuple elts kk tpos) (.Call (.Name "enumerate" p) [a] [] pos) (tIt T X.K (Pg.ct Pr (calls Pr k)) W (.enu x)) := by
  have s1 : ∀ env, starEach [a] env = [(false, eval a env)] := fun env => star_of hs
  refine PI.imp (pi_enum (isGlob_Gl xk hg) (xk.pf.fr _ hf) (pa_cons pa pa_nil (s1 _)) (s1 _)) fun σ H Rr hh => ?_
  obtain ⟨m, h, n, R, er, g⟩ := hh
  simp only [evIt] at g
  refine tE.mono (seqE R er g) fun v H1 ⟨m1, h1, d, E1, R1, er1, vr, g1⟩ => ?_
  unfold enuOf at g1
  split at g1
  · split at g1
    · rename_i e1
      obtain ⟨a, vs, rfl, ea, sa, ra⟩ := vr.seq_of R1 (.inl e1)
      obtain ⟨_, _, q⟩ := g1.ok R1
      exact ⟨a, vs, rfl, sa, q _ (walk_enum (R1.lst_len e1) ea)⟩
    · exact g1.elim
  · exact g1.elim
/-! ### targets -/
def gAll : List Nat → TGs
  | [] => gNil
  | i :: is => gCons (gName i) (gAll is)
def gT (K : PySem.W.Frag) : Tg → TG
  | .nm i => gName i
  | .tp is => gTup K is.length (gAll is)
theorem store_ix {x : Str} {i : Nat} (xk : Xk X T G Pr N sc fnB none k) (e : storeOf N sc fnB x = some i) : X.N[i]? = some x ∧ Loc X.env.scope x ∧ (X.fn x = true ∨ X.env.scope.names.lookup x = some .local) := by
  have ix : ∀ {j : Nat}, N.idxOf? x = some j → X.N[j]? = some x := fun {j} z => by
    rw [xk.hN]
    obtain ⟨h1, h2⟩ := List.idxOf?_eq_some_iff.mp z
    rw [List.getElem?_eq_getElem h1]
    simpa using h2.1
  unfold storeOf at e
  split at e
  · rename_i q
    exact ⟨ix e, .inl (by rw [xk.hsc]; exact q), .inr (by rw [xk.hsc]; exact q)⟩
  · rename_i q
    split at e
    · rename_i q2
      exact ⟨ix e, .inr (by rw [xk.hsc]; exact q), .inl (by rw [xk.hfn]; exact q2)⟩
    · cases e
  · cases e
theorem pG_names (xk : Xk X T G Pr N sc fnB none k) : ∀ {es : List Expr} {is : List Nat}, cNames N sc fnB es = some is → PGs X es (gAll is) ∧ (assignEach es X.env).length = is.length ∧ (assignEach es X.env).findIdx? (·.1) = none
  | [], is, e => by
    simp only [cNames] at e
    cases e
    exact ⟨pgs_nil, rfl, rfl⟩
  | .Name x p :: r, is, e => by
    simp only [cNames] at e
    cases q1 : storeOf N sc fnB x with
    | none => rw [q1] at e; cases e
    | some i =>
      rw [q1] at e
      cases q2 : cNames N sc fnB r with
      | none => rw [q2] at e; cases e
      | some js =>
        rw [q2] at e
        cases e
        obtain ⟨a1, a2, a3⟩ := store_ix xk q1
        obtain ⟨b1, b2, b3⟩ := pG_names xk q2
        have e1 : assignEach (.Name x p :: r) X.env = (false, assign (.Name x p) X.env) :: assignEach r X.env := by first | rfl | (rw [assignEach]; intro _ _ z; cases z)
        refine ⟨pgs_cons (pg_name (by rw [xk.hN]; exact xk.nd) a1 a2 a3) b1 (by rw [e1]; rfl), by rw [e1]; simp [b2], ?_⟩
        rw [e1, List.findIdx?_cons]
        simp [b3]
  | .BoolOp .. :: _, _, e => by simp [cNames] at e
  | .NamedExpr .. :: _, _, e => by simp [cNames] at e
  | .BinOp .. :: _, _, e => by simp [cNames] at e
  | .UnaryOp .. :: _, _, e => by simp [cNames] at e
  | .Lambda .. :: _, _, e => by simp [cNames] at e
  | .IfExp .. :: _, _, e => by simp [cNames] at e
  | .Dict .. :: _, _, e => by simp [cNames] at e
  | .Set .. :: _, _, e => by simp [cNames] at e
  | .ListComp .. :: _, _, e => by simp [cNames] at e
  | .SetComp .. :: _, _, e => by simp [cNames] at e
  | .DictComp .. :: _, _, e => by simp [cNames] at e
  | .GeneratorExp .. :: _, _, e => by simp [cNames] at e
  | .Await .. :: _, _, e => by simp [cNames] at e
  | .Yield .. :: _, _, e => by simp [cNames] at e
  | .YieldFrom .. :: _, _, e => by simp [cNames] at e
  | .Compare .. :: _, _, e => by simp [cNames] at e
  | .Call .. :: _, _, e => by simp [cNames] at e
  | .FormattedValue .. :: _, _, e => by simp [cNames] at e
  | .JoinedStr .. :: _, _, e => by simp [cNames] at e
  | .Constant .. :: _, _, e => by simp [cNames] at e
  | .Attribute .. :: _, _, e => by simp [cNames] at e
  | .Subscript .. :: _, _, e => by simp [cNames] at e
  | .Starred .. :: _, _, e => by simp [cNames] at e
  | .List .. :: _, _, e => by simp [cNames] at e
  | .Tuple .. :: _, _, e => by simp [cNames] at e
  | .Slice .. :: _, _, e => by simp [cNames] at e
theorem pG_tg {e : Expr} {t : Tg} (xk : Xk X T G Pr N sc fnB none k) (c : cTg N sc fnB e = some t) : PG X e (gT X.K t) := by
  unfold cTg at c
  split at c
  · rename_i x p
    cases q : storeOf N sc fnB x with
    | none => rw [q] at c; cases c
    | some i =>
      rw [q] at c
      cases c
      obtain ⟨a1, a2, a3⟩ := store_ix xk q
      exact pg_name (by rw [xk.hN]; exact xk.nd) a1 a2 a3
  · rename_i es kk p
    cases q : cNames N sc fnB es with
    | none => rw [q] at c; cases c
    | some is =>
      rw [q] at c
      cases c
      obtain ⟨b1, b2, b3⟩ := pG_names xk q
      exact pg_tup (xk.calm rfl) b1 b2 b3
  · cases c
/-- a slot is stored -/
theorem ER.set {K : PySem.W.Frag} {m : List Addr} {H : Hp} {n : En} {σ : L2.St} {d : D} {v : V} {i : Nat} (er : ER T K none m H n σ) (vr : VR K m H d v) : ER T K none m H (setS n i d) (σ.set i (some v)) := by
  refine ⟨by simp [setS, er.len], fun j e q => ?_, ?_⟩
  · simp only [setS] at q
    by_cases hj : i = j
    · subst hj
      have hl : i < n.s.length := by
        have := (List.getElem?_eq_some_iff.mp q).1
        simpa using this
      rw [List.getElem?_set_self hl] at q
      cases q
      exact ⟨v, by rw [List.getElem?_set_self (by rw [← er.len]; exact hl)], vr⟩
    · rw [List.getElem?_set_ne hj] at q ⊢
      exact er.val j e q
  · have := er.cool
    unfold HotOk
    show (match (none : Option Hot), n.x with | none, none => True | some t, some q => _ | _, _ => False)
    rw [this]
    trivial
theorem ER.setAll {K : PySem.W.Frag} {m : List Addr} {H : Hp} {Q : L2.St → Hp → Prop} : ∀ {is : List Nat} {ds : List D} {vs : List V} {n n' : En} {σ : L2.St}, ER T K none m H n σ → VRs K m H ds vs → PM.setAll n is ds = some n' → (∀ σ', ER T K none m H n' σ' → σ' = (is.zip vs).foldl (fun s p => s.set p.1 (some p.2)) σ → Q σ' H) → gAll is vs σ H Q
  | [], _, _, n, n', σ, er, .nil, e, f => by
    simp only [PM.setAll] at e
    cases e
    exact ⟨rfl, f σ er rfl⟩
  | [], _, _, _, _, _, _, .cons _ _, e, _ => by simp [PM.setAll] at e
  | _ :: _, _, _, _, _, _, _, .nil, e, _ => by simp [PM.setAll] at e
  | i :: is, d :: ds, v :: vs, n, n', σ, er, .cons a b, e, f => by
    simp only [PM.setAll] at e
    exact ⟨v, vs, rfl, ER.setAll (er.set (i := i) a) b e fun σ' er' q => f σ' er' q⟩
/-- a target gets a value -/
def stT (t : Tg) (v : V) (σ σ' : L2.St) : Prop := ∃ l : List (Nat × V), (∀ p ∈ l, p.1 ∈ t.slots) ∧ σ' = l.foldl (fun s p => s.set p.1 (some p.2)) σ
theorem gT_ok {K : PySem.W.Frag} {m : List Addr} {H : Hp} {Q : L2.St → Hp → Prop} {t : Tg} {d : D} {v : V} {n n' : En} {σ : L2.St} (er : ER T K none m H n σ) (vr : VR K m H d v) (e : putT t d n = some n') (f : ∀ σ', ER T K none m H n' σ' → stT t v σ σ' → Q σ' H) : gT K t v σ H Q := by
  cases t with
  | nm i =>
    simp only [putT] at e
    cases e
    exact f _ (er.set vr) ⟨[(i, v)], by simp [Tg.slots], rfl⟩
  | tp is =>
    simp only [putT] at e
    split at e
    · obtain ⟨a, vs, rfl, sa, ra⟩ := vr.tup_of
      refine ⟨a, vs, rfl, sa, ?_, ER.setAll er ra e fun σ' er' q => f σ' er' ⟨is.zip vs, fun p hp => (List.of_mem_zip hp).1, q⟩⟩
      have : ∀ {is : List Nat} {ds : List D} {n n' : En}, PM.setAll n is ds = some n' → ds.length = is.length := by
        intro is
        induction is with
        | nil => intro ds n n' e; cases ds with
          | nil => rfl
          | cons => simp [PM.setAll] at e
        | cons i is ih => intro ds n n' e; cases ds with
          | nil => simp [PM.setAll] at e
          | cons d ds => simp only [PM.setAll] at e; simp [ih e]
      rw [← ra.length]
      exact this e
    · cases e
end
end PM
set_option Elab.async false
set_option linter.all false
set_option maxRecDepth 100000
set_option maxHeartbeats 4000000
/-! PM10: list comprehensions. -/
namespace PM
open PySem PySem.Spec PyProof.Rows L2
section
variable {X : Cx} {T : Tb} {G : Gt} {Pr : Pg} {N : List Str} {sc : Scope} {fnB : Str → Bool} {k : Nat} {W : WX}
theorem wipe_set {σ : L2.St} {i : Nat} {v : Option V} : ∀ {vs : List Nat}, i ∈ vs → L2.wipe (σ.set i v) vs = L2.wipe σ vs
  | [], h => by cases h
  | j :: vs, h => by
    simp only [L2.wipe]
    by_cases hi : i ∈ vs
    · rw [wipe_set hi]
    · have hij : i = j := by
        rcases List.mem_cons.mp h with z | z
        · exact z
        · exact absurd z hi
      subst hij
      have out : ∀ {us : List Nat}, i ∉ us → L2.wipe (σ.set i v) us = (L2.wipe σ us).set i v := by
        intro us
        induction us with
        | nil => intro _; rfl
        | cons u us ih =>
          intro hn
          simp only [List.mem_cons, not_or] at hn
          simp only [L2.wipe]
          rw [ih hn.2, List.set_comm _ _ hn.1]
      rw [out hi, List.set_set]
theorem wipe_sets {vs : List Nat} : ∀ {l : List (Nat × V)} {σ : L2.St}, (∀ p ∈ l, p.1 ∈ vs) → L2.wipe (l.foldl (fun s p => s.set p.1 (some p.2)) σ) vs = L2.wipe σ vs
  | [], _, _ => rfl
  | p :: l, σ, h => by
    rw [List.foldl_cons, wipe_sets (l := l) fun q hq => h q (List.mem_cons_of_mem _ hq)]
    exact wipe_set (h p List.mem_cons_self)
theorem ER.wipe {K : PySem.W.Frag} {m : List Addr} {H : Hp} {n : En} {σ : L2.St} (er : ER T K none m H n σ) (ws : List Nat) : ER T K none m H ⟨PM.wipe n.s ws, n.x⟩ (L2.wipe σ ws) := by
  have base : ∀ ws : List Nat, (PM.wipe n.s ws).length = (L2.wipe σ ws).length ∧ ∀ (i : Nat) (d : D), (PM.wipe n.s ws)[i]? = some (some d) → ∃ v, (L2.wipe σ ws)[i]? = some (some v) ∧ VR K m H d v := by
    intro ws
    induction ws with
    | nil => exact ⟨er.len, er.val⟩
    | cons w ws ih =>
      refine ⟨by simp [PM.wipe, L2.wipe, ih.1], fun i d q => ?_⟩
      simp only [PM.wipe, L2.wipe] at q ⊢
      by_cases hi : w = i
      · subst hi
        by_cases hl : w < (PM.wipe n.s ws).length
        · rw [List.getElem?_set_self hl] at q; cases q
        · rw [List.getElem?_eq_none (by simpa using hl)] at q; cases q
      · rw [List.getElem?_set_ne hi] at q ⊢
        exact ih.2 i d q
  refine ⟨(base ws).1, (base ws).2, ?_⟩
  have := er.ht
  unfold HotOk at this ⊢
  rw [er.cool] at this ⊢
  trivial
/-- a comprehension's ifs -/
def tTs (T : Tb) (K : PySem.W.Frag) (C : Ct) (W : WX) (es : Es) : TT := fun σ H Q => ∃ m h n, Rel T K m h H ∧ ER T K none m H n σ ∧ Gd T K (tests C es n h) m H (fun b _ _ H' => Q b H') (fun c d H' => W c d σ H')
theorem PTs.imp {X : Cx} {e : List Expr} {t t' : TT} (p : PTs X e t) (f : ∀ σ H Q, t' σ H Q → t σ H Q) : PTs X e t' := ⟨fun pins s σ H Q I h => p.run pins s σ H Q I (f σ H Q h)⟩
theorem pTs_nil : PTs X [] (tTs T X.K (Pg.ct Pr (calls Pr k)) W .nil) := by
  refine PTs.imp pts_nil fun σ H Q hh => ?_
  obtain ⟨m, h, n, R, er, g⟩ := hh
  simp only [tests] at g
  exact Gd.ok g R
theorem pTs_one {c : Expr} {x : E} (p : PT X c (tT T X.K none (Pg.ct Pr (calls Pr k)) W x)) : PTs X [c] (tTs T X.K (Pg.ct Pr (calls Pr k)) W (.cons x .nil)) := by
  refine PTs.imp (pts_one p) fun σ H Q hh => ?_
  obtain ⟨m, h, n, R, er, g⟩ := hh
  simp only [tests] at g
  exact ⟨m, h, n, R, er, g⟩
/-- the frame of a comprehension's block -/
theorem Xk.blk {s : Shared} {H : Hp} {scope : Scope} {cl : List (Str × Addr)} {C : Addr} {fp : List Addr} (xk : Xk X T G Pr N sc fnB none k) : Xk (X.blk s H scope (compEnvC scope cl C X.env) fp) T G Pr N (relS scope sc) (fun x => scope.names.lookup x == some .cell) none k :=
  ⟨xk.hN, xk.nd, by show relS scope X.env.scope = relS scope sc; rw [xk.hsc], rfl, fun _ => xk.calm rfl, fun _ => xk.room rfl, xk.units, xk.pf, fun t e => by cases e⟩
def W0 : WX := fun _ _ _ _ => False
/-- a comprehension's turn -/
def lcF (C : Ct) (n : En) (ws : List Nat) (tg : Tg) (ifs : Es) (e : E) : D → Hh → PM.R (Option D) := fun d h => match putT tg d { n with s := PM.wipe n.s ws } with
  | some m => ((tests C ifs m h).bind fun t h => if t = true then (ev C e m h).bind fun v h => .ok (some v) h else .ok none h).calm
  | none => .bad
theorem lc_read {K : PySem.W.Frag} {C : Ct} {ws : List Nat} {tg : Tg} {it : It} {ifs : Es} {e : E} {σ : L2.St} {H : Hp} {Q : VK} (hsl : ∀ i ∈ tg.slots, i ∈ ws) (hh : tE T K none C W (.lc ws tg it ifs e) σ H Q) :
    tLc (tIt T K C W it) (gT K tg) (tTs T K C W0 ifs) (tE T K none C W0 e) ws σ H Q := by
  obtain ⟨m, h, n, R, er, g⟩ := hh
  have hx : n.x.isSome = false := by rw [er.cool]; rfl
  simp only [ev] at g
  rw [if_neg (by rw [hx]; exact Bool.false_ne_true)] at g
  have g : Gd T K ((evIt C it n h).bind fun src h => (lcGo (lcF C n ws tg ifs e) src.still src.its h).bind fun ds h => .ok (.loc h.length) (h ++ [.lst ds])) m H (wV K Q) (fun c d H' => W c d σ H') := g
  refine ⟨m, h, n, R, er, g.bind.imp (fun src m1 h1 H1 E1 R1 z => ⟨E1, R1, fun J wk D hD => ?_⟩) fun _ _ _ q => q⟩
  have mem : ∀ {m2 : List Addr} {h2 : Hh} {H2 : Hp}, Rel T K m2 h2 H2 → ∀ {o : HO}, (∀ u, H2 D = some u → ∀ xs, u ≠ .lst xs → False) → True := fun _ _ _ => trivial
  refine ⟨fun i mu H => mu = src.its.length - i ∧ i ≤ src.its.length ∧ ∃ m2 h2 accD accV, Ext K m1 H1 m2 H ∧ Rel T K m2 h2 H ∧ H D = some (.lst accV) ∧ D ∉ m2 ∧ VRs K m2 H accD accV ∧ accD.length ≤ i ∧
    Gd T K ((lcGo (lcF C n ws tg ifs e) src.still (src.its.drop i) h2).bind fun ds h => .ok (.loc h.length) (h ++ [.lst (accD ++ ds)])) m1 H1 (wV K Q) (fun c d H' => W c d σ H'), ?_, ?_⟩
  · refine ⟨src.its.length, by simp, Nat.zero_le _, m1, h1, [], [], Ext.lay hD, R1.lay hD, upd_same, ?_, .nil, Nat.le_refl _, ?_⟩
    · intro hm
      obtain ⟨u, eu⟩ := R1.some_of hm
      rw [hD] at eu; cases eu
    · exact z
  · rintro i mu H2 ⟨rfl, hi, m2, h2, accD, accV, E2, R2, hDa, hDm, va, hla, g2⟩
    by_cases hlt : i < src.its.length
    · have hd : src.its[i]? = some src.its[i] := List.getElem?_eq_getElem hlt
      rw [List.drop_eq_getElem_cons hlt] at g2
      simp only [lcGo] at g2
      by_cases hst : src.still h2 = true
      · rw [if_pos hst] at g2
        refine .inr ⟨wk.go i _ m2 h2 H2 E2 R2 hst hd, fun H' => i + 1 ≤ src.its.length ∧ ∃ m2 h2 accD accV, Ext K m1 H1 m2 H' ∧ Rel T K m2 h2 H' ∧ H' D = some (.lst accV) ∧ D ∉ m2 ∧ VRs K m2 H' accD accV ∧ accD.length ≤ i + 1 ∧
          Gd T K ((lcGo (lcF C n ws tg ifs e) src.still (src.its.drop (i + 1)) h2).bind fun ds h => .ok (.loc h.length) (h ++ [.lst (accD ++ ds)])) m1 H1 (wV K Q) (fun c d H' => W c d σ H'), fun H' q => ⟨_, by omega, rfl, q.1, q.2⟩, fun x H3 y => ?_⟩
        obtain ⟨E3, R3, vx⟩ := wk.yld i _ m2 h2 H2 H3 x E2 R2 hst hd y
        have hD3 : H3 D = some (.lst accV) := E3.keep _ _ hDa hDm
        have er3 : ER T K none m2 H3 ⟨PM.wipe n.s ws, n.x⟩ (L2.wipe σ ws) := (((er.mono R E1).mono R1 E2).mono R2 E3).wipe ws
        -- the turn
        rw [bind_assoc'] at g2
        cases hp : putT tg src.its[i] { n with s := PM.wipe n.s ws } with
        | none =>
          exfalso
          have : lcF C n ws tg ifs e src.its[i] h2 = .bad := by unfold lcF; rw [hp]
          rw [this] at g2
          exact g2
        | some n' =>
          have hF : lcF C n ws tg ifs e src.its[i] h2 = ((tests C ifs n' h2).bind fun t h => if t = true then (ev C e n' h).bind fun v h => .ok (some v) h else .ok none h).calm := by unfold lcF; rw [hp]
          rw [hF] at g2
          refine gT_ok er3 vx hp fun σ2 er4 st => ⟨?_, ?_⟩
          · obtain ⟨l, hl, rfl⟩ := st
            rw [wipe_sets fun p hp => hsl _ (hl p hp)]
            have idem : ∀ (vs : List Nat) (σ : L2.St), L2.wipe (L2.wipe σ vs) vs = L2.wipe σ vs := by
              intro vs σ
              have key : ∀ (us : List Nat), (∀ u ∈ us, u ∈ vs) → L2.wipe (L2.wipe σ us) vs = L2.wipe σ vs := by
                intro us
                induction us with
                | nil => intro _; rfl
                | cons u us ih =>
                  intro h
                  simp only [L2.wipe]
                  rw [wipe_set (h u List.mem_cons_self)]
                  exact ih fun w hw => h w (List.mem_cons_of_mem _ hw)
              exact key vs fun _ h => h
            exact idem ws σ
          · refine ⟨m2, h2, n', R3, er4, ?_⟩
            cases ht : tests C ifs n' h2 with
            | bad => rw [ht] at g2; exact g2
            | exc c fs h3 => rw [ht] at g2; exact g2.elim
            | ok b h3 =>
              rw [ht] at g2
              intro m3 H4 E4 R4
              have hD4 : H4 D = some (.lst accV) := E4.keep _ _ hD3 hDm
              have hDm3 : D ∉ m3 := fun hm => by
                have := E4.fresh D hm hDm
                rw [hD3] at this; cases this
              cases b with
              | false =>
                dsimp only [PM.R.bind, PM.R.calm] at g2
                rw [if_neg Bool.false_ne_true] at g2
                dsimp only
                rw [if_neg Bool.false_ne_true]
                refine ⟨hlt, m3, h3, accD, accV, (E2.trans E3).trans E4, R4, hD4, hDm3, (va.mono E3).mono E4, by omega, ?_⟩
                dsimp only [PM.R.bind, PM.R.calm] at g2
                cases hl : lcGo (lcF C n ws tg ifs e) src.still (src.its.drop (i + 1)) h3 with
                | bad => rw [hl] at g2; exact g2
                | exc c fs h5 => rw [hl] at g2; exact g2
                | ok ds h5 => rw [hl] at g2; exact g2
              | true =>
                dsimp only
                rw [if_pos rfl]
                refine ⟨m3, h3, n', R4, er4.mono R3 E4, ?_⟩
                dsimp only [PM.R.bind] at g2
                rw [if_pos rfl] at g2
                cases hv : ev C e n' h3 with
                | bad => rw [hv] at g2; exact g2
                | exc c fs h5 => rw [hv] at g2; exact g2.elim
                | ok y h5 =>
                  rw [hv] at g2
                  intro m5 H5 E5 R5 v vr
                  have hD5 : H5 D = some (.lst accV) := E5.keep _ _ hD4 hDm3
                  have hDm5 : D ∉ m5 := fun hm => by
                    have := E5.fresh D hm hDm3
                    rw [hD4] at this; cases this
                  have hlen := wk.len
                  refine ⟨accV, hD5, ?_, hlt, m5, h5, accD ++ [y], accV ++ [v], ?_, ?_, upd_same, hDm5, ?_, by simp; omega, ?_⟩
                  · rw [← va.length]
                    show accD.length < PM.sizeLine
                    omega
                  · -- the ground is kept
                    have EE := ((E2.trans E3).trans E4).trans E5
                    refine ⟨EE.pre, fun b o q hb => ?_, EE.fresh, fun b us q => ?_⟩
                    · rw [upd_ne (ne_of_none q hD)]
                      exact EE.keep b o q hb
                    · refine sqT_upd (fun ws hr => ?_) (EE.tups b us q)
                      rcases hr with z | ⟨ob, z⟩
                      · rw [hD5] at z; cases z
                      · rw [hD5] at z; cases z
                  · -- what is numbered stands
                    refine ⟨R5.len, R5.nd, fun nn a o ea eo => ?_⟩
                    obtain ⟨u, eu, r⟩ := R5.ob nn a o ea eo
                    have na : a ≠ D := fun z => hDm5 (z ▸ List.mem_of_getElem? ea)
                    refine ⟨u, by rw [upd_ne na]; exact eu, ?_⟩
                    have ET : ∀ b us, SqT K H5 b us → SqT K (upd H5 D (.lst (accV ++ [v]))) b us := fun b us q => sqT_upd (fun ws hr => by
                      rcases hr with z | ⟨ob, z⟩
                      · rw [hD5] at z; cases z
                      · rw [hD5] at z; cases z) q
                    exact r.same ET
                  · have ET : ∀ b us, SqT K H5 b us → SqT K (upd H5 D (.lst (accV ++ [v]))) b us := fun b us q => sqT_upd (fun ws hr => by
                      rcases hr with z | ⟨ob, z⟩
                      · rw [hD5] at z; cases z
                      · rw [hD5] at z; cases z) q
                    exact ((((va.mono E3).mono E4).mono E5).append (.cons vr .nil)).same ET
                  · dsimp only [PM.R.bind, PM.R.calm] at g2
                    cases hl : lcGo (lcF C n ws tg ifs e) src.still (src.its.drop (i + 1)) h5 with
                    | bad => rw [hl] at g2; exact g2
                    | exc c fs h6 => rw [hl] at g2; exact g2
                    | ok ds h6 =>
                      rw [hl] at g2
                      have : accD ++ [y] ++ ds = accD ++ (y :: ds) := by simp
                      dsimp only [PM.R.bind]
                      rw [this]
                      exact g2
      · rw [if_neg hst] at g2
        exact g2.elim
    · have hie : i = src.its.length := by omega
      subst hie
      rw [List.drop_eq_nil_of_le (Nat.le_refl _)] at g2
      simp only [lcGo] at g2
      by_cases hst : src.still h2 = true
      · rw [if_pos hst] at g2
        refine .inl ⟨wk.stop m2 h2 H2 E2 R2 hst, ?_⟩
        dsimp only [PM.R.bind] at g2
        rw [List.append_nil] at g2
        -- the new list gets its number
        have Rn : Rel T K (m2 ++ [D]) (h2 ++ [.lst accD]) H2 := by
          refine ⟨by simp [R2.len], ?_, fun nn a o ea eo => ?_⟩
          · rw [List.nodup_append]
            refine ⟨R2.nd, by simp, fun a ha b hb => ?_⟩
            have : b = D := by simpa using hb
            subst this
            intro z; subst z; exact hDm ha
          · by_cases hn : nn < m2.length
            · rw [List.getElem?_append_left hn] at ea
              rw [List.getElem?_append_left (by rw [← R2.len]; exact hn)] at eo
              obtain ⟨u, eu, r⟩ := R2.ob nn a o ea eo
              exact ⟨u, eu, r.grow⟩
            · have hn' : m2.length ≤ nn := Nat.le_of_not_lt hn
              rw [List.getElem?_append_right hn'] at ea
              rw [List.getElem?_append_right (by rw [← R2.len]; exact hn')] at eo
              rw [← R2.len] at eo
              cases q : nn - m2.length with
              | zero =>
                rw [q] at ea eo
                simp at ea eo
                subst ea eo
                have hlen := wk.len
                exact ⟨_, hDa, .lst va.grow (by omega)⟩
              | succ kk =>
                rw [q] at ea
                simp at ea
        have En : Ext K m1 H1 (m2 ++ [D]) H2 := by
          obtain ⟨r, hr⟩ := E2.pre
          refine ⟨⟨r ++ [D], by rw [hr]; simp⟩, E2.keep, fun a ha hn => ?_, E2.tups⟩
          rcases List.mem_append.mp ha with q | q
          · exact E2.fresh a q hn
          · have : a = D := by simpa using q
            subst this; exact hD
        exact g2 _ _ En Rn _ (.loc (by rw [← R2.len]; simp))
      · rw [if_neg hst] at g2
        exact g2.elim
/-! a dict display -/
def trsOf (T : Tb) (K : PySem.W.Frag) (hot : Option Hot) (C : Ct) (W : WX) : Es → List (TE × TE)
  | .cons x (.cons y r) => (tE T K hot C W x, tE T K hot C W y) :: trsOf T K hot C W r
  | _ => []
def evenE : Es → Bool
  | .nil => true
  | .cons _ .nil => false
  | .cons _ (.cons _ r) => evenE r
def pv : List V → List (V × V)
  | x :: y :: r => (x, y) :: pv r
  | _ => []
theorem pairs_read {hot : Option Hot} {K : PySem.W.Frag} {C : Ct} {σ : L2.St} : ∀ {es : Es} {m : List Addr} {h : Hh} {n : En} {H : Hp} {Q : List (V × V) → Hp → Prop}, evenE es = true → Rel T K m h H → ER T K hot m H n σ → Gd T K (evs C es n h) m H (fun ds m1 h1 H1 => ∀ vs, VRs K m1 H1 ds vs → Q (pv vs) H1) (fun c d H' => W c d σ H') → tPairs (trsOf T K hot C W es) σ H Q
  | .nil, m, h, n, H, Q, _, R, er, g => by
    simp only [evs] at g
    exact g.ok R _ .nil
  | .cons x .nil, m, h, n, H, Q, e, R, er, g => by simp [evenE] at e
  | .cons x (.cons y r), m, h, n, H, Q, e, R, er, g => by
    simp only [evs] at g
    refine ⟨m, h, n, R, er, g.bind.imp (fun d m1 h1 H1 e1 R1 z v vr => ?_) fun _ _ _ q => q⟩
    have er1 := er.mono R e1
    rw [bind_assoc'] at z
    refine ⟨m1, h1, n, R1, er1, z.bind.imp (fun d2 m2 h2 H2 e2 R2 z v2 vr2 => ?_) fun _ _ _ q => q⟩
    have er2 := er1.mono R1 e2
    rw [bind_assoc'] at z
    refine pairs_read (es := r) e R2 er2 (z.bind.imp (fun ds m3 h3 H3 e3 R3 z vs vrs => ?_) fun _ _ _ q => q)
    exact z.ok R3 _ (.cons ((vr.mono e2).mono e3) (.cons (vr2.mono e3) vrs))
theorem pair_of {K : PySem.W.Frag} {m : List Addr} {H : Hp} : ∀ {ds : List D} {vs : List V} {kvs : List ((Int ⊕ Str) × D)}, VRs K m H ds vs → pairUp ds = some kvs → ∃ gs : List (Key × V), pv vs = gs.map (fun kv => (kV kv.1, kv.2)) ∧ KRs K m H kvs gs
  | [], _, kvs, .nil, e => by cases e; exact ⟨[], rfl, .nil⟩
  | [d], _, kvs, r, e => by cases d <;> cases e
  | d :: d2 :: ds, _, kvs, .cons a (.cons b r), e => by
    cases d with
    | int i =>
      simp only [pairUp, Option.map_eq_some_iff] at e
      obtain ⟨ps, e1, rfl⟩ := e
      obtain ⟨gs, e2, k⟩ := pair_of r e1
      cases a
      exact ⟨(.inl i, _) :: gs, by simp only [pv, e2, List.map_cons]; rfl, .cons b k⟩
    | str x =>
      simp only [pairUp, Option.map_eq_some_iff] at e
      obtain ⟨ps, e1, rfl⟩ := e
      obtain ⟨gs, e2, k⟩ := pair_of r e1
      cases a
      exact ⟨(.inr x, _) :: gs, by simp only [pv, e2, List.map_cons]; rfl, .cons b k⟩
    | _ => cases e
theorem KRs.keys {K : PySem.W.Frag} {m : List Addr} {H : Hp} : ∀ {kvs : List ((Int ⊕ Str) × D)} {gs : List (Key × V)}, KRs K m H kvs gs → gs.map (·.1) = kvs.map (·.1)
  | _, _, .nil => rfl
  | _, _, .cons a r => by simp only [List.map_cons, KRs.keys r]
theorem merge_nodup : ∀ {more acc : List (Key × V)}, ((acc ++ more).map (·.1)).Nodup → mergeK acc more = acc ++ more
  | [], acc, _ => by simp [mergeK]
  | (q, v) :: more, acc, h => by
    have hn : (acc.any fun kv => decide (kv.1 = q)) = false := by
      cases e : acc.any fun kv => decide (kv.1 = q) with
      | false => rfl
      | true =>
        exfalso
        simp only [List.any_eq_true, decide_eq_true_eq] at e
        obtain ⟨kv, hm, e⟩ := e
        rw [List.map_append, List.nodup_append] at h
        exact h.2.2 kv.1 (List.mem_map_of_mem hm) q (by simp) e
    have e : putK acc q v = acc ++ [(q, v)] := by
      unfold putK
      rw [if_neg (by rw [hn]; exact Bool.false_ne_true)]
    show mergeK (putK acc q v) more = _
    rw [e, merge_nodup (by simpa using h)]
    simp
theorem dct_read {hot : Option Hot} {K : PySem.W.Frag} {C : Ct} {es : Es} {σ : L2.St} {H : Hp} {Q : VK} (ev' : evenE es = true) (hh : tE T K hot C W (.dct es) σ H Q) : tDisp (trsOf T K hot C W es) σ H Q := by
  obtain ⟨m, h, n, R, er, g⟩ := hh
  simp only [ev] at g
  intro p hp
  have E0 : Ext K m H m (upd H p (.dK [])) := Ext.lay hp
  have R0 : Rel T K m h (upd H p (.dK [])) := R.lay hp
  have pm : p ∉ m := fun hm => by
    obtain ⟨u, eu⟩ := R.some_of hm
    rw [hp] at eu; cases eu
  refine pairs_read ev' R0 (er.mono R E0) ?_
  cases hq : evs C es n h with
  | bad => rw [hq] at g; exact g
  | exc c fs h1 => rw [hq] at g; exact fun m' H' cls d e R' z => g m' H' cls d (E0.trans e) R' z
  | ok ds h2 =>
  rw [hq] at g
  intro m2 H2 e2 R2 vs vr
  have z := g
  dsimp only [PM.R.bind] at z
  have hp2 : H2 p = some (.dK []) := e2.keep _ _ upd_same pm
  have pm2 : p ∉ m2 := fun hm => by
    have := e2.fresh p hm pm
    rw [upd_same] at this; cases this
  refine ⟨hp2, ?_⟩
  cases hk : pairUp ds with
  | none => rw [hk] at z; exact z.elim
  | some kvs =>
    rw [hk] at z
    dsimp only at z
    split at z
    · rename_i ok
      unfold okKeys at ok
      simp only [Bool.and_eq_true, decide_eq_true_eq] at ok
      obtain ⟨gs, e1, kr⟩ := pair_of vr hk
      have hl : gs.length = kvs.length := by
        have := congrArg List.length kr.keys
        simpa using this
      refine ⟨gs, e1, by omega, ?_⟩
      have mg : mergeK [] gs = gs := by
        have := merge_nodup (acc := []) (more := gs) (by simp only [List.nil_append]; rw [kr.keys]; exact ok.2)
        simpa using this
      rw [mg]
      have ET : ∀ b us, SqT K H2 b us → SqT K (upd H2 p (.dK gs)) b us := fun b us q => sqT_upd (fun ws hr => by
        rcases hr with z | ⟨ob, z⟩
        · rw [hp2] at z; cases z
        · rw [hp2] at z; cases z) q
      have Rn : Rel T K (m2 ++ [p]) (h2 ++ [.dct kvs]) (upd H2 p (.dK gs)) := by
        refine ⟨by simp [R2.len], ?_, fun nn a o ea eo => ?_⟩
        · rw [List.nodup_append]
          refine ⟨R2.nd, by simp, fun a ha b hb => ?_⟩
          have : b = p := by simpa using hb
          subst this
          intro z; subst z; exact pm2 ha
        · by_cases hn : nn < m2.length
          · rw [List.getElem?_append_left hn] at ea
            rw [List.getElem?_append_left (by rw [← R2.len]; exact hn)] at eo
            obtain ⟨u, eu, r⟩ := R2.ob nn a o ea eo
            have na : a ≠ p := fun z => pm2 (z ▸ List.mem_of_getElem? ea)
            exact ⟨u, by rw [upd_ne na]; exact eu, (r.same ET).grow⟩
          · have hn' : m2.length ≤ nn := Nat.le_of_not_lt hn
            rw [List.getElem?_append_right hn'] at ea
            rw [List.getElem?_append_right (by rw [← R2.len]; exact hn')] at eo
            rw [← R2.len] at eo
            cases q : nn - m2.length with
            | zero =>
              rw [q] at ea eo
              simp at ea eo
              subst ea eo
              exact ⟨_, upd_same, .dct (kr.same ET).grow⟩
            | succ kk =>
              rw [q] at ea
              simp at ea
      have Ef : Ext K m H (m2 ++ [p]) (upd H2 p (.dK gs)) := by
        obtain ⟨r, hr⟩ := e2.pre
        refine ⟨⟨r ++ [p], by rw [hr]; simp⟩, fun b o eb nb => ?_, fun a ha hn => ?_, fun b us q => ET _ _ (e2.tups _ _ (E0.tups _ _ q))⟩
        · have bp : b ≠ p := ne_of_none eb hp
          rw [upd_ne bp]
          exact e2.keep _ _ (E0.keep _ _ eb nb) nb
        · rcases List.mem_append.mp ha with q | q
          · have := e2.fresh a q hn
            by_cases hap : a = p
            · subst hap; exact hp
            · rw [upd_ne hap] at this; exact this
          · have : a = p := by simpa using q
            subst this; exact hp
      exact z _ _ Ef Rn _ (.loc (by rw [← R2.len]; simp))
    · exact z.elim
end
end PM
set_option Elab.async false
set_option linter.all false
set_option maxRecDepth 100000
set_option maxHeartbeats 4000000
/-! PM11: every expression that compiles runs as PM says. -/
namespace PM
open PySem PySem.Spec PyProof.Rows L2
/-- plain of shape -/
structure OkE (e : Expr) : Prop where
  star : isStar e = false
  set : ∀ op, behindInMarks op e = false
  fold : ∀ env x, foldedSetIterable e env x = pure x
  ix : PlainIx e
theorem cE_ok {G : Gt} {N : List Str} {f : Nat} {sc : Scope} {fnB : Str → Bool} {hn : Option Str} {e : Expr} {x : E} (c : cE G N f sc fnB hn e = some x) : OkE e := by
  cases f with
  | zero => cases c
  | succ f =>
    cases e with
    | Slice l u s p => cases c
    | Starred a p => cases c
    | Set es n p => cases c
    | _ => exact ⟨rfl, fun _ => rfl, fun _ _ => rfl, fun _ _ => rfl⟩
section
variable {X : Cx} {T : Tb} {G : Gt} {Pr : Pg} {N : List Str} {sc : Scope} {fnB : Str → Bool} {hot : Option Hot} {k : Nat} {W : WX}
/-- as a value, as a test -/
structure PB (X : Cx) (T : Tb) (Pr : Pg) (k : Nat) (hot : Option Hot) (W : WX) (e : Expr) (x : E) : Prop where
  ev : PE X e (tE T X.K hot (Pg.ct Pr (calls Pr k)) W x)
  te : PT X e (tT T X.K hot (Pg.ct Pr (calls Pr k)) W x)
theorem pB {e : Expr} {x : E} (p : PE X e (tE T X.K hot (Pg.ct Pr (calls Pr k)) W x)) (he : ∀ whole, isTrue e X.env whole = (do let v ← whole; standAt e.pos; holding [v] (truthy v))) : PB X T Pr k hot W e x := ⟨p, pT_plain he p⟩
/-- the handled exception's name is known -/
def HnOk (hn : Option Str) (hot : Option Hot) (N : List Str) (sc : Scope) : Prop := ∀ x, hn = some x → okName x = true ∧ Vis sc x ∧ ∃ t, hot = some t
theorem hotIs_of {hn : Option Str} {a : Expr} {x : Str} (e : hotIs hn a = some x) : hn = some x ∧ ∃ p, a = .Name x p := by
  unfold hotIs at e
  split at e
  · split at e
    · rename_i q
      cases e
      subst q
      exact ⟨rfl, _, rfl⟩
    · cases e
  · cases e
theorem pE_lc {elt tg it : Expr} {ifs : List Expr} {scope : Scope} {own : List (Str × Nat)} {pos : Pos} {t : Tg} {w : PM.It} {fs : Es} {x : E} (xk : Xk X T G Pr N sc fnB none k) (bk : blkC N sc scope own = true) (ct : cTg N (relS scope sc) (fun x => scope.names.lookup x == some .cell) tg = some t) (hsl : ∀ i ∈ t.slots, i ∈ own.map (·.2))
    (pi : PI X tg it (tIt T X.K (Pg.ct Pr (calls Pr k)) W w)) (pt : ∀ Y : Cx, Xk Y T G Pr N (relS scope sc) (fun x => scope.names.lookup x == some .cell) none k → Takes Y W0 → PTs Y ifs (tTs T Y.K (Pg.ct Pr (calls Pr k)) W0 fs))
    (pe : ∀ Y : Cx, Xk Y T G Pr N (relS scope sc) (fun x => scope.names.lookup x == some .cell) none k → Takes Y W0 → PE Y elt (tE T Y.K none (Pg.ct Pr (calls Pr k)) W0 x)) (hs : ∀ x, foldedSetIterable it X.env x = pure x) :
    PE X (.ListComp elt [⟨tg, it, ifs, 0⟩] scope pos) (tE T X.K none (Pg.ct Pr (calls Pr k)) W (.lc (own.map (·.2)) t w fs x)) := by
  have ok : BlkOk X.N X.env.scope scope own := by rw [xk.hN, xk.hsc]; exact blkOk_by bk
  refine PE.imp (pe_lc (g := gT X.K t) (tt := tTs T X.K (Pg.ct Pr (calls Pr k)) W0 fs) (te := tE T X.K none (Pg.ct Pr (calls Pr k)) W0 x) (xk.calm rfl) (by rw [xk.hN]; exact xk.nd) pi ok ?_ ?_ ?_ hs) fun σ H Q hh => lc_read hsl hh
  · intro s H C cl fp
    exact pG_tg (X := X.blk s H scope (compEnvC scope cl C X.env) fp) xk.blk ct
  · intro s H C cl fp
    exact pt _ xk.blk takes0
  · intro s H C cl fp
    exact pe _ xk.blk takes0
theorem pE_hot {e : Expr} {x : E} {t : Hot} (h : ∀ n h, n.x.isSome = true → ev (Pg.ct Pr (calls Pr k)) x n h = .bad) : PE X e (tE T X.K (some t) (Pg.ct Pr (calls Pr k)) W x) := by
  refine ⟨fun pins s σ H Q I hh => ?_⟩
  obtain ⟨m, h', n, R, er, g⟩ := hh
  rw [h n h' er.hotx] at g
  exact g.elim
section
variable {f : Expr → Option E}
theorem cEs_nil {es : List Expr} {xs : Es} (c : cEs f es = some xs) : es = [] → xs = .nil := by
  intro e; subst e; cases c; rfl
theorem cEs_pa (hf : ∀ e x, f e = some x → OkE e ∧ PB X T Pr k hot W e x) : ∀ {es : List Expr} {xs : Es}, cEs f es = some xs → PA X es (tEs T X.K hot (Pg.ct Pr (calls Pr k)) W xs) ∧ (es.all fun a => !isStar a) = true
  | [], xs, c => by cases c; exact ⟨pEs_nil, rfl⟩
  | e :: es, xs, c => by
    simp only [cEs, Option.bind_eq_bind, Option.bind_eq_some_iff] at c
    obtain ⟨x, c1, ys, c2, c3⟩ := c
    cases c3
    obtain ⟨o, b⟩ := hf e x c1
    obtain ⟨q1, q2⟩ := cEs_pa hf c2
    exact ⟨pEs_cons o.star b.ev q1, by simp [o.star] at q2 ⊢; exact q2⟩
theorem cDict_ok {pos : Pos} (hf : ∀ e x, f e = some x → OkE e ∧ PB X T Pr k hot W e x) : ∀ {ks : List (Option Expr)} {vs : List Expr} {es : Es}, cDict f ks vs = some es → PPs X pos ks vs (trsOf T X.K hot (Pg.ct Pr (calls Pr k)) W es) ∧ evenE es = true ∧ ks.all (·.isSome) = true ∧ ks.length = vs.length
  | [], [], es, c => by cases c; exact ⟨pps_nil, rfl, rfl, rfl⟩
  | [], _ :: _, es, c => by cases c
  | none :: _, [], es, c => by cases c
  | none :: _, _ :: _, es, c => by cases c
  | some _ :: _, [], es, c => by cases c
  | some a :: ks, v :: vs, es, c => by
    simp only [cDict, Option.bind_eq_bind, Option.bind_eq_some_iff] at c
    obtain ⟨x, c1, y, c2, r, c3, c4⟩ := c
    cases c4
    obtain ⟨p1, p2, p3, p4⟩ := cDict_ok (pos := pos) hf c3
    exact ⟨pps_cons (hf _ _ c1).2.ev (hf _ _ c2).2.ev p1, p2, by simp at p3 ⊢; exact p3, by simp [p4]⟩
theorem pE_dct {pos : Pos} {ks : List (Option Expr)} {vs : List Expr} {es : Es} (hf : ∀ e x, f e = some x → OkE e ∧ PB X T Pr k hot W e x) (c : cDict f ks vs = some es) (hl : ks.length ≤ 15) : PE X (.Dict ks vs pos) (tE T X.K hot (Pg.ct Pr (calls Pr k)) W (.dct es)) := by
  obtain ⟨p1, p2, p3, p4⟩ := cDict_ok (pos := pos) hf c
  by_cases h0 : ks = []
  · subst h0
    have : vs = [] := List.length_eq_zero_iff.mp p4.symm
    subst this
    cases c
    refine PE.imp pe_dnewK fun σ H Q hh => ?_
    intro p hp
    obtain ⟨_, kvs, e1, _, q⟩ := dct_read p2 hh p hp
    have : kvs = [] := by
      cases kvs with
      | nil => rfl
      | cons a b => cases e1
    subst this
    have e : upd (upd H p (.dK [])) p (.dK (mergeK [] [])) = upd H p (.dK []) := by
      funext b
      by_cases hb : b = p
      · subst hb; rw [upd_same, upd_same]; rfl
      · rw [upd_ne hb, upd_ne hb]
    rw [e] at q
    exact q
  · exact PE.imp (pe_disp p1 p3 p4 h0 hl) fun σ H Q hh => dct_read p2 hh
theorem cEs_ts {Y : Cx} (hf : ∀ e x, f e = some x → OkE e ∧ PB Y T Pr k none W e x) : ∀ {es : List Expr} {xs : Es}, es.length ≤ 1 → cEs f es = some xs → PTs Y es (tTs T Y.K (Pg.ct Pr (calls Pr k)) W xs)
  | [], xs, _, c => by cases c; exact pTs_nil
  | [a], xs, _, c => by
    simp only [cEs, Option.bind_eq_bind, Option.bind_eq_some_iff] at c
    obtain ⟨y, d1, ys, d2, d3⟩ := c
    cases d2; cases d3
    exact pTs_one (hf _ _ d1).2.te
  | _ :: _ :: _, _, h, _ => by simp at h
theorem cBool_ok {pos : Pos} {op : BoolOp} (hf : ∀ e x, f e = some x → OkE e ∧ PB X T Pr k hot W e x) : ∀ {es : List Expr} {x : E}, cBool f op es = some x → PE X (.BoolOp op es pos) (tE T X.K hot (Pg.ct Pr (calls Pr k)) W x) ∧ PW X (.BoolOp op es pos) (tT T X.K hot (Pg.ct Pr (calls Pr k)) W x)
  | [], x, c => by cases c
  | [e], x, c => by
    obtain ⟨o, b⟩ := hf e x c
    refine ⟨pe_one b.ev, ?_⟩
    cases op with
    | And => exact pw_and1 b.te
    | Or => exact pw_or1 b.te
  | e :: e' :: es, x, c => by
    rw [cBool] at c
    simp only [Option.bind_eq_bind, Option.bind_eq_some_iff] at c
    obtain ⟨x1, c1, y, c2, c3⟩ := c
    cases c3
    obtain ⟨o, b⟩ := hf e x1 c1
    obtain ⟨q1, q2⟩ := cBool_ok (pos := pos) (op := op) hf c2
    cases op with
    | And => exact ⟨pE_and b.ev q1, pW_and b.te q2⟩
    | Or => exact ⟨pE_or b.ev q1, pW_or b.te q2⟩
theorem cIt_ok {tg e : Expr} {w : PM.It} (xk : Xk X T G Pr N sc fnB none k) (hf : ∀ e x, f e = some x → OkE e ∧ PB X T Pr k none W e x) (c : cIt G sc tg f e = some w) : PI X tg e (tIt T X.K (Pg.ct Pr (calls Pr k)) W w) := by
  have val : (f e).map PM.It.val = some w → PI X tg e (tIt T X.K (Pg.ct Pr (calls Pr k)) W w) := fun z => by
    simp only [Option.map_eq_some_iff] at z
    obtain ⟨x, c1, rfl⟩ := z
    exact pI_val (hf _ _ c1).2.ev
  unfold cIt at c
  split at c
  · split at c
    · rename_i hr
      subst hr
      split at c
      · rename_i q
        simp only [Bool.and_eq_true] at q
        simp only [Option.map_eq_some_iff] at c
        obtain ⟨x, c1, rfl⟩ := c
        exact pI_rng1 xk q.1.1.2 q.1.2 (hf _ _ c1).1.star (hf _ _ c1).2.ev
      · cases c
    · split at c
      · rename_i hr
        subst hr
        split at c
        · rename_i q
          simp only [Bool.and_eq_true] at q
          simp only [Option.map_eq_some_iff] at c
          obtain ⟨x, c1, rfl⟩ := c
          cases tg with
          | Tuple es kk tp => exact pI_enu xk q.1.1.1.2 q.1.1.2 (hf _ _ c1).1.star (hf _ _ c1).2.ev
          | _ => simp [isTupE] at q
        · cases c
      · exact val c
  · split at c
    · rename_i hr
      subst hr
      split at c
      · rename_i q
        simp only [Bool.and_eq_true] at q
        simp only [Option.bind_eq_bind, Option.bind_eq_some_iff] at c
        obtain ⟨x, c1, y, c2, c3⟩ := c
        cases c3
        exact pI_rng2 xk q.1.1.1.2 q.1.1.2 (hf _ _ c1).1.star (hf _ _ c2).1.star (hf _ _ c1).2.ev (hf _ _ c2).2.ev
      · cases c
    · exact val c
  · exact val c
theorem cIt_ok' {tg e : Expr} {w : PM.It} {f : Expr → Option E} (hf : ∀ e x, f e = some x → OkE e) (c : cIt G sc tg f e = some w) : ∀ env x, foldedSetIterable e env x = pure x := by
  have val : (f e).map PM.It.val = some w → ∀ env x, foldedSetIterable e env x = pure x := fun z => by
    simp only [Option.map_eq_some_iff] at z
    obtain ⟨x, c1, rfl⟩ := z
    exact (hf _ _ c1).fold
  unfold cIt at c
  split at c
  · exact fun _ _ => rfl
  · exact fun _ _ => rfl
  · exact val c
end
theorem main (hmt : G.mt.lookup ("__eq__" : Str) = some mEq) : ∀ (f : Nat) {X : Cx} {sc : Scope} {fnB : Str → Bool} {hot : Option Hot} {hn : Option Str} {W : WX} {e : Expr} {x : E}, Xk X T G Pr N sc fnB hot k → HnOk hn hot N sc → Takes X W → cE G N f sc fnB hn e = some x → PB X T Pr k hot W e x
  | 0, _, _, _, _, _, _, _, _, _, _, _, c => by cases c
  | f + 1, X, sc, fnB, hot, hn, W, e, x, xk, hk, tk, c => by
    have ih : ∀ e x, cE G N f sc fnB hn e = some x → OkE e ∧ PB X T Pr k hot W e x := fun e x c => ⟨cE_ok c, main hmt f xk hk tk c⟩
    unfold cE at c
    split at c
    · cases c; exact pB (pE_const pe_non (fun _ _ => .non) fun _ _ _ => by simp only [ev]) fun _ => rfl
    · cases c; exact pB (pE_const pe_bl (fun _ _ => .bl _) fun _ _ _ => by simp only [ev]) fun _ => rfl
    · cases c; exact pB (pE_const pe_int (fun _ _ => .int _) fun _ _ _ => by simp only [ev]) fun _ => rfl
    · cases c; exact pB (pE_const pe_str (fun _ _ => .str _) fun _ _ _ => by simp only [ev]) fun _ => rfl
    · -- a name
      split at c
      · rename_i ok
        split at c
        · rename_i hg
          simp only [Option.map_eq_some_iff] at c
          obtain ⟨d, c1, rfl⟩ := c
          obtain ⟨u, v, e1, e2, e3⟩ := xk.pf.co _ _ c1
          exact pB (pE_const (pe_glob (isGlob_Gl xk hg) e1 e2 (okName_d ok)) e3 fun _ _ _ => by simp only [ev]) fun _ => rfl
        · split at c
          · cases c
          · simp only [Option.map_eq_some_iff] at c
            obtain ⟨i, c1, rfl⟩ := c
            exact pB (pE_var xk ok c1) fun _ => rfl
      · cases c
    · simp only [Option.map_eq_some_iff] at c
      obtain ⟨xs, c1, rfl⟩ := c
      exact pB (pE_tup (cEs_pa ih c1).1) fun _ => rfl
    · simp only [Option.map_eq_some_iff] at c
      obtain ⟨xs, c1, rfl⟩ := c
      exact pB (pE_lst (cEs_pa ih c1).1) fun _ => rfl
    · split at c
      · rename_i hl
        simp only [Option.map_eq_some_iff] at c
        obtain ⟨xs, c1, rfl⟩ := c
        exact pB (pE_dct ih c1 hl) fun _ => rfl
      · cases c
    · simp only [Option.bind_eq_bind, Option.bind_eq_some_iff] at c
      obtain ⟨x1, c1, y, c2, c3⟩ := c
      cases c3
      exact pB (pE_bin (ih _ _ c1).2.ev (ih _ _ c2).2.ev) fun _ => rfl
    · simp only [Option.map_eq_some_iff] at c
      obtain ⟨x1, c1, rfl⟩ := c
      exact pB (pE_neg (ih _ _ c1).2.ev) fun _ => rfl
    · simp only [Option.map_eq_some_iff] at c
      obtain ⟨x1, c1, rfl⟩ := c
      exact ⟨pE_not (ih _ _ c1).2.ev, pT_not (ih _ _ c1).2.te⟩
    · exact ⟨(cBool_ok ih c).1, (cBool_ok ih c).2.pt⟩
    · simp only [Option.bind_eq_bind, Option.bind_eq_some_iff] at c
      obtain ⟨x1, c1, y, c2, c3⟩ := c
      cases c3
      exact ⟨pE_cmp xk hmt ((ih _ _ c2).1.set _) (ih _ _ c1).2.ev (ih _ _ c2).2.ev, pT_cmp xk hmt ((ih _ _ c2).1.set _) (ih _ _ c1).2.ev (ih _ _ c2).2.ev⟩
    · simp only [Option.bind_eq_bind, Option.bind_eq_some_iff] at c
      obtain ⟨x1, c1, y, c2, z, c3, c4⟩ := c
      cases c4
      have hm : ∀ o1 o2 b d, (∀ op, behindInMarks op d = false) → lastMarks [o1, o2] [b, d] = false := fun o1 o2 b d q => q o2
      exact ⟨pE_chn xk (hm _ _ _ _ (ih _ _ c3).1.set) (ih _ _ c1).2.ev (ih _ _ c2).2.ev (ih _ _ c3).2.ev, pT_chn xk (hm _ _ _ _ (ih _ _ c3).1.set) (ih _ _ c1).2.ev (ih _ _ c2).2.ev (ih _ _ c3).2.ev⟩
    · simp only [Option.bind_eq_bind, Option.bind_eq_some_iff] at c
      obtain ⟨x1, c1, y, c2, z, c3, c4⟩ := c
      cases c4
      exact ⟨pE_ife (ih _ _ c1).2.te (ih _ _ c2).2.ev (ih _ _ c3).2.ev, pT_ife (ih _ _ c1).2.te (ih _ _ c2).2.te (ih _ _ c3).2.te⟩
    · -- a call of a name
      split at c
      · rename_i hi
        subst hi
        unfold cIsi at c
        split at c
        · split at c
          · rename_i q
            simp only [Bool.and_eq_true] at q
            simp only [Option.bind_eq_bind, Option.bind_eq_some_iff] at c
            obtain ⟨ty, c1, c⟩ := c
            split at c
            · rename_i hq
              obtain ⟨e1, p, rfl⟩ := hotIs_of hq
              obtain ⟨ok, vs, t, rfl⟩ := hk _ e1
              simp only [Option.map_eq_some_iff] at c
              obtain ⟨i, c2, rfl⟩ := c
              exact pB (pE_exi xk q.1.1.2 q.1.2 ok vs c2 q.1.1.1 q.2 c1) fun _ => rfl
            · simp only [Option.map_eq_some_iff] at c
              obtain ⟨x1, c2, rfl⟩ := c
              exact pB (pE_isi xk q.1.1.2 q.1.2 q.1.1.1 q.2 c1 (ih _ _ c2).1.star (ih _ _ c2).2.ev) fun _ => rfl
          · cases c
        · cases c
      · unfold cCall at c
        split at c
        · rename_i q
          simp only [Bool.and_eq_true] at q
          simp only [Option.bind_eq_bind, Option.bind_eq_some_iff] at c
          obtain ⟨ys, c1, c⟩ := c
          split at c
          · rename_i hq
            cases c
            exact pB (pE_call xk tk q.1.1 q.1.2 q.2 (cEs_nil c1) hq (cEs_pa ih c1).1) fun _ => rfl
          · split at c
            · rename_i hq
              cases c
              exact pB (pE_make xk tk q.1.1 q.1.2 q.2 (cEs_nil c1) hq (cEs_pa ih c1).1) fun _ => rfl
            · simp only [Option.map_eq_some_iff] at c
              obtain ⟨b, c2, rfl⟩ := c
              exact pB (pE_blt xk q.1.2 q.2 c2 (cEs_pa ih c1).1) fun _ => rfl
        · cases c
    · -- a method
      split at c
      · rename_i q
        simp only [Bool.and_eq_true, decide_eq_true_eq] at q
        simp only [Option.bind_eq_bind, Option.bind_eq_some_iff] at c
        obtain ⟨x1, c1, ys, c2, c⟩ := c
        split at c
        · rename_i hq
          cases c
          exact pB (pE_mth xk tk q.1.1.1 q.1.1.2 (cEs_nil c2) q.1.2 q.2 hq (ih _ _ c1).2.ev (cEs_pa ih c2).1) fun _ => rfl
        · simp only [Option.map_eq_some_iff] at c
          obtain ⟨b, c3, rfl⟩ := c
          exact pB (pE_bmt q.1.1.1 q.1.1.2 q.1.2 q.2 c3 (ih _ _ c1).2.ev (cEs_pa ih c2).1) fun _ => rfl
      · cases c
    · -- an attribute
      split at c
      · rename_i hq
        obtain ⟨e1, p, rfl⟩ := hotIs_of hq
        obtain ⟨ok, vs, t, rfl⟩ := hk _ e1
        simp only [Option.bind_eq_bind, Option.bind_eq_some_iff] at c
        obtain ⟨i, c1, j, c2, c3⟩ := c
        cases c3
        exact pB (pE_exa xk ok vs c1 c2) fun _ => rfl
      · split at c
        · rename_i q
          simp only [Option.bind_eq_bind, Option.bind_eq_some_iff] at c
          obtain ⟨x1, c1, j, c2, c3⟩ := c
          cases c3
          exact pB (pE_att xk q c2 (ih _ _ c1).2.ev) fun _ => rfl
        · cases c
    · simp only [Option.bind_eq_bind, Option.bind_eq_some_iff] at c
      obtain ⟨x1, c1, y, c2, c3⟩ := c
      cases c3
      exact pB (pE_slo (ih _ _ c1).2.ev (ih _ _ c2).2.ev) fun _ => rfl
    · simp only [Option.bind_eq_bind, Option.bind_eq_some_iff] at c
      obtain ⟨x1, c1, y, c2, c3⟩ := c
      cases c3
      exact pB (pE_shi (ih _ _ c1).2.ev (ih _ _ c2).2.ev) fun _ => rfl
    · simp only [Option.bind_eq_bind, Option.bind_eq_some_iff] at c
      obtain ⟨x1, c1, y, c2, z, c3, c4⟩ := c
      cases c4
      exact pB (pE_slh (ih _ _ c1).2.ev (ih _ _ c2).2.ev (ih _ _ c3).2.ev) fun _ => rfl
    · simp only [Option.bind_eq_bind, Option.bind_eq_some_iff] at c
      obtain ⟨x1, c1, y, c2, c3⟩ := c
      cases c3
      exact pB (pE_sub xk (ih _ _ c2).1.ix (ih _ _ c1).2.ev (ih _ _ c2).2.ev) fun _ => rfl
    · -- a list comprehension
      split at c
      · rename_i q
        obtain ⟨q1, q2⟩ := q
        subst q1
        simp only [Option.bind_eq_bind, Option.bind_eq_some_iff] at c
        obtain ⟨t, c1, c⟩ := c
        split at c
        · rename_i hsl
          simp only [Option.bind_eq_some_iff] at c
          obtain ⟨w, c2, fs, c3, x1, c4, c⟩ := c
          split at c
          · rename_i hl
            cases c
            refine pB ?_ fun _ => rfl
            cases hot with
            | some t => exact pE_hot fun n h e => by simp only [ev]; rw [if_pos e]
            | none =>
              refine pE_lc xk q2 c1 (by simpa using hsl) (cIt_ok xk ih c2) ?_ ?_ (fun x => cIt_ok' (fun e x c => cE_ok c) c2 _ x)
              · intro Y yk ty
                have ih2 : ∀ e x, cE G N f (relS _ sc) (fun x => _) none e = some x → OkE e ∧ PB Y T Pr k none W0 e x := fun e x c => ⟨cE_ok c, main hmt f yk (fun _ z => by cases z) ty c⟩
                exact cEs_ts ih2 hl c3
              · intro Y yk ty
                exact (main hmt f yk (fun _ z => by cases z) ty c4).ev
          · cases c
        · cases c
      · cases c
    · cases c
end
end PM
set_option Elab.async false
set_option linter.all false
set_option maxRecDepth 100000
set_option maxHeartbeats 4000000
/-! PM12: statements, one by one. -/
namespace PM
open PySem PySem.Spec PyProof.Rows L2
/-- a frame's result is good -/
def GdS (T : Tb) (K : PySem.W.Frag) (hot : Option Hot) (r : Rs) (m : List Addr) (H : Hp) (D : Ends) (W : WX) : Prop := match r with
  | .nx n h => ∀ m' H' σ', Ext K m H m' H' → Rel T K m' h H' → ER T K hot m' H' n σ' → D.nx σ' H'
  | .rt d h => ∀ m' H' v, Ext K m H m' H' → Rel T K m' h H' → VR K m' H' d v → D.rt v H'
  | .bk n h => ∀ m' H' σ', Ext K m H m' H' → Rel T K m' h H' → ER T K hot m' H' n σ' → D.bk σ' H'
  | .ct n h => ∀ m' H' σ', Ext K m H m' H' → Rel T K m' h H' → ER T K hot m' H' n σ' → D.ct σ' H'
  | .th c fs n h => ∀ m' H' σ' cls d, Ext K m H m' H' → Rel T K m' h H' → ER T K hot m' H' n σ' → XR T K m' H' c fs cls d → W cls d σ' H'
  | .bad => False
def tS (T : Tb) (K : PySem.W.Frag) (hot : Option Hot) (C : Ct) (W : WX) (s : S) : TS := fun D σ H => ∃ m h n, Rel T K m h H ∧ ER T K hot m H n σ ∧ GdS T K hot (ex C s n h) m H D W
def tSs (T : Tb) (K : PySem.W.Frag) (hot : Option Hot) (C : Ct) (W : WX) (s : Ss) : TS := fun D σ H => ∃ m h n, Rel T K m h H ∧ ER T K hot m H n σ ∧ GdS T K hot (exs C s n h) m H D W
theorem PS.imp {X : Cx} {e : Stmt} {t t' : TS} (p : PS X e t) (f : ∀ D σ H, t' D σ H → t D σ H) : PS X e t' := ⟨fun pins s σ H D I h => p.run pins s σ H D I (f D σ H h)⟩
theorem PSs.imp {X : Cx} {e : List Stmt} {t t' : TS} (p : PSs X e t) (f : ∀ D σ H, t' D σ H → t D σ H) : PSs X e t' := ⟨fun pins s σ H D I h => p.run pins s σ H D I (f D σ H h)⟩
section
variable {T : Tb} {K : PySem.W.Frag} {hot : Option Hot} {m m1 : List Addr} {H H1 : Hp} {D D' : Ends} {W : WX} {σ : L2.St} {n : En} {h : Hh}
theorem GdS.from {r : Rs} (e : Ext K m H m1 H1) (x : GdS T K hot r m H D W) : GdS T K hot r m1 H1 D W := by
  cases r with
  | nx n h => exact fun m' H' σ' e' R r => x m' H' σ' (e.trans e') R r
  | rt d h => exact fun m' H' v e' R r => x m' H' v (e.trans e') R r
  | bk n h => exact fun m' H' σ' e' R r => x m' H' σ' (e.trans e') R r
  | ct n h => exact fun m' H' σ' e' R r => x m' H' σ' (e.trans e') R r
  | th c fs n h => exact fun m' H' σ' cls d e' R r z => x m' H' σ' cls d (e.trans e') R r z
  | bad => exact x
theorem GdS.inS {r : PM.R PM.D} {f : PM.D → Hh → Rs} {E : Ends} (Rl : Rel T K m h H) (er : ER T K hot m H n σ) (x : GdS T K hot (PM.inS r n f) m H E W) : Gd T K r m H (fun d m1 h1 H1 => GdS T K hot (f d h1) m1 H1 E W) (fun c d H' => W c d σ H') := by
  cases r with
  | ok d h => exact fun m' H' e R => GdS.from e x
  | exc c fs h => exact fun m' H' cls d e R z => x m' H' σ cls d e R (er.mono Rl e) z
  | bad => exact x
end
section
variable {X : Cx} {T : Tb} {G : Gt} {Pr : Pg} {N : List Str} {sc : Scope} {fnB : Str → Bool} {hot : Option Hot} {k : Nat} {W : WX} {pos : Pos}
theorem pSs_nil : PSs X [] (tSs T X.K hot (Pg.ct Pr (calls Pr k)) W .nil) := by
  refine PSs.imp pss_nil fun D σ H hh => ?_
  obtain ⟨m, h, n, R, er, g⟩ := hh
  simp only [exs] at g
  exact g m H σ Ext.refl R er
theorem pSs_cons {st : Stmt} {rest : List Stmt} {s : S} {ss : Ss} (p : PS X st (tS T X.K hot (Pg.ct Pr (calls Pr k)) W s)) (ps : PSs X rest (tSs T X.K hot (Pg.ct Pr (calls Pr k)) W ss)) : PSs X (st :: rest) (tSs T X.K hot (Pg.ct Pr (calls Pr k)) W (.cons s ss)) := by
  refine PSs.imp (pss_cons p ps) fun D σ H hh => ?_
  obtain ⟨m, h, n, R, er, g⟩ := hh
  simp only [exs] at g
  refine ⟨m, h, n, R, er, ?_⟩
  cases q : ex (Pg.ct Pr (calls Pr k)) s n h with
  | nx n1 h1 =>
    rw [q] at g
    exact fun m' H' σ' e R' er' => ⟨m', h1, n1, R', er', GdS.from e g⟩
  | rt d h1 => rw [q] at g; exact g
  | bk n1 h1 => rw [q] at g; exact g
  | ct n1 h1 => rw [q] at g; exact g
  | th c fs n1 h1 => rw [q] at g; exact g
  | bad => rw [q] at g; exact g
theorem pS_pas : PS X (.Pass pos) (tS T X.K hot (Pg.ct Pr (calls Pr k)) W .pas) := by
  refine PS.imp ps_pass fun D σ H hh => ?_
  obtain ⟨m, h, n, R, er, g⟩ := hh
  simp only [ex] at g
  exact g m H σ Ext.refl R er
theorem pS_brk : PS X (.Break pos) (tS T X.K hot (Pg.ct Pr (calls Pr k)) W .brk) := by
  refine PS.imp ps_break fun D σ H hh => ?_
  obtain ⟨m, h, n, R, er, g⟩ := hh
  simp only [ex] at g
  exact g m H σ Ext.refl R er
theorem pS_cnt : PS X (.Continue pos) (tS T X.K hot (Pg.ct Pr (calls Pr k)) W .cnt) := by
  refine PS.imp ps_continue fun D σ H hh => ?_
  obtain ⟨m, h, n, R, er, g⟩ := hh
  simp only [ex] at g
  exact g m H σ Ext.refl R er
theorem pS_rtN : PS X (.Return none pos) (tS T X.K hot (Pg.ct Pr (calls Pr k)) W .rtN) := by
  refine PS.imp ps_retN fun D σ H hh => ?_
  obtain ⟨m, h, n, R, er, g⟩ := hh
  simp only [ex] at g
  exact g m H _ Ext.refl R .non
theorem pS_ret {e : Expr} {x : E} (p : PE X e (tE T X.K hot (Pg.ct Pr (calls Pr k)) W x)) : PS X (.Return (some e) pos) (tS T X.K hot (Pg.ct Pr (calls Pr k)) W (.ret x)) := by
  refine PS.imp (ps_ret p) fun D σ H hh => ?_
  obtain ⟨m, h, n, R, er, g⟩ := hh
  simp only [ex] at g
  exact ⟨m, h, n, R, er, (g.inS R er).imp (fun d m1 h1 H1 e1 R1 z v vr => z m1 H1 v Ext.refl R1 vr) fun _ _ _ q => q⟩
theorem pS_exp {e : Expr} {x : E} (p : PE X e (tE T X.K hot (Pg.ct Pr (calls Pr k)) W x)) (hs : swapsWith e none pos.line X.env = pure false) : PS X (.Expr e pos) (tS T X.K hot (Pg.ct Pr (calls Pr k)) W (.exp x)) := by
  refine PS.imp (ps_expr p hs) fun D σ H hh => ?_
  obtain ⟨m, h, n, R, er, g⟩ := hh
  simp only [ex] at g
  exact ⟨m, h, n, R, er, (g.inS R er).imp (fun d m1 h1 H1 e1 R1 z v vr => z m1 H1 σ Ext.refl R1 (er.mono R e1)) fun _ _ _ q => q⟩
theorem ER.setF {K : PySem.W.Frag} {m : List Addr} {H : Hp} {n : En} {σ : L2.St} {d : D} {v : V} {i : Nat} (er : ER T K hot m H n σ) (fr : n.free i = true) (vr : VR K m H d v) : ER T K hot m H (setS n i d) (σ.set i (some v)) := by
  refine ⟨by simp [setS, er.len], fun j d' q => ?_, ?_⟩
  · simp only [setS] at q
    by_cases hj : i = j
    · subst hj
      by_cases hl : i < n.s.length
      · rw [List.getElem?_set_self hl] at q
        cases q
        exact ⟨v, by rw [List.getElem?_set_self (by rw [← er.len]; exact hl)], vr⟩
      · rw [List.getElem?_eq_none (by simpa using hl)] at q; cases q
    · rw [List.getElem?_set_ne hj] at q ⊢
      exact er.val j d' q
  · have z := er.ht
    unfold HotOk at z ⊢
    simp only [setS]
    cases hx : n.x with
    | none =>
      rw [hx] at z
      cases hot with
      | none => trivial
      | some t => exact z
    | some q =>
      rw [hx] at z
      cases hot with
      | none => exact z
      | some t =>
        refine ⟨z.1, z.2.1, fun j hj => ?_⟩
        have ne : i ≠ j := fun e => by
          unfold En.free at fr
          rw [hx] at fr
          simp only [decide_eq_true_eq] at fr
          exact fr (by rw [z.2.1, hj, e])
        rw [List.getElem?_set_ne ne]
        exact z.2.2 j hj
theorem pS_ass {y : Str} {py : Pos} {e : Expr} {i : Nat} {x : E} (xk : Xk X T G Pr N sc fnB hot k) (hi : X.N[i]? = some y) (hl : Loc X.env.scope y) (hf : X.fn y = true ∨ X.env.scope.names.lookup y = some .local) (hs : swapsWith e (some (.Name y py)) pos.line X.env = pure false) (p : PE X e (tE T X.K hot (Pg.ct Pr (calls Pr k)) W x)) :
    PS X (.Assign [.Name y py] e pos) (tS T X.K hot (Pg.ct Pr (calls Pr k)) W (.ass i x)) := by
  refine PS.imp (ps_set (by rw [xk.hN]; exact xk.nd) hi hl p hs hf) fun D σ H hh => ?_
  obtain ⟨m, h, n, R, er, g⟩ := hh
  simp only [ex] at g
  split at g
  · rename_i fr
    exact ⟨m, h, n, R, er, (g.inS R er).imp (fun d m1 h1 H1 e1 R1 z v vr => z m1 H1 _ Ext.refl R1 ((er.mono R e1).setF fr vr)) fun _ _ _ q => q⟩
  · exact g.elim
theorem pS_ite {c : Expr} {a b : List Stmt} {x : E} {as bs : Ss} (pc : PT X c (tT T X.K hot (Pg.ct Pr (calls Pr k)) W x)) (pa : PSs X a (tSs T X.K hot (Pg.ct Pr (calls Pr k)) W as)) (pb : PSs X b (tSs T X.K hot (Pg.ct Pr (calls Pr k)) W bs)) :
    PS X (.If c a b pos) (tS T X.K hot (Pg.ct Pr (calls Pr k)) W (.ite x as bs)) := by
  refine PS.imp (ps_if pc pa pb) fun D σ H hh => ?_
  obtain ⟨m, h, n, R, er, g⟩ := hh
  simp only [ex] at g
  refine ⟨m, h, n, R, er, ?_⟩
  cases q : ev (Pg.ct Pr (calls Pr k)) x n h with
  | bad => rw [q] at g; exact g
  | exc c fs h1 => rw [q] at g; exact fun m' H' cls d e R' z => g m' H' σ cls d e R' (er.mono R e) z
  | ok d h1 =>
    rw [q] at g
    dsimp only [inS, PM.R.bind, tru] at g ⊢
    cases t : truth h1 d with
    | none => rw [t] at g; exact g.elim
    | some t' =>
      rw [t] at g
      cases t' with
      | true =>
        intro m' H' e R'
        rw [if_pos rfl]
        exact ⟨m', h1, n, R', er.mono R e, GdS.from e g⟩
      | false =>
        intro m' H' e R'
        rw [if_neg Bool.false_ne_true]
        exact ⟨m', h1, n, R', er.mono R e, GdS.from e g⟩
theorem pS_asT {es : List Expr} {kt : Nat} {pt : Pos} {e : Expr} {is : List Nat} {x : E} (xk : Xk X T G Pr N sc fnB hot k) (c : cNames N sc fnB es = some is) (hs : swapsWithSole [.Tuple es kt pt] e pos.line X.env = pure false) (hw : swappedStores [.Tuple es kt pt] e X.env = pure none) (p : PE X e (tE T X.K hot (Pg.ct Pr (calls Pr k)) W x)) :
    PS X (.Assign [.Tuple es kt pt] e pos) (tS T X.K hot (Pg.ct Pr (calls Pr k)) W (.asT is x)) := by
  cases hot with
  | some t =>
    refine ⟨fun pins s σ H D I hh => ?_⟩
    obtain ⟨m, h, n, R, er, g⟩ := hh
    simp only [ex] at g
    rw [if_pos er.hotx] at g
    exact g.elim
  | none =>
    have pg : PG X (.Tuple es kt pt) (gT X.K (.tp is)) := pG_tg xk (by simp only [cTg, c]; rfl)
    refine PS.imp (ps_asg p pg hs hw rfl) fun D σ H hh => ?_
    obtain ⟨m, h, n, R, er, g⟩ := hh
    simp only [ex] at g
    rw [if_neg (by rw [er.cool]; exact Bool.false_ne_true)] at g
    refine ⟨m, h, n, R, er, (g.inS R er).imp (fun d m1 h1 H1 e1 R1 z v vr => ?_) fun _ _ _ q => q⟩
    cases hp : putT (.tp is) d n with
    | none => rw [hp] at z; exact z.elim
    | some n' =>
      rw [hp] at z
      exact gT_ok (er.mono R e1) vr hp fun σ' er' _ => z m1 H1 σ' Ext.refl R1 er'
theorem pS_asA {o e : Expr} {f : Str} {po : Pos} {j : Nat} {x y : E} (xk : Xk X T G Pr N sc fnB hot k) (hf : G.fl.lookup f = some j) (hs : swapsWith e (some (.Attribute o f po)) pos.line X.env = pure false) (pe : PE X e (tE T X.K hot (Pg.ct Pr (calls Pr k)) W y)) (p : PE X o (tE T X.K hot (Pg.ct Pr (calls Pr k)) W x)) :
    PS X (.Assign [.Attribute o f po] e pos) (tS T X.K hot (Pg.ct Pr (calls Pr k)) W (.asA x j y)) := by
  refine PS.imp (ps_fld p pe hs) fun D σ H hh => ?_
  obtain ⟨m, h, n, R, er, g⟩ := hh
  simp only [ex] at g
  refine ⟨m, h, n, R, er, (g.inS R er).imp (fun d m1 h1 H1 e1 R1 z v vr => ?_) fun _ _ _ q => q⟩
  have er1 := er.mono R e1
  refine ⟨m1, h1, n, R1, er1, (z.inS R1 er1).imp (fun w m2 h2 H2 e2 R2 z v2 vr2 => ?_) fun _ _ _ q => q⟩
  unfold setop at z
  split at z
  · split at z
    · rename_i cc _ q
      split at z
      · rename_i ok
        simp only [Bool.and_eq_true, decide_eq_true_eq] at ok
        obtain ⟨a, dx, gs, rfl, ea, eH, fr, hc⟩ := vr2.ins_of R2 q
        have na := xk.pf.fok _ _ ok.1
        rw [xk.pf.fl f j hf] at na
        refine ⟨a, _, dx, gs, rfl, eH, (xk.pf.cf _ hc).cl, na, by rw [← fr.length]; exact ok.2, ?_⟩
        have E := Ext.put (o := .ins (T.cad cc) dx (L2.putF f v gs)) R2 ea
        have fr' := (fr.put (f := j) (vr.mono e2)).mono E
        rw [xk.pf.fl f j hf] at fr'
        exact z m2 _ σ E (R2.put ea (.ins hc fr')) ((er1.mono R1 e2).mono R2 E)
      · exact z.elim
    · exact z.elim
  · exact z.elim
def rSt (T : Tb) (K : PySem.W.Frag) : TSet := fun o i v H Q => ∃ m h x y z, Rel T K m h H ∧ VR K m H x o ∧ VR K m H y i ∧ VR K m H z v ∧ Gd T K (putop x y z h) m H (fun _ _ _ H' => Q H') noX
theorem set_put : PSet X (rSt T X.K) := by
  intro pins s σ H o i v ov iv u Q I ro ri rv hh
  obtain ⟨m, h, x, y, z, R, vx, vy, vz, g⟩ := hh
  unfold putop at g
  split at g
  · split at g
    · rename_i kk _ xs q
      obtain ⟨a, vs, rfl, ea, eH, vr⟩ := vx.lst_of R q
      have := vy.int_of
      subst this
      cases hj : PM.ixN xs.length kk with
      | none => rw [hj] at g; exact g.elim
      | some j =>
        rw [hj] at g
        refine set_list pins s σ H _ _ v ov iv u Q I ro ri rv ⟨a, vs, kk, j, rfl, rfl, eH, by rw [← vr.length]; exact hj, ?_⟩
        have E := Ext.put (o := .lst (vs.set j v)) R ea
        have hl := R.lst_len q
        exact g m _ E (R.put ea (.lst ((VRs.set vz j vr).mono E) (by rw [List.length_set]; exact hl)))
    · exact g.elim
  · exact g.elim
theorem pS_asS {o i e : Expr} {po : Pos} {x y z : E} (hsw : swapsWithSole [.Subscript o i po] e pos.line X.env = pure false) (hw : swappedStores [.Subscript o i po] e X.env = pure none) (ha : ∀ v, assign (.Subscript o i po) X.env v = (do
      let ov ← holding [v] (eval o X.env)
      let iv ← holding [v, ov] (eval i X.env)
      standAt po
      holding [v, ov, iv] (setItem ov iv v)
      release [v, ov, iv] [])) (pe : PE X e (tE T X.K hot (Pg.ct Pr (calls Pr k)) W z)) (p : PE X o (tE T X.K hot (Pg.ct Pr (calls Pr k)) W x)) (pi : PE X i (tE T X.K hot (Pg.ct Pr (calls Pr k)) W y)) :
    PS X (.Assign [.Subscript o i po] e pos) (tS T X.K hot (Pg.ct Pr (calls Pr k)) W (.asS x y z)) := by
  refine PS.imp (ps_asg pe (pg_sub p pi (set_put (T := T)) ha) hsw hw rfl) fun D σ H hh => ?_
  obtain ⟨m, h, n, R, er, g⟩ := hh
  simp only [ex] at g
  refine ⟨m, h, n, R, er, (g.inS R er).imp (fun d m1 h1 H1 e1 R1 z v vr => ?_) fun _ _ _ q => q⟩
  have er1 := er.mono R e1
  refine ⟨m1, h1, n, R1, er1, (z.inS R1 er1).imp (fun w m2 h2 H2 e2 R2 z v2 vr2 => ?_) fun _ _ _ q => q⟩
  have er2 := er1.mono R1 e2
  refine ⟨m2, h2, n, R2, er2, (z.inS R2 er2).imp (fun w3 m3 h3 H3 e3 R3 z v3 vr3 => ?_) fun _ _ _ q => q⟩
  refine ⟨m3, h3, _, _, _, R3, vr2.mono e3, vr3, (vr.mono e2).mono e3, ?_⟩
  cases q : putop w w3 d h3 with
  | bad => rw [q] at z; exact z
  | exc c fs h4 =>
    exfalso
    unfold putop at q
    split at q
    · split at q
      · split at q <;> cases q
      · cases q
    · cases q
  | ok u h4 =>
    rw [q] at z
    exact fun m' H' E R' => z m' H' σ E R' ((er2.mono R2 e3).mono R3 E)
end
end PM
set_option Elab.async false
set_option linter.all false
set_option maxRecDepth 100000
set_option maxHeartbeats 4000000
/-! PM13: for, while, raise, try. -/
namespace PM
open PySem PySem.Spec PyProof.Rows L2
section
variable {X : Cx} {T : Tb} {G : Gt} {Pr : Pg} {N : List Str} {sc : Scope} {fnB : Str → Bool} {hot : Option Hot} {k : Nat} {W : WX} {pos : Pos}
theorem pS_hot {st : Stmt} {x : S} {t : Hot} (h : ∀ n h, n.x.isSome = true → ex (Pg.ct Pr (calls Pr k)) x n h = .bad) : PS X st (tS T X.K (some t) (Pg.ct Pr (calls Pr k)) W x) := by
  refine ⟨fun pins s σ H D I hh => ?_⟩
  obtain ⟨m, h', n, R, er, g⟩ := hh
  rw [h n h' er.hotx] at g
  exact g.elim
def forF (C : Ct) (tg : Tg) (b : Ss) : D → En → Hh → Rs := fun d n h => match putT tg d n with
  | some m => exs C b m h
  | none => .bad
theorem for_read {K : PySem.W.Frag} {C : Ct} {tg : Tg} {it : PM.It} {b : Ss} {σ : L2.St} {H : Hp} {D : Ends} (hh : tS T K none C W (.for tg it b) D σ H) : tFor (tIt T K C W it) (gT K tg) (tSs T K none C W b) D σ H := by
  obtain ⟨m, h, n, R, er, g⟩ := hh
  simp only [ex] at g
  rw [if_neg (by rw [er.cool]; exact Bool.false_ne_true)] at g
  refine ⟨m, h, n, R, er, ?_⟩
  cases q : evIt C it n h with
  | bad => rw [q] at g; exact g
  | exc c fs h1 => rw [q] at g; exact fun m' H' cls d e R' z => g m' H' σ cls d e R' (er.mono R e) z
  | ok src h1 =>
    rw [q] at g
    have g : GdS T K none (forGo (forF C tg b) src.still src.its n h1) m H D W := g
    intro m1 H1 E1 R1
    refine ⟨E1, R1, fun J wk => ?_⟩
    refine ⟨fun i mu σ H => mu = src.its.length - i ∧ i ≤ src.its.length ∧ ∃ m2 h2 n2, Ext K m1 H1 m2 H ∧ Rel T K m2 h2 H ∧ ER T K none m2 H n2 σ ∧ GdS T K none (forGo (forF C tg b) src.still (src.its.drop i) n2 h2) m1 H1 D W, ?_, ?_⟩
    · exact ⟨src.its.length, by simp, Nat.zero_le _, m1, h1, n, Ext.refl, R1, er.mono R E1, GdS.from E1 g⟩
    · rintro i mu σ2 H2 ⟨rfl, hi, m2, h2, n2, E2, R2, er2, g2⟩
      by_cases hlt : i < src.its.length
      · have hd : src.its[i]? = some src.its[i] := List.getElem?_eq_getElem hlt
        rw [List.drop_eq_getElem_cons hlt] at g2
        simp only [forGo] at g2
        by_cases hst : src.still h2 = true
        · rw [if_pos hst] at g2
          refine .inr ⟨wk.go i _ m2 h2 H2 E2 R2 hst hd, fun σ H' => i + 1 ≤ src.its.length ∧ ∃ m2 h2 n2, Ext K m1 H1 m2 H' ∧ Rel T K m2 h2 H' ∧ ER T K none m2 H' n2 σ ∧ GdS T K none (forGo (forF C tg b) src.still (src.its.drop (i + 1)) n2 h2) m1 H1 D W, fun σ' H' q => ⟨_, by omega, rfl, q.1, q.2⟩, fun x H3 y => ?_⟩
          obtain ⟨E3, R3, vx⟩ := wk.yld i _ m2 h2 H2 H3 x E2 R2 hst hd y
          have er3 := er2.mono R2 E3
          cases hp : putT tg src.its[i] n2 with
          | none =>
            exfalso
            have : forF C tg b src.its[i] n2 h2 = .bad := by unfold forF; rw [hp]
            rw [this] at g2
            exact g2
          | some n' =>
            have hF : forF C tg b src.its[i] n2 h2 = exs C b n' h2 := by unfold forF; rw [hp]
            rw [hF] at g2
            refine gT_ok er3 vx hp fun σ3 er4 st => ⟨m2, h2, n', R3, er4, ?_⟩
            have E23 := E2.trans E3
            cases q : exs C b n' h2 with
            | nx n3 h3 => rw [q] at g2; exact fun m' H' σ' e R' er' => ⟨hlt, m', h3, n3, E23.trans e, R', er', g2⟩
            | ct n3 h3 => rw [q] at g2; exact fun m' H' σ' e R' er' => ⟨hlt, m', h3, n3, E23.trans e, R', er', g2⟩
            | bk n3 h3 => rw [q] at g2; exact fun m' H' σ' e R' er' => g2 m' H' σ' (E23.trans e) R' er'
            | rt d h3 => rw [q] at g2; exact fun m' H' v e R' vr => g2 m' H' v (E23.trans e) R' vr
            | th c fs n3 h3 => rw [q] at g2; exact fun m' H' σ' cls d e R' er' z => g2 m' H' σ' cls d (E23.trans e) R' er' z
            | bad => rw [q] at g2; exact g2
        · rw [if_neg hst] at g2
          exact g2.elim
      · have hie : i = src.its.length := by omega
        subst hie
        rw [List.drop_eq_nil_of_le (Nat.le_refl _)] at g2
        simp only [forGo] at g2
        by_cases hst : src.still h2 = true
        · rw [if_pos hst] at g2
          exact .inl ⟨wk.stop m2 h2 H2 E2 R2 hst, g2 m2 H2 σ2 E2 R2 er2⟩
        · rw [if_neg hst] at g2
          exact g2.elim
theorem pS_for {tg it : Expr} {body : List Stmt} {t : Tg} {w : PM.It} {b : Ss} (xk : Xk X T G Pr N sc fnB hot k) (hp : hot = none → PassesOwn (model X.prog X.w) X.A X.env X.xe) (ct : cTg N sc fnB tg = some t) (pi : hot = none → PI X tg it (tIt T X.K (Pg.ct Pr (calls Pr k)) W w))
    (pb : PSs X body (tSs T X.K hot (Pg.ct Pr (calls Pr k)) W b)) (hs : ∀ x, foldedSetIterable it X.env x = pure x) : PS X (.For tg it body [] pos) (tS T X.K hot (Pg.ct Pr (calls Pr k)) W (.for t w b)) := by
  cases hot with
  | some t' => exact pS_hot fun n h e => by simp only [ex]; rw [if_pos e]
  | none => exact PS.imp (ps_for (hp rfl) (xk.calm rfl) (pi rfl) (pG_tg xk ct) pb hs) fun D σ H hh => for_read hh
theorem wh_read {K : PySem.W.Frag} {C : Ct} {c : E} {b : Ss} {σ : L2.St} {H : Hp} {D : Ends} (hh : tS T K none C W (.whl c b) D σ H) : tWhile (tT T K none C W c) (tSs T K none C W b) D σ H := by
  obtain ⟨m, h, n, R, er, g⟩ := hh
  simp only [ex] at g
  rw [if_neg (by rw [er.cool]; exact Bool.false_ne_true)] at g
  refine ⟨fun mu σ H' => ∃ m2 h2 n2, Ext K m H m2 H' ∧ Rel T K m2 h2 H' ∧ ER T K none m2 H' n2 σ ∧ GdS T K none (whGo (fun n h => (ev C c n h).bind fun d h => tru d h) (fun n h => exs C b n h) mu n2 h2) m H D W, ⟨C.turns, m, h, n, Ext.refl, R, er, g⟩, ?_⟩
  rintro mu σ2 H2 ⟨m2, h2, n2, E2, R2, er2, g2⟩
  refine ⟨m2, h2, n2, R2, er2, ?_⟩
  cases mu with
  | zero => exact g2.elim
  | succ mu =>
    simp only [whGo] at g2
    cases q : (ev C c n2 h2).bind fun d h => tru d h with
    | bad => rw [q] at g2; exact g2
    | exc c fs h3 => rw [q] at g2; exact fun m' H' cls d e R' z => g2 m' H' σ2 cls d (E2.trans e) R' (er2.mono R2 e) z
    | ok t h3 =>
      rw [q] at g2
      intro m3 H3 E3 R3
      have er3 := er2.mono R2 E3
      have E23 := E2.trans E3
      cases t with
      | false =>
        dsimp only
        rw [if_neg Bool.false_ne_true]
        exact g2 m3 H3 σ2 E23 R3 er3
      | true =>
        dsimp only
        rw [if_pos rfl]
        refine ⟨fun σ H' => ∃ m2 h2 n2, Ext K m H m2 H' ∧ Rel T K m2 h2 H' ∧ ER T K none m2 H' n2 σ ∧ GdS T K none (whGo (fun n h => (ev C c n h).bind fun d h => tru d h) (fun n h => exs C b n h) mu n2 h2) m H D W, fun σ' H' q => ⟨mu, Nat.lt_succ_self _, q⟩, m3, h3, n2, R3, er3, ?_⟩
        dsimp only at g2
        cases q2 : exs C b n2 h3 with
        | nx n3 h4 => rw [q2] at g2; exact fun m' H' σ' e R' er' => ⟨m', h4, n3, E23.trans e, R', er', g2⟩
        | ct n3 h4 => rw [q2] at g2; exact fun m' H' σ' e R' er' => ⟨m', h4, n3, E23.trans e, R', er', g2⟩
        | bk n3 h4 => rw [q2] at g2; exact fun m' H' σ' e R' er' => g2 m' H' σ' (E23.trans e) R' er'
        | rt d h4 => rw [q2] at g2; exact fun m' H' v e R' vr => g2 m' H' v (E23.trans e) R' vr
        | th c fs n3 h4 => rw [q2] at g2; exact fun m' H' σ' cls d e R' er' z => g2 m' H' σ' cls d (E23.trans e) R' er' z
        | bad => rw [q2] at g2; exact g2
theorem pS_whl {c : Expr} {body : List Stmt} {x : E} {b : Ss} (hp : hot = none → PassesOwn (model X.prog X.w) X.A X.env X.xe) (pc : PT X c (tT T X.K hot (Pg.ct Pr (calls Pr k)) W x)) (pb : PSs X body (tSs T X.K hot (Pg.ct Pr (calls Pr k)) W b)) :
    PS X (.While c body [] pos) (tS T X.K hot (Pg.ct Pr (calls Pr k)) W (.whl x b)) := by
  cases hot with
  | some t' => exact pS_hot fun n h e => by simp only [ex]; rw [if_pos e]
  | none => exact PS.imp (ps_while (hp rfl) pc pb) fun D σ H hh => wh_read hh

/-! raise -/
theorem GdS.inSs {K : PySem.W.Frag} {m : List Addr} {H : Hp} {n : En} {σ : L2.St} {h : Hh} {r : PM.R (List PM.D)} {f : List PM.D → Hh → Rs} {E : Ends} (Rl : Rel T K m h H) (er : ER T K hot m H n σ) (x : GdS T K hot (PM.inSs r n f) m H E W) : Gd T K r m H (fun d m1 h1 H1 => GdS T K hot (f d h1) m1 H1 E W) (fun c d H' => W c d σ H') := by
  cases r with
  | ok d h => exact fun m' H' e R => GdS.from e x
  | exc c fs h => exact fun m' H' cls d e R z => x m' H' σ cls d e R (er.mono Rl e) z
  | bad => exact x
theorem FRs.append {K : PySem.W.Frag} {m : List Addr} {H : Hp} : ∀ {d d' : List (Nat × D)} {v v' : List (Str × V)}, FRs T K m H d v → FRs T K m H d' v' → FRs T K m H (d ++ d') (v ++ v')
  | _, _, _, _, .nil, b => b
  | _, _, _, _, .cons a r, b => .cons a (FRs.append r b)
theorem FRs.zipR {K : PySem.W.Frag} {m : List Addr} {H : Hp} : ∀ {fl : List Nat} {ds : List D} {vs : List V}, VRs K m H ds vs → FRs T K m H (fl.zip ds).reverse ((fl.map T.fld).zip vs).reverse
  | [], _, _, _ => .nil
  | f :: fl, _, _, .nil => .nil
  | f :: fl, _, _, .cons a r => by
    simp only [List.map_cons, List.zip_cons_cons, List.reverse_cons]
    exact (FRs.zipR r).append (.cons a .nil)
theorem pS_rai {x : Str} {p0 p1 : Pos} {e : Expr} {es : List Expr} {c : Nat} {xs : Es} (xk : Xk X T G Pr N sc fnB hot k) (tk : Takes X W) (ok : okName x = true) (hg : isGlob sc x = true) (hx : G.xc.lookup x = some c) (hz : G.rz.contains c = true) (hs : ((e :: es).all fun a => !isStar a) = true) (pa : PA X (e :: es) (tEs T X.K hot (Pg.ct Pr (calls Pr k)) W xs)) :
    PS X (.Raise (some (.Call (.Name x p0) (e :: es) [] p1)) none pos) (tS T X.K hot (Pg.ct Pr (calls Pr k)) W (.rai c xs)) := by
  cases hot with
  | some t' => exact pS_hot fun n h e => by simp only [ex]; rw [if_pos e]
  | none =>
    · have rz := xk.pf.rz c hz
      obtain ⟨fI, fd, ps, fl, h1, h2, h3, h4, h5, h6, h7⟩ := rz.ex
      have st : isStar e = false := by
        simp only [List.all_cons, Bool.and_eq_true, Bool.not_eq_true'] at hs
        exact hs.1
      have pm := pmk_oex (X := X) (p := p0) (pos := p1) rz.oex h1 h2 h7 ((xk.room rfl).mono (by omega)) h3 .nil (passes_call tk fun _ _ _ _ z => z.elim) (isGlob_Gl xk hg) (xk.pf.xc x c hx) pa (okName_d ok) (star_of st) (by
        have := noStar_any (pos := p1) (env := X.env) hs
        rw [star_of st] at this
        simp only [backTo, List.map_cons, List.any_cons, Bool.false_or] at this
        simpa [backTo] using this)
      refine PS.imp (ps_raise (xk.calm rfl) tk pm) fun D σ H hh => ?_
      obtain ⟨m, h, n, R, er, g⟩ := hh
      simp only [ex] at g
      rw [if_neg (by rw [er.cool]; exact Bool.false_ne_true)] at g
      refine ⟨m, h, n, R, er, (g.inSs R er).imp (fun ds m1 h1 H1 e1 R1 z vs vr => ?_) fun _ _ _ q => q⟩
      cases hf : Pr.exf c ds with
      | none =>
        have : (Pg.ct Pr (calls Pr k)).exf c ds = none := hf
        rw [this] at z; exact z.elim
      | some fs =>
        have : (Pg.ct Pr (calls Pr k)).exf c ds = some fs := hf
        rw [this] at z
        obtain ⟨hl, hfs⟩ := h6 ds fs hf
        have hlv : vs.length = fl.length := by rw [← vr.length]; exact hl
        refine ⟨by omega, fun a ha => ⟨a, vs ++ [], rfl, by simp [hlv], upd_same, fun d hd hda => ⟨rfl, d, ((fl.map T.fld).zip (vs ++ [])).reverse, upd_same, ?_, ?_, ?_⟩⟩⟩
        · rw [upd_ne hda, upd_same]
        · rw [upd_ne hda] at hd; exact hd
        · have hd1 : H1 d = none := by rw [upd_ne hda] at hd; exact hd
          rw [List.append_nil]
          have eq : upd (del (upd (upd (upd H1 a (exo a (T.cad c) none)) d (exd d ((fl.map T.fld).zip vs).reverse)) a (exo a (T.cad c) (some d))) a) d (.xd ((fl.map T.fld).zip vs).reverse) = upd H1 d (.xd ((fl.map T.fld).zip vs).reverse) := by
            funext b
            by_cases hb : b = d
            · subst hb; rw [upd_same, upd_same]
            · rw [upd_ne hb, upd_ne hb]
              by_cases hba : b = a
              · subst hba; rw [del_same, ha]
              · rw [del_ne hba, upd_ne hba, upd_ne hb, upd_ne hba]
          rw [eq]
          have E : Ext X.K m1 H1 m1 (upd H1 d (.xd ((fl.map T.fld).zip vs).reverse)) := Ext.lay hd1
          refine z m1 _ σ _ _ E (R1.lay hd1) ((er.mono R e1).mono R1 E) ⟨rfl, rz.xcs, .inr ⟨d, _, rfl, upd_same, ?_⟩⟩
          rw [hfs]
          exact FRs.zipR (vr.mono E)
end
end PM
set_option Elab.async false
set_option linter.all false
set_option maxRecDepth 100000
set_option maxHeartbeats 4000000
/-! PM14: try, and every statement that compiles. -/
namespace PM
open PySem PySem.Spec PyProof.Rows L2
section
variable {X : Cx} {T : Tb} {G : Gt} {Pr : Pg} {N : List Str} {sc : Scope} {fnB : Str → Bool} {hot : Option Hot} {k : Nat} {W : WX} {pos : Pos}
def onσ (nm : Option Nat) (σ : L2.St) (v : Option V) : L2.St := match nm with
  | some i => σ.set i v
  | none => σ
theorem ER.suite {K : PySem.W.Frag} {m : List Addr} {H : Hp} {n : En} {σ : L2.St} {c : Nat} {fs : List (Nat × D)} {cls : Value} {d : Option Addr} {a : Addr} {nm : Option Nat} (er : ER T K none m H n σ) (ok : okN nm n = true) (xr : XR T K m H c fs cls d) :
    ER T K (some ⟨cls, d, a, nm⟩) m H ⟨(offE nm n).s, some ⟨c, fs, nm⟩⟩ (onσ nm σ (some (.ref a))) := by
  cases nm with
  | none => exact ⟨er.len, er.val, xr, rfl, fun i e => by cases e⟩
  | some i =>
    simp only [okN, decide_eq_true_eq] at ok
    refine ⟨by simp [offE, onσ, er.len], fun j d' q => ?_, xr, rfl, fun j e => ?_⟩
    · simp only [offE, onσ] at q ⊢
      by_cases hj : i = j
      · subst hj
        rw [List.getElem?_set_self ok] at q; cases q
      · rw [List.getElem?_set_ne hj] at q ⊢
        exact er.val j d' q
    · cases e
      simp only [onσ]
      rw [List.getElem?_set_self (by rw [← er.len]; exact ok)]
theorem ER.off {K : PySem.W.Frag} {m : List Addr} {H : Hp} {n : En} {σ : L2.St} {t : Hot} (er : ER T K (some t) m H n σ) (nm : Option Nat) : ER T K none m H (offE nm n) (onσ nm σ none) := by
  cases nm with
  | none => exact ⟨er.len, er.val, trivial⟩
  | some i =>
    refine ⟨by simp [offE, onσ, er.len], fun j d' q => ?_, trivial⟩
    simp only [offE, onσ] at q ⊢
    by_cases hj : i = j
    · subst hj
      by_cases hl : i < n.s.length
      · rw [List.getElem?_set_self hl] at q; cases q
      · rw [List.getElem?_eq_none (by simpa using hl)] at q; cases q
    · rw [List.getElem?_set_ne hj] at q ⊢
      exact er.val j d' q
def offD (nm : Option Nat) (D : Ends) : Ends := { nx := fun σ' H' => D.nx (onσ nm σ' none) H', rt := D.rt, bk := fun σ' H' => D.bk (onσ nm σ' none) H', ct := fun σ' H' => D.ct (onσ nm σ' none) H' }
theorem GdS.off {K : PySem.W.Frag} {m m1 : List Addr} {H H1 : Hp} {D : Ends} {t : Hot} {nm : Option Nat} {r : Rs} (e : Ext K m H m1 H1) (g : GdS T K none (offS nm r) m H D W) : GdS T K (some t) r m1 H1 (offD nm D) W0 := by
  cases r with
  | nx n h => exact fun m' H' σ' e' R er => g m' H' _ (e.trans e') R (er.off nm)
  | rt d h => exact fun m' H' v e' R vr => g m' H' v (e.trans e') R vr
  | bk n h => exact fun m' H' σ' e' R er => g m' H' _ (e.trans e') R (er.off nm)
  | ct n h => exact fun m' H' σ' e' R er => g m' H' _ (e.trans e') R (er.off nm)
  | th c fs n h => exact g.elim
  | bad => exact g.elim
/-- the suite's reading -/
abbrev tSu (T : Tb) (K : PySem.W.Frag) (C : Ct) (nm : Option Nat) (s : Ss) : Addr → Value → Option Addr → TS := fun a cls d => tSs T K (some ⟨cls, d, a, nm⟩) C W0 s
theorem suite_read {K : PySem.W.Frag} {C : Ct} {m m1 : List Addr} {H H1 : Hp} {D : Ends} {nm : Option Nat} {s : Ss} {n : En} {σ : L2.St} {c : Nat} {fs : List (Nat × PM.D)} {cls : Value} {d : Option Addr} {h1 : Hh} {a : Addr} (e : Ext K m H m1 H1) (R1 : Rel T K m1 h1 H1) (er : ER T K none m1 H1 n σ) (xr : XR T K m1 H1 c fs cls d)
    (g : GdS T K none (if okN nm n = true then offS nm (exs C s ⟨(offE nm n).s, some ⟨c, fs, nm⟩⟩ h1) else .bad) m H D W) : tSu T K C nm s a cls d (offD nm D) (onσ nm σ (some (.ref a))) H1 := by
  split at g
  · rename_i ok
    exact ⟨m1, h1, _, R1, er.suite ok xr, g.off e⟩
  · exact g.elim
theorem try_as_read {K : PySem.W.Frag} {C : Ct} {b s : Ss} {j i : Nat} {D : Ends} {σ : L2.St} {H : Hp} (hm : ∀ c, c ∈ T.xcs → PySem.W.exmOne K (.ref (T.cad c)) (.ref (T.cad j)) = some (C.sub c j)) (hh : tS T K none C W (.try b (.cons j (some i) s .nil)) D σ H) :
    tSs T K none C (wAs K (.ref (T.cad j)) i (tSu T K C (some i) s) W D) b D σ H := by
  obtain ⟨m, h, n, R, er, g⟩ := hh
  simp only [ex] at g
  rw [if_neg (by rw [er.cool]; exact Bool.false_ne_true)] at g
  refine ⟨m, h, n, R, er, ?_⟩
  cases q : exs C b n h with
  | nx n1 h1 => rw [q] at g; exact g
  | rt d h1 => rw [q] at g; exact g
  | bk n1 h1 => rw [q] at g; exact g
  | ct n1 h1 => rw [q] at g; exact g
  | bad => rw [q] at g; exact g
  | th c fs n1 h1 =>
    rw [q] at g
    simp only [exh] at g
    intro m1 H1 σ1 cls d e1 R1 er1 xr
    have hc := xr.1
    subst hc
    refine ⟨_, hm c xr.2.1, fun hb a ha => ?_, fun hb => ?_⟩
    · rw [if_pos hb] at g
      exact suite_read e1 R1 er1 xr g
    · rw [if_neg (by rw [hb]; exact Bool.false_ne_true)] at g
      exact g m1 H1 σ1 _ d e1 R1 er1 xr
/-- clauses without names -/
def hsL (T : Tb) (K : PySem.W.Frag) (C : Ct) : Hs → List (Value × (Addr → Value → Option Addr → TS))
  | .nil => []
  | .cons j _ s r => (.ref (T.cad j), tSu T K C none s) :: hsL T K C r
def hmOk (T : Tb) (K : PySem.W.Frag) (C : Ct) : Hs → Prop
  | .nil => True
  | .cons j nm _ r => nm = none ∧ (∀ c, c ∈ T.xcs → PySem.W.exmOne K (.ref (T.cad c)) (.ref (T.cad j)) = some (C.sub c j)) ∧ hmOk T K C r
theorem many_read {K : PySem.W.Frag} {C : Ct} {D : Ends} {m m1 : List Addr} {H H1 : Hp} {n : En} {σ : L2.St} {c : Nat} {fs : List (Nat × PM.D)} {d : Option Addr} {h1 : Hh} (e : Ext K m H m1 H1) (R1 : Rel T K m1 h1 H1) (er : ER T K none m1 H1 n σ) (xr : XR T K m1 H1 c fs (.ref (T.cad c)) d) :
    ∀ {hs : Hs}, hmOk T K C hs → GdS T K none (exh C hs c fs n h1) m H D W → wMany K W D (hsL T K C hs) (.ref (T.cad c)) d σ H1
  | .nil, _, g => by
    simp only [exh] at g
    exact g m1 H1 σ _ d e R1 er xr
  | .cons j nm s r, ok, g => by
    obtain ⟨rfl, hm, okr⟩ := ok
    simp only [exh] at g
    refine ⟨_, hm c xr.2.1, fun hb a ha => ?_, fun hb => ?_⟩
    · rw [if_pos hb] at g
      exact suite_read (nm := none) e R1 er xr g
    · rw [if_neg (by rw [hb]; exact Bool.false_ne_true)] at g
      exact many_read e R1 er xr okr g
theorem try_many_read {K : PySem.W.Frag} {C : Ct} {b : Ss} {hs : Hs} {D : Ends} {σ : L2.St} {H : Hp} (ok : hmOk T K C hs) (hh : tS T K none C W (.try b hs) D σ H) : tSs T K none C (wMany K W D (hsL T K C hs)) b D σ H := by
  obtain ⟨m, h, n, R, er, g⟩ := hh
  simp only [ex] at g
  rw [if_neg (by rw [er.cool]; exact Bool.false_ne_true)] at g
  refine ⟨m, h, n, R, er, ?_⟩
  cases q : exs C b n h with
  | nx n1 h1 => rw [q] at g; exact g
  | rt d h1 => rw [q] at g; exact g
  | bk n1 h1 => rw [q] at g; exact g
  | ct n1 h1 => rw [q] at g; exact g
  | bad => rw [q] at g; exact g
  | th c fs n1 h1 =>
    rw [q] at g
    intro m1 H1 σ1 cls d e1 R1 er1 xr
    have hc := xr.1
    subst hc
    exact many_read e1 R1 er1 xr ok g
theorem cE_lc {f : Nat} {hn : Option Str} {elt tg it : Expr} {ifs : List Expr} {scope : Scope} {lp : Pos} : cE G N (f + 1) sc fnB hn (.ListComp elt [⟨tg, it, ifs, 0⟩] scope lp) = (if hn = none ∧ blkC N sc scope (ownOf N scope) = true then (do
        let t ← cTg N (relS scope sc) (fun x => scope.names.lookup x == some .cell) tg
        if t.slots.all (fun i => decide (i ∈ (ownOf N scope).map (·.2))) then (do
          let w ← cIt G sc tg (cE G N f sc fnB none) it
          let fs ← cEs (cE G N f (relS scope sc) (fun x => scope.names.lookup x == some .cell) none) ifs
          let x ← cE G N f (relS scope sc) (fun x => scope.names.lookup x == some .cell) none elt
          if ifs.length ≤ 1 then some (.lc ((ownOf N scope).map (·.2)) t w fs x) else none) else none) else none) := rfl
/-- a list comprehension's parts -/
theorem lc_parts (hmt : G.mt.lookup ("__eq__" : Str) = some mEq) {f : Nat} {elt tg it : Expr} {ifs : List Expr} {scope : Scope} {lp : Pos} {x : E} (xk : Xk X T G Pr N sc fnB none k) (tk : Takes X W) (c : cE G N (f + 1) sc fnB none (.ListComp elt [⟨tg, it, ifs, 0⟩] scope lp) = some x) :
    ∃ (wi : TI) (g : TG) (tt : TT) (te : TE) (own : List (Str × Nat)), PI X tg it wi ∧ BlkOk X.N X.env.scope scope own ∧ (∀ (s : Shared) (H : Hp) (C : Addr) (cl : List (Str × Addr)) (fp : List Addr), PG (X.blk s H scope (compEnvC scope cl C X.env) fp) tg g) ∧
      (∀ (s : Shared) (H : Hp) (C : Addr) (cl : List (Str × Addr)) (fp : List Addr), PTs (X.blk s H scope (compEnvC scope cl C X.env) fp) ifs tt) ∧ (∀ (s : Shared) (H : Hp) (C : Addr) (cl : List (Str × Addr)) (fp : List Addr), PE (X.blk s H scope (compEnvC scope cl C X.env) fp) elt te) ∧
      (∀ x, foldedSetIterable it X.env x = pure x) ∧ ∀ σ H Q, tE T X.K none (Pg.ct Pr (calls Pr k)) W x σ H Q → tLc wi g tt te (own.map (·.2)) σ H Q := by
  have hk : HnOk none none N sc := fun _ z => by cases z
  have ih : ∀ e x, cE G N f sc fnB none e = some x → OkE e ∧ PB X T Pr k none W e x := fun e x c => ⟨cE_ok c, main hmt f xk hk tk c⟩
  rw [cE_lc] at c
  split at c
  · rename_i q
    obtain ⟨q1, q2⟩ := q
    simp only [Option.bind_eq_bind, Option.bind_eq_some_iff] at c
    obtain ⟨t, c1, c⟩ := c
    split at c
    · rename_i hsl
      simp only [Option.bind_eq_some_iff] at c
      obtain ⟨w, c2, fs, c3, x1, c4, c⟩ := c
      split at c
      · rename_i hl
        cases c
        refine ⟨_, gT X.K t, tTs T X.K (Pg.ct Pr (calls Pr k)) W0 fs, tE T X.K none (Pg.ct Pr (calls Pr k)) W0 x1, _, cIt_ok xk ih c2, by rw [xk.hN, xk.hsc]; exact blkOk_by q2, ?_, ?_, ?_, fun x => cIt_ok' (fun e x c => cE_ok c) c2 _ x, fun σ H Q hh => lc_read (by simpa using hsl) hh⟩
        · intro s H C cl fp
          exact pG_tg (X := X.blk s H scope (compEnvC scope cl C X.env) fp) xk.blk c1
        · intro s H C cl fp
          have ih2 : ∀ e x, cE G N f (relS scope sc) (fun x => scope.names.lookup x == some .cell) none e = some x → OkE e ∧ PB (X.blk s H scope (compEnvC scope cl C X.env) fp) T Pr k none W0 e x := fun e x c => ⟨cE_ok c, main hmt f xk.blk (fun _ z => by cases z) takes0 c⟩
          exact cEs_ts ih2 hl c3
        · intro s H C cl fp
          exact (main hmt f (X := X.blk s H scope (compEnvC scope cl C X.env) fp) xk.blk (fun _ z => by cases z) takes0 c4).ev
      · cases c
    · cases c
  · cases c
theorem pS_assLc (hmt : G.mt.lookup ("__eq__" : Str) = some mEq) {f : Nat} {elt tg it : Expr} {ifs : List Expr} {scope : Scope} {lp py : Pos} {y : Str} {i : Nat} {x : E} (xk : Xk X T G Pr N sc fnB hot k) (tk : Takes X W) (hi : X.N[i]? = some y) (hl : Loc X.env.scope y) (hf : X.fn y = true ∨ X.env.scope.names.lookup y = some .local)
    (c : cE G N (f + 1) sc fnB none (.ListComp elt [⟨tg, it, ifs, 0⟩] scope lp) = some x) : PS X (.Assign [.Name y py] (.ListComp elt [⟨tg, it, ifs, 0⟩] scope lp) pos) (tS T X.K hot (Pg.ct Pr (calls Pr k)) W (.ass i x)) := by
  have hx : ∃ ws t w fs x1, x = .lc ws t w fs x1 := by
    rw [cE_lc] at c
    split at c
    · simp only [Option.bind_eq_bind, Option.bind_eq_some_iff] at c
      obtain ⟨t, c1, c⟩ := c
      split at c
      · simp only [Option.bind_eq_some_iff] at c
        obtain ⟨w, c2, fs, c3, x1, c4, c⟩ := c
        split at c
        · cases c; exact ⟨_, _, _, _, _, rfl⟩
        · cases c
      · cases c
    · cases c
  cases hot with
  | some t =>
    refine pS_hot fun n h e => ?_
    obtain ⟨ws, t, w, fs, x1, rfl⟩ := hx
    simp only [ex, ev]
    rw [if_pos e]
    split <;> rfl
  | none =>
    have hk : HnOk none none N sc := fun _ z => by cases z
    have sw : swapsWith (.ListComp elt [⟨tg, it, ifs, 0⟩] scope lp) (some (.Name y py)) pos.line X.env = pure (X.env.blockKind == .function && X.env.kindOf y == some .local && py.line == lp.line && !(scope.names.any fun (n, k) => n == y && (k == .local || k == .cell))) := rfl
    cases hb : (X.env.blockKind == .function && X.env.kindOf y == some .local && py.line == lp.line && !(scope.names.any fun (n, k) => n == y && (k == .local || k == .cell))) with
    | false =>
      rw [hb] at sw
      exact pS_ass xk hi hl hf sw (main hmt (f + 1) xk hk tk c).ev
    | true =>
      rw [hb] at sw
      have hyl : X.env.scope.names.lookup y = some .local := by
        simp only [Bool.and_eq_true] at hb
        have := hb.1.1.2
        have : X.env.kindOf y = some .local := by simpa using this
        exact this
      obtain ⟨wi, g, tt, te, own, p1, p2, p3, p4, p5, p6, rd⟩ := lc_parts hmt xk tk c
      refine PS.imp (ps_setLc (xk.calm rfl) (by rw [xk.hN]; exact xk.nd) hi hyl sw p1 p2 p3 p4 p5 p6) fun D σ H hh => ?_
      obtain ⟨m, h, n, R, er, g⟩ := hh
      simp only [ex] at g
      split at g
      · rename_i fr
        exact rd _ _ _ ⟨m, h, n, R, er, (g.inS R er).imp (fun d m1 h1 H1 e1 R1 z v vr => z m1 H1 _ Ext.refl R1 ((er.mono R e1).setF fr vr)) fun _ _ _ q => q⟩
      · exact g.elim
end
end PM
set_option Elab.async false
set_option linter.all false
set_option maxRecDepth 100000
set_option maxHeartbeats 4000000
/-! PM15: every statement that compiles. -/
namespace PM
open PySem PySem.Spec PyProof.Rows L2
def isComp : Expr → Bool
  | .ListComp .. => true
  | .SetComp .. => true
  | .DictComp .. => true
  | _ => false
def cSl (g : Stmt → Option S) : List Stmt → Option Ss
  | [] => some .nil
  | s :: r => do
    let x ← g s
    let y ← cSl g r
    some (.cons x y)
/-- clauses without names -/
def cHl (G : Gt) (sc : Scope) (g : Stmt → Option S) : List ExceptHandler → Option Hs
  | [] => some .nil
  | h :: r => match h with
    | .ExceptHandler (some (.Name x _)) none (b0 :: su) _ => if okName x && isGlob sc x then (do
      let j ← G.xc.lookup x
      let s ← cSl g (b0 :: su)
      let y ← cHl G sc g r
      some (.cons j none s y)) else none
    | _ => none
def cS (G : Gt) (N : List Str) : Nat → Scope → (Str → Bool) → Option Str → Stmt → Option S
  | 0, _, _, _, _ => none
  | f + 1, sc, fnB, hn, st => match st with
    | .Pass _ => some .pas
    | .Break _ => some .brk
    | .Continue _ => some .cnt
    | .Return none _ => some .rtN
    | .Return (some e) _ => (cE G N (f + 1) sc fnB hn e).map .ret
    | .Expr e _ => if isComp e then none else (cE G N (f + 1) sc fnB hn e).map .exp
    | .Assign [.Name y _] e _ => if hn = some y then none else (do
      let i ← storeOf N sc fnB y
      match e with
      | .ListComp elt [⟨tg, it, ifs, 0⟩] scope lp => if hn = none then (cE G N (f + 1) sc fnB none (.ListComp elt [⟨tg, it, ifs, 0⟩] scope lp)).map (.ass i) else none
      | e => if isComp e then none else (cE G N (f + 1) sc fnB hn e).map (.ass i))
    | .Assign [.Tuple es _ _] e _ => if isComp e || isTupE e then none else (do
      let is ← cNames N sc fnB es
      let x ← cE G N (f + 1) sc fnB hn e
      some (.asT is x))
    | .Assign [.Attribute o a _] e _ => (do
      let x ← cE G N (f + 1) sc fnB hn o
      let j ← G.fl.lookup a
      let y ← cE G N (f + 1) sc fnB hn e
      some (.asA x j y))
    | .Assign [.Subscript o i _] e _ => (do
      let x ← cE G N (f + 1) sc fnB hn o
      let y ← cE G N (f + 1) sc fnB hn i
      let z ← cE G N (f + 1) sc fnB hn e
      some (.asS x y z))
    | .If c a b _ => (do
      let x ← cE G N (f + 1) sc fnB hn c
      let y ← cSl (cS G N f sc fnB hn) a
      let z ← cSl (cS G N f sc fnB hn) b
      some (.ite x y z))
    | .For tg it body [] _ => (do
      let t ← cTg N sc fnB tg
      let w ← cIt G sc tg (cE G N (f + 1) sc fnB hn) it
      let b ← cSl (cS G N f sc fnB hn) body
      some (.for t w b))
    | .While c body [] _ => (do
      let x ← cE G N (f + 1) sc fnB hn c
      let b ← cSl (cS G N f sc fnB hn) body
      some (.whl x b))
    | .Raise (some (.Call (.Name x _) (e :: es) [] _)) none _ => if okName x && isGlob sc x then (do
      let c ← G.xc.lookup x
      let xs ← cEs (cE G N (f + 1) sc fnB hn) (e :: es)
      if G.rz.contains c then some (.rai c xs) else none) else none
    | .Try body [.ExceptHandler (some (.Name x _)) (some n) (b0 :: su) _] [] [] _ => if okName x && isGlob sc x && okName n && decide (hn = none) && decide (sc.names.lookup n = some .local) then (do
      let j ← G.xc.lookup x
      let i ← N.idxOf? n
      let b ← cSl (cS G N f sc fnB none) body
      let s ← cSl (cS G N f sc fnB (some n)) (b0 :: su)
      some (.try b (.cons j (some i) s .nil))) else none
    | .Try body (h :: hs) [] [] _ => if hn = none then (do
      let b ← cSl (cS G N f sc fnB none) body
      let y ← cHl G sc (cS G N f sc fnB none) (h :: hs)
      some (.try b y)) else none
    | _ => none
section
variable {X : Cx} {T : Tb} {G : Gt} {Pr : Pg} {N : List Str} {sc : Scope} {fnB : Str → Bool} {hot : Option Hot} {k : Nat} {W : WX} {pos : Pos}
/-- the frame of statements -/
structure Xs (X : Cx) (hot : Option Hot) (W : WX) : Prop where
  tk : Takes X W
  own : hot = none → PassesOwn (model X.prog X.w) X.A X.env X.xe
  stk : X.stack = X.env :: X.outer
  fr : X.env.frame = some X.env.locals
theorem sw_plain {e : Expr} {t : Option Expr} {l : Nat} {env : Env} (h : isComp e = false) : swapsWith e t l env = pure false := by
  cases e <;> first | rfl | (cases h)
theorem sw_att {e o : Expr} {f : Str} {p : Pos} {l : Nat} {env : Env} : swapsWith e (some (.Attribute o f p)) l env = pure false := by
  cases e <;> rfl
theorem sw_sub {e o i : Expr} {p : Pos} {l : Nat} {env : Env} : swapsWith e (some (.Subscript o i p)) l env = pure false := by
  cases e <;> rfl
theorem sw_tup {e : Expr} {es : List Expr} {kk : Nat} {p : Pos} {l : Nat} {env : Env} : swapsWith e (some (.Tuple es kk p)) l env = pure false := by
  cases e <;> rfl
theorem st_tup {e : Expr} {es : List Expr} {kk : Nat} {p : Pos} {env : Env} (h : isTupE e = false) : swappedStores [.Tuple es kk p] e env = pure none := by
  cases e <;> first | rfl | (cases h)
theorem st_sub {e o i : Expr} {p : Pos} {env : Env} : swappedStores [.Subscript o i p] e env = pure none := by
  cases e <;> rfl
theorem ix_sub' {o i : Expr} {p : Pos} {env : Env} {G : Gt} {N : List Str} {f : Nat} {sc : Scope} {fnB : Str → Bool} {hn : Option Str} {y : E} (c : cE G N f sc fnB hn i = some y) (v : Value) : assign (.Subscript o i p) env v = (do
      let ov ← holding [v] (eval o env)
      let iv ← holding [v, ov] (eval i env)
      standAt p
      holding [v, ov, iv] (setItem ov iv v)
      release [v, ov, iv] []) := by
  cases f with
  | zero => cases c
  | succ f =>
    cases i with
    | Slice l u s p => cases c
    | _ => rfl
theorem storeX {x : Str} {i : Nat} (xk : Xk X T G Pr N sc fnB hot k) (e : storeOf N sc fnB x = some i) : X.N[i]? = some x ∧ Loc X.env.scope x ∧ (X.fn x = true ∨ X.env.scope.names.lookup x = some .local) := by
  have ix : ∀ {l : List Str} {y : Str} {j : Nat}, l.idxOf? y = some j → l[j]? = some y := by
    intro l y j h
    rw [List.idxOf?] at h
    obtain ⟨hj, e1, _⟩ := List.findIdx?_eq_some_iff_getElem.mp h
    rw [List.getElem?_eq_getElem hj]
    simpa using e1
  unfold storeOf at e
  rw [xk.hN, xk.hsc, xk.hfn]
  split at e
  · rename_i q
    exact ⟨ix e, .inl q, .inr q⟩
  · rename_i q
    split at e
    · rename_i q2
      exact ⟨ix e, .inr q, .inl q2⟩
    · cases e
  · cases e
theorem cSl_ok {g : Stmt → Option S} (hg : ∀ s x, g s = some x → PS X s (tS T X.K hot (Pg.ct Pr (calls Pr k)) W x)) : ∀ {ss : List Stmt} {xs : Ss}, cSl g ss = some xs → PSs X ss (tSs T X.K hot (Pg.ct Pr (calls Pr k)) W xs)
  | [], xs, c => by cases c; exact pSs_nil
  | s :: ss, xs, c => by
    simp only [cSl, Option.bind_eq_bind, Option.bind_eq_some_iff] at c
    obtain ⟨x, c1, ys, c2, c3⟩ := c
    cases c3
    exact pSs_cons (hg _ _ c1) (cSl_ok hg c2)
theorem Xk.tr {pn : List (Addr × Obj)} {xe : Value → Shared → Prop} (xk : Xk X T G Pr N sc fnB none k) : Xk (X.tr pn xe) T G Pr N sc fnB none k :=
  ⟨xk.hN, xk.nd, xk.hsc, xk.hfn, xk.calm, xk.room, xk.units, xk.pf, fun t e => by cases e⟩
theorem Xk.suite {a : Addr} {oe : Obj} {cls : Value} {d : Option Addr} {pn : List (Addr × Obj)} {nm : Option Nat} (xk : Xk X T G Pr N sc fnB none k) (hz : Zc cls d oe) (hd : ∃ vs, oe.data = .fields vs) : Xk (X.suite a ((a, oe) :: pn)) T G Pr N sc fnB (some ⟨cls, d, a, nm⟩) k :=
  ⟨xk.hN, xk.nd, xk.hsc, xk.hfn, (fun e => by cases e), (fun e => by cases e), xk.units, xk.pf, fun t e => by cases e; exact ⟨X, oe, pn, rfl, hz, hd⟩⟩
theorem mainS (hmt : G.mt.lookup ("__eq__" : Str) = some mEq) : ∀ (f : Nat) {X : Cx} {hot : Option Hot} {hn : Option Str} {W : WX} {st : Stmt} {x : S}, Xk X T G Pr N sc fnB hot k → HnOk hn hot N sc → Xs X hot W → cS G N f sc fnB hn st = some x → PS X st (tS T X.K hot (Pg.ct Pr (calls Pr k)) W x)
  | 0, _, _, _, _, _, _, _, _, _, c => by cases c
  | f + 1, X, hot, hn, W, st, x, xk, hk, xs, c => by
    have ih : ∀ s x, cS G N f sc fnB hn s = some x → PS X s (tS T X.K hot (Pg.ct Pr (calls Pr k)) W x) := fun s x c => mainS hmt f xk hk xs c
    have ie : ∀ e x, cE G N (f + 1) sc fnB hn e = some x → OkE e ∧ PB X T Pr k hot W e x := fun e x c => ⟨cE_ok c, main hmt (f + 1) xk hk xs.tk c⟩
    unfold cS at c
    split at c
    · cases c; exact pS_pas
    · cases c; exact pS_brk
    · cases c; exact pS_cnt
    · cases c; exact pS_rtN
    · simp only [Option.map_eq_some_iff] at c
      obtain ⟨y, c1, rfl⟩ := c
      exact pS_ret (ie _ _ c1).2.ev
    · split at c
      · cases c
      · rename_i hc
        simp only [Option.map_eq_some_iff] at c
        obtain ⟨y, c1, rfl⟩ := c
        exact pS_exp (ie _ _ c1).2.ev (sw_plain (by simpa using hc))
    · split at c
      · cases c
      · simp only [Option.bind_eq_bind, Option.bind_eq_some_iff] at c
        obtain ⟨i, c1, c⟩ := c
        obtain ⟨s1, s2, s3⟩ := storeX xk c1
        split at c
        · split at c
          · rename_i hh
            subst hh
            simp only [Option.map_eq_some_iff] at c
            obtain ⟨y, c2, rfl⟩ := c
            exact pS_assLc hmt xk xs.tk s1 s2 s3 c2
          · cases c
        · split at c
          · cases c
          · rename_i hc
            simp only [Option.map_eq_some_iff] at c
            obtain ⟨y, c2, rfl⟩ := c
            exact pS_ass xk s1 s2 s3 (sw_plain (by simpa using hc)) (ie _ _ c2).2.ev
    · split at c
      · cases c
      · rename_i hc
        simp only [Bool.or_eq_true, not_or, Bool.not_eq_true] at hc
        simp only [Option.bind_eq_bind, Option.bind_eq_some_iff] at c
        obtain ⟨is, c1, y, c2, c3⟩ := c
        cases c3
        exact pS_asT xk c1 (by unfold swapsWithSole; exact sw_tup) (st_tup hc.2) (ie _ _ c2).2.ev
    · simp only [Option.bind_eq_bind, Option.bind_eq_some_iff] at c
      obtain ⟨y, c1, j, c2, z, c3, c4⟩ := c
      cases c4
      exact pS_asA xk c2 sw_att (ie _ _ c3).2.ev (ie _ _ c1).2.ev
    · simp only [Option.bind_eq_bind, Option.bind_eq_some_iff] at c
      obtain ⟨y, c1, j, c2, z, c3, c4⟩ := c
      cases c4
      exact pS_asS (by unfold swapsWithSole; exact sw_sub) st_sub (ix_sub' c2) (ie _ _ c3).2.ev (ie _ _ c1).2.ev (ie _ _ c2).2.ev
    · simp only [Option.bind_eq_bind, Option.bind_eq_some_iff] at c
      obtain ⟨y, c1, j, c2, z, c3, c4⟩ := c
      cases c4
      exact pS_ite (ie _ _ c1).2.te (cSl_ok ih c2) (cSl_ok ih c3)
    · simp only [Option.bind_eq_bind, Option.bind_eq_some_iff] at c
      obtain ⟨t, c1, w, c2, b, c3, c4⟩ := c
      cases c4
      exact pS_for xk xs.own c1 (fun e => by subst e; exact cIt_ok xk ie c2) (cSl_ok ih c3) (fun x => cIt_ok' (fun e x c => cE_ok c) c2 _ x)
    · simp only [Option.bind_eq_bind, Option.bind_eq_some_iff] at c
      obtain ⟨y, c1, b, c2, c3⟩ := c
      cases c3
      exact pS_whl xs.own (ie _ _ c1).2.te (cSl_ok ih c2)
    · split at c
      · rename_i q
        simp only [Bool.and_eq_true] at q
        simp only [Option.bind_eq_bind, Option.bind_eq_some_iff] at c
        obtain ⟨j, c1, ys, c2, c⟩ := c
        split at c
        · rename_i hz
          cases c
          exact pS_rai xk xs.tk q.1 q.2 c1 hz (cEs_pa ie c2).2 (cEs_pa ie c2).1
        · cases c
      · cases c
    · split at c
      · rename_i q
        simp only [Bool.and_eq_true, decide_eq_true_eq] at q
        obtain ⟨⟨⟨⟨q1, q2⟩, q3⟩, q4⟩, q5⟩ := q
        subst q4
        simp only [Option.bind_eq_bind, Option.bind_eq_some_iff] at c
        obtain ⟨j, c1, i, c2, b, c3, s, c4, c5⟩ := c
        cases c5
        cases hot with
        | some t' => exact pS_hot fun n h e => by simp only [ex]; rw [if_pos e]
        | none =>
          rename_i n b0 su _ _
          obtain ⟨s1, s2, s3⟩ := storeX (x := n) (i := i) xk (by unfold storeOf; rw [q5]; exact c2)
          refine PS.imp (ps_try_as (c := .ref (T.cad j)) (i := i) (tb := fun W => tSs T X.K none (Pg.ct Pr (calls Pr k)) W b) (ts := tSu T X.K (Pg.ct Pr (calls Pr k)) (some i) s) xs.stk xs.fr (by rw [xk.hN]; exact xk.nd) s1 (by show X.env.scope.names.lookup n = _; rw [xk.hsc]; exact q5)
            ⟨isGlob_Gl xk q2, okName_d q1, .inl (xk.pf.xc _ _ c1)⟩ xs.tk ?_ ?_) fun D σ H hh => try_as_read (fun c hc => xk.pf.xm _ _ _ c1 hc) hh
          · intro W' pn xe tk' ow
            exact cSl_ok (X := X.tr pn xe) (fun s x c => mainS hmt f xk.tr hk ⟨tk', fun _ => ow, xs.stk, xs.fr⟩ c) c3
          · intro a oe cls d pn hz hd
            exact cSl_ok (X := X.suite a ((a, oe) :: pn)) (fun s x c => mainS hmt f (xk.suite hz hd) (fun y e => by cases e; exact ⟨q3, .inl q5, _, rfl⟩) ⟨takes0, (fun e => by cases e), xs.stk, xs.fr⟩ c) c4
      · cases c
    · split at c
      · rename_i q
        subst q
        simp only [Option.bind_eq_bind, Option.bind_eq_some_iff] at c
        obtain ⟨b, c3, y, c4, c5⟩ := c
        cases c5
        cases hot with
        | some t' => exact pS_hot fun n h e => by simp only [ex]; rw [if_pos e]
        | none =>
          have key : ∀ {hs : List ExceptHandler} {y : Hs}, cHl G sc (cS G N f sc fnB none) hs = some y → HdsOk X hs (hsL T X.K (Pg.ct Pr (calls Pr k)) y) ∧ hmOk T X.K (Pg.ct Pr (calls Pr k)) y := by
            intro hs
            induction hs with
            | nil => intro y c; cases c; exact ⟨.nil, trivial⟩
            | cons h hs ihh =>
              intro y c
              unfold cHl at c
              split at c
              · split at c
                · rename_i q
                  simp only [Bool.and_eq_true] at q
                  simp only [Option.bind_eq_bind, Option.bind_eq_some_iff] at c
                  obtain ⟨j, c1, s, c2, y2, c3, c4⟩ := c
                  cases c4
                  obtain ⟨k1, k2⟩ := ihh c3
                  refine ⟨.cons ⟨isGlob_Gl xk q.2, okName_d q.1, .inl (xk.pf.xc _ _ c1)⟩ ?_ k1, rfl, fun c hc => xk.pf.xm _ _ _ c1 hc, k2⟩
                  intro a oe cls d pn hz hd
                  exact cSl_ok (X := X.suite a ((a, oe) :: pn)) (fun s x c => mainS hmt f (xk.suite hz hd) (fun y e => by cases e) ⟨takes0, (fun e => by cases e), xs.stk, xs.fr⟩ c) c2
                · cases c
              · cases c
          obtain ⟨k1, k2⟩ := key c4
          refine PS.imp (ps_try_many (tb := fun W => tSs T X.K none (Pg.ct Pr (calls Pr k)) W b) xs.stk xs.fr xs.tk ?_ k1) fun D σ H hh => try_many_read k2 hh
          intro W' pn xe tk' ow
          exact cSl_ok (X := X.tr pn xe) (fun s x c => mainS hmt f xk.tr hk ⟨tk', fun _ => ow, xs.stk, xs.fr⟩ c) c3
      · cases c
    · cases c
end
end PM
set_option Elab.async false
set_option linter.all false
set_option maxRecDepth 100000
set_option maxHeartbeats 4000000
/-! PM16: defs, a program. -/
namespace PM
open PySem PySem.Spec PyProof.Rows L2
/-- a def that stands at f, compiled -/
structure DefF (K : PySem.W.Frag) (G : Gt) (Pr : Pg) (i : Nat) (f : Addr) : Prop where
  ex : ∃ (x qual : Str) (params : Arguments) (body : List Stmt) (scope : Scope) (fd : FuncData) (N ps : List Str) (b : Ss) (q : Nat), FunD K x qual params body scope [] [] f fd ∧ FnScope N ps scope ∧ Binds K fd ps [] ∧
    cSl (cS G N q scope (fun _ => true) none) body = some b ∧ Pr.df i = some ⟨ps.length, N.length, b⟩
/-- what stands of the program behind its top -/
structure Ps (P : Program) (w : World) (K : PySem.W.Frag) (mg : Str → Option Value) (base : Heap) (T : Tb) (G : Gt) (Pr : Pg) : Prop where
  eqm : G.mt.lookup ("__eq__" : Str) = some mEq
  fn : ∀ x i, G.fn.lookup x = some i → ∃ f, mg x = some (.ref f) ∧ PySem.W.keepIn K (.ref f) = true ∧ DefF K G Pr i f
  cl : ∀ x c, G.cl.lookup x = some c → mg x = some (.ref (T.cad c)) ∧ c ∈ T.cls
  cf : ∀ c, c ∈ T.cls → CF K (T.cad c)
  xf : ∀ c, c ∈ T.xcs → XF K (T.cad c)
  xi : ∀ x c j, tyOf G x = some (.own c) → j ∈ T.xcs → PySem.W.kitOne K (.ref (T.cad j)) (.ref (T.cad c)) = some (Pr.sub j c)
  xv : ∀ j, j ∈ T.xcs → PySem.W.kitOne K (.ref (T.cad j)) (.type "ValueError") = some true
  mkr : ∀ c i, Pr.init c = some i → ∃ f, Mk K (T.cad c) f ∧ DefF K G Pr i f
  co : ∀ x d, G.co.lookup x = some d → ∃ u v, mg x = some u ∧ RelV v u ∧ ∀ m H, VR K m H d v
  fr : ∀ x, G.free.contains x = true → mg x = none
  fl : ∀ x f, G.fl.lookup x = some f → T.fld f = x
  fok : ∀ c f, Pr.fok c f = true → NoAttr K (T.cad c) (T.fld f)
  mt : ∀ c i j x, Pr.meth c i = some j → G.mt.lookup x = some i → (∀ f, T.fld f ≠ x) ∧ ∃ f, Meth K (T.cad c) x f ∧ DefF K G Pr j f
  isB : ∀ x c t, tyOf G x = some (.own c) → t ∈ ["NoneType", "bool", "int", "str", "tuple", "list", "dict"] → PySem.W.kitOne K (.type t) (.ref (T.cad c)) = some false
  isO : ∀ x c j, tyOf G x = some (.own c) → j ∈ T.cls → PySem.W.kitOne K (.ref (T.cad j)) (.ref (T.cad c)) = some (decide (j = c))
  isT : ∀ t j, t ∈ ["bool", "int", "str", "tuple", "list", "dict"] → j ∈ T.cls → PySem.W.kitOne K (.ref (T.cad j)) (.type t) = some false
  xc : ∀ x c, G.xc.lookup x = some c → mg x = some (.ref (T.cad c))
  xm : ∀ x c j, G.xc.lookup x = some c → j ∈ T.xcs → PySem.W.exmOne K (.ref (T.cad j)) (.ref (T.cad c)) = some (Pr.sub j c)
  rz : ∀ c, G.rz.contains c = true → RzF P w K mg base T Pr c
section
variable {P : Program} {w : World} {K : PySem.W.Frag} {mg : Str → Option Value} {base : Heap} {T : Tb} {G : Gt} {Pr : Pg} {k : Nat}
theorem ER.start {m : List Addr} {H : Hp} {N : List Str} {ds : List D} {vs : List V} (vr : VRs K m H ds vs) : ER T K none m H ⟨ds.map some ++ List.replicate (N.length - ds.length) none, none⟩ (L2.start N vs) := by
  have hl := vr.length
  refine ⟨by simp [L2.start, hl], fun i d q => ?_, trivial⟩
  by_cases hi : i < ds.length
  · rw [List.getElem?_append_left (by simpa using hi), List.getElem?_map] at q
    cases e : ds[i]? with
    | none => rw [e] at q; cases q
    | some d' =>
      rw [e] at q
      cases q
      obtain ⟨v, ev, r⟩ := vr.get e
      refine ⟨v, ?_, r⟩
      unfold L2.start
      rw [List.getElem?_append_left (by simp; omega), List.getElem?_map, ev]
      rfl
  · rw [List.getElem?_append_right (by simpa using hi), List.getElem?_replicate] at q
    split at q <;> cases q
theorem DefF.ff0 {i : Nat} {f : Addr} (d : DefF K G Pr i f) : FF P w K mg base T Pr 0 i f := by
  obtain ⟨x, qual, params, body, scope, fd, N, ps, b, q, F, S, bi, c, hd⟩ := d.ex
  refine ⟨fd, ps, bi, fun vs H Q E h => ?_, fun A outer s H args us vs Q E _ _ _ _ h => ?_⟩
  · obtain ⟨m, h, ds, R, vr, g⟩ := h; exact g.elim
  · obtain ⟨m, h, ds, R, vr, g⟩ := h; exact g.elim
theorem fn_ff {i : Nat} {f : Addr} {x qual : Str} {params : Arguments} {body : List Stmt} {scope : Scope} {fd : FuncData} {N ps : List Str} {b : Ss} {q : Nat} (eqm : G.mt.lookup ("__eq__" : Str) = some mEq) (pf : Pf P w K mg base T G Pr k) (F : FunD K x qual params body scope [] [] f fd) (S : FnScope N ps scope)
    (c : cSl (cS G N q scope (fun _ => true) none) body = some b) (hd : Pr.df i = some ⟨ps.length, N.length, b⟩) : FnOk P w K mg base (L2.CX P w) (2 * (k + 1) + 2) f fd ps (spF T K Pr (k + 1) i) := by
  have run : ∀ ds h, calls Pr (k + 1) i ds h = runDf (Pg.ct Pr (calls Pr k)) ⟨ps.length, N.length, b⟩ ds h := fun ds h => by
    show (match Pr.df i with | some d => runDf (Pg.ct Pr (calls Pr k)) d ds h | none => .bad) = _
    rw [hd]
  refine FunD.ok F S (fun vs H Q E h => ?_) fun cdv A outer s H vs Q E hr hsp => ?_
  · obtain ⟨m, h, ds, R, vr, g⟩ := h
    rw [run] at g
    unfold runDf at g
    split at g
    · rename_i e; rw [← vr.length]; exact e
    · exact g.elim
  · have xk : Xk (cxOf (L2.CX P w) P w K mg base N qual scope f cdv A outer s H E) T G Pr N scope (fun _ => true) none k :=
      ⟨rfl, S.nd, rfl, rfl, (fun _ => rfl), (fun _ => hr), (by have := hr.un; show (A.deeper (envOfC qual scope s.heap.objs.size f cdv)).units + 65 < cLine; omega), pf, fun t e => by cases e⟩
    have tk : Takes (cxOf (L2.CX P w) P w K mg base N qual scope f cdv A outer s H E) (fun cls d _ H => E cls d H) := takes_of rfl rfl rfl rfl
    have ow : PassesOwn (model P w) (cxOf (L2.CX P w) P w K mg base N qual scope f cdv A outer s H E).A (cxOf (L2.CX P w) P w K mg base N qual scope f cdv A outer s H E).env (cxOf (L2.CX P w) P w K mg base N qual scope f cdv A outer s H E).xe := passes_of (X := cxOf (L2.CX P w) P w K mg base N qual scope f cdv A outer s H E) rfl
    refine ⟨_, cSl_ok (X := cxOf (L2.CX P w) P w K mg base N qual scope f cdv A outer s H E) (W := fun cls d _ H => E cls d H) (fun s x c => mainS eqm q xk (fun _ z => by cases z) ⟨tk, (fun _ => ow), rfl, rfl⟩ c) c, ?_⟩
    obtain ⟨m, h, ds, R, vr, g⟩ := hsp
    rw [run] at g
    unfold runDf at g
    split at g
    · rename_i e
      refine ⟨m, h, _, R, ER.start (N := N) vr, ?_⟩
      have e : ds.length = ps.length := e
      rw [e]
      dsimp only at g
      cases q : exs (Pg.ct Pr (calls Pr k)) b ⟨ds.map some ++ List.replicate (N.length - ps.length) none, none⟩ h with
      | nx n1 h1 => rw [q] at g; exact fun m' H' σ' e R' er' => g m' H' e R' _ .non
      | rt d h1 => rw [q] at g; exact fun m' H' v e R' vr => g m' H' e R' v vr
      | bk n1 h1 => rw [q] at g; exact g.elim
      | ct n1 h1 => rw [q] at g; exact g.elim
      | th c fs n1 h1 => rw [q] at g; exact fun m' H' σ' cls d e R' er' z => g m' H' cls d e R' z
      | bad => rw [q] at g; exact g
    · exact g.elim
theorem DefF.ffS {i : Nat} {f : Addr} (eqm : G.mt.lookup ("__eq__" : Str) = some mEq) (pf : Pf P w K mg base T G Pr k) (d : DefF K G Pr i f) : FF P w K mg base T Pr (k + 1) i f := by
  obtain ⟨x, qual, params, body, scope, fd, N, ps, b, q, F, S, bi, c, hd⟩ := d.ex
  exact ⟨fd, ps, bi, fn_ff eqm pf F S c hd⟩
theorem Ps.pf (s : Ps P w K mg base T G Pr) : ∀ k, Pf P w K mg base T G Pr k
  | 0 => {
    fn := fun x i e => let ⟨f, a, b, c⟩ := s.fn x i e; ⟨f, a, b, c.ff0⟩
    cl := s.cl, cf := s.cf, xf := s.xf, xi := s.xi, xv := s.xv
    mkr := fun c i e => let ⟨f, a, b⟩ := s.mkr c i e; ⟨f, a, b.ff0⟩
    co := s.co, fr := s.fr, fl := s.fl, fok := s.fok
    mt := fun c i j x e1 e2 => let ⟨n, f, a, b⟩ := s.mt c i j x e1 e2; ⟨n, f, a, b.ff0⟩
    isB := s.isB, isO := s.isO, isT := s.isT, xc := s.xc, xm := s.xm, rz := s.rz }
  | k + 1 => {
    fn := fun x i e => let ⟨f, a, b, c⟩ := s.fn x i e; ⟨f, a, b, c.ffS s.eqm (Ps.pf s k)⟩
    cl := s.cl, cf := s.cf, xf := s.xf, xi := s.xi, xv := s.xv
    mkr := fun c i e => let ⟨f, a, b⟩ := s.mkr c i e; ⟨f, a, b.ffS s.eqm (Ps.pf s k)⟩
    co := s.co, fr := s.fr, fl := s.fl, fok := s.fok
    mt := fun c i j x e1 e2 => let ⟨n, f, a, b⟩ := s.mt c i j x e1 e2; ⟨n, f, a, b.ffS s.eqm (Ps.pf s k)⟩
    isB := s.isB, isO := s.isO, isT := s.isT, xc := s.xc, xm := s.xm, rz := s.rz }
end
end PM
set_option Elab.async false
set_option linter.all false
set_option maxRecDepth 100000
set_option maxHeartbeats 4000000
/-! PM17: an own exception's __init__: super().__init__("..") and its fields. -/
namespace PM
open PySem PySem.Spec PyProof.Rows L2
/-- self.f = q, one behind another -/
inductive Sets : List Stmt → List Str → List Str → Prop
  | nil : Sets [] [] []
  | cons {f q : Str} {p1 p2 p3 p4 : Pos} {r : List Stmt} {fl qs : List Str} : Sets r fl qs → Sets (.Assign [.Attribute (.Name "self" p1) f p2] (.Name q p3) p4 :: r) (f :: fl) (q :: qs)
def tSets (K : PySem.W.Frag) : List Str → Nat → TS
  | [], _ => tNext
  | f :: fl, i => tSeq (tOst K f (tVar 0) (tVar i)) (tSets K fl (i + 1))
theorem Sets.len : ∀ {sts : List Stmt} {fl qs : List Str}, Sets sts fl qs → fl.length = qs.length
  | _, _, _, .nil => rfl
  | _, _, _, .cons r => by simp [Sets.len r]
theorem sets_ps {X : Cx} (h0 : X.N[0]? = some ("self" : Str)) (v0 : Vis X.env.scope "self") : ∀ {sts : List Stmt} {fl qs : List Str}, Sets sts fl qs → ∀ i, (∀ j q, qs[j]? = some q → X.N[i + j]? = some q) → (∀ q ∈ qs, Vis X.env.scope q ∧ okName q = true) → PSs X sts (tSets X.K fl i)
  | _, _, _, .nil, _, _, _ => pss_nil
  | _, _, _, .cons (q := q) r, i, hN, hv => by
    obtain ⟨vq, oq⟩ := hv q List.mem_cons_self
    refine pss_cons (ps_ost (pe_var h0 v0) (pe_var (by simpa using hN 0 q rfl) vq (okName_d oq) ?_)) (sets_ps h0 v0 r (i + 1) (fun j q' e => ?_) fun q' hq => hv q' (List.mem_cons_of_mem _ hq))
    · unfold okName at oq
      simp only [Bool.and_eq_true, Bool.not_eq_true'] at oq
      exact oq.1.2
    · have := hN (j + 1) q' (by simpa using e)
      rw [show i + 1 + j = i + (j + 1) by omega]
      exact this
theorem sets_old {K : PySem.W.Frag} {C a d : Addr} {D : Ends} {σ : L2.St} (T : OexC K C) (h0 : σ[0]? = some (some (.ref a))) (hda : d ≠ a) : ∀ {fl : List Str} {ws : List V} {gs : List (Str × V)} {H : Hp} (i : Nat), ws.length = fl.length → (∀ j v, ws[j]? = some v → σ[i + j]? = some (some v)) → (∀ f ∈ fl, PySem.W.findIn K (.ref C) f = some none) →
    gs.length + fl.length ≤ 900 → H a = some (exo a C (some d)) → H d = some (exd d gs) → D.nx σ (upd H d (exd d ((fl.zip ws).reverse ++ gs))) → tSets K fl i D σ H
  | [], ws, gs, H, i, hl, _, _, _, ea, ed, q => by
    have : ws = [] := List.length_eq_zero_iff.mp hl
    subst this
    have e : upd H d (exd d gs) = H := by
      funext b
      by_cases hb : b = d
      · subst hb; rw [upd_same, ed]
      · rw [upd_ne hb]
    simp only [List.zip_nil_right, List.reverse_nil, List.nil_append] at q
    rw [e] at q
    exact q
  | f :: fl, [], gs, H, i, hl, _, _, _, _, _, _ => by simp at hl
  | f :: fl, v :: ws, gs, H, i, hl, hw, hf, hz, ea, ed, q => by
    refine ⟨v, by simpa using hw 0 v rfl, .ref a, h0, a, C, rfl, T, hf f List.mem_cons_self, .inr ⟨d, gs, ea, ed, by simp at hz; omega, ?_⟩⟩
    refine sets_old T h0 hda (i + 1) (by simpa using hl) (fun j v' e => ?_) (fun g hg => hf g (List.mem_cons_of_mem _ hg)) (by simp at hz ⊢; omega) (by rw [upd_ne (Ne.symm hda)]; exact ea) upd_same ?_
    · have := hw (j + 1) v' (by simpa using e)
      rw [show i + 1 + j = i + (j + 1) by omega]
      exact this
    · have e2 : upd (upd H d (exd d ((f, v) :: gs))) d (exd d ((fl.zip ws).reverse ++ (f, v) :: gs)) = upd H d (exd d (((f :: fl).zip (v :: ws)).reverse ++ gs)) := by
        funext b
        by_cases hb : b = d
        · subst hb; rw [upd_same, upd_same]; simp
        · rw [upd_ne hb, upd_ne hb, upd_ne hb]
      rw [e2]
      exact q
theorem sets_new {K : PySem.W.Frag} {C a : Addr} {D : Ends} {σ : L2.St} (T : OexC K C) (h0 : σ[0]? = some (some (.ref a))) {f : Str} {fl : List Str} {ws : List V} {H : Hp} (i : Nat) (hl : ws.length = (f :: fl).length) (hw : ∀ j v, ws[j]? = some v → σ[i + j]? = some (some v)) (hf : ∀ g ∈ f :: fl, PySem.W.findIn K (.ref C) g = some none)
    (hz : (f :: fl).length ≤ 900) (ea : H a = some (exo a C none)) (q : ∀ d, H d = none → d ≠ a → D.nx σ (upd (upd H d (exd d ((f :: fl).zip ws).reverse)) a (exo a C (some d)))) : tSets K (f :: fl) i D σ H := by
  cases ws with
  | nil => simp at hl
  | cons v ws =>
    refine ⟨v, by simpa using hw 0 v rfl, .ref a, h0, a, C, rfl, T, hf f List.mem_cons_self, .inl ⟨ea, fun d hd hda => ?_⟩⟩
    refine sets_old (gs := [(f, v)]) T h0 hda (i + 1) (by simpa using hl) (fun j v' e => ?_) (fun g hg => hf g (List.mem_cons_of_mem _ hg)) (by simp at hz ⊢; omega) upd_same (by rw [upd_ne hda, upd_same]) ?_
    · have := hw (j + 1) v' (by simpa using e)
      rw [show i + 1 + j = i + (j + 1) by omega]
      exact this
    · have e2 : upd (upd (upd H d (exd d [(f, v)])) a (exo a C (some d))) d (exd d ((fl.zip ws).reverse ++ [(f, v)])) = upd (upd H d (exd d ((f :: fl).zip (v :: ws)).reverse)) a (exo a C (some d)) := by
        funext b
        by_cases hb : b = d
        · subst hb; rw [upd_same, upd_ne hda, upd_same]; simp
        · rw [upd_ne hb]
          by_cases hba : b = a
          · subst hba; rw [upd_same, upd_same]
          · rw [upd_ne hba, upd_ne hb, upd_ne hba, upd_ne hb]
      rw [e2]
      exact q d hd hda
/-- the frame of such an __init__ -/
def cxX (P : Program) (w : World) (K : PySem.W.Frag) (mg : Str → Option Value) (base : Heap) (N : List Str) (qual : Str) (scope : Scope) (f : Addr) (cd : Value) (cc : Addr) (A : Around) (outer : List Env) (s : Shared) (H : Hp) : Cx :=
  { cxOf (L2.CX P w) P w K mg base N qual scope f cd A outer s H (fun _ _ _ => False) with
    env := PySem.W.ksEnv qual scope s.heap.objs.size f cd cc, A := A.deeper (PySem.W.ksEnv qual scope s.heap.objs.size f cd cc), stack := PySem.W.ksEnv qual scope s.heap.objs.size f cd cc :: outer, fn := fun _ => false, xe := fun _ _ => False }
/-- what the written part says of it -/
structure InitF (P : Program) (K : PySem.W.Frag) (mg : Str → Option Value) (C fI : Addr) (fd : FuncData) (qs fl : List Str) : Prop where
  oex : OexC K C
  ex : ∃ (name qual : Str) (params : Arguments) (scope : Scope) (dV kV doc pm ct oc : Value) (an od : Option Addr) (osl : Array (Option Value)) (cda cc : Addr) (vsC : Array Value) (file : Str) (tf : Tok) (ccl cl : Value) (cdd cld : Option Addr) (ccs csl : Array (Option Value)) (ar : Arg) (msg : Str) (j : Nat) (p0 p1 p2 p3 p4 p5 : Pos) (sts : List Stmt),
    fd = PySem.W.ksFn name qual params (.Expr (.Call (.Attribute (.Call (.Name "super" p0) [] [] p1) "__init__" p2) [.Constant (.str msg) j p3] [] p4) p5 :: sts) scope dV kV doc pm an (.ref cda) ct cc ∧
    K.lookup fI = some ⟨oc, od, .func fd, osl⟩ ∧ PySem.W.codeIn K (.ref cda) qual = true ∧ K.lookup cda = some ⟨ccl, cdd, .fields vsC, ccs⟩ ∧ vsC[2]? = some (.str file tf) ∧ ((P.main.file : Str) == file) = true ∧
    K.lookup cc = some ⟨cl, cld, .cell (some (.ref C)), csl⟩ ∧ (params.posonlyargs ++ params.args).head? = some ar ∧ ar.arg = "self" ∧ Sets sts fl qs ∧
    scope.kind = .function ∧ scope.isCoroutine = false ∧ scope.isGenerator = false ∧ scope.names.lookup ("super" : Str) = some .globalImplicit ∧ scope.names.lookup ("__class__" : Str) = some .free ∧ (∀ q ∈ ("self" : Str) :: qs, scope.names.lookup q = some .local ∧ okName q = true) ∧ (∀ y ∈ scope.names, y.2 ≠ .cell) ∧ (∀ y ∈ scope.names, y.2 = .free → y.1 = "__class__") ∧ (p2.endLine == p4.line) = true
  nd : (("self" : Str) :: qs).Nodup
  sup : PySem.W.ks_superIn K C C "__init__" = some (some (.builtin "ValueError.__init__"))
  sub : PySem.W.subIn K (.ref C) (.type "ValueError") = some true
  mro : PySem.W.mroIn K C (.ref C) = some true
  st : PySem.W.nsIn K cStatics "thirdparty.any" = some none
  fre : mg ("super" : Str) = none
  top : (P.main.scope.names.lookup ("super" : Str)).isSome = false
  fls : ∀ f ∈ fl, PySem.W.findIn K (.ref C) f = some none
  le : fl.length ≤ 900
  pos : 0 < fl.length
  bi : Binds K fd (("self" : Str) :: qs) []
section
open PySem.W
variable {prog : Program} {w : World} {A : Around} {E : Value → Shared → Prop} {s : Shared}
/-- the bound ValueError.__init__ called -/
theorem call_mw {u x C t0 : Addr} {nm q : Str} {N : Addr} {bs bm : List Value} {hdct : Bool} {sn : List Str} {sub : List Value} {ab : Bool} {col : Option Bool} {dd : Option Addr} {k0 k1 k2 k3 k5 : Option Value} {rest : List Value} {Q : Value → Shared → Prop}
    (hu : s.heap.get? u = some (kxs_mw "ValueError.__init__" x)) (hC : s.heap.get? C = some (excClassObj nm q C N bs bm hdct sn sub ab col dd k0 k1 k2 k3 k5 "ValueError.__new__")) (he : s.heap.get? x = some (PySem.HandSPX.excO C t0)) (hz : rest.length ≤ sizeLine)
    (h : ∀ h' t1, (∀ b o, b ≠ x → s.heap.get? b = some o → h'.get? b = some o) → h'.get? x = some (PySem.HandSPX.excO C t1) → Q .none { s with heap := h' }) : wpAny (model prog w) A (call (.ref u) rest) Q E s := by
  obtain ⟨hh, g, d, tk, os⟩ := s
  refine wpAny_call (codeAny_of_tree ?_)
  show wpAny _ A.in1 (callAny (.ref u) ⟨rest, []⟩) _ _ _
  simp only [callAny]
  refine wpAny_bind (wpAny_load hu ?_)
  simp only [kxs_mw]
  refine KFB.if_so (by decide) ?_
  refine wpAny_bind (check_bound_init F.excBase_ValueError.toExcCallFacts hC he rfl ?_)
  refine wpAny_bind (wpAny_pure (wpAny_pure ?_))
  refine ⟨plainId_quiet F.excBase_ValueError.init.plain _, codeAny_builtin F.excBase_ValueError.initEntry ?_⟩
  exact exc_init_tree (cls := .ref C) (t0 := t0) (dv := none) (c2 := .none) (c3 := .none) (b4 := .bool false) he hz fun h' k e _ => h h' _ k e
end
section
variable {P : Program} {w : World} {K : PySem.W.Frag} {mg : Str → Option Value} {base : Heap} {C fI : Addr} {fd : FuncData} {qs fl : List Str}
theorem lookup_rev {ps : List Str} {us : List Value} (nd : ps.Nodup) {i : Nat} {x : Str} {u : Value} (e1 : ps[i]? = some x) (e2 : us[i]? = some u) : (ps.zip us).reverse.lookup x = some u := by
  have key : ∀ {l : List (Str × Value)}, (∀ p ∈ l, ∀ q ∈ l, p.1 = q.1 → p.2 = q.2) → (x, u) ∈ l → l.lookup x = some u := by
    intro l
    induction l with
    | nil => intro _ h; cases h
    | cons p l ih =>
      intro hu hm
      obtain ⟨y, v⟩ := p
      by_cases hxy : x = y
      · subst hxy
        have := hu (x, u) hm (x, v) List.mem_cons_self rfl
        simp at this
        subst this
        simp [List.lookup_cons]
      · have hb : (x == y) = false := by simpa using hxy
        rw [List.lookup_cons, hb]
        rcases List.mem_cons.mp hm with z | z
        · cases z; exact absurd rfl hxy
        · exact ih (fun p hp q hq => hu p (List.mem_cons_of_mem _ hp) q (List.mem_cons_of_mem _ hq)) z
  refine key (fun p hp q hq e => ?_) ?_
  · rw [List.mem_reverse] at hp hq
    obtain ⟨a, ha, ea⟩ := List.getElem_of_mem hp
    obtain ⟨b, hb, eb⟩ := List.getElem_of_mem hq
    have ha1 : a < ps.length := by rw [List.length_zip] at ha; omega
    have hb1 : b < ps.length := by rw [List.length_zip] at hb; omega
    rw [List.getElem_zip] at ea eb
    have : ps[a] = ps[b] := by rw [show ps[a] = p.1 from by rw [← ea], show ps[b] = q.1 from by rw [← eb], e]
    have hab := (List.getElem_inj nd).mp this
    subst hab
    rw [← ea, ← eb]
  · rw [List.mem_reverse]
    have hi : i < (ps.zip us).length := by
      rw [List.length_zip]
      have h1 := (List.getElem?_eq_some_iff.mp e1).1
      have h2 := (List.getElem?_eq_some_iff.mp e2).1
      omega
    have : (ps.zip us)[i] = (x, u) := by
      rw [List.getElem_zip]
      have h1 := (List.getElem?_eq_some_iff.mp e1).2
      have h2 := (List.getElem?_eq_some_iff.mp e2).2
      rw [h1, h2]
    exact this ▸ List.getElem_mem hi
theorem form1 {o : Expr} {m msg : Str} {apos pos p3 : Pos} {j : Nat} {env : Env} (hline : (apos.endLine == pos.line) = true) : eval (.Call (.Attribute o m apos) [.Constant (.str msg) j p3] [] pos) env = (do
      let ov ← attributeBase o m env (eval o env)
      standAt apos.atName
      let (f, first) ← holding [ov] (getMethod ov m (do return (← importBound o env).getD true))
      callWith pos f first (backTo pos (starEach [.Constant (.str msg) j p3] env)) []) := by
  have e1 : eval (.Call (.Attribute o m apos) [.Constant (.str msg) j p3] [] pos) env = (do
    let ov ← attributeBase o m env (eval o env)
    standAt apos.atName
    methodCall o m apos pos env ov 1 (backTo pos (starEach [.Constant (.str msg) j p3] env)) (backToKw pos (keywordEach [] env))) := by rw [eval]; rfl
  rw [e1]
  have e2 : methodCallPos true o env apos pos = pure pos := by
    unfold methodCallPos
    rw [hline]
    rfl
  have few : methodCallForm 1 (backTo pos (starEach [.Constant (.str msg) j p3] env)) (backToKw pos (keywordEach [] env)) = true := rfl
  unfold methodCall
  rw [few, e2]
  simp only [pure_bind, calleeOf, if_true]
  rfl
theorem init_ok (F : InitF P K mg C fI fd qs fl) : FnOk P w K mg base (L2.CX P w) 1 fI fd (("self" : Str) :: qs) (spX C fl) := by
  obtain ⟨name, qual, params, scope, dV, kV, doc, pm, ct, oc, od0, an, osl, cda, cc, vsC, file, tf, ccl, cl, cdd, cld, ccs, csl, ar, msg, j, p0, p1, p2, p3, p4, p5, sts, efd, lk, hcd, hcode, hvs, hfile, hcell, hhead, har, hsets, hkind, hco, hgen, hsup, hcls, hloc, hnc, hfree, hline⟩ := F.ex
  subst efd
  refine ⟨fun vs H Q E h => ?_, fun A outer s H args us vs Q E hr e0 hb r hsp => ?_⟩
  · obtain ⟨a, ws, rfl, hl, _⟩ := h
    simp [hl, hsets.len]
  obtain ⟨a, ws, rfl, hl, ea, q⟩ := hsp
  have KX : K.In s.heap := e0.mod.kin.keeps fun b o e => (e0.bs b o e).1
  have lim : s.heap.NoLimit := e0.mod.nolimit.keeps fun b o e => (e0.bs b o e).1
  refine PySem.ks_codeAny_call_defAt (binds := ((("self" : Str) :: qs).zip us)) hr.depth (KX _ _ lk) rfl lim (PySem.W.codeRec_of KX hcd) rfl hb hnc (fun x hx => (hloc x.1 (List.of_mem_zip hx).1).1) (fun h1 hns hk => ?_) hco hgen hkind
  have hul : us.length = qs.length + 1 := by
    have := r.length
    simp at this
    rw [← this, hl, hsets.len]
  have I : Inv (cxX P w K mg base (("self" : Str) :: qs) qual scope fI (.ref cda) cc A outer s H) [] (start (("self" : Str) :: qs) (.ref a :: ws)) H { s with heap := h1, toks := s.toks + ((("self" : Str) :: qs).zip us).length } := by
    have noA : ∀ b : Addr, b ∉ ([] : List Addr) := fun b z => by cases z
    have hlk : ∀ x c, ([(("__class__" : Str), cc)] : List (Str × Addr)).lookup x = some c → x = "__class__" ∧ c = cc := fun x c h => by
      simp only [List.lookup_cons, List.lookup_nil] at h
      split at h
      · rename_i z
        cases h
        exact ⟨by simpa using z, rfl⟩
      · cases h
    have hbcc : ∀ c, c = cc → ∃ o, base.get? c = some o ∧ o.data = .cell (some (.ref C)) := fun c e => by
      subst e
      exact ⟨_, e0.mod.kin _ _ hcell, rfl⟩
    refine ⟨⟨e0.mod, hkind, rfl, rfl, Nat.le_refl _, fun y z c h1 h2 => ?_, fun y hy => ?_, (fun y c h _ => by cases h), (fun _ => hr.hd), Around.frames_deeper e0.frames, .inr ⟨rfl, rfl⟩, fun b z => absurd z (noA b), e0.bs, e0.bsz, fun b _ _ => noA b, fun b z => absurd z (noA b), e0.funs, e0.frf⟩,
      rfl, e0.bare, Un.kept hk, ⟨_, hns, fun i y v e1 e2 e3 => ?_⟩, fun y c h => ?_, e0.hok.fresh (Nat.le_refl _), fun y c h => ?_, fun p hp => absurd (show p ∈ ([] : List (Addr × Obj)) from hp) (by simp), e0.hok.kept hk, ?_⟩
    · exact (hlk y c h1).1.trans (hlk z c h2).1.symm
    · have hy : scope.names.lookup y = some .cell ∨ scope.names.lookup y = some .free := hy
      rcases hy with hy | hy
      · exact absurd rfl (hnc _ (PySem.mem_of_lookup hy))
      · have := hfree _ (PySem.mem_of_lookup hy) rfl
        dsimp only at this
        subst this
        exact ⟨cc, rfl⟩
    · have e1 : (("self" : Str) :: qs)[i]? = some y := e1
      have hi : i < us.length := by
        have := (List.getElem?_eq_some_iff.mp e1).1
        simp at this
        omega
      have hv : ((V.ref a :: ws))[i]? = some v := by
        unfold L2.start at e2
        have hi2 : i < (V.ref a :: ws).length := by
          have := (List.getElem?_eq_some_iff.mp e1).1
          simp at this ⊢
          rw [hl, hsets.len]
          exact this
        rw [List.getElem?_append_left (by simpa using hi2), List.getElem?_map] at e2
        cases e : (V.ref a :: ws)[i]? with
        | none => rw [e] at e2; cases e2
        | some a' => rw [e] at e2; cases e2; rfl
      obtain ⟨u, hu, rv⟩ := r.get hv
      refine ⟨u, rv, .inl ⟨(hloc y (List.mem_of_getElem? e1)).1, ?_⟩⟩
      exact lookup_rev F.nd e1 hu
    · obtain ⟨rfl, rfl⟩ := hlk y c h
      obtain ⟨o, e1, e2⟩ := hbcc c rfl
      exact ⟨_, _, hk _ _ (e0.bs _ _ e1).1, e2⟩
    · obtain ⟨rfl, rfl⟩ := hlk y c h
      obtain ⟨o, e1, e2⟩ := hbcc c rfl
      exact (e0.bs _ _ e1).2
    · unfold L2.start
      show _ = (("self" : Str) :: qs).length
      rw [List.length_append, List.length_map, List.length_replicate]
      simp [hl, hsets.len]
  obtain ⟨nm, qn, NN, bs, bm, sn, sub, ab, col, dd, k0, k1, k2, k3, k5, hC, hbm⟩ := F.oex.cls
  obtain ⟨t0, ho⟩ := exo_at I.hok ea
  obtain ⟨mb, b1, b2⟩ := I.mod.blt
  obtain ⟨m, hn, hlk⟩ := I.loc
  have lself := (hloc "self" List.mem_cons_self).1
  obtain ⟨u0, r0, look⟩ := hlk 0 "self" (.ref a) rfl rfl (.inl lself)
  cases r0
  have hm : m "self" = some (.ref a) := by
    rcases look with ⟨_, z⟩ | ⟨z, _⟩
    · exact z
    · have z : scope.names.lookup ("self" : Str) = some .cell ∨ scope.names.lookup ("self" : Str) = some .free := z
      rw [lself] at z
      rcases z with z | z <;> cases z
  have hne : a ≠ C := fun z => by
    subst z
    have := I.kIn _ _ hC
    rw [ho] at this
    cases this
  refine PySem.ks_wpAt_execs_cons (PySem.ks_wpAt_Expr_any (PySem.ks_wpAt_MethodCall (PySem.ks_wpAt_super_base (ar := ar) hsup hcls rfl rfl (I.kIn _ _ lk) rfl hhead rfl (I.kIn _ _ hcode) rfl hvs hfile F.top ?_) (form1 hline)) ?_ rfl)
  · refine PySem.W.ks_loadName_global hkind hsup (Calls.loadGlobal_builtin (I.mod.glob.keeps I.bk) F.fre (b1.keeps I.bk) ((b2 _ (by decide)).trans (by kernel_rfl)) ⟨rfl, ?_⟩)
    refine wpAny_loadName_free hkind hcls rfl ⟨_, I.kIn _ _ hcell, rfl⟩ ?_ rfl
    rw [har]
    refine wpAny_loadName_local hkind lself hn hm ?_
    have hD1 := I.kIn _ _ hC
    refine PySem.ks_wpAny_isType_cls hD1 rfl ⟨rfl, ?_⟩
    refine PySem.ks_wpAny_call_super hD1 rfl ho rfl (fun c e => by cases e) (PySem.W.looks_mroIn I.kIn F.mro) (fun h2 e k => ?_)
    have I2 := I.kept (h' := h2) (t' := s.toks + ((("self" : Str) :: qs).zip us).length) k
    obtain ⟨t2, ho2⟩ := exo_at I2.hok ea
    have hcl : PySem.W.clsIn K C = some { name := nm, bases := bs, mro := .ref C :: bm, ns := NN, qualname := qn, hasDict := true, slotNames := sn, subclasses := sub, abstract := ab, collection := col, hasDel := false } := by unfold PySem.W.clsIn; rw [hC] <;> rfl
    have IA : PySem.W.InstAt h2 a _ C none := ⟨ho2, rfl, rfl, trivial⟩
    have hsI := F.sup
    unfold PySem.W.ks_superIn at hsI
    rw [hcl] at hsI
    refine PySem.W.kxs_getMethod PySem.W.kxs_ValueError (l₀ := .ref C :: bm) e (PySem.W.looks_opaque I2.kIn F.st) ?_ rfl I2.kIn hsI (IA.type.andThen (PySem.W.looks_subIn I2.kIn F.sub)) hne rfl ?_
    · exact fun A Q E s k q => wpAny_bind ((PySem.W.looks_clsIn I2.kIn hcl) A _ E s k (wpAny_pure q))
    · have I3 := I2.kept (h' := h2.push (PySem.W.kxs_mw "ValueError.__init__" a)) (t' := s.toks + ((("self" : Str) :: qs).zip us).length + 1) fun b u q => Heap.get?_push_of_some _ q
      have hu : (h2.push (PySem.W.kxs_mw "ValueError.__init__" a)).get? h2.objs.size = some (PySem.W.kxs_mw "ValueError.__init__" a) := Heap.get?_push_size h2 rfl
      refine PySem.W.kxs_callWith (i := "ValueError.__init__") (x := a) rfl (Calls.evalArgs_plain (Calls.spliced_cons (Calls.Constant_str (k := j) (pos := p3) (Calls.spliced_nil ⟨hu, ?_⟩))))
      have ho3 := Heap.get?_push_of_some (PySem.W.kxs_mw "ValueError.__init__" a) ho2
      refine call_mw hu (I3.kIn _ _ hC) ho3 (by show 1 ≤ sizeLine; decide) fun h' t1 k' e' => ?_
      have I5 : Inv (cxX P w K mg base (("self" : Str) :: qs) qual scope fI (.ref cda) cc A outer s H) [] (L2.start (("self" : Str) :: qs) (.ref a :: ws)) H { s with heap := h', toks := s.toks + ((("self" : Str) :: qs).zip us).length + 1 + 1 } := by
        have J := I3.write (t' := s.toks + ((("self" : Str) :: qs).zip us).length + 1 + 1) (x := a) (e := a) (o := exo a C none) (h' := h') (by rw [ea]; exact True.intro) (.inl rfl) k' ⟨_, e'⟩ (exo_ok e')
        have eu : upd H a (exo a C none) = H := by
          funext b
          by_cases hb : b = a
          · rw [hb, upd_same, ea]
          · rw [upd_ne hb]
        rw [eu] at J
        exact J
      have vs : ∀ q ∈ ("self" : Str) :: qs, Vis scope q ∧ okName q = true := fun q hq => ⟨.inl (hloc q hq).1, (hloc q hq).2⟩
      have ps := sets_ps (X := cxX P w K mg base (("self" : Str) :: qs) qual scope fI (.ref cda) cc A outer s H) rfl (vs _ List.mem_cons_self).1 hsets 1 (fun j q e => by show (("self" : Str) :: qs)[1 + j]? = some q; rw [Nat.add_comm]; exact e) (fun q hq => vs q (List.mem_cons_of_mem _ hq))
      refine wpAt_of_wpAny (wpAny_mono (ps.run [] _ _ _ { nx := fun _ H' => Q .non H', rt := fun _ _ => False } I5 ?_) (fun fl' s' hs => ?_) (fun _ _ z => z.elim))
      · have hfl := F.pos
        have hfls := F.fls
        have hle := F.le
        cases fl with
        | nil => simp at hfl
        | cons f0 fl0 =>
          refine sets_new F.oex rfl 1 hl (fun j v e => ?_) hfls hle ea q
          unfold L2.start
          have hlen : 1 + j < ((V.ref a :: ws).map some).length := by
            have := (List.getElem?_eq_some_iff.mp e).1
            simp
            omega
          rw [List.getElem?_append_left hlen, Nat.add_comm]
          simp [e]
      · cases fl' with
        | ret u => obtain ⟨v, σ', H', J, rv, z⟩ := hs; exact z.elim
        | next =>
          obtain ⟨σ', H', J, z⟩ := hs
          exact ⟨.non, H', J.os, J.bare, J.base, J.hok, rfl, z⟩
        | brk => obtain ⟨_, _, _, z⟩ := hs; exact z.elim
        | cont => obtain ⟨_, _, _, z⟩ := hs; exact z.elim
  · exact I.quiet
end
end PM
set_option Elab.async false
set_option linter.all false
set_option maxRecDepth 100000
set_option maxHeartbeats 4000000
/-! PM18: plain parameters bind; what is read off the written part. -/
namespace PM
open PySem PySem.Spec PyProof.Rows L2
/-- plain parameters, these names -/
structure Plain (p : Arguments) (ps : List Str) : Prop where
  po : p.posonlyargs = []
  ar : p.args.map (·.arg) = ps
  va : p.vararg = none
  ko : p.kwonlyargs = []
  kw : p.kwarg = none
theorem zip_look {ps : List Str} {us : List Value} : ∀ {n : Str}, us.length = ps.length → n ∈ ps → ((ps.zip us).lookup n).isSome = true := by
  induction ps generalizing us with
  | nil => intro n _ h; cases h
  | cons p ps ih =>
    intro n hl hm
    cases us with
    | nil => simp at hl
    | cons u us =>
      rw [List.zip_cons_cons, List.lookup_cons]
      by_cases e : n = p
      · subst e; simp
      · have hb : (n == p) = false := by simpa using e
        rw [hb]
        exact ih (by simpa using hl) (by simpa [e] using hm)
theorem zip_all : ∀ {ps : List Str} {us : List Value}, ps.Nodup → us.length = ps.length → ps.filterMap (fun n => ((ps.zip us).lookup n).map (n, ·)) = ps.zip us
  | [], us, _, _ => by simp
  | p :: ps, [], _, h => by simp at h
  | p :: ps, u :: us, nd, h => by
    have nd' := List.nodup_cons.mp nd
    rw [List.zip_cons_cons, List.filterMap_cons]
    simp only [List.lookup_cons, beq_self_eq_true, Option.map_some]
    congr 1
    have ih := zip_all (us := us) nd'.2 (by simpa using h)
    have : ∀ n ∈ ps, ((match n == p with | true => some u | false => (ps.zip us).lookup n).map (n, ·) : Option (Str × Value)) = ((ps.zip us).lookup n).map (n, ·) := fun n hn => by
      have e : (n == p) = false := by
        have : n ≠ p := fun z => nd'.1 (z ▸ hn)
        simpa using this
      rw [e]
    have key : ∀ {l : List Str} {f g : Str → Option (Str × Value)}, (∀ n ∈ l, f n = g n) → l.filterMap f = l.filterMap g := by
      intro l f g h
      induction l with
      | nil => rfl
      | cons a l ih => rw [List.filterMap_cons, List.filterMap_cons, h a List.mem_cons_self, ih fun n hn => h n (List.mem_cons_of_mem _ hn)]
    exact (key this).trans ih
theorem bind_plain {fd : FuncData} {ps : List Str} (P : Plain fd.params ps) (nd : ps.Nodup) (hd : fd.defaults = .none) (us : List Value) (hl : us.length = ps.length) : bindArgs fd ⟨us, []⟩ = pure (ps.zip us) := by
  have e0 : (seqItems? fd.defaults : Sem (Option (Array Value))) = pure none := by rw [hd]; rfl
  have e1 : (ps.filter fun n => ((ps.zip us).lookup n).isNone) = [] := by
    rw [List.filter_eq_nil_iff]
    intro n hn
    have := zip_look hl hn
    cases q : (ps.zip us).lookup n with
    | none => rw [q] at this; cases this
    | some v => simp
  unfold bindArgs
  simp only [P.po, P.ar, P.va, P.ko, P.kw, List.map_nil, List.nil_append, e0, pure_bind, List.append_nil, Option.getD_none]
  have hg : ¬ (us.length > ps.length) := by omega
  have hd0 : (#[] : Array Value).toList.drop ((#[] : Array Value).toList.length - ps.length) = [] := by simp
  rw [List.forIn_nil]
  simp only [pure_bind]
  have hg2 : (decide (us.length > ps.length) && true) = false := by simp [hl]
  simp only [hl, hd0, List.drop_nil, gt_iff_lt, Nat.lt_irrefl, decide_false, Bool.false_and, Bool.false_eq_true, if_false, List.length_nil, Nat.sub_zero, List.take_length, e1, List.isEmpty_nil, Bool.not_true, List.drop_length, List.zip_nil_left, List.zip_nil_right, List.forIn_nil, pure_bind, zip_all nd hl]
/-- a def of the text: its number, where it stands, its slots, its parameters, its body compiled -/
structure Dd where
  id : Nat
  at_ : Str × Option Str
  nm : Str
  qual : Str
  st : Stmt
  N : List Str
  ps : List Str
  b : Ss
def Dd.dd (d : Dd) : He.DefD := ⟨d.at_, d.nm, d.qual, defArgs d.st, defBody d.st, defScope d.st, [], []⟩
/-- an exception with fields -/
structure Xd where
  id : Nat
  nm : Str
  qs : List Str
  fl : List Nat
structure Pd where
  G : Gt
  defs : List Dd
  cls : List (Nat × Str)
  xcs : List (Nat × Str)
  rzs : List Xd
  fld : List Str
  inits : List (Nat × Nat)
  meths : List ((Nat × Nat) × Nat)
  foks : List (Nat × Nat)
  subs : List (Nat × Nat)
  turns : Nat
def fldOf (l : List Str) (i : Nat) : Str := match l[i]? with
  | some x => x
  | none => ⟨#[i]⟩
def fldOk (l : List Str) : Bool := decide l.Nodup && l.all fun x => decide (x.cps.size ≠ 1)
theorem fldOf_inj {l : List Str} (h : fldOk l = true) : ∀ i j, fldOf l i = fldOf l j → i = j := by
  intro i j e
  unfold fldOk at h
  simp only [Bool.and_eq_true, decide_eq_true_eq, List.all_eq_true] at h
  unfold fldOf at e
  cases hi : l[i]? with
  | some x =>
    cases hj : l[j]? with
    | some y =>
      rw [hi, hj] at e
      dsimp only at e
      subst e
      obtain ⟨h1, e1⟩ := List.getElem?_eq_some_iff.mp hi
      obtain ⟨h2, e2⟩ := List.getElem?_eq_some_iff.mp hj
      exact (List.getElem_inj h.1).mp (e1.trans e2.symm)
    | none =>
      rw [hi, hj] at e
      dsimp only at e
      subst e
      exact absurd rfl (h.2 _ (List.mem_of_getElem? hi))
  | none =>
    cases hj : l[j]? with
    | some y =>
      rw [hi, hj] at e
      dsimp only at e
      subst e
      exact absurd rfl (h.2 _ (List.mem_of_getElem? hj))
    | none =>
      rw [hi, hj] at e
      dsimp only at e
      injection e with e
      have := congrArg (fun a : Array Nat => a[0]?) e
      simpa using this
end PM
set_option Elab.async false
set_option linter.all false
set_option maxRecDepth 100000
set_option maxHeartbeats 4000000
/-! PM19: what is read off the written part, by one Bool. -/
namespace PM
open PySem PySem.Spec PyProof.Rows L2
def Pd.nameOf (P : Pd) (c : Nat) : Str := match (P.cls ++ P.xcs).lookup c with
  | some x => x
  | none => ""
def Pd.tb (P : Pd) (h : fldOk P.fld = true) (K : PySem.W.Frag) : Tb := ⟨fldOf P.fld, fldOf_inj h, fun c => He.ga K (P.nameOf c), P.cls.map (·.1), P.xcs.map (·.1)⟩
def Pd.pg (P : Pd) : Pg where
  df := fun i => (P.defs.find? fun d => d.id == i).map fun d => ⟨d.ps.length, d.N.length, d.b⟩
  meth := fun c m => P.meths.lookup (c, m)
  init := fun c => P.inits.lookup c
  sub := fun j c => P.subs.contains (j, c)
  exf := fun c ds => match P.rzs.find? fun x => x.id == c with
    | some x => if ds.length = x.fl.length then some (x.fl.zip ds).reverse else none
    | none => none
  fok := fun c f => P.foks.contains (c, f)
  turns := P.turns
def scopeB (N ps : List Str) (sc : Scope) : Bool := (match sc.kind with | .function => true | _ => false) && !sc.isCoroutine && !sc.isGenerator && decide N.Nodup && decide (N.take ps.length = ps) &&
  (ps.all fun x => decide (sc.names.lookup x = some .local) || decide (sc.names.lookup x = some .cell)) && sc.names.all fun y => decide (y.2 ≠ .free)
theorem scopeB_ok {N ps : List Str} {sc : Scope} (h : scopeB N ps sc = true) : FnScope N ps sc := by
  unfold scopeB at h
  simp only [Bool.and_eq_true, List.all_eq_true, Bool.or_eq_true, decide_eq_true_eq, Bool.not_eq_true'] at h
  obtain ⟨⟨⟨⟨⟨⟨h1, h2⟩, h3⟩, h4⟩, h5⟩, h6⟩, h7⟩ := h
  refine ⟨?_, h2, h3, h4, h5, h6, h7⟩
  split at h1
  · assumption
  · cases h1
def plainB (p : Arguments) (ps : List Str) : Bool := p.posonlyargs.isEmpty && decide (p.args.map (·.arg) = ps) && p.vararg.isNone && p.kwonlyargs.isEmpty && p.kwarg.isNone && decide ps.Nodup
theorem plainB_ok {p : Arguments} {ps : List Str} (h : plainB p ps = true) : Plain p ps ∧ ps.Nodup := by
  unfold plainB at h
  simp only [Bool.and_eq_true, decide_eq_true_eq, List.isEmpty_iff, Option.isNone_iff_eq_none] at h
  obtain ⟨⟨⟨⟨⟨h1, h2⟩, h3⟩, h4⟩, h5⟩, h6⟩ := h
  exact ⟨⟨h1, h2, h3, h4, h5⟩, h6⟩
/-- self.f = q .. in the text -/
def setsB : List Stmt → List Str → List Str → Bool
  | [], [], [] => true
  | .Assign [.Attribute (.Name s _) f _] (.Name q _) _ :: r, g :: fl, p :: qs => decide (s = "self") && decide (f = g) && decide (q = p) && setsB r fl qs
  | _, _, _ => false
theorem setsB_ok : ∀ {sts : List Stmt} {fl qs : List Str}, setsB sts fl qs = true → Sets sts fl qs := by
  intro sts
  induction sts with
  | nil =>
    intro fl qs h
    cases fl with
    | nil =>
      cases qs with
      | nil => exact .nil
      | cons a b => simp [setsB] at h
    | cons a b => simp [setsB] at h
  | cons st r ih =>
    intro fl qs h
    cases fl with
    | nil => cases qs <;> cases st <;> simp [setsB] at h
    | cons g fl =>
      cases qs with
      | nil => cases st <;> simp [setsB] at h
      | cons p qs =>
        unfold setsB at h
        split at h
        · rename_i e1 e2 e3; cases e2
        · rename_i s p1 f p2 q p3 p4 r' g' fl' p' qs' e1 e2 e3
          cases e1; cases e2; cases e3
          simp only [Bool.and_eq_true, decide_eq_true_eq] at h
          obtain ⟨⟨⟨h1, h2⟩, h3⟩, h4⟩ := h
          subst h1 h2 h3
          exact .cons (ih h4)
        · cases h
def exScB (sc : Scope) (qs : List Str) : Bool := (match sc.kind with | .function => true | _ => false) && !sc.isCoroutine && !sc.isGenerator && decide (sc.names.lookup ("super" : Str) = some .globalImplicit) && decide (sc.names.lookup ("__class__" : Str) = some .free) &&
  ((("self" : Str) :: qs).all fun q => decide (sc.names.lookup q = some .local) && okName q) && (sc.names.all fun y => decide (y.2 ≠ .cell)) && sc.names.all fun y => decide (y.2 ≠ .free) || decide (y.1 = "__class__")
def fileB (prog : Program) : Option Value → Bool
  | some (.str file _) => (prog.main.file : Str) == file
  | _ => false
/-- an exception's __init__ as it stands -/
def initB (prog : Program) (K : PySem.W.Frag) (C : Addr) (qs fl : List Str) : Bool := match K.lookup (He.ma K C "__init__") with
  | some ⟨_, _, .func fd, _⟩ => (match fd.body, fd.closure, fd.code, fd.defaults with
    | .stmts (.Expr (.Call (.Attribute (.Call (.Name su _) [] [] _) ini p2) [.Constant (.str _) _ _] [] p4) _ :: sts), [(cn, cc)], .ref cda, .none =>
      decide (su = "super") && decide (ini = "__init__") && (p2.endLine == p4.line) && setsB sts fl qs && decide (cn = "__class__") && decide (fd.globals = mainGlobals) && decide (fd.builtins = builtinsNs) &&
      PySem.W.codeIn K (.ref cda) fd.qualname && plainB fd.params (("self" : Str) :: qs) && exScB fd.scope qs &&
      (match K.lookup cda with
        | some ⟨_, _, .fields vs, _⟩ => fileB prog vs[2]?
        | _ => false) &&
      (match K.lookup cc with
        | some ⟨_, _, .cell (some (.ref D)), _⟩ => decide (D = C)
        | _ => false)
    | _, _, _, _ => false)
  | _ => false
def oexB (K : PySem.W.Frag) (C : Addr) : Bool := (match K.lookup C with
    | some ⟨c, _, .cls cd, sl⟩ => decide (c = .type "type") && (match cd.mro, sl.toList with
      | .ref C' :: bm, [_, _, _, _, some (.builtin n), _] => decide (C' = C) && decide (n = "ValueError.__new__") && !cd.hasDel && cd.hasDict && PySem.HandSPX.refsVE bm
      | _, _ => false)
    | _ => false) && decide (PySem.W.findIn K (.ref C) "__setattr__" = some (some (.builtin "object.__setattr__"))) && decide (PySem.W.subIn K (.ref C) (.type "BaseException") = some true) && decide (PySem.W.typeIn K (.ref C) = some (.type "type")) && PySem.W.keepIn K (.ref C)
theorem oexB_ok {K : PySem.W.Frag} {C : Addr} (h : oexB K C = true) : OexC K C := by
  unfold oexB at h
  simp only [Bool.and_eq_true, decide_eq_true_eq] at h
  obtain ⟨⟨⟨⟨h1, h2⟩, h3⟩, h4⟩, h5⟩ := h
  refine ⟨?_, h2, h3, h4, h5⟩
  split at h1
  · rename_i c dd cd sl ho
    simp only [Bool.and_eq_true, decide_eq_true_eq] at h1
    obtain ⟨rfl, h1⟩ := h1
    split at h1
    · rename_i C' bm k0 k1 k2 k3 n k5 hm hs
      simp only [Bool.and_eq_true, decide_eq_true_eq, Bool.not_eq_true'] at h1
      obtain ⟨⟨⟨⟨rfl, rfl⟩, hdel⟩, hdict⟩, hv⟩ := h1
      obtain ⟨nm, bs, mro, ns, qn, hd, sn, sub, ab, col, del⟩ := cd
      dsimp only at hm hdel hdict
      subst hm hdel hdict
      have hsl : sl = #[k0, k1, k2, k3, some (.builtin "ValueError.__new__"), k5] := Array.toList_inj.mp hs
      subst hsl
      exact ⟨_, _, _, _, _, _, _, _, _, _, _, _, _, _, _, ho, hv⟩
    · cases h1
  · cases h1
theorem initB_ok {prog : Program} {K : PySem.W.Frag} {mg : Str → Option Value} {C : Addr} {qs fl : List Str} (h : initB prog K C qs fl = true) (ho : oexB K C = true) (hs : PySem.W.ks_superIn K C C "__init__" = some (some (.builtin "ValueError.__init__"))) (hsub : PySem.W.subIn K (.ref C) (.type "ValueError") = some true)
    (hmro : PySem.W.mroIn K C (.ref C) = some true) (hst : PySem.W.nsIn K cStatics "thirdparty.any" = some none) (hfr : mg ("super" : Str) = none) (htop : (prog.main.scope.names.lookup ("super" : Str)).isSome = false) (hfl : ∀ f ∈ fl, PySem.W.findIn K (.ref C) f = some none) (hle : fl.length ≤ 900) (hp : 0 < fl.length) :
    ∃ fd, InitF prog K mg C (He.ma K C "__init__") fd qs fl := by
  unfold initB at h
  split at h
  · rename_i oc od fd osl lk
    split at h
    · rename_i su p0 p1 ini p2 msg j p3 p4 p5 sts cn cc cda eb ec ek ed
      simp only [Bool.and_eq_true, decide_eq_true_eq] at h
      obtain ⟨⟨⟨⟨⟨⟨⟨⟨⟨⟨⟨h1, h2⟩, h3⟩, h4⟩, h5⟩, h6⟩, h7⟩, h8⟩, h9⟩, h10⟩, h11⟩, h12⟩ := h
      subst h1 h2 h5
      obtain ⟨name, qualname, params, body, scope, globals, closure, defaults, kwdefaults, doc, pyModule, annotations, code, closureTuple, builtins⟩ := fd
      dsimp only at *
      subst eb ec ek ed h6 h7
      obtain ⟨hpl, hnd⟩ := plainB_ok h9
      have bi : ∀ bd : List Stmt, Binds K (PySem.W.ksFn name qualname params bd scope .none kwdefaults doc pyModule annotations (.ref cda) closureTuple cc) (("self" : Str) :: qs) [] := fun bd => Binds.all fun us hl => bind_plain (fd := PySem.W.ksFn name qualname params bd scope .none kwdefaults doc pyModule annotations (.ref cda) closureTuple cc) hpl hnd rfl us hl
      obtain ⟨ar, har, hself⟩ : ∃ ar, (params.posonlyargs ++ params.args).head? = some ar ∧ ar.arg = "self" := by
        have e := hpl.ar
        rw [hpl.po, List.nil_append]
        cases ea : params.args with
        | nil => rw [ea] at e; cases e
        | cons ar r =>
          rw [ea] at e
          injection e with e1 e2
          exact ⟨ar, rfl, e1⟩
      split at h11
      · rename_i ccl cdd vs ccs lkc
        unfold fileB at h11
        split at h11
        · rename_i file tf hv
          split at h12
          · rename_i cl cld D csl lkcc
            have hD : D = C := by simpa using h12
            subst hD
            unfold exScB at h10
            simp only [Bool.and_eq_true, List.all_eq_true, Bool.or_eq_true, decide_eq_true_eq, Bool.not_eq_true'] at h10
            obtain ⟨⟨⟨⟨⟨⟨⟨s1, s2⟩, s3⟩, s4⟩, s5⟩, s6⟩, s7⟩, s8⟩ := h10
            have s1 : scope.kind = .function := by
              split at s1
              · assumption
              · cases s1
            refine ⟨_, oexB_ok ho, ⟨name, qualname, params, scope, .none, kwdefaults, doc, pyModule, closureTuple, oc, annotations, od, osl, cda, cc, vs, file, tf, ccl, cl, cdd, cld, ccs, csl, ar, msg, j, p0, p1, p2, p3, p4, p5, sts, rfl, lk, h8, lkc, hv, h11, lkcc, har, hself, setsB_ok h4, s1, s2, s3, s4, s5, s6, s7, fun y hy e => ?_, h3⟩, hnd, hs, hsub, hmro, hst, hfr, htop, hfl, hle, hp, bi _⟩
            rcases s8 y hy with z | z
            · exact absurd e z
            · exact z
          · cases h12
        · cases h11
      · cases h11
    · cases h
  · cases h
end PM
set_option Elab.async false
set_option linter.all false
set_option maxRecDepth 100000
set_option maxHeartbeats 4000000
/-! PM20: a program's facts by two Bools. -/
namespace PM
open PySem PySem.Spec PyProof.Rows L2
def Pd.has (P : Pd) (i : Nat) (a : Str × Option Str) : Bool := match P.defs.find? fun d => d.id == i with
  | some d => decide (d.at_ = a)
  | none => false
def Pd.ad (P : Pd) (K : PySem.W.Frag) (c : Nat) : Addr := He.ga K (P.nameOf c)
def Pd.owns (P : Pd) : List Nat := (P.G.cl ++ P.G.xc).map (·.2)
def Pd.stat (P : Pd) (prog : Program) : Bool := decide (P.G.mt.lookup ("__eq__" : Str) = some mEq) && (P.G.fn.all fun p => P.has p.2 (p.1, none)) &&
  (P.G.cl.all fun p => decide (P.nameOf p.2 = p.1) && decide (p.2 ∈ P.cls.map (·.1))) && (P.G.xc.all fun p => decide (P.nameOf p.2 = p.1)) && (P.G.fl.all fun p => decide (fldOf P.fld p.2 = p.1)) &&
  (P.inits.all fun p => P.has p.2 (P.nameOf p.1, some "__init__")) && (P.meths.all fun p => P.G.mt.all fun q => decide (q.2 ≠ p.1.2) || P.has p.2 (P.nameOf p.1.1, some q.1)) &&
  (P.G.mt.all fun q => !P.fld.contains q.1 && decide (q.1.cps.size ≠ 1)) && (P.rzs.all fun x => decide (0 < x.fl.length) && decide (x.fl.length ≤ 900) && decide (x.id ∈ P.xcs.map (·.1))) &&
  (P.G.rz.all fun c => P.rzs.any fun x => x.id == c) && !(prog.main.scope.names.lookup ("super" : Str)).isSome && (P.defs.all fun d => scopeB d.N d.ps (defScope d.st) && plainB (defArgs d.st) d.ps)
def tyB : List String := ["NoneType", "bool", "int", "str", "tuple", "list", "dict"]
def tyC : List String := ["bool", "int", "str", "tuple", "list", "dict"]
def cfB (K : PySem.W.Frag) (x : Str) : Bool := (He.Fa.cls x).ok K && decide (PySem.W.findIn K (.ref (He.ga K x)) "__class__" = some (some (.builtin "object.__class__"))) && decide (PySem.W.specialIn K (.builtin "object.__class__") "__get__" = some (some (.builtin "getset_descriptor.__get__"))) &&
  decide (PySem.W.takesIn K (.builtin "object.__class__") = some true) && decide (PySem.W.mroIn K (He.ga K x) (.type "object") = some true) && PySem.W.keepIn K (.ref (He.ga K x))
def xcB (K : PySem.W.Frag) (C : Addr) : Bool := xfB K C && (PySem.W.clsIn K C).isSome && decide (PySem.W.findIn K (.ref C) "__class__" = some (some (.builtin "object.__class__"))) && decide (PySem.W.specialIn K (.builtin "object.__class__") "__get__" = some (some (.builtin "getset_descriptor.__get__"))) &&
  decide (PySem.W.takesIn K (.builtin "object.__class__") = some true) && decide (PySem.W.mroIn K C (.type "object") = some true) && decide (PySem.W.kitOne K (.ref C) (.type "ValueError") = some true)
def coB (K : PySem.W.Frag) (x : Str) : D → Bool
  | .int i => (He.Fa.int x i).ok K
  | .str z => (He.Fa.str x z).ok K
  | _ => false
def rzB (prog : Program) (P : Pd) (K : PySem.W.Frag) (x : Xd) : Bool := initB prog K (P.ad K x.id) x.qs (x.fl.map (fldOf P.fld)) && oexB K (P.ad K x.id) && decide (PySem.W.ks_superIn K (P.ad K x.id) (P.ad K x.id) "__init__" = some (some (.builtin "ValueError.__init__"))) && decide (PySem.W.subIn K (.ref (P.ad K x.id)) (.type "ValueError") = some true) &&
  decide (PySem.W.mroIn K (P.ad K x.id) (.ref (P.ad K x.id)) = some true) && decide (PySem.W.nsIn K cStatics "thirdparty.any" = some none) && (x.fl.all fun f => decide (PySem.W.findIn K (.ref (P.ad K x.id)) (fldOf P.fld f) = some none)) &&
  decide (PySem.W.findIn K (.ref (P.ad K x.id)) "__init__" = some (some (.ref (He.ma K (P.ad K x.id) "__init__")))) && decide (PySem.W.typeIn K (.ref (He.ma K (P.ad K x.id) "__init__")) = some (.type "function"))
def Pd.dyn (P : Pd) (prog : Program) (K : PySem.W.Frag) : Bool := ((P.G.fn ++ P.G.cl ++ P.G.xc).all fun p => (He.Fa.glo p.1).ok K) && ((("super" : Str) :: P.G.free).all fun x => (He.Fa.free x).ok K) &&
  (P.cls.all fun p => cfB K (P.nameOf p.1)) && (P.xcs.all fun p => xcB K (P.ad K p.1)) && (P.owns.all fun c => P.xcs.all fun p => decide (PySem.W.kitOne K (.ref (P.ad K p.1)) (.ref (P.ad K c)) = some (P.pg.sub p.1 c))) &&
  (P.inits.all fun p => (He.Fa.mkr (P.nameOf p.1)).ok K) && (P.meths.all fun p => P.G.mt.all fun q => decide (q.2 ≠ p.1.2) || (He.Fa.meth (P.nameOf p.1.1) q.1).ok K) && (P.G.co.all fun p => coB K p.1 p.2) &&
  (P.foks.all fun p => decide (PySem.W.findIn K (.ref (P.ad K p.1)) (fldOf P.fld p.2) = some none)) && (P.owns.all fun c => tyB.all fun t => decide (PySem.W.kitOne K (.type t) (.ref (P.ad K c)) = some false)) &&
  (P.owns.all fun c => P.cls.all fun p => decide (PySem.W.kitOne K (.ref (P.ad K p.1)) (.ref (P.ad K c)) = some (decide (p.1 = c)))) && (P.cls.all fun p => tyC.all fun t => decide (PySem.W.kitOne K (.ref (P.ad K p.1)) (.type t) = some false)) &&
  (P.G.xc.all fun q => P.xcs.all fun p => decide (PySem.W.exmOne K (.ref (P.ad K p.1)) (.ref (P.ad K q.2)) = some (P.pg.sub p.1 q.2))) && P.rzs.all fun x => rzB prog P K x
/-- each def compiles to what is said -/
def Pd.comp (P : Pd) : List Dd → Prop
  | [] => True
  | d :: r => (∃ q, cSl (cS P.G d.N q (defScope d.st) (fun _ => true) none) (defBody d.st) = some d.b) ∧ P.comp r
theorem Pd.comp_mem {P : Pd} : ∀ {l : List Dd} {d : Dd}, P.comp l → d ∈ l → ∃ q, cSl (cS P.G d.N q (defScope d.st) (fun _ => true) none) (defBody d.st) = some d.b
  | [], _, _, h => by cases h
  | e :: r, d, c, h => by
    rcases List.mem_cons.mp h with z | z
    · subst z; exact c.1
    · exact Pd.comp_mem c.2 z
theorem look_mem {α β : Type} [BEq α] [LawfulBEq α] {a : α} {b : β} {l : List (α × β)} (h : l.lookup a = some b) : (a, b) ∈ l := by
  induction l with
  | nil => cases h
  | cons p l ih =>
    obtain ⟨x, y⟩ := p
    rw [List.lookup_cons] at h
    split at h
    · rename_i e
      cases h
      have := eq_of_beq e
      subst this
      exact List.mem_cons_self
    · exact List.mem_cons_of_mem _ (ih h)
theorem Pd.ps {P : Pd} {prog : Program} {w : World} {K : PySem.W.Frag} {mg : Str → Option Value} {h base : Heap} (hf : fldOk P.fld = true) (st : P.stat prog = true) (cm : P.comp P.defs) (dy : P.dyn prog K = true) (X : K.In h) (Gm : h.Ns mainGlobals mg)
    (fns : ∀ d ∈ P.defs, ∃ fd, FunD K d.nm d.qual (defArgs d.st) (defBody d.st) (defScope d.st) [] [] (He.fAd K d.at_) fd) : Ps prog w K mg base (P.tb hf K) P.G P.pg := by
  unfold Pd.stat at st
  simp only [Bool.and_eq_true] at st
  obtain ⟨⟨⟨⟨⟨⟨⟨⟨⟨⟨⟨s1, s2⟩, s3⟩, s4⟩, s5⟩, s6⟩, s7⟩, s8⟩, s9⟩, s10⟩, s11⟩, s12⟩ := st
  unfold Pd.dyn at dy
  simp only [Bool.and_eq_true] at dy
  obtain ⟨⟨⟨⟨⟨⟨⟨⟨⟨⟨⟨⟨⟨d1, d2⟩, d3⟩, d4⟩, d5⟩, d6⟩, d7⟩, d8⟩, d9⟩, d10⟩, d11⟩, d12⟩, d13⟩, d14⟩ := dy
  simp only [List.all_eq_true, Bool.and_eq_true, Bool.or_eq_true, decide_eq_true_eq] at s2 s3 s4 s5 s6 s7 s8 s9 s10 s12 d1 d2 d3 d4 d5 d6 d7 d8 d9 d10 d11 d12 d13 d14
  have defF : ∀ i a, P.has i a = true → DefF K P.G P.pg i (He.fAd K a) := fun i a e => by
    unfold Pd.has at e
    cases q : P.defs.find? fun d => d.id == i with
    | none => rw [q] at e; cases e
    | some d =>
      rw [q] at e
      have ea : d.at_ = a := by simpa using e
      have hm := List.mem_of_find?_eq_some q
      obtain ⟨fd, F⟩ := fns d hm
      obtain ⟨qq, c⟩ := Pd.comp_mem cm hm
      obtain ⟨sb, pb⟩ := s12 d hm
      obtain ⟨pl, nd⟩ := plainB_ok pb
      rw [ea] at F
      refine ⟨d.nm, d.qual, _, _, _, fd, d.N, d.ps, d.b, qq, F, scopeB_ok sb, F.bindsN fun kV doc pm an cdv ct us hl => bind_plain (fd := PySem.W.fnOf d.nm d.qual (defArgs d.st) (defBody d.st) (defScope d.st) .none kV doc pm an cdv ct) pl nd rfl us hl, c, ?_⟩
      show (P.defs.find? fun d => d.id == i).map _ = _
      rw [q]
      rfl
  have own : ∀ x c, tyOf P.G x = some (.own c) → c ∈ P.owns := fun x c e => by
    unfold tyOf at e
    split at e
    · split at e
      · cases e
      · split at e
        · cases e
        · split at e
          · cases e
          · split at e
            · cases e
            · split at e
              · cases e
              · split at e
                · cases e
                · split at e <;> cases e
    · split at e
      · rename_i q
        cases e
        exact List.mem_map.mpr ⟨(x, c), List.mem_append_left _ (look_mem q), rfl⟩
      · split at e
        · rename_i q
          cases e
          exact List.mem_map.mpr ⟨(x, c), List.mem_append_right _ (look_mem q), rfl⟩
        · cases e
  have inX : ∀ j, j ∈ (P.tb hf K).xcs → ∃ p ∈ P.xcs, p.1 = j := fun j hj => by
    obtain ⟨p, hp, e⟩ := List.mem_map.mp hj
    exact ⟨p, hp, e⟩
  have inC : ∀ j, j ∈ (P.tb hf K).cls → ∃ p ∈ P.cls, p.1 = j := fun j hj => by
    obtain ⟨p, hp, e⟩ := List.mem_map.mp hj
    exact ⟨p, hp, e⟩
  refine {
    eqm := by simpa using s1
    fn := fun x i e => ?_
    cl := fun x c e => ?_
    cf := fun c hc => ?_
    xf := fun c hc => ?_
    xi := fun x c j e hj => ?_
    xv := fun j hj => ?_
    mkr := fun c i e => ?_
    co := fun x d e => ?_
    fr := fun x e => ?_
    fl := fun x f e => ?_
    fok := fun c f e => ?_
    mt := fun c i j x e1 e2 => ?_
    isB := fun x c t e ht => ?_
    isO := fun x c j e hj => ?_
    isT := fun t j ht hj => ?_
    xc := fun x c e => ?_
    xm := fun x c j e hj => ?_
    rz := fun c e => ?_ }
  · have hm := look_mem e
    have df := defF i (x, none) (s2 _ hm)
    refine ⟨He.fAd K (x, none), He.glo_ok X Gm (d1 (x, i) (by simp [hm])), ?_, df⟩
    obtain ⟨_, _, _, _, _, _, _, _, _, _, F, _⟩ := df.ex
    exact F.kp
  · have hm := look_mem e
    obtain ⟨e1, e2⟩ := s3 _ hm
    refine ⟨?_, e2⟩
    have := He.glo_ok X Gm (d1 (x, c) (by simp [hm]))
    show mg x = some (.ref (He.ga K (P.nameOf c)))
    rw [e1]
    exact this
  · obtain ⟨p, hp, rfl⟩ := inC c hc
    have := d3 p hp
    unfold cfB at this
    simp only [Bool.and_eq_true, decide_eq_true_eq] at this
    obtain ⟨⟨⟨⟨⟨c1, c2⟩, c3⟩, c4⟩, c5⟩, c6⟩ := this
    exact ⟨He.cls_ok c1, c2, c3, c4, c5, c6⟩
  · obtain ⟨p, hp, rfl⟩ := inX c hc
    have := d4 p hp
    unfold xcB at this
    simp only [Bool.and_eq_true, decide_eq_true_eq] at this
    obtain ⟨⟨⟨⟨⟨⟨c1, c2⟩, c3⟩, c4⟩, c5⟩, c6⟩, c7⟩ := this
    exact ⟨xfB_ok c1, c2, c3, c4, c5, c6⟩
  · obtain ⟨p, hp, rfl⟩ := inX j hj
    exact d5 c (own x c e) p hp
  · obtain ⟨p, hp, rfl⟩ := inX j hj
    have := d4 p hp
    unfold xcB at this
    simp only [Bool.and_eq_true, decide_eq_true_eq] at this
    exact this.2
  · have hm := look_mem e
    exact ⟨_, He.mkr_ok (d6 _ hm), defF i (P.nameOf c, some "__init__") (s6 _ hm)⟩
  · have hm := look_mem e
    have := d8 _ hm
    cases d with
    | int i =>
      obtain ⟨t, e1⟩ := He.int_ok X Gm this
      exact ⟨_, .int i, e1, ⟨t, rfl⟩, fun _ _ => .int i⟩
    | str z =>
      obtain ⟨t, e1⟩ := He.str_ok X Gm this
      exact ⟨_, .str z, e1, ⟨t, rfl⟩, fun _ _ => .str z⟩
    | _ => cases this
  · have hm : x ∈ P.G.free := by simpa using e
    exact He.free_ok X Gm (d2 x (List.mem_cons_of_mem _ hm))
  · exact s5 _ (look_mem e)
  · have hm : (c, f) ∈ P.foks := by simpa [Pd.pg] using e
    exact d9 _ hm
  · have hm := look_mem e1
    have hx := look_mem e2
    obtain ⟨n1, n2⟩ := s8 _ hx
    refine ⟨fun f z => ?_, He.ma K (He.ga K (P.nameOf c)) x, ?_, ?_⟩
    · have z : fldOf P.fld f = x := z
      unfold fldOf at z
      split at z
      · rename_i y hy
        subst z
        have := List.mem_of_getElem? hy
        simp [this] at n1
      · subst z
        exact absurd rfl n2
    · rcases d7 _ hm _ hx with z | z
      · exact absurd rfl z
      · exact He.meth_ok z
    · rcases s7 _ hm _ hx with z | z
      · exact absurd rfl z
      · exact defF j (P.nameOf c, some x) z
  · exact d10 c (own x c e) t ht
  · obtain ⟨p, hp, rfl⟩ := inC j hj
    exact d11 c (own x c e) p hp
  · obtain ⟨p, hp, rfl⟩ := inC j hj
    exact d12 p hp t ht
  · have hm := look_mem e
    have := He.glo_ok X Gm (d1 (x, c) (by simp [hm]))
    show mg x = some (.ref (He.ga K (P.nameOf c)))
    rw [s4 _ hm]
    exact this
  · obtain ⟨p, hp, rfl⟩ := inX j hj
    exact d13 (x, c) (look_mem e) p hp
  · have hm : c ∈ P.G.rz := by simpa using e
    have hz := s10 c hm
    simp only [List.any_eq_true, beq_iff_eq] at hz
    obtain ⟨x0, hx0, ex0⟩ := hz
    cases q : P.rzs.find? fun x => x.id == c with
    | none =>
      have := List.find?_eq_none.mp q x0 hx0
      simp [ex0] at this
    | some x =>
      have hx := List.mem_of_find?_eq_some q
      have ex : x.id = c := by
        have := List.find?_some q
        simpa using this
      obtain ⟨⟨a1, a2⟩, a3⟩ := s9 x hx
      have := d14 x hx
      unfold rzB at this
      simp only [Bool.and_eq_true, decide_eq_true_eq, List.all_eq_true] at this
      obtain ⟨⟨⟨⟨⟨⟨⟨⟨r1, r2⟩, r3⟩, r4⟩, r5⟩, r6⟩, r7⟩, r8⟩, r9⟩ := this
      obtain ⟨fd, F⟩ := initB_ok (mg := mg) r1 r2 r3 r4 r5 r6 (He.free_ok X Gm (d2 "super" List.mem_cons_self)) (by simpa using s11) (fun f hf' => by
        obtain ⟨g, hg, e⟩ := List.mem_map.mp hf'
        rw [← e]
        exact r7 g hg) (by rw [List.length_map]; exact a2) (by rw [List.length_map]; exact a1)
      subst ex
      refine ⟨a3, oexB_ok r2, He.ma K (P.ad K x.id) "__init__", fd, _, x.fl, r8, r9, F.bi, a1, a2, fun ds fs hfs => ?_, init_ok F⟩
      have hfs : (match P.rzs.find? fun y => y.id == x.id with
        | some x => if ds.length = x.fl.length then some (x.fl.zip ds).reverse else none
        | none => none) = some fs := hfs
      rw [q] at hfs
      dsimp only at hfs
      split at hfs
      · rename_i hl
        cases hfs
        exact ⟨hl, rfl⟩
      · cases hfs
end PM
set_option Elab.async false
set_option linter.all false
set_option maxRecDepth 100000
set_option maxHeartbeats 4000000
/-! PM21: the law's end. -/
namespace PM
open PySem PySem.Spec PyProof.Rows L2
def isI : Value → Bool
  | .int _ _ => true
  | _ => false
/-- a list of ints -/
def intL (o : Obj) : Bool := decide (o.cls = .type "list") && (match o.data with
  | .seq its _ => its.toList.all isI
  | _ => false)
def noInts (K : PySem.W.Frag) : Bool := K.all fun p => !intL p.2
theorem vals_isI : ∀ {ns : List Int} {us : List Value}, Vals (ns.map V.int) us → us.all isI = true
  | [], _, r => by cases r; rfl
  | n :: ns, _, r => by
    cases r with
    | cons a b =>
      obtain ⟨t, rfl⟩ := a
      rw [List.all_cons, vals_isI b]
      rfl
theorem VRs.ints {K : PySem.W.Frag} {m : List Addr} {H : Hp} : ∀ ns : List Int, VRs K m H (ns.map D.int) (ns.map V.int)
  | [] => .nil
  | n :: ns => .cons (.int n) (VRs.ints ns)
theorem law_sp {K : PySem.W.Frag} {T : Tb} {Pr : Pg} {k i : Nat} (no : noInts K = true) {H : Hp} {a : Addr} {ns : List Int} (hO : Only H) (hS : SqL K H a (ns.map V.int)) (hl : ns.length ≤ 63)
    (run : ∃ h', calls Pr k i [.loc 0] [.frl (ns.map D.int)] = .ok (.bl true) h') : spF T K Pr k i [.ref a] H (fun v _ => v = .bl true) (fun _ _ _ => False) := by
  rcases hS with hr | ⟨o, its, n, lk, hc, _, hd, _, vr⟩
  · have hf : ∃ o, H a = some (.frz o (.lst (ns.map V.int))) := by
      rcases hr with z | z
      · rcases hO a with q | ⟨o, xs, q⟩
        · rw [q] at z; cases z
        · rw [q] at z; cases z
      · exact z
    obtain ⟨o, e⟩ := hf
    obtain ⟨h', hrun⟩ := run
    refine ⟨[a], [.frl (ns.map D.int)], [.loc 0], ⟨rfl, by simp, fun nn b ob eb eo => ?_⟩, .cons (.loc rfl) .nil, ?_⟩
    · cases nn with
      | zero =>
        simp at eb eo
        subst eb eo
        exact ⟨_, e, .frl (VRs.ints ns) (by rw [List.length_map]; show ns.length ≤ 2 ^ 24; omega)⟩
      | succ nn => simp at eb
    · rw [hrun]
      intro m' H' _ _ v vr
      cases vr
      rfl
  · exfalso
    have hm := look_mem lk
    unfold noInts at no
    have := List.all_eq_true.mp no _ hm
    unfold intL at this
    rw [hd] at this
    simp only [hc, vals_isI vr] at this
    simp at this
/-- no exception leaves: the def keeps its promise whatever is said of exceptions -/
theorem fn0 {P : Program} {w : World} {K : PySem.W.Frag} {mg : Str → Option Value} {base : Heap} {k : Nat} {f : Addr} {fd : FuncData} {ps : List Str} {sp : Sp} (F : FnOk P w K mg base (L2.CX P w) k f fd ps sp) : FnOk P w K mg base CX0 k f fd ps (fun vs H Q _ => sp vs H Q fun _ _ _ => False) := by
  refine ⟨fun vs H Q E h => F.len vs H Q _ h, fun A outer s H args us vs Q E hr e0 hb r hsp => codeAny_mono (F.run A outer s H args us vs Q _ hr e0 hb r hsp) fun r s' h => ?_⟩
  cases r with
  | error e =>
    obtain ⟨_, _, _, _, _, _, _, _, _, _, _, _, z⟩ := h
    exact z.elim
  | ok fl => cases fl <;> exact h
theorem Pd.law {P : Pd} {prog : Program} {w : World} {K : PySem.W.Frag} {mg : Str → Option Value} {h : Heap} {f : Addr} {i : Nat} {x y : Str} (k : Nat) (hf : fldOk P.fld = true) (st : P.stat prog = true) (cm : P.comp P.defs) (dy : (P.dyn prog K && noInts K) = true) (X : K.In h) (Gm : h.Ns mainGlobals mg)
    (fns : ∀ d ∈ P.defs, ∃ fd, FunD K d.nm d.qual (defArgs d.st) (defBody d.st) (defScope d.st) [] [] (He.fAd K d.at_) fd) (hx : P.G.fn.lookup x = some i) (hmg : mg x = some (.ref f)) 
    (hd1 : ∀ d ∈ P.defs, d.id = i → d.ps = [y]) (run : ∀ ns : List Int, ns.length ≤ 63 → ∃ h', calls P.pg (k + 1) i [.loc 0] [.frl (ns.map D.int)] = .ok (.bl true) h') :
    ∃ (fd : FuncData) (sp : Sp), (∀ (s : Shared) (u : Value), BindsTo s fd ⟨[u], []⟩ [(y, u)]) ∧
      (∀ (H : Hp) (a : Addr) (ns : List Int), ns.length ≤ 63 → Only H → SqL K H a (ns.map V.int) → sp [.ref a] H (fun v _ => v = .bl true) fun _ _ _ => False) ∧
      ∀ base : Heap, K.In base → base.Ns mainGlobals mg → FnOk prog w K mg base CX0 (2 * (k + 1) + 2) f fd [y] sp := by
  obtain ⟨dy, no⟩ := Bool.and_eq_true_iff.mp dy
  have st' := st
  unfold Pd.stat at st'
  simp only [Bool.and_eq_true] at st'
  obtain ⟨⟨⟨⟨⟨⟨⟨⟨⟨⟨⟨_, s2⟩, _⟩, _⟩, _⟩, _⟩, _⟩, _⟩, _⟩, _⟩, _⟩, s12⟩ := st'
  simp only [List.all_eq_true, Bool.and_eq_true] at s2 s12
  have hhas := s2 _ (look_mem hx)
  unfold Pd.has at hhas
  cases q : P.defs.find? fun d => d.id == i with
  | none => dsimp only at hhas; rw [q] at hhas; cases hhas
  | some d =>
    dsimp only at hhas
    rw [q] at hhas
    have ea : d.at_ = (x, none) := by simpa using hhas
    have hm := List.mem_of_find?_eq_some q
    have hid : d.id = i := by
      have := List.find?_some q
      simpa using this
    obtain ⟨fd, F⟩ := fns d hm
    obtain ⟨sb, pb⟩ := s12 d hm
    obtain ⟨pl, nd⟩ := plainB_ok pb
    have hy := hd1 d hm hid
    rw [ea] at F
    have hfa : f = He.fAd K (x, none) := by
      have dy' := dy
      unfold Pd.dyn at dy'
      simp only [Bool.and_eq_true] at dy'
      obtain ⟨⟨⟨⟨⟨⟨⟨⟨⟨⟨⟨⟨⟨d1, _⟩, _⟩, _⟩, _⟩, _⟩, _⟩, _⟩, _⟩, _⟩, _⟩, _⟩, _⟩, _⟩ := dy'
      simp only [List.all_eq_true] at d1
      have := He.glo_ok X Gm (d1 (x, i) (by simp [look_mem hx]))
      rw [hmg] at this
      cases this
      rfl
    subst hfa
    have hb : ∀ (s : Shared) (us : List Value), us.length = [y].length → BindsTo s fd ⟨us, []⟩ ([y].zip us) := fun s us hl => F.bindsA (ps := [y]) (fun kV doc pm an cdv ct us hl => bind_plain (fd := PySem.W.fnOf d.nm d.qual (defArgs d.st) (defBody d.st) (defScope d.st) .none kV doc pm an cdv ct) (hy ▸ pl) (hy ▸ nd) rfl us hl) s us hl
    refine ⟨fd, fun vs H Q _ => spF (P.tb hf K) K P.pg (k + 1) i vs H Q fun _ _ _ => False, fun s u => hb s [u] rfl, fun H a ns hl hO hS => law_sp no hO hS hl (run ns hl), fun base KB GB => ?_⟩
    have ps : Ps prog w K mg base (P.tb hf K) P.G P.pg := Pd.ps hf st cm dy X Gm fns
    obtain ⟨qq, c⟩ := Pd.comp_mem cm hm
    rw [← hy]
    refine fn0 (fn_ff ps.eqm (ps.pf k) F (scopeB_ok sb) c ?_)
    show (P.defs.find? fun d => d.id == i).map _ = _
    rw [q]
    rfl
/-! the Hook: the defs by their texts, one Bool -/
def frP (g : Addr → Option Obj) (n : Nat) : PySem.W.Frag := He.frT g (He.asD g n ++ [cStatics])
def obsP (n : Nat) (fn : List He.DefD) (ex : PySem.W.Frag → Bool) (g : Addr → Option Obj) : He.AlD × Bool := (He.obsD [] fn (frP g n), ex (frP g n))
def hookP (n : Nat) (fn : List He.DefD) (ex : PySem.W.Frag → Bool) : PySem.W.Hook where
  α := He.AlD × Bool
  obs := fun s => obsP n fn ex s.heap.get?
  val := fun _ => (He.valD fn, true)
  says := fun _ h => ∃ K : PySem.W.Frag, K.In h ∧ He.SaysD [] fn K ∧ ex K = true
  of := fun _ _ e => ⟨_, He.frT_in, congrArg (fun z : He.AlD × Bool => z.1) e, congrArg (fun z : He.AlD × Bool => z.2) e⟩
  keeps := fun _ _ _ ⟨K, hK, c⟩ k => ⟨K, PySem.W.Frag.In.keeps hK k, c⟩
theorem obsP_eq {n : Nat} {fn : List He.DefD} {ex : PySem.W.Frag → Bool} {g : Addr → Option Obj} {s : Shared} (h : ∀ a, g a = s.heap.get? a) : obsP n fn ex g = (hookP n fn ex).obs s := by
  have e : g = s.heap.get? := funext h
  rw [e] <;> rfl
theorem says_fns {l : List Dd} {K : PySem.W.Frag} (c : He.SaysD [] (l.map Dd.dd) K) : ∀ d ∈ l, ∃ fd, FunD K d.nm d.qual (defArgs d.st) (defBody d.st) (defScope d.st) [] [] (He.fAd K d.at_) fd := fun d hd =>
  c.defs (d := d.dd) (List.mem_map_of_mem hd)
end PM
set_option Elab.async false
set_option linter.all false
set_option maxRecDepth 100000
set_option maxHeartbeats 4000000
set_option exponentiation.threshold 2000
/-! PMr: PM's runs, step by step. -/
namespace PM
open PySem
section
variable {α β : Type} {a : α} {h : Hh} {i j : Int} {C : Ct} {hb : Bool} {n : En}
theorem bind_ok {f : α → Hh → R β} : (R.ok a h).bind f = f a h := (rfl)
theorem inS_ok {d : D} {f : D → Hh → Rs} : inS (.ok d h) n f = f d h := (rfl)
theorem inSs_ok {d : List D} {f : List D → Hh → Rs} : inSs (.ok d h) n f = f d h := (rfl)
theorem unS_ok : unS (.ok () h) n = .nx n h := (rfl)
theorem opt_some : R.opt (some a) h = .ok a h := (rfl)
theorem add_int : binop .Add (.int i) (.int j) h = .ok (.int (i + j)) h := (rfl)
theorem sub_int : binop .Sub (.int i) (.int j) h = .ok (.int (i - j)) h := (rfl)
theorem mul_int (k : okMul i j = true) : binop .Mult (.int i) (.int j) h = .ok (.int (i * j)) h := by
  show (if okMul i j then _ else _) = _
  rw [if_pos k]
theorem div_int (k : 0 < j ∧ j < 1073741824) : binop .FloorDiv (.int i) (.int j) h = .ok (.int (i / j)) h := by
  show (if 0 < j ∧ j < 1073741824 then _ else _) = _
  rw [if_pos k]
theorem mod_int (k : 0 < j) : binop .Mod (.int i) (.int j) h = .ok (.int (i % j)) h := by
  show (if 0 < j then _ else _) = _
  rw [if_pos k]
theorem good_int : D.good (.int i) = true := (rfl)
theorem eq_int : cmpC C hb .Eq (.int i) (.int j) h = .ok (.bl (decide (i = j))) h := by
  show cmpop .Eq (.int i) (.int j) h = _
  simp only [cmpop, eqop, opd, good_int, if_true, D.pd, PyData.eqv]
  congr 2
theorem lt_int : cmpC C hb .Lt (.int i) (.int j) h = .ok (.bl (decide (i < j))) h := (rfl)
theorem tru_b {b : Bool} : tru (.bl b) h = .ok b h := (rfl)
theorem int_int : blt .int [.int i] h = .ok (.int i) h := (rfl)
theorem pow_int {i j : Int} (k : 0 ≤ j ∧ j ≤ 1000 ∧ i.natAbs < 2 ^ 1000) : binop .Pow (.int i) (.int j) h = .ok (.int (i ^ j.toNat)) h := by
  show (if 0 ≤ j ∧ j ≤ 1000 ∧ i.natAbs < 2 ^ 1000 then _ else _) = _
  rw [if_pos k]
theorem sub_lst {m : Nat} {xs : List D} {k : Int} {d : D} (e : h[m]? = some (.lst xs)) (ha : atI xs k = some d) : subop (.loc m) (.int k) h = .ok d h := by
  simp only [subop, e, ha]
theorem put_lst {m : Nat} {xs : List D} {k : Int} {j : Nat} {v : D} (e : h[m]? = some (.lst xs)) (hj : ixN xs.length k = some j) : putop (.loc m) (.int k) v h = .ok () (h.set m (.lst (xs.set j v))) := by
  simp only [putop, e, hj]
theorem len_lst {m : Nat} {xs : List D} (e : h[m]? = some (.lst xs)) : blt .len [.loc m] h = .ok (.int xs.length) h := by
  simp only [blt, bLen, e]
theorem abs_int {i : Int} : blt .abs [.int i] h = .ok (.int (if i < 0 then -i else i)) h := (rfl)
theorem forGo_inv {f : D → En → Hh → Rs} {ok : Hh → Bool} (I : En → Hh → Prop) (hok : ∀ n h, I n h → ok h = true) : ∀ {its : List D}, (∀ x ∈ its, ∀ n h, I n h → ∃ n' h', f x n h = .nx n' h' ∧ I n' h') → ∀ n h, I n h → ∃ n' h', forGo f ok its n h = .nx n' h' ∧ I n' h'
  | [], _, n, h, i => ⟨n, h, by simp only [forGo, hok n h i, if_true], i⟩
  | x :: xs, hs, n, h, i => by
    obtain ⟨n1, h1, e1, i1⟩ := hs x List.mem_cons_self n h i
    obtain ⟨n2, h2, e2, i2⟩ := forGo_inv I hok (fun y hy => hs y (List.mem_cons_of_mem _ hy)) n1 h1 i1
    exact ⟨n2, h2, by simp only [forGo, hok n h i, if_true, e1, e2], i2⟩
theorem slc_frl {m : Nat} {xs : List D} {lo hi : Option Int} (e : h[m]? = some (.frl xs)) : slcop (.loc m) lo hi h = .ok (.loc h.length) (h ++ [.lst (cut xs lo hi)]) := by
  simp only [slcop, e]
theorem slc_lst {m : Nat} {xs : List D} {lo hi : Option Int} (e : h[m]? = some (.lst xs)) : slcop (.loc m) lo hi h = .ok (.loc h.length) (h ++ [.lst (cut xs lo hi)]) := by
  simp only [slcop, e]
theorem src_lst {m : Nat} {xs : List D} (e : h[m]? = some (.lst xs)) : srcOf (.loc m) h = .ok ⟨xs, [(m, xs)]⟩ h := by
  simp only [srcOf, e]
theorem src_tup {xs : List D} : srcOf (.tup xs) h = .ok ⟨xs, []⟩ h := (rfl)
theorem still_lst {m : Nat} {xs its : List D} (e : h[m]? = some (.lst xs)) : Src.still ⟨its, [(m, xs)]⟩ h = true := by
  simp only [Src.still, stands, List.all_cons, List.all_nil, e, D.sames_refl, Bool.and_true]
theorem still_none {xs : List D} : Src.still ⟨xs, []⟩ h = true := (rfl)
theorem intOf_int {i : Int} : intOf (.int i) h = .ok i h := (rfl)
theorem cut_map {α β : Type} (f : α → β) (xs : List α) (lo hi : Option Int) : cut (xs.map f) lo hi = (cut xs lo hi).map f := by
  unfold cut
  rw [List.length_map, List.map_take, List.map_drop]
theorem ex_ass {i : Nat} {e : E} : ex C (.ass i e) n h = if n.free i then inS (ev C e n h) n fun d h => .nx (setS n i d) h else .bad := by rw [ex]
theorem ex_asA {o e : E} {f : Nat} : ex C (.asA o f e) n h = inS (ev C e n h) n fun d h => inS (ev C o n h) n fun x h => unS (setop C x f d h) n := by rw [ex]
theorem ex_asS {o e i : E} : ex C (.asS o i e) n h = inS (ev C e n h) n fun d h => inS (ev C o n h) n fun x h => inS (ev C i n h) n fun k h => unS (putop x k d h) n := by rw [ex]
theorem ex_exp {e : E} : ex C (.exp e) n h = inS (ev C e n h) n fun _ h => .nx n h := by rw [ex]
theorem ex_ret {e : E} : ex C (.ret e) n h = inS (ev C e n h) n fun d h => .rt d h := by rw [ex]
theorem ex_rtN : ex C .rtN n h = .rt .non h := by rw [ex]
theorem ex_brk : ex C .brk n h = .bk n h := by rw [ex]
theorem ex_cnt : ex C .cnt n h = .ct n h := by rw [ex]
theorem ex_pas : ex C .pas n h = .nx n h := by rw [ex]
def iteB (C : Ct) (a b : Ss) (n : En) (o : Option Bool) (h : Hh) : Rs := match o with
  | some true => exs C a n h
  | some false => exs C b n h
  | none => .bad
theorem iteB_t {a b : Ss} : iteB C a b n (some true) h = exs C a n h := (rfl)
theorem iteB_f {a b : Ss} : iteB C a b n (some false) h = exs C b n h := (rfl)
theorem ex_ite {c : E} {a b : Ss} : ex C (.ite c a b) n h = inS (ev C c n h) n fun x h => iteB C a b n (truth h x) h := by
  rw [ex]
  rfl
def forR (C : Ct) (tg : Tg) (b : Ss) (n : En) : R Src → Rs
  | .ok src h => forGo (forF C tg b) src.still src.its n h
  | .exc c fs h => .th c fs n h
  | .bad => .bad
theorem forR_ok {tg : Tg} {b : Ss} {src : Src} : forR C tg b n (.ok src h) = forGo (forF C tg b) src.still src.its n h := (rfl)
theorem ex_for {tg : Tg} {it : It} {b : Ss} : ex C (.for tg it b) n h = if n.x.isSome then .bad else forR C tg b n (evIt C it n h) := by
  rw [ex]
  cases evIt C it n h <;> rfl
def raiR (c : Nat) (n : En) (h : Hh) : Option (List (Nat × D)) → Rs
  | some fs => .th c fs n h
  | none => .bad
theorem raiR_s {c : Nat} {fs : List (Nat × D)} : raiR c n h (some fs) = .th c fs n h := (rfl)
theorem ex_rai {c : Nat} {as : Es} : ex C (.rai c as) n h = if n.x.isSome then .bad else inSs (evs C as n h) n fun ds h => raiR c n h (C.exf c ds) := by
  rw [ex]
  rfl
def tryR (C : Ct) (hs : Hs) : Rs → Rs
  | .th c fs n h => exh C hs c fs n h
  | r => r
theorem ex_try {b : Ss} {hs : Hs} : ex C (.try b hs) n h = if n.x.isSome then .bad else tryR C hs (exs C b n h) := by
  rw [ex]
  cases exs C b n h <;> rfl
def seqR (C : Ct) (ss : Ss) : Rs → Rs
  | .nx n h => exs C ss n h
  | r => r
theorem seqR_nx {ss : Ss} : seqR C ss (.nx n h) = exs C ss n h := (rfl)
theorem seqR_rt {ss : Ss} {d : D} : seqR C ss (.rt d h) = .rt d h := (rfl)
theorem seqR_th {ss : Ss} {c : Nat} {fs : List (Nat × D)} : seqR C ss (.th c fs n h) = .th c fs n h := (rfl)
theorem exs_nil : exs C .nil n h = .nx n h := by rw [exs]
theorem exs_cons {s : S} {ss : Ss} : exs C (.cons s ss) n h = seqR C ss (ex C s n h) := by
  rw [exs]
  cases ex C s n h <;> rfl
theorem ev_lc {ws : List Nat} {tg : Tg} {it : It} {ifs : Es} {e : E} : ev C (.lc ws tg it ifs e) n h = if n.x.isSome then .bad else (evIt C it n h).bind fun src h => (lcGo (lcF C n ws tg ifs e) src.still src.its h).bind fun ds h => .ok (.loc h.length) (h ++ [.lst ds]) := by
  rw [ev]
  rfl
theorem forF_nm {i : Nat} {b : Ss} {d : D} : forF C (.nm i) b d n h = exs C b (setS n i d) h := (rfl)
theorem add_lst {a b : Nat} {xs ys : List D} (e1 : h[a]? = some (.lst xs)) (e2 : h[b]? = some (.lst ys)) (hl : xs.length + ys.length ≤ sizeLine) : binop .Add (.loc a) (.loc b) h = .ok (.loc h.length) (h ++ [.lst (xs ++ ys)]) := by
  simp only [binop, e1, e2, hl, if_true]
theorem okKeys_nil : okKeys [] = true := (rfl)
theorem okKeys_one {q : (Int ⊕ Str) × D} : okKeys [q] = true := by simp [okKeys]
theorem last_get {l : Hh} {o : O} : (l ++ [o])[l.length]? = some o := by simp
theorem forGo_invN {f : D → En → Hh → Rs} {ok : Hh → Bool} : ∀ {its : List D} (I : Nat → En → Hh → Prop), (∀ j n h, I j n h → ok h = true) → (∀ j x, its[j]? = some x → ∀ n h, I j n h → ∃ n' h', f x n h = .nx n' h' ∧ I (j + 1) n' h') → ∀ n h, I 0 n h → ∃ n' h', forGo f ok its n h = .nx n' h' ∧ I its.length n' h'
  | [], I, hok, _, n, h, i => ⟨n, h, by simp only [forGo, hok 0 n h i, if_true], i⟩
  | x :: xs, I, hok, hs, n, h, i => by
    obtain ⟨n1, h1, e1, i1⟩ := hs 0 x rfl n h i
    obtain ⟨n2, h2, e2, i2⟩ := forGo_invN (fun j => I (j + 1)) (fun j => hok (j + 1)) (fun j y hy => hs (j + 1) y (by simpa using hy)) n1 h1 i1
    exact ⟨n2, h2, by simp only [forGo, hok 0 n h i, if_true, e1, e2], i2⟩
/-- a loop that may return at an item -/
theorem forGo_any {f : D → En → Hh → Rs} {ok : Hh → Bool} {d : D} (hok : ok h = true) (I : En → Prop) (bad : D → Bool) : ∀ {its : List D}, (∀ x ∈ its, ∀ n, I n → (bad x = true → f x n h = .rt d h) ∧ (bad x = false → ∃ n', f x n h = .nx n' h ∧ I n')) → ∀ n, I n → (its.any bad = true → forGo f ok its n h = .rt d h) ∧ (its.any bad = false → ∃ n', forGo f ok its n h = .nx n' h ∧ I n')
  | [], _, n, i => ⟨fun e => (by cases e), fun _ => ⟨n, by simp only [forGo, hok, if_true], i⟩⟩
  | x :: xs, hs, n, i => by
    obtain ⟨h1, h2⟩ := hs x List.mem_cons_self n i
    cases hx : bad x with
    | true =>
      refine ⟨fun _ => by simp only [forGo, hok, if_true, h1 hx], fun e => ?_⟩
      simp [hx] at e
    | false =>
      obtain ⟨n1, e1, i1⟩ := h2 hx
      obtain ⟨g1, g2⟩ := forGo_any hok I bad (its := xs) (fun y hy => hs y (List.mem_cons_of_mem _ hy)) n1 i1
      refine ⟨fun e => ?_, fun e => ?_⟩
      · simp only [List.any_cons, hx, Bool.false_or] at e
        simp only [forGo, hok, if_true, e1, g1 e]
      · simp only [List.any_cons, hx, Bool.false_or] at e
        obtain ⟨n2, e2, i2⟩ := g2 e
        exact ⟨n2, by simp only [forGo, hok, if_true, e1, e2], i2⟩
theorem ct_call {P : Pg} {c : Nat → List D → Hh → R D} : (P.ct c).call = c := (rfl)
theorem calls_df {P : Pg} {k i : Nat} {d : Df} (h : P.df i = some d) (as : List D) (hp : Hh) : calls P (k + 1) i as hp = runDf (P.ct (calls P k)) d as hp := by
  show (match P.df i with | some d => runDf (P.ct (calls P k)) d as hp | none => .bad) = _
  rw [h]
theorem good_bl {b : Bool} : D.good (.bl b) = true := (rfl)
theorem ne_int : cmpC C hb .NotEq (.int i) (.int j) h = .ok (.bl (!decide (i = j))) h := by
  show cmpop .NotEq (.int i) (.int j) h = _
  simp only [cmpop, eqop, opd, good_int, if_true, D.pd, PyData.eqv]
  congr 2
theorem le_int : cmpC C hb .LtE (.int i) (.int j) h = .ok (.bl (decide (i ≤ j))) h := (rfl)
theorem gt_int : cmpC C hb .Gt (.int i) (.int j) h = .ok (.bl (decide (j < i))) h := (rfl)
theorem ge_int : cmpC C hb .GtE (.int i) (.int j) h = .ok (.bl (decide (j ≤ i))) h := (rfl)
theorem le_int' : cmpop .LtE (.int i) (.int j) h = .ok (.bl (decide (i ≤ j))) h := (rfl)
theorem lt_int' : cmpop .Lt (.int i) (.int j) h = .ok (.bl (decide (i < j))) h := (rfl)
theorem ne_bl {x y : Bool} : cmpC C hb .NotEq (.bl x) (.bl y) h = .ok (.bl (!(x == y))) h := by
  show cmpop .NotEq (.bl x) (.bl y) h = _
  cases x <;> cases y <;> rfl
theorem eq_str {x y : Str} (gx : D.good (.str x) = true) (gy : D.good (.str y) = true) : cmpC C hb .Eq (.str x) (.str y) h = .ok (.bl (decide (x = y))) h := by
  show cmpop .Eq (.str x) (.str y) h = _
  simp only [cmpop, eqop, opd, gx, gy, if_true, D.pd, PyData.eqv]
  congr 2
theorem ne_str {x y : Str} (gx : D.good (.str x) = true) (gy : D.good (.str y) = true) : cmpC C hb .NotEq (.str x) (.str y) h = .ok (.bl (!decide (x = y))) h := by
  show cmpop .NotEq (.str x) (.str y) h = _
  simp only [cmpop, eqop, opd, gx, gy, if_true, D.pd, PyData.eqv]
  congr 2
theorem notin_of {v y : D} {t : Bool} (e : inop h v y = some t) : cmpC C hb .NotIn v y h = .ok (.bl (!t)) h := by
  show cmpop .NotIn v y h = _
  simp only [cmpop, e]
theorem in_of {v y : D} {t : Bool} (e : inop h v y = some t) : cmpC C hb .In v y h = .ok (.bl t) h := by
  show cmpop .In v y h = _
  simp only [cmpop, e]
theorem is_non {v : D} : cmpC C hb .Is v .non h = .ok (.bl (decide (v = .non))) h := by
  show cmpop .Is v .non h = _
  cases v <;> rfl
theorem isnot_non {v : D} : cmpC C hb .IsNot v .non h = .ok (.bl (!decide (v = .non))) h := by
  show cmpop .IsNot v .non h = _
  cases v <;> rfl
theorem len_tup {xs : List D} : blt .len [.tup xs] h = .ok (.int xs.length) h := (rfl)
theorem len_str {x : Str} (e : x.length ≤ sizeLine) : blt .len [.str x] h = .ok (.int x.length) h := by
  simp only [blt, bLen, e, if_true]
theorem len_frl {m : Nat} {xs : List D} (e : h[m]? = some (.frl xs)) : blt .len [.loc m] h = .ok (.int xs.length) h := by
  simp only [blt, bLen, e]
theorem sub_tup {xs : List D} {k : Int} {d : D} (ha : atI xs k = some d) : subop (.tup xs) (.int k) h = .ok d h := by
  simp only [subop, ha]
theorem sub_str {x : Str} {k : Int} {c : Nat} (e : x.length ≤ sizeLine) (ha : atI x.cps.toList k = some c) : subop (.str x) (.int k) h = .ok (.str ⟨#[c]⟩) h := by
  simp only [subop, e, ha, if_true]
theorem att_ins {m c f : Nat} {fs : List (Nat × D)} {d : D} (e : h[m]? = some (.ins c fs)) (k : C.fok c f = true) (l : fs.lookup f = some d) : attop C (.loc m) f h = .ok d h := by
  simp only [attop, e, k, l, if_true]
theorem set_ins {m c f : Nat} {fs : List (Nat × D)} {v : D} (e : h[m]? = some (.ins c fs)) (k : C.fok c f = true) (hl : fs.length < 1000) : setop C (.loc m) f v h = .ok () (h.set m (.ins c (putF f v fs))) := by
  simp only [setop, e, k, decide_eq_true hl, Bool.and_self, if_true]
theorem app_lst {m : Nat} {xs : List D} {v : D} (e : h[m]? = some (.lst xs)) (hl : xs.length < sizeLine) : bmt .append (.loc m) [v] h = .ok .non (h.set m (.lst (xs ++ [v]))) := by
  simp only [bmt, mAppend, e, hl, if_true]
theorem bm_lst {m : Nat} {xs : List D} (e : h[m]? = some (.lst xs)) : bmOk .append (.loc m) h = true := by
  simp only [bmOk, e]
theorem atI_nat {α : Type} {xs : List α} {k : Int} {d : α} (h0 : 0 ≤ k) (e : xs[k.toNat]? = some d) : atI xs k = some d := by
  have hl := (List.getElem?_eq_some_iff.mp e).1
  have : k < (xs.length : Int) := by omega
  unfold atI ixN
  rw [if_pos h0, if_pos this]
  exact e
theorem at_app {l : Hh} {m : Nat} {o : O} (e : h[m]? = some o) : (h ++ l)[m]? = some o := by rw [List.getElem?_append_left (List.getElem?_eq_some_iff.mp e).1]; exact e
theorem at_lt {m : Nat} {o : O} (e : h[m]? = some o) : m < h.length := (List.getElem?_eq_some_iff.mp e).1
theorem at_set {m q : Nat} {o o' : O} (e : h[m]? = some o) (n : q ≠ m) : (h.set q o')[m]? = some o := by rw [List.getElem?_set_ne n]; exact e
theorem at_self {m : Nat} {o o' : O} (e : h[m]? = some o) : (h.set m o')[m]? = some o' := by rw [List.getElem?_set_self (at_lt e)]
theorem at_end {l : Hh} {o : O} : (h ++ o :: l)[h.length]? = some o := by simp
/-- what the heap keeps: all but these numbers; new objects stand behind -/
def Fr (S : List Nat) (h h' : Hh) : Prop := h.length ≤ h'.length ∧ ∀ m, m < h.length → m ∉ S → h'[m]? = h[m]?
theorem Fr.refl {S : List Nat} : Fr S h h := ⟨Nat.le_refl _, fun _ _ _ => rfl⟩
theorem Fr.trans {S : List Nat} {a b c : Hh} (x : Fr S a b) (y : Fr S b c) : Fr S a c := ⟨Nat.le_trans x.1 y.1, fun m hm hs => (y.2 m (Nat.lt_of_lt_of_le hm x.1) hs).trans (x.2 m hm hs)⟩
theorem Fr.app {S : List Nat} {l : Hh} : Fr S h (h ++ l) := ⟨by simp, fun m hm _ => List.getElem?_append_left hm⟩
theorem Fr.set {S : List Nat} {o : O} {s : Nat} (hs : s ∈ S) : Fr S h (h.set s o) := ⟨by simp, fun m _ hm => List.getElem?_set_ne (by rintro rfl; exact hm hs)⟩
/-- an object that is new since h0 may be written -/
theorem Fr.setNew {S : List Nat} {h0 : Hh} {o : O} {s : Nat} (x : Fr S h0 h) (hs : h0.length ≤ s) : Fr S h0 (h.set s o) := ⟨by simpa using x.1, fun m hm hS => by rw [List.getElem?_set_ne (by omega)]; exact x.2 m hm hS⟩
theorem Fr.mono {S S' : List Nat} {h' : Hh} (x : Fr S h h') (e : ∀ m, m ∈ S → m ∈ S') : Fr S' h h' := ⟨x.1, fun m hm hs => x.2 m hm fun z => hs (e m z)⟩
theorem Fr.nil {S : List Nat} {h' : Hh} (x : Fr [] h h') : Fr S h h' := x.mono fun _ z => by cases z
theorem Fr.at {S : List Nat} {h' : Hh} {m : Nat} {o : O} (x : Fr S h h') (e : h[m]? = some o) (hs : m ∉ S) : h'[m]? = some o := (x.2 m (at_lt e) hs).trans e
theorem tryR_nx {hs : Hs} : tryR C hs (.nx n h) = .nx n h := (rfl)
theorem tryR_rt {hs : Hs} {d : D} : tryR C hs (.rt d h) = .rt d h := (rfl)
theorem tryR_th {hs : Hs} {c : Nat} {fs : List (Nat × D)} : tryR C hs (.th c fs n h) = exh C hs c fs n h := (rfl)
theorem exh_cons {k : Nat} {nm : Option Nat} {b : Ss} {r : Hs} {c : Nat} {fs : List (Nat × D)} : exh C (.cons k nm b r) c fs n h = if C.sub c k = true then (if okN nm n then offS nm (exs C b ⟨(offE nm n).s, some ⟨c, fs, nm⟩⟩ h) else .bad) else exh C r c fs n h := by rw [exh]
theorem offS_nx {nm : Option Nat} : offS nm (.nx n h) = .nx (offE nm n) h := (rfl)
theorem offS_rt {nm : Option Nat} {d : D} : offS nm (.rt d h) = .rt d h := (rfl)
theorem inS_exc {c : Nat} {fs : List (Nat × D)} {f : D → Hh → Rs} : inS (.exc c fs h) n f = .th c fs n h := (rfl)
theorem bind_exc {c : Nat} {fs : List (Nat × D)} {f : α → Hh → R β} : (R.exc c fs h : R α).bind f = .exc c fs h := (rfl)
end
end PM
set_option Elab.async false
set_option linter.all false
set_option maxRecDepth 100000
set_option maxHeartbeats 4000000
set_option exponentiation.threshold 2000
/-! PL1: the draws of the laws. -/
namespace PM
open PySem
def b__law_start_1 : Ss := (.cons (.ass 1 (.bin .Mod (.blt .int (.cons (.bin .Add (.bin .Mult (.var 1) (.int 31)) (.var 2)) .nil)) (.int 2147483629))) .nil)
def b__law_start : Ss := (.cons (.ass 1 (.int 17)) (.cons (.for (.nm 2) (.val (.shi (.var 0) (.int 63))) b__law_start_1) (.cons (.ret (.lst (.cons (.shi (.var 0) (.int 63)) (.cons (.int 0) (.cons (.int 0) (.cons (.var 1) (.cons (.int 0) .nil))))))) .nil)))
def b__law_mixed : Ss := (.cons (.ass 3 (.bin .Mod (.blt .int (.cons (.bin .Add (.bin .Add (.bin .Mult (.var 0) (.int 69621)) (.bin .Mult (.var 1) (.int 48271))) (.int 7)) .nil)) (.int 2147483647))) (.cons (.ass 3 (.bin .Mod (.blt .int (.cons (.bin .Add (.bin .Mult (.var 3) (.bin .Add (.bin .FloorDiv (.var 3) (.int 1009)) (.int 40692))) (.var 1)) .nil)) (.int 2147483629))) (.cons (.ass 3 (.bin .Mod (.blt .int (.cons (.bin .Add (.bin .Mult (.var 3) (.bin .Add (.bin .FloorDiv (.var 3) (.int 2003)) (.int 16811))) (.int 11)) .nil)) (.int 2147483579))) (.cons (.ret (.bin .Mod (.blt .int (.cons (.bin .FloorDiv (.var 3) (.int 64)) .nil)) (.var 2))) .nil))))
def b__law_take : Ss := (.cons (.asS (.var 0) (.int 4) (.bin .Add (.sub (.var 0) (.int 4)) (.int 1))) (.cons (.ite (.and (.cmp .Eq (.sub (.var 0) (.int 2)) (.int 0)) (.cmp .Lt (.sub (.var 0) (.int 1)) (.blt .len (.cons (.sub (.var 0) (.int 0)) .nil)))) (.cons (.ass 2 (.blt .abs (.cons (.blt .int (.cons (.sub (.sub (.var 0) (.int 0)) (.sub (.var 0) (.int 1))) .nil)) .nil))) (.cons (.asS (.var 0) (.int 1) (.bin .Add (.sub (.var 0) (.int 1)) (.int 1))) (.cons (.ite (.cmp .Lt (.var 2) (.bin .Pow (.int 10) (.int 18))) (.cons (.ret (.call 4 (.cons (.var 2) (.cons (.sub (.var 0) (.int 4)) (.cons (.var 1) .nil))))) .nil) .nil) (.cons (.asS (.var 0) (.int 2) (.bin .Mod (.blt .int (.cons (.var 2) .nil)) (.bin .Pow (.bin .Pow (.int 10) (.int 60)) (.int 10)))) .nil)))) .nil) (.cons (.ite (.cmp .Eq (.sub (.var 0) (.int 2)) (.int 0)) (.cons (.ret (.call 4 (.cons (.sub (.var 0) (.int 3)) (.cons (.sub (.var 0) (.int 4)) (.cons (.var 1) .nil))))) .nil) .nil) (.cons (.ass 3 (.bin .Mod (.blt .int (.cons (.sub (.var 0) (.int 2)) .nil)) (.var 1))) (.cons (.asS (.var 0) (.int 2) (.bin .FloorDiv (.sub (.var 0) (.int 2)) (.var 1))) (.cons (.ret (.var 3)) .nil))))))
def b__law_pick : Ss := (.cons (.ret (.sub (.var 1) (.call 5 (.cons (.var 0) (.cons (.blt .len (.cons (.var 1) .nil)) .nil))))) .nil)
/-- the defs of the draws -/
structure Drw (P : Pg) : Prop where
  d3 : P.df 3 = some ⟨1, 3, b__law_start⟩
  d4 : P.df 4 = some ⟨3, 4, b__law_mixed⟩
  d5 : P.df 5 = some ⟨2, 4, b__law_take⟩
section
variable {P : Pg}
theorem ok1 {i : Int} : okMul i 69621 = true := by simp [okMul]
theorem ok2 {i : Int} : okMul i 48271 = true := by simp [okMul]
theorem ok3 {i : Int} : okMul i 31 = true := by simp [okMul]
theorem okm {i m j : Int} (h1 : 0 < m) (h2 : m < 2 ^ 64) : okMul (i % m) j = true := by
  have a := Int.emod_nonneg i (Int.ne_of_gt h1)
  have b := Int.emod_lt_of_pos i h1
  unfold okMul
  rw [Bool.or_eq_true]
  left
  rw [decide_eq_true_eq]
  omega
theorem okA {i j : Int} : okMul (i % 2147483647) j = true := okm (by decide) (by decide)
theorem okB {i j : Int} : okMul (i % 2147483629) j = true := okm (by decide) (by decide)
def mix (c n z : Int) : Int :=
  let a := (c * 69621 + n * 48271 + 7) % 2147483647
  let b := (a * (a / 1009 + 40692) + n) % 2147483629
  let d := (b * (b / 2003 + 16811) + 11) % 2147483579
  (d / 64) % z
theorem run4 (hd : Drw P) {k : Nat} {c n z : Int} {h : Hh} (hz : 0 < z) : calls P (k + 1) 4 [.int c, .int n, .int z] h = .ok (.int (mix c n z)) h := by
  rw [calls_df hd.d4]
  unfold runDf b__law_mixed
  have p1 : (0 : Int) < 2147483647 := by decide
  have p2 : (0 : Int) < 2147483629 := by decide
  have p3 : (0 : Int) < 2147483579 := by decide
  have q1 : (0 : Int) < 1009 ∧ (1009 : Int) < 1073741824 := by decide
  have q2 : (0 : Int) < 2003 ∧ (2003 : Int) < 1073741824 := by decide
  have q3 : (0 : Int) < 64 ∧ (64 : Int) < 1073741824 := by decide
  simp only [List.length_cons, List.length_nil, Nat.zero_add, Nat.reduceAdd, Nat.reduceSub, if_true, List.map_cons, List.map_nil, List.replicate_succ, List.replicate_zero, List.cons_append, List.nil_append, exs_nil, exs_cons, seqR_nx, seqR_rt, ex_ass, ex_ret, inS_ok, ev, evs, bind_ok, opt_some, getS, setS, En.free, List.getElem?_cons_zero, List.getElem?_cons_succ, Option.bind_some, id_eq, List.set_cons_zero, List.set_cons_succ, Option.isSome_none, Bool.false_and, Bool.false_eq_true, if_false,
    add_int, mul_int ok1, mul_int ok2, mul_int okA, mul_int okB, mod_int p1, mod_int p2, mod_int p3, div_int q1, div_int q2, div_int q3, mod_int hz, int_int]
  rfl
theorem mix_range {c n z : Int} (hz : 0 < z) : 0 ≤ mix c n z ∧ mix c n z < z := ⟨Int.emod_nonneg _ (Int.ne_of_gt hz), Int.emod_lt_of_pos _ hz⟩
/-- the state of the draws -/
structure St (h : Hh) (s p : Nat) (xs : List Int) (i g sd c : Int) : Prop where
  st : h[s]? = some (.lst [.loc p, .int i, .int g, .int sd, .int c])
  sc : h[p]? = some (.lst (xs.map D.int))
  ne : p ≠ s
  i0 : 0 ≤ i
  il : i ≤ xs.length
  g0 : 0 ≤ g
theorem St.put {h : Hh} {s p : Nat} {xs : List Int} {i g sd c i' g' sd' c' : Int} (S : St h s p xs i g sd c) (h1 : 0 ≤ i') (h2 : i' ≤ xs.length) (h3 : 0 ≤ g') : St (h.set s (.lst [.loc p, .int i', .int g', .int sd', .int c'])) s p xs i' g' sd' c' :=
  ⟨by rw [List.getElem?_set_self (List.getElem?_eq_some_iff.mp S.st).1], by rw [List.getElem?_set_ne S.ne.symm]; exact S.sc, S.ne, h1, h2, h3⟩
theorem run5 (hd : Drw P) {k : Nat} {h : Hh} {s p : Nat} {xs : List Int} {i g sd c z : Int} (S : St h s p xs i g sd c) (hz : 0 < z) (hz2 : z < 1073741824) :
    ∃ d i' g' : Int, 0 ≤ d ∧ d < z ∧ 0 ≤ i' ∧ i' ≤ xs.length ∧ 0 ≤ g' ∧ calls P (k + 2) 5 [.loc s, .int z] h = .ok (.int d) (h.set s (.lst [.loc p, .int i', .int g', .int sd, .int (c + 1)])) := by
  have S1 := S.put (c' := c + 1) (sd' := sd) S.i0 S.il S.g0
  have a4 := sub_lst (k := 4) (d := .int c) S.st rfl
  have w4 := put_lst (k := 4) (j := 4) (v := .int (c + 1)) S.st rfl
  have b0 := sub_lst (k := 0) (d := .loc p) S1.st rfl
  have b1 := sub_lst (k := 1) (d := .int i) S1.st rfl
  have b2 := sub_lst (k := 2) (d := .int g) S1.st rfl
  have b3 := sub_lst (k := 3) (d := .int sd) S1.st rfl
  have b4 := sub_lst (k := 4) (d := .int (c + 1)) S1.st rfl
  have bl := len_lst S1.sc
  rw [List.length_map] at bl
  have cc : ∀ as hp, (P.ct (calls P (k + 1))).call 4 as hp = calls P (k + 1) 4 as hp := fun _ _ => rfl
  by_cases hg : g = 0
  · subst hg
    by_cases hi : i < xs.length
    · -- a cell is read
      obtain ⟨x, hx⟩ : ∃ x, xs[i.toNat]? = some x := ⟨_, List.getElem?_eq_getElem (by have := S.i0; omega)⟩
      have bx := sub_lst (k := i) (d := .int x) S1.sc (by
        have h0 := S.i0
        unfold PM.atI PM.ixN
        rw [if_pos h0, List.length_map, if_pos hi]
        simp [hx])
      have S2 := S1.put (i' := i + 1) (g' := 0) (sd' := sd) (c' := c + 1) (by have := S.i0; omega) (by omega) (Int.le_refl 0)
      have w1 := put_lst (k := 1) (j := 1) (v := .int (i + 1)) S1.st rfl
      rw [List.set_set] at S2
      have c4 := sub_lst (k := 4) (d := .int (c + 1)) S2.st rfl
      have p18 : ∀ hp : Hh, binop .Pow (.int 10) (.int 18) hp = .ok (.int (10 ^ 18)) hp := fun hp => pow_int (by decide)
      by_cases hc : (if x < 0 then -x else x) < (10 ^ 18 : Int)
      · obtain ⟨m1, m2⟩ := mix_range (c := if x < 0 then -x else x) (n := c + 1) hz
        refine ⟨_, i + 1, 0, m1, m2, by have := S.i0; omega, by omega, Int.le_refl 0, ?_⟩
        rw [calls_df hd.d5]
        unfold runDf b__law_take
        simp only [List.length_cons, List.length_nil, Nat.zero_add, Nat.reduceAdd, Nat.reduceSub, if_true, if_false, List.map_cons, List.map_nil, List.replicate_succ, List.replicate_zero, List.cons_append, List.nil_append, exs_nil, exs_cons, seqR_nx, seqR_rt, seqR_th, ex_ass, ex_asA, ex_asS, ex_exp, ex_ret, ex_rtN, ex_brk, ex_cnt, ex_pas, ex_ite, iteB_t, iteB_f, ex_for, forR_ok, ex_rai, raiR_s, ex_try, forF_nm, inS_ok, inSs_ok, unS_ok, ev, evs, bind_ok, opt_some, getS, setS, En.free, List.getElem?_cons_zero, List.getElem?_cons_succ, Option.bind_some, id_eq, List.set_cons_zero, List.set_cons_succ, Option.isSome_none, Bool.false_and, Bool.false_eq_true, add_int, sub_int, int_int, eq_int, ne_int, lt_int, le_int, gt_int, ge_int, ne_bl, is_non, isnot_non, len_tup, ct_call, abs_int, tru_b, truth, decide_true, decide_false, reduceCtorEq, R.calm, a4, w4, b0, b1, b2, bl, hi, bx, w1, p18, hc, c4, cc, run4 hd hz, List.set_set]
      · have p60 : ∀ hp : Hh, binop .Pow (.int 10) (.int 60) hp = .ok (.int (10 ^ 60)) hp := fun hp => pow_int (by decide)
        have pM : ∀ hp : Hh, binop .Pow (.int (10 ^ 60)) (.int 10) hp = .ok (.int ((10 ^ 60) ^ 10)) hp := fun hp => pow_int (by decide)
        have hM : (0 : Int) < (10 ^ 60) ^ 10 := by decide
        generalize hcl : (if x < 0 then -x else x) = cl at hc
        have hq := Int.emod_nonneg cl (Int.ne_of_gt hM)
        generalize hgq : cl % (10 ^ 60) ^ 10 = g2 at hq
        have w2 := put_lst (k := 2) (j := 2) (v := .int (g2)) S2.st rfl
        have S3 := S2.put (i' := i + 1) (g' := g2) (sd' := sd) (c' := c + 1) (by have := S.i0; omega) (by omega) hq
        rw [List.set_set] at S3
        have d2 := sub_lst (k := 2) (d := .int (g2)) S3.st rfl
        have d3 := sub_lst (k := 3) (d := .int sd) S3.st rfl
        have d4 := sub_lst (k := 4) (d := .int (c + 1)) S3.st rfl
        by_cases hg2 : g2 = 0
        · subst hg2
          obtain ⟨m1, m2⟩ := mix_range (c := sd) (n := c + 1) hz
          refine ⟨_, i + 1, 0, m1, m2, by have := S.i0; omega, by omega, hq, ?_⟩
          rw [calls_df hd.d5]
          unfold runDf b__law_take
          simp only [List.length_cons, List.length_nil, Nat.zero_add, Nat.reduceAdd, Nat.reduceSub, if_true, if_false, List.map_cons, List.map_nil, List.replicate_succ, List.replicate_zero, List.cons_append, List.nil_append, exs_nil, exs_cons, seqR_nx, seqR_rt, seqR_th, ex_ass, ex_asA, ex_asS, ex_exp, ex_ret, ex_rtN, ex_brk, ex_cnt, ex_pas, ex_ite, iteB_t, iteB_f, ex_for, forR_ok, ex_rai, raiR_s, ex_try, forF_nm, inS_ok, inSs_ok, unS_ok, ev, evs, bind_ok, opt_some, getS, setS, En.free, List.getElem?_cons_zero, List.getElem?_cons_succ, Option.bind_some, id_eq, List.set_cons_zero, List.set_cons_succ, Option.isSome_none, Bool.false_and, Bool.false_eq_true, add_int, sub_int, int_int, eq_int, ne_int, lt_int, le_int, gt_int, ge_int, ne_bl, is_non, isnot_non, len_tup, ct_call, abs_int, tru_b, truth, decide_true, decide_false, reduceCtorEq, R.calm, a4, w4, b0, b1, b2, bl, hi, bx, w1, hcl, p18, hc, p60, pM, mod_int hM, hgq, w2, d2, d3, d4, cc, run4 hd hz, List.set_set]
        · have w3 := put_lst (k := 2) (j := 2) (v := .int (g2 / z)) S3.st rfl
          refine ⟨g2 % z, i + 1, g2 / z, Int.emod_nonneg _ (Int.ne_of_gt hz), Int.emod_lt_of_pos _ hz, by have := S.i0; omega, by omega, Int.ediv_nonneg hq (Int.le_of_lt hz), ?_⟩
          rw [calls_df hd.d5]
          unfold runDf b__law_take
          simp only [List.length_cons, List.length_nil, Nat.zero_add, Nat.reduceAdd, Nat.reduceSub, if_true, if_false, List.map_cons, List.map_nil, List.replicate_succ, List.replicate_zero, List.cons_append, List.nil_append, exs_nil, exs_cons, seqR_nx, seqR_rt, seqR_th, ex_ass, ex_asA, ex_asS, ex_exp, ex_ret, ex_rtN, ex_brk, ex_cnt, ex_pas, ex_ite, iteB_t, iteB_f, ex_for, forR_ok, ex_rai, raiR_s, ex_try, forF_nm, inS_ok, inSs_ok, unS_ok, ev, evs, bind_ok, opt_some, getS, setS, En.free, List.getElem?_cons_zero, List.getElem?_cons_succ, Option.bind_some, id_eq, List.set_cons_zero, List.set_cons_succ, Option.isSome_none, Bool.false_and, Bool.false_eq_true, add_int, sub_int, int_int, eq_int, ne_int, lt_int, le_int, gt_int, ge_int, ne_bl, is_non, isnot_non, len_tup, ct_call, abs_int, tru_b, truth, decide_true, decide_false, reduceCtorEq, R.calm, a4, w4, b0, b1, b2, bl, hi, bx, w1, hcl, p18, hc, p60, pM, mod_int hM, hgq, w2, d2, d3, d4, hg2, mod_int hz, div_int ⟨hz, hz2⟩, w3, List.set_set]
    · obtain ⟨m1, m2⟩ := mix_range (c := sd) (n := c + 1) hz
      refine ⟨_, i, 0, m1, m2, S.i0, S.il, Int.le_refl 0, ?_⟩
      rw [calls_df hd.d5]
      unfold runDf b__law_take
      simp only [List.length_cons, List.length_nil, Nat.zero_add, Nat.reduceAdd, Nat.reduceSub, if_true, if_false, List.map_cons, List.map_nil, List.replicate_succ, List.replicate_zero, List.cons_append, List.nil_append, exs_nil, exs_cons, seqR_nx, seqR_rt, seqR_th, ex_ass, ex_asA, ex_asS, ex_exp, ex_ret, ex_rtN, ex_brk, ex_cnt, ex_pas, ex_ite, iteB_t, iteB_f, ex_for, forR_ok, ex_rai, raiR_s, ex_try, forF_nm, inS_ok, inSs_ok, unS_ok, ev, evs, bind_ok, opt_some, getS, setS, En.free, List.getElem?_cons_zero, List.getElem?_cons_succ, Option.bind_some, id_eq, List.set_cons_zero, List.set_cons_succ, Option.isSome_none, Bool.false_and, Bool.false_eq_true, add_int, sub_int, int_int, eq_int, ne_int, lt_int, le_int, gt_int, ge_int, ne_bl, is_non, isnot_non, len_tup, ct_call, abs_int, tru_b, truth, decide_true, decide_false, reduceCtorEq, R.calm, a4, w4, b0, b1, b2, b3, b4, bl, hi, cc, run4 hd hz]
  · refine ⟨g % z, i, g / z, Int.emod_nonneg _ (Int.ne_of_gt hz), Int.emod_lt_of_pos _ hz, S.i0, S.il, Int.ediv_nonneg S.g0 (Int.le_of_lt hz), ?_⟩
    have w2 := put_lst (k := 2) (j := 2) (v := .int (g / z)) S1.st rfl
    rw [calls_df hd.d5]
    unfold runDf b__law_take
    simp only [List.length_cons, List.length_nil, Nat.zero_add, Nat.reduceAdd, Nat.reduceSub, if_true, if_false, List.map_cons, List.map_nil, List.replicate_succ, List.replicate_zero, List.cons_append, List.nil_append, exs_nil, exs_cons, seqR_nx, seqR_rt, seqR_th, ex_ass, ex_asA, ex_asS, ex_exp, ex_ret, ex_rtN, ex_brk, ex_cnt, ex_pas, ex_ite, iteB_t, iteB_f, ex_for, forR_ok, ex_rai, raiR_s, ex_try, forF_nm, inS_ok, inSs_ok, unS_ok, ev, evs, bind_ok, opt_some, getS, setS, En.free, List.getElem?_cons_zero, List.getElem?_cons_succ, Option.bind_some, id_eq, List.set_cons_zero, List.set_cons_succ, Option.isSome_none, Bool.false_and, Bool.false_eq_true, add_int, sub_int, int_int, eq_int, ne_int, lt_int, le_int, gt_int, ge_int, ne_bl, is_non, isnot_non, len_tup, ct_call, abs_int, tru_b, truth, decide_true, decide_false, reduceCtorEq, R.calm, a4, w4, b0, b1, b2, b3, b4, bl, hg, mod_int hz, div_int ⟨hz, hz2⟩, w2, List.set_set]
theorem run3 (hd : Drw P) {k : Nat} {ns : List Int} : ∃ sd : Int, calls P (k + 1) 3 [.loc 0] [.frl (ns.map D.int)] = .ok (.loc 3) [.frl (ns.map D.int), .lst ((cut ns none (some 63)).map D.int), .lst ((cut ns none (some 63)).map D.int), .lst [.loc 2, .int 0, .int 0, .int sd, .int 0]] := by
  rw [calls_df hd.d3]
  unfold runDf b__law_start
  generalize hL : cut ns none (some 63) = L
  have s0 := slc_frl (lo := none) (hi := some 63) (h := [.frl (ns.map D.int)]) (m := 0) (xs := ns.map D.int) rfl
  rw [cut_map, hL] at s0
  have s1 := slc_frl (lo := none) (hi := some 63) (h := [.frl (ns.map D.int), .lst (L.map D.int)]) (m := 0) (xs := ns.map D.int) rfl
  rw [cut_map, hL] at s1
  have r0 := src_lst (h := [.frl (ns.map D.int), .lst (L.map D.int)]) (m := 1) (xs := L.map D.int) rfl
  have p2 : (0 : Int) < 2147483629 := by decide
  obtain ⟨n', h', e1, i1⟩ := forGo_inv (f := forF (P.ct (calls P k)) (.nm 2) b__law_start_1) (ok := Src.still ⟨L.map D.int, [(1, L.map D.int)]⟩) (fun n h => (∃ sd x, n = ⟨[some (.loc 0), some (.int sd), x], none⟩) ∧ h = [.frl (ns.map D.int), .lst (L.map D.int)])
    (fun n h i => by obtain ⟨_, rfl⟩ := i; exact still_lst rfl) (its := L.map D.int) (fun x hx n h i => by
      obtain ⟨⟨sd, y, rfl⟩, rfl⟩ := i
      obtain ⟨v, _, rfl⟩ := List.mem_map.mp hx
      refine ⟨_, _, ?_, ⟨(sd * 31 + v) % 2147483629, some (.int v), rfl⟩, rfl⟩
      unfold b__law_start_1
      simp only [List.length_cons, List.length_nil, Nat.zero_add, Nat.reduceAdd, Nat.reduceSub, if_true, if_false, List.map_cons, List.map_nil, List.replicate_succ, List.replicate_zero, List.cons_append, List.nil_append, exs_nil, exs_cons, seqR_nx, seqR_rt, seqR_th, ex_ass, ex_asA, ex_asS, ex_exp, ex_ret, ex_rtN, ex_brk, ex_cnt, ex_pas, ex_ite, iteB_t, iteB_f, ex_for, forR_ok, ex_rai, raiR_s, ex_try, forF_nm, inS_ok, inSs_ok, unS_ok, ev, evs, bind_ok, opt_some, getS, setS, En.free, List.getElem?_cons_zero, List.getElem?_cons_succ, Option.bind_some, id_eq, List.set_cons_zero, List.set_cons_succ, Option.isSome_none, Bool.false_and, Bool.false_eq_true, add_int, sub_int, int_int, eq_int, ne_int, lt_int, le_int, gt_int, ge_int, ne_bl, is_non, isnot_non, len_tup, ct_call, abs_int, tru_b, truth, decide_true, decide_false, reduceCtorEq, R.calm, putT, mul_int ok3, mod_int p2]) ⟨[some (.loc 0), some (.int 17), none], none⟩ [.frl (ns.map D.int), .lst (L.map D.int)] ⟨⟨17, none, rfl⟩, rfl⟩
  obtain ⟨⟨sd, x, rfl⟩, rfl⟩ := i1
  refine ⟨sd, ?_⟩
  simp only [List.length_cons, List.length_nil, Nat.zero_add, Nat.reduceAdd, Nat.reduceSub, if_true, if_false, List.map_cons, List.map_nil, List.replicate_succ, List.replicate_zero, List.cons_append, List.nil_append, exs_nil, exs_cons, seqR_nx, seqR_rt, seqR_th, ex_ass, ex_asA, ex_asS, ex_exp, ex_ret, ex_rtN, ex_brk, ex_cnt, ex_pas, ex_ite, iteB_t, iteB_f, ex_for, forR_ok, ex_rai, raiR_s, ex_try, forF_nm, inS_ok, inSs_ok, unS_ok, ev, evs, bind_ok, opt_some, getS, setS, En.free, List.getElem?_cons_zero, List.getElem?_cons_succ, Option.bind_some, id_eq, List.set_cons_zero, List.set_cons_succ, Option.isSome_none, Bool.false_and, Bool.false_eq_true, add_int, sub_int, int_int, eq_int, ne_int, lt_int, le_int, gt_int, ge_int, ne_bl, is_non, isnot_non, len_tup, ct_call, abs_int, tru_b, truth, decide_true, decide_false, reduceCtorEq, R.calm, evIt, intOf_int, s0, r0, e1, s1]
  rfl
theorem St.app {h : Hh} {s p : Nat} {xs : List Int} {i g sd c : Int} (S : St h s p xs i g sd c) (l : Hh) : St (h ++ l) s p xs i g sd c :=
  ⟨by rw [List.getElem?_append_left (List.getElem?_eq_some_iff.mp S.st).1]; exact S.st, by rw [List.getElem?_append_left (List.getElem?_eq_some_iff.mp S.sc).1]; exact S.sc, S.ne, S.i0, S.il, S.g0⟩

/-- a draw: the state alone changes -/
theorem take (hd : Drw P) {k : Nat} {h : Hh} {s p : Nat} {xs : List Int} {i g sd c z : Int} (S : St h s p xs i g sd c) (hz : 0 < z) (hz2 : z < 1073741824) :
    ∃ (d i' g' c' : Int) (h' : Hh), 0 ≤ d ∧ d < z ∧ calls P (k + 2) 5 [.loc s, .int z] h = .ok (.int d) h' ∧ Fr [s] h h' ∧ St h' s p xs i' g' sd c' ∧ h'.length = h.length := by
  obtain ⟨d, i', g', d0, d1, e1, e2, e3, er⟩ := run5 hd (k := k) S hz hz2
  exact ⟨d, i', g', c + 1, _, d0, d1, er, Fr.set (by simp), S.put e1 e2 e3, by simp⟩
theorem St.fr {h h' : Hh} {s p : Nat} {xs : List Int} {i g sd c : Int} (S : St h s p xs i g sd c) {L : List Nat} (f : Fr L h h') (n1 : s ∉ L) (n2 : p ∉ L) : St h' s p xs i g sd c := ⟨f.at S.st n1, f.at S.sc n2, S.ne, S.i0, S.il, S.g0⟩
/-- a pick from a list -/
theorem pick_lst (hd : Drw P) (d15 : P.df 15 = some ⟨2, 2, b__law_pick⟩) {k : Nat} {h : Hh} {s p m : Nat} {xs : List Int} {i g sd c : Int} {ys : List D} (S : St h s p xs i g sd c) (hm : h[m]? = some (.lst ys)) (nm : m ≠ s) (h0 : 0 < ys.length) (h1 : ys.length < 1000000) :
    ∃ (j : Nat) (v : D) (i' g' c' : Int) (h' : Hh), ys[j]? = some v ∧ calls P (k + 3) 15 [.loc s, .loc m] h = .ok v h' ∧ Fr [s] h h' ∧ St h' s p xs i' g' sd c' ∧ h'.length = h.length := by
  obtain ⟨d, i', g', c', h', d0, d1, er, fr, S', hl⟩ := take hd (k := k) (z := ys.length) S (by omega) (by omega)
  obtain ⟨v, hv⟩ : ∃ v, ys[d.toNat]? = some v := ⟨_, List.getElem?_eq_getElem (by omega)⟩
  refine ⟨d.toNat, v, i', g', c', h', hv, ?_, fr, S', hl⟩
  rw [calls_df d15]
  unfold runDf b__law_pick
  have l1 := len_lst hm
  have s1 := sub_lst (k := d) (d := v) (fr.at hm (by simpa using nm)) (atI_nat d0 hv)
  simp only [List.length_cons, List.length_nil, Nat.zero_add, Nat.reduceAdd, Nat.reduceSub, if_true, if_false, List.map_cons, List.map_nil, List.replicate_succ, List.replicate_zero, List.cons_append, List.nil_append, exs_nil, exs_cons, seqR_nx, seqR_rt, seqR_th, ex_ass, ex_asA, ex_asS, ex_exp, ex_ret, ex_rtN, ex_brk, ex_cnt, ex_pas, ex_ite, iteB_t, iteB_f, ex_for, forR_ok, ex_rai, raiR_s, ex_try, forF_nm, inS_ok, inSs_ok, unS_ok, ev, evs, bind_ok, opt_some, getS, setS, En.free, List.getElem?_cons_zero, List.getElem?_cons_succ, Option.bind_some, id_eq, List.set_cons_zero, List.set_cons_succ, Option.isSome_none, Bool.false_and, Bool.false_eq_true, add_int, sub_int, int_int, eq_int, ne_int, lt_int, le_int, gt_int, ge_int, ne_bl, is_non, isnot_non, len_tup, ct_call, abs_int, tru_b, truth, decide_true, decide_false, reduceCtorEq, R.calm, l1, er, s1]
/-- a pick from a text -/
theorem pick_str (hd : Drw P) (d15 : P.df 15 = some ⟨2, 2, b__law_pick⟩) {k : Nat} {h : Hh} {s p : Nat} {xs : List Int} {i g sd c : Int} {x : Str} (S : St h s p xs i g sd c) (h0 : 0 < x.length) (h1 : x.length < 1000000) :
    ∃ (v : Nat) (i' g' c' : Int) (h' : Hh), v ∈ x.cps.toList ∧ calls P (k + 3) 15 [.loc s, .str x] h = .ok (.str ⟨#[v]⟩) h' ∧ Fr [s] h h' ∧ St h' s p xs i' g' sd c' ∧ h'.length = h.length := by
  obtain ⟨d, i', g', c', h', d0, d1, er, fr, S', hl⟩ := take hd (k := k) (z := x.length) S (by omega) (by omega)
  have hx : x.length ≤ sizeLine := by unfold sizeLine; omega
  have hq : x.cps.toList.length = x.length := by simp [Str.length]
  obtain ⟨v, hv⟩ : ∃ v, x.cps.toList[d.toNat]? = some v := ⟨_, List.getElem?_eq_getElem (by omega)⟩
  refine ⟨v, i', g', c', h', List.mem_of_getElem? hv, ?_, fr, S', hl⟩
  rw [calls_df d15]
  unfold runDf b__law_pick
  have l1 := len_str (h := h) hx
  have s1 := sub_str (h := h') hx (atI_nat d0 hv)
  simp only [List.length_cons, List.length_nil, Nat.zero_add, Nat.reduceAdd, Nat.reduceSub, if_true, if_false, List.map_cons, List.map_nil, List.replicate_succ, List.replicate_zero, List.cons_append, List.nil_append, exs_nil, exs_cons, seqR_nx, seqR_rt, seqR_th, ex_ass, ex_asA, ex_asS, ex_exp, ex_ret, ex_rtN, ex_brk, ex_cnt, ex_pas, ex_ite, iteB_t, iteB_f, ex_for, forR_ok, ex_rai, raiR_s, ex_try, forF_nm, inS_ok, inSs_ok, unS_ok, ev, evs, bind_ok, opt_some, getS, setS, En.free, List.getElem?_cons_zero, List.getElem?_cons_succ, Option.bind_some, id_eq, List.set_cons_zero, List.set_cons_succ, Option.isSome_none, Bool.false_and, Bool.false_eq_true, add_int, sub_int, int_int, eq_int, ne_int, lt_int, le_int, gt_int, ge_int, ne_bl, is_non, isnot_non, len_tup, ct_call, abs_int, tru_b, truth, decide_true, decide_false, reduceCtorEq, R.calm, l1, er, s1]
end
end PM
set_option Elab.async false
set_option linter.all false
set_option maxRecDepth 100000
set_option maxHeartbeats 4000000
/-! PL2: texts; drawn names. -/
namespace PM
open PySem
/-- a text by its signs -/
abbrev T (l : List Nat) : D := .str ⟨l.toArray⟩
theorem T_len (l : List Nat) : (⟨l.toArray⟩ : Str).length = l.length := by simp [Str.length]
theorem T_eta (x : Str) : D.str x = T x.cps.toList := by simp [T]
theorem T_inj {a b : List Nat} (h : T a = T b) : a = b := by
  unfold T at h
  injection h with h
  injection h with h
  simpa using congrArg Array.toList h
section
variable {h : Hh}
theorem add_T {a b : List Nat} (hl : a.length + b.length ≤ sizeLine) : binop .Add (T a) (T b) h = .ok (T (a ++ b)) h := by
  have e : (⟨a.toArray⟩ : Str) ++ (⟨b.toArray⟩ : Str) = ⟨(a ++ b).toArray⟩ := SX.S_cat a b
  simp only [T, binop, T_len, hl, if_true, e]
theorem strs_T : ∀ ys : List (List Nat), strsOf (ys.map T) = some ys
  | [] => rfl
  | y :: ys => by simp [strsOf, T, strs_T ys]
theorem join_lst {m : Nat} {a : List Nat} {ys : List (List Nat)} (e : h[m]? = some (.lst (ys.map T))) (hl : lenSum ys + ys.length * a.length ≤ 16777216) : bmt .join (T a) [.loc m] h = .ok (T (joinL a ys)) h := by
  simp only [bmt, mJoin, T, e, strs_T, T_len, hl, if_true]
theorem join_bm {a : List Nat} : bmOk .join (T a) h = true := rfl
theorem joinL_nil : ∀ ys : List (List Nat), joinL [] ys = ys.flatten
  | [] => rfl
  | [p] => by simp [joinL]
  | p :: q :: r => by
    show p ++ ([] ++ joinL [] (q :: r)) = _
    rw [joinL_nil (q :: r)]
    simp
theorem lenSum_flatten : ∀ ys : List (List Nat), lenSum ys = ys.flatten.length
  | [] => rfl
  | y :: ys => by simp [lenSum, lenSum_flatten ys]
end
theorem lcGo_inv {f : D → Hh → R (Option D)} {ok : Hh → Bool} (I : Hh → Prop) (hok : ∀ h, I h → ok h = true) (Q : D → Prop) : ∀ {its : List D}, (∀ x ∈ its, ∀ h, I h → ∃ d h', f x h = .ok (some d) h' ∧ I h' ∧ Q d) → ∀ h, I h → ∃ ds h', lcGo f ok its h = .ok ds h' ∧ I h' ∧ ds.length = its.length ∧ ∀ d ∈ ds, Q d
  | [], _, h, i => ⟨[], h, by simp only [lcGo, hok h i, if_true], i, rfl, fun _ z => by cases z⟩
  | x :: xs, hs, h, i => by
    obtain ⟨d, h1, e1, i1, q1⟩ := hs x List.mem_cons_self h i
    obtain ⟨ds, h2, e2, i2, l2, q2⟩ := lcGo_inv I hok Q (its := xs) (fun y hy => hs y (List.mem_cons_of_mem _ hy)) h1 i1
    refine ⟨d :: ds, h2, by simp only [lcGo, hok h i, if_true, e1, bind_ok, e2], i2, by simp [l2], fun z hz => ?_⟩
    rcases List.mem_cons.mp hz with rfl | hz
    · exact q1
    · exact q2 z hz
/-- a comprehension whose heap stays: each item by itself -/
theorem lcGo_map {f : D → Hh → R (Option D)} {ok : Hh → Bool} {h : Hh} (hok : ok h = true) (g : D → D) : ∀ {its : List D}, (∀ x ∈ its, f x h = .ok (some (g x)) h) → lcGo f ok its h = .ok (its.map g) h
  | [], _ => by simp only [lcGo, hok, if_true, List.map_nil]
  | x :: xs, hs => by
    simp only [lcGo, hok, if_true, hs x List.mem_cons_self, bind_ok, lcGo_map hok g (its := xs) fun y hy => hs y (List.mem_cons_of_mem _ hy), List.map_cons]
/-- a comprehension whose heap stays, with a test -/
theorem lcGo_filter {f : D → Hh → R (Option D)} {ok : Hh → Bool} {h : Hh} (hok : ok h = true) (t : D → Bool) (g : D → D) : ∀ {its : List D}, (∀ x ∈ its, f x h = .ok (if t x = true then some (g x) else none) h) → lcGo f ok its h = .ok ((its.filter t).map g) h
  | [], _ => by simp only [lcGo, hok, if_true, List.filter_nil, List.map_nil]
  | x :: xs, hs => by
    have e := lcGo_filter hok t g (its := xs) fun y hy => hs y (List.mem_cons_of_mem _ hy)
    cases q : t x with
    | true => simp only [lcGo, hok, if_true, hs x List.mem_cons_self, q, bind_ok, e, List.filter_cons_of_pos q, List.map_cons]
    | false => simp only [lcGo, hok, if_true, hs x List.mem_cons_self, q, Bool.false_eq_true, if_false, bind_ok, e, List.filter_cons]
def letters : List Nat := [97, 98, 99, 100, 101, 102, 103, 104, 105, 106, 107, 108, 109, 110, 111, 112, 113, 114, 115, 116, 117, 118, 119, 120, 121, 122]
def ltrs : Str := "abcdefghijklmnopqrstuvwxyz"
theorem ltrs_list : ltrs.cps.toList = letters := by decide +kernel
theorem ltrs_T : D.str ltrs = T letters := by rw [T_eta, ltrs_list]
theorem ltrs_len : ltrs.length = 26 := by decide +kernel
theorem letters_at {j : Nat} (hj : j < 26) : letters[j]? = some (97 + j) := by
  have : ∀ j : Fin 26, letters[j.val]? = some (97 + j.val) := by decide
  exact this ⟨j, hj⟩
theorem letters_mem {c : Nat} : c ∈ letters ↔ 97 ≤ c ∧ c ≤ 122 := by
  unfold letters
  simp only [List.mem_cons, List.not_mem_nil, or_false]
  omega
/-- the t-th of some drawn names -/
structure NmAt (sh : Int) (fi : Int) (t : Nat) (y : List Nat) : Prop where
  all : ∀ c ∈ y, c ∈ letters
  one : 1 ≤ y.length
  few : y.length ≤ 7
  fst : fi = 0 → y.head? = some (97 + ((sh + 7 * t) % 26).toNat)
  lst : fi ≠ 0 → y.getLast? = some (97 + ((sh + 7 * t) % 26).toNat)
theorem NmAt.ne {sh fi : Int} {t u : Nat} {x y : List Nat} (ht : t < 26) (hu : u < 26) (n : t ≠ u) (a : NmAt sh fi t x) (b : NmAt sh fi u y) : x ≠ y := by
  intro e
  subst e
  by_cases hf : fi = 0
  · have h1 := a.fst hf
    have h2 := b.fst hf
    rw [h1] at h2
    injection h2 with h2
    omega
  · have h1 := a.lst hf
    have h2 := b.lst hf
    rw [h1] at h2
    injection h2 with h2
    omega
end PM
set_option Elab.async false
set_option linter.all false
set_option maxRecDepth 100000
set_option maxHeartbeats 4000000
/-! PL3: drawn names. -/
namespace PM
open PySem
def b__law_names_1 : E := (.call 15 (.cons (.var 0) (.cons (.var 2) .nil)))
def b__law_names_2 : Ss := (.cons (.ass 7 (.bmt .join (.str ("" : Str)) (.cons (.lc [8] (.nm 8) (.rng1 (.bin .Mult (.call 5 (.cons (.var 0) (.cons (.int 4) .nil))) (.bin .Add (.int 1) (.call 5 (.cons (.var 0) (.cons (.int 2) .nil)))))) .nil b__law_names_1) .nil))) (.cons (.ass 9 (.sub (.var 2) (.bin .Mod (.bin .Add (.var 3) (.bin .Mult (.int 7) (.var 6))) (.int 26)))) (.cons (.exp (.bmt .append (.var 5) (.cons (.sub (.lst (.cons (.bin .Add (.var 9) (.var 7)) (.cons (.bin .Add (.var 7) (.var 9)) .nil))) (.var 4)) .nil))) .nil)))
def b__law_names : Ss := (.cons (.ass 2 (.str ("abcdefghijklmnopqrstuvwxyz" : Str))) (.cons (.ass 3 (.call 5 (.cons (.var 0) (.cons (.int 26) .nil)))) (.cons (.ass 4 (.call 5 (.cons (.var 0) (.cons (.int 2) .nil)))) (.cons (.ass 5 (.lst .nil)) (.cons (.for (.nm 6) (.rng1 (.var 1)) b__law_names_2) (.cons (.ret (.var 5)) .nil))))))
theorem e_nil : D.str ("" : Str) = T [] := by decide +kernel
theorem e_ltrs : D.str ("abcdefghijklmnopqrstuvwxyz" : Str) = T letters := ltrs_T
theorem okM {i j : Int} (h : i.natAbs < 2 ^ 64) : okMul i j = true := by simp [okMul, h]
theorem ones {Q : D → Prop} : ∀ {ds : List D}, (∀ d ∈ ds, ∃ c, c ∈ letters ∧ d = T [c]) → ∃ ys : List (List Nat), ds = ys.map T ∧ ys.length = ds.length ∧ (∀ c ∈ ys.flatten, c ∈ letters) ∧ ys.flatten.length = ds.length
  | [], _ => ⟨[], rfl, rfl, fun _ z => (by cases z), rfl⟩
  | d :: ds, hs => by
    obtain ⟨c, hc, rfl⟩ := hs d List.mem_cons_self
    obtain ⟨ys, e, l, q, l2⟩ := ones (Q := Q) (ds := ds) fun z hz => hs z (List.mem_cons_of_mem _ hz)
    refine ⟨[c] :: ys, by rw [e]; rfl, by simp [l], fun z hz => ?_, by simp [l2]⟩
    simp only [List.flatten_cons, List.mem_append, List.mem_singleton] at hz
    rcases hz with rfl | hz
    · exact hc
    · exact q z hz
section
variable {P : Pg}
theorem names_turn (hd : Drw P) (d15 : P.df 15 = some ⟨2, 2, b__law_pick⟩) {k : Nat} {h : Hh} {s p M t : Nat} {xs : List Int} {i g sd c sh fi : Int} {ds : List D} {x1 x7 x8 x9 : Option D} (S : St h s p xs i g sd c) (hM : h[M]? = some (.lst ds)) (nM : M ≠ s) (nP : M ≠ p) (hl : ds.length < 1000) (h0 : 0 ≤ sh) (h26 : sh < 26) (f0 : 0 ≤ fi) (f2 : fi < 2) (ht : t < 1000) :
    ∃ (y : List Nat) (y7 y8 y9 : Option D) (h' : Hh) (i' g' c' : Int), exs (P.ct (calls P (k + 3))) b__law_names_2 ⟨[some (.loc s), x1, some (T letters), some (.int sh), some (.int fi), some (.loc M), some (.int t), x7, x8, x9], none⟩ h = .nx ⟨[some (.loc s), x1, some (T letters), some (.int sh), some (.int fi), some (.loc M), some (.int t), y7, y8, y9], none⟩ h' ∧
      NmAt sh fi t y ∧ Fr [s, M] h h' ∧ h'[M]? = some (.lst (ds ++ [T y])) ∧ St h' s p xs i' g' sd c' := by
  obtain ⟨d1, i1, g1, c1, h1, a0, a1, e1, fr1, S1, l1⟩ := take hd (k := k + 1) (z := 4) S (by decide) (by decide)
  obtain ⟨d2, i2, g2, c2, h2, b0, b1, e2, fr2, S2, l2⟩ := take hd (k := k + 1) (z := 2) S1 (by decide) (by decide)
  have mu : ∀ hp, binop .Mult (.int d1) (.int (1 + d2)) hp = .ok (.int (d1 * (1 + d2))) hp := fun hp => mul_int (okM (by omega))
  have hb : 0 ≤ d1 * (1 + d2) ∧ d1 * (1 + d2) ≤ 6 := by
    have q1 : d1 = 0 ∨ d1 = 1 ∨ d1 = 2 ∨ d1 = 3 := by omega
    have q2 : d2 = 0 ∨ d2 = 1 := by omega
    rcases q1 with z | z | z | z <;> rcases q2 with y | y <;> rw [z, y] <;> decide
  have ok : okR (d1 * (1 + d2)) = true := by
    unfold okR
    simp only [Bool.and_eq_true, decide_eq_true_eq]
    omega
  generalize hq : d1 * (1 + d2) = q at mu hb ok
  -- the letters
  obtain ⟨es, h3, e3, ⟨⟨i3, g3, c3, S3⟩, fr3, l3⟩, le3, all3⟩ := lcGo_inv (f := lcF (P.ct (calls P (k + 3))) ⟨[some (.loc s), x1, some (T letters), some (.int sh), some (.int fi), some (.loc M), some (.int t), x7, x8, x9], none⟩ [8] (.nm 8) .nil b__law_names_1) (ok := Src.still ⟨rangeD 0 q.toNat, []⟩)
    (fun hp => (∃ i g c, St hp s p xs i g sd c) ∧ Fr [s] h2 hp ∧ hp.length = h2.length) (fun _ _ => still_none) (fun d => ∃ c, c ∈ letters ∧ d = T [c]) (its := rangeD 0 q.toNat) (fun x hx hp iv => by
      obtain ⟨⟨i, g, c, S⟩, fr, l⟩ := iv
      obtain ⟨v, i', g', c', h', hv, er, fr', S', l'⟩ := pick_str hd d15 (k := k) (x := ⟨letters.toArray⟩) S (by rw [T_len]; decide) (by rw [T_len]; decide)
      refine ⟨T [v], h', ?_, ⟨⟨i', g', c', S'⟩, fr.trans fr', l'.trans l⟩, v, by simpa using hv, rfl⟩
      unfold lcF b__law_names_1
      simp only [↓ev_lc, List.length_cons, List.length_nil, Nat.zero_add, Nat.reduceAdd, Nat.reduceSub, if_true, if_false, List.map_cons, List.map_nil, List.replicate_succ, List.replicate_zero, List.cons_append, List.nil_append, exs_nil, exs_cons, seqR_nx, seqR_rt, seqR_th, ex_ass, ex_asA, ex_asS, ex_exp, ex_ret, ex_rtN, ex_brk, ex_cnt, ex_pas, ex_ite, iteB_t, iteB_f, ex_for, forR_ok, ex_rai, raiR_s, ex_try, forF_nm, inS_ok, inSs_ok, unS_ok, ev, evs, bind_ok, opt_some, getS, setS, En.free, List.getElem?_cons_zero, List.getElem?_cons_succ, Option.bind_some, id_eq, List.set_cons_zero, List.set_cons_succ, Option.isSome_none, Bool.false_and, Bool.false_eq_true, add_int, sub_int, int_int, eq_int, ne_int, lt_int, le_int, gt_int, ge_int, ne_bl, is_non, isnot_non, len_tup, ct_call, abs_int, tru_b, truth, decide_true, decide_false, reduceCtorEq, R.calm, putT, PM.wipe, tests, er]) h2 ⟨⟨i2, g2, c2, S2⟩, Fr.refl, rfl⟩
  obtain ⟨ys, rfl, ly, ally, lf⟩ := ones (Q := fun _ => True) all3
  have hlen : ys.flatten.length ≤ 6 := by
    rw [lf, le3]
    simp [rangeD]
    omega
  have S4 := S3.app [.lst (ys.map T)]
  have jn := join_lst (h := h3 ++ [.lst (ys.map T)]) (m := h3.length) (a := []) (ys := ys) (by simp) (by
    rw [lenSum_flatten]
    simp only [List.length_nil, Nat.mul_zero, Nat.add_zero]
    omega)
  rw [joinL_nil] at jn
  -- the own letter
  have hm : 0 ≤ (sh + 7 * (t : Int)) % 26 ∧ (sh + 7 * (t : Int)) % 26 < 26 := ⟨Int.emod_nonneg _ (by decide), Int.emod_lt_of_pos _ (by decide)⟩
  have mo : ∀ hp, binop .Mod (.int (sh + 7 * (t : Int))) (.int 26) hp = .ok (.int ((sh + 7 * (t : Int)) % 26)) hp := fun hp => mod_int (by decide)
  have m7 : ∀ hp, binop .Mult (.int 7) (.int t) hp = .ok (.int (7 * (t : Int))) hp := fun hp => mul_int (okM (by decide))
  obtain ⟨w, hw⟩ : ∃ w, w = 97 + ((sh + 7 * (t : Int)) % 26).toNat := ⟨_, rfl⟩
  have sb : ∀ hp, subop (T letters) (.int ((sh + 7 * (t : Int)) % 26)) hp = .ok (T [w]) hp := fun hp => sub_str (x := ⟨letters.toArray⟩) (by rw [T_len]; decide) (atI_nat hm.1 (by
    show letters[((sh + 7 * (t : Int)) % 26).toNat]? = some w
    rw [letters_at (by omega), hw]))
  have wl : w ∈ letters := letters_mem.mpr (by omega)
  obtain ⟨Y, hY⟩ : ∃ Y, Y = ys.flatten := ⟨_, rfl⟩
  rw [← hY] at jn ally hlen
  have ad1 : ∀ hp, binop .Add (T [w]) (T Y) hp = .ok (T (w :: Y)) hp := fun hp => add_T (by unfold sizeLine; simp; omega)
  have ad2 : ∀ hp, binop .Add (T Y) (T [w]) hp = .ok (T (Y ++ [w])) hp := fun hp => add_T (by unfold sizeLine; simp; omega)
  obtain ⟨h4, hh4⟩ : ∃ h4, h4 = h3 ++ [.lst (ys.map T)] := ⟨_, rfl⟩
  rw [← hh4] at jn S4
  have fr4 : Fr [s] h h4 := ((fr1.trans fr2).trans fr3).trans (by rw [hh4]; exact Fr.app)
  have m4 : h4[M]? = some (.lst ds) := fr4.at hM (by simpa using nM)
  obtain ⟨h5, hh5⟩ : ∃ h5, h5 = h4 ++ [.lst [T (w :: Y), T (Y ++ [w])]] := ⟨_, rfl⟩
  have m5 : h5[M]? = some (.lst ds) := by rw [hh5]; exact at_app m4
  have S5 : St h5 s p xs i3 g3 sd c3 := by rw [hh5]; exact S4.app _
  have fr5 : Fr [s] h h5 := fr4.trans (by rw [hh5]; exact Fr.app)
  obtain ⟨y, hy, ny⟩ : ∃ y, atI [T (w :: Y), T (Y ++ [w])] fi = some (T y) ∧ NmAt sh fi t y := by
    have : fi = 0 ∨ fi = 1 := by omega
    rcases this with rfl | rfl
    · refine ⟨w :: Y, rfl, ⟨fun c hc => ?_, by simp, by simp; omega, fun _ => by rw [hw]; rfl, fun z => absurd rfl z⟩⟩
      simp only [List.mem_cons] at hc
      rcases hc with rfl | hc
      · exact wl
      · exact ally c hc
    · refine ⟨Y ++ [w], rfl, ⟨fun c hc => ?_, by simp, by simp; omega, fun z => absurd z (by decide), fun _ => by rw [hw]; simp⟩⟩
      simp only [List.mem_append, List.mem_singleton] at hc
      rcases hc with hc | rfl
      · exact ally c hc
      · exact wl
  have sf := sub_lst (h := h5) (m := h4.length) (k := fi) (by rw [hh5]; simp) hy
  have bo := bm_lst m4
  have ap := app_lst (v := T y) m5 (by unfold sizeLine; omega)
  refine ⟨y, some (T Y), x8, some (T [w]), _, i3, g3, c3, ?_, ny, (fr5.mono (by simp)).trans (Fr.set (s := M) (o := .lst (ds ++ [T y])) (by simp)), at_self m5, ⟨at_set S5.st nM, at_set S5.sc nP, S5.ne, S5.i0, S5.il, S5.g0⟩⟩
  unfold b__law_names_2
  simp only [↓ev_lc, List.length_cons, List.length_nil, Nat.zero_add, Nat.reduceAdd, Nat.reduceSub, if_true, if_false, List.map_cons, List.map_nil, List.replicate_succ, List.replicate_zero, List.cons_append, List.nil_append, exs_nil, exs_cons, seqR_nx, seqR_rt, seqR_th, ex_ass, ex_asA, ex_asS, ex_exp, ex_ret, ex_rtN, ex_brk, ex_cnt, ex_pas, ex_ite, iteB_t, iteB_f, ex_rai, raiR_s, ex_try, forF_nm, inS_ok, inSs_ok, unS_ok, ev, evs, bind_ok, opt_some, getS, setS, En.free, List.getElem?_cons_zero, List.getElem?_cons_succ, Option.bind_some, id_eq, List.set_cons_zero, List.set_cons_succ, Option.isSome_none, Bool.false_and, Bool.false_eq_true, add_int, sub_int, int_int, eq_int, ne_int, lt_int, le_int, gt_int, ge_int, ne_bl, is_non, isnot_non, len_tup, ct_call, abs_int, tru_b, truth, decide_true, decide_false, reduceCtorEq, R.calm, e_nil, join_bm, evIt, e1, e2, mu, intOf_int, ok, e3, ← hh4, jn, m7, mo, sb, ad1, ad2, bo, PM.sizeLine, Nat.reducePow, Nat.reduceLeDiff, ← hh5, sf, ap]
/-- names that are drawn -/
structure Nms (ys : List (List Nat)) : Prop where
  all : ∀ y ∈ ys, (∀ c ∈ y, c ∈ letters) ∧ 1 ≤ y.length ∧ y.length ≤ 7
  nd : ys.Nodup
theorem nms_of {sh fi : Int} {ys : List (List Nat)} (hl : ys.length ≤ 26) (hs : ∀ t y, ys[t]? = some y → NmAt sh fi t y) : Nms ys := by
  refine ⟨fun y hy => ?_, ?_⟩
  · obtain ⟨t, ht⟩ := List.getElem?_of_mem hy
    have := hs t y ht
    exact ⟨this.all, this.one, this.few⟩
  · rw [List.Nodup, List.pairwise_iff_getElem]
    intro a b ha hb hab
    exact NmAt.ne (by omega) (by omega) (by omega) (hs a _ (List.getElem?_eq_getElem ha)) (hs b _ (List.getElem?_eq_getElem hb))
theorem names (hd : Drw P) (d15 : P.df 15 = some ⟨2, 2, b__law_pick⟩) (d16 : P.df 16 = some ⟨2, 10, b__law_names⟩) {k : Nat} {h : Hh} {s p many : Nat} {xs : List Int} {i g sd c : Int} (S : St h s p xs i g sd c) (hm : many ≤ 26) :
    ∃ (ys : List (List Nat)) (h' : Hh) (i' g' c' : Int), calls P (k + 4) 16 [.loc s, .int many] h = .ok (.loc h.length) h' ∧ h'[h.length]? = some (.lst (ys.map T)) ∧ ys.length = many ∧ Nms ys ∧ Fr [s] h h' ∧ St h' s p xs i' g' sd c' := by
  obtain ⟨sh, i1, g1, c1, h1, a0, a1, e1, fr1, S1, l1⟩ := take hd (k := k + 1) (z := 26) S (by decide) (by decide)
  obtain ⟨fi, i2, g2, c2, h2, b0, b1, e2, fr2, S2, l2⟩ := take hd (k := k + 1) (z := 2) S1 (by decide) (by decide)
  have hs : s < h.length := at_lt S.st
  have hp : p < h.length := at_lt S.sc
  have hl2 : h2.length = h.length := l2.trans l1
  obtain ⟨n', h', e3, iv⟩ := forGo_invN (f := forF (P.ct (calls P (k + 3))) (.nm 6) b__law_names_2) (ok := Src.still ⟨rangeD 0 many, []⟩) (its := rangeD 0 many)
    (fun j n hp => ∃ (x6 x7 x8 x9 : Option D) (i g c : Int) (ys : List (List Nat)), n = ⟨[some (.loc s), some (.int many), some (T letters), some (.int sh), some (.int fi), some (.loc h.length), x6, x7, x8, x9], none⟩ ∧ St hp s p xs i g sd c ∧ hp[h.length]? = some (.lst (ys.map T)) ∧ ys.length = j ∧ j ≤ many ∧ Fr [s] h hp ∧ ∀ t y, ys[t]? = some y → NmAt sh fi t y) (fun _ _ _ _ => still_none) (fun j x hx n hp iv => by
      obtain ⟨x6, x7, x8, x9, i, g, c, ys, rfl, S, hM, hl, hj, fr, all⟩ := iv
      obtain ⟨hj6, rfl⟩ := rangeD_get hx
      obtain ⟨y, y7, y8, y9, h', i', g', c', er, ny, fr', hM', S'⟩ := names_turn hd d15 (k := k) (t := j) (x1 := some (.int many)) (x7 := x7) (x8 := x8) (x9 := x9) S hM (by omega) (by omega) (by simp; omega) a0 a1 b0 b1 (by omega)
      refine ⟨_, h', ?_, some (.int j), y7, y8, y9, i', g', c', ys ++ [y], rfl, S', by simpa using hM', by simp [hl], by omega, ?_, fun t z hz => ?_⟩
      · rw [forF_nm]
        simp only [setS, List.set_cons_zero, List.set_cons_succ, Int.zero_add]
        exact er
      · refine ⟨Nat.le_trans fr.1 fr'.1, fun q hq hn => ?_⟩
        have q1 : q ≠ s := by simpa using hn
        rw [fr'.2 q (Nat.lt_of_lt_of_le hq fr.1) (by simp; omega), fr.2 q hq hn]
      · by_cases hz' : t < ys.length
        · rw [List.getElem?_append_left hz'] at hz
          exact all t z hz
        · have : t < (ys ++ [y]).length := (List.getElem?_eq_some_iff.mp hz).1
          have e : t = ys.length := by simp at this; omega
          subst e
          simp at hz
          subst hz
          rw [hl]
          exact ny)
    ⟨[some (.loc s), some (.int many), some (T letters), some (.int sh), some (.int fi), some (.loc h.length), none, none, none, none], none⟩ (h2 ++ [.lst []]) ⟨none, none, none, none, i2, g2, c2, [], rfl, S2.app _, by rw [← hl2]; simp, rfl, Nat.zero_le _, (fr1.trans fr2).trans Fr.app, fun t y e => by simp at e⟩
  obtain ⟨x6, x7, x8, x9, i, g, c, ys, rfl, S3, hM, hl, hj, fr, all⟩ := iv
  have hlen : (rangeD 0 many).length = many := by simp [rangeD]
  rw [hlen] at hl
  refine ⟨ys, h', i, g, c, ?_, hM, hl, nms_of (by omega) all, fr, S3⟩
  have ok : okR (many : Int) = true := by
    unfold okR
    simp only [Bool.and_eq_true, decide_eq_true_eq]
    omega
  rw [calls_df d16]
  unfold runDf b__law_names
  simp only [↓ev_lc, List.length_cons, List.length_nil, Nat.zero_add, Nat.reduceAdd, Nat.reduceSub, if_true, if_false, List.map_cons, List.map_nil, List.replicate_succ, List.replicate_zero, List.cons_append, List.nil_append, exs_nil, exs_cons, seqR_nx, seqR_rt, seqR_th, ex_ass, ex_asA, ex_asS, ex_exp, ex_ret, ex_rtN, ex_brk, ex_cnt, ex_pas, ex_ite, iteB_t, iteB_f, ex_for, forR_ok, ex_rai, raiR_s, ex_try, forF_nm, inS_ok, inSs_ok, unS_ok, ev, evs, bind_ok, opt_some, getS, setS, En.free, List.getElem?_cons_zero, List.getElem?_cons_succ, Option.bind_some, id_eq, List.set_cons_zero, List.set_cons_succ, Option.isSome_none, Bool.false_and, Bool.false_eq_true, add_int, sub_int, int_int, eq_int, ne_int, lt_int, le_int, gt_int, ge_int, ne_bl, is_non, isnot_non, len_tup, ct_call, abs_int, tru_b, truth, decide_true, decide_false, reduceCtorEq, R.calm, e_ltrs, e1, e2, evIt, intOf_int, ok, Int.toNat_natCast, PM.sizeLine, Nat.reducePow, Nat.zero_le, hl2, e3]
end
end PM
set_option Elab.async false
set_option linter.all false
set_option maxRecDepth 100000
set_option maxHeartbeats 4000000
/-! PL4: is_name; _law_same. -/
namespace PM
open PySem
def b_is_name_1 : Ss := (.cons (.ite (.cmp .NotIn (.var 1) (.cst (.str ("abcdefghijklmnopqrstuvwxyz" : Str)))) (.cons (.ret (.bl false)) .nil) .nil) .nil)
def b_is_name : Ss := (.cons (.ite (.or (.not (.isi (.var 0) [.str])) (.not (.chn .LtE .LtE (.int 1) (.blt .len (.cons (.var 0) .nil)) (.int 8)))) (.cons (.ret (.bl false)) .nil) .nil) (.cons (.for (.nm 1) (.val (.var 0)) b_is_name_1) (.cons (.ret (.bl true)) .nil)))
def b__law_is_name_1 : Ss := (.cons (.ite (.cmp .NotIn (.var 1) (.str ("abcdefghijklmnopqrstuvwxyz" : Str))) (.cons (.ret (.bl false)) .nil) .nil) .nil)
def b__law_is_name : Ss := (.cons (.ite (.or (.not (.isi (.var 0) [.str])) (.not (.chn .LtE .LtE (.int 1) (.blt .len (.cons (.var 0) .nil)) (.int 8)))) (.cons (.ret (.bl false)) .nil) .nil) (.cons (.for (.nm 1) (.val (.var 0)) b__law_is_name_1) (.cons (.ret (.bl true)) .nil)))
def b__law_same_1 : E := (.call 6 (.cons (.sub (.var 0) (.var 2)) (.cons (.sub (.var 1) (.var 2)) .nil)))
def b__law_same : Ss := (.cons (.ite (.isi (.var 1) [.tuple]) (.cons (.ite (.or (.not (.isi (.var 0) [.tuple])) (.cmp .NotEq (.blt .len (.cons (.var 0) .nil)) (.blt .len (.cons (.var 1) .nil)))) (.cons (.ret (.bl false)) .nil) .nil) (.cons (.ret (.cmp .NotIn (.bl false) (.lc [2] (.nm 2) (.rng1 (.blt .len (.cons (.var 1) .nil))) .nil b__law_same_1))) .nil)) .nil) (.cons (.ite (.cmp .Is (.var 1) .non) (.cons (.ret (.cmp .Is (.var 0) .non)) .nil) .nil) (.cons (.ite (.isi (.var 1) [.str]) (.cons (.ret (.and (.isi (.var 0) [.str]) (.cmp .Eq (.var 0) (.var 1)))) .nil) .nil) (.cons (.ret (.and (.isi (.var 0) [.int]) (.and (.not (.isi (.var 0) [.bool])) (.cmp .Eq (.var 0) (.var 1))))) .nil))))
/-- a name -/
def isNm (l : List Nat) : Bool := decide (1 ≤ l.length) && decide (l.length ≤ 8) && l.all fun c => decide (c ∈ letters)
def badSign : D → Bool
  | .str x => match x.cps.toList with
    | [c] => !decide (c ∈ letters)
    | _ => true
  | _ => true
theorem signs_T (l : List Nat) : signs ⟨l.toArray⟩ = l.map fun c => T [c] := by simp [signs, T]
theorem bad_any (l : List Nat) : (l.map fun c => T [c]).any badSign = !l.all fun c => decide (c ∈ letters) := by
  induction l with
  | nil => rfl
  | cons c l ih => rw [List.map_cons, List.any_cons, ih, List.all_cons, Bool.not_and]; rfl
theorem in_ltrs {h : Hh} {c : Nat} : inop h (T [c]) (T letters) = some (decide (c ∈ letters)) := rfl
section
variable {P : Pg} {k : Nat} {h : Hh}
theorem is_name_T (d10 : P.df 10 = some ⟨1, 2, b_is_name⟩) {l : List Nat} (hl : l.length ≤ sizeLine) : calls P (k + 1) 10 [T l] h = .ok (.bl (isNm l)) h := by
  rw [calls_df d10]
  unfold runDf b_is_name
  have ln : blt .len [T l] h = .ok (.int l.length) h := by rw [len_str (by rw [T_len]; exact hl), T_len]
  have ty : ∀ C, isTy C h (T l) .str = some true := fun _ => rfl
  have sr : srcOf (T l) h = .ok ⟨l.map fun c => T [c], []⟩ h := by simp only [srcOf, T_len, hl, if_true, signs_T]
  obtain ⟨g1, g2⟩ := forGo_any (f := forF (P.ct (calls P k)) (.nm 1) b_is_name_1) (ok := Src.still ⟨l.map fun c => T [c], []⟩) (h := h) (d := .bl false) still_none (fun n => ∃ x, n = ⟨[some (T l), x], none⟩) badSign (its := l.map fun c => T [c]) (fun x hx n i => by
    obtain ⟨y, rfl⟩ := i
    obtain ⟨c, _, rfl⟩ := List.mem_map.mp hx
    have ni := fun C hb => notin_of (C := C) (hb := hb) (h := h) (in_ltrs (c := c))
    unfold b_is_name_1
    refine ⟨fun e => ?_, fun e => ⟨⟨[some (T l), some (T [c])], none⟩, ?_, _, rfl⟩⟩
    · have e' : (!decide (c ∈ letters)) = true := e
      simp only [↓ev_lc, List.length_cons, List.length_nil, Nat.zero_add, Nat.reduceAdd, Nat.reduceSub, if_true, if_false, List.map_cons, List.map_nil, List.replicate_succ, List.replicate_zero, List.cons_append, List.nil_append, exs_nil, exs_cons, seqR_nx, seqR_rt, seqR_th, ex_ass, ex_asA, ex_asS, ex_exp, ex_ret, ex_rtN, ex_brk, ex_cnt, ex_pas, ex_ite, iteB_t, iteB_f, ex_for, forR_ok, ex_rai, raiR_s, ex_try, forF_nm, inS_ok, inSs_ok, unS_ok, ev, evs, bind_ok, opt_some, getS, setS, En.free, List.getElem?_cons_zero, List.getElem?_cons_succ, Option.bind_some, id_eq, List.set_cons_zero, List.set_cons_succ, Option.isSome_none, Bool.false_and, Bool.false_eq_true, add_int, sub_int, int_int, eq_int, ne_int, lt_int, le_int, gt_int, ge_int, ne_bl, is_non, isnot_non, len_tup, ct_call, abs_int, tru_b, truth, decide_true, decide_false, reduceCtorEq, R.calm, e_ltrs, ni, e']
    · have e' : (!decide (c ∈ letters)) = false := e
      simp only [↓ev_lc, List.length_cons, List.length_nil, Nat.zero_add, Nat.reduceAdd, Nat.reduceSub, if_true, if_false, List.map_cons, List.map_nil, List.replicate_succ, List.replicate_zero, List.cons_append, List.nil_append, exs_nil, exs_cons, seqR_nx, seqR_rt, seqR_th, ex_ass, ex_asA, ex_asS, ex_exp, ex_ret, ex_rtN, ex_brk, ex_cnt, ex_pas, ex_ite, iteB_t, iteB_f, ex_for, forR_ok, ex_rai, raiR_s, ex_try, forF_nm, inS_ok, inSs_ok, unS_ok, ev, evs, bind_ok, opt_some, getS, setS, En.free, List.getElem?_cons_zero, List.getElem?_cons_succ, Option.bind_some, id_eq, List.set_cons_zero, List.set_cons_succ, Option.isSome_none, Bool.false_and, Bool.false_eq_true, add_int, sub_int, int_int, eq_int, ne_int, lt_int, le_int, gt_int, ge_int, ne_bl, is_non, isnot_non, len_tup, ct_call, abs_int, tru_b, truth, decide_true, decide_false, reduceCtorEq, R.calm, e_ltrs, ni, e']) ⟨[some (T l), none], none⟩ ⟨none, rfl⟩
  rw [bad_any] at g1 g2
  unfold isNm
  by_cases h1 : 1 ≤ l.length
  · have h1' : (1 : Int) ≤ (l.length : Nat) := by omega
    by_cases h8 : l.length ≤ 8
    · have h8' : ((l.length : Nat) : Int) ≤ 8 := by omega
      cases ha : l.all fun c => decide (c ∈ letters) with
      | true =>
        obtain ⟨n', e1, x, rfl⟩ := g2 (by rw [ha]; rfl)
        simp only [↓ev_lc, List.length_cons, List.length_nil, Nat.zero_add, Nat.reduceAdd, Nat.reduceSub, if_true, if_false, List.map_cons, List.map_nil, List.replicate_succ, List.replicate_zero, List.cons_append, List.nil_append, exs_nil, exs_cons, seqR_nx, seqR_rt, seqR_th, ex_ass, ex_asA, ex_asS, ex_exp, ex_ret, ex_rtN, ex_brk, ex_cnt, ex_pas, ex_ite, iteB_t, iteB_f, ex_for, forR_ok, ex_rai, raiR_s, ex_try, forF_nm, inS_ok, inSs_ok, unS_ok, ev, evs, bind_ok, opt_some, getS, setS, En.free, List.getElem?_cons_zero, List.getElem?_cons_succ, Option.bind_some, id_eq, List.set_cons_zero, List.set_cons_succ, Option.isSome_none, Bool.false_and, Bool.false_eq_true, add_int, sub_int, int_int, eq_int, ne_int, lt_int, le_int, gt_int, ge_int, ne_bl, is_non, isnot_non, len_tup, ct_call, abs_int, tru_b, truth, decide_true, decide_false, reduceCtorEq, R.calm, ty, Bool.not_true, ln, le_int', h1', h1, h8', h8, evIt, sr, e1, Bool.true_and, Bool.and_true]
      | false =>
        have e1 := g1 (by rw [ha]; rfl)
        simp only [↓ev_lc, List.length_cons, List.length_nil, Nat.zero_add, Nat.reduceAdd, Nat.reduceSub, if_true, if_false, List.map_cons, List.map_nil, List.replicate_succ, List.replicate_zero, List.cons_append, List.nil_append, exs_nil, exs_cons, seqR_nx, seqR_rt, seqR_th, ex_ass, ex_asA, ex_asS, ex_exp, ex_ret, ex_rtN, ex_brk, ex_cnt, ex_pas, ex_ite, iteB_t, iteB_f, ex_for, forR_ok, ex_rai, raiR_s, ex_try, forF_nm, inS_ok, inSs_ok, unS_ok, ev, evs, bind_ok, opt_some, getS, setS, En.free, List.getElem?_cons_zero, List.getElem?_cons_succ, Option.bind_some, id_eq, List.set_cons_zero, List.set_cons_succ, Option.isSome_none, Bool.false_and, Bool.false_eq_true, add_int, sub_int, int_int, eq_int, ne_int, lt_int, le_int, gt_int, ge_int, ne_bl, is_non, isnot_non, len_tup, ct_call, abs_int, tru_b, truth, decide_true, decide_false, reduceCtorEq, R.calm, ty, Bool.not_true, ln, le_int', h1', h1, h8', h8, evIt, sr, e1, Bool.true_and, Bool.and_true, Bool.and_false]
    · have h8' : ¬ ((l.length : Nat) : Int) ≤ 8 := by omega
      simp only [↓ev_lc, List.length_cons, List.length_nil, Nat.zero_add, Nat.reduceAdd, Nat.reduceSub, if_true, if_false, List.map_cons, List.map_nil, List.replicate_succ, List.replicate_zero, List.cons_append, List.nil_append, exs_nil, exs_cons, seqR_nx, seqR_rt, seqR_th, ex_ass, ex_asA, ex_asS, ex_exp, ex_ret, ex_rtN, ex_brk, ex_cnt, ex_pas, ex_ite, iteB_t, iteB_f, ex_for, forR_ok, ex_rai, raiR_s, ex_try, forF_nm, inS_ok, inSs_ok, unS_ok, ev, evs, bind_ok, opt_some, getS, setS, En.free, List.getElem?_cons_zero, List.getElem?_cons_succ, Option.bind_some, id_eq, List.set_cons_zero, List.set_cons_succ, Option.isSome_none, Bool.false_and, Bool.false_eq_true, add_int, sub_int, int_int, eq_int, ne_int, lt_int, le_int, gt_int, ge_int, ne_bl, is_non, isnot_non, len_tup, ct_call, abs_int, tru_b, truth, decide_true, decide_false, reduceCtorEq, R.calm, ty, Bool.not_true, Bool.not_false, ln, le_int', h1', h1, h8', h8, Bool.true_and, Bool.false_and, Bool.and_false]
  · have h1' : ¬ (1 : Int) ≤ (l.length : Nat) := by omega
    simp only [↓ev_lc, List.length_cons, List.length_nil, Nat.zero_add, Nat.reduceAdd, Nat.reduceSub, if_true, if_false, List.map_cons, List.map_nil, List.replicate_succ, List.replicate_zero, List.cons_append, List.nil_append, exs_nil, exs_cons, seqR_nx, seqR_rt, seqR_th, ex_ass, ex_asA, ex_asS, ex_exp, ex_ret, ex_rtN, ex_brk, ex_cnt, ex_pas, ex_ite, iteB_t, iteB_f, ex_for, forR_ok, ex_rai, raiR_s, ex_try, forF_nm, inS_ok, inSs_ok, unS_ok, ev, evs, bind_ok, opt_some, getS, setS, En.free, List.getElem?_cons_zero, List.getElem?_cons_succ, Option.bind_some, id_eq, List.set_cons_zero, List.set_cons_succ, Option.isSome_none, Bool.false_and, Bool.false_eq_true, add_int, sub_int, int_int, eq_int, ne_int, lt_int, le_int, gt_int, ge_int, ne_bl, is_non, isnot_non, len_tup, ct_call, abs_int, tru_b, truth, decide_true, decide_false, reduceCtorEq, R.calm, ty, Bool.not_true, Bool.not_false, ln, le_int', h1', h1, Bool.true_and, Bool.false_and, Bool.and_false]
theorem law_is_name_T (d17 : P.df 17 = some ⟨1, 2, b__law_is_name⟩) {l : List Nat} (hl : l.length ≤ sizeLine) : calls P (k + 1) 17 [T l] h = .ok (.bl (isNm l)) h := by
  rw [calls_df d17]
  unfold runDf b__law_is_name
  have ln : blt .len [T l] h = .ok (.int l.length) h := by rw [len_str (by rw [T_len]; exact hl), T_len]
  have ty : ∀ C, isTy C h (T l) .str = some true := fun _ => rfl
  have sr : srcOf (T l) h = .ok ⟨l.map fun c => T [c], []⟩ h := by simp only [srcOf, T_len, hl, if_true, signs_T]
  obtain ⟨g1, g2⟩ := forGo_any (f := forF (P.ct (calls P k)) (.nm 1) b__law_is_name_1) (ok := Src.still ⟨l.map fun c => T [c], []⟩) (h := h) (d := .bl false) still_none (fun n => ∃ x, n = ⟨[some (T l), x], none⟩) badSign (its := l.map fun c => T [c]) (fun x hx n i => by
    obtain ⟨y, rfl⟩ := i
    obtain ⟨c, _, rfl⟩ := List.mem_map.mp hx
    have ni := fun C hb => notin_of (C := C) (hb := hb) (h := h) (in_ltrs (c := c))
    unfold b__law_is_name_1
    refine ⟨fun e => ?_, fun e => ⟨⟨[some (T l), some (T [c])], none⟩, ?_, _, rfl⟩⟩
    · have e' : (!decide (c ∈ letters)) = true := e
      simp only [↓ev_lc, List.length_cons, List.length_nil, Nat.zero_add, Nat.reduceAdd, Nat.reduceSub, if_true, if_false, List.map_cons, List.map_nil, List.replicate_succ, List.replicate_zero, List.cons_append, List.nil_append, exs_nil, exs_cons, seqR_nx, seqR_rt, seqR_th, ex_ass, ex_asA, ex_asS, ex_exp, ex_ret, ex_rtN, ex_brk, ex_cnt, ex_pas, ex_ite, iteB_t, iteB_f, ex_for, forR_ok, ex_rai, raiR_s, ex_try, forF_nm, inS_ok, inSs_ok, unS_ok, ev, evs, bind_ok, opt_some, getS, setS, En.free, List.getElem?_cons_zero, List.getElem?_cons_succ, Option.bind_some, id_eq, List.set_cons_zero, List.set_cons_succ, Option.isSome_none, Bool.false_and, Bool.false_eq_true, add_int, sub_int, int_int, eq_int, ne_int, lt_int, le_int, gt_int, ge_int, ne_bl, is_non, isnot_non, len_tup, ct_call, abs_int, tru_b, truth, decide_true, decide_false, reduceCtorEq, R.calm, e_ltrs, ni, e']
    · have e' : (!decide (c ∈ letters)) = false := e
      simp only [↓ev_lc, List.length_cons, List.length_nil, Nat.zero_add, Nat.reduceAdd, Nat.reduceSub, if_true, if_false, List.map_cons, List.map_nil, List.replicate_succ, List.replicate_zero, List.cons_append, List.nil_append, exs_nil, exs_cons, seqR_nx, seqR_rt, seqR_th, ex_ass, ex_asA, ex_asS, ex_exp, ex_ret, ex_rtN, ex_brk, ex_cnt, ex_pas, ex_ite, iteB_t, iteB_f, ex_for, forR_ok, ex_rai, raiR_s, ex_try, forF_nm, inS_ok, inSs_ok, unS_ok, ev, evs, bind_ok, opt_some, getS, setS, En.free, List.getElem?_cons_zero, List.getElem?_cons_succ, Option.bind_some, id_eq, List.set_cons_zero, List.set_cons_succ, Option.isSome_none, Bool.false_and, Bool.false_eq_true, add_int, sub_int, int_int, eq_int, ne_int, lt_int, le_int, gt_int, ge_int, ne_bl, is_non, isnot_non, len_tup, ct_call, abs_int, tru_b, truth, decide_true, decide_false, reduceCtorEq, R.calm, e_ltrs, ni, e']) ⟨[some (T l), none], none⟩ ⟨none, rfl⟩
  rw [bad_any] at g1 g2
  unfold isNm
  by_cases h1 : 1 ≤ l.length
  · have h1' : (1 : Int) ≤ (l.length : Nat) := by omega
    by_cases h8 : l.length ≤ 8
    · have h8' : ((l.length : Nat) : Int) ≤ 8 := by omega
      cases ha : l.all fun c => decide (c ∈ letters) with
      | true =>
        obtain ⟨n', e1, x, rfl⟩ := g2 (by rw [ha]; rfl)
        simp only [↓ev_lc, List.length_cons, List.length_nil, Nat.zero_add, Nat.reduceAdd, Nat.reduceSub, if_true, if_false, List.map_cons, List.map_nil, List.replicate_succ, List.replicate_zero, List.cons_append, List.nil_append, exs_nil, exs_cons, seqR_nx, seqR_rt, seqR_th, ex_ass, ex_asA, ex_asS, ex_exp, ex_ret, ex_rtN, ex_brk, ex_cnt, ex_pas, ex_ite, iteB_t, iteB_f, ex_for, forR_ok, ex_rai, raiR_s, ex_try, forF_nm, inS_ok, inSs_ok, unS_ok, ev, evs, bind_ok, opt_some, getS, setS, En.free, List.getElem?_cons_zero, List.getElem?_cons_succ, Option.bind_some, id_eq, List.set_cons_zero, List.set_cons_succ, Option.isSome_none, Bool.false_and, Bool.false_eq_true, add_int, sub_int, int_int, eq_int, ne_int, lt_int, le_int, gt_int, ge_int, ne_bl, is_non, isnot_non, len_tup, ct_call, abs_int, tru_b, truth, decide_true, decide_false, reduceCtorEq, R.calm, ty, Bool.not_true, ln, le_int', h1', h1, h8', h8, evIt, sr, e1, Bool.true_and, Bool.and_true]
      | false =>
        have e1 := g1 (by rw [ha]; rfl)
        simp only [↓ev_lc, List.length_cons, List.length_nil, Nat.zero_add, Nat.reduceAdd, Nat.reduceSub, if_true, if_false, List.map_cons, List.map_nil, List.replicate_succ, List.replicate_zero, List.cons_append, List.nil_append, exs_nil, exs_cons, seqR_nx, seqR_rt, seqR_th, ex_ass, ex_asA, ex_asS, ex_exp, ex_ret, ex_rtN, ex_brk, ex_cnt, ex_pas, ex_ite, iteB_t, iteB_f, ex_for, forR_ok, ex_rai, raiR_s, ex_try, forF_nm, inS_ok, inSs_ok, unS_ok, ev, evs, bind_ok, opt_some, getS, setS, En.free, List.getElem?_cons_zero, List.getElem?_cons_succ, Option.bind_some, id_eq, List.set_cons_zero, List.set_cons_succ, Option.isSome_none, Bool.false_and, Bool.false_eq_true, add_int, sub_int, int_int, eq_int, ne_int, lt_int, le_int, gt_int, ge_int, ne_bl, is_non, isnot_non, len_tup, ct_call, abs_int, tru_b, truth, decide_true, decide_false, reduceCtorEq, R.calm, ty, Bool.not_true, ln, le_int', h1', h1, h8', h8, evIt, sr, e1, Bool.true_and, Bool.and_true, Bool.and_false]
    · have h8' : ¬ ((l.length : Nat) : Int) ≤ 8 := by omega
      simp only [↓ev_lc, List.length_cons, List.length_nil, Nat.zero_add, Nat.reduceAdd, Nat.reduceSub, if_true, if_false, List.map_cons, List.map_nil, List.replicate_succ, List.replicate_zero, List.cons_append, List.nil_append, exs_nil, exs_cons, seqR_nx, seqR_rt, seqR_th, ex_ass, ex_asA, ex_asS, ex_exp, ex_ret, ex_rtN, ex_brk, ex_cnt, ex_pas, ex_ite, iteB_t, iteB_f, ex_for, forR_ok, ex_rai, raiR_s, ex_try, forF_nm, inS_ok, inSs_ok, unS_ok, ev, evs, bind_ok, opt_some, getS, setS, En.free, List.getElem?_cons_zero, List.getElem?_cons_succ, Option.bind_some, id_eq, List.set_cons_zero, List.set_cons_succ, Option.isSome_none, Bool.false_and, Bool.false_eq_true, add_int, sub_int, int_int, eq_int, ne_int, lt_int, le_int, gt_int, ge_int, ne_bl, is_non, isnot_non, len_tup, ct_call, abs_int, tru_b, truth, decide_true, decide_false, reduceCtorEq, R.calm, ty, Bool.not_true, Bool.not_false, ln, le_int', h1', h1, h8', h8, Bool.true_and, Bool.false_and, Bool.and_false]
  · have h1' : ¬ (1 : Int) ≤ (l.length : Nat) := by omega
    simp only [↓ev_lc, List.length_cons, List.length_nil, Nat.zero_add, Nat.reduceAdd, Nat.reduceSub, if_true, if_false, List.map_cons, List.map_nil, List.replicate_succ, List.replicate_zero, List.cons_append, List.nil_append, exs_nil, exs_cons, seqR_nx, seqR_rt, seqR_th, ex_ass, ex_asA, ex_asS, ex_exp, ex_ret, ex_rtN, ex_brk, ex_cnt, ex_pas, ex_ite, iteB_t, iteB_f, ex_for, forR_ok, ex_rai, raiR_s, ex_try, forF_nm, inS_ok, inSs_ok, unS_ok, ev, evs, bind_ok, opt_some, getS, setS, En.free, List.getElem?_cons_zero, List.getElem?_cons_succ, Option.bind_some, id_eq, List.set_cons_zero, List.set_cons_succ, Option.isSome_none, Bool.false_and, Bool.false_eq_true, add_int, sub_int, int_int, eq_int, ne_int, lt_int, le_int, gt_int, ge_int, ne_bl, is_non, isnot_non, len_tup, ct_call, abs_int, tru_b, truth, decide_true, decide_false, reduceCtorEq, R.calm, ty, Bool.not_true, Bool.not_false, ln, le_int', h1', h1, Bool.true_and, Bool.false_and, Bool.and_false]
end
mutual
/-- None, integers, texts, tuples of such -/
def D.nice : D → Bool
  | .non => true
  | .int _ => true
  | .str x => D.flat (.str x)
  | .tup xs => decide (xs.length ≤ 100000) && D.nices xs
  | _ => false
def D.nices : List D → Bool
  | [] => true
  | x :: xs => D.nice x && D.nices xs
end
theorem nices_mem : ∀ {xs : List D} {x : D}, D.nices xs = true → x ∈ xs → D.nice x = true
  | y :: ys, x, h, hx => by
    simp only [D.nices, Bool.and_eq_true] at h
    rcases List.mem_cons.mp hx with rfl | hx
    · exact h.1
    · exact nices_mem h.2 hx
theorem deeps_mem : ∀ {xs : List D} {x : D}, x ∈ xs → D.deep x ≤ D.deeps xs
  | y :: ys, x, hx => by
    simp only [D.deeps]
    rcases List.mem_cons.mp hx with rfl | hx
    · exact Nat.le_max_left _ _
    · exact Nat.le_trans (deeps_mem hx) (Nat.le_max_right _ _)
theorem good_T' {x : Str} (h : D.flat (.str x) = true) : D.good (.str x) = true := by
  simp only [D.good, h, D.deep, Bool.true_and]
  rfl
theorem all_true {ds : List D} (h : ∀ d ∈ ds, d = .bl true) : ds.all D.good = true ∧ (ds.any fun y => D.eq y (.bl false)) = false := by
  induction ds with
  | nil => exact ⟨rfl, rfl⟩
  | cons d ds ih =>
    obtain ⟨h1, h2⟩ := ih fun z hz => h z (List.mem_cons_of_mem _ hz)
    have := h d List.mem_cons_self
    subst this
    exact ⟨by rw [List.all_cons, h1]; rfl, by rw [List.any_cons, h2]; rfl⟩
section
variable {P : Pg}
/-- _law_same of a thing with itself -/
theorem same_refl (d6 : P.df 6 = some ⟨2, 3, b__law_same⟩) : ∀ (n : Nat) (d : D) (k : Nat) (h : Hh), D.deep d ≤ n → D.nice d = true → ∃ h', calls P (k + n + 1) 6 [d, d] h = .ok (.bl true) h' ∧ Fr [] h h' := by
  intro n
  induction n with
  | zero =>
    intro d k h hn hd
    refine ⟨h, ?_, Fr.refl⟩
    rw [calls_df d6]
    unfold runDf b__law_same
    cases d with
    | non => simp only [↓ev_lc, List.length_cons, List.length_nil, Nat.zero_add, Nat.reduceAdd, Nat.reduceSub, if_true, if_false, List.map_cons, List.map_nil, List.replicate_succ, List.replicate_zero, List.cons_append, List.nil_append, exs_nil, exs_cons, seqR_nx, seqR_rt, seqR_th, ex_ass, ex_asA, ex_asS, ex_exp, ex_ret, ex_rtN, ex_brk, ex_cnt, ex_pas, ex_ite, iteB_t, iteB_f, ex_for, forR_ok, ex_rai, raiR_s, ex_try, forF_nm, inS_ok, inSs_ok, unS_ok, ev, evs, bind_ok, opt_some, getS, setS, En.free, List.getElem?_cons_zero, List.getElem?_cons_succ, Option.bind_some, id_eq, List.set_cons_zero, List.set_cons_succ, Option.isSome_none, Bool.false_and, Bool.false_eq_true, add_int, sub_int, int_int, eq_int, ne_int, lt_int, le_int, gt_int, ge_int, ne_bl, is_non, isnot_non, len_tup, ct_call, abs_int, tru_b, truth, decide_true, decide_false, reduceCtorEq, R.calm, isTy]
    | int i => simp only [↓ev_lc, List.length_cons, List.length_nil, Nat.zero_add, Nat.reduceAdd, Nat.reduceSub, if_true, if_false, List.map_cons, List.map_nil, List.replicate_succ, List.replicate_zero, List.cons_append, List.nil_append, exs_nil, exs_cons, seqR_nx, seqR_rt, seqR_th, ex_ass, ex_asA, ex_asS, ex_exp, ex_ret, ex_rtN, ex_brk, ex_cnt, ex_pas, ex_ite, iteB_t, iteB_f, ex_for, forR_ok, ex_rai, raiR_s, ex_try, forF_nm, inS_ok, inSs_ok, unS_ok, ev, evs, bind_ok, opt_some, getS, setS, En.free, List.getElem?_cons_zero, List.getElem?_cons_succ, Option.bind_some, id_eq, List.set_cons_zero, List.set_cons_succ, Option.isSome_none, Bool.false_and, Bool.false_eq_true, add_int, sub_int, int_int, eq_int, ne_int, lt_int, le_int, gt_int, ge_int, ne_bl, is_non, isnot_non, len_tup, ct_call, abs_int, tru_b, truth, decide_true, decide_false, reduceCtorEq, R.calm, isTy, Bool.not_false]
    | str x =>
      have e := fun C hb => eq_str (C := C) (hb := hb) (h := h) (good_T' hd) (good_T' hd)
      simp only [↓ev_lc, List.length_cons, List.length_nil, Nat.zero_add, Nat.reduceAdd, Nat.reduceSub, if_true, if_false, List.map_cons, List.map_nil, List.replicate_succ, List.replicate_zero, List.cons_append, List.nil_append, exs_nil, exs_cons, seqR_nx, seqR_rt, seqR_th, ex_ass, ex_asA, ex_asS, ex_exp, ex_ret, ex_rtN, ex_brk, ex_cnt, ex_pas, ex_ite, iteB_t, iteB_f, ex_for, forR_ok, ex_rai, raiR_s, ex_try, forF_nm, inS_ok, inSs_ok, unS_ok, ev, evs, bind_ok, opt_some, getS, setS, En.free, List.getElem?_cons_zero, List.getElem?_cons_succ, Option.bind_some, id_eq, List.set_cons_zero, List.set_cons_succ, Option.isSome_none, Bool.false_and, Bool.false_eq_true, add_int, sub_int, int_int, eq_int, ne_int, lt_int, le_int, gt_int, ge_int, ne_bl, is_non, isnot_non, len_tup, ct_call, abs_int, tru_b, truth, decide_true, decide_false, reduceCtorEq, R.calm, isTy, e]
    | tup xs => simp [D.deep] at hn
    | bl b => cases hd
    | loc m => cases hd
  | succ n ih =>
    intro d k h hn hd
    cases d with
    | non =>
      refine ⟨h, ?_, Fr.refl⟩
      rw [calls_df d6]
      unfold runDf b__law_same
      simp only [↓ev_lc, List.length_cons, List.length_nil, Nat.zero_add, Nat.reduceAdd, Nat.reduceSub, if_true, if_false, List.map_cons, List.map_nil, List.replicate_succ, List.replicate_zero, List.cons_append, List.nil_append, exs_nil, exs_cons, seqR_nx, seqR_rt, seqR_th, ex_ass, ex_asA, ex_asS, ex_exp, ex_ret, ex_rtN, ex_brk, ex_cnt, ex_pas, ex_ite, iteB_t, iteB_f, ex_for, forR_ok, ex_rai, raiR_s, ex_try, forF_nm, inS_ok, inSs_ok, unS_ok, ev, evs, bind_ok, opt_some, getS, setS, En.free, List.getElem?_cons_zero, List.getElem?_cons_succ, Option.bind_some, id_eq, List.set_cons_zero, List.set_cons_succ, Option.isSome_none, Bool.false_and, Bool.false_eq_true, add_int, sub_int, int_int, eq_int, ne_int, lt_int, le_int, gt_int, ge_int, ne_bl, is_non, isnot_non, len_tup, ct_call, abs_int, tru_b, truth, decide_true, decide_false, reduceCtorEq, R.calm, isTy]
    | int i =>
      refine ⟨h, ?_, Fr.refl⟩
      rw [calls_df d6]
      unfold runDf b__law_same
      simp only [↓ev_lc, List.length_cons, List.length_nil, Nat.zero_add, Nat.reduceAdd, Nat.reduceSub, if_true, if_false, List.map_cons, List.map_nil, List.replicate_succ, List.replicate_zero, List.cons_append, List.nil_append, exs_nil, exs_cons, seqR_nx, seqR_rt, seqR_th, ex_ass, ex_asA, ex_asS, ex_exp, ex_ret, ex_rtN, ex_brk, ex_cnt, ex_pas, ex_ite, iteB_t, iteB_f, ex_for, forR_ok, ex_rai, raiR_s, ex_try, forF_nm, inS_ok, inSs_ok, unS_ok, ev, evs, bind_ok, opt_some, getS, setS, En.free, List.getElem?_cons_zero, List.getElem?_cons_succ, Option.bind_some, id_eq, List.set_cons_zero, List.set_cons_succ, Option.isSome_none, Bool.false_and, Bool.false_eq_true, add_int, sub_int, int_int, eq_int, ne_int, lt_int, le_int, gt_int, ge_int, ne_bl, is_non, isnot_non, len_tup, ct_call, abs_int, tru_b, truth, decide_true, decide_false, reduceCtorEq, R.calm, isTy, Bool.not_false]
    | str x =>
      refine ⟨h, ?_, Fr.refl⟩
      rw [calls_df d6]
      unfold runDf b__law_same
      have e := fun C hb => eq_str (C := C) (hb := hb) (h := h) (good_T' hd) (good_T' hd)
      simp only [↓ev_lc, List.length_cons, List.length_nil, Nat.zero_add, Nat.reduceAdd, Nat.reduceSub, if_true, if_false, List.map_cons, List.map_nil, List.replicate_succ, List.replicate_zero, List.cons_append, List.nil_append, exs_nil, exs_cons, seqR_nx, seqR_rt, seqR_th, ex_ass, ex_asA, ex_asS, ex_exp, ex_ret, ex_rtN, ex_brk, ex_cnt, ex_pas, ex_ite, iteB_t, iteB_f, ex_for, forR_ok, ex_rai, raiR_s, ex_try, forF_nm, inS_ok, inSs_ok, unS_ok, ev, evs, bind_ok, opt_some, getS, setS, En.free, List.getElem?_cons_zero, List.getElem?_cons_succ, Option.bind_some, id_eq, List.set_cons_zero, List.set_cons_succ, Option.isSome_none, Bool.false_and, Bool.false_eq_true, add_int, sub_int, int_int, eq_int, ne_int, lt_int, le_int, gt_int, ge_int, ne_bl, is_non, isnot_non, len_tup, ct_call, abs_int, tru_b, truth, decide_true, decide_false, reduceCtorEq, R.calm, isTy, e]
    | bl b => cases hd
    | loc m => cases hd
    | tup xs =>
      simp only [D.nice, Bool.and_eq_true, decide_eq_true_eq] at hd
      simp only [D.deep] at hn
      have ok : okR (xs.length : Int) = true := by
        unfold okR
        simp only [Bool.and_eq_true, decide_eq_true_eq]
        omega
      obtain ⟨ds, h1, e1, fr1, _, all1⟩ := lcGo_inv (f := lcF (P.ct (calls P (k + (n + 1)))) ⟨[some (.tup xs), some (.tup xs), none], none⟩ [2] (.nm 2) .nil b__law_same_1) (ok := Src.still ⟨rangeD 0 xs.length, []⟩)
        (fun hp => Fr [] h hp) (fun _ _ => still_none) (fun d => d = .bl true) (its := rangeD 0 xs.length) (fun x hx hp fr => by
          obtain ⟨j, hj⟩ := List.getElem?_of_mem hx
          obtain ⟨hl, rfl⟩ := rangeD_get hj
          have hv : xs[j]? = some xs[j] := List.getElem?_eq_getElem hl
          obtain ⟨h', er, fr'⟩ := ih xs[j] k hp (Nat.le_trans (deeps_mem (List.getElem_mem hl)) (by omega)) (nices_mem hd.2 (List.getElem_mem hl))
          have s1 := sub_tup (h := hp) (xs := xs) (k := (j : Nat)) (d := xs[j]) (atI_nat (by omega) (by simpa using hv))
          have er' : calls P (k + (n + 1)) 6 [xs[j], xs[j]] hp = .ok (.bl true) h' := er
          refine ⟨.bl true, h', ?_, fr.trans fr', rfl⟩
          unfold lcF b__law_same_1
          simp only [↓ev_lc, List.length_cons, List.length_nil, Nat.zero_add, Nat.reduceAdd, Nat.reduceSub, if_true, if_false, List.map_cons, List.map_nil, List.replicate_succ, List.replicate_zero, List.cons_append, List.nil_append, exs_nil, exs_cons, seqR_nx, seqR_rt, seqR_th, ex_ass, ex_asA, ex_asS, ex_exp, ex_ret, ex_rtN, ex_brk, ex_cnt, ex_pas, ex_ite, iteB_t, iteB_f, ex_for, forR_ok, ex_rai, raiR_s, ex_try, forF_nm, inS_ok, inSs_ok, unS_ok, ev, evs, bind_ok, opt_some, getS, setS, En.free, List.getElem?_cons_zero, List.getElem?_cons_succ, Option.bind_some, id_eq, List.set_cons_zero, List.set_cons_succ, Option.isSome_none, Bool.false_and, Bool.false_eq_true, add_int, sub_int, int_int, eq_int, ne_int, lt_int, le_int, gt_int, ge_int, ne_bl, is_non, isnot_non, len_tup, ct_call, abs_int, tru_b, truth, decide_true, decide_false, reduceCtorEq, R.calm, putT, PM.wipe, tests, Int.zero_add, s1, er']) h Fr.refl
      obtain ⟨g1, g2⟩ := all_true all1
      have nin : inop (h1 ++ [.lst ds]) (.bl false) (.loc h1.length) = some false := by
        simp only [inop, last_get, good_bl, g1, Bool.and_self, if_true, g2]
      have ni := fun C hb => notin_of (C := C) (hb := hb) nin
      refine ⟨h1 ++ [.lst ds], ?_, fr1.trans Fr.app⟩
      rw [calls_df d6]
      unfold runDf b__law_same
      simp only [↓ev_lc, List.length_cons, List.length_nil, Nat.zero_add, Nat.reduceAdd, Nat.reduceSub, if_true, if_false, List.map_cons, List.map_nil, List.replicate_succ, List.replicate_zero, List.cons_append, List.nil_append, exs_nil, exs_cons, seqR_nx, seqR_rt, seqR_th, ex_ass, ex_asA, ex_asS, ex_exp, ex_ret, ex_rtN, ex_brk, ex_cnt, ex_pas, ex_ite, iteB_t, iteB_f, ex_for, forR_ok, ex_rai, raiR_s, ex_try, forF_nm, inS_ok, inSs_ok, unS_ok, ev, evs, bind_ok, opt_some, getS, setS, En.free, List.getElem?_cons_zero, List.getElem?_cons_succ, Option.bind_some, id_eq, List.set_cons_zero, List.set_cons_succ, Option.isSome_none, Bool.false_and, Bool.false_eq_true, add_int, sub_int, int_int, eq_int, ne_int, lt_int, le_int, gt_int, ge_int, ne_bl, is_non, isnot_non, len_tup, ct_call, abs_int, tru_b, truth, decide_true, decide_false, reduceCtorEq, R.calm, isTy, Bool.not_true, evIt, intOf_int, ok, Int.toNat_natCast, e1, ni, Bool.not_false]
end
end PM
set_option Elab.async false
set_option linter.all false
set_option maxRecDepth 100000
set_option maxHeartbeats 4000000
namespace K41
open PySem PM L2
def top (i : Nat) : Stmt := PySem.Challenge.pw_calledanew_k41_event_texts.main.body.getD i (.Pass ⟨0, 0, 0, 0⟩)
def clsBody : Stmt → List Stmt
  | .ClassDef _ _ _ b _ _ _ _ _ _ _ => b
  | _ => []
def meth (i j : Nat) : Stmt := (clsBody (top i)).getD j (.Pass ⟨0, 0, 0, 0⟩)
def G : Gt where
  fn := [("is_name", 10), ("all_names", 11), ("text_lines", 12), ("format_events", 13), ("parse_events", 14), ("_law_start", 3), ("_law_mixed", 4), ("_law_take", 5), ("_law_pick", 15), ("_law_names", 16), ("_law_same", 6), ("_law_is_name", 17), ("_law_line_event", 18), ("_law_due", 19), ("_law_drawn_events", 20), ("law", 9)]
  cl := []
  xc := [("CalledError", 0), ("InvalidText", 3)]
  fl := [("line", 3)]
  mt := [("__eq__", 0)]
  co := [("LETTERS", .str "abcdefghijklmnopqrstuvwxyz")]
  free := ["len", "abs", "int", "bool", "tuple", "list", "range", "isinstance", "str", "ValueError", "enumerate"]
  rz := [3]
def b_is_name_1 : Ss := (.cons (.ite (.cmp .NotIn (.var 1) (.cst (.str ("abcdefghijklmnopqrstuvwxyz" : Str)))) (.cons (.ret (.bl false)) .nil) .nil) .nil)
def b_is_name : Ss := (.cons (.ite (.or (.not (.isi (.var 0) [.str])) (.not (.chn .LtE .LtE (.int 1) (.blt .len (.cons (.var 0) .nil)) (.int 8)))) (.cons (.ret (.bl false)) .nil) .nil) (.cons (.for (.nm 1) (.val (.var 0)) b_is_name_1) (.cons (.ret (.bl true)) .nil)))
def d_is_name : Dd := ⟨10, ("is_name", none), "is_name", "is_name", top 5, ["value", "letter"], ["value"], b_is_name⟩
def b_all_names_1 : Es := (.cons (.not (.call 10 (.cons (.var 1) .nil))) .nil)
def b_all_names_2 : E := (.var 1)
def b_all_names : Ss := (.cons (.ret (.cmp .Eq (.blt .len (.cons (.lc [1] (.nm 1) (.val (.var 0)) b_all_names_1 b_all_names_2) .nil)) (.int 0))) .nil)
def d_all_names : Dd := ⟨11, ("all_names", none), "all_names", "all_names", top 7, ["items", "item"], ["items"], b_all_names⟩
def b_text_lines : Ss := (.cons (.ite (.not (.bmt .endswith (.var 0) (.cons (.str ("\n" : Str)) .nil))) (.cons (.rai 3 (.cons (.int 0) .nil)) .nil) .nil) (.cons (.ret (.shi (.bmt .split (.var 0) (.cons (.str ("\n" : Str)) .nil)) (.neg (.int 1)))) .nil))
def d_text_lines : Dd := ⟨12, ("text_lines", none), "text_lines", "text_lines", top 8, ["text"], ["text"], b_text_lines⟩
def b_format_events_1 : E := (.bin .Add (.bmt .join (.str (" " : Str)) (.cons (.blt .list (.cons (.var 1) .nil)) .nil)) (.str ("\n" : Str)))
def b_format_events : Ss := (.cons (.ret (.bmt .join (.str ("" : Str)) (.cons (.lc [1] (.nm 1) (.val (.var 0)) .nil b_format_events_1) .nil))) .nil)
def d_format_events : Dd := ⟨13, ("format_events", none), "format_events", "format_events", top 9, ["events", "event"], ["events"], b_format_events⟩
def b_parse_events_1 : Ss := (.cons (.ass 5 (.bmt .split (.var 4) (.cons (.str (" " : Str)) .nil))) (.cons (.ite (.or (.cmp .NotIn (.sub (.var 5) (.int 0)) (.var 2)) (.or (.cmp .NotEq (.blt .len (.cons (.var 5) .nil)) (.sub (.var 2) (.sub (.var 5) (.int 0)))) (.not (.call 11 (.cons (.slo (.var 5) (.int 1)) .nil))))) (.cons (.rai 3 (.cons (.bin .Add (.var 3) (.int 1)) .nil)) .nil) .nil) (.cons (.exp (.bmt .append (.var 1) (.cons (.blt .tuple (.cons (.var 5) .nil)) .nil))) .nil)))
def b_parse_events : Ss := (.cons (.ite (.cmp .Eq (.var 0) (.str ("" : Str))) (.cons (.ret (.lst .nil)) .nil) .nil) (.cons (.ass 1 (.lst .nil)) (.cons (.ass 2 (.dct (.cons (.str ("press" : Str)) (.cons (.int 2) (.cons (.str ("tick" : Str)) (.cons (.int 1) (.cons (.str ("hand" : Str)) (.cons (.int 3) .nil)))))))) (.cons (.for (.tp [3, 4]) (.enu (.call 12 (.cons (.var 0) .nil))) b_parse_events_1) (.cons (.ret (.var 1)) .nil)))))
def d_parse_events : Dd := ⟨14, ("parse_events", none), "parse_events", "parse_events", top 10, ["text", "events", "sizes", "place", "line", "items"], ["text"], b_parse_events⟩
def b__law_start_1 : Ss := (.cons (.ass 1 (.bin .Mod (.blt .int (.cons (.bin .Add (.bin .Mult (.var 1) (.int 31)) (.var 2)) .nil)) (.int 2147483629))) .nil)
def b__law_start : Ss := (.cons (.ass 1 (.int 17)) (.cons (.for (.nm 2) (.val (.shi (.var 0) (.int 63))) b__law_start_1) (.cons (.ret (.lst (.cons (.shi (.var 0) (.int 63)) (.cons (.int 0) (.cons (.int 0) (.cons (.var 1) (.cons (.int 0) .nil))))))) .nil)))
def d__law_start : Dd := ⟨3, ("_law_start", none), "_law_start", "_law_start", top 12, ["_law_script", "_law_seed", "_law_cell"], ["_law_script"], b__law_start⟩
def b__law_mixed : Ss := (.cons (.ass 3 (.bin .Mod (.blt .int (.cons (.bin .Add (.bin .Add (.bin .Mult (.var 0) (.int 69621)) (.bin .Mult (.var 1) (.int 48271))) (.int 7)) .nil)) (.int 2147483647))) (.cons (.ass 3 (.bin .Mod (.blt .int (.cons (.bin .Add (.bin .Mult (.var 3) (.bin .Add (.bin .FloorDiv (.var 3) (.int 1009)) (.int 40692))) (.var 1)) .nil)) (.int 2147483629))) (.cons (.ass 3 (.bin .Mod (.blt .int (.cons (.bin .Add (.bin .Mult (.var 3) (.bin .Add (.bin .FloorDiv (.var 3) (.int 2003)) (.int 16811))) (.int 11)) .nil)) (.int 2147483579))) (.cons (.ret (.bin .Mod (.blt .int (.cons (.bin .FloorDiv (.var 3) (.int 64)) .nil)) (.var 2))) .nil))))
def d__law_mixed : Dd := ⟨4, ("_law_mixed", none), "_law_mixed", "_law_mixed", top 13, ["_law_cell", "_law_count", "_law_size", "_law_number"], ["_law_cell", "_law_count", "_law_size"], b__law_mixed⟩
def b__law_take : Ss := (.cons (.asS (.var 0) (.int 4) (.bin .Add (.sub (.var 0) (.int 4)) (.int 1))) (.cons (.ite (.and (.cmp .Eq (.sub (.var 0) (.int 2)) (.int 0)) (.cmp .Lt (.sub (.var 0) (.int 1)) (.blt .len (.cons (.sub (.var 0) (.int 0)) .nil)))) (.cons (.ass 2 (.blt .abs (.cons (.blt .int (.cons (.sub (.sub (.var 0) (.int 0)) (.sub (.var 0) (.int 1))) .nil)) .nil))) (.cons (.asS (.var 0) (.int 1) (.bin .Add (.sub (.var 0) (.int 1)) (.int 1))) (.cons (.ite (.cmp .Lt (.var 2) (.bin .Pow (.int 10) (.int 18))) (.cons (.ret (.call 4 (.cons (.var 2) (.cons (.sub (.var 0) (.int 4)) (.cons (.var 1) .nil))))) .nil) .nil) (.cons (.asS (.var 0) (.int 2) (.bin .Mod (.blt .int (.cons (.var 2) .nil)) (.bin .Pow (.bin .Pow (.int 10) (.int 60)) (.int 10)))) .nil)))) .nil) (.cons (.ite (.cmp .Eq (.sub (.var 0) (.int 2)) (.int 0)) (.cons (.ret (.call 4 (.cons (.sub (.var 0) (.int 3)) (.cons (.sub (.var 0) (.int 4)) (.cons (.var 1) .nil))))) .nil) .nil) (.cons (.ass 3 (.bin .Mod (.blt .int (.cons (.sub (.var 0) (.int 2)) .nil)) (.var 1))) (.cons (.asS (.var 0) (.int 2) (.bin .FloorDiv (.sub (.var 0) (.int 2)) (.var 1))) (.cons (.ret (.var 3)) .nil))))))
def d__law_take : Dd := ⟨5, ("_law_take", none), "_law_take", "_law_take", top 14, ["_law_state", "_law_size", "_law_cell", "_law_digit"], ["_law_state", "_law_size"], b__law_take⟩
def b__law_pick : Ss := (.cons (.ret (.sub (.var 1) (.call 5 (.cons (.var 0) (.cons (.blt .len (.cons (.var 1) .nil)) .nil))))) .nil)
def d__law_pick : Dd := ⟨15, ("_law_pick", none), "_law_pick", "_law_pick", top 15, ["_law_state", "_law_names_here"], ["_law_state", "_law_names_here"], b__law_pick⟩
def b__law_names_1 : E := (.call 15 (.cons (.var 0) (.cons (.var 2) .nil)))
def b__law_names_2 : Ss := (.cons (.ass 7 (.bmt .join (.str ("" : Str)) (.cons (.lc [8] (.nm 8) (.rng1 (.bin .Mult (.call 5 (.cons (.var 0) (.cons (.int 4) .nil))) (.bin .Add (.int 1) (.call 5 (.cons (.var 0) (.cons (.int 2) .nil)))))) .nil b__law_names_1) .nil))) (.cons (.ass 9 (.sub (.var 2) (.bin .Mod (.bin .Add (.var 3) (.bin .Mult (.int 7) (.var 6))) (.int 26)))) (.cons (.exp (.bmt .append (.var 5) (.cons (.sub (.lst (.cons (.bin .Add (.var 9) (.var 7)) (.cons (.bin .Add (.var 7) (.var 9)) .nil))) (.var 4)) .nil))) .nil)))
def b__law_names : Ss := (.cons (.ass 2 (.str ("abcdefghijklmnopqrstuvwxyz" : Str))) (.cons (.ass 3 (.call 5 (.cons (.var 0) (.cons (.int 26) .nil)))) (.cons (.ass 4 (.call 5 (.cons (.var 0) (.cons (.int 2) .nil)))) (.cons (.ass 5 (.lst .nil)) (.cons (.for (.nm 6) (.rng1 (.var 1)) b__law_names_2) (.cons (.ret (.var 5)) .nil))))))
def d__law_names : Dd := ⟨16, ("_law_names", none), "_law_names", "_law_names", top 16, ["_law_state", "_law_many", "_law_letters", "_law_shift", "_law_first", "_law_names_here", "_law_k", "_law_text", "_law_j", "_law_own"], ["_law_state", "_law_many"], b__law_names⟩
def b__law_same_1 : E := (.call 6 (.cons (.sub (.var 0) (.var 2)) (.cons (.sub (.var 1) (.var 2)) .nil)))
def b__law_same : Ss := (.cons (.ite (.isi (.var 1) [.tuple]) (.cons (.ite (.or (.not (.isi (.var 0) [.tuple])) (.cmp .NotEq (.blt .len (.cons (.var 0) .nil)) (.blt .len (.cons (.var 1) .nil)))) (.cons (.ret (.bl false)) .nil) .nil) (.cons (.ret (.cmp .NotIn (.bl false) (.lc [2] (.nm 2) (.rng1 (.blt .len (.cons (.var 1) .nil))) .nil b__law_same_1))) .nil)) .nil) (.cons (.ite (.cmp .Is (.var 1) .non) (.cons (.ret (.cmp .Is (.var 0) .non)) .nil) .nil) (.cons (.ite (.isi (.var 1) [.str]) (.cons (.ret (.and (.isi (.var 0) [.str]) (.cmp .Eq (.var 0) (.var 1)))) .nil) .nil) (.cons (.ret (.and (.isi (.var 0) [.int]) (.and (.not (.isi (.var 0) [.bool])) (.cmp .Eq (.var 0) (.var 1))))) .nil))))
def d__law_same : Dd := ⟨6, ("_law_same", none), "_law_same", "_law_same", top 17, ["_law_told", "_law_due_here", "_law_k"], ["_law_told", "_law_due_here"], b__law_same⟩
def b__law_is_name_1 : Ss := (.cons (.ite (.cmp .NotIn (.var 1) (.str ("abcdefghijklmnopqrstuvwxyz" : Str))) (.cons (.ret (.bl false)) .nil) .nil) .nil)
def b__law_is_name : Ss := (.cons (.ite (.or (.not (.isi (.var 0) [.str])) (.not (.chn .LtE .LtE (.int 1) (.blt .len (.cons (.var 0) .nil)) (.int 8)))) (.cons (.ret (.bl false)) .nil) .nil) (.cons (.for (.nm 1) (.val (.var 0)) b__law_is_name_1) (.cons (.ret (.bl true)) .nil)))
def d__law_is_name : Dd := ⟨17, ("_law_is_name", none), "_law_is_name", "_law_is_name", top 18, ["_law_value", "_law_letter"], ["_law_value"], b__law_is_name⟩
def b__law_line_event_1 : Ss := (.cons (.ite (.not (.call 17 (.cons (.var 2) .nil))) (.cons (.ret .non) .nil) .nil) .nil)
def b__law_line_event : Ss := (.cons (.ass 1 (.bmt .split (.var 0) (.cons (.str (" " : Str)) .nil))) (.cons (.ite (.cmp .NotIn (.sub (.var 1) (.int 0)) (.tup (.cons (.str ("press" : Str)) (.cons (.str ("tick" : Str)) (.cons (.str ("hand" : Str)) .nil))))) (.cons (.ret .non) .nil) .nil) (.cons (.ite (.cmp .NotEq (.blt .len (.cons (.var 1) .nil)) (.sub (.dct (.cons (.str ("press" : Str)) (.cons (.int 2) (.cons (.str ("tick" : Str)) (.cons (.int 1) (.cons (.str ("hand" : Str)) (.cons (.int 3) .nil))))))) (.sub (.var 1) (.int 0)))) (.cons (.ret .non) .nil) .nil) (.cons (.for (.nm 2) (.val (.slo (.var 1) (.int 1))) b__law_line_event_1) (.cons (.ret (.blt .tuple (.cons (.var 1) .nil))) .nil)))))
def d__law_line_event : Dd := ⟨18, ("_law_line_event", none), "_law_line_event", "_law_line_event", top 19, ["_law_line", "_law_items", "_law_item"], ["_law_line"], b__law_line_event⟩
def b__law_due_1 : Ss := (.cons (.ass 4 (.call 18 (.cons (.sub (.var 2) (.var 3)) .nil))) (.cons (.ite (.cmp .Is (.var 4) .non) (.cons (.ret (.bin .Add (.var 3) (.int 1))) .nil) .nil) (.cons (.exp (.bmt .append (.var 1) (.cons (.var 4) .nil))) .nil)))
def b__law_due : Ss := (.cons (.ite (.cmp .Eq (.var 0) (.str ("" : Str))) (.cons (.ret (.lst .nil)) .nil) .nil) (.cons (.ite (.cmp .NotEq (.sub (.var 0) (.neg (.int 1))) (.str ("\n" : Str))) (.cons (.ret (.int 0)) .nil) .nil) (.cons (.ass 1 (.lst .nil)) (.cons (.ass 2 (.bmt .split (.shi (.var 0) (.neg (.int 1))) (.cons (.str ("\n" : Str)) .nil))) (.cons (.for (.nm 3) (.rng1 (.blt .len (.cons (.var 2) .nil))) b__law_due_1) (.cons (.ret (.var 1)) .nil))))))
def d__law_due : Dd := ⟨19, ("_law_due", none), "_law_due", "_law_due", top 20, ["_law_text", "_law_events", "_law_lines", "_law_k", "_law_event"], ["_law_text"], b__law_due⟩
def b__law_drawn_events_1 : Ss := (.cons (.ass 4 (.call 5 (.cons (.var 0) (.cons (.int 3) .nil)))) (.cons (.ass 5 (.call 15 (.cons (.var 0) (.cons (.var 1) .nil)))) (.cons (.ass 6 (.call 15 (.cons (.var 0) (.cons (.var 1) .nil)))) (.cons (.exp (.bmt .append (.var 2) (.cons (.sub (.lst (.cons (.tup (.cons (.str ("press" : Str)) (.cons (.var 5) .nil))) (.cons (.tup (.cons (.str ("tick" : Str)) .nil)) (.cons (.tup (.cons (.str ("hand" : Str)) (.cons (.var 5) (.cons (.var 6) .nil)))) .nil)))) (.var 4)) .nil))) .nil))))
def b__law_drawn_events : Ss := (.cons (.ass 1 (.bin .Add (.call 16 (.cons (.var 0) (.cons (.int 4) .nil))) (.lst (.cons (.str ("tick" : Str)) (.cons (.str ("press" : Str)) (.cons (.str ("hand" : Str)) .nil)))))) (.cons (.ass 2 (.lst .nil)) (.cons (.for (.nm 3) (.rng1 (.call 5 (.cons (.var 0) (.cons (.int 7) .nil)))) b__law_drawn_events_1) (.cons (.ret (.var 2)) .nil))))
def d__law_drawn_events : Dd := ⟨20, ("_law_drawn_events", none), "_law_drawn_events", "_law_drawn_events", top 21, ["_law_state", "_law_names_here", "_law_events", "_law_k", "_law_kind", "_law_one", "_law_two"], ["_law_state"], b__law_drawn_events⟩
def b_law_1 : E := (.bmt .join (.str (" " : Str)) (.cons (.blt .list (.cons (.var 4) .nil)) .nil))
def b_law_2 : E := (.bin .Add (.var 6) (.str ("\n" : Str)))
def b_law_3 : E := (.bin .Add (.var 6) (.str ("\n" : Str)))
def b_law_4 : Ss := (.cons (.ass 16 (.call 14 (.cons (.var 14) .nil))) .nil)
def b_law_5 : Hs := (.cons 3 (some 17) (.cons (.ass 16 (.ife (.exi 17 [(.own 0)]) (.exa 17 3) (.str ("none" : Str)))) .nil) .nil)
def b_law_6 : Ss := (.cons (.ass 9 (.call 5 (.cons (.var 1) (.cons (.int 7) .nil)))) (.cons (.ass 10 (.call 5 (.cons (.var 1) (.cons (.bin .Add (.blt .len (.cons (.var 3) .nil)) (.int 1)) .nil)))) (.cons (.ass 11 (.lst (.cons (.str ("tick a" : Str)) (.cons (.str ("press" : Str)) (.cons (.str ("press a b" : Str)) (.cons (.str ("hand a" : Str)) (.cons (.str ("hand a b c" : Str)) (.cons (.str ("" : Str)) (.cons (.str (" tick" : Str)) (.cons (.str ("tick " : Str)) (.cons (.str ("Tick" : Str)) (.cons (.str ("press a1" : Str)) .nil)))))))))))) (.cons (.ass 11 (.bin .Add (.var 11) (.lst (.cons (.str ("hand  a" : Str)) (.cons (.str ("hand a abcdefghi" : Str)) (.cons (.str ("hand a abcdefgh" : Str)) (.cons (.str ("press A" : Str)) (.cons (.str ("tick" : Str)) (.cons (.str ("press tick" : Str)) .nil))))))))) (.cons (.ass 12 (.sub (.var 11) (.call 5 (.cons (.var 1) (.cons (.blt .len (.cons (.var 11) .nil)) .nil))))) (.cons (.ass 13 (.ife (.cmp .Gt (.var 9) (.int 0)) (.bin .Add (.bin .Add (.shi (.var 3) (.var 10)) (.lst (.cons (.var 12) .nil))) (.slo (.var 3) (.bin .Add (.var 10) (.bin .FloorDiv (.var 9) (.int 3))))) (.var 3))) (.cons (.ass 14 (.bmt .join (.str ("" : Str)) (.cons (.lc [6] (.nm 6) (.val (.var 13)) .nil b_law_3) .nil))) (.cons (.ite (.and (.cmp .Eq (.var 9) (.int 1)) (.cmp .Gt (.blt .len (.cons (.var 14) .nil)) (.int 0))) (.cons (.ass 14 (.shi (.var 14) (.bin .Sub (.blt .len (.cons (.var 14) .nil)) (.int 1)))) .nil) .nil) (.cons (.ass 15 (.call 19 (.cons (.var 14) .nil))) (.cons (.ass 16 .non) (.cons (.try b_law_4 b_law_5) (.cons (.ite (.isi (.var 15) [.list]) (.cons (.ite (.or (.not (.isi (.var 16) [.list])) (.not (.call 6 (.cons (.blt .tuple (.cons (.var 16) .nil)) (.cons (.blt .tuple (.cons (.var 15) .nil)) .nil))))) (.cons (.ret (.bl false)) .nil) .nil) .nil) (.cons (.ite (.not (.call 6 (.cons (.var 16) (.cons (.var 15) .nil)))) (.cons (.ret (.bl false)) .nil) .nil) .nil)) .nil))))))))))))
def b_law : Ss := (.cons (.ass 1 (.call 3 (.cons (.var 0) .nil))) (.cons (.ass 2 (.call 20 (.cons (.var 1) .nil))) (.cons (.ass 3 (.lc [4] (.nm 4) (.val (.var 2)) .nil b_law_1)) (.cons (.ass 5 (.bmt .join (.str ("" : Str)) (.cons (.lc [6] (.nm 6) (.val (.var 3)) .nil b_law_2) .nil))) (.cons (.ass 7 (.blt .list (.cons (.var 2) .nil))) (.cons (.ite (.or (.not (.call 6 (.cons (.call 13 (.cons (.var 7) .nil)) (.cons (.var 5) .nil)))) (.cmp .NotEq (.var 7) (.var 2))) (.cons (.ret (.bl false)) .nil) .nil) (.cons (.for (.nm 8) (.rng1 (.int 8)) b_law_6) (.cons (.ret (.bl true)) .nil))))))))
def d_law : Dd := ⟨9, ("law", none), "law", "law", top 22, ["_law_script", "_law_state", "_law_events", "_law_lines", "_law_event", "_law_text", "_law_line", "_law_handed", "_law_turn", "_law_kind", "_law_at", "_law_forms", "_law_form", "_law_other", "_law_spoiled", "_law_due_here", "_law_found", "e"], ["_law_script"], b_law⟩
def P : Pd where
  G := G
  defs := [d_is_name, d_all_names, d_text_lines, d_format_events, d_parse_events, d__law_start, d__law_mixed, d__law_take, d__law_pick, d__law_names, d__law_same, d__law_is_name, d__law_line_event, d__law_due, d__law_drawn_events, d_law]
  cls := []
  xcs := [(0, "CalledError"), (3, "InvalidText")]
  rzs := [⟨3, "InvalidText", ["line"], [3]⟩]
  fld := ["part", "batch", "same", "line"]
  inits := []
  meths := []
  foks := [(3, 3)]
  subs := [(0, 0), (3, 0), (3, 3)]
  turns := 1000000
-- defs: is_name=10, all_names=11, text_lines=12, format_events=13, parse_events=14, _law_start=3, _law_mixed=4, _law_take=5, _law_pick=15, _law_names=16, _law_same=6, _law_is_name=17, _law_line_event=18, _law_due=19, _law_drawn_events=20, law=9
theorem hf : fldOk P.fld = true := by decide +kernel
theorem st : P.stat PySem.Challenge.pw_calledanew_k41_event_texts = true := by decide +kernel
theorem cm : P.comp P.defs := ⟨⟨40, rfl⟩, ⟨40, rfl⟩, ⟨40, rfl⟩, ⟨40, rfl⟩, ⟨40, rfl⟩, ⟨40, rfl⟩, ⟨40, rfl⟩, ⟨40, rfl⟩, ⟨40, rfl⟩, ⟨40, rfl⟩, ⟨40, rfl⟩, ⟨40, rfl⟩, ⟨40, rfl⟩, ⟨40, rfl⟩, ⟨40, rfl⟩, ⟨40, rfl⟩, trivial⟩
end K41
set_option Elab.async false
set_option linter.all false
set_option maxRecDepth 100000
set_option maxHeartbeats 4000000
namespace K41
open PySem PM
abbrev Q : Pg := P.pg
theorem drw : Drw Q := ⟨rfl, rfl, rfl⟩
theorem d6 : Q.df 6 = some ⟨2, 3, PM.b__law_same⟩ := rfl
theorem d10 : Q.df 10 = some ⟨1, 2, PM.b_is_name⟩ := rfl
theorem d11 : Q.df 11 = some ⟨1, 2, b_all_names⟩ := rfl
theorem d12 : Q.df 12 = some ⟨1, 1, b_text_lines⟩ := rfl
theorem d13 : Q.df 13 = some ⟨1, 2, b_format_events⟩ := rfl
theorem d14 : Q.df 14 = some ⟨1, 6, b_parse_events⟩ := rfl
theorem d15 : Q.df 15 = some ⟨2, 2, PM.b__law_pick⟩ := rfl
theorem d16 : Q.df 16 = some ⟨2, 10, PM.b__law_names⟩ := rfl
theorem d17 : Q.df 17 = some ⟨1, 2, PM.b__law_is_name⟩ := rfl
theorem d18 : Q.df 18 = some ⟨1, 3, b__law_line_event⟩ := rfl
theorem d19 : Q.df 19 = some ⟨1, 5, b__law_due⟩ := rfl
theorem d20 : Q.df 20 = some ⟨1, 7, b__law_drawn_events⟩ := rfl
/-! ### is every item a name -/
def tNm : D → Bool
  | .str x => !isNm x.cps.toList
  | _ => false
theorem filt (ys : List (List Nat)) : ((ys.map T).filter tNm).map id = (ys.filter fun y => !isNm y).map T := by
  induction ys with
  | nil => rfl
  | cons y ys ih =>
    have e : tNm (T y) = !isNm y := by simp [tNm]
    rw [List.map_cons, List.filter_cons, List.filter_cons, e]
    cases isNm y <;> simpa using ih
theorem filt0 (ys : List (List Nat)) : decide ((((ys.filter fun y => !isNm y).map T).length : Int) = 0) = ys.all isNm := by
  induction ys with
  | nil => rfl
  | cons y ys ih =>
    rw [List.filter_cons, List.all_cons]
    cases isNm y with
    | true => simpa using ih
    | false =>
      simp only [Bool.not_false, if_true, List.map_cons, List.length_cons, Bool.false_and, decide_eq_false_iff_not]
      omega
section
variable {k : Nat} {h : Hh}
theorem all_names {m : Nat} {ys : List (List Nat)} (hm : h[m]? = some (.lst (ys.map T))) (hl : ∀ y ∈ ys, y.length ≤ PM.sizeLine) : calls Q (k + 2) 11 [.loc m] h = .ok (.bl (ys.all isNm)) (h ++ [.lst ((ys.filter fun y => !isNm y).map T)]) := by
  have lc := lcGo_filter (f := lcF (Q.ct (calls Q (k + 1))) ⟨[some (.loc m), none], none⟩ [1] (.nm 1) b_all_names_1 b_all_names_2) (ok := Src.still ⟨ys.map T, [(m, ys.map T)]⟩) (still_lst hm) tNm id (its := ys.map T) (fun x hx => by
    obtain ⟨y, hy, rfl⟩ := List.mem_map.mp hx
    have e := is_name_T (k := k) (h := h) d10 (hl y hy)
    have et : tNm (T y) = !isNm y := by simp [tNm]
    unfold lcF b_all_names_1 b_all_names_2
    rw [et]
    cases q : isNm y with
    | true =>
      rw [q] at e
      simp only [↓ev_lc, List.length_cons, List.length_nil, Nat.zero_add, Nat.reduceAdd, Nat.reduceSub, if_true, if_false, List.map_cons, List.map_nil, List.replicate_succ, List.replicate_zero, List.cons_append, List.nil_append, exs_nil, exs_cons, seqR_nx, seqR_rt, seqR_th, ex_ass, ex_asA, ex_asS, ex_exp, ex_ret, ex_rtN, ex_brk, ex_cnt, ex_pas, ex_ite, iteB_t, iteB_f, ex_for, forR_ok, ex_rai, raiR_s, ex_try, forF_nm, inS_ok, inSs_ok, unS_ok, ev, evs, bind_ok, opt_some, getS, setS, En.free, List.getElem?_cons_zero, List.getElem?_cons_succ, Option.bind_some, id_eq, List.set_cons_zero, List.set_cons_succ, Option.isSome_none, Bool.false_and, Bool.false_eq_true, add_int, sub_int, int_int, eq_int, ne_int, lt_int, le_int, gt_int, ge_int, ne_bl, is_non, isnot_non, len_tup, ct_call, abs_int, tru_b, truth, decide_true, decide_false, reduceCtorEq, R.calm, putT, PM.wipe, tests, e, Bool.not_true]
    | false =>
      rw [q] at e
      simp only [↓ev_lc, List.length_cons, List.length_nil, Nat.zero_add, Nat.reduceAdd, Nat.reduceSub, if_true, if_false, List.map_cons, List.map_nil, List.replicate_succ, List.replicate_zero, List.cons_append, List.nil_append, exs_nil, exs_cons, seqR_nx, seqR_rt, seqR_th, ex_ass, ex_asA, ex_asS, ex_exp, ex_ret, ex_rtN, ex_brk, ex_cnt, ex_pas, ex_ite, iteB_t, iteB_f, ex_for, forR_ok, ex_rai, raiR_s, ex_try, forF_nm, inS_ok, inSs_ok, unS_ok, ev, evs, bind_ok, opt_some, getS, setS, En.free, List.getElem?_cons_zero, List.getElem?_cons_succ, Option.bind_some, id_eq, List.set_cons_zero, List.set_cons_succ, Option.isSome_none, Bool.false_and, Bool.false_eq_true, add_int, sub_int, int_int, eq_int, ne_int, lt_int, le_int, gt_int, ge_int, ne_bl, is_non, isnot_non, len_tup, ct_call, abs_int, tru_b, truth, decide_true, decide_false, reduceCtorEq, R.calm, putT, PM.wipe, tests, e, Bool.not_false])
  rw [filt] at lc
  have sr := src_lst hm
  have ln := len_lst (h := h ++ [.lst ((ys.filter fun y => !isNm y).map T)]) (m := h.length) last_get
  rw [calls_df d11]
  unfold runDf b_all_names
  simp only [↓ev_lc, List.length_cons, List.length_nil, Nat.zero_add, Nat.reduceAdd, Nat.reduceSub, if_true, if_false, List.map_cons, List.map_nil, List.replicate_succ, List.replicate_zero, List.cons_append, List.nil_append, exs_nil, exs_cons, seqR_nx, seqR_rt, seqR_th, ex_ass, ex_asA, ex_asS, ex_exp, ex_ret, ex_rtN, ex_brk, ex_cnt, ex_pas, ex_ite, iteB_t, iteB_f, ex_for, forR_ok, ex_rai, raiR_s, ex_try, forF_nm, inS_ok, inSs_ok, unS_ok, ev, evs, bind_ok, opt_some, getS, setS, En.free, List.getElem?_cons_zero, List.getElem?_cons_succ, Option.bind_some, id_eq, List.set_cons_zero, List.set_cons_succ, Option.isSome_none, Bool.false_and, Bool.false_eq_true, add_int, sub_int, int_int, eq_int, ne_int, lt_int, le_int, gt_int, ge_int, ne_bl, is_non, isnot_non, len_tup, ct_call, abs_int, tru_b, truth, decide_true, decide_false, reduceCtorEq, R.calm, evIt, sr, lc, ln, filt0]
/-! ### lines -/
theorem e_nl : D.str ("\n" : Str) = T [10] := by decide +kernel
theorem e_sp : D.str (" " : Str) = T [32] := by decide +kernel
theorem ends_T {l : List Nat} {c : Nat} : bmt .endswith (T l) [T [c]] h = .ok (.bl (decide (l.getLast? = some c))) h := by
  simp only [bmt, mEnds, T]
theorem ends_bm {l : List Nat} : bmOk .endswith (T l) h = true := rfl
theorem split_bm {l : List Nat} : bmOk .split (T l) h = true := rfl
theorem split_T {l : List Nat} {c : Nat} (hl : l.length + 2 ≤ PM.sizeLine) (hc : c < 256) : bmt .split (T l) [T [c]] h = .ok (.loc h.length) (h ++ [.lst ((splitL c [] l).map T)]) := by
  have : (⟨l.toArray⟩ : Str).length + 2 ≤ PM.sizeLine ∧ c < 256 := ⟨by rw [T_len]; exact hl, hc⟩
  simp only [bmt, mSplit, T, this, and_self, if_true]
theorem cut_last {α : Type} (xs : List α) : cut xs none (some (-1)) = xs.dropLast := by
  unfold cut sIx
  have : ((-1 : Int) + (xs.length : Nat)).toNat = xs.length - 1 := by omega
  simp [this, List.dropLast_eq_take]
theorem text_lines {l : List Nat} (hl : l.length + 2 ≤ PM.sizeLine) : calls Q (k + 1) 12 [T l] h = if l.getLast? = some 10 then .ok (.loc (h.length + 1)) (h ++ [.lst ((splitL 10 [] l).map T), .lst ((splitL 10 [] l).dropLast.map T)]) else .exc 3 [(3, .int 0)] h := by
  have en := ends_T (h := h) (l := l) (c := 10)
  have sp := split_T (h := h) (l := l) (c := 10) hl (by decide)
  have sl := slc_lst (h := h ++ [.lst ((splitL 10 [] l).map T)]) (m := h.length) (lo := none) (hi := some (-1)) last_get
  rw [cut_last, ← List.map_dropLast] at sl
  have x1 : (Q.ct (calls Q k)).exf 3 [.int 0] = some [(3, .int 0)] := rfl
  rw [calls_df d12]
  unfold runDf b_text_lines
  by_cases hq : l.getLast? = some 10
  · simp only [↓ev_lc, List.length_cons, List.length_nil, Nat.zero_add, Nat.reduceAdd, Nat.reduceSub, if_true, if_false, List.map_cons, List.map_nil, List.replicate_succ, List.replicate_zero, List.cons_append, List.nil_append, exs_nil, exs_cons, seqR_nx, seqR_rt, seqR_th, ex_ass, ex_asA, ex_asS, ex_exp, ex_ret, ex_rtN, ex_brk, ex_cnt, ex_pas, ex_ite, iteB_t, iteB_f, ex_for, forR_ok, ex_rai, raiR_s, ex_try, forF_nm, inS_ok, inSs_ok, unS_ok, ev, evs, bind_ok, opt_some, getS, setS, En.free, List.getElem?_cons_zero, List.getElem?_cons_succ, Option.bind_some, id_eq, List.set_cons_zero, List.set_cons_succ, Option.isSome_none, Bool.false_and, Bool.false_eq_true, add_int, sub_int, int_int, eq_int, ne_int, lt_int, le_int, gt_int, ge_int, ne_bl, is_non, isnot_non, len_tup, ct_call, abs_int, tru_b, truth, decide_true, decide_false, reduceCtorEq, R.calm, e_nl, ends_bm, en, hq, Bool.not_true, split_bm, sp, intOf_int, sl, List.length_append, List.append_assoc]
  · simp only [↓ev_lc, List.length_cons, List.length_nil, Nat.zero_add, Nat.reduceAdd, Nat.reduceSub, if_true, if_false, List.map_cons, List.map_nil, List.replicate_succ, List.replicate_zero, List.cons_append, List.nil_append, exs_nil, exs_cons, seqR_nx, seqR_rt, seqR_th, ex_ass, ex_asA, ex_asS, ex_exp, ex_ret, ex_rtN, ex_brk, ex_cnt, ex_pas, ex_ite, iteB_t, iteB_f, ex_for, forR_ok, ex_rai, raiR_s, ex_try, forF_nm, inS_ok, inSs_ok, unS_ok, ev, evs, bind_ok, opt_some, getS, setS, En.free, List.getElem?_cons_zero, List.getElem?_cons_succ, Option.bind_some, id_eq, List.set_cons_zero, List.set_cons_succ, Option.isSome_none, Bool.false_and, Bool.false_eq_true, add_int, sub_int, int_int, eq_int, ne_int, lt_int, le_int, gt_int, ge_int, ne_bl, is_non, isnot_non, len_tup, ct_call, abs_int, tru_b, truth, decide_true, decide_false, reduceCtorEq, R.calm, e_nl, ends_bm, en, hq, Bool.not_false, x1]
end
end K41
set_option Elab.async false
set_option linter.all false
set_option maxRecDepth 100000
set_option maxHeartbeats 4000000
namespace K41
open PySem PM
/-- signs that a text may have -/
def Ok (l : List Nat) : Prop := ∀ c ∈ l, c < 1114112
theorem good_T {l : List Nat} (h : Ok l) : D.good (T l) = true := by
  have : D.flat (T l) = true := by
    show PyData.canLay0 (.str ⟨l.toArray⟩) = true
    simp only [PyData.canLay0, PyData.strOk]
    rw [← Array.all_toList]
    unfold Ok at h
    simpa [List.all_eq_true] using h
  exact good_T' this
theorem pieces {c : Nat} : ∀ {l acc p : List Nat}, p ∈ splitL c acc l → (∀ x ∈ p, x ∈ acc ∨ x ∈ l) ∧ p.length ≤ acc.length + l.length
  | [], acc, p, hp => by
    simp only [splitL, List.mem_singleton] at hp
    subst hp
    exact ⟨fun x hx => .inl hx, by simp⟩
  | x :: r, acc, p, hp => by
    by_cases hx : x = c
    · simp only [splitL, if_pos hx, List.mem_cons] at hp
      rcases hp with rfl | hp
      · exact ⟨fun y hy => .inl hy, by omega⟩
      · obtain ⟨h1, h2⟩ := pieces hp
        refine ⟨fun y hy => ?_, by simp at h2 ⊢; omega⟩
        rcases h1 y hy with z | z
        · cases z
        · exact .inr (List.mem_cons_of_mem _ z)
    · simp only [splitL, if_neg hx] at hp
      obtain ⟨h1, h2⟩ := pieces hp
      refine ⟨fun y hy => ?_, by simp at h2 ⊢; omega⟩
      rcases h1 y hy with z | z
      · rcases List.mem_append.mp z with z | z
        · exact .inl z
        · exact .inr (by rw [List.mem_singleton] at z; rw [z]; exact List.mem_cons_self)
      · exact .inr (List.mem_cons_of_mem _ z)
theorem split_cons {c : Nat} : ∀ {l acc : List Nat}, ∃ w r, splitL c acc l = w :: r
  | [], acc => ⟨acc, [], rfl⟩
  | x :: r, acc => by
    by_cases hx : x = c
    · exact ⟨acc, _, by simp only [splitL, if_pos hx]; rfl⟩
    · obtain ⟨w, q, e⟩ := split_cons (c := c) (l := r) (acc := acc ++ [x])
      exact ⟨w, q, by simp only [splitL, if_neg hx, e]⟩
theorem split_app {c : Nat} : ∀ {l acc : List Nat}, splitL c acc (l ++ [c]) = splitL c acc l ++ [[]]
  | [], acc => by simp [splitL]
  | x :: r, acc => by
    by_cases hx : x = c
    · simp only [List.cons_append, splitL, if_pos hx, split_app (l := r) (acc := [])]
    · simp only [List.cons_append, splitL, if_neg hx, split_app (l := r) (acc := acc ++ [x])]
def wP : List Nat := [112, 114, 101, 115, 115]
def wT : List Nat := [116, 105, 99, 107]
def wH : List Nat := [104, 97, 110, 100]
def wsize (w : List Nat) : Option Nat := if w = wP then some 2 else if w = wT then some 1 else if w = wH then some 3 else none
def sizes : List ((Int ⊕ Str) × D) := [(.inr "press", .int 2), (.inr "tick", .int 1), (.inr "hand", .int 3)]
theorem s_P : ("press" : Str) = ⟨wP.toArray⟩ := by decide +kernel
theorem s_T : ("tick" : Str) = ⟨wT.toArray⟩ := by decide +kernel
theorem s_H : ("hand" : Str) = ⟨wH.toArray⟩ := by decide +kernel
theorem key_eq {a b : List Nat} : ((Sum.inr ⟨a.toArray⟩ : Int ⊕ Str) = Sum.inr ⟨b.toArray⟩) ↔ b = a := by
  constructor
  · intro h
    injection h with h
    injection h with h
    simpa using (congrArg Array.toList h).symm
  · intro h; rw [h]
theorem val_w {w : List Nat} : valOf (.inr ⟨w.toArray⟩) sizes = (wsize w).map fun (n : Nat) => D.int (n : Int) := by
  unfold sizes wsize
  rw [s_P, s_T, s_H]
  simp only [valOf, key_eq]
  by_cases h1 : w = wP
  · simp only [if_pos h1]; rfl
  · by_cases h2 : w = wT
    · simp only [if_neg h1, if_pos h2]; rfl
    · by_cases h3 : w = wH
      · simp only [if_neg h1, if_neg h2, if_pos h3]; rfl
      · simp only [if_neg h1, if_neg h2, if_neg h3]; rfl
/-- the items of a line that is an event's -/
def lineB : List (List Nat) → Bool
  | [] => false
  | w :: r => match wsize w with
    | none => false
    | some n => decide (r.length + 1 = n) && r.all isNm
def tupT (it : List (List Nat)) : D := .tup (it.map T)
theorem in_dct {h : Hh} {m : Nat} {w : List Nat} (e : h[m]? = some (.dct sizes)) : inop h (T w) (.loc m) = some (wsize w).isSome := by
  simp only [inop, e, keyOf, val_w, Option.isSome_map]
theorem sub_dct {h : Hh} {m n : Nat} {w : List Nat} (e : h[m]? = some (.dct sizes)) (hw : wsize w = some n) : subop (.loc m) (T w) h = .ok (.int n) h := by
  simp only [subop, e, keyOf, val_w, hw, Option.map_some]
section
variable {k : Nat} {h : Hh}
theorem cut_tail {α : Type} (x : α) (xs : List α) : cut (x :: xs) (some 1) none = xs := by
  unfold cut sIx
  simp
/-- one line of the program's reading -/
theorem parse_turn {E Z j : Nat} {l : List Nat} {es0 : List D} {x0 x5 : Option D} (hE : h[E]? = some (.lst es0)) (hZ : h[Z]? = some (.dct sizes)) (hl : l.length + 2 ≤ PM.sizeLine) (he : es0.length < PM.sizeLine) :
    (lineB (splitL 32 [] l) = true → ∃ y5 h', exs (Q.ct (calls Q (k + 2))) b_parse_events_1 ⟨[x0, some (.loc E), some (.loc Z), some (.int j), some (T l), x5], none⟩ h = .nx ⟨[x0, some (.loc E), some (.loc Z), some (.int j), some (T l), y5], none⟩ h' ∧ h'[E]? = some (.lst (es0 ++ [tupT (splitL 32 [] l)])) ∧ Fr [E] h h') ∧
    (lineB (splitL 32 [] l) = false → ∃ n' h', exs (Q.ct (calls Q (k + 2))) b_parse_events_1 ⟨[x0, some (.loc E), some (.loc Z), some (.int j), some (T l), x5], none⟩ h = .th 3 [(3, .int ((j : Int) + 1))] n' h' ∧ Fr [E] h h') := by
  obtain ⟨w, r, ew⟩ := split_cons (c := 32) (l := l) (acc := [])
  have sp := split_T (h := h) (l := l) (c := 32) hl (by decide)
  rw [ew] at sp ⊢
  obtain ⟨h1, hh1⟩ : ∃ h1, h1 = h ++ [.lst ((w :: r).map T)] := ⟨_, rfl⟩
  rw [← hh1] at sp
  have m1 : h1[h.length]? = some (.lst ((w :: r).map T)) := by rw [hh1]; exact last_get
  have s0 := sub_lst (k := 0) (d := T w) m1 (atI_nat (by decide) rfl)
  have z1 : h1[Z]? = some (.dct sizes) := by rw [hh1]; exact at_app hZ
  have ni := fun C hb => notin_of (C := C) (hb := hb) (in_dct (w := w) z1)
  have x1 : (Q.ct (calls Q (k + 2))).exf 3 [.int ((j : Int) + 1)] = some [(3, .int ((j : Int) + 1))] := rfl
  have ln := len_lst m1
  have fr1 : Fr [E] h h1 := by rw [hh1]; exact Fr.app
  cases hw : wsize w with
  | none =>
    rw [hw] at ni
    refine ⟨fun e => by simp [lineB, hw] at e, fun _ => ⟨⟨[x0, some (.loc E), some (.loc Z), some (.int j), some (T l), some (.loc h.length)], none⟩, h1, ?_, fr1⟩⟩
    unfold b_parse_events_1
    simp only [↓ev_lc, List.length_cons, List.length_nil, Nat.zero_add, Nat.reduceAdd, Nat.reduceSub, if_true, if_false, List.map_cons, List.map_nil, List.replicate_succ, List.replicate_zero, List.cons_append, List.nil_append, exs_nil, exs_cons, seqR_nx, seqR_rt, seqR_th, ex_ass, ex_asA, ex_asS, ex_exp, ex_ret, ex_rtN, ex_brk, ex_cnt, ex_pas, ex_ite, iteB_t, iteB_f, ex_for, forR_ok, ex_rai, raiR_s, ex_try, forF_nm, inS_ok, inSs_ok, unS_ok, ev, evs, bind_ok, opt_some, getS, setS, En.free, List.getElem?_cons_zero, List.getElem?_cons_succ, Option.bind_some, id_eq, List.set_cons_zero, List.set_cons_succ, Option.isSome_none, Bool.false_and, Bool.false_eq_true, add_int, sub_int, int_int, eq_int, ne_int, lt_int, le_int, gt_int, ge_int, ne_bl, is_non, isnot_non, len_tup, ct_call, abs_int, tru_b, truth, decide_true, decide_false, reduceCtorEq, R.calm, e_sp, split_bm, sp, s0, ni, Option.isSome_none, Bool.not_false, x1]
  | some n =>
    rw [hw] at ni
    have sd := sub_dct z1 hw
    have ln' : blt .len [.loc h.length] h1 = .ok (.int ((r.length + 1 : Nat) : Int)) h1 := by rw [ln]; simp
    by_cases hn : r.length + 1 = n
    · have hn' : (((r.length + 1 : Nat) : Int) = (n : Nat)) := by rw [hn]
      have sl := slc_lst (lo := some 1) (hi := none) m1
      rw [List.map_cons, cut_tail] at sl
      obtain ⟨h2, hh2⟩ : ∃ h2, h2 = h1 ++ [.lst (r.map T)] := ⟨_, rfl⟩
      rw [← hh2] at sl
      have an := all_names (k := k) (h := h2) (m := h1.length) (ys := r) (by rw [hh2]; exact last_get) (fun y hy => by
        have := (pieces (c := 32) (l := l) (acc := []) (p := y) (by rw [ew]; exact List.mem_cons_of_mem _ hy)).2
        simp at this
        omega)
      obtain ⟨h3, hh3⟩ : ∃ h3, h3 = h2 ++ [.lst ((r.filter fun y => !isNm y).map T)] := ⟨_, rfl⟩
      rw [← hh3] at an
      have fr3 : Fr [E] h h3 := by rw [hh3, hh2]; exact (fr1.trans Fr.app).trans Fr.app
      cases ha : r.all isNm with
      | false =>
        rw [ha] at an
        refine ⟨fun e => by simp [lineB, hw, ha] at e, fun _ => ⟨⟨[x0, some (.loc E), some (.loc Z), some (.int j), some (T l), some (.loc h.length)], none⟩, h3, ?_, fr3⟩⟩
        unfold b_parse_events_1
        simp only [↓ev_lc, List.length_cons, List.length_nil, Nat.zero_add, Nat.reduceAdd, Nat.reduceSub, if_true, if_false, List.map_cons, List.map_nil, List.replicate_succ, List.replicate_zero, List.cons_append, List.nil_append, exs_nil, exs_cons, seqR_nx, seqR_rt, seqR_th, ex_ass, ex_asA, ex_asS, ex_exp, ex_ret, ex_rtN, ex_brk, ex_cnt, ex_pas, ex_ite, iteB_t, iteB_f, ex_for, forR_ok, ex_rai, raiR_s, ex_try, forF_nm, inS_ok, inSs_ok, unS_ok, ev, evs, bind_ok, opt_some, getS, setS, En.free, List.getElem?_cons_zero, List.getElem?_cons_succ, Option.bind_some, id_eq, List.set_cons_zero, List.set_cons_succ, Option.isSome_none, Bool.false_and, Bool.false_eq_true, add_int, sub_int, int_int, eq_int, ne_int, lt_int, le_int, gt_int, ge_int, ne_bl, is_non, isnot_non, len_tup, ct_call, abs_int, tru_b, truth, decide_true, decide_false, reduceCtorEq, R.calm, e_sp, split_bm, sp, s0, ni, Option.isSome_some, Bool.not_true, Bool.not_false, ln', sd, hn', intOf_int, sl, an, x1]
      | true =>
        rw [ha] at an
        have m3 : h3[h.length]? = some (.lst ((w :: r).map T)) := by rw [hh3, hh2]; exact at_app (at_app m1)
        have E3 : h3[E]? = some (.lst es0) := by rw [hh3, hh2, hh1]; exact at_app (at_app (at_app hE))
        have bo := bm_lst E3
        have ap := app_lst (v := tupT (w :: r)) E3 he
        have tu : blt .tuple [.loc h.length] h3 = .ok (tupT (w :: r)) h3 := by simp only [blt, bTuple, m3, tupT]
        refine ⟨fun _ => ⟨some (.loc h.length), _, ?_, at_self E3, fr3.trans (Fr.set (by simp))⟩, fun e => ?_⟩
        · unfold b_parse_events_1
          simp only [↓ev_lc, List.length_cons, List.length_nil, Nat.zero_add, Nat.reduceAdd, Nat.reduceSub, if_true, if_false, List.map_cons, List.map_nil, List.replicate_succ, List.replicate_zero, List.cons_append, List.nil_append, exs_nil, exs_cons, seqR_nx, seqR_rt, seqR_th, ex_ass, ex_asA, ex_asS, ex_exp, ex_ret, ex_rtN, ex_brk, ex_cnt, ex_pas, ex_ite, iteB_t, iteB_f, ex_for, forR_ok, ex_rai, raiR_s, ex_try, forF_nm, inS_ok, inSs_ok, unS_ok, ev, evs, bind_ok, opt_some, getS, setS, En.free, List.getElem?_cons_zero, List.getElem?_cons_succ, Option.bind_some, id_eq, List.set_cons_zero, List.set_cons_succ, Option.isSome_none, Bool.false_and, Bool.false_eq_true, add_int, sub_int, int_int, eq_int, ne_int, lt_int, le_int, gt_int, ge_int, ne_bl, is_non, isnot_non, len_tup, ct_call, abs_int, tru_b, truth, decide_true, decide_false, reduceCtorEq, R.calm, e_sp, split_bm, sp, s0, ni, Option.isSome_some, Bool.not_true, Bool.not_false, ln', sd, hn', intOf_int, sl, an, bo, tu, ap]
        · simp [lineB, hw, ha, hn] at e
    · have hn' : ¬ (((r.length + 1 : Nat) : Int) = (n : Nat)) := by omega
      refine ⟨fun e => by simp [lineB, hw, hn] at e, fun _ => ⟨⟨[x0, some (.loc E), some (.loc Z), some (.int j), some (T l), some (.loc h.length)], none⟩, h1, ?_, fr1⟩⟩
      unfold b_parse_events_1
      simp only [↓ev_lc, List.length_cons, List.length_nil, Nat.zero_add, Nat.reduceAdd, Nat.reduceSub, if_true, if_false, List.map_cons, List.map_nil, List.replicate_succ, List.replicate_zero, List.cons_append, List.nil_append, exs_nil, exs_cons, seqR_nx, seqR_rt, seqR_th, ex_ass, ex_asA, ex_asS, ex_exp, ex_ret, ex_rtN, ex_brk, ex_cnt, ex_pas, ex_ite, iteB_t, iteB_f, ex_for, forR_ok, ex_rai, raiR_s, ex_try, forF_nm, inS_ok, inSs_ok, unS_ok, ev, evs, bind_ok, opt_some, getS, setS, En.free, List.getElem?_cons_zero, List.getElem?_cons_succ, Option.bind_some, id_eq, List.set_cons_zero, List.set_cons_succ, Option.isSome_none, Bool.false_and, Bool.false_eq_true, add_int, sub_int, int_int, eq_int, ne_int, lt_int, le_int, gt_int, ge_int, ne_bl, is_non, isnot_non, len_tup, ct_call, abs_int, tru_b, truth, decide_true, decide_false, reduceCtorEq, R.calm, e_sp, split_bm, sp, s0, ni, Option.isSome_some, Bool.not_true, Bool.not_false, ln', sd, hn', x1]
end
end K41
set_option Elab.async false
set_option linter.all false
set_option maxRecDepth 100000
set_option maxHeartbeats 4000000
namespace K41
open PySem PM
abbrev Ev := List (List Nat)
/-- the events of lines, or the number of the first that is none -/
def parseL : List (List Nat) → Nat → List Ev → List Ev ⊕ Nat
  | [], _, acc => .inl acc
  | l :: r, k, acc => if lineB (splitL 32 [] l) = true then parseL r (k + 1) (acc ++ [splitL 32 [] l]) else .inr (k + 1)
/-- what a text means -/
def parseT (l : List Nat) : List Ev ⊕ Nat := if l = [] then .inl [] else if l.getLast? = some 10 then parseL (splitL 10 [] l.dropLast) 0 [] else .inr 0
theorem forGo_nx {f : D → En → Hh → Rs} {ok : Hh → Bool} {x : D} {xs : List D} {n n' : En} {h h' : Hh} (hok : ok h = true) (e : f x n h = .nx n' h') : forGo f ok (x :: xs) n h = forGo f ok xs n' h' := by
  simp only [forGo, hok, if_true, e]
theorem forGo_th {f : D → En → Hh → Rs} {ok : Hh → Bool} {x : D} {xs : List D} {n n' : En} {h h' : Hh} {c : Nat} {fs : List (Nat × D)} (hok : ok h = true) (e : f x n h = .th c fs n' h') : forGo f ok (x :: xs) n h = .th c fs n' h' := by
  simp only [forGo, hok, if_true, e]
theorem forGo_rt {f : D → En → Hh → Rs} {ok : Hh → Bool} {x : D} {xs : List D} {n : En} {h h' : Hh} {d : D} (hok : ok h = true) (e : f x n h = .rt d h') : forGo f ok (x :: xs) n h = .rt d h' := by
  simp only [forGo, hok, if_true, e]
theorem forGo_nil {f : D → En → Hh → Rs} {ok : Hh → Bool} {n : En} {h : Hh} (hok : ok h = true) : forGo f ok [] n h = .nx n h := by
  simp only [forGo, hok, if_true]
theorem forF_two {C : Ct} {i j : Nat} {b : Ss} {x y : D} {n : En} {h : Hh} : forF C (.tp [i, j]) b (.tup [x, y]) n h = exs C b (setS (setS n i x) j y) h := (rfl)
section
variable {k : Nat}
theorem parse_loop {E Z L : Nat} {L0 its : List D} {x0 : Option D} (nL : L ≠ E) (nZ : Z ≠ E) : ∀ (ls : List (List Nat)) (j : Nat) (acc : List Ev) (h : Hh) (x3 x4 x5 : Option D), h[E]? = some (.lst (acc.map tupT)) → h[Z]? = some (.dct sizes) → h[L]? = some (.lst L0) → (∀ l ∈ ls, l.length + 2 ≤ PM.sizeLine) → acc.length + ls.length < PM.sizeLine →
    match parseL ls j acc with
    | .inl es => ∃ y3 y4 y5 h', forGo (forF (Q.ct (calls Q (k + 2))) (.tp [3, 4]) b_parse_events_1) (Src.still ⟨its, [(L, L0)]⟩) (enumD j (ls.map T)) ⟨[x0, some (.loc E), some (.loc Z), x3, x4, x5], none⟩ h = .nx ⟨[x0, some (.loc E), some (.loc Z), y3, y4, y5], none⟩ h' ∧ h'[E]? = some (.lst (es.map tupT)) ∧ Fr [E] h h'
    | .inr i => ∃ n' h', forGo (forF (Q.ct (calls Q (k + 2))) (.tp [3, 4]) b_parse_events_1) (Src.still ⟨its, [(L, L0)]⟩) (enumD j (ls.map T)) ⟨[x0, some (.loc E), some (.loc Z), x3, x4, x5], none⟩ h = .th 3 [(3, .int (i : Nat))] n' h' ∧ Fr [E] h h'
  | [], j, acc, h, x3, x4, x5, hE, hZ, hL, _, _ => ⟨x3, x4, x5, h, forGo_nil (still_lst hL), hE, Fr.refl⟩
  | l :: ls, j, acc, h, x3, x4, x5, hE, hZ, hL, hl, hc => by
    obtain ⟨p1, p2⟩ := parse_turn (k := k) (j := j) (l := l) (x0 := x0) (x5 := x5) hE hZ (hl l List.mem_cons_self) (by simp at hc ⊢; omega)
    have hf : ∀ d, forF (Q.ct (calls Q (k + 2))) (.tp [3, 4]) b_parse_events_1 (.tup [.int (j : Nat), T l]) ⟨[x0, some (.loc E), some (.loc Z), x3, x4, x5], none⟩ h = d ↔ exs (Q.ct (calls Q (k + 2))) b_parse_events_1 ⟨[x0, some (.loc E), some (.loc Z), some (.int j), some (T l), x5], none⟩ h = d := fun d => by
      rw [forF_two]
      rfl
    simp only [parseL]
    cases hb : lineB (splitL 32 [] l) with
    | true =>
      obtain ⟨y5, h1, e1, hE1, fr1⟩ := p1 hb
      have ih := parse_loop (its := its) (x0 := x0) nL nZ ls (j + 1) (acc ++ [splitL 32 [] l]) h1 (some (.int j)) (some (T l)) y5 (by simpa using hE1) (fr1.at hZ (by simpa using nZ)) (fr1.at hL (by simpa using nL)) (fun l hl' => hl l (List.mem_cons_of_mem _ hl')) (by simp at hc ⊢; omega)
      rw [if_pos rfl]
      have st := forGo_nx (xs := enumD (j + 1) (ls.map T)) (still_lst (its := its) hL) ((hf _).mpr e1)
      show match parseL ls (j + 1) (acc ++ [splitL 32 [] l]) with | .inl es => _ | .inr i => _
      cases hp : parseL ls (j + 1) (acc ++ [splitL 32 [] l]) with
      | inl es =>
        rw [hp] at ih
        obtain ⟨y3, y4, z5, h2, e2, hE2, fr2⟩ := ih
        exact ⟨y3, y4, z5, h2, st.trans e2, hE2, fr1.trans fr2⟩
      | inr i =>
        rw [hp] at ih
        obtain ⟨n', h2, e2, fr2⟩ := ih
        exact ⟨n', h2, st.trans e2, fr1.trans fr2⟩
    | false =>
      obtain ⟨n', h1, e1, fr1⟩ := p2 hb
      rw [if_neg (by simp)]
      exact ⟨n', h1, (forGo_th (still_lst (its := its) hL) ((hf _).mpr e1)).trans (by simp), fr1⟩
theorem okSizes : okKeys sizes = true := by decide +kernel
theorem last_split {l : List Nat} (h : l.getLast? = some 10) : l = l.dropLast ++ [10] := by
  have hn : l ≠ [] := by rintro rfl; simp at h
  have e := List.dropLast_concat_getLast hn
  rw [List.getLast?_eq_some_getLast hn] at h
  injection h with h
  rw [h] at e
  exact e.symm
theorem lines_eq {l : List Nat} (h : l.getLast? = some 10) : (splitL 10 [] l).dropLast = splitL 10 [] l.dropLast := by
  have e := last_split h
  rw [e, split_app, List.dropLast_concat, List.dropLast_concat]
/-- the program's reading of a text -/
theorem parse_events {l : List Nat} {h : Hh} (hl : l.length + 3 ≤ PM.sizeLine) (ho : Ok l) :
    match parseT l with
    | .inl es => ∃ E h', calls Q (k + 3) 14 [T l] h = .ok (.loc E) h' ∧ h'[E]? = some (.lst (es.map tupT)) ∧ Fr [] h h' ∧ h.length ≤ E
    | .inr i => ∃ h', calls Q (k + 3) 14 [T l] h = .exc 3 [(3, .int (i : Nat))] h' ∧ Fr [] h h' := by
  have eq := fun C hb => eq_str (C := C) (hb := hb) (h := h) (good_T ho) (good_T (l := []) (fun _ z => by cases z))
  have en : (T [] : D) = .str ("" : Str) := e_nil.symm
  have c12 : ∀ as hp, calls Q (k + 2) 12 as hp = calls Q (k + 1 + 1) 12 as hp := fun _ _ => rfl
  unfold parseT
  by_cases h0 : l = []
  · subst h0
    rw [if_pos rfl]
    refine ⟨h.length, h ++ [.lst []], ?_, last_get, Fr.app, Nat.le_refl _⟩
    rw [calls_df d14]
    unfold runDf b_parse_events
    simp only [↓ev_lc, List.length_cons, List.length_nil, Nat.zero_add, Nat.reduceAdd, Nat.reduceSub, if_true, if_false, List.map_cons, List.map_nil, List.replicate_succ, List.replicate_zero, List.cons_append, List.nil_append, exs_nil, exs_cons, seqR_nx, seqR_rt, seqR_th, ex_ass, ex_asA, ex_asS, ex_exp, ex_ret, ex_rtN, ex_brk, ex_cnt, ex_pas, ex_ite, iteB_t, iteB_f, ex_for, forR_ok, ex_rai, raiR_s, ex_try, forF_nm, inS_ok, inSs_ok, unS_ok, ev, evs, bind_ok, opt_some, getS, setS, En.free, List.getElem?_cons_zero, List.getElem?_cons_succ, Option.bind_some, id_eq, List.set_cons_zero, List.set_cons_succ, Option.isSome_none, Bool.false_and, Bool.false_eq_true, add_int, sub_int, int_int, eq_int, ne_int, lt_int, le_int, gt_int, ge_int, ne_bl, is_non, isnot_non, len_tup, ct_call, abs_int, tru_b, truth, decide_true, decide_false, reduceCtorEq, R.calm, e_nil, eq, PM.sizeLine, Nat.reducePow, Nat.zero_le]
  · rw [if_neg h0]
    have hne : ¬ (⟨l.toArray⟩ : Str) = ⟨([] : List Nat).toArray⟩ := fun z => h0 (T_inj (congrArg D.str z))
    obtain ⟨h1, hh1⟩ : ∃ h1, h1 = h ++ [.lst [], .dct sizes] := ⟨_, rfl⟩
    have tl := text_lines (k := k + 1) (h := h1) (l := l) (by omega)
    have hE1 : h1[h.length]? = some (.lst []) := by rw [hh1]; exact at_end
    have hZ1 : h1[h.length + 1]? = some (.dct sizes) := by
      rw [hh1, List.getElem?_append_right (by omega)]
      simp
    have l1 : h1.length = h.length + 2 := by rw [hh1]; simp
    by_cases h10 : l.getLast? = some 10
    · rw [if_pos h10]
      rw [if_pos h10, lines_eq h10] at tl
      obtain ⟨h2, hh2⟩ : ∃ h2, h2 = h1 ++ [.lst ((splitL 10 [] l).map T), .lst ((splitL 10 [] l.dropLast).map T)] := ⟨_, rfl⟩
      rw [← hh2] at tl
      have hL2 : h2[h1.length + 1]? = some (.lst ((splitL 10 [] l.dropLast).map T)) := by
        rw [hh2, List.getElem?_append_right (by omega)]
        simp
      have pl := parse_loop (k := k) (E := h.length) (Z := h.length + 1) (L := h1.length + 1) (L0 := (splitL 10 [] l.dropLast).map T) (its := enumD 0 ((splitL 10 [] l.dropLast).map T)) (x0 := some (T l)) (by omega) (by omega) (splitL 10 [] l.dropLast) 0 [] h2 none none none
        (by rw [hh2]; exact at_app hE1) (by rw [hh2]; exact at_app hZ1) hL2 (fun p hp => by
          have := (pieces hp).2
          simp at this
          omega) (by
          have := splitL_len (c := 10) (l := l.dropLast) (acc := [])
          simp at this ⊢
          omega)
      have eu : enuOf (.loc (h1.length + 1)) h2 = .ok ⟨enumD 0 ((splitL 10 [] l.dropLast).map T), [(h1.length + 1, (splitL 10 [] l.dropLast).map T)]⟩ h2 := by
        simp only [enuOf, hL2]
      have frh : ∀ {h'}, Fr [h.length] h2 h' → Fr [] h h' := fun {h'} fr => by
        refine ⟨?_, fun m hm _ => ?_⟩
        · have := fr.1
          rw [hh2, hh1] at this
          simp at this
          omega
        · rw [fr.2 m (by rw [hh2, hh1]; simp; omega) (by simp; omega), hh2, hh1, List.append_assoc, List.getElem?_append_left hm]
      simp only [sizes] at hh1
      cases hp : parseL (splitL 10 [] l.dropLast) 0 [] with
      | inl es =>
        rw [hp] at pl
        obtain ⟨y3, y4, y5, h3, e3, hE3, fr3⟩ := pl
        refine ⟨h.length, h3, ?_, hE3, frh fr3, Nat.le_refl _⟩
        rw [calls_df d14]
        unfold runDf b_parse_events
        have ok := okSizes
        simp only [sizes] at ok
        simp only [↓ev_lc, List.length_cons, List.length_nil, Nat.zero_add, Nat.reduceAdd, Nat.reduceSub, if_true, if_false, List.map_cons, List.map_nil, List.replicate_succ, List.replicate_zero, List.cons_append, List.nil_append, exs_nil, exs_cons, seqR_nx, seqR_rt, seqR_th, ex_ass, ex_asA, ex_asS, ex_exp, ex_ret, ex_rtN, ex_brk, ex_cnt, ex_pas, ex_ite, iteB_t, iteB_f, ex_for, forR_ok, ex_rai, raiR_s, ex_try, forF_nm, inS_ok, inSs_ok, unS_ok, ev, evs, bind_ok, opt_some, getS, setS, En.free, List.getElem?_cons_zero, List.getElem?_cons_succ, Option.bind_some, id_eq, List.set_cons_zero, List.set_cons_succ, Option.isSome_none, Bool.false_and, Bool.false_eq_true, add_int, sub_int, int_int, eq_int, ne_int, lt_int, le_int, gt_int, ge_int, ne_bl, is_non, isnot_non, len_tup, ct_call, abs_int, tru_b, truth, decide_true, decide_false, reduceCtorEq, R.calm, e_nil, eq, hne, PM.sizeLine, Nat.reducePow, Nat.zero_le, pairUp, Option.map_some, ok, List.append_assoc, List.length_append, ← hh1, evIt, tl, eu, e3]
      | inr i =>
        rw [hp] at pl
        obtain ⟨n', h3, e3, fr3⟩ := pl
        refine ⟨h3, ?_, frh fr3⟩
        rw [calls_df d14]
        unfold runDf b_parse_events
        have ok := okSizes
        simp only [sizes] at ok
        simp only [↓ev_lc, List.length_cons, List.length_nil, Nat.zero_add, Nat.reduceAdd, Nat.reduceSub, if_true, if_false, List.map_cons, List.map_nil, List.replicate_succ, List.replicate_zero, List.cons_append, List.nil_append, exs_nil, exs_cons, seqR_nx, seqR_rt, seqR_th, ex_ass, ex_asA, ex_asS, ex_exp, ex_ret, ex_rtN, ex_brk, ex_cnt, ex_pas, ex_ite, iteB_t, iteB_f, ex_for, forR_ok, ex_rai, raiR_s, ex_try, forF_nm, inS_ok, inSs_ok, unS_ok, ev, evs, bind_ok, opt_some, getS, setS, En.free, List.getElem?_cons_zero, List.getElem?_cons_succ, Option.bind_some, id_eq, List.set_cons_zero, List.set_cons_succ, Option.isSome_none, Bool.false_and, Bool.false_eq_true, add_int, sub_int, int_int, eq_int, ne_int, lt_int, le_int, gt_int, ge_int, ne_bl, is_non, isnot_non, len_tup, ct_call, abs_int, tru_b, truth, decide_true, decide_false, reduceCtorEq, R.calm, e_nil, eq, hne, PM.sizeLine, Nat.reducePow, Nat.zero_le, pairUp, Option.map_some, ok, List.append_assoc, List.length_append, ← hh1, evIt, tl, eu, e3]
    · rw [if_neg h10]
      rw [if_neg h10] at tl
      refine ⟨h1, ?_, by rw [hh1]; exact Fr.app⟩
      rw [calls_df d14]
      unfold runDf b_parse_events
      have ok := okSizes
      simp only [sizes] at ok hh1
      simp only [↓ev_lc, List.length_cons, List.length_nil, Nat.zero_add, Nat.reduceAdd, Nat.reduceSub, if_true, if_false, List.map_cons, List.map_nil, List.replicate_succ, List.replicate_zero, List.cons_append, List.nil_append, exs_nil, exs_cons, seqR_nx, seqR_rt, seqR_th, ex_ass, ex_asA, ex_asS, ex_exp, ex_ret, ex_rtN, ex_brk, ex_cnt, ex_pas, ex_ite, iteB_t, iteB_f, ex_for, forR_ok, ex_rai, raiR_s, ex_try, forF_nm, inS_ok, inSs_ok, unS_ok, ev, evs, bind_ok, opt_some, getS, setS, En.free, List.getElem?_cons_zero, List.getElem?_cons_succ, Option.bind_some, id_eq, List.set_cons_zero, List.set_cons_succ, Option.isSome_none, Bool.false_and, Bool.false_eq_true, add_int, sub_int, int_int, eq_int, ne_int, lt_int, le_int, gt_int, ge_int, ne_bl, is_non, isnot_non, len_tup, ct_call, abs_int, tru_b, truth, decide_true, decide_false, reduceCtorEq, R.calm, e_nil, eq, hne, PM.sizeLine, Nat.reducePow, Nat.zero_le, pairUp, Option.map_some, ok, List.append_assoc, List.length_append, ← hh1, evIt, tl, bind_exc, forR]
      rfl
end
end K41
set_option Elab.async false
set_option linter.all false
set_option maxRecDepth 100000
set_option maxHeartbeats 4000000
namespace K41
open PySem PM
theorem Ok.piece {c : Nat} {l p : List Nat} (h : Ok l) (hp : p ∈ splitL c [] l) : Ok p := fun x hx => by
  rcases (pieces hp).1 x hx with z | z
  · cases z
  · exact h x z
theorem okP : Ok wP := by unfold Ok wP; decide
theorem okT : Ok wT := by unfold Ok wT; decide
theorem okH : Ok wH := by unfold Ok wH; decide
theorem str_dec {a b : List Nat} : decide ((⟨a.toArray⟩ : Str) = ⟨b.toArray⟩) = decide (a = b) := by
  by_cases h : a = b
  · simp [h]
  · rw [decide_eq_false h, decide_eq_false]
    exact fun z => h (T_inj (congrArg D.str z))
theorem in_three {h : Hh} {w : List Nat} (hw : Ok w) : inop h (T w) (.tup [.str "press", .str "tick", .str "hand"]) = some (wsize w).isSome := by
  rw [s_P, s_T, s_H]
  have g := good_T hw
  have g1 := good_T okP
  have g2 := good_T okT
  have g3 := good_T okH
  simp only [inop, g, g1, g2, g3, List.all_cons, List.all_nil, Bool.and_self, if_true, List.any_cons, List.any_nil, D.eq, str_dec, Bool.or_false]
  unfold wsize
  by_cases h1 : w = wP
  · simp [h1]
  · by_cases h2 : w = wT
    · have : ¬ wT = wP := by decide
      simp [h2, this]
    · by_cases h3 : w = wH
      · have q1 : ¬ wH = wP := by decide
        have q2 : ¬ wH = wT := by decide
        simp [h3, q1, q2]
      · simp [h1, h2, h3, Ne.symm h1, Ne.symm h2, Ne.symm h3]
theorem any_tNm (r : List (List Nat)) : (r.map T).any tNm = !r.all isNm := by
  induction r with
  | nil => rfl
  | cons y ys ih =>
    have et : tNm (T y) = !isNm y := by simp [tNm]
    rw [List.map_cons, List.any_cons, ih, et, List.all_cons, Bool.not_and]
section
variable {k : Nat} {h : Hh}
theorem line_event {l : List Nat} (hl : l.length + 2 ≤ PM.sizeLine) (ho : Ok l) : ∃ h', calls Q (k + 2) 18 [T l] h = .ok (if lineB (splitL 32 [] l) = true then tupT (splitL 32 [] l) else .non) h' ∧ Fr [] h h' := by
  obtain ⟨w, r, ew⟩ := split_cons (c := 32) (l := l) (acc := [])
  have sp := split_T (h := h) (l := l) (c := 32) hl (by decide)
  have ow : Ok w := ho.piece (c := 32) (by rw [ew]; exact List.mem_cons_self)
  have lr : ∀ y ∈ r, y.length ≤ PM.sizeLine := fun y hy => by
    have := (pieces (c := 32) (l := l) (acc := []) (p := y) (by rw [ew]; exact List.mem_cons_of_mem _ hy)).2
    simp at this
    omega
  rw [ew] at sp ⊢
  obtain ⟨h1, hh1⟩ : ∃ h1, h1 = h ++ [.lst ((w :: r).map T)] := ⟨_, rfl⟩
  rw [← hh1] at sp
  have m1 : h1[h.length]? = some (.lst ((w :: r).map T)) := by rw [hh1]; exact last_get
  have s0 := sub_lst (k := 0) (d := T w) m1 (atI_nat (by decide) rfl)
  have ni := fun C hb => notin_of (C := C) (hb := hb) (in_three (h := h1) ow)
  have ln' : blt .len [.loc h.length] h1 = .ok (.int ((r.length + 1 : Nat) : Int)) h1 := by rw [len_lst m1]; simp
  have fr1 : Fr [] h h1 := by rw [hh1]; exact Fr.app
  have ok := okSizes
  cases hw : wsize w with
  | none =>
    rw [hw] at ni
    refine ⟨h1, ?_, fr1⟩
    have hb : lineB (w :: r) = false := by simp [lineB, hw]
    rw [hb, calls_df d18]
    unfold runDf b__law_line_event
    simp only [↓ev_lc, List.length_cons, List.length_nil, Nat.zero_add, Nat.reduceAdd, Nat.reduceSub, if_true, if_false, List.map_cons, List.map_nil, List.replicate_succ, List.replicate_zero, List.cons_append, List.nil_append, exs_nil, exs_cons, seqR_nx, seqR_rt, seqR_th, ex_ass, ex_asA, ex_asS, ex_exp, ex_ret, ex_rtN, ex_brk, ex_cnt, ex_pas, ex_ite, iteB_t, iteB_f, ex_for, forR_ok, ex_rai, raiR_s, ex_try, forF_nm, inS_ok, inSs_ok, unS_ok, ev, evs, bind_ok, opt_some, getS, setS, En.free, List.getElem?_cons_zero, List.getElem?_cons_succ, Option.bind_some, id_eq, List.set_cons_zero, List.set_cons_succ, Option.isSome_none, Bool.false_and, Bool.false_eq_true, add_int, sub_int, int_int, eq_int, ne_int, lt_int, le_int, gt_int, ge_int, ne_bl, is_non, isnot_non, len_tup, ct_call, abs_int, tru_b, truth, decide_true, decide_false, reduceCtorEq, R.calm, e_sp, split_bm, sp, s0, PM.sizeLine, Nat.reducePow, Nat.reduceLeDiff, ni, Option.isSome_none, Bool.not_false]
  | some n =>
    rw [hw] at ni
    obtain ⟨h2, hh2⟩ : ∃ h2, h2 = h1 ++ [.dct sizes] := ⟨_, rfl⟩
    have z2 : h2[h1.length]? = some (.dct sizes) := by rw [hh2]; exact last_get
    have m2 : h2[h.length]? = some (.lst ((w :: r).map T)) := by rw [hh2]; exact at_app m1
    have s2 := sub_lst (k := 0) (d := T w) m2 (atI_nat (by decide) rfl)
    have sd := sub_dct z2 hw
    have fr2 : Fr [] h h2 := by rw [hh2]; exact fr1.trans Fr.app
    by_cases hn : r.length + 1 = n
    · have hn' : (((r.length + 1 : Nat) : Int) = (n : Nat)) := by rw [hn]
      have sl := slc_lst (lo := some 1) (hi := none) m2
      rw [List.map_cons, cut_tail] at sl
      obtain ⟨h3, hh3⟩ : ∃ h3, h3 = h2 ++ [.lst (r.map T)] := ⟨_, rfl⟩
      rw [← hh3] at sl
      have m3 : h3[h2.length]? = some (.lst (r.map T)) := by rw [hh3]; exact last_get
      have sr := src_lst m3
      have fr3 : Fr [] h h3 := by rw [hh3]; exact fr2.trans Fr.app
      obtain ⟨g1, g2⟩ := forGo_any (f := forF (Q.ct (calls Q (k + 1))) (.nm 2) b__law_line_event_1) (ok := Src.still ⟨r.map T, [(h2.length, r.map T)]⟩) (h := h3) (d := .non) (still_lst m3) (fun n => ∃ x, n = ⟨[some (T l), some (.loc h.length), x], none⟩) tNm (its := r.map T) (fun x hx n i => by
        obtain ⟨y, rfl⟩ := i
        obtain ⟨z, hz, rfl⟩ := List.mem_map.mp hx
        have e := law_is_name_T (k := k) (h := h3) d17 (lr z hz)
        have et : tNm (T z) = !isNm z := by simp [tNm]
        rw [et]
        unfold b__law_line_event_1
        refine ⟨fun q => ?_, fun q => ⟨⟨[some (T l), some (.loc h.length), some (T z)], none⟩, ?_, _, rfl⟩⟩
        · simp only [↓ev_lc, List.length_cons, List.length_nil, Nat.zero_add, Nat.reduceAdd, Nat.reduceSub, if_true, if_false, List.map_cons, List.map_nil, List.replicate_succ, List.replicate_zero, List.cons_append, List.nil_append, exs_nil, exs_cons, seqR_nx, seqR_rt, seqR_th, ex_ass, ex_asA, ex_asS, ex_exp, ex_ret, ex_rtN, ex_brk, ex_cnt, ex_pas, ex_ite, iteB_t, iteB_f, ex_for, forR_ok, ex_rai, raiR_s, ex_try, forF_nm, inS_ok, inSs_ok, unS_ok, ev, evs, bind_ok, opt_some, getS, setS, En.free, List.getElem?_cons_zero, List.getElem?_cons_succ, Option.bind_some, id_eq, List.set_cons_zero, List.set_cons_succ, Option.isSome_none, Bool.false_and, Bool.false_eq_true, add_int, sub_int, int_int, eq_int, ne_int, lt_int, le_int, gt_int, ge_int, ne_bl, is_non, isnot_non, len_tup, ct_call, abs_int, tru_b, truth, decide_true, decide_false, reduceCtorEq, R.calm, e, q]
        · simp only [↓ev_lc, List.length_cons, List.length_nil, Nat.zero_add, Nat.reduceAdd, Nat.reduceSub, if_true, if_false, List.map_cons, List.map_nil, List.replicate_succ, List.replicate_zero, List.cons_append, List.nil_append, exs_nil, exs_cons, seqR_nx, seqR_rt, seqR_th, ex_ass, ex_asA, ex_asS, ex_exp, ex_ret, ex_rtN, ex_brk, ex_cnt, ex_pas, ex_ite, iteB_t, iteB_f, ex_for, forR_ok, ex_rai, raiR_s, ex_try, forF_nm, inS_ok, inSs_ok, unS_ok, ev, evs, bind_ok, opt_some, getS, setS, En.free, List.getElem?_cons_zero, List.getElem?_cons_succ, Option.bind_some, id_eq, List.set_cons_zero, List.set_cons_succ, Option.isSome_none, Bool.false_and, Bool.false_eq_true, add_int, sub_int, int_int, eq_int, ne_int, lt_int, le_int, gt_int, ge_int, ne_bl, is_non, isnot_non, len_tup, ct_call, abs_int, tru_b, truth, decide_true, decide_false, reduceCtorEq, R.calm, e, q]) ⟨[some (T l), some (.loc h.length), none], none⟩ ⟨none, rfl⟩
      have ea := any_tNm r
      rw [ea] at g1 g2
      refine ⟨h3, ?_, fr3⟩
      simp only [sizes] at ok hh2
      rw [calls_df d18]
      unfold runDf b__law_line_event
      cases ha : r.all isNm with
      | true =>
        obtain ⟨n', e1, x, rfl⟩ := g2 (by rw [ha]; rfl)
        have hb : lineB (w :: r) = true := by simp [lineB, hw, hn, ha]
        have m3' : h3[h.length]? = some (.lst ((w :: r).map T)) := by rw [hh3]; exact at_app m2
        have tu : blt .tuple [.loc h.length] h3 = .ok (tupT (w :: r)) h3 := by simp only [blt, bTuple, m3', tupT]
        simp only [↓ev_lc, List.length_cons, List.length_nil, Nat.zero_add, Nat.reduceAdd, Nat.reduceSub, if_true, if_false, List.map_cons, List.map_nil, List.replicate_succ, List.replicate_zero, List.cons_append, List.nil_append, exs_nil, exs_cons, seqR_nx, seqR_rt, seqR_th, ex_ass, ex_asA, ex_asS, ex_exp, ex_ret, ex_rtN, ex_brk, ex_cnt, ex_pas, ex_ite, iteB_t, iteB_f, ex_for, forR_ok, ex_rai, raiR_s, ex_try, forF_nm, inS_ok, inSs_ok, unS_ok, ev, evs, bind_ok, opt_some, getS, setS, En.free, List.getElem?_cons_zero, List.getElem?_cons_succ, Option.bind_some, id_eq, List.set_cons_zero, List.set_cons_succ, Option.isSome_none, Bool.false_and, Bool.false_eq_true, add_int, sub_int, int_int, eq_int, ne_int, lt_int, le_int, gt_int, ge_int, ne_bl, is_non, isnot_non, len_tup, ct_call, abs_int, tru_b, truth, decide_true, decide_false, reduceCtorEq, R.calm, e_sp, split_bm, sp, s0, PM.sizeLine, Nat.reducePow, Nat.reduceLeDiff, ni, Option.isSome_some, Bool.not_true, ln', pairUp, Option.map_some, ok, ← hh2, s2, sd, hn', evIt, intOf_int, sl, sr, e1, tu, hb]
      | false =>
        have e1 := g1 (by rw [ha]; rfl)
        have hb : lineB (w :: r) = false := by simp [lineB, hw, hn, ha]
        simp only [↓ev_lc, List.length_cons, List.length_nil, Nat.zero_add, Nat.reduceAdd, Nat.reduceSub, if_true, if_false, List.map_cons, List.map_nil, List.replicate_succ, List.replicate_zero, List.cons_append, List.nil_append, exs_nil, exs_cons, seqR_nx, seqR_rt, seqR_th, ex_ass, ex_asA, ex_asS, ex_exp, ex_ret, ex_rtN, ex_brk, ex_cnt, ex_pas, ex_ite, iteB_t, iteB_f, ex_for, forR_ok, ex_rai, raiR_s, ex_try, forF_nm, inS_ok, inSs_ok, unS_ok, ev, evs, bind_ok, opt_some, getS, setS, En.free, List.getElem?_cons_zero, List.getElem?_cons_succ, Option.bind_some, id_eq, List.set_cons_zero, List.set_cons_succ, Option.isSome_none, Bool.false_and, Bool.false_eq_true, add_int, sub_int, int_int, eq_int, ne_int, lt_int, le_int, gt_int, ge_int, ne_bl, is_non, isnot_non, len_tup, ct_call, abs_int, tru_b, truth, decide_true, decide_false, reduceCtorEq, R.calm, e_sp, split_bm, sp, s0, PM.sizeLine, Nat.reducePow, Nat.reduceLeDiff, ni, Option.isSome_some, Bool.not_true, ln', pairUp, Option.map_some, ok, ← hh2, s2, sd, hn', evIt, intOf_int, sl, sr, e1, hb]
    · have hn' : ¬ (((r.length + 1 : Nat) : Int) = (n : Nat)) := by omega
      have hb : lineB (w :: r) = false := by simp [lineB, hw, hn]
      refine ⟨h2, ?_, fr2⟩
      simp only [sizes] at ok hh2
      rw [calls_df d18]
      unfold runDf b__law_line_event
      simp only [↓ev_lc, List.length_cons, List.length_nil, Nat.zero_add, Nat.reduceAdd, Nat.reduceSub, if_true, if_false, List.map_cons, List.map_nil, List.replicate_succ, List.replicate_zero, List.cons_append, List.nil_append, exs_nil, exs_cons, seqR_nx, seqR_rt, seqR_th, ex_ass, ex_asA, ex_asS, ex_exp, ex_ret, ex_rtN, ex_brk, ex_cnt, ex_pas, ex_ite, iteB_t, iteB_f, ex_for, forR_ok, ex_rai, raiR_s, ex_try, forF_nm, inS_ok, inSs_ok, unS_ok, ev, evs, bind_ok, opt_some, getS, setS, En.free, List.getElem?_cons_zero, List.getElem?_cons_succ, Option.bind_some, id_eq, List.set_cons_zero, List.set_cons_succ, Option.isSome_none, Bool.false_and, Bool.false_eq_true, add_int, sub_int, int_int, eq_int, ne_int, lt_int, le_int, gt_int, ge_int, ne_bl, is_non, isnot_non, len_tup, ct_call, abs_int, tru_b, truth, decide_true, decide_false, reduceCtorEq, R.calm, e_sp, split_bm, sp, s0, PM.sizeLine, Nat.reducePow, Nat.reduceLeDiff, ni, Option.isSome_some, Bool.not_true, Bool.not_false, ln', pairUp, Option.map_some, ok, ← hh2, s2, sd, hn', hb]
end
end K41
set_option Elab.async false
set_option linter.all false
set_option maxRecDepth 100000
set_option maxHeartbeats 4000000
namespace K41
open PySem PM
theorem rangeD_cons {lo : Int} {n : Nat} : rangeD lo (n + 1) = .int lo :: rangeD (lo + 1) n := by
  unfold rangeD
  rw [List.range_succ_eq_map, List.map_cons, List.map_map]
  congr 1
  · simp
  · apply List.map_congr_left
    intro i _
    simp only [Function.comp]
    congr 1
    omega
section
variable {k : Nat}
theorem due_loop {E L : Nat} {L0 : List (List Nat)} {its : List D} {x0 : Option D} (nL : L ≠ E) (hl : ∀ l ∈ L0, l.length + 2 ≤ PM.sizeLine ∧ Ok l) : ∀ (ls : List (List Nat)) (j : Nat) (acc : List Ev) (h : Hh) (x3 x4 : Option D), L0.drop j = ls → h[E]? = some (.lst (acc.map tupT)) → h[L]? = some (.lst (L0.map T)) → acc.length + ls.length < PM.sizeLine →
    match parseL ls j acc with
    | .inl es => ∃ y3 y4 h', forGo (forF (Q.ct (calls Q (k + 2))) (.nm 3) b__law_due_1) (Src.still ⟨its, []⟩) (rangeD j ls.length) ⟨[x0, some (.loc E), some (.loc L), x3, x4], none⟩ h = .nx ⟨[x0, some (.loc E), some (.loc L), y3, y4], none⟩ h' ∧ h'[E]? = some (.lst (es.map tupT)) ∧ Fr [E] h h'
    | .inr i => ∃ h', forGo (forF (Q.ct (calls Q (k + 2))) (.nm 3) b__law_due_1) (Src.still ⟨its, []⟩) (rangeD j ls.length) ⟨[x0, some (.loc E), some (.loc L), x3, x4], none⟩ h = .rt (.int (i : Nat)) h' ∧ Fr [E] h h'
  | [], j, acc, h, x3, x4, _, hE, hL, _ => ⟨x3, x4, h, forGo_nil still_none, hE, Fr.refl⟩
  | l :: ls, j, acc, h, x3, x4, hd, hE, hL, hc => by
    have hj : L0[j]? = some l := by
      have := congrArg (fun z => z[0]?) hd
      simpa using this
    obtain ⟨hl1, hl2⟩ := hl l (List.mem_of_getElem? hj)
    obtain ⟨h1, e1, fr1⟩ := line_event (k := k) (h := h) hl1 hl2
    have sb := sub_lst (k := (j : Nat)) (d := T l) hL (atI_nat (by omega) (by simp [hj]))
    have hE1 := fr1.at hE (by simp)
    have hL1 := fr1.at hL (by simp)
    have hd' : L0.drop (j + 1) = ls := by
      rw [← List.drop_drop, hd]
      rfl
    rw [List.length_cons, rangeD_cons]
    simp only [parseL]
    cases hb : lineB (splitL 32 [] l) with
    | true =>
      rw [hb, if_pos rfl] at e1
      have bo := bm_lst hE1
      have ap := app_lst (v := tupT (splitL 32 [] l)) hE1 (by simp at hc ⊢; omega)
      have nn : decide (tupT (splitL 32 [] l) = .non) = false := rfl
      have st : forF (Q.ct (calls Q (k + 2))) (.nm 3) b__law_due_1 (.int (j : Nat)) ⟨[x0, some (.loc E), some (.loc L), x3, x4], none⟩ h = .nx ⟨[x0, some (.loc E), some (.loc L), some (.int (j : Nat)), some (tupT (splitL 32 [] l))], none⟩ (h1.set E (.lst (acc.map tupT ++ [tupT (splitL 32 [] l)]))) := by
        unfold b__law_due_1
        simp only [↓ev_lc, List.length_cons, List.length_nil, Nat.zero_add, Nat.reduceAdd, Nat.reduceSub, if_true, if_false, List.map_cons, List.map_nil, List.replicate_succ, List.replicate_zero, List.cons_append, List.nil_append, exs_nil, exs_cons, seqR_nx, seqR_rt, seqR_th, ex_ass, ex_asA, ex_asS, ex_exp, ex_ret, ex_rtN, ex_brk, ex_cnt, ex_pas, ex_ite, iteB_t, iteB_f, ex_for, forR_ok, ex_rai, raiR_s, ex_try, forF_nm, inS_ok, inSs_ok, unS_ok, ev, evs, bind_ok, opt_some, getS, setS, En.free, List.getElem?_cons_zero, List.getElem?_cons_succ, Option.bind_some, id_eq, List.set_cons_zero, List.set_cons_succ, Option.isSome_none, Bool.false_and, Bool.false_eq_true, add_int, sub_int, int_int, eq_int, ne_int, lt_int, le_int, gt_int, ge_int, ne_bl, is_non, isnot_non, len_tup, ct_call, abs_int, tru_b, truth, decide_true, decide_false, reduceCtorEq, R.calm, sb, e1, nn, bo, ap]
      have fr2 : Fr [E] h (h1.set E (.lst (acc.map tupT ++ [tupT (splitL 32 [] l)]))) := (fr1.nil).trans (Fr.set (by simp))
      have ih := due_loop (its := its) (x0 := x0) nL hl ls (j + 1) (acc ++ [splitL 32 [] l]) (h1.set E (.lst (acc.map tupT ++ [tupT (splitL 32 [] l)]))) (some (.int (j : Nat))) (some (tupT (splitL 32 [] l))) hd' (by rw [at_self hE1]; simp) (at_set hL1 (Ne.symm nL)) (by simp at hc ⊢; omega)
      rw [if_pos rfl]
      have st2 := forGo_nx (xs := rangeD ((j : Int) + 1) ls.length) (still_none (xs := its)) st
      have ej : ((j : Nat) : Int) + 1 = ((j + 1 : Nat) : Int) := by omega
      rw [ej] at st2 ⊢
      cases hp : parseL ls (j + 1) (acc ++ [splitL 32 [] l]) with
      | inl es =>
        rw [hp] at ih
        obtain ⟨y3, y4, h2, e2, hE2, fr3⟩ := ih
        exact ⟨y3, y4, h2, st2.trans e2, hE2, fr2.trans fr3⟩
      | inr i =>
        rw [hp] at ih
        obtain ⟨h2, e2, fr3⟩ := ih
        exact ⟨h2, st2.trans e2, fr2.trans fr3⟩
    | false =>
      rw [hb, if_neg (by simp)] at e1
      rw [if_neg (by simp)]
      refine ⟨h1, ?_, fr1.nil⟩
      refine forGo_rt still_none ?_
      unfold b__law_due_1
      simp only [↓ev_lc, List.length_cons, List.length_nil, Nat.zero_add, Nat.reduceAdd, Nat.reduceSub, if_true, if_false, List.map_cons, List.map_nil, List.replicate_succ, List.replicate_zero, List.cons_append, List.nil_append, exs_nil, exs_cons, seqR_nx, seqR_rt, seqR_th, ex_ass, ex_asA, ex_asS, ex_exp, ex_ret, ex_rtN, ex_brk, ex_cnt, ex_pas, ex_ite, iteB_t, iteB_f, ex_for, forR_ok, ex_rai, raiR_s, ex_try, forF_nm, inS_ok, inSs_ok, unS_ok, ev, evs, bind_ok, opt_some, getS, setS, En.free, List.getElem?_cons_zero, List.getElem?_cons_succ, Option.bind_some, id_eq, List.set_cons_zero, List.set_cons_succ, Option.isSome_none, Bool.false_and, Bool.false_eq_true, add_int, sub_int, int_int, eq_int, ne_int, lt_int, le_int, gt_int, ge_int, ne_bl, is_non, isnot_non, len_tup, ct_call, abs_int, tru_b, truth, decide_true, decide_false, reduceCtorEq, R.calm, sb, e1]
      congr 2
theorem Ok.dropLast {l : List Nat} (h : Ok l) : Ok l.dropLast := fun c hc => h c (List.dropLast_subset l hc)
/-- the law's reading of a text -/
theorem due {l : List Nat} {h : Hh} (hl : l.length ≤ 1000000) (ho : Ok l) :
    match parseT l with
    | .inl es => ∃ E h', calls Q (k + 3) 19 [T l] h = .ok (.loc E) h' ∧ h'[E]? = some (.lst (es.map tupT)) ∧ Fr [] h h' ∧ h.length ≤ E
    | .inr i => ∃ h', calls Q (k + 3) 19 [T l] h = .ok (.int (i : Nat)) h' ∧ Fr [] h h' := by
  have eq := fun C hb => eq_str (C := C) (hb := hb) (h := h) (good_T ho) (good_T (l := []) (fun _ z => by cases z))
  have hsz : PM.sizeLine = 16777216 := rfl
  unfold parseT
  by_cases h0 : l = []
  · subst h0
    rw [if_pos rfl]
    refine ⟨h.length, h ++ [.lst []], ?_, last_get, Fr.app, Nat.le_refl _⟩
    rw [calls_df d19]
    unfold runDf b__law_due
    simp only [↓ev_lc, List.length_cons, List.length_nil, Nat.zero_add, Nat.reduceAdd, Nat.reduceSub, if_true, if_false, List.map_cons, List.map_nil, List.replicate_succ, List.replicate_zero, List.cons_append, List.nil_append, exs_nil, exs_cons, seqR_nx, seqR_rt, seqR_th, ex_ass, ex_asA, ex_asS, ex_exp, ex_ret, ex_rtN, ex_brk, ex_cnt, ex_pas, ex_ite, iteB_t, iteB_f, ex_for, forR_ok, ex_rai, raiR_s, ex_try, forF_nm, inS_ok, inSs_ok, unS_ok, ev, evs, bind_ok, opt_some, getS, setS, En.free, List.getElem?_cons_zero, List.getElem?_cons_succ, Option.bind_some, id_eq, List.set_cons_zero, List.set_cons_succ, Option.isSome_none, Bool.false_and, Bool.false_eq_true, add_int, sub_int, int_int, eq_int, ne_int, lt_int, le_int, gt_int, ge_int, ne_bl, is_non, isnot_non, len_tup, ct_call, abs_int, tru_b, truth, decide_true, decide_false, reduceCtorEq, R.calm, e_nil, eq, PM.sizeLine, Nat.reducePow, Nat.zero_le]
  · rw [if_neg h0]
    have hne : ¬ (⟨l.toArray⟩ : Str) = ⟨([] : List Nat).toArray⟩ := fun z => h0 (T_inj (congrArg D.str z))
    obtain ⟨c, hc⟩ : ∃ c, l.getLast? = some c := ⟨_, List.getLast?_eq_some_getLast h0⟩
    have oc : Ok [c] := fun x hx => by
      rw [List.mem_singleton] at hx
      subst hx
      exact ho _ (List.mem_of_getLast? hc)
    have hpos : 0 < l.length := List.length_pos_iff.mpr h0
    have sb : subop (T l) (.int (-1)) h = .ok (T [c]) h := sub_str (by rw [T_len]; omega) (by
      show atI l (-1) = some c
      unfold PM.atI PM.ixN
      have e1 : ¬ (0 : Int) ≤ -1 := by decide
      have e2 : -(l.length : Int) ≤ -1 := by omega
      rw [if_neg e1, if_pos e2]
      have e3 : ((-1 : Int) + (l.length : Nat)).toNat = l.length - 1 := by omega
      rw [e3]
      show l[l.length - 1]? = some c
      rw [← List.getLast?_eq_getElem?]
      exact hc)
    have ne := fun C hb => ne_str (C := C) (hb := hb) (h := h) (good_T oc) (good_T (l := [10]) (by intro x hx; rw [List.mem_singleton] at hx; omega))
    by_cases h10 : c = 10
    · subst h10
      rw [if_pos hc]
      have sl : slcop (T l) none (some (-1)) (h ++ [.lst []]) = .ok (T l.dropLast) (h ++ [.lst []]) := by
        have : (⟨l.toArray⟩ : Str).length ≤ PM.sizeLine := by rw [T_len]; omega
        simp only [slcop, T, this, if_true, cutT, cut_last]
      have sp := split_T (h := h ++ [.lst []]) (l := l.dropLast) (c := 10) (by simp; omega) (by decide)
      obtain ⟨h1, hh1⟩ : ∃ h1, h1 = h ++ [.lst []] := ⟨_, rfl⟩
      rw [← hh1] at sl sp
      obtain ⟨h2, hh2⟩ : ∃ h2, h2 = h1 ++ [.lst ((splitL 10 [] l.dropLast).map T)] := ⟨_, rfl⟩
      rw [← hh2] at sp
      have l1 : h1.length = h.length + 1 := by rw [hh1]; simp
      have hE2 : h2[h.length]? = some (.lst []) := by rw [hh2, hh1]; exact at_app last_get
      have hL2 : h2[h1.length]? = some (.lst ((splitL 10 [] l.dropLast).map T)) := by rw [hh2]; exact last_get
      have ln := len_lst hL2
      rw [List.length_map] at ln
      have dl := due_loop (k := k) (E := h.length) (L := h1.length) (L0 := splitL 10 [] l.dropLast) (its := rangeD 0 (splitL 10 [] l.dropLast).length) (x0 := some (T l)) (by omega) (fun p hp => ⟨by
        have := (pieces hp).2
        simp at this
        omega, ho.dropLast.piece hp⟩) (splitL 10 [] l.dropLast) 0 [] h2 none none rfl hE2 hL2 (by
          have := splitL_len (c := 10) (l := l.dropLast) (acc := [])
          simp at this ⊢
          omega)
      have ok : okR ((splitL 10 [] l.dropLast).length : Int) = true := by
        have := splitL_len (c := 10) (l := l.dropLast) (acc := [])
        unfold okR
        simp only [Bool.and_eq_true, decide_eq_true_eq]
        simp at this
        omega
      have frh : ∀ {h'}, Fr [h.length] h2 h' → Fr [] h h' := fun {h'} fr => by
        refine ⟨?_, fun m hm _ => ?_⟩
        · have := fr.1
          rw [hh2, hh1] at this
          simp at this
          omega
        · rw [fr.2 m (by rw [hh2, hh1]; simp; omega) (by simp; omega), hh2, hh1, List.append_assoc, List.getElem?_append_left hm]
      cases hp : parseL (splitL 10 [] l.dropLast) 0 [] with
      | inl es =>
        rw [hp] at dl
        obtain ⟨y3, y4, h3, e3, hE3, fr3⟩ := dl
        rw [show ((0 : Nat) : Int) = 0 from rfl] at e3
        refine ⟨h.length, h3, ?_, hE3, frh fr3, Nat.le_refl _⟩
        rw [calls_df d19]
        unfold runDf b__law_due
        simp only [↓ev_lc, List.length_cons, List.length_nil, Nat.zero_add, Nat.reduceAdd, Nat.reduceSub, if_true, if_false, List.map_cons, List.map_nil, List.replicate_succ, List.replicate_zero, List.cons_append, List.nil_append, exs_nil, exs_cons, seqR_nx, seqR_rt, seqR_th, ex_ass, ex_asA, ex_asS, ex_exp, ex_ret, ex_rtN, ex_brk, ex_cnt, ex_pas, ex_ite, iteB_t, iteB_f, ex_for, forR_ok, ex_rai, raiR_s, ex_try, forF_nm, inS_ok, inSs_ok, unS_ok, ev, evs, bind_ok, opt_some, getS, setS, En.free, List.getElem?_cons_zero, List.getElem?_cons_succ, Option.bind_some, id_eq, List.set_cons_zero, List.set_cons_succ, Option.isSome_none, Bool.false_and, Bool.false_eq_true, add_int, sub_int, int_int, eq_int, ne_int, lt_int, le_int, gt_int, ge_int, ne_bl, is_non, isnot_non, len_tup, ct_call, abs_int, tru_b, truth, decide_true, decide_false, reduceCtorEq, R.calm, e_nil, e_nl, eq, hne, PM.sizeLine, Nat.reducePow, Nat.zero_le, intOf_int, sb, ne, Bool.not_true, ← hh1, sl, split_bm, sp, evIt, ln, ok, Int.toNat_natCast, e3]
      | inr i =>
        rw [hp] at dl
        obtain ⟨h3, e3, fr3⟩ := dl
        rw [show ((0 : Nat) : Int) = 0 from rfl] at e3
        refine ⟨h3, ?_, frh fr3⟩
        rw [calls_df d19]
        unfold runDf b__law_due
        simp only [↓ev_lc, List.length_cons, List.length_nil, Nat.zero_add, Nat.reduceAdd, Nat.reduceSub, if_true, if_false, List.map_cons, List.map_nil, List.replicate_succ, List.replicate_zero, List.cons_append, List.nil_append, exs_nil, exs_cons, seqR_nx, seqR_rt, seqR_th, ex_ass, ex_asA, ex_asS, ex_exp, ex_ret, ex_rtN, ex_brk, ex_cnt, ex_pas, ex_ite, iteB_t, iteB_f, ex_for, forR_ok, ex_rai, raiR_s, ex_try, forF_nm, inS_ok, inSs_ok, unS_ok, ev, evs, bind_ok, opt_some, getS, setS, En.free, List.getElem?_cons_zero, List.getElem?_cons_succ, Option.bind_some, id_eq, List.set_cons_zero, List.set_cons_succ, Option.isSome_none, Bool.false_and, Bool.false_eq_true, add_int, sub_int, int_int, eq_int, ne_int, lt_int, le_int, gt_int, ge_int, ne_bl, is_non, isnot_non, len_tup, ct_call, abs_int, tru_b, truth, decide_true, decide_false, reduceCtorEq, R.calm, e_nil, e_nl, eq, hne, PM.sizeLine, Nat.reducePow, Nat.zero_le, intOf_int, sb, ne, Bool.not_true, ← hh1, sl, split_bm, sp, evIt, ln, ok, Int.toNat_natCast, e3]
    · rw [if_neg (by rw [hc]; intro z; injection z with z; exact h10 z)]
      have hne2 : ¬ (⟨([c] : List Nat).toArray⟩ : Str) = ⟨([10] : List Nat).toArray⟩ := fun z => h10 (by have := T_inj (congrArg D.str z); simpa using this)
      refine ⟨h, ?_, Fr.refl⟩
      rw [calls_df d19]
      unfold runDf b__law_due
      simp only [↓ev_lc, List.length_cons, List.length_nil, Nat.zero_add, Nat.reduceAdd, Nat.reduceSub, if_true, if_false, List.map_cons, List.map_nil, List.replicate_succ, List.replicate_zero, List.cons_append, List.nil_append, exs_nil, exs_cons, seqR_nx, seqR_rt, seqR_th, ex_ass, ex_asA, ex_asS, ex_exp, ex_ret, ex_rtN, ex_brk, ex_cnt, ex_pas, ex_ite, iteB_t, iteB_f, ex_for, forR_ok, ex_rai, raiR_s, ex_try, forF_nm, inS_ok, inSs_ok, unS_ok, ev, evs, bind_ok, opt_some, getS, setS, En.free, List.getElem?_cons_zero, List.getElem?_cons_succ, Option.bind_some, id_eq, List.set_cons_zero, List.set_cons_succ, Option.isSome_none, Bool.false_and, Bool.false_eq_true, add_int, sub_int, int_int, eq_int, ne_int, lt_int, le_int, gt_int, ge_int, ne_bl, is_non, isnot_non, len_tup, ct_call, abs_int, tru_b, truth, decide_true, decide_false, reduceCtorEq, R.calm, e_nil, e_nl, eq, hne, intOf_int, sb, ne, hne2, Bool.not_false]
      rfl
end
end K41
set_option Elab.async false
set_option linter.all false
set_option maxRecDepth 100000
set_option maxHeartbeats 4000000
namespace K41
open PySem PM
/-- a comprehension whose items are known, the heap grows -/
theorem lcGo_mapI {f : D → Hh → R (Option D)} {ok : Hh → Bool} (I : Hh → Prop) (hok : ∀ h, I h → ok h = true) (g : D → D) : ∀ {its : List D}, (∀ x ∈ its, ∀ h, I h → ∃ h', f x h = .ok (some (g x)) h' ∧ I h') → ∀ h, I h → ∃ h', lcGo f ok its h = .ok (its.map g) h' ∧ I h'
  | [], _, h, i => ⟨h, by simp only [lcGo, hok h i, if_true, List.map_nil], i⟩
  | x :: xs, hs, h, i => by
    obtain ⟨h1, e1, i1⟩ := hs x List.mem_cons_self h i
    obtain ⟨h2, e2, i2⟩ := lcGo_mapI I hok g (its := xs) (fun y hy => hs y (List.mem_cons_of_mem _ hy)) h1 i1
    exact ⟨h2, by simp only [lcGo, hok h i, if_true, e1, bind_ok, e2, List.map_cons], i2⟩
/-- a word of an event: few letters -/
def Wd (w : List Nat) : Prop := (∀ c ∈ w, c ∈ letters) ∧ w.length ≤ 7
def Evs (es : List Ev) : Prop := es.length ≤ 6 ∧ ∀ e ∈ es, e.length ≤ 3 ∧ ∀ w ∈ e, Wd w
theorem Wd.ok {w : List Nat} (h : Wd w) : Ok w := fun c hc => by
  have := letters_mem.mp (h.1 c hc)
  omega
/-- the words of a tuple, of a text: as a line -/
def lineT : D → D
  | .tup xs => match strsOf xs with
    | some ys => T (joinL [32] ys)
    | none => .non
  | _ => .non
def nlT : D → D
  | .str x => T (x.cps.toList ++ [10])
  | _ => .non
theorem lineT_tup (e : Ev) : lineT (tupT e) = T (joinL [32] e) := by simp [lineT, tupT, strs_T]
theorem nlT_T (l : List Nat) : nlT (T l) = T (l ++ [10]) := by simp [nlT]
theorem join_len {s : List Nat} : ∀ {ys : List (List Nat)}, (joinL s ys).length ≤ lenSum ys + ys.length * s.length
  | [] => by simp [joinL, lenSum]
  | [p] => by simp [joinL, lenSum]
  | p :: q :: r => by
    have := join_len (s := s) (ys := q :: r)
    simp only [joinL, List.length_append, lenSum, List.length_cons] at this ⊢
    have e : (r.length + 1 + 1) * s.length = (r.length + 1) * s.length + s.length := by rw [Nat.add_mul]; simp
    omega
theorem join_mem {s : List Nat} : ∀ {ys : List (List Nat)} {c : Nat}, c ∈ joinL s ys → c ∈ s ∨ ∃ y ∈ ys, c ∈ y
  | [], c, h => by simp [joinL] at h
  | [p], c, h => .inr ⟨p, List.mem_cons_self, by simpa [joinL] using h⟩
  | p :: q :: r, c, h => by
    simp only [joinL, List.mem_append] at h
    rcases h with h | h | h
    · exact .inr ⟨p, List.mem_cons_self, h⟩
    · exact .inl h
    · rcases join_mem h with z | ⟨y, hy, z⟩
      · exact .inl z
      · exact .inr ⟨y, List.mem_cons_of_mem _ hy, z⟩
theorem lenSum_le {n : Nat} : ∀ {ys : List (List Nat)}, (∀ y ∈ ys, y.length ≤ n) → lenSum ys ≤ ys.length * n
  | [], _ => by simp [lenSum]
  | y :: ys, h => by
    have := lenSum_le (ys := ys) fun z hz => h z (List.mem_cons_of_mem _ hz)
    have h0 := h y List.mem_cons_self
    simp only [lenSum, List.length_cons, Nat.add_mul, Nat.one_mul]
    omega
/-- a line -/
def Ln (p : List Nat) : Prop := Ok p ∧ p.length ≤ 40
theorem ev_line {e : Ev} (h3 : e.length ≤ 3) (hw : ∀ w ∈ e, Wd w) : lenSum e + e.length * 1 ≤ 24 ∧ Ln (joinL [32] e) := by
  have h1 := lenSum_le (n := 7) (ys := e) fun w h => (hw w h).2
  have h2 := join_len (s := [32]) (ys := e)
  simp at h2
  refine ⟨by omega, fun c hc => ?_, by omega⟩
  rcases join_mem hc with z | ⟨y, hy, z⟩
  · rw [List.mem_singleton] at z; omega
  · exact (hw y hy).ok c z
section
variable {k : Nat} {h : Hh}
theorem list_tup {xs : List D} : blt .list [.tup xs] h = .ok (.loc h.length) (h ++ [.lst xs]) := (rfl)
theorem ev_join {e : Ev} (h3 : e.length ≤ 3) (hw : ∀ w ∈ e, Wd w) : bmt .join (T [32]) [.loc h.length] (h ++ [.lst (e.map T)]) = .ok (T (joinL [32] e)) (h ++ [.lst (e.map T)]) :=
  join_lst last_get (by have := (ev_line h3 hw).1; simp; omega)
/-- the text of lines -/
def textOf (ps : List (List Nat)) : List Nat := joinL [] (ps.map fun p => p ++ [10])
theorem text_len {ps : List (List Nat)} (hp : ∀ p ∈ ps, Ln p) : lenSum (ps.map fun p => p ++ [10]) ≤ ps.length * 41 ∧ (textOf ps).length ≤ ps.length * 41 ∧ Ok (textOf ps) := by
  have h1 := lenSum_le (n := 41) (ys := ps.map fun p => p ++ [10]) fun w hw => by
    obtain ⟨p, hp', rfl⟩ := List.mem_map.mp hw
    have := (hp p hp').2
    simp
    omega
  rw [List.length_map] at h1
  have h2 := join_len (s := []) (ys := ps.map fun p => p ++ [10])
  simp only [List.length_nil, Nat.mul_zero, Nat.add_zero] at h2
  refine ⟨h1, Nat.le_trans h2 h1, fun c hc => ?_⟩
  rcases join_mem hc with z | ⟨y, hy, z⟩
  · cases z
  · obtain ⟨p, hp', rfl⟩ := List.mem_map.mp hy
    rcases List.mem_append.mp z with z | z
    · exact (hp p hp').1 c z
    · rw [List.mem_singleton] at z; omega
theorem nl_map (ps : List (List Nat)) : (ps.map T).map nlT = (ps.map fun p => p ++ [10]).map T := by
  rw [List.map_map, List.map_map]
  exact List.map_congr_left fun p _ => nlT_T p
theorem text_join {m : Nat} {ps : List (List Nat)} (hp : ∀ p ∈ ps, Ln p) (hl : ps.length ≤ 100) (hm : h[m]? = some (.lst ((ps.map fun p => p ++ [10]).map T))) : bmt .join (T []) [.loc m] h = .ok (T (textOf ps)) h :=
  join_lst hm (by have := (text_len hp).1; simp only [List.length_nil, Nat.mul_zero, Nat.add_zero]; omega)
theorem line_map (es : List Ev) : (es.map tupT).map lineT = (es.map (joinL [32])).map T := by
  rw [List.map_map, List.map_map]
  exact List.map_congr_left fun p _ => lineT_tup p
/-- format_events -/
theorem format {m : Nat} {es : List Ev} (he : Evs es) (hm : h[m]? = some (.lst (es.map tupT))) : ∃ h', calls Q (k + 1) 13 [.loc m] h = .ok (T (textOf (es.map (joinL [32])))) h' ∧ Fr [] h h' := by
  obtain ⟨h1, e1, fr1⟩ := lcGo_mapI (f := lcF (Q.ct (calls Q k)) ⟨[some (.loc m), none], none⟩ [1] (.nm 1) .nil b_format_events_1) (ok := Src.still ⟨es.map tupT, [(m, es.map tupT)]⟩) (fun hp => Fr [] h hp) (fun hp fr => still_lst (fr.at hm (by simp))) (fun d => nlT (lineT d)) (its := es.map tupT) (fun x hx hp fr => by
    obtain ⟨e, hee, rfl⟩ := List.mem_map.mp hx
    obtain ⟨h3, hw⟩ := he.2 e hee
    have jn := ev_join (h := hp) h3 hw
    have lt : blt .list [tupT e] hp = .ok (.loc hp.length) (hp ++ [.lst (e.map T)]) := list_tup
    have ad := add_T (h := hp ++ [.lst (e.map T)]) (a := joinL [32] e) (b := [10]) (by have := (ev_line h3 hw).2.2; unfold PM.sizeLine; simp; omega)
    refine ⟨hp ++ [.lst (e.map T)], ?_, fr.trans Fr.app⟩
    rw [lineT_tup, nlT_T]
    unfold lcF b_format_events_1
    simp only [↓ev_lc, List.length_cons, List.length_nil, Nat.zero_add, Nat.reduceAdd, Nat.reduceSub, if_true, if_false, List.map_cons, List.map_nil, List.replicate_succ, List.replicate_zero, List.cons_append, List.nil_append, exs_nil, exs_cons, seqR_nx, seqR_rt, seqR_th, ex_ass, ex_asA, ex_asS, ex_exp, ex_ret, ex_rtN, ex_brk, ex_cnt, ex_pas, ex_ite, iteB_t, iteB_f, ex_for, forR_ok, ex_rai, raiR_s, ex_try, forF_nm, inS_ok, inSs_ok, unS_ok, ev, evs, bind_ok, opt_some, getS, setS, En.free, List.getElem?_cons_zero, List.getElem?_cons_succ, Option.bind_some, id_eq, List.set_cons_zero, List.set_cons_succ, Option.isSome_none, Bool.false_and, Bool.false_eq_true, add_int, sub_int, int_int, eq_int, ne_int, lt_int, le_int, gt_int, ge_int, ne_bl, is_non, isnot_non, len_tup, ct_call, abs_int, tru_b, truth, decide_true, decide_false, reduceCtorEq, R.calm, putT, PM.wipe, tests, e_sp, e_nl, join_bm, lt, jn, ad]) h Fr.refl
  have em : (es.map tupT).map (fun d => nlT (lineT d)) = ((es.map (joinL [32])).map fun p => p ++ [10]).map T := by
    rw [← nl_map, ← line_map, List.map_map, List.map_map, List.map_map]
    rfl
  rw [em] at e1
  have jn := text_join (h := h1 ++ [.lst (((es.map (joinL [32])).map fun p => p ++ [10]).map T)]) (m := h1.length) (ps := es.map (joinL [32])) (fun p hp => by
    obtain ⟨e, hee, rfl⟩ := List.mem_map.mp hp
    obtain ⟨h3, hw⟩ := he.2 e hee
    exact (ev_line h3 hw).2) (by have := he.1; simp; omega) last_get
  have sr := src_lst hm
  refine ⟨h1 ++ [.lst (((es.map (joinL [32])).map fun p => p ++ [10]).map T)], ?_, fr1.trans Fr.app⟩
  rw [calls_df d13]
  unfold runDf b_format_events
  simp only [↓ev_lc, List.length_cons, List.length_nil, Nat.zero_add, Nat.reduceAdd, Nat.reduceSub, if_true, if_false, List.map_cons, List.map_nil, List.replicate_succ, List.replicate_zero, List.cons_append, List.nil_append, exs_nil, exs_cons, seqR_nx, seqR_rt, seqR_th, ex_ass, ex_asA, ex_asS, ex_exp, ex_ret, ex_rtN, ex_brk, ex_cnt, ex_pas, ex_ite, iteB_t, iteB_f, ex_for, forR_ok, ex_rai, raiR_s, ex_try, forF_nm, inS_ok, inSs_ok, unS_ok, ev, evs, bind_ok, opt_some, getS, setS, En.free, List.getElem?_cons_zero, List.getElem?_cons_succ, Option.bind_some, id_eq, List.set_cons_zero, List.set_cons_succ, Option.isSome_none, Bool.false_and, Bool.false_eq_true, add_int, sub_int, int_int, eq_int, ne_int, lt_int, le_int, gt_int, ge_int, ne_bl, is_non, isnot_non, len_tup, ct_call, abs_int, tru_b, truth, decide_true, decide_false, reduceCtorEq, R.calm, e_nil, join_bm, evIt, sr, e1, jn]
end
end K41
set_option Elab.async false
set_option linter.all false
set_option maxRecDepth 100000
set_option maxHeartbeats 4000000
namespace K41
open PySem PM
theorem D_P : D.str ("press" : Str) = T wP := by rw [s_P]
theorem D_T : D.str ("tick" : Str) = T wT := by rw [s_T]
theorem D_H : D.str ("hand" : Str) = T wH := by rw [s_H]
theorem wdP : Wd wP := by unfold Wd wP; decide
theorem wdT : Wd wT := by unfold Wd wT; decide
theorem wdH : Wd wH := by unfold Wd wH; decide
section
variable {k : Nat}
theorem T_of {N : List (List Nat)} {j : Nat} {v : D} (h : (N.map T)[j]? = some v) : ∃ w ∈ N, v = T w := by
  rw [List.getElem?_map] at h
  cases q : N[j]? with
  | none => rw [q] at h; cases h
  | some w =>
    rw [q] at h
    injection h with h
    exact ⟨w, List.mem_of_getElem? q, h.symm⟩
theorem drawn_turn {h : Hh} {s p M E : Nat} {xs : List Int} {i g sd c : Int} {N : List (List Nat)} {es : List Ev} {x3 x4 x5 x6 : Option D} (S : St h s p xs i g sd c) (hM : h[M]? = some (.lst (N.map T))) (hE : h[E]? = some (.lst (es.map tupT))) (nM : M ≠ s) (nE : E ≠ s) (nEp : E ≠ p) (nME : M ≠ E) (h0 : 0 < N.length) (h1 : N.length < 1000) (hN : ∀ w ∈ N, Wd w) (he : es.length < 1000) :
    ∃ (e : Ev) (y4 y5 y6 : Option D) (h' : Hh) (i' g' c' : Int), exs (Q.ct (calls Q (k + 3))) b__law_drawn_events_1 ⟨[some (.loc s), some (.loc M), some (.loc E), x3, x4, x5, x6], none⟩ h = .nx ⟨[some (.loc s), some (.loc M), some (.loc E), x3, y4, y5, y6], none⟩ h' ∧
      (e.length ≤ 3 ∧ ∀ w ∈ e, Wd w) ∧ Fr [s, E] h h' ∧ h'[E]? = some (.lst ((es ++ [e]).map tupT)) ∧ St h' s p xs i' g' sd c' := by
  obtain ⟨d, i1, g1, c1, h1, a0, a1, e1, fr1, S1, l1⟩ := take drw (k := k + 1) (z := 3) S (by decide) (by decide)
  obtain ⟨j2, v2, i2, g2, c2, h2, q2, e2, fr2, S2, l2⟩ := pick_lst drw d15 (k := k) S1 (fr1.at hM (by simpa using nM)) nM (by simpa using h0) (by simp; omega)
  obtain ⟨j3, v3, i3, g3, c3, h3, q3, e3, fr3, S3, l3⟩ := pick_lst drw d15 (k := k) S2 (fr2.at (fr1.at hM (by simpa using nM)) (by simpa using nM)) nM (by simpa using h0) (by simp; omega)
  obtain ⟨w2, m2, rfl⟩ := T_of q2
  obtain ⟨w3, m3, rfl⟩ := T_of q3
  have fr : Fr [s] h h3 := (fr1.trans fr2).trans fr3
  have hE3 := fr.at hE (by simpa using nE)
  obtain ⟨h4, hh4⟩ : ∃ h4, h4 = h3 ++ [.lst [.tup [T wP, T w2], .tup [T wT], .tup [T wH, T w2, T w3]]] := ⟨_, rfl⟩
  have hE4 : h4[E]? = some (.lst (es.map tupT)) := by rw [hh4]; exact at_app hE3
  have S4 : St h4 s p xs i3 g3 sd c3 := by rw [hh4]; exact S3.app _
  have fr4 : Fr [s] h h4 := by rw [hh4]; exact fr.trans Fr.app
  obtain ⟨e, hv, hev⟩ : ∃ e : Ev, atI [.tup [T wP, T w2], .tup [T wT], .tup [T wH, T w2, T w3]] d = some (tupT e) ∧ e.length ≤ 3 ∧ ∀ w ∈ e, Wd w := by
    have : d = 0 ∨ d = 1 ∨ d = 2 := by omega
    rcases this with rfl | rfl | rfl
    · exact ⟨[wP, w2], rfl, by simp, by simp [wdP, hN w2 m2]⟩
    · exact ⟨[wT], rfl, by simp, by simp [wdT]⟩
    · exact ⟨[wH, w2, w3], rfl, by simp, by simp [wdH, hN w2 m2, hN w3 m3]⟩
  have sb := sub_lst (h := h4) (m := h3.length) (k := d) (by rw [hh4]; exact last_get) hv
  have bo := bm_lst hE3
  have ap := app_lst (v := tupT e) hE4 (by unfold PM.sizeLine; simp; omega)
  refine ⟨e, some (.int d), some (T w2), some (T w3), _, i3, g3, c3, ?_, hev, (fr4.mono (by simp)).trans (Fr.set (s := E) (o := .lst (es.map tupT ++ [tupT e])) (by simp)), by rw [at_self hE4]; simp, ⟨at_set S4.st nE, at_set S4.sc nEp, S4.ne, S4.i0, S4.il, S4.g0⟩⟩
  unfold b__law_drawn_events_1
  simp only [↓ev_lc, List.length_cons, List.length_nil, Nat.zero_add, Nat.reduceAdd, Nat.reduceSub, if_true, if_false, List.map_cons, List.map_nil, List.replicate_succ, List.replicate_zero, List.cons_append, List.nil_append, exs_nil, exs_cons, seqR_nx, seqR_rt, seqR_th, ex_ass, ex_asA, ex_asS, ex_exp, ex_ret, ex_rtN, ex_brk, ex_cnt, ex_pas, ex_ite, iteB_t, iteB_f, ex_for, forR_ok, ex_rai, raiR_s, ex_try, forF_nm, inS_ok, inSs_ok, unS_ok, ev, evs, bind_ok, opt_some, getS, setS, En.free, List.getElem?_cons_zero, List.getElem?_cons_succ, Option.bind_some, id_eq, List.set_cons_zero, List.set_cons_succ, Option.isSome_none, Bool.false_and, Bool.false_eq_true, add_int, sub_int, int_int, eq_int, ne_int, lt_int, le_int, gt_int, ge_int, ne_bl, is_non, isnot_non, len_tup, ct_call, abs_int, tru_b, truth, decide_true, decide_false, reduceCtorEq, R.calm, e1, e2, e3, bo, D_P, D_T, D_H, PM.sizeLine, Nat.reducePow, Nat.reduceLeDiff, ← hh4, sb, ap]
theorem drawn {h : Hh} {s p : Nat} {xs : List Int} {i g sd c : Int} (S : St h s p xs i g sd c) :
    ∃ (es : List Ev) (E : Nat) (h' : Hh) (i' g' c' : Int), calls Q (k + 5) 20 [.loc s] h = .ok (.loc E) h' ∧ Evs es ∧ h'[E]? = some (.lst (es.map tupT)) ∧ h.length ≤ E ∧ Fr [s] h h' ∧ St h' s p xs i' g' sd c' := by
  obtain ⟨ys, h1, i1, g1, c1, e1, m1, l1, nm, fr1, S1⟩ := names drw d15 d16 (k := k) (many := 4) S (by decide)
  rw [show ((4 : Nat) : Int) = 4 from rfl] at e1
  have hs : s < h.length := at_lt S.st
  have hp : p < h.length := at_lt S.sc
  obtain ⟨N, hN⟩ : ∃ N, N = ys ++ [wT, wP, wH] := ⟨_, rfl⟩
  have hl1 : h.length < h1.length := at_lt m1
  obtain ⟨h2, hh2⟩ : ∃ h2, h2 = h1 ++ [.lst [T wT, T wP, T wH], .lst (N.map T)] := ⟨_, rfl⟩
  have ad := add_lst (a := h.length) (b := h1.length) (h := h1 ++ [.lst [T wT, T wP, T wH]]) (at_app m1) last_get (by simp [l1]; decide)
  have eN : ys.map T ++ [T wT, T wP, T wH] = N.map T := by rw [hN]; simp
  rw [eN, List.append_assoc, List.length_append] at ad
  simp only [List.cons_append, List.nil_append, List.length_cons, List.length_nil, Nat.zero_add] at ad
  rw [← hh2] at ad
  have m2 : h2[h1.length + 1]? = some (.lst (N.map T)) := by
    rw [hh2, List.getElem?_append_right (by omega)]
    simp
  have S2 : St h2 s p xs i1 g1 sd c1 := by rw [hh2]; exact S1.app _
  have fr2 : Fr [s] h h2 := by rw [hh2]; exact fr1.trans Fr.app
  have l2 : h2.length = h1.length + 2 := by rw [hh2]; simp
  obtain ⟨d, i3, g3, c3, h3, a0, a1, e3, fr3, S3, l3⟩ := take drw (k := k + 2) (z := 7) (S2.app [.lst []]) (by decide) (by decide)
  have hE3 : h3[h2.length]? = some (.lst []) := fr3.at last_get (by simp; omega)
  have m3 : h3[h1.length + 1]? = some (.lst (N.map T)) := fr3.at (at_app m2) (by simp; omega)
  have wN : ∀ w ∈ N, Wd w := fun w hw => by
    rw [hN] at hw
    rcases List.mem_append.mp hw with z | z
    · exact ⟨(nm.all w z).1, (nm.all w z).2.2⟩
    · simp only [List.mem_cons, List.not_mem_nil, or_false] at z
      rcases z with rfl | rfl | rfl
      · exact wdT
      · exact wdP
      · exact wdH
  have lN : N.length = 7 := by rw [hN]; simp [l1]
  obtain ⟨n', h4, e4, iv⟩ := forGo_invN (f := forF (Q.ct (calls Q (k + 4))) (.nm 3) b__law_drawn_events_1) (ok := Src.still ⟨rangeD 0 d.toNat, []⟩) (its := rangeD 0 d.toNat)
    (fun j n hp' => ∃ (x3 x4 x5 x6 : Option D) (i g c : Int) (es : List Ev), n = ⟨[some (.loc s), some (.loc (h1.length + 1)), some (.loc h2.length), x3, x4, x5, x6], none⟩ ∧ St hp' s p xs i g sd c ∧ hp'[h2.length]? = some (.lst (es.map tupT)) ∧ hp'[h1.length + 1]? = some (.lst (N.map T)) ∧ es.length = j ∧ j ≤ 6 ∧ (∀ e ∈ es, e.length ≤ 3 ∧ ∀ w ∈ e, Wd w) ∧ Fr [s] h hp') (fun _ _ _ _ => still_none) (fun j x hx n hp' iv => by
      obtain ⟨x3, x4, x5, x6, i, g, c, es, rfl, S, hE, hM, hl, hj, all, fr⟩ := iv
      obtain ⟨hj6, rfl⟩ := rangeD_get hx
      obtain ⟨e, y4, y5, y6, h', i', g', c', er, ge, fr', hE', S'⟩ := drawn_turn (k := k + 1) (x3 := some (.int (0 + (j : Nat)))) (x4 := x4) (x5 := x5) (x6 := x6) S hM hE (by omega) (by omega) (by omega) (by omega) (by omega) (by omega) wN (by omega)
      refine ⟨_, h', by rw [forF_nm]; exact er, _, y4, y5, y6, i', g', c', es ++ [e], rfl, S', hE', fr'.at hM (by simp; omega), by simp [hl], by omega, fun z hz => ?_, ?_⟩
      · rcases List.mem_append.mp hz with z' | z'
        · exact all z z'
        · rw [List.mem_singleton] at z'
          rw [z']
          exact ge
      · refine ⟨Nat.le_trans fr.1 fr'.1, fun q hq hn => ?_⟩
        have q1 : q ≠ s := by simpa using hn
        rw [fr'.2 q (Nat.lt_of_lt_of_le hq fr.1) (by simp; omega), fr.2 q hq hn])
    ⟨[some (.loc s), some (.loc (h1.length + 1)), some (.loc h2.length), none, none, none, none], none⟩ h3 ⟨none, none, none, none, i3, g3, c3, [], rfl, S3, hE3, m3, rfl, by omega, fun _ z => (by cases z), (fr2.trans Fr.app).trans fr3⟩
  obtain ⟨x3, x4, x5, x6, i, g, c, es, rfl, S4, hE4, hM4, hl4, hj4, all4, fr4⟩ := iv
  refine ⟨es, h2.length, h4, i, g, c, ?_, ⟨by omega, all4⟩, hE4, by omega, fr4, S4⟩
  have ok : okR d = true := by
    unfold okR
    simp only [Bool.and_eq_true, decide_eq_true_eq]
    omega
  rw [calls_df d20]
  unfold runDf b__law_drawn_events
  simp only [↓ev_lc, List.length_cons, List.length_nil, Nat.zero_add, Nat.reduceAdd, Nat.reduceSub, if_true, if_false, List.map_cons, List.map_nil, List.replicate_succ, List.replicate_zero, List.cons_append, List.nil_append, exs_nil, exs_cons, seqR_nx, seqR_rt, seqR_th, ex_ass, ex_asA, ex_asS, ex_exp, ex_ret, ex_rtN, ex_brk, ex_cnt, ex_pas, ex_ite, iteB_t, iteB_f, ex_for, forR_ok, ex_rai, raiR_s, ex_try, forF_nm, inS_ok, inSs_ok, unS_ok, ev, evs, bind_ok, opt_some, getS, setS, En.free, List.getElem?_cons_zero, List.getElem?_cons_succ, Option.bind_some, id_eq, List.set_cons_zero, List.set_cons_succ, Option.isSome_none, Bool.false_and, Bool.false_eq_true, add_int, sub_int, int_int, eq_int, ne_int, lt_int, le_int, gt_int, ge_int, ne_bl, is_non, isnot_non, len_tup, ct_call, abs_int, tru_b, truth, decide_true, decide_false, reduceCtorEq, R.calm, e1, D_P, D_T, D_H, PM.sizeLine, Nat.reducePow, Nat.reduceLeDiff, Nat.zero_le, ad, evIt, e3, intOf_int, ok, e4]
end
end K41
set_option Elab.async false
set_option linter.all false
set_option maxRecDepth 100000
set_option maxHeartbeats 4000000
namespace K41
open PySem PM
def b6tail : Ss := (.cons (.ass 15 (.call 19 (.cons (.var 14) .nil))) (.cons (.ass 16 .non) (.cons (.try b_law_4 b_law_5) (.cons (.ite (.isi (.var 15) [.list]) (.cons (.ite (.or (.not (.isi (.var 16) [.list])) (.not (.call 6 (.cons (.blt .tuple (.cons (.var 16) .nil)) (.cons (.blt .tuple (.cons (.var 15) .nil)) .nil))))) (.cons (.ret (.bl false)) .nil) .nil) .nil) (.cons (.ite (.not (.call 6 (.cons (.var 16) (.cons (.var 15) .nil)))) (.cons (.ret (.bl false)) .nil) .nil) .nil)) .nil))))
theorem b6_eq : b_law_6 = (.cons (.ass 9 (.call 5 (.cons (.var 1) (.cons (.int 7) .nil)))) (.cons (.ass 10 (.call 5 (.cons (.var 1) (.cons (.bin .Add (.blt .len (.cons (.var 3) .nil)) (.int 1)) .nil)))) (.cons (.ass 11 (.lst (.cons (.str ("tick a" : Str)) (.cons (.str ("press" : Str)) (.cons (.str ("press a b" : Str)) (.cons (.str ("hand a" : Str)) (.cons (.str ("hand a b c" : Str)) (.cons (.str ("" : Str)) (.cons (.str (" tick" : Str)) (.cons (.str ("tick " : Str)) (.cons (.str ("Tick" : Str)) (.cons (.str ("press a1" : Str)) .nil)))))))))))) (.cons (.ass 11 (.bin .Add (.var 11) (.lst (.cons (.str ("hand  a" : Str)) (.cons (.str ("hand a abcdefghi" : Str)) (.cons (.str ("hand a abcdefgh" : Str)) (.cons (.str ("press A" : Str)) (.cons (.str ("tick" : Str)) (.cons (.str ("press tick" : Str)) .nil))))))))) (.cons (.ass 12 (.sub (.var 11) (.call 5 (.cons (.var 1) (.cons (.blt .len (.cons (.var 11) .nil)) .nil))))) (.cons (.ass 13 (.ife (.cmp .Gt (.var 9) (.int 0)) (.bin .Add (.bin .Add (.shi (.var 3) (.var 10)) (.lst (.cons (.var 12) .nil))) (.slo (.var 3) (.bin .Add (.var 10) (.bin .FloorDiv (.var 9) (.int 3))))) (.var 3))) (.cons (.ass 14 (.bmt .join (.str ("" : Str)) (.cons (.lc [6] (.nm 6) (.val (.var 13)) .nil b_law_3) .nil))) (.cons (.ite (.and (.cmp .Eq (.var 9) (.int 1)) (.cmp .Gt (.blt .len (.cons (.var 14) .nil)) (.int 0))) (.cons (.ass 14 (.shi (.var 14) (.bin .Sub (.blt .len (.cons (.var 14) .nil)) (.int 1)))) .nil) .nil) b6tail)))))))) := rfl
theorem parse_good {N : Nat} : ∀ {ls : List (List Nat)} {j : Nat} {acc es : List Ev}, parseL ls j acc = .inl es → (∀ l ∈ ls, Ok l ∧ l.length ≤ N) → (∀ e ∈ acc, e.length ≤ N + 1 ∧ ∀ w ∈ e, Ok w) → es.length = acc.length + ls.length ∧ ∀ e ∈ es, e.length ≤ N + 1 ∧ ∀ w ∈ e, Ok w
  | [], j, acc, es, h, _, ha => by
    simp only [parseL] at h
    injection h with h
    subst h
    exact ⟨by simp, ha⟩
  | l :: ls, j, acc, es, h, hl, ha => by
    simp only [parseL] at h
    split at h
    · obtain ⟨o, n⟩ := hl l List.mem_cons_self
      obtain ⟨h1, h2⟩ := parse_good h (fun z hz => hl z (List.mem_cons_of_mem _ hz)) (fun e he => by
        rcases List.mem_append.mp he with z | z
        · exact ha e z
        · rw [List.mem_singleton] at z
          subst z
          exact ⟨by have := splitL_len (c := 32) (l := l) (acc := []); omega, fun w hw => o.piece hw⟩)
      exact ⟨by rw [h1]; simp; omega, h2⟩
    · cases h
theorem nice_T {l : List Nat} (h : Ok l) : D.nice (T l) = true := D.good_flat (good_T h)
theorem nices_T {e : Ev} (h : ∀ w ∈ e, Ok w) : D.nices (e.map T) = true := by
  induction e with
  | nil => rfl
  | cons w e ih => simp only [List.map_cons, D.nices, nice_T (h w List.mem_cons_self), ih fun z hz => h z (List.mem_cons_of_mem _ hz), Bool.and_self]
theorem deeps_T (e : Ev) : D.deeps (e.map T) = 0 := by
  induction e with
  | nil => rfl
  | cons w e ih => simp [D.deeps, D.deep, ih]
theorem nices_es {es : List Ev} (h : ∀ e ∈ es, e.length ≤ 100000 ∧ ∀ w ∈ e, Ok w) : D.nices (es.map tupT) = true := by
  induction es with
  | nil => rfl
  | cons e es ih =>
    obtain ⟨h1, h2⟩ := h e List.mem_cons_self
    have h3 : (e.map T).length ≤ 100000 := by simpa using h1
    simp only [List.map_cons, D.nices, tupT, D.nice, h3, decide_true, nices_T h2, ih fun z hz => h z (List.mem_cons_of_mem _ hz), Bool.and_self]
theorem deeps_es (es : List Ev) : D.deeps (es.map tupT) ≤ 1 := by
  induction es with
  | nil => simp [D.deeps]
  | cons e es ih =>
    simp only [List.map_cons, D.deeps, tupT, D.deep, deeps_T]
    omega
section
variable {k : Nat} {h : Hh}
theorem turn_tail {l : List Nat} {x0 x1 x2 x3 x4 x5 x6 x7 x8 x9 x10 x11 x12 x13 x15 x16 x17 : Option D} (ho : Ok l) (hl : l.length ≤ 4000) :
    ∃ y15 y16 y17 h', exs (Q.ct (calls Q (k + 4))) b6tail ⟨[x0, x1, x2, x3, x4, x5, x6, x7, x8, x9, x10, x11, x12, x13, some (T l), x15, x16, x17], none⟩ h = .nx ⟨[x0, x1, x2, x3, x4, x5, x6, x7, x8, x9, x10, x11, x12, x13, some (T l), y15, y16, y17], none⟩ h' ∧ Fr [] h h' := by
  have hsz : PM.sizeLine = 16777216 := rfl
  have du := due (k := k + 1) (h := h) (by omega) ho
  cases hp : parseT l with
  | inl es =>
    rw [hp] at du
    obtain ⟨E1, h1, e1, m1, fr1, _⟩ := du
    have pe := parse_events (k := k + 1) (h := h1) (by omega) ho
    rw [hp] at pe
    obtain ⟨E2, h2, e2, m2, fr2, _⟩ := pe
    have m1' := fr2.at m1 (by simp)
    have gd : es.length ≤ 100000 ∧ ∀ e ∈ es, e.length ≤ 100000 ∧ ∀ w ∈ e, Ok w := by
      unfold parseT at hp
      split at hp
      · injection hp with hp
        subst hp
        exact ⟨by simp, fun _ z => by cases z⟩
      · split at hp
        · obtain ⟨g1, g2⟩ := parse_good (N := 4000) hp (fun p hp' => ⟨ho.dropLast.piece hp', by have := (pieces hp').2; simp at this; omega⟩) (fun _ z => by cases z)
          have := splitL_len (c := 10) (l := l.dropLast) (acc := [])
          simp at this g1
          exact ⟨by omega, fun e he => ⟨by have := (g2 e he).1; omega, (g2 e he).2⟩⟩
        · cases hp
    have hn : D.nice (.tup (es.map tupT)) = true := by
      have : (es.map tupT).length ≤ 100000 := by simpa using gd.1
      simp only [D.nice, this, decide_true, nices_es gd.2, Bool.and_self]
    obtain ⟨h3, e3, fr3⟩ := same_refl d6 2 (.tup (es.map tupT)) (k + 1) h2 (by simp only [D.deep]; have := deeps_es es; omega) hn
    have e3' : calls Q (k + 4) 6 [.tup (es.map tupT), .tup (es.map tupT)] h2 = .ok (.bl true) h3 := e3
    have t1 : isTy (Q.ct (calls Q (k + 4))) h2 (.loc E1) .list = some true := by simp only [isTy, m1']
    have t2 : isTy (Q.ct (calls Q (k + 4))) h2 (.loc E2) .list = some true := by simp only [isTy, m2]
    have u1 : blt .tuple [.loc E1] h2 = .ok (.tup (es.map tupT)) h2 := by simp only [blt, bTuple, m1']
    have u2 : blt .tuple [.loc E2] h2 = .ok (.tup (es.map tupT)) h2 := by simp only [blt, bTuple, m2]
    refine ⟨some (.loc E1), some (.loc E2), x17, h3, ?_, (fr1.trans fr2).trans fr3⟩
    unfold b6tail b_law_4
    simp only [↓ev_lc, List.length_cons, List.length_nil, Nat.zero_add, Nat.reduceAdd, Nat.reduceSub, if_true, if_false, List.map_cons, List.map_nil, List.replicate_succ, List.replicate_zero, List.cons_append, List.nil_append, exs_nil, exs_cons, seqR_nx, seqR_rt, seqR_th, ex_ass, ex_asA, ex_asS, ex_exp, ex_ret, ex_rtN, ex_brk, ex_cnt, ex_pas, ex_ite, iteB_t, iteB_f, ex_for, forR_ok, ex_rai, raiR_s, ex_try, forF_nm, inS_ok, inSs_ok, unS_ok, ev, evs, bind_ok, opt_some, getS, setS, En.free, List.getElem?_cons_zero, List.getElem?_cons_succ, Option.bind_some, id_eq, List.set_cons_zero, List.set_cons_succ, Option.isSome_none, Bool.false_and, Bool.false_eq_true, add_int, sub_int, int_int, eq_int, ne_int, lt_int, le_int, gt_int, ge_int, ne_bl, is_non, isnot_non, len_tup, ct_call, abs_int, tru_b, truth, decide_true, decide_false, reduceCtorEq, R.calm, e1, e2, tryR_nx, t1, t2, u1, u2, e3', Bool.not_true]
  | inr i =>
    rw [hp] at du
    obtain ⟨h1, e1, fr1⟩ := du
    have pe := parse_events (k := k + 1) (h := h1) (by omega) ho
    rw [hp] at pe
    obtain ⟨h2, e2, fr2⟩ := pe
    obtain ⟨h3, e3, fr3⟩ := same_refl d6 0 (.int (i : Nat)) (k + 3) h2 (by simp [D.deep]) rfl
    have e3' : calls Q (k + 4) 6 [.int (i : Nat), .int (i : Nat)] h2 = .ok (.bl true) h3 := e3
    have t1 : isTy (Q.ct (calls Q (k + 4))) h2 (.int (i : Nat)) .list = some false := rfl
    have sb : (Q.ct (calls Q (k + 4))).sub 3 3 = true := rfl
    have sb0 : (Q.ct (calls Q (k + 4))).sub 3 0 = true := rfl
    have fo : (Q.ct (calls Q (k + 4))).fok 3 3 = true := rfl
    refine ⟨some (.int (i : Nat)), some (.int (i : Nat)), none, h3, ?_, (fr1.trans fr2).trans fr3⟩
    unfold b6tail b_law_4 b_law_5
    simp only [↓ev_lc, List.length_cons, List.length_nil, Nat.zero_add, Nat.reduceAdd, Nat.reduceSub, if_true, if_false, List.map_cons, List.map_nil, List.replicate_succ, List.replicate_zero, List.cons_append, List.nil_append, exs_nil, exs_cons, seqR_nx, seqR_rt, seqR_th, ex_ass, ex_asA, ex_asS, ex_exp, ex_ret, ex_rtN, ex_brk, ex_cnt, ex_pas, ex_ite, iteB_t, iteB_f, ex_for, forR_ok, ex_rai, raiR_s, ex_try, forF_nm, inS_ok, inSs_ok, unS_ok, ev, evs, bind_ok, opt_some, getS, setS, En.free, List.getElem?_cons_zero, List.getElem?_cons_succ, Option.bind_some, id_eq, List.set_cons_zero, List.set_cons_succ, Option.isSome_none, Bool.false_and, Bool.false_eq_true, add_int, sub_int, int_int, eq_int, ne_int, lt_int, le_int, gt_int, ge_int, ne_bl, is_non, isnot_non, len_tup, ct_call, abs_int, tru_b, truth, decide_true, decide_false, reduceCtorEq, R.calm, e1, e2, inS_exc, tryR_th, exh_cons, sb, okN, Nat.reduceLT, offE, offS_nx, sb0, fo, List.lookup_cons, beq_self_eq_true, ne_eq, Option.some.injEq, Nat.reduceEqDiff, not_false_eq_true, t1, e3', Bool.not_true]
end
end K41
set_option Elab.async false
set_option linter.all false
set_option maxRecDepth 100000
set_option maxHeartbeats 4000000
namespace K41
open PySem PM
def b6mid : Ss := (.cons (.ass 14 (.bmt .join (.str ("" : Str)) (.cons (.lc [6] (.nm 6) (.val (.var 13)) .nil b_law_3) .nil))) (.cons (.ite (.and (.cmp .Eq (.var 9) (.int 1)) (.cmp .Gt (.blt .len (.cons (.var 14) .nil)) (.int 0))) (.cons (.ass 14 (.shi (.var 14) (.bin .Sub (.blt .len (.cons (.var 14) .nil)) (.int 1)))) .nil) .nil) b6tail))
theorem b6_eq2 : b_law_6 = (.cons (.ass 9 (.call 5 (.cons (.var 1) (.cons (.int 7) .nil)))) (.cons (.ass 10 (.call 5 (.cons (.var 1) (.cons (.bin .Add (.blt .len (.cons (.var 3) .nil)) (.int 1)) .nil)))) (.cons (.ass 11 (.lst (.cons (.str ("tick a" : Str)) (.cons (.str ("press" : Str)) (.cons (.str ("press a b" : Str)) (.cons (.str ("hand a" : Str)) (.cons (.str ("hand a b c" : Str)) (.cons (.str ("" : Str)) (.cons (.str (" tick" : Str)) (.cons (.str ("tick " : Str)) (.cons (.str ("Tick" : Str)) (.cons (.str ("press a1" : Str)) .nil)))))))))))) (.cons (.ass 11 (.bin .Add (.var 11) (.lst (.cons (.str ("hand  a" : Str)) (.cons (.str ("hand a abcdefghi" : Str)) (.cons (.str ("hand a abcdefgh" : Str)) (.cons (.str ("press A" : Str)) (.cons (.str ("tick" : Str)) (.cons (.str ("press tick" : Str)) .nil))))))))) (.cons (.ass 12 (.sub (.var 11) (.call 5 (.cons (.var 1) (.cons (.blt .len (.cons (.var 11) .nil)) .nil))))) (.cons (.ass 13 (.ife (.cmp .Gt (.var 9) (.int 0)) (.bin .Add (.bin .Add (.shi (.var 3) (.var 10)) (.lst (.cons (.var 12) .nil))) (.slo (.var 3) (.bin .Add (.var 10) (.bin .FloorDiv (.var 9) (.int 3))))) (.var 3))) b6mid)))))) := rfl
def fA : List D := [.str "tick a", .str "press", .str "press a b", .str "hand a", .str "hand a b c", .str "", .str " tick", .str "tick ", .str "Tick", .str "press a1"]
def fB : List D := [.str "hand  a", .str "hand a abcdefghi", .str "hand a abcdefgh", .str "press A", .str "tick", .str "press tick"]
def fL : List (List Nat) := [[116, 105, 99, 107, 32, 97], [112, 114, 101, 115, 115], [112, 114, 101, 115, 115, 32, 97, 32, 98], [104, 97, 110, 100, 32, 97], [104, 97, 110, 100, 32, 97, 32, 98, 32, 99], [], [32, 116, 105, 99, 107], [116, 105, 99, 107, 32], [84, 105, 99, 107], [112, 114, 101, 115, 115, 32, 97, 49], [104, 97, 110, 100, 32, 32, 97], [104, 97, 110, 100, 32, 97, 32, 97, 98, 99, 100, 101, 102, 103, 104, 105], [104, 97, 110, 100, 32, 97, 32, 97, 98, 99, 100, 101, 102, 103, 104], [112, 114, 101, 115, 115, 32, 65], [116, 105, 99, 107], [112, 114, 101, 115, 115, 32, 116, 105, 99, 107]]
theorem fL_eq : fA ++ fB = fL.map T := by decide +kernel
theorem fL_ln : ∀ p ∈ fL, Ln p := by
  intro p hp
  refine ⟨fun c hc => ?_, ?_⟩
  · have : fL.all (fun p => p.all fun c => decide (c < 1114112)) = true := by decide +kernel
    rw [List.all_eq_true] at this
    have := this p hp
    rw [List.all_eq_true] at this
    simpa using this c hc
  · have : fL.all (fun p => decide (p.length ≤ 40)) = true := by decide +kernel
    rw [List.all_eq_true] at this
    simpa using this p hp
theorem cut_mem {α : Type} {xs : List α} {lo hi : Option Int} {x : α} (h : x ∈ cut xs lo hi) : x ∈ xs := by
  unfold cut at h
  exact List.mem_of_mem_drop (List.mem_of_mem_take h)
section
variable {k : Nat} {h : Hh}
theorem nl_lc {m : Nat} {qs : List (List Nat)} {x0 x1 x2 x3 x4 x5 x6 x7 x8 x9 x10 x11 x12 x13 x14 x15 x16 x17 : Option D} (hm : h[m]? = some (.lst (qs.map T))) (hq : ∀ p ∈ qs, Ln p) :
    lcGo (lcF (Q.ct (calls Q k)) ⟨[x0, x1, x2, x3, x4, x5, x6, x7, x8, x9, x10, x11, x12, x13, x14, x15, x16, x17], none⟩ [6] (.nm 6) .nil b_law_3) (Src.still ⟨qs.map T, [(m, qs.map T)]⟩) (qs.map T) h = .ok ((qs.map fun p => p ++ [10]).map T) h := by
  rw [← nl_map]
  refine lcGo_map (still_lst hm) nlT fun x hx => ?_
  obtain ⟨p, hp, rfl⟩ := List.mem_map.mp hx
  have ad := add_T (h := h) (a := p) (b := [10]) (by have := (hq p hp).2; unfold PM.sizeLine; simp; omega)
  rw [nlT_T]
  unfold lcF b_law_3
  simp only [↓ev_lc, List.length_cons, List.length_nil, Nat.zero_add, Nat.reduceAdd, Nat.reduceSub, if_true, if_false, List.map_cons, List.map_nil, List.replicate_succ, List.replicate_zero, List.cons_append, List.nil_append, exs_nil, exs_cons, seqR_nx, seqR_rt, seqR_th, ex_ass, ex_asA, ex_asS, ex_exp, ex_ret, ex_rtN, ex_brk, ex_cnt, ex_pas, ex_ite, iteB_t, iteB_f, ex_for, forR_ok, ex_rai, raiR_s, ex_try, forF_nm, inS_ok, inSs_ok, unS_ok, ev, evs, bind_ok, opt_some, getS, setS, En.free, List.getElem?_cons_zero, List.getElem?_cons_succ, Option.bind_some, id_eq, List.set_cons_zero, List.set_cons_succ, Option.isSome_none, Bool.false_and, Bool.false_eq_true, add_int, sub_int, int_int, eq_int, ne_int, lt_int, le_int, gt_int, ge_int, ne_bl, is_non, isnot_non, len_tup, ct_call, abs_int, tru_b, truth, decide_true, decide_false, reduceCtorEq, R.calm, putT, PM.wipe, tests, e_nl, ad]
theorem turn_mid {m : Nat} {d : Int} {qs : List (List Nat)} {x0 x1 x2 x3 x4 x5 x6 x7 x8 x9 x10 x11 x12 x13 x14 x15 x16 x17 : Option D} (hm : h[m]? = some (.lst (qs.map T))) (hq : ∀ p ∈ qs, Ln p) (hl : qs.length ≤ 90) :
    ∃ y14 y15 y16 y17 h', exs (Q.ct (calls Q (k + 4))) b6mid ⟨[x0, x1, x2, x3, x4, x5, x6, x7, x8, some (.int d), x10, x11, x12, some (.loc m), x14, x15, x16, x17], none⟩ h = .nx ⟨[x0, x1, x2, x3, x4, x5, x6, x7, x8, some (.int d), x10, x11, x12, some (.loc m), y14, y15, y16, y17], none⟩ h' ∧ Fr [] h h' := by
  have hsz : PM.sizeLine = 16777216 := rfl
  have lc := fun a b c => nl_lc (k := k + 4) (h := h) (x0 := x0) (x1 := x1) (x2 := x2) (x3 := x3) (x4 := x4) (x5 := x5) (x6 := x6) (x7 := x7) (x8 := x8) (x9 := some (.int d)) (x10 := x10) (x11 := x11) (x12 := x12) (x13 := some (.loc m)) (x14 := x14) (x15 := a) (x16 := b) (x17 := c) hm hq
  have sr := src_lst hm
  obtain ⟨t1, t2, t3⟩ := text_len hq
  obtain ⟨h1, hh1⟩ : ∃ h1, h1 = h ++ [.lst ((qs.map fun p => p ++ [10]).map T)] := ⟨_, rfl⟩
  have jn := text_join (h := h1) (m := h.length) hq (by omega) (by rw [hh1]; exact last_get)
  have ln : ∀ hp, blt .len [T (textOf qs)] hp = .ok (.int (textOf qs).length) hp := fun hp => by rw [len_str (by rw [T_len]; omega), T_len]
  have fr1 : Fr [] h h1 := by rw [hh1]; exact Fr.app
  by_cases hd : d = 1 ∧ 0 < ((textOf qs).length : Int)
  · have sl : slcop (T (textOf qs)) none (some (((textOf qs).length : Int) - 1)) h1 = .ok (T (cut (textOf qs) none (some (((textOf qs).length : Int) - 1)))) h1 := by
      have : (⟨(textOf qs).toArray⟩ : Str).length ≤ PM.sizeLine := by rw [T_len]; omega
      simp only [slcop, T, this, if_true, cutT]
    obtain ⟨y15, y16, y17, h2, e2, fr2⟩ := turn_tail (k := k) (h := h1) (l := cut (textOf qs) none (some (((textOf qs).length : Int) - 1))) (x0 := x0) (x1 := x1) (x2 := x2) (x3 := x3) (x4 := x4) (x5 := x5) (x6 := x6) (x7 := x7) (x8 := x8) (x9 := some (.int d)) (x10 := x10) (x11 := x11) (x12 := x12) (x13 := some (.loc m)) (x15 := x15) (x16 := x16) (x17 := x17) (fun c hc => t3 c (cut_mem hc)) (Nat.le_trans (cut_le _ _ _) (by omega))
    refine ⟨some (T (cut (textOf qs) none (some (((textOf qs).length : Int) - 1)))), y15, y16, y17, h2, ?_, fr1.trans fr2⟩
    rw [← e2]
    unfold b6mid
    simp only [↓ev_lc, List.length_cons, List.length_nil, Nat.zero_add, Nat.reduceAdd, Nat.reduceSub, if_true, if_false, List.map_cons, List.map_nil, List.replicate_succ, List.replicate_zero, List.cons_append, List.nil_append, exs_nil, exs_cons, seqR_nx, seqR_rt, seqR_th, ex_ass, ex_asA, ex_asS, ex_exp, ex_ret, ex_rtN, ex_brk, ex_cnt, ex_pas, ex_ite, iteB_t, iteB_f, ex_for, forR_ok, ex_rai, raiR_s, ex_try, forF_nm, inS_ok, inSs_ok, unS_ok, ev, evs, bind_ok, opt_some, getS, setS, En.free, List.getElem?_cons_zero, List.getElem?_cons_succ, Option.bind_some, id_eq, List.set_cons_zero, List.set_cons_succ, Option.isSome_none, Bool.false_and, Bool.false_eq_true, add_int, sub_int, int_int, eq_int, ne_int, lt_int, le_int, gt_int, ge_int, ne_bl, is_non, isnot_non, len_tup, ct_call, abs_int, tru_b, truth, decide_true, decide_false, reduceCtorEq, R.calm, e_nil, join_bm, evIt, sr, lc, ← hh1, jn, ln, decide_eq_true hd.1, hd.2, intOf_int, sl]
  · obtain ⟨y15, y16, y17, h2, e2, fr2⟩ := turn_tail (k := k) (h := h1) (l := textOf qs) (x0 := x0) (x1 := x1) (x2 := x2) (x3 := x3) (x4 := x4) (x5 := x5) (x6 := x6) (x7 := x7) (x8 := x8) (x9 := some (.int d)) (x10 := x10) (x11 := x11) (x12 := x12) (x13 := some (.loc m)) (x15 := x15) (x16 := x16) (x17 := x17) t3 (by omega)
    refine ⟨some (T (textOf qs)), y15, y16, y17, h2, ?_, fr1.trans fr2⟩
    rw [← e2]
    unfold b6mid
    by_cases hd1 : d = 1
    · have hd2 : ¬ 0 < ((textOf qs).length : Int) := fun z => hd ⟨hd1, z⟩
      simp only [↓ev_lc, List.length_cons, List.length_nil, Nat.zero_add, Nat.reduceAdd, Nat.reduceSub, if_true, if_false, List.map_cons, List.map_nil, List.replicate_succ, List.replicate_zero, List.cons_append, List.nil_append, exs_nil, exs_cons, seqR_nx, seqR_rt, seqR_th, ex_ass, ex_asA, ex_asS, ex_exp, ex_ret, ex_rtN, ex_brk, ex_cnt, ex_pas, ex_ite, iteB_t, iteB_f, ex_for, forR_ok, ex_rai, raiR_s, ex_try, forF_nm, inS_ok, inSs_ok, unS_ok, ev, evs, bind_ok, opt_some, getS, setS, En.free, List.getElem?_cons_zero, List.getElem?_cons_succ, Option.bind_some, id_eq, List.set_cons_zero, List.set_cons_succ, Option.isSome_none, Bool.false_and, Bool.false_eq_true, add_int, sub_int, int_int, eq_int, ne_int, lt_int, le_int, gt_int, ge_int, ne_bl, is_non, isnot_non, len_tup, ct_call, abs_int, tru_b, truth, decide_true, decide_false, reduceCtorEq, R.calm, e_nil, join_bm, evIt, sr, lc, ← hh1, jn, ln, decide_eq_true hd1, hd2]
    · simp only [↓ev_lc, List.length_cons, List.length_nil, Nat.zero_add, Nat.reduceAdd, Nat.reduceSub, if_true, if_false, List.map_cons, List.map_nil, List.replicate_succ, List.replicate_zero, List.cons_append, List.nil_append, exs_nil, exs_cons, seqR_nx, seqR_rt, seqR_th, ex_ass, ex_asA, ex_asS, ex_exp, ex_ret, ex_rtN, ex_brk, ex_cnt, ex_pas, ex_ite, iteB_t, iteB_f, ex_for, forR_ok, ex_rai, raiR_s, ex_try, forF_nm, inS_ok, inSs_ok, unS_ok, ev, evs, bind_ok, opt_some, getS, setS, En.free, List.getElem?_cons_zero, List.getElem?_cons_succ, Option.bind_some, id_eq, List.set_cons_zero, List.set_cons_succ, Option.isSome_none, Bool.false_and, Bool.false_eq_true, add_int, sub_int, int_int, eq_int, ne_int, lt_int, le_int, gt_int, ge_int, ne_bl, is_non, isnot_non, len_tup, ct_call, abs_int, tru_b, truth, decide_true, decide_false, reduceCtorEq, R.calm, e_nil, join_bm, evIt, sr, lc, ← hh1, jn, ln, hd1]
end
end K41
set_option Elab.async false
set_option linter.all false
set_option maxRecDepth 100000
set_option maxHeartbeats 4000000
namespace K41
open PySem PM
section
variable {k : Nat}
theorem turn {h : Hh} {s p L : Nat} {xs : List Int} {i g sd c : Int} {ps : List (List Nat)} {x0 x1 x2 x3 x4 x5 x6 x7 x8 x9 x10 x11 x12 x13 x14 x15 x16 x17 : Option D} (S : St h s p xs i g sd c) (hL : h[L]? = some (.lst (ps.map T))) (nL : L ≠ s) (hp : ps.length ≤ 6) (hq : ∀ q ∈ ps, Ln q) :
    ∃ (y9 y10 y11 y12 y13 y14 y15 y16 y17 : Option D) (h' : Hh) (i' g' c' : Int), exs (Q.ct (calls Q (k + 4))) b_law_6 ⟨[x0, some (.loc s), x2, some (.loc L), x4, x5, x6, x7, x8, x9, x10, x11, x12, x13, x14, x15, x16, x17], none⟩ h = .nx ⟨[x0, some (.loc s), x2, some (.loc L), x4, x5, x6, x7, x8, y9, y10, y11, y12, y13, y14, y15, y16, y17], none⟩ h' ∧ Fr [s] h h' ∧ St h' s p xs i' g' sd c' := by
  obtain ⟨d, i1, g1, c1, h1, a0, a1, e1, fr1, S1, l1⟩ := take drw (k := k + 2) (z := 7) S (by decide) (by decide)
  have hL1 := fr1.at hL (by simpa using nL)
  have ln1 := len_lst hL1
  rw [List.length_map] at ln1
  obtain ⟨a, i2, g2, c2, h2, b0, b1, e2, fr2, S2, l2⟩ := take drw (k := k + 2) (z := (ps.length : Int) + 1) S1 (by omega) (by omega)
  have hL2 := fr2.at hL1 (by simpa using nL)
  have hs2 : s < h2.length := at_lt S2.st
  have hL2' : L < h2.length := at_lt hL2
  obtain ⟨h3, hh3⟩ : ∃ h3, h3 = h2 ++ [.lst fA, .lst fB, .lst (fL.map T)] := ⟨_, rfl⟩
  have ad := add_lst (a := h2.length) (b := h2.length + 1) (h := h2 ++ [.lst fA, .lst fB]) (xs := fA) (ys := fB) at_end (by rw [List.getElem?_append_right (by omega)]; simp) (by decide)
  rw [fL_eq, List.append_assoc, List.length_append] at ad
  simp only [List.cons_append, List.nil_append, List.length_cons, List.length_nil, Nat.zero_add, Nat.reduceAdd] at ad
  rw [← hh3] at ad
  have m3 : h3[h2.length + 2]? = some (.lst (fL.map T)) := by
    rw [hh3, List.getElem?_append_right (by omega)]
    simp
  have ln3 : blt .len [.loc (h2.length + 2)] h3 = .ok (.int 16) h3 := len_lst m3
  have S3 : St h3 s p xs i2 g2 sd c2 := by rw [hh3]; exact S2.app _
  obtain ⟨f, i4, g4, c4, h4, f0, f1, e4, fr4, S4, l4⟩ := take drw (k := k + 2) (z := 16) S3 (by decide) (by decide)
  have m4 := fr4.at m3 (by simp; omega)
  obtain ⟨fm, hfm⟩ : ∃ w, fL[f.toNat]? = some w := ⟨_, List.getElem?_eq_getElem (by have : fL.length = 16 := rfl; omega)⟩
  have lfm := fL_ln fm (List.mem_of_getElem? hfm)
  have sb4 := sub_lst (k := f) (d := T fm) m4 (atI_nat f0 (by rw [List.getElem?_map, hfm]; rfl))
  have fr24 : Fr [s] h h4 := ((fr1.trans fr2).trans (by rw [hh3]; exact Fr.app)).trans fr4
  have hL4 := fr24.at hL (by simpa using nL)
  simp only [fA, fB] at hh3 ad
  by_cases hd : 0 < d
  · have sl1 := slc_lst (lo := none) (hi := some a) hL4
    rw [cut_map] at sl1
    obtain ⟨A, hA⟩ : ∃ A, A = cut ps none (some a) := ⟨_, rfl⟩
    rw [← hA] at sl1
    obtain ⟨h5, hh5⟩ : ∃ h5, h5 = h4 ++ [.lst (A.map T), .lst [T fm], .lst ((A ++ [fm]).map T)] := ⟨_, rfl⟩
    have lA : A.length ≤ 6 := by rw [hA]; exact Nat.le_trans (cut_le _ _ _) hp
    have ad5 := add_lst (a := h4.length) (b := h4.length + 1) (h := h4 ++ [.lst (A.map T), .lst [T fm]]) (xs := A.map T) (ys := [T fm]) at_end (by rw [List.getElem?_append_right (by omega)]; simp) (by unfold PM.sizeLine; simp; omega)
    have eA : A.map T ++ [T fm] = (A ++ [fm]).map T := by simp
    rw [eA, List.append_assoc, List.length_append] at ad5
    simp only [List.cons_append, List.nil_append, List.length_cons, List.length_nil, Nat.zero_add, Nat.reduceAdd] at ad5
    rw [← hh5] at ad5
    have hL5 : h5[L]? = some (.lst (ps.map T)) := by rw [hh5]; exact at_app hL4
    have sl2 := slc_lst (lo := some (a + d / 3)) (hi := none) hL5
    rw [cut_map] at sl2
    obtain ⟨B, hB⟩ : ∃ B, B = cut ps (some (a + d / 3)) none := ⟨_, rfl⟩
    rw [← hB] at sl2
    have lB : B.length ≤ 6 := by rw [hB]; exact Nat.le_trans (cut_le _ _ _) hp
    obtain ⟨h6, hh6⟩ : ∃ h6, h6 = h5 ++ [.lst (B.map T), .lst ((A ++ fm :: B).map T)] := ⟨_, rfl⟩
    have l5 : h5.length = h4.length + 3 := by rw [hh5]; simp
    have ad6 := add_lst (a := h4.length + 2) (b := h5.length) (h := h5 ++ [.lst (B.map T)]) (xs := (A ++ [fm]).map T) (ys := B.map T) (at_app (by rw [hh5, List.getElem?_append_right (by omega)]; simp)) last_get (by unfold PM.sizeLine; simp; omega)
    rw [← List.map_append, List.append_assoc, List.length_append] at ad6
    simp only [List.cons_append, List.nil_append, List.length_cons, List.length_nil, Nat.zero_add, Nat.reduceAdd] at ad6
    simp only [List.nil_append, List.append_assoc, List.cons_append] at ad6
    rw [← hh6] at ad6
    have m6 : h6[h5.length + 1]? = some (.lst ((A ++ fm :: B).map T)) := by
      rw [hh6, List.getElem?_append_right (by omega)]
      simp
    have dv : ∀ hp, binop .FloorDiv (.int d) (.int 3) hp = .ok (.int (d / 3)) hp := fun hp => div_int (by decide)
    obtain ⟨y14, y15, y16, y17, h7, e7, fr7⟩ := turn_mid (k := k) (h := h6) (m := h5.length + 1) (d := d) (qs := A ++ fm :: B) (x0 := x0) (x1 := some (.loc s)) (x2 := x2) (x3 := some (.loc L)) (x4 := x4) (x5 := x5) (x6 := x6) (x7 := x7) (x8 := x8) (x9 := none) (x10 := some (.int a)) (x11 := some (.loc (h2.length + 2))) (x12 := some (T fm)) (x13 := none) (x14 := x14) (x15 := x15) (x16 := x16) (x17 := x17) m6 (fun q hq' => by
      rcases List.mem_append.mp hq' with z | z
      · exact hq q (cut_mem (by rw [hA] at z; exact z))
      · rcases List.mem_cons.mp z with rfl | z
        · exact lfm
        · exact hq q (cut_mem (by rw [hB] at z; exact z))) (by simp; omega)
    have S6 : St h6 s p xs i4 g4 sd c4 := by rw [hh6, hh5]; exact (S4.app _).app _
    have fr6 : Fr [s] h h6 := by rw [hh6, hh5]; exact (fr24.trans Fr.app).trans Fr.app
    refine ⟨some (.int d), some (.int a), some (.loc (h2.length + 2)), some (T fm), some (.loc (h5.length + 1)), y14, y15, y16, y17, h7, i4, g4, c4, ?_, fr6.trans fr7.nil, S6.fr fr7 (by simp) (by simp)⟩
    rw [← e7, b6_eq2]
    simp only [↓ev_lc, List.length_cons, List.length_nil, Nat.zero_add, Nat.reduceAdd, Nat.reduceSub, if_true, if_false, List.map_cons, List.map_nil, List.replicate_succ, List.replicate_zero, List.cons_append, List.nil_append, exs_nil, exs_cons, seqR_nx, seqR_rt, seqR_th, ex_ass, ex_asA, ex_asS, ex_exp, ex_ret, ex_rtN, ex_brk, ex_cnt, ex_pas, ex_ite, iteB_t, iteB_f, ex_for, forR_ok, ex_rai, raiR_s, ex_try, forF_nm, inS_ok, inSs_ok, unS_ok, ev, evs, bind_ok, opt_some, getS, setS, En.free, List.getElem?_cons_zero, List.getElem?_cons_succ, Option.bind_some, id_eq, List.set_cons_zero, List.set_cons_succ, Option.isSome_none, Bool.false_and, Bool.false_eq_true, add_int, sub_int, int_int, eq_int, ne_int, lt_int, le_int, gt_int, ge_int, ne_bl, is_non, isnot_non, len_tup, ct_call, abs_int, tru_b, truth, decide_true, decide_false, reduceCtorEq, R.calm, e1, ln1, e2, PM.sizeLine, Nat.reducePow, Nat.reduceLeDiff, List.append_assoc, List.length_append, ad, ln3, e4, sb4, hd, intOf_int, sl1, ad5, dv, sl2, ad6, Nat.add_assoc]
  · obtain ⟨y14, y15, y16, y17, h7, e7, fr7⟩ := turn_mid (k := k) (h := h4) (m := L) (d := d) (qs := ps) (x0 := x0) (x1 := some (.loc s)) (x2 := x2) (x3 := some (.loc L)) (x4 := x4) (x5 := x5) (x6 := x6) (x7 := x7) (x8 := x8) (x9 := none) (x10 := some (.int a)) (x11 := some (.loc (h2.length + 2))) (x12 := some (T fm)) (x13 := none) (x14 := x14) (x15 := x15) (x16 := x16) (x17 := x17) hL4 hq (by omega)
    refine ⟨some (.int d), some (.int a), some (.loc (h2.length + 2)), some (T fm), some (.loc L), y14, y15, y16, y17, h7, i4, g4, c4, ?_, fr24.trans fr7.nil, S4.fr fr7 (by simp) (by simp)⟩
    rw [← e7, b6_eq2]
    simp only [↓ev_lc, List.length_cons, List.length_nil, Nat.zero_add, Nat.reduceAdd, Nat.reduceSub, if_true, if_false, List.map_cons, List.map_nil, List.replicate_succ, List.replicate_zero, List.cons_append, List.nil_append, exs_nil, exs_cons, seqR_nx, seqR_rt, seqR_th, ex_ass, ex_asA, ex_asS, ex_exp, ex_ret, ex_rtN, ex_brk, ex_cnt, ex_pas, ex_ite, iteB_t, iteB_f, ex_for, forR_ok, ex_rai, raiR_s, ex_try, forF_nm, inS_ok, inSs_ok, unS_ok, ev, evs, bind_ok, opt_some, getS, setS, En.free, List.getElem?_cons_zero, List.getElem?_cons_succ, Option.bind_some, id_eq, List.set_cons_zero, List.set_cons_succ, Option.isSome_none, Bool.false_and, Bool.false_eq_true, add_int, sub_int, int_int, eq_int, ne_int, lt_int, le_int, gt_int, ge_int, ne_bl, is_non, isnot_non, len_tup, ct_call, abs_int, tru_b, truth, decide_true, decide_false, reduceCtorEq, R.calm, e1, ln1, e2, PM.sizeLine, Nat.reducePow, Nat.reduceLeDiff, List.append_assoc, List.length_append, ad, ln3, e4, sb4, hd]
end
end K41
set_option Elab.async false
set_option linter.all false
set_option maxRecDepth 100000
set_option maxHeartbeats 4000000
namespace K41
open PySem PM
theorem d9 : Q.df 9 = some ⟨1, 18, b_law⟩ := rfl
theorem b23 : b_law_2 = b_law_3 := rfl
theorem flats_T {e : Ev} (hw : ∀ w ∈ e, Wd w) : D.flats (e.map T) = true := by
  induction e with
  | nil => rfl
  | cons w e ih =>
    simp only [List.map_cons, D.flats, D.good_flat (good_T (hw w List.mem_cons_self).ok), ih fun z hz => hw z (List.mem_cons_of_mem _ hz), Bool.and_self]
theorem evs_eq {C : Ct} {hb : Bool} {h : Hh} {a b : Nat} {es : List Ev} (he : Evs es) (ea : h[a]? = some (.lst (es.map tupT))) (eb : h[b]? = some (.lst (es.map tupT))) : cmpC C hb .NotEq (.loc a) (.loc b) h = .ok (.bl false) h := by
  have gd : (es.map tupT).all D.good = true := by
    rw [List.all_eq_true]
    intro d hd
    obtain ⟨e, hee, rfl⟩ := List.mem_map.mp hd
    have fl := flats_T (he.2 e hee).2
    simp only [D.good, tupT, D.flat, fl, D.deep, deeps_T, Bool.true_and]
    rfl
  have ly : PyData.canLay0 (.list (D.pds (es.map tupT))) = true := D.pds_lay _ (allGood_flats gd)
  have o2 : PyData.eqv (.list (D.pds (es.map tupT))) (.list (D.pds (es.map tupT))) = true := PySem.SeqAt.eqv_refl _ ly
  show cmpop .NotEq (.loc a) (.loc b) h = _
  simp only [cmpop, eqop, opd, ea, eb, gd, if_true, o2, Bool.not_true]
theorem runs (ns : List Int) (hl : ns.length ≤ 63) : ∃ h', calls P.pg (11 + 1) 9 [.loc 0] [.frl (ns.map D.int)] = .ok (.bl true) h' := by
  obtain ⟨sd, e3⟩ := run3 drw (k := 10) (ns := ns)
  obtain ⟨h0, hh0⟩ : ∃ h0 : Hh, h0 = [.frl (ns.map D.int), .lst ((cut ns none (some 63)).map D.int), .lst ((cut ns none (some 63)).map D.int), .lst [.loc 2, .int 0, .int 0, .int sd, .int 0]] := ⟨_, rfl⟩
  rw [← hh0] at e3
  have S : St h0 3 2 (cut ns none (some 63)) 0 0 sd 0 := ⟨by rw [hh0]; rfl, by rw [hh0]; rfl, by decide, Int.le_refl 0, by omega, Int.le_refl 0⟩
  have l0 : h0.length = 4 := by rw [hh0]; rfl
  obtain ⟨es, E, h1, i1, g1, c1, e1, he, hE1, lE, fr1, S1⟩ := drawn (k := 6) S
  obtain ⟨ps, hps⟩ : ∃ ps, ps = es.map (joinL [32]) := ⟨_, rfl⟩
  have hq : ∀ p ∈ ps, Ln p := fun p hp => by
    rw [hps] at hp
    obtain ⟨e, hee, rfl⟩ := List.mem_map.mp hp
    exact (ev_line (he.2 e hee).1 (he.2 e hee).2).2
  have lp : ps.length ≤ 6 := by rw [hps]; simpa using he.1
  obtain ⟨h2, e2, fr2⟩ := lcGo_mapI (f := lcF (Q.ct (calls Q 11)) ⟨[some (.loc 0), some (.loc 3), some (.loc E), none, none, none, none, none, none, none, none, none, none, none, none, none, none, none], none⟩ [4] (.nm 4) .nil b_law_1) (ok := Src.still ⟨es.map tupT, [(E, es.map tupT)]⟩) (fun hp => Fr [] h1 hp) (fun hp fr => still_lst (fr.at hE1 (by simp))) lineT (its := es.map tupT) (fun x hx hp fr => by
    obtain ⟨e, hee, rfl⟩ := List.mem_map.mp hx
    obtain ⟨h3, hw⟩ := he.2 e hee
    have jn := ev_join (h := hp) h3 hw
    have lt : blt .list [tupT e] hp = .ok (.loc hp.length) (hp ++ [.lst (e.map T)]) := list_tup
    refine ⟨hp ++ [.lst (e.map T)], ?_, fr.trans Fr.app⟩
    rw [lineT_tup]
    unfold lcF b_law_1
    simp only [↓ev_lc, List.length_cons, List.length_nil, Nat.zero_add, Nat.reduceAdd, Nat.reduceSub, if_true, if_false, List.map_cons, List.map_nil, List.replicate_succ, List.replicate_zero, List.cons_append, List.nil_append, exs_nil, exs_cons, seqR_nx, seqR_rt, seqR_th, ex_ass, ex_asA, ex_asS, ex_exp, ex_ret, ex_rtN, ex_brk, ex_cnt, ex_pas, ex_ite, iteB_t, iteB_f, ex_for, forR_ok, ex_rai, raiR_s, ex_try, forF_nm, inS_ok, inSs_ok, unS_ok, ev, evs, bind_ok, opt_some, getS, setS, En.free, List.getElem?_cons_zero, List.getElem?_cons_succ, Option.bind_some, id_eq, List.set_cons_zero, List.set_cons_succ, Option.isSome_none, Bool.false_and, Bool.false_eq_true, add_int, sub_int, int_int, eq_int, ne_int, lt_int, le_int, gt_int, ge_int, ne_bl, is_non, isnot_non, len_tup, ct_call, abs_int, tru_b, truth, decide_true, decide_false, reduceCtorEq, R.calm, putT, PM.wipe, tests, e_sp, join_bm, lt, jn]) h1 Fr.refl
  rw [line_map, ← hps] at e2
  have sr1 := src_lst hE1
  obtain ⟨L, hLd⟩ : ∃ L, L = h2.length := ⟨_, rfl⟩
  obtain ⟨h3, hh3⟩ : ∃ h3, h3 = h2 ++ [.lst (ps.map T)] := ⟨_, rfl⟩
  have hL3 : h3[L]? = some (.lst (ps.map T)) := by rw [hh3, hLd]; exact last_get
  have sr3 := src_lst hL3
  have lc3 := nl_lc (k := 11) (h := h3) (x0 := some (.loc 0)) (x1 := some (.loc 3)) (x2 := some (.loc E)) (x3 := some (.loc L)) (x4 := none) (x5 := none) (x6 := none) (x7 := none) (x8 := none) (x9 := none) (x10 := none) (x11 := none) (x12 := none) (x13 := none) (x14 := none) (x15 := none) (x16 := none) (x17 := none) hL3 hq
  rw [← b23] at lc3
  obtain ⟨h4, hh4⟩ : ∃ h4, h4 = h3 ++ [.lst ((ps.map fun p => p ++ [10]).map T)] := ⟨_, rfl⟩
  have jn4 := text_join (h := h4) (m := h3.length) hq (by omega) (by rw [hh4]; exact last_get)
  have fr14 : Fr [] h1 h4 := by rw [hh4, hh3]; exact (fr2.trans Fr.app).trans Fr.app
  have hE4 := fr14.at hE1 (by simp)
  have hL4 : h4[L]? = some (.lst (ps.map T)) := by rw [hh4]; exact at_app hL3
  obtain ⟨M, hMd⟩ : ∃ M, M = h4.length := ⟨_, rfl⟩
  obtain ⟨h5, hh5⟩ : ∃ h5, h5 = h4 ++ [.lst (es.map tupT)] := ⟨_, rfl⟩
  have li : blt .list [.loc E] h4 = .ok (.loc M) h5 := by rw [hh5, hMd]; simp only [blt, bList, hE4]
  have hM5 : h5[M]? = some (.lst (es.map tupT)) := by rw [hh5, hMd]; exact last_get
  have hE5 : h5[E]? = some (.lst (es.map tupT)) := by rw [hh5]; exact at_app hE4
  have hL5 : h5[L]? = some (.lst (ps.map T)) := by rw [hh5]; exact at_app hL4
  obtain ⟨h6, e6, fr6⟩ := format (k := 10) (h := h5) he hM5
  rw [← hps] at e6
  obtain ⟨t1, t2, t3⟩ := text_len hq
  obtain ⟨h7, e7, fr7⟩ := same_refl d6 0 (T (textOf ps)) 10 h6 (by simp [D.deep]) (nice_T t3)
  have fr57 : Fr [] h5 h7 := fr6.trans fr7
  have ne7 := fun C hb => evs_eq (C := C) (hb := hb) he (fr57.at hM5 (by simp)) (fr57.at hE5 (by simp))
  have fr17 : Fr [] h1 h7 := (fr14.trans (by rw [hh5]; exact Fr.app)).trans fr57
  have S7 : St h7 3 2 (cut ns none (some 63)) i1 g1 sd c1 := S1.fr fr17 (by simp) (by simp)
  have hL7 := fr57.at hL5 (by simp)
  have l1 : h0.length ≤ h1.length := fr1.1
  have nL : L ≠ 3 := by have := fr2.1; omega
  obtain ⟨n', h8, e8, iv⟩ := forGo_inv (f := forF (Q.ct (calls Q 11)) (.nm 8) b_law_6) (ok := Src.still ⟨rangeD 0 8, []⟩) (its := rangeD 0 8)
    (fun n hp => ∃ (x8 x9 x10 x11 x12 x13 x14 x15 x16 x17 : Option D) (i g c : Int), n = ⟨[some (.loc 0), some (.loc 3), some (.loc E), some (.loc L), none, some (T (textOf ps)), none, some (.loc M), x8, x9, x10, x11, x12, x13, x14, x15, x16, x17], none⟩ ∧ St hp 3 2 (cut ns none (some 63)) i g sd c ∧ hp[L]? = some (.lst (ps.map T))) (fun _ _ _ => still_none) (fun x hx n hp iv => by
      obtain ⟨x8, x9, x10, x11, x12, x13, x14, x15, x16, x17, i, g, c, rfl, S, hL⟩ := iv
      obtain ⟨y9, y10, y11, y12, y13, y14, y15, y16, y17, h', i', g', c', er, fr, S'⟩ := turn (k := 7) (x0 := some (.loc 0)) (x1 := none) (x2 := some (.loc E)) (x3 := none) (x4 := none) (x5 := some (T (textOf ps))) (x6 := none) (x7 := some (.loc M)) (x8 := some x) (x9 := x9) (x10 := x10) (x11 := x11) (x12 := x12) (x13 := x13) (x14 := x14) (x15 := x15) (x16 := x16) (x17 := x17) S hL nL lp hq
      exact ⟨_, h', by rw [forF_nm]; exact er, some x, y9, y10, y11, y12, y13, y14, y15, y16, y17, i', g', c', rfl, S', fr.at hL (by simpa using nL)⟩)
    ⟨[some (.loc 0), some (.loc 3), some (.loc E), some (.loc L), none, some (T (textOf ps)), none, some (.loc M), none, none, none, none, none, none, none, none, none, none], none⟩ h7 ⟨none, none, none, none, none, none, none, none, none, none, i1, g1, c1, rfl, S7, hL7⟩
  obtain ⟨x8, x9, x10, x11, x12, x13, x14, x15, x16, x17, i, g, c, rfl, S8, hL8⟩ := iv
  refine ⟨h8, ?_⟩
  have ok : okR 8 = true := by decide
  have tn : (8 : Int).toNat = 8 := rfl
  rw [calls_df d9]
  unfold runDf b_law
  simp only [↓ev_lc, List.length_cons, List.length_nil, Nat.zero_add, Nat.reduceAdd, Nat.reduceSub, if_true, if_false, List.map_cons, List.map_nil, List.replicate_succ, List.replicate_zero, List.cons_append, List.nil_append, exs_nil, exs_cons, seqR_nx, seqR_rt, seqR_th, ex_ass, ex_asA, ex_asS, ex_exp, ex_ret, ex_rtN, ex_brk, ex_cnt, ex_pas, ex_ite, iteB_t, iteB_f, ex_for, forR_ok, ex_rai, raiR_s, ex_try, forF_nm, inS_ok, inSs_ok, unS_ok, ev, evs, bind_ok, opt_some, getS, setS, En.free, List.getElem?_cons_zero, List.getElem?_cons_succ, Option.bind_some, id_eq, List.set_cons_zero, List.set_cons_succ, Option.isSome_none, Bool.false_and, Bool.false_eq_true, add_int, sub_int, int_int, eq_int, ne_int, lt_int, le_int, gt_int, ge_int, ne_bl, is_non, isnot_non, len_tup, ct_call, abs_int, tru_b, truth, decide_true, decide_false, reduceCtorEq, R.calm, e3, e1, evIt, sr1, e2, ← hh3, ← hLd, e_nil, join_bm, sr3, lc3, ← hh4, jn4, li, e6, e7, Bool.not_true, ne7, intOf_int, ok, tn, e8]
end K41
set_option Elab.async false
set_option linter.all false
set_option maxRecDepth 100000
set_option maxHeartbeats 0
namespace K41
open PySem PySem.Spec PyProof.Rows PM L2
abbrev pr : Program := PySem.Challenge.pw_calledanew_k41_event_texts
def ex (K : PySem.W.Frag) : Bool := P.dyn pr K && noInts K
def fn : List He.DefD := P.defs.map Dd.dd
abbrev R : PySem.W.OpenRow := PySem.W.OpenLaw.row PySem.Challenge.rw_calledanew_k41_event_texts
abbrev hk : PySem.W.Hook := hookP 6 fn ex
def ob (s : PySem.W.SharedT) : He.AlD × Bool := obsP 6 fn ex (HandSHeadRun.getT s)
theorem ob_eq (s : PySem.W.SharedT) : ob s = hk.obs s.abs := obsP_eq (HandSHeadRun.getT_eq s)
theorem run (w : World) : HandSHeadRun.RunEq R (PySem.W.view R.prog [22]) hk ob 2000 ["CalledError", "InvalidText", "LETTERS", "is_name", "all_names", "text_lines", "format_events", "parse_events", "_law_start", "_law_mixed", "_law_take", "_law_pick", "_law_names", "_law_same", "_law_is_name", "_law_line_event", "_law_due", "_law_drawn_events", "__name__"] w := by
  intro os
  kernel_rfl
end K41
set_option Elab.async false
set_option linter.all false
set_option maxRecDepth 100000
set_option maxHeartbeats 0
namespace K41
open PySem PySem.Spec PyProof.Rows PM L2
theorem one : ∀ d ∈ P.defs, d.id = 9 → d.ps = [("_law_script" : Str)] := by decide +kernel
end K41
open PySem PySem.W PySem.Calls PyProof.Rows
theorem PySem.Challenge.cw_calledanew_k41_event_texts_holds : PySem.Challenge.rw_calledanew_k41_event_texts.Holds := by
  w_on; o_law
  refine HandSHeadRun.head_any (r := OpenLaw.row PySem.Challenge.rw_calledanew_k41_event_texts) (q := view (OpenLaw.row PySem.Challenge.rw_calledanew_k41_event_texts).prog [22]) (H := K41.hk) (ob := K41.ob) (M := 2000) (loose := ["CalledError", "InvalidText", "LETTERS", "is_name", "all_names", "text_lines", "format_events", "parse_events", "_law_start", "_law_mixed", "_law_take", "_law_pick", "_law_names", "_law_same", "_law_is_name", "_law_line_event", "_law_due", "_law_drawn_events", "__name__"]) (d := HandSHeadRun.topDef (OpenLaw.row PySem.Challenge.rw_calledanew_k41_event_texts).prog 22) (kwd := []) K41.ob_eq
    (by kernel_rfl) (fun s => by kernel_rfl) K41.run (by kernel_rfl) (by kernel_rfl) (by kernel_rfl) (by rfl) (by first | assumption | decide +kernel) (by decide +kernel) ⟨rfl, rfl, rfl, rfl, rfl, by decide +kernel⟩ ?hw ?hc
  case hw => w_witness2
  case hc =>
    refine L2.walk_ofE (l := PySem.Challenge.rw_calledanew_k41_event_texts) (n := 63) (k := 2 * (11 + 1) + 2) (x := "_law_script") (CX := L2.CX0) rfl (by decide) (by kernel_rfl) ⟨rfl, by decide, by decide⟩ ?F ?E
    case F =>
      intro w mg fa h Y G hmg0
      obtain ⟨K, KX, c, e⟩ := Y
      have hmg : mg ("law" : PySem.Str) = some (.ref fa) := by
        have e : (HandSHeadRun.topDef (OpenLaw.row PySem.Challenge.rw_calledanew_k41_event_texts).prog 22).name = ("law" : PySem.Str) := by kernel_rfl
        rw [← e]
        exact hmg0
      obtain ⟨fd, sp, b1, b2, b3⟩ := PM.Pd.law (P := K41.P) (prog := PySem.Challenge.pw_calledanew_k41_event_texts) (w := w) (i := 9) (x := "law") (y := "_law_script") 11 K41.hf K41.st K41.cm e KX G (PM.says_fns c) (by decide +kernel) hmg K41.one K41.runs
      exact ⟨K, fd, sp, KX, b1, b2, b3⟩
    case E => exact fun _ _ _ _ z => z
