import PyProof.Rows.All
import Wide.All
import OpenK.AllK
import Wide.FinOn
import HandS.ForMost
import HandS.ForExc
import HandS.CallSlots
import KE.KDictKeyed
import HandS.TupAny
import HandS.TupMul
import HandS.IsInst
import HandS.Style
import KE.KDictDisplayH
import HandS.Iter
import PyProof.DictTable
import KE.GoesEnum
import HandS.FStr
import HandS.RaiseMore
import HandS.ExcOwn
import HandS.ExcIs
import HandS.ExcValue
import HandS.SetFor
import HandS.SortInts
import KE.SortKeyHeap
import HandS.SortKw
import KE.DataCmp
import KE.KDictPairs
import HandS.Conv
import PyProof.Conv_int_bool
import KE.KDictSum
import KE.DataMinMax
import HandS.Small
import KE.RegKIsAll
import PySem.Challenge.RW_twocranes_k52_loads_by_themselves
set_option Elab.async false
set_option linter.all false
set_option maxRecDepth 100000
set_option maxHeartbeats 4000000
/-! DLcore: plain data, slots, and the meaning of Python's constructs as total functions (no program in sight). -/
namespace DL

/-- a text: its code points -/
abbrev Tx := List Nat

inductive D where
  | non
  | bl (b : Bool)
  | int (i : Int)
  | str (s : Tx)
  | tup (xs : List D)
  | lst (xs : List D)
  deriving Inhabited

mutual
def D.eqv : D → D → Bool
  | .non, .non => true
  | .bl a, .bl b => a == b
  | .bl a, .int j => (if a then 1 else 0) == j
  | .int i, .bl b => i == (if b then 1 else 0)
  | .int i, .int j => i == j
  | .str x, .str y => x == y
  | .lst xs, .lst ys => D.eqvs xs ys
  | .tup xs, .tup ys => D.eqvs xs ys
  | _, _ => false
def D.eqvs : List D → List D → Bool
  | [], [] => true
  | x :: xs, y :: ys => D.eqv x y && D.eqvs xs ys
  | _, _ => false
end

mutual
def D.dep : D → Nat
  | .tup xs => D.deps xs + 1
  | .lst xs => D.deps xs + 1
  | _ => 0
def D.deps : List D → Nat
  | [] => 0
  | x :: xs => max (D.dep x) (D.deps xs)
end

/-! may it be a key (a tuple of such, of intsD, texts, None) -/
mutual
def D.kin : D → Bool
  | .non => true
  | .int _ => true
  | .str _ => true
  | .tup xs => D.kins xs
  | _ => false
def D.kins : List D → Bool
  | [] => true
  | x :: xs => D.kin x && D.kins xs
end
def D.keyOk : D → Bool
  | .tup xs => D.kins xs && decide (D.deps xs ≤ 7)
  | _ => false

/-- a mutable object -/
inductive Ob where
  | lst (xs : List D)
  /-- a dict whose keys are tuples -/
  | dct (kvs : List (D × D))
  /-- a dict whose keys are texts -/
  | dcs (kvs : List (D × D))
  deriving Inhabited

/-- what a slot holds: data, a dict that is read only, an object that this slot alone owns (tag: the parameter that it came by) -/
inductive S where
  | pure (d : D)
  /-- the script: read alone -/
  | scr (ns : List Int)
  /-- an exception object of the class that stands at c -/
  | exo (c : Nat)
  | fdc (ob : Ob)
  | mob (tag : Option Nat) (ob : Ob)
  deriving Inhabited

/-- an expression's result: data, a new object, what the slot i holds -/
inductive R where
  | pure (d : D)
  | fdc (ob : Ob)
  | own (ob : Ob)
  | bor (i : Nat)
  deriving Inhabited

abbrev Sl := List (Option S)

inductive Out (α : Type) where
  | ok (a : α) (σ : Sl)
  | exn (c : Nat) (σ : Sl)
  | fail

abbrev M (α : Type) := Sl → Out α

def mbind {α β : Type} (m : M α) (f : α → M β) : M β := fun σ => match m σ with
  | .ok a σ' => f a σ'
  | .exn c σ' => .exn c σ'
  | .fail => .fail
def mok {α : Type} (a : α) : M α := fun σ => .ok a σ
def mof {α : Type} (o : Option α) : M α := fun σ => match o with
  | some a => .ok a σ
  | none => .fail

/-- the greatest length of a thing -/
def zLine : Nat := 16777216

/-- what is read of a result -/
inductive Vw where
  | d (x : D)
  | kv (ob : Ob)

def slotVw : Option (Option S) → Option Vw
  | some (some (.pure d)) => some (.d d)
  | some (some (.fdc ob)) => some (.kv ob)
  | some (some (.mob _ (.lst xs))) => some (.d (.lst xs))
  | some (some (.mob _ ob)) => some (.kv ob)
  | _ => none
def view (r : R) (σ : Sl) : Option Vw := match r with
  | .pure d => some (.d d)
  | .fdc ob => some (.kv ob)
  | .own (.lst xs) => some (.d (.lst xs))
  | .own ob => some (.kv ob)
  | .bor i => slotVw σ[i]?
def asD (r : R) (σ : Sl) : Option D := match view r σ with
  | some (.d x) => some x
  | _ => none
def asKv (r : R) (σ : Sl) : Option Ob := match view r σ with
  | some (.kv ob) => some ob
  | _ => none

/-- data for good: a slot's list is frozen -/
def frz (r : R) : M D := fun σ => match r with
  | .pure d => .ok d σ
  | .own (.lst xs) => .ok (.lst xs) σ
  | .own _ => .fail
  | .fdc _ => .fail
  | .bor i => match σ[i]? with
    | some (some (.pure d)) => .ok d σ
    | some (some (.mob none (.lst xs))) => .ok (.lst xs) (σ.set i (some (.pure (.lst xs))))
    | _ => .fail

/-! ### expressions -/
def eVar (i : Nat) : M R := fun σ => match σ[i]? with
  | some (some (.pure d)) => .ok (.pure d) σ
  | some (some (.fdc ob)) => .ok (.fdc ob) σ
  | some (some (.mob _ _)) => .ok (.bor i) σ
  | some (some (.scr _)) => .ok (.bor i) σ
  | some (some (.exo _)) => .ok (.bor i) σ
  | _ => .fail
/-- a result that stands for good: a slot's object is frozen -/
def fix (r : R) : M R := fun σ => match r with
  | .bor i => match σ[i]? with
    | some (some (.pure d)) => .ok (.pure d) σ
    | some (some (.fdc ob)) => .ok (.fdc ob) σ
    | some (some (.mob none (.lst xs))) => .ok (.pure (.lst xs)) (σ.set i (some (.pure (.lst xs))))
    | _ => .fail
  | r => .ok r σ
def eC (d : D) : M R := mok (.pure d)
def getD (m : M R) : M D := mbind m fun r σ => match asD r σ with
  | some d => .ok d σ
  | none => .fail
def e1 (f : D → Option R) (a : M R) : M R := mbind a fun r σ => match asD r σ with
  | some d => match f d with
    | some z => .ok z σ
    | none => .fail
  | none => .fail
def e2 (f : D → D → Option R) (a b : M R) : M R := mbind a fun r => mbind b fun q σ => match asD r σ, asD q σ with
  | some d, some e => match f d e with
    | some z => .ok z σ
    | none => .fail
  | _, _ => .fail
/-- two views -/
def e2v (f : Vw → D → Option R) (a b : M R) : M R := mbind a fun r => mbind b fun q σ => match view r σ, asD q σ with
  | some d, some e => match f d e with
    | some z => .ok z σ
    | none => .fail
  | _, _ => .fail
/-- items of a display, for good -/
def eItems : List (M R) → M (List D)
  | [] => mok []
  | e :: es => mbind e fun r => mbind (frz r) fun d => mbind (eItems es) fun ds => mok (d :: ds)
def eTup (es : List (M R)) : M R := mbind (eItems es) fun ds => mok (.pure (.tup ds))
def eLst (es : List (M R)) : M R := mbind (eItems es) fun ds => mok (.own (.lst ds))
/-! tests -/
def tB (e : M R) : M Bool := mbind e fun r σ => match asD r σ with
  | some (.bl b) => .ok b σ
  | _ => .fail
def tNot (t : M Bool) : M Bool := mbind t fun b => mok (!b)
def tAnd (t u : M Bool) : M Bool := mbind t fun b => if b = true then u else mok false
def tOr (t u : M Bool) : M Bool := mbind t fun b => if b = true then mok true else u
def eAnd (a b : M R) : M R := mbind (tB a) fun c => if c = true then b else mok (.pure (.bl false))
def eOr (a b : M R) : M R := mbind (tB a) fun c => if c = true then mok (.pure (.bl true)) else b
def eNot (a : M R) : M R := mbind (tB a) fun c => mok (.pure (.bl (!c)))
def eIf (t : M Bool) (a b : M R) : M R := mbind t fun c => if c = true then a else b
/-- a op b op' c, of ints -/
def getI (m : M R) : M Int := mbind (getD m) fun d => match d with
  | .int i => mok i
  | _ => fun _ => .fail
def eChain (p q : Int → Int → Bool) (a b c : M R) : M R := mbind (getI a) fun x => mbind (getI b) fun y => if p x y = true then mbind (getI c) fun z => mok (.pure (.bl (q y z))) else mok (.pure (.bl false))

/-! ### operators on data -/
def small63 (i : Int) : Bool := decide (-(2 ^ 63) ≤ i) && decide (i < 2 ^ 63)
def small (i : Int) : Bool := decide (-(2 ^ 64) < i) && decide (i < 2 ^ 64)
def pyAdd : D → D → Option R
  | .int i, .int j => some (.pure (.int (i + j)))
  | .str a, .str b => if a.length + b.length ≤ zLine then some (.pure (.str (a ++ b))) else none
  | .tup a, .tup b => if a.length + b.length ≤ zLine then some (.pure (.tup (a ++ b))) else none
  | .lst a, .lst b => if a.length + b.length ≤ zLine then some (.own (.lst (a ++ b))) else none
  | _, _ => none
def pySub : D → D → Option R
  | .int i, .int j => some (.pure (.int (i - j)))
  | _, _ => none
def pyMul : D → D → Option R
  | .int i, .int j => if small i = true ∨ small j = true then some (.pure (.int (i * j))) else none
  | .tup a, .int k => if a ≠ [] ∧ 2 ≤ k ∧ k ≤ 1000 ∧ a.length ≤ 1000 then some (.pure (.tup (List.replicate k.toNat a).flatten)) else none
  | .lst a, .int k => if small63 k = true ∧ a.length * k.toNat ≤ zLine then some (.own (.lst (List.replicate k.toNat a).flatten)) else none
  | _, _ => none
def pyFdiv : D → D → Option R
  | .int i, .int j => if 0 < j ∧ j < 1073741824 then some (.pure (.int (i / j))) else none
  | _, _ => none
def pyMod : D → D → Option R
  | .int i, .int j => if 0 < j then some (.pure (.int (i % j))) else none
  | _, _ => none
def pyPow : D → D → Option R
  | .int i, .int j => if 0 ≤ j ∧ j ≤ 1000 ∧ small i = true then some (.pure (.int (i ^ j.toNat))) else none
  | _, _ => none
def pyNeg : D → Option R
  | .int i => some (.pure (.int (-i)))
  | _ => none
def b2 (b : Bool) : Option R := some (.pure (.bl b))
def pyEq (a b : D) : Option R := if b.dep ≤ 64 ∨ a.dep ≤ 64 then b2 (a.eqv b) else none
def pyNe (a b : D) : Option R := if b.dep ≤ 64 ∨ a.dep ≤ 64 then b2 (!a.eqv b) else none
def pyLt : D → D → Option R
  | .int i, .int j => b2 (decide (i < j))
  | _, _ => none
def pyLe : D → D → Option R
  | .int i, .int j => b2 (decide (i ≤ j))
  | _, _ => none
def pyGt : D → D → Option R
  | .int i, .int j => b2 (decide (j < i))
  | _, _ => none
def pyGe : D → D → Option R
  | .int i, .int j => b2 (decide (j ≤ i))
  | _, _ => none
/-- is None, is not None -/
def isN : D → Bool
  | .non => true
  | _ => false
def pyIsN (neg : Bool) (d : D) : Option R := b2 (if neg = true then !isN d else isN d)
/-- is True .. of a bool -/
def pyIsB (neg c : Bool) : D → Option R
  | .bl b => b2 (if neg = true then !(b == c) else b == c)
  | _ => none
/-- an index, from either end -/
def ixOf (i : Int) (n : Nat) : Option Nat := if 0 ≤ i then (if i < n then some i.toNat else none) else if -(n : Int) ≤ i then some (i + n).toNat else none
def pyIx : D → D → Option D
  | .tup xs, .int i => match ixOf i xs.length with
    | some k => xs[k]?
    | none => none
  | .lst xs, .int i => match ixOf i xs.length with
    | some k => xs[k]?
    | none => none
  | .str s, .int i => if s.length ≤ zLine then match ixOf i s.length with
    | some k => match s[k]? with
      | some c => some (.str [c])
      | none => none
    | none => none else none
  | _, _ => none
/-! the script at the slot i -/
def scrAt (i : Nat) (f : List Int → Option R) : M R := fun σ => match σ[i]? with
  | some (some (.scr ns)) => match f ns with
    | some r => .ok r σ
    | none => .fail
  | _ => .fail
/-- script == [] -/
def eScrNil (i : Nat) : M R := scrAt i fun ns => some (.pure (.bl ns.isEmpty))
/-- len(script) -/
def eScrLen (i : Nat) : M R := scrAt i fun ns => some (.pure (.int ns.length))
/-- list(script) -/
def eScrList (i : Nat) : M R := scrAt i fun ns => some (.own (.lst (ns.map .int)))
/-- script[k] -/
def eScrIx (i : Nat) (e : M R) : M R := fun σ => match σ[i]? with
  | some (some (.scr _)) => (mbind e fun r σ => match asD r σ with
    | some (.int k) => scrAt i (fun ns => match ixOf k ns.length with
      | some j => (ns[j]?).map fun z => .pure (.int z)
      | none => none) σ
    | _ => .fail) σ
  | _ => .fail
/-! dicts -/
def dGet : List (D × D) → D → Option D
  | [], _ => none
  | (k, v) :: r, x => if k.eqv x = true then some v else dGet r x
def dPut : List (D × D) → D → D → List (D × D)
  | [], x, v => [(x, v)]
  | (k, u) :: r, x, v => if k.eqv x = true then (k, v) :: r else (k, u) :: dPut r x v
def keyFor : Ob → D → Option (List (D × D))
  | .dct kvs, k => if k.keyOk = true then some kvs else none
  | _, _ => none
def pySub' : Vw → D → Option R
  | .d x, i => (pyIx x i).map .pure
  | .kv ob, k => match keyFor ob k with
    | some kvs => (dGet kvs k).map .pure
    | none => none
/-- x in y -/
def pyIn : Vw → D → Option Bool
  | .d (.tup xs), x => if x.dep ≤ 63 ∨ D.deps xs ≤ 63 then some (xs.any fun z => z.eqv x) else none
  | .d (.lst xs), x => if x.dep ≤ 63 ∨ D.deps xs ≤ 63 then some (xs.any fun z => z.eqv x) else none
  | .d (.str t), .str [c] => some (t.any fun b => b == c)
  | .kv ob, k => match keyFor ob k with
    | some kvs => some (dGet kvs k).isSome
    | none => none
  | _, _ => none
def eIn (neg : Bool) (a b : M R) : M R := mbind a fun r => mbind b fun q σ => match asD r σ, view q σ with
  | some x, some y => match pyIn y x with
    | some k => .ok (.pure (.bl (if neg = true then !k else k))) σ
    | none => .fail
  | _, _ => .fail
/-- d != {} -/
def eDNe (a : M R) : M R := mbind a fun r σ => match asKv r σ with
  | some (.dct kvs) => .ok (.pure (.bl (!kvs.isEmpty))) σ
  | _ => .fail
/-- d.get(k), d.get(k, x) -/
def isDct : Option Ob → Bool
  | some (.dct _) => true
  | _ => false
def eGet1 (a b : M R) : M R := mbind a fun r σ => if isDct (asKv r σ) = true then (mbind b fun q σ => match asKv r σ, asD q σ with
  | some ob, some k => match keyFor ob k with
    | some kvs => .ok (.pure ((dGet kvs k).getD .non)) σ
    | none => .fail
  | _, _ => .fail) σ else .fail
def eGet2 (a b c : M R) : M R := mbind a fun r σ => if isDct (asKv r σ) = true then (mbind b fun q => mbind c fun t σ => match asKv r σ, asD q σ with
  | some ob, some k => match keyFor ob k with
    | some kvs => mbind (frz t) (fun x => mok (.pure ((dGet kvs k).getD x))) σ
    | none => .fail
  | _, _ => .fail) σ else .fail
/-- {}: its keys will be tuples; texts -/
def eDict0 : M R := mok (.own (.dct []))
def eDict0s : M R := mok (.own (.dcs []))
/-- {k: v} -/
def eDict1 (a b : M R) : M R := mbind a fun r => mbind (frz r) fun k => mbind b fun q => mbind (frz q) fun v => if k.keyOk = true then mok (.own (.dct [(k, v)])) else fun _ => .fail
/-! slices -/
def cutLo (n : Nat) : Option Int → Nat
  | none => 0
  | some i => if i < 0 then (i + n).toNat else min i.toNat n
def cutHi (n : Nat) : Option Int → Nat
  | none => n
  | some i => if i < 0 then (i + n).toNat else min i.toNat n
def cut {α : Type} (xs : List α) (lo hi : Option Int) : List α := (xs.drop (cutLo xs.length lo)).take (cutHi xs.length hi - cutLo xs.length lo)
def pySlice : D → Option Int → Option Int → Option R
  | .tup xs, lo, hi => some (.pure (.tup (cut xs lo hi)))
  | .lst xs, lo, hi => some (.own (.lst (cut xs lo hi)))
  | .str xs, lo, hi => if xs.length ≤ zLine then some (.pure (.str (cut xs lo hi))) else none
  | _, _, _ => none
def eOpt : Option (M R) → M (Option Int)
  | none => mok none
  | some e => mbind (getD e) fun d => match d with
    | .int i => mok (some i)
    | _ => fun _ => .fail
def eSlice (a : M R) (lo hi : Option (M R)) : M R := mbind a fun r => mbind (eOpt lo) fun l => mbind (eOpt hi) fun h σ => match asD r σ with
  | some d => match pySlice d l h with
    | some z => .ok z σ
    | none => .fail
  | none => .fail

/-! ### built-ins -/
def pyLen : D → Option R
  | .tup xs => some (.pure (.int xs.length))
  | .lst xs => some (.pure (.int xs.length))
  | .str xs => if xs.length ≤ zLine then some (.pure (.int xs.length)) else none
  | _ => none
inductive Ty where
  | int | bool | str | tuple | list | dict
def isTy : Ty → D → Bool
  | .int, .int _ => true
  | .int, .bl _ => true
  | .bool, .bl _ => true
  | .str, .str _ => true
  | .tuple, .tup _ => true
  | .list, .lst _ => true
  | _, _ => false
def pyTuple : D → Option R
  | .tup xs => some (.pure (.tup xs))
  | .lst xs => some (.pure (.tup xs))
  | _ => none
def pyList : D → Option R
  | .tup xs => some (.own (.lst xs))
  | .lst xs => some (.own (.lst xs))
  | _ => none
def boolsD : List D → Option (List Bool)
  | [] => some []
  | .bl b :: r => (boolsD r).map (b :: ·)
  | _ :: _ => none
def intsD : List D → Option (List Int)
  | [] => some []
  | .int b :: r => (intsD r).map (b :: ·)
  | _ :: _ => none
def strsD : List D → Option (List Tx)
  | [] => some []
  | .str b :: r => (strsD r).map (b :: ·)
  | _ :: _ => none
def pyAll : D → Option R
  | .lst xs => (boolsD xs).map fun bs => .pure (.bl (bs.all id))
  | _ => none
def pyAbs : D → Option R
  | .int i => some (.pure (.int (if i < 0 then -i else i)))
  | _ => none
def pyMax2 : D → D → Option R
  | .int i, .int j => some (.pure (.int (if j > i then j else i)))
  | _, _ => none
def pyMin2 : D → D → Option R
  | .int i, .int j => some (.pure (.int (if j < i then j else i)))
  | _, _ => none
def minI : List Int → Option Int
  | [] => none
  | x :: r => some (r.foldl min x)
def maxI : List Int → Option Int
  | [] => none
  | x :: r => some (r.foldl max x)
def pySum : D → Option R
  | .lst xs => (intsD xs).map fun ns => .pure (.int ns.sum)
  | _ => none

/-! ### statements -/
inductive Flow where
  | next | brk | cont
  | ret (r : R)

def setS (i : Nat) (s : S) : M Flow := fun σ => .ok .next (σ.set i (some s))
/-- store a result at a slot -/
def put (i : Nat) (r : R) : M Flow := fun σ => match r with
  | .pure d => .ok .next (σ.set i (some (.pure d)))
  | .fdc ob => .ok .next (σ.set i (some (.fdc ob)))
  | .own ob => .ok .next (σ.set i (some (.mob none ob)))
  | .bor _ => .fail
def sSeq (f g : M Flow) : M Flow := mbind f fun fl => match fl with
  | .next => g
  | _ => mok fl
def sSkip : M Flow := mok .next
def sPut (i : Nat) (e : M R) : M Flow := mbind e fun r => mbind (fix r) (put i)
/-- x = y, where y is not used any more: the object goes over -/
def sMove (i j : Nat) : M Flow := fun σ => match σ[j]? with
  | some (some (.mob none ob)) => .ok .next ((σ.set j none).set i (some (.mob none ob)))
  | _ => .fail
def sIf (t : M Bool) (a b : M Flow) : M Flow := mbind t fun c => if c = true then a else b
def sRet (e : M R) : M Flow := mbind e fun r => mok (.ret r)
def sRaise (c : Nat) : M Flow := fun σ => .exn c σ
def sDo (e : M R) : M Flow := mbind e fun _ => mok .next
/-- data to targets -/
inductive Tg where
  | name (i : Nat)
  | tup (is : List Nat)
def setAll : List Nat → List D → Sl → Sl
  | i :: is, d :: ds, σ => setAll is ds (σ.set i (some (.pure d)))
  | _, _, σ => σ
def bindT : Tg → D → Sl → Option Sl
  | .name i, d, σ => some (σ.set i (some (.pure d)))
  | .tup is, .tup ds, σ => if ds.length = is.length then some (setAll is ds σ) else none
  | _, _, _ => none
def sUnpack (is : List Nat) (e : M R) : M Flow := mbind e fun r σ => match r with
  | .pure d => match bindT (.tup is) d σ with
    | some σ' => .ok .next σ'
    | none => .fail
  | _ => .fail
/-- a, b = x, y: values first, then stores (in either order: unlike slots) -/
def eRs : List (M R) → M (List R)
  | [] => mok []
  | e :: es => mbind e fun r => mbind (fix r) fun r => mbind (eRs es) fun rs => mok (r :: rs)
def puts : List Nat → List R → M Flow
  | i :: is, r :: rs => sSeq (put i r) (puts is rs)
  | _, _ => mok .next
def sPar (is : List Nat) (es : List (M R)) : M Flow := mbind (eRs es) (puts is)

/-! loops -/
/-- over data that stand still -/
def goFor (tg : Tg) (body : M Flow) : List D → M Flow
  | [] => mok .next
  | d :: ds => fun σ => match bindT tg d σ with
    | none => .fail
    | some σ1 => match body σ1 with
      | .ok .next σ2 => goFor tg body ds σ2
      | .ok .cont σ2 => goFor tg body ds σ2
      | .ok .brk σ2 => .ok .next σ2
      | .ok (.ret r) σ2 => .ok (.ret r) σ2
      | .exn c σ2 => .exn c σ2
      | .fail => .fail
def sFor (tg : Tg) (it : M (List D)) (body : M Flow) : M Flow := mbind it (goFor tg body)
def sWhile (c : M Bool) (body : M Flow) : Nat → M Flow
  | 0 => fun _ => .fail
  | n + 1 => fun σ => match c σ with
    | .ok false σ1 => .ok .next σ1
    | .ok true σ1 => match body σ1 with
      | .ok .next σ2 => sWhile c body n σ2
      | .ok .cont σ2 => sWhile c body n σ2
      | .ok .brk σ2 => .ok .next σ2
      | .ok (.ret r) σ2 => .ok (.ret r) σ2
      | .exn k σ2 => .exn k σ2
      | .fail => .fail
    | .exn k σ1 => .exn k σ1
    | .fail => .fail
/-- [e for tg in it if t] -/
def wipeS (σ : Sl) : List Nat → Sl
  | [] => σ
  | v :: vs => (wipeS σ vs).set v none
def goComp (vs : List Nat) (tg : Tg) (t : M Bool) (e : M R) : List D → List D → M (List D)
  | [], acc => mok acc
  | d :: ds, acc => fun σ => match bindT tg d σ with
    | none => .fail
    | some σ1 => match t σ1 with
      | .ok false σ2 => goComp vs tg t e ds acc (wipeS σ2 vs)
      | .ok true σ2 => match (mbind e frz) σ2 with
        | .ok x σ3 => if acc.length < zLine then goComp vs tg t e ds (acc ++ [x]) (wipeS σ3 vs) else .fail
        | _ => .fail
      | _ => .fail
def eComp (vs : List Nat) (tg : Tg) (it : M (List D)) (t : M Bool) (e : M R) : M R := mbind it fun ds σ =>
  mbind (goComp vs tg t e ds []) (fun xs => mok (.own (.lst xs))) (wipeS σ vs)
/-! what is walked -/
/-- a list (frozen), a tuple -/
def iD (e : M R) : M (List D) := mbind e fun r => mbind (frz r) fun d => match d with
  | .lst xs => mok xs
  | .tup xs => mok xs
  | _ => fun _ => .fail
def iRange1 (e : M R) : M (List D) := mbind (getD e) fun d => match d with
  | .int n => if n < 1000 ∧ -1000 < n then mok ((List.range n.toNat).map fun (k : Nat) => D.int (k : Int)) else fun _ => .fail
  | _ => fun _ => .fail
def iRange2 (a b : M R) : M (List D) := mbind (getD a) fun x => mbind (getD b) fun y => match x, y with
  | .int i, .int j => if i < 1000 ∧ -1000 < i ∧ j < 1000 ∧ -1000 < j then mok ((List.range (j - i).toNat).map fun (k : Nat) => D.int (i + (k : Int))) else fun _ => .fail
  | _, _ => fun _ => .fail
/-- the keys of a dict, which is frozen -/
def iKeys (i : Nat) : M (List D) := fun σ => match σ[i]? with
  | some (some (.mob none (.dct kvs))) => .ok (kvs.map (·.1)) (σ.set i (some (.fdc (.dct kvs))))
  | some (some (.fdc (.dct kvs))) => .ok (kvs.map (·.1)) σ
  | _ => .fail

/-! ### lists and dicts that a slot owns -/
def isMl : Option (Option S) → Bool
  | some (some (.mob _ (.lst _))) => true
  | _ => false
def eAppend (i : Nat) (e : M R) : M R := fun σ => if isMl σ[i]? = true then (mbind e fun r => mbind (frz r) fun d σ => match σ[i]? with
  | some (some (.mob tg (.lst xs))) => if xs.length < zLine then .ok (.pure .non) (σ.set i (some (.mob tg (.lst (xs ++ [d]))))) else .fail
  | _ => .fail) σ else .fail
def eExtend (i : Nat) (e : M R) : M R := fun σ => if isMl σ[i]? = true then (mbind e fun r => mbind (frz r) fun d σ => match d with
  | .lst ys => match σ[i]? with
    | some (some (.mob tg (.lst xs))) => if xs.length + ys.length ≤ zLine then .ok (.pure .non) (σ.set i (some (.mob tg (.lst (xs ++ ys))))) else .fail
    | _ => .fail
  | _ => .fail) σ else .fail
def ePop (i : Nat) : M R := fun σ => match σ[i]? with
  | some (some (.mob tg (.lst xs))) => match xs[xs.length - 1]? with
    | some d => .ok (.pure d) (σ.set i (some (.mob tg (.lst xs.dropLast))))
    | none => .fail
  | _ => .fail
/-- name[k] = e -/
def isMo : Option (Option S) → Bool
  | some (some (.mob _ _)) => true
  | _ => false
def sSet (i : Nat) (ek ev : M R) : M Flow := mbind ev fun r => mbind (frz r) fun v σ => if isMo σ[i]? = true then (mbind ek fun q => mbind (frz q) fun k σ => match σ[i]? with
  | some (some (.mob tg (.lst xs))) => match k with
    | .int z => match ixOf z xs.length with
      | some j => .ok .next (σ.set i (some (.mob tg (.lst (xs.set j v)))))
      | none => .fail
    | _ => .fail
  | some (some (.mob tg (.dct kvs))) => if k.keyOk = true ∧ kvs.length < zLine then .ok .next (σ.set i (some (.mob tg (.dct (dPut kvs k v))))) else .fail
  | _ => .fail) σ else .fail

/-! ### texts -/
/-- split at the sign c -/
def splitTx (c : Nat) : Tx → List Tx
  | [] => [[]]
  | x :: r => if x = c then [] :: splitTx c r else match splitTx c r with
    | [] => [[x]]
    | w :: ws => (x :: w) :: ws
def joinTx (a : Tx) : List Tx → Tx
  | [] => []
  | [x] => x
  | x :: y :: r => x ++ a ++ joinTx a (y :: r)
/-- an int's figures (two at most) -/
def intTx (i : Int) : Option Tx := if 0 ≤ i ∧ i < 10 then some [48 + i.toNat] else if 10 ≤ i ∧ i < 100 then some [48 + i.toNat / 10, 48 + i.toNat % 10] else none
def pyStr : D → Option R
  | .int i => (intTx i).map fun s => .pure (.str s)
  | .str s => if s.length ≤ zLine then some (.pure (.str s)) else none
  | _ => none
/-- int(text): a figure -/
def pyIntS : D → Option R
  | .str [c] => if 48 ≤ c ∧ c ≤ 57 then some (.pure (.int ((c : Int) - 48))) else none
  | _ => none
def pySplit : D → D → Option R
  | .str a, .str [c] => if a.length + 2 ≤ zLine then some (.own (.lst ((splitTx c a).map .str))) else none
  | _, _ => none
def pyJoin : D → D → Option R
  | .str a, .lst xs => match strsD xs with
    | some ys => if (ys.map (·.length)).sum + ys.length * a.length ≤ zLine then some (.pure (.str (joinTx a ys))) else none
    | none => none
  | .str a, .tup xs => match strsD xs with
    | some ys => if (ys.map (·.length)).sum + ys.length * a.length ≤ zLine then some (.pure (.str (joinTx a ys))) else none
    | none => none
  | _, _ => none
/-- list(text) -/
def pyListS : D → Option R
  | .str a => if a.length ≤ zLine then some (.own (.lst (a.map fun c => .str [c]))) else none
  | .tup xs => some (.own (.lst xs))
  | .lst xs => some (.own (.lst xs))
  | _ => none
/-- f'..': the parts' texts one behind the other -/
def eFstr : List (M R) → Tx → M R
  | [], acc => mok (.pure (.str acc))
  | e :: es, acc => mbind e fun r σ => match asD r σ with
    | some (.str y) => if acc.length + y.length ≤ zLine then eFstr es (acc ++ y) σ else .fail
    | _ => .fail
/-! sorted -/
def insI (x : Int) : List Int → List Int
  | [] => [x]
  | y :: r => if x ≤ y then x :: y :: r else y :: insI x r
def sortI : List Int → List Int
  | [] => []
  | x :: r => insI x (sortI r)
/-- sorted(ints) -/
def pySortI : D → Option R
  | .lst xs => match intsD xs with
    | some ns => if ns.length < 64 then some (.own (.lst ((sortI ns).map .int))) else none
    | none => none
  | _ => none
/-- xs.index(x), of texts -/
def idxD : List D → D → Nat → Option Nat
  | [], _, _ => none
  | y :: r, x, n => if y.eqv x = true then some n else idxD r x (n + 1)
def flatD : D → Bool
  | .tup _ => false
  | .lst _ => false
  | _ => true
def pyIndex : D → D → Option R
  | .lst xs, x => if xs.all flatD = true ∧ flatD x = true then (idxD xs x 0).map fun n => .pure (.int n) else none
  | _, _ => none

/-! ### exceptions -/
/-- try: body / except E as n: name = n (i: the slot of n, j: that of name) -/
def sTry (f : Nat → Option Bool) (i j : Nat) (body : M Flow) : M Flow := fun σ => match body σ with
  | .exn c σ' => match f c with
    | some true => .ok .next ((σ'.set j (some (.exo c))).set i none)
    | some false => .exn c σ'
    | none => .fail
  | o => o
/-- name is None, of what may be an exception -/
def eIsNx (i : Nat) : M R := fun σ => match σ[i]? with
  | some (some (.exo _)) => .ok (.pure (.bl false)) σ
  | some (some (.pure .non)) => .ok (.pure (.bl true)) σ
  | _ => .fail
/-- isinstance(name, T), of an exception -/
def eIsX (i : Nat) (f : Nat → Option Bool) : M R := fun σ => match σ[i]? with
  | some (some (.exo c)) => match f c with
    | some b => .ok (.pure (.bl b)) σ
    | none => .fail
  | _ => .fail
/-- xs.count(True) -/
def pyCountT : D → D → Option R
  | .lst xs, .bl b => (boolsD xs).map fun bs => .pure (.int (bs.count b))
  | _, _ => none

/-! ### defs -/
/-- how an argument is handed on: data for good, or the slot's own object -/
inductive Md where
  | val | ref
inductive OutF where
  | ok (r : R) (args : List S)
  | exn (c : Nat) (args : List S)
  | fail
/-- an argument as the callee's slot holds it at its start -/
def toArg (k : Nat) : S → S
  | .mob _ ob => .mob (some k) ob
  | s => s
def startF (n : Nat) (args : List S) : Sl := (args.mapIdx fun k s => some (toArg k s)) ++ List.replicate (n - args.length) none
/-- the arguments behind the call -/
def backArg (σ : Sl) (k : Nat) : S → Option S
  | .mob _ _ => match σ[k]? with
    | some (some (.mob (some j) ob)) => if j = k then some (.mob none ob) else none
    | _ => none
  | s => some s
def backF (σ : Sl) : Nat → List S → Option (List S)
  | _, [] => some []
  | k, s :: r => match backArg σ k s, backF σ (k + 1) r with
    | some x, some xs => some (x :: xs)
    | _, _ => none
/-- what leaves a def -/
def leaveR (σ : Sl) : R → Option R
  | .pure d => some (.pure d)
  | .fdc ob => some (.fdc ob)
  | .own ob => some (.own ob)
  | .bor i => match σ[i]? with
    | some (some (.pure d)) => some (.pure d)
    | some (some (.fdc ob)) => some (.fdc ob)
    | some (some (.mob none ob)) => some (.own ob)
    | _ => none
def runF (n : Nat) (body : M Flow) (args : List S) : OutF := match body (startF n args) with
  | .ok .next σ => match backF σ 0 args with
    | some as => .ok (.pure .non) as
    | none => .fail
  | .ok (.ret r) σ => match leaveR σ r, backF σ 0 args with
    | some z, some as => .ok z as
    | _, _ => .fail
  | .exn c σ => match backF σ 0 args with
    | some as => .exn c as
    | none => .fail
  | _ => .fail
abbrev Fn := List S → OutF
/-- an argument's value: data, or the slot that owns it -/
inductive Arg where
  | d (d : D)
  | f (ob : Ob)
  | s (i : Nat)
def toA (m : Md) (r : R) : M Arg := match m with
  | .val => mbind (frz r) fun d => mok (.d d)
  | .ref => match r with
    | .bor i => mok (.s i)
    | .fdc ob => mok (.f ob)
    | .pure d => mok (.d d)
    | .own _ => fun _ => .fail
def eArgs : List (Md × M R) → M (List Arg)
  | [] => mok []
  | (m, e) :: es => mbind e fun r => mbind (toA m r) fun a => mbind (eArgs es) fun as => mok (a :: as)
def argS (σ : Sl) : Arg → Option S
  | .d d => some (.pure d)
  | .f ob => some (.fdc ob)
  | .s i => match σ[i]? with
    | some (some (.mob _ ob)) => some (.mob none ob)
    | some (some (.fdc ob)) => some (.fdc ob)
    | some (some (.pure d)) => some (.pure d)
    | some (some (.scr ns)) => some (.scr ns)
    | some (some (.exo c)) => some (.exo c)
    | none => none
    | some none => none
def argsS (σ : Sl) : List Arg → Option (List S)
  | [] => some []
  | a :: as => match argS σ a, argsS σ as with
    | some s, some ss => some (s :: ss)
    | _, _ => none
def argIx : List Arg → List Nat
  | [] => []
  | .s i :: r => i :: argIx r
  | _ :: r => argIx r
/-- the objects behind the call, back at their slots -/
def giveBack : List Arg → List S → Sl → Option Sl
  | [], [], σ => some σ
  | .s i :: as, s :: ss, σ => match σ[i]? with
    | some (some (.mob tg _)) => match s with
      | .mob _ ob => giveBack as ss (σ.set i (some (.mob tg ob)))
      | _ => none
    | _ => giveBack as ss σ
  | .d _ :: as, _ :: ss, σ => giveBack as ss σ
  | .f _ :: as, _ :: ss, σ => giveBack as ss σ
  | _, _, _ => none
def eCall (F : Fn) (es : List (Md × M R)) : M R := mbind (eArgs es) fun as σ => if (argIx as).Nodup then
  match argsS σ as with
  | some ss => match F ss with
    | .ok r ss' => match giveBack as ss' σ with
      | some σ' => .ok r σ'
      | none => .fail
    | .exn c ss' => match giveBack as ss' σ with
      | some σ' => .exn c σ'
      | none => .fail
    | .fail => .fail
  | none => .fail else .fail
end DL

/-! DLrep: how plain data and slots lie in the hand layer's abstract heap. -/
namespace DL
open PySem L2

def tx (s : Tx) : Str := ⟨s.toArray⟩
def txOk (s : Tx) : Bool := s.all (· < 0x110000)

mutual
/-- the value v is the data d; none of its objects is among Av -/
inductive Rp (H : Hp) (Av : Addr → Prop) : D → V → Prop
  | non : Rp H Av .non .non
  | bl (b : Bool) : Rp H Av (.bl b) (.bl b)
  | int (i : Int) : Rp H Av (.int i) (.int i)
  | str (s : Tx) : txOk s = true → Rp H Av (.str s) (.str (tx s))
  | tup {a : Addr} {vs : List V} {ds : List D} : H a = some (.tup vs) → ¬ Av a → Rps H Av ds vs → Rp H Av (.tup ds) (.ref a)
  | lst {a : Addr} {vs : List V} {ds : List D} : H a = some (.lst vs) → ¬ Av a → Rps H Av ds vs → Rp H Av (.lst ds) (.ref a)
inductive Rps (H : Hp) (Av : Addr → Prop) : List D → List V → Prop
  | nil : Rps H Av [] []
  | cons {d : D} {v : V} {ds : List D} {vs : List V} : Rp H Av d v → Rps H Av ds vs → Rps H Av (d :: ds) (v :: vs)
end

theorem Rps.len {H : Hp} {Av : Addr → Prop} : ∀ {ds : List D} {vs : List V}, Rps H Av ds vs → ds.length = vs.length
  | _, _, .nil => rfl
  | _, _, .cons _ t => by simp [Rps.len t]
theorem Rps.get {H : Hp} {Av : Addr → Prop} : ∀ {ds : List D} {vs : List V} {i : Nat} {d : D}, Rps H Av ds vs → ds[i]? = some d → ∃ v, vs[i]? = some v ∧ Rp H Av d v
  | _, _, _, _, .nil, e => by simp at e
  | _, _, 0, _, .cons r _, e => by simp at e; subst e; exact ⟨_, rfl, r⟩
  | _, _, i + 1, d, .cons _ t, e => by
    obtain ⟨v, h1, h2⟩ := Rps.get (i := i) (d := d) t (by simpa using e)
    exact ⟨v, by simpa using h1, h2⟩
theorem Rps.get' {H : Hp} {Av : Addr → Prop} : ∀ {ds : List D} {vs : List V} {i : Nat} {v : V}, Rps H Av ds vs → vs[i]? = some v → ∃ d, ds[i]? = some d ∧ Rp H Av d v
  | _, _, _, _, .nil, e => by simp at e
  | _, _, 0, _, .cons r _, e => by simp at e; subst e; exact ⟨_, rfl, r⟩
  | _, _, i + 1, v, .cons _ t, e => by
    obtain ⟨d, h1, h2⟩ := Rps.get' (i := i) (v := v) t (by simpa using e)
    exact ⟨d, by simpa using h1, h2⟩
theorem Rps.append {H : Hp} {Av : Addr → Prop} : ∀ {ds es : List D} {vs us : List V}, Rps H Av ds vs → Rps H Av es us → Rps H Av (ds ++ es) (vs ++ us)
  | _, _, _, _, .nil, s => s
  | _, _, _, _, .cons r t, s => .cons r (Rps.append t s)
theorem Rps.take {H : Hp} {Av : Addr → Prop} : ∀ {ds : List D} {vs : List V} (n : Nat), Rps H Av ds vs → Rps H Av (ds.take n) (vs.take n)
  | _, _, 0, _ => .nil
  | _, _, _ + 1, .nil => .nil
  | _, _, n + 1, .cons r t => .cons r (Rps.take n t)
theorem Rps.drop {H : Hp} {Av : Addr → Prop} : ∀ {ds : List D} {vs : List V} (n : Nat), Rps H Av ds vs → Rps H Av (ds.drop n) (vs.drop n)
  | _, _, 0, r => r
  | _, _, _ + 1, .nil => .nil
  | _, _, n + 1, .cons _ t => Rps.drop n t
theorem Rps.dropLast {H : Hp} {Av : Addr → Prop} {ds : List D} {vs : List V} (r : Rps H Av ds vs) : Rps H Av ds.dropLast vs.dropLast := by
  rw [List.dropLast_eq_take, List.dropLast_eq_take, r.len]
  exact r.take _
theorem Rps.set {H : Hp} {Av : Addr → Prop} {d : D} {v : V} (r : Rp H Av d v) : ∀ {ds : List D} {vs : List V} (i : Nat), Rps H Av ds vs → Rps H Av (ds.set i d) (vs.set i v)
  | _, _, _, .nil => .nil
  | _, _, 0, .cons _ t => .cons r t
  | _, _, i + 1, .cons q t => .cons q (Rps.set r i t)
theorem Rps.one {H : Hp} {Av : Addr → Prop} {d : D} {v : V} (r : Rp H Av d v) : Rps H Av [d] [v] := .cons r .nil
theorem Rps.rep {H : Hp} {Av : Addr → Prop} {ds : List D} {vs : List V} (r : Rps H Av ds vs) : ∀ n : Nat, Rps H Av (List.replicate n ds).flatten (List.replicate n vs).flatten
  | 0 => .nil
  | n + 1 => by rw [List.replicate_succ, List.replicate_succ, List.flatten_cons, List.flatten_cons]; exact r.append (Rps.rep r n)

/-! ### keys -/
mutual
def nk : D → NestedKey
  | .non => .none
  | .bl b => .num (if b = true then 1 else 0)
  | .int i => .num i
  | .str s => .text (tx s)
  | .tup xs => .tup (nks xs)
  | .lst xs => .tup (nks xs)
def nks : List D → List NestedKey
  | [] => []
  | x :: xs => nk x :: nks xs
end

/-- a dict whose keys are tuples, at a: each entry's key as data, where its tuple stands, its value -/
def dnPhi (P : Program) (w : World) (a : Addr) (xs : List (NestedKey × Addr × V)) (h : Heap) : Prop :=
  xs.length ≤ sizeLine ∧ (a == sysModules) = false ∧ ∃ ys : List (NestedKey × Addr × Value),
    Paired (fun (p : NestedKey × Addr × V) (q : NestedKey × Addr × Value) => p.1 = q.1 ∧ p.2.1 = q.2.1 ∧ RelV p.2.2 q.2.2) xs ys ∧
      ∃ o es ep, h.get? a = some o ∧ o.ExactDict ∧ o.data = .dict es ep ∧ es.toList = ys.map (entryOfKey (nestedKind P w)) ∧ (ys.map (·.1)).Nodup
def dn (P : Program) (w : World) (a : Addr) (xs : List (NestedKey × Addr × V)) : HO := .ext (dnPhi P w a xs)

def Rpk (H : Hp) (Av : Addr → Prop) : List (D × D) → List (NestedKey × Addr × V) → Prop :=
  Paired fun (p : D × D) (q : NestedKey × Addr × V) => q.1 = nk p.1 ∧ p.1.keyOk = true ∧ Rp H Av p.1 (.ref q.2.1) ∧ Rp H Av p.2 q.2.2
def Rpt (H : Hp) (Av : Addr → Prop) : List (D × D) → List (Key × V) → Prop :=
  Paired fun (p : D × D) (q : Key × V) => (∃ s, p.1 = .str s ∧ txOk s = true ∧ q.1 = Sum.inr (tx s)) ∧ Rp H Av p.2 q.2

section
variable (P : Program) (w : World)
/-- the object ob stands at a; ow: the addresses that are its own -/
inductive RpO (H : Hp) (Av : Addr → Prop) : Ob → Addr → List Addr → Prop
  | lst {a : Addr} {vs : List V} {ds : List D} : H a = some (.lst vs) → Rps H Av ds vs → RpO H Av (.lst ds) a [a]
  | dct {a : Addr} {xs : List (NestedKey × Addr × V)} {kvs : List (D × D)} : H a = some (dn P w a xs) → Rpk H Av kvs xs → RpO H Av (.dct kvs) a [a]
  | dcs {a : Addr} {xs : List (Key × V)} {kvs : List (D × D)} : H a = some (.dK xs) → Rpt H Av kvs xs → RpO H Av (.dcs kvs) a [a]
/-- a dict that is read alone -/
inductive RpF (H : Hp) (Av : Addr → Prop) : Ob → V → Prop
  | dct {o : Obj} {a : Addr} {xs : List (NestedKey × Addr × V)} {kvs : List (D × D)} : H a = some (.frz o (dn P w a xs)) → ¬ Av a → Rpk H Av kvs xs → RpF H Av (.dct kvs) (.ref a)
  | dcs {o : Obj} {a : Addr} {xs : List (Key × V)} {kvs : List (D × D)} : H a = some (.frz o (.dK xs)) → ¬ Av a → Rpt H Av kvs xs → RpF H Av (.dcs kvs) (.ref a)
/-- an exception object of the class C, caught, at a -/
def exK (C a : Addr) : HO := .ext fun h => ∃ (oe : Obj) (vs : Array Value), h.get? a = some oe ∧ Zc (.ref C) none oe ∧ oe.data = .fields vs
/-- the parameters' values at the start, and the written part of the heap -/
structure AK where
  vs : List V
  K : PySem.W.Frag
/-- the script: tracked (and no slot's own), or an object of the module -/
def ScrAt (K : PySem.W.Frag) (H : Hp) (Av : Addr → Prop) (a : Addr) (ns : List Int) : Prop := (Rd H a (.lst (ns.map V.int)) ∧ ¬ Av a) ∨
  ∃ (o : Obj) (its : Array Value) (n : Nat), K.lookup a = some o ∧ o.cls = .type "list" ∧ o.dict = none ∧ o.data = .seq its n ∧ its.size ≤ sizeLine ∧ Vals (ns.map V.int) its.toList
/-- a slot's value; A0: what the parameters were -/
inductive RpSl (A0 : AK) (H : Hp) (Av : Addr → Prop) : S → V → List Addr → Prop
  | pure {d : D} {v : V} {l : List Addr} : l = [] → Rp H Av d v → RpSl A0 H Av (.pure d) v l
  | fdc {ob : Ob} {v : V} {l : List Addr} : l = [] → RpF P w H Av ob v → RpSl A0 H Av (.fdc ob) v l
  | scr {ns : List Int} {a : Addr} {l : List Addr} : l = [] → ScrAt A0.K H Av a ns → RpSl A0 H Av (.scr ns) (.ref a) l
  | exo {C a : Addr} {l : List Addr} : l = [] → Rd H a (exK C a) → ¬ Av a → RpSl A0 H Av (.exo C) (.ref a) l
  | mob {tag : Option Nat} {ob : Ob} {a : Addr} {ow : List Addr} : RpO P w H Av ob a ow → (∀ k, tag = some k → A0.vs[k]? = some (.ref a)) → RpSl A0 H Av (.mob tag ob) (.ref a) ow
structure RpS (A0 : AK) (H : Hp) (Av : Addr → Prop) (ow : Nat → List Addr) (σ : Sl) (σV : St) : Prop where
  slot : ∀ i s, σ[i]? = some (some s) → ∃ v, σV[i]? = some (some v) ∧ RpSl P w A0 H Av s v (ow i)
  off : ∀ i, (∀ s, σ[i]? ≠ some (some s)) → ow i = []
  dj : ∀ i j a, a ∈ ow i → a ∈ ow j → i = j
  av : ∀ i a, a ∈ ow i → Av a
  dom : ∀ a, Av a → ∃ o, H a = some o
  len : σ.length = σV.length
end

def Ow (ow : Nat → List Addr) (a : Addr) : Prop := ∃ i, a ∈ ow i

/-- from one state of the heap to a later one: what no slot owns is kept -/
structure Stp (H : Hp) (Av O : Addr → Prop) (H' : Hp) (Av' O' : Addr → Prop) : Prop where
  fm : ∀ a o, H a = some o → ¬ O a → H' a = some o
  dm : ∀ a o, H a = some o → ∃ o', H' a = some o'
  ak : ∀ a, Av a → ¬ O a → Av' a
  an : ∀ a, Av' a → Av a ∨ H a = none
  on : ∀ a, O' a → O a ∨ H a = none
section
variable {H H1 H2 : Hp} {Av Av1 Av2 O O1 O2 : Addr → Prop}
theorem Stp.refl : Stp H Av O H Av O := ⟨fun _ _ h _ => h, fun _ o h => ⟨o, h⟩, fun _ h _ => h, fun _ h => .inl h, fun _ h => .inl h⟩
theorem Stp.none_of (s : Stp H Av O H1 Av1 O1) {a : Addr} (h : H1 a = none) : H a = none := by
  cases e : H a with
  | none => rfl
  | some o => obtain ⟨o', e'⟩ := s.dm a o e; rw [h] at e'; cases e'
theorem Stp.trans (hd : ∀ a, Av a → ∃ o, H a = some o) (s : Stp H Av O H1 Av1 O1) (t : Stp H1 Av1 O1 H2 Av2 O2) : Stp H Av O H2 Av2 O2 where
  fm := fun a o h n => t.fm a o (s.fm a o h n) fun z => by
    rcases s.on a z with q | q
    · exact n q
    · rw [h] at q; cases q
  dm := fun a o h => by
    obtain ⟨o', h'⟩ := s.dm a o h
    exact t.dm a o' h'
  ak := fun a h n => t.ak a (s.ak a h n) fun z => by
    rcases s.on a z with q | q
    · exact n q
    · obtain ⟨o, e⟩ := hd a h; rw [e] at q; cases q
  an := fun a h => by
    rcases t.an a h with q | q
    · exact s.an a q
    · exact .inr (s.none_of q)
  on := fun a h => by
    rcases t.on a h with q | q
    · exact s.on a q
    · exact .inr (s.none_of q)
theorem Stp.rd (s : Stp H Av O H1 Av1 O1) {a : Addr} {u : HO} (r : Rd H a u) (n : ¬ O a) : Rd H1 a u := by
  rcases r with h | ⟨o, h⟩
  · exact .inl (s.fm a _ h n)
  · exact .inr ⟨o, s.fm a _ h n⟩
theorem rd_some {a : Addr} {u : HO} (r : Rd H a u) : ∃ o, H a = some o := by
  rcases r with h | ⟨o, h⟩
  · exact ⟨_, h⟩
  · exact ⟨_, h⟩
theorem Stp.nav (s : Stp H Av O H1 Av1 O1) {a : Addr} (n : ¬ Av a) (h : ∃ o, H a = some o) : ¬ Av1 a := fun z => by
  rcases s.an a z with q | q
  · exact n q
  · obtain ⟨o, e⟩ := h; rw [e] at q; cases q
theorem ScrAt.step {K : PySem.W.Frag} {a : Addr} {ns : List Int} (s : Stp H Av O H1 Av1 O1) (ho : ∀ a, O a → Av a) (q : ScrAt K H Av a ns) : ScrAt K H1 Av1 a ns := by
  rcases q with ⟨r, n⟩ | q
  · exact .inl ⟨s.rd r fun z => n (ho _ z), s.nav n (rd_some r)⟩
  · exact .inr q
theorem ScrAt.less {K : PySem.W.Frag} {a : Addr} {ns : List Int} (k : ∀ a, Av1 a → Av a) (q : ScrAt K H Av a ns) : ScrAt K H Av1 a ns := by
  rcases q with ⟨r, n⟩ | q
  · exact .inl ⟨r, fun z => n (k _ z)⟩
  · exact .inr q

mutual
theorem Rp.step (s : Stp H Av O H1 Av1 O1) (ho : ∀ a, O a → Av a) : ∀ {d : D} {v : V}, Rp H Av d v → Rp H1 Av1 d v
  | _, _, .non => .non
  | _, _, .bl b => .bl b
  | _, _, .int i => .int i
  | _, _, .str x h => .str x h
  | _, _, .tup r n t => .tup (s.fm _ _ r fun z => n (ho _ z)) (s.nav n ⟨_, r⟩) (Rps.step s ho t)
  | _, _, .lst r n t => .lst (s.fm _ _ r fun z => n (ho _ z)) (s.nav n ⟨_, r⟩) (Rps.step s ho t)
theorem Rps.step (s : Stp H Av O H1 Av1 O1) (ho : ∀ a, O a → Av a) : ∀ {ds : List D} {vs : List V}, Rps H Av ds vs → Rps H1 Av1 ds vs
  | _, _, .nil => .nil
  | _, _, .cons r t => .cons (Rp.step s ho r) (Rps.step s ho t)
end
theorem Paired.imp {α β : Type} {F G : α → β → Prop} (f : ∀ a b, F a b → G a b) : ∀ {l : List α} {m : List β}, Paired F l m → Paired G l m
  | _, _, .nil => .nil
  | _, _, .cons r t => .cons (f _ _ r) (Paired.imp f t)
theorem Rpk.step (s : Stp H Av O H1 Av1 O1) (ho : ∀ a, O a → Av a) {kvs : List (D × D)} {xs : List (NestedKey × Addr × V)} (r : Rpk H Av kvs xs) : Rpk H1 Av1 kvs xs :=
  Paired.imp (fun _ _ z => ⟨z.1, z.2.1, z.2.2.1.step s ho, z.2.2.2.step s ho⟩) r
theorem Rpt.step (s : Stp H Av O H1 Av1 O1) (ho : ∀ a, O a → Av a) {kvs : List (D × D)} {xs : List (Key × V)} (r : Rpt H Av kvs xs) : Rpt H1 Av1 kvs xs :=
  Paired.imp (fun _ _ z => ⟨z.1, z.2.step s ho⟩) r
section
variable {P : Program} {w : World}
theorem RpF.step (s : Stp H Av O H1 Av1 O1) (ho : ∀ a, O a → Av a) {ob : Ob} {v : V} (r : RpF P w H Av ob v) : RpF P w H1 Av1 ob v := by
  cases r with
  | dct r n t => exact .dct (s.fm _ _ r fun z => n (ho _ z)) (s.nav n ⟨_, r⟩) (t.step s ho)
  | dcs r n t => exact .dcs (s.fm _ _ r fun z => n (ho _ z)) (s.nav n ⟨_, r⟩) (t.step s ho)
/-- an object none of whose own addresses is among those that may change -/
theorem RpO.step (s : Stp H Av O H1 Av1 O1) (ho : ∀ a, O a → Av a) {ob : Ob} {a : Addr} {l : List Addr} (r : RpO P w H Av ob a l) (n : ∀ b ∈ l, ¬ O b) : RpO P w H1 Av1 ob a l := by
  cases r with
  | lst h t => exact .lst (s.fm _ _ h (n _ (by simp))) (t.step s ho)
  | dct h t => exact .dct (s.fm _ _ h (n _ (by simp))) (t.step s ho)
  | dcs h t => exact .dcs (s.fm _ _ h (n _ (by simp))) (t.step s ho)
theorem RpO.there {ob : Ob} {a : Addr} {l : List Addr} (r : RpO P w H Av ob a l) : ∀ b ∈ l, ∃ o, H b = some o := by
  cases r with
  | lst h t => intro b hb; obtain rfl : b = a := by simpa using hb
               exact ⟨_, h⟩
  | dct h t => intro b hb; obtain rfl : b = a := by simpa using hb
               exact ⟨_, h⟩
  | dcs h t => intro b hb; obtain rfl : b = a := by simpa using hb
               exact ⟨_, h⟩
theorem RpO.self {ob : Ob} {a : Addr} {l : List Addr} (r : RpO P w H Av ob a l) : a ∈ l := by
  cases r <;> simp
theorem RpS.ho {A0 : AK} {ow : Nat → List Addr} {σ : Sl} {σV : St} (r : RpS P w A0 H Av ow σ σV) : ∀ a, Ow ow a → Av a := fun a ⟨i, h⟩ => r.av i a h
end
end
end DL

/-! DLjud: judgements: a piece of syntax and the plain function that it means. -/
namespace DL
open PySem L2

section
variable (P : Program) (w : World) (cl : Nat → Addr) (A0 : AK) (W : WX)
/-- an expression's result (H0: the heap ahead of it) -/
def RpR (σV : St) (H0 H : Hp) (Av : Addr → Prop) (ow : Nat → List Addr) : R → V → Prop
  | .pure d, v => Rp H Av d v
  | .fdc ob, v => RpF P w H Av ob v
  | .own ob, v => ∃ a l, v = .ref a ∧ RpO P w H Av ob a l ∧ ∀ b ∈ l, Av b ∧ ¬ Ow ow b ∧ H0 b = none
  | .bor i, v => σV[i]? = some (some v)
def RpRs (σV : St) (H0 H : Hp) (Av : Addr → Prop) (ow : Nat → List Addr) (r : R) (v : V) : Prop := RpR P w σV H0 H Av ow r v
abbrev Rel (α β : Type) := St → Hp → Hp → (Addr → Prop) → (Nat → List Addr) → α → β → Prop
def RlB : Rel Bool Bool := fun _ _ _ _ _ a b => a = b
def RlDs : Rel (List D) (List V) := fun _ _ H Av _ ds vs => Rps H Av ds vs
def RlD : Rel D V := fun _ _ H Av _ d v => Rp H Av d v

def oG {α β : Type} (Rl : Rel α β) (σV : St) (H : Hp) (Av : Addr → Prop) (ow : Nat → List Addr) (Q : β → Hp → Prop) : Out α → Prop
  | .ok r σ' => ∀ v H' Av' ow', RpS P w A0 H' Av' ow' σ' σV → Stp H Av (Ow ow) H' Av' (Ow ow') → Rl σV H H' Av' ow' r v → Q v H'
  | .exn c σ' => ∀ H' Av' ow', RpS P w A0 H' Av' ow' σ' σV → Stp H Av (Ow ow) H' Av' (Ow ow') → W (.ref (cl c)) none σV H'
  | .fail => False
def rdG {α β : Type} (Rl : Rel α β) (f : M α) : St → Hp → (β → Hp → Prop) → Prop := fun σV H Q =>
  ∃ σ Av ow, RpS P w A0 H Av ow σ σV ∧ oG P w cl A0 W Rl σV H Av ow Q (f σ)
def rdE (f : M R) : TE := rdG P w cl A0 W (RpR P w) f
def rdT (f : M Bool) : TT := rdG P w cl A0 W RlB f

def flE (D : Ends) (σV : St) (H0 H : Hp) (Av : Addr → Prop) (ow : Nat → List Addr) : Flow → Prop
  | .next => D.nx σV H
  | .brk => D.bk σV H
  | .cont => D.ct σV H
  | .ret r => ∀ v, RpR P w σV H0 H Av ow r v → D.rt v H
def oS (n : Nat) (D : Ends) (H : Hp) (Av : Addr → Prop) (ow : Nat → List Addr) : Out Flow → Prop
  | .ok fl σ' => ∀ σV' H' Av' ow', σV'.length = n → RpS P w A0 H' Av' ow' σ' σV' → Stp H Av (Ow ow) H' Av' (Ow ow') → flE P w D σV' H H' Av' ow' fl
  | .exn c σ' => ∀ σV' H' Av' ow', σV'.length = n → RpS P w A0 H' Av' ow' σ' σV' → Stp H Av (Ow ow) H' Av' (Ow ow') → W (.ref (cl c)) none σV' H'
  | .fail => False
def rdS (f : M Flow) : TS := fun D σV H => ∃ σ Av ow, RpS P w A0 H Av ow σ σV ∧ oS P w cl A0 W σV.length D H Av ow (f σ)
end

/-! ### the judgements -/
def DE (X : Cx) (cl : Nat → Addr) (A0 : AK) (W : WX) (e : Expr) (f : M R) : Prop := PE X e (rdE X.prog X.w cl A0 W f)
def DT (X : Cx) (cl : Nat → Addr) (A0 : AK) (W : WX) (e : Expr) (f : M Bool) : Prop := PT X e (rdT X.prog X.w cl A0 W f)
def DW (X : Cx) (cl : Nat → Addr) (A0 : AK) (W : WX) (e : Expr) (f : M Bool) : Prop := PW X e (rdT X.prog X.w cl A0 W f)
def DS (X : Cx) (cl : Nat → Addr) (A0 : AK) (W : WX) (st : Stmt) (f : M Flow) : Prop := PS X st (rdS X.prog X.w cl A0 W f)
def DSs (X : Cx) (cl : Nat → Addr) (A0 : AK) (W : WX) (st : List Stmt) (f : M Flow) : Prop := PSs X st (rdS X.prog X.w cl A0 W f)

section
variable {P : Program} {w : World} {cl : Nat → Addr} {A0 : AK} {W : WX}
theorem RpR.step {σV : St} {H0 H H1 : Hp} {Av Av1 : Addr → Prop} {ow ow1 : Nat → List Addr} {r : R} {v : V} (s : Stp H Av (Ow ow) H1 Av1 (Ow ow1)) (ho : ∀ a, Ow ow a → Av a) (q : RpR P w σV H0 H Av ow r v) : RpR P w σV H0 H1 Av1 ow1 r v := by
  cases r with
  | pure d => exact Rp.step s ho q
  | fdc ob => exact RpF.step s ho q
  | own ob =>
    obtain ⟨a, l, e, o, k⟩ := q
    refine ⟨a, l, e, o.step s ho fun b hb => (k b hb).2.1, fun b hb => ⟨s.ak b (k b hb).1 (k b hb).2.1, fun z => ?_, (k b hb).2.2⟩⟩
    rcases s.on b z with q | q
    · exact (k b hb).2.1 q
    · obtain ⟨o', e'⟩ := o.there b hb
      rw [e'] at q; cases q
  | bor i => exact q
/-- the heap ahead may be an earlier one -/
theorem RpR.early {σV : St} {H0 H0' H : Hp} {Av : Addr → Prop} {ow : Nat → List Addr} {r : R} {v : V} (k : ∀ b, H0 b = none → H0' b = none) (q : RpR P w σV H0 H Av ow r v) : RpR P w σV H0' H Av ow r v := by
  cases r with
  | pure d => exact q
  | fdc ob => exact q
  | own ob =>
    obtain ⟨a, l, e, o, q⟩ := q
    exact ⟨a, l, e, o, fun b hb => ⟨(q b hb).1, (q b hb).2.1, k b (q b hb).2.2⟩⟩
  | bor i => exact q

/-- one part of a run: m, then k; base 0 is the whole's own -/
theorem gBind {α β γ δ : Type} {Rl : Rel α β} {Rl2 : Rel γ δ} {m : M α} {k : α → M γ} {σV : St} {σ1 : Sl} {H0 H1 : Hp} {Av0 Av1 : Addr → Prop} {ow0 ow1 : Nat → List Addr} {Q : δ → Hp → Prop} {Q1 : β → Hp → Prop}
    (hd : ∀ a, Av0 a → ∃ o, H0 a = some o) (r : RpS P w A0 H1 Av1 ow1 σ1 σV) (s : Stp H0 Av0 (Ow ow0) H1 Av1 (Ow ow1)) (g : oG P w cl A0 W Rl2 σV H0 Av0 ow0 Q (mbind m k σ1))
    (h : ∀ a σ2 b H2 Av2 ow2, RpS P w A0 H2 Av2 ow2 σ2 σV → Stp H1 Av1 (Ow ow1) H2 Av2 (Ow ow2) → Stp H0 Av0 (Ow ow0) H2 Av2 (Ow ow2) → Rl σV H1 H2 Av2 ow2 a b → oG P w cl A0 W Rl2 σV H0 Av0 ow0 Q (k a σ2) → Q1 b H2) :
    rdG P w cl A0 W Rl m σV H1 Q1 := by
  refine ⟨σ1, Av1, ow1, r, ?_⟩
  unfold mbind at g
  cases e : m σ1 with
  | ok a σ2 =>
    rw [e] at g
    intro b H2 Av2 ow2 r2 s2 rl
    exact h a σ2 b H2 Av2 ow2 r2 s2 (s.trans hd s2) rl g
  | exn c σ2 =>
    rw [e] at g
    intro H2 Av2 ow2 r2 s2
    exact g H2 Av2 ow2 r2 (s.trans hd s2)
  | fail => rw [e] at g; exact g
theorem gBindQ {α β γ δ : Type} {Rl : Rel α β} {Rl2 : Rel γ δ} {m : M α} {k : α → M γ} {σV : St} {σ1 : Sl} {H0 H1 : Hp} {Av0 Av1 : Addr → Prop} {ow0 ow1 : Nat → List Addr} {Q : δ → Hp → Prop} {Q1 : β → Hp → Prop}
    (hd : ∀ a, Av0 a → ∃ o, H0 a = some o) (r : RpS P w A0 H1 Av1 ow1 σ1 σV) (s : Stp H0 Av0 (Ow ow0) H1 Av1 (Ow ow1)) (g : oG P w cl A0 W Rl2 σV H0 Av0 ow0 Q (mbind m k σ1))
    (h : ∀ a σ2 b H2 Av2 ow2, m σ1 = .ok a σ2 → RpS P w A0 H2 Av2 ow2 σ2 σV → Stp H1 Av1 (Ow ow1) H2 Av2 (Ow ow2) → Stp H0 Av0 (Ow ow0) H2 Av2 (Ow ow2) → Rl σV H1 H2 Av2 ow2 a b → oG P w cl A0 W Rl2 σV H0 Av0 ow0 Q (k a σ2) → Q1 b H2) :
    rdG P w cl A0 W Rl m σV H1 Q1 := by
  refine ⟨σ1, Av1, ow1, r, ?_⟩
  unfold mbind at g
  cases e : m σ1 with
  | ok a σ2 =>
    rw [e] at g
    intro b H2 Av2 ow2 r2 s2 rl
    exact h a σ2 b H2 Av2 ow2 e r2 s2 (s.trans hd s2) rl g
  | exn c σ2 =>
    rw [e] at g
    intro H2 Av2 ow2 r2 s2
    exact g H2 Av2 ow2 r2 (s.trans hd s2)
  | fail => rw [e] at g; exact g
/-- .. where the whole is a statement -/
theorem gBindS {α β : Type} {Rl : Rel α β} {m : M α} {k : α → M Flow} {σV : St} {σ1 : Sl} {H0 H1 : Hp} {Av0 Av1 : Addr → Prop} {ow0 ow1 : Nat → List Addr} {D : Ends} {n : Nat} {Q1 : β → Hp → Prop}
    (hn : σV.length = n) (hd : ∀ a, Av0 a → ∃ o, H0 a = some o) (r : RpS P w A0 H1 Av1 ow1 σ1 σV) (s : Stp H0 Av0 (Ow ow0) H1 Av1 (Ow ow1)) (g : oS P w cl A0 W n D H0 Av0 ow0 (mbind m k σ1))
    (h : ∀ a σ2 b H2 Av2 ow2, RpS P w A0 H2 Av2 ow2 σ2 σV → Stp H1 Av1 (Ow ow1) H2 Av2 (Ow ow2) → Stp H0 Av0 (Ow ow0) H2 Av2 (Ow ow2) → Rl σV H1 H2 Av2 ow2 a b → oS P w cl A0 W n D H0 Av0 ow0 (k a σ2) → Q1 b H2) :
    rdG P w cl A0 W Rl m σV H1 Q1 := by
  refine ⟨σ1, Av1, ow1, r, ?_⟩
  unfold mbind at g
  cases e : m σ1 with
  | ok a σ2 =>
    rw [e] at g
    intro b H2 Av2 ow2 r2 s2 rl
    exact h a σ2 b H2 Av2 ow2 r2 s2 (s.trans hd s2) rl g
  | exn c σ2 =>
    rw [e] at g
    intro H2 Av2 ow2 r2 s2
    exact g σV H2 Av2 ow2 hn r2 (s.trans hd s2)
  | fail => rw [e] at g; exact g
/-- a run at a later base -/
theorem oG.later {α β : Type} {Rl : Rel α β} {σV : St} {H0 H1 : Hp} {Av0 Av1 : Addr → Prop} {ow0 ow1 : Nat → List Addr} {Q : β → Hp → Prop} {o : Out α} (hd : ∀ a, Av0 a → ∃ o, H0 a = some o) (s : Stp H0 Av0 (Ow ow0) H1 Av1 (Ow ow1))
    (ea : ∀ H' Av' ow' r v, Rl σV H1 H' Av' ow' r v → Rl σV H0 H' Av' ow' r v) (g : oG P w cl A0 W Rl σV H0 Av0 ow0 Q o) : oG P w cl A0 W Rl σV H1 Av1 ow1 Q o := by
  cases o with
  | ok a σ2 => exact fun v H' Av' ow' r t q => g v H' Av' ow' r (s.trans hd t) (ea _ _ _ _ _ q)
  | exn c σ2 => exact fun H' Av' ow' r t => g H' Av' ow' r (s.trans hd t)
  | fail => exact g
theorem oS.later {H0 H1 : Hp} {Av0 Av1 : Addr → Prop} {ow0 ow1 : Nat → List Addr} {n : Nat} {D : Ends} {o : Out Flow} (hd : ∀ a, Av0 a → ∃ o, H0 a = some o) (s : Stp H0 Av0 (Ow ow0) H1 Av1 (Ow ow1))
    (g : oS P w cl A0 W n D H0 Av0 ow0 o) : oS P w cl A0 W n D H1 Av1 ow1 o := by
  cases o with
  | ok fl σ2 =>
    intro σV' H' Av' ow' hn r t
    have q := g σV' H' Av' ow' hn r (s.trans hd t)
    cases fl with
    | next => exact q
    | brk => exact q
    | cont => exact q
    | ret z => exact fun v rv => q v (rv.early fun b hb => s.none_of hb)
  | exn c σ2 => exact fun σV' H' Av' ow' hn r t => g σV' H' Av' ow' hn r (s.trans hd t)
  | fail => exact g

/-! ### what is read of a result -/
/-- data at the value v: for good, or a list that may still change -/
def Top (H : Hp) (Av : Addr → Prop) (d : D) (v : V) : Prop := Rp H Av d v ∨ ∃ ds a vs, d = .lst ds ∧ v = .ref a ∧ H a = some (.lst vs) ∧ Rps H Av ds vs
/-- a dict at the value v -/
def TopK (P : Program) (w : World) (H : Hp) (Av : Addr → Prop) (ob : Ob) (v : V) : Prop := RpF P w H Av ob v ∨ ∃ a l, v = .ref a ∧ RpO P w H Av ob a l
def TopV (P : Program) (w : World) (H : Hp) (Av : Addr → Prop) (x : Vw) (v : V) : Prop := match x with
  | .d d => Top H Av d v
  | .kv ob => TopK P w H Av ob v
theorem RpO.top {H : Hp} {Av : Addr → Prop} {ds : List D} {a : Addr} {l : List Addr} (o : RpO P w H Av (.lst ds) a l) : Top H Av (.lst ds) (.ref a) := by
  cases o with
  | lst h t => exact .inr ⟨_, _, _, rfl, rfl, h, t⟩
theorem view_ok {σ : Sl} {σV : St} {H0 H : Hp} {Av : Addr → Prop} {ow : Nat → List Addr} {r : R} {v : V} {x : Vw} (s : RpS P w A0 H Av ow σ σV) (q : RpR P w σV H0 H Av ow r v) (e : view r σ = some x) : TopV P w H Av x v := by
  cases r with
  | pure d => cases e; exact .inl q
  | fdc ob => cases e; exact .inl q
  | own ob =>
    obtain ⟨a, l, rfl, o, _⟩ := q
    cases ob with
    | lst xs => cases e; exact o.top
    | dct kvs => cases e; exact .inr ⟨a, l, rfl, o⟩
    | dcs kvs => cases e; exact .inr ⟨a, l, rfl, o⟩
  | bor i =>
    have e : slotVw σ[i]? = some x := e
    have q : σV[i]? = some (some v) := q
    cases hs : σ[i]? with
    | none => rw [hs] at e; cases e
    | some os =>
      cases os with
      | none => rw [hs] at e; cases e
      | some sl =>
        obtain ⟨v', hv, rs⟩ := s.slot i sl hs
        rw [q] at hv; cases hv
        rw [hs] at e
        cases rs with
        | pure _ r => cases e; exact .inl r
        | fdc _ r => cases e; exact .inl r
        | scr _ _ => cases e
        | exo _ _ _ => cases e
        | @mob tg ob a _ o _ =>
          cases ob with
          | lst xs => cases e; exact o.top
          | dct kvs => cases e; exact .inr ⟨_, _, rfl, o⟩
          | dcs kvs => cases e; exact .inr ⟨_, _, rfl, o⟩
theorem asD_ok {σ : Sl} {σV : St} {H0 H : Hp} {Av : Addr → Prop} {ow : Nat → List Addr} {r : R} {v : V} {d : D} (s : RpS P w A0 H Av ow σ σV) (q : RpR P w σV H0 H Av ow r v) (e : asD r σ = some d) : Top H Av d v := by
  unfold asD at e
  cases hv : view r σ with
  | none => rw [hv] at e; cases e
  | some x =>
    rw [hv] at e
    cases x with
    | d y => cases e; exact view_ok s q hv
    | kv ob => cases e
theorem asKv_ok {σ : Sl} {σV : St} {H0 H : Hp} {Av : Addr → Prop} {ow : Nat → List Addr} {r : R} {v : V} {ob : Ob} (s : RpS P w A0 H Av ow σ σV) (q : RpR P w σV H0 H Av ow r v) (e : asKv r σ = some ob) : TopK P w H Av ob v := by
  unfold asKv at e
  cases hv : view r σ with
  | none => rw [hv] at e; cases e
  | some x =>
    rw [hv] at e
    cases x with
    | d y => cases e
    | kv ob => cases e; exact view_ok s q hv

/-! ### new things -/
/-- what an operation gives: all that stood stands, the result is data, or a new object -/
def NewR (P : Program) (w : World) (H H' : Hp) (Av : Addr → Prop) (r : R) (v : V) : Prop := Same H H' ∧ match r with
  | .pure d => Rp H' Av d v
  | .fdc ob => RpF P w H' Av ob v
  | .own ob => ∃ a, v = .ref a ∧ RpO P w H' (fun b => Av b ∨ b = a) ob a [a] ∧ H a = none
  | .bor _ => False
theorem Same.stp {H H' : Hp} {Av : Addr → Prop} {O : Addr → Prop} (s : Same H H') : Stp H Av O H' Av O :=
  ⟨fun a o h _ => s a o h, fun a o h => ⟨o, s a o h⟩, fun _ h _ => h, fun _ h => .inl h, fun _ h => .inl h⟩
theorem RpS.same {H H' : Hp} {Av : Addr → Prop} {ow : Nat → List Addr} {σ : Sl} {σV : St} (r : RpS P w A0 H Av ow σ σV) (s : Same H H') : RpS P w A0 H' Av ow σ σV := by
  have st : Stp H Av (fun _ => False) H' Av (fun _ => False) := Same.stp s
  have nf : ∀ a : Addr, (fun _ : Addr => False) a → Av a := fun _ h => h.elim
  refine ⟨fun i sl e => ?_, r.off, r.dj, r.av, fun a h => ?_, r.len⟩
  · obtain ⟨v, hv, q⟩ := r.slot i sl e
    refine ⟨v, hv, ?_⟩
    cases q with
    | pure e0 q => exact .pure e0 (q.step st nf)
    | fdc e0 q => exact .fdc e0 (q.step st nf)
    | scr e0 q => exact .scr e0 (q.step st nf)
    | exo e0 q n => exact .exo e0 (st.rd q fun h => h) (st.nav n (rd_some q))
    | mob o t => exact .mob (o.step st nf fun b _ h => h) t
  · obtain ⟨o, e⟩ := r.dom a h
    exact ⟨o, s a o e⟩
/-- a new address joins what is to be shunned -/
theorem Rp.shun {H : Hp} {Av : Addr → Prop} {p : Addr} {d : D} {v : V} (r : Rp H Av d v) {H' : Hp} (hp : H p = none) (s : Same H H') : Rp H' (fun a => Av a ∨ a = p) d v :=
  Rp.step (O := fun _ => False) (O1 := fun _ => False) ⟨fun a o h _ => s a o h, fun a o h => ⟨o, s a o h⟩, fun a h _ => .inl h, fun a h => h.elim .inl fun e => .inr (e ▸ hp), fun a h => h.elim⟩ (fun _ h => h.elim) r
theorem stp_shun {H H' : Hp} {Av O : Addr → Prop} {p : Addr} (hp : H p = none) (s : Same H H') : Stp H Av O H' (fun a => Av a ∨ a = p) O :=
  ⟨fun a o h _ => s a o h, fun a o h => ⟨o, s a o h⟩, fun a h _ => .inl h, fun a h => h.elim .inl fun e => .inr (e ▸ hp), fun a h => .inl h⟩
theorem RpS.shun {H H' : Hp} {Av : Addr → Prop} {ow : Nat → List Addr} {σ : Sl} {σV : St} {p : Addr} {o' : HO} (r : RpS P w A0 H Av ow σ σV) (hp : H p = none) (s : Same H H') (hp' : H' p = some o') : RpS P w A0 H' (fun a => Av a ∨ a = p) ow σ σV := by
  have st : Stp H Av (fun _ => False) H' (fun a => Av a ∨ a = p) (fun _ => False) := stp_shun hp s
  have nf : ∀ a : Addr, (fun _ : Addr => False) a → Av a := fun _ h => h.elim
  refine ⟨fun i sl e => ?_, r.off, r.dj, fun i a h => .inl (r.av i a h), fun a h => ?_, r.len⟩
  · obtain ⟨v, hv, q⟩ := r.slot i sl e
    refine ⟨v, hv, ?_⟩
    cases q with
    | pure e0 q => exact .pure e0 (q.step st nf)
    | fdc e0 q => exact .fdc e0 (q.step st nf)
    | scr e0 q => exact .scr e0 (q.step st nf)
    | exo e0 q n => exact .exo e0 (st.rd q fun h => h) (st.nav n (rd_some q))
    | mob o t => exact .mob (o.step st nf fun b _ h => h) t
  · rcases h with h | h
    · obtain ⟨o, e⟩ := r.dom a h
      exact ⟨o, s a o e⟩
    · exact ⟨o', h ▸ hp'⟩
/-- the end of an operation -/
theorem gEnd {σV : St} {σ : Sl} {H0 H1 H' : Hp} {Av0 Av1 : Addr → Prop} {ow0 ow1 : Nat → List Addr} {Q : VK} {z : R} {v : V}
    (hd : ∀ a, Av0 a → ∃ o, H0 a = some o) (r : RpS P w A0 H1 Av1 ow1 σ σV) (s : Stp H0 Av0 (Ow ow0) H1 Av1 (Ow ow1)) (g : oG P w cl A0 W (RpR P w) σV H0 Av0 ow0 Q (.ok z σ)) (n : NewR P w H1 H' Av1 z v) : Q v H' := by
  obtain ⟨sm, n⟩ := n
  cases z with
  | pure d => exact g v H' Av1 ow1 (r.same sm) (s.trans hd (Same.stp sm)) n
  | fdc ob => exact g v H' Av1 ow1 (r.same sm) (s.trans hd (Same.stp sm)) n
  | own ob =>
    obtain ⟨a, rfl, o, ha⟩ := n
    obtain ⟨o', ho'⟩ := o.there a (by simp)
    refine g _ H' (fun b => Av1 b ∨ b = a) ow1 (r.shun ha sm ho') (s.trans hd (stp_shun ha sm)) ⟨a, [a], rfl, o, fun b hb => ?_⟩
    obtain rfl : b = a := by simpa using hb
    refine ⟨.inr rfl, fun ⟨i, hi⟩ => ?_, s.none_of ha⟩
    obtain ⟨o2, e2⟩ := r.dom b (r.av i b hi)
    rw [ha] at e2; cases e2
  | bor i => exact n.elim
mutual
theorem Rp.less {H : Hp} {Av Av1 : Addr → Prop} (k : ∀ a, Av1 a → Av a) : ∀ {d : D} {v : V}, Rp H Av d v → Rp H Av1 d v
  | _, _, .non => .non
  | _, _, .bl b => .bl b
  | _, _, .int i => .int i
  | _, _, .str x h => .str x h
  | _, _, .tup r n t => .tup r (fun z => n (k _ z)) (Rps.less k t)
  | _, _, .lst r n t => .lst r (fun z => n (k _ z)) (Rps.less k t)
theorem Rps.less {H : Hp} {Av Av1 : Addr → Prop} (k : ∀ a, Av1 a → Av a) : ∀ {ds : List D} {vs : List V}, Rps H Av ds vs → Rps H Av1 ds vs
  | _, _, .nil => .nil
  | _, _, .cons r t => .cons (Rp.less k r) (Rps.less k t)
end
theorem Rpk.less {H : Hp} {Av Av1 : Addr → Prop} (k : ∀ a, Av1 a → Av a) {kvs : List (D × D)} {xs : List (NestedKey × Addr × V)} (r : Rpk H Av kvs xs) : Rpk H Av1 kvs xs :=
  Paired.imp (fun _ _ z => ⟨z.1, z.2.1, z.2.2.1.less k, z.2.2.2.less k⟩) r
theorem Rpt.less {H : Hp} {Av Av1 : Addr → Prop} (k : ∀ a, Av1 a → Av a) {kvs : List (D × D)} {xs : List (Key × V)} (r : Rpt H Av kvs xs) : Rpt H Av1 kvs xs :=
  Paired.imp (fun _ _ z => ⟨z.1, z.2.less k⟩) r
theorem RpF.less {H : Hp} {Av Av1 : Addr → Prop} (k : ∀ a, Av1 a → Av a) {ob : Ob} {v : V} (r : RpF P w H Av ob v) : RpF P w H Av1 ob v := by
  cases r with
  | dct r n t => exact .dct r (fun z => n (k _ z)) (t.less k)
  | dcs r n t => exact .dcs r (fun z => n (k _ z)) (t.less k)
theorem RpO.less {H : Hp} {Av Av1 : Addr → Prop} (k : ∀ a, Av1 a → Av a) {ob : Ob} {a : Addr} {l : List Addr} (r : RpO P w H Av ob a l) : RpO P w H Av1 ob a l := by
  cases r with
  | lst h t => exact .lst h (t.less k)
  | dct h t => exact .dct h (t.less k)
  | dcs h t => exact .dcs h (t.less k)
theorem RpSl.less {H : Hp} {Av Av1 : Addr → Prop} (k : ∀ a, Av1 a → Av a) {s : S} {v : V} {l : List Addr} (r : RpSl P w A0 H Av s v l) : RpSl P w A0 H Av1 s v l := by
  cases r with
  | pure e q => exact .pure e (q.less k)
  | fdc e q => exact .fdc e (q.less k)
  | scr e q => exact .scr e (q.less k)
  | exo e q n => exact .exo e q fun z => n (k _ z)
  | mob o t => exact .mob (o.less k) t
/-- a new object's address is shunned no more -/
theorem RpS.less {H : Hp} {Av Av1 : Addr → Prop} {ow : Nat → List Addr} {σ : Sl} {σV : St} (r : RpS P w A0 H Av ow σ σV) (k : ∀ a, Av1 a → Av a) (ko : ∀ i a, a ∈ ow i → Av1 a) : RpS P w A0 H Av1 ow σ σV :=
  ⟨fun i sl e => let ⟨v, hv, q⟩ := r.slot i sl e; ⟨v, hv, q.less k⟩, r.off, r.dj, ko, fun a h => r.dom a (k a h), r.len⟩
/-- the owner's list with the slot i given up -/
def owDrop (ow : Nat → List Addr) (i : Nat) : Nat → List Addr := fun j => if j = i then [] else ow j
theorem owDrop_sub {ow : Nat → List Addr} {i j : Nat} {a : Addr} (h : a ∈ owDrop ow i j) : j ≠ i ∧ a ∈ ow j := by
  unfold owDrop at h
  split at h
  · cases h
  · exact ⟨by assumption, h⟩
/-- the slot i, which owned l, holds s instead: what it owned is data now -/
theorem RpS.give {H : Hp} {Av : Addr → Prop} {ow : Nat → List Addr} {σ : Sl} {σV : St} {i : Nat} {s : S} {v : V} (r : RpS P w A0 H Av ow σ σV) (hv : σV[i]? = some (some v))
    (q : RpSl P w A0 H (fun a => Av a ∧ a ∉ ow i) s v []) : RpS P w A0 H (fun a => Av a ∧ a ∉ ow i) (owDrop ow i) (σ.set i (some s)) σV := by
  have hi : i < σ.length := by rw [r.len]; exact (List.getElem?_eq_some_iff.mp hv).1
  refine ⟨fun j sl e => ?_, fun j h => ?_, fun j k a h1 h2 => r.dj j k a (owDrop_sub h1).2 (owDrop_sub h2).2, fun j a h => ⟨r.av j a (owDrop_sub h).2, fun z => (owDrop_sub h).1 (r.dj _ _ _ (owDrop_sub h).2 z)⟩, fun a h => r.dom a h.1, by simpa using r.len⟩
  · by_cases hj : i = j
    · subst hj
      rw [List.getElem?_set_self hi] at e
      cases e
      exact ⟨v, hv, by unfold owDrop; rw [if_pos rfl]; exact q⟩
    · rw [List.getElem?_set_ne hj] at e
      obtain ⟨u, hu, z⟩ := r.slot j sl e
      refine ⟨u, hu, ?_⟩
      unfold owDrop
      rw [if_neg (Ne.symm hj)]
      exact z.less fun a h => h.1
  · unfold owDrop
    by_cases hj : j = i
    · rw [if_pos hj]
    · rw [if_neg hj]
      exact r.off j fun sl => by rw [← List.getElem?_set_ne (Ne.symm hj)]; exact h sl
theorem stp_give {H0 H : Hp} {Av0 Av O0 : Addr → Prop} {ow : Nat → List Addr} {i : Nat} (hd : ∀ a, Av0 a → ∃ o, H0 a = some o) (s : Stp H0 Av0 O0 H Av (Ow ow)) : Stp H0 Av0 O0 H (fun a => Av a ∧ a ∉ ow i) (Ow (owDrop ow i)) :=
  ⟨s.fm, s.dm, fun a h n => ⟨s.ak a h n, fun z => by
    rcases s.on a ⟨i, z⟩ with q | q
    · exact n q
    · obtain ⟨o, e⟩ := hd a h; rw [e] at q; cases q⟩, fun a h => s.an a h.1, fun a ⟨j, h⟩ => s.on a ⟨j, (owDrop_sub h).2⟩⟩
theorem frz_nox {r : R} {σ σ' : Sl} {c : Nat} : frz r σ ≠ .exn c σ' := by
  intro h
  cases r with
  | pure d => cases h
  | fdc d => cases h
  | own ob => cases ob <;> cases h
  | bor i =>
    unfold frz at h
    dsimp only at h
    split at h <;> cases h
theorem fix_nox {r : R} {σ σ' : Sl} {c : Nat} : fix r σ ≠ .exn c σ' := by
  intro h
  cases r with
  | pure d => cases h
  | fdc d => cases h
  | own ob => cases h
  | bor i =>
    unfold fix at h
    dsimp only at h
    split at h <;> cases h
/-- data for good -/
theorem frz_ok {σV : St} {σ1 σ2 : Sl} {H0 Hb H1 : Hp} {Av0 Av1 : Addr → Prop} {ow0 ow1 : Nat → List Addr} {r : R} {v : V} {d : D} (hd : ∀ a, Av0 a → ∃ o, H0 a = some o) (hb : ∀ b, Hb b = none → H0 b = none)
    (rs : RpS P w A0 H1 Av1 ow1 σ1 σV) (s : Stp H0 Av0 (Ow ow0) H1 Av1 (Ow ow1)) (q : RpR P w σV Hb H1 Av1 ow1 r v) (e : frz r σ1 = .ok d σ2) :
    ∃ Av2 ow2, RpS P w A0 H1 Av2 ow2 σ2 σV ∧ Stp H0 Av0 (Ow ow0) H1 Av2 (Ow ow2) ∧ Rp H1 Av2 d v ∧ (∀ a, Av2 a → Av1 a) ∧ (∀ i a, a ∈ ow2 i → a ∈ ow1 i) ∧ (∀ a, Av1 a → ¬ Av2 a → Ow ow1 a ∨ Hb a = none) := by
  cases r with
  | pure x => cases e; exact ⟨Av1, ow1, rs, s, q, fun _ h => h, fun _ _ h => h, fun _ h n => absurd h n⟩
  | fdc ob => cases e
  | own ob =>
    cases ob with
    | dct kvs => cases e
    | dcs kvs => cases e
    | lst xs =>
      cases e
      obtain ⟨a, l, rfl, o, k⟩ := q
      cases o with
      | lst h t =>
        have ka := k a (by simp)
        have ne : ∀ b, Av0 b → b ≠ a := fun b hb2 z => by
          obtain ⟨o, e⟩ := hd b hb2
          rw [z, hb a ka.2.2] at e; cases e
        refine ⟨fun b => Av1 b ∧ b ≠ a, ow1, rs.less (fun b h => h.1) (fun i b hi => ⟨rs.av i b hi, fun z => ka.2.1 ⟨i, z ▸ hi⟩⟩), ⟨s.fm, s.dm, fun b h n => ⟨s.ak b h n, ne b h⟩, fun b h => s.an b h.1, s.on⟩, ?_, fun b h => h.1, fun _ _ h => h, fun b h n => ?_⟩
        · exact .lst h (fun z => z.2 rfl) (t.less fun b h => h.1)
        · by_cases e : b = a
          · exact .inr (e ▸ ka.2.2)
          · exact absurd ⟨h, e⟩ n
  | bor i =>
    have e : (match σ1[i]? with
      | some (some (.pure d)) => Out.ok d σ1
      | some (some (.mob none (.lst xs))) => .ok (.lst xs) (σ1.set i (some (.pure (.lst xs))))
      | _ => .fail) = .ok d σ2 := e
    have q : σV[i]? = some (some v) := q
    cases hs : σ1[i]? with
    | none => rw [hs] at e; cases e
    | some os =>
      cases os with
      | none => rw [hs] at e; cases e
      | some sl =>
        obtain ⟨v', hv, z⟩ := rs.slot i sl hs
        rw [q] at hv; cases hv
        rw [hs] at e
        cases z with
        | pure e0 z => cases e; exact ⟨Av1, ow1, rs, s, z, fun _ h => h, fun _ _ h => h, fun _ h n => absurd h n⟩
        | fdc e0 z => cases e
        | scr e0 z => cases e
        | exo e0 z n => cases e
        | @mob tg ob a _ o t =>
          cases tg with
          | some k => cases e
          | none =>
            cases ob with
            | dct kvs => cases e
            | dcs kvs => cases e
            | lst xs =>
              cases e
              generalize hl : ow1 i = l at o
              cases o with
              | lst h tt =>
                have rp : Rp H1 (fun b => Av1 b ∧ b ∉ ow1 i) (.lst xs) (.ref a) := .lst (h) (fun z => z.2 (by rw [hl]; simp)) (tt.less fun b h => h.1)
                exact ⟨_, _, rs.give q (.pure rfl rp), stp_give hd s, rp, fun b h => h.1, fun j b h => (owDrop_sub h).2, fun b h n => .inl ⟨i, Classical.byContradiction fun z => n ⟨h, z⟩⟩⟩
/-- what is shunned no more was a slot's, or new -/
theorem Stp.lessAv {H0 Hb H : Hp} {Av0 O0 Av1 Av2 : Addr → Prop} {ow1 ow2 : Nat → List Addr} (hd : ∀ a, Av0 a → ∃ o, H0 a = some o) (hb : ∀ b, Hb b = none → H0 b = none) (s : Stp H0 Av0 O0 H Av1 (Ow ow1)) (k : ∀ a, Av2 a → Av1 a) (ko : ∀ i a, a ∈ ow2 i → a ∈ ow1 i) (kr : ∀ a, Av1 a → ¬ Av2 a → Ow ow1 a ∨ Hb a = none) : Stp H0 Av0 O0 H Av2 (Ow ow2) := by
  refine ⟨s.fm, s.dm, fun a h n => Classical.byContradiction fun z => ?_, fun a h => s.an a (k a h), fun a ⟨j, h⟩ => s.on a ⟨j, ko j a h⟩⟩
  obtain ⟨o, e⟩ := hd a h
  rcases kr a (s.ak a h n) z with q | q
  · rcases s.on a q with q | q
    · exact n q
    · rw [e] at q; cases q
  · rw [hb a q] at e; cases e
theorem fix_ok {σV : St} {σ1 σ2 : Sl} {H0 Hb H1 : Hp} {Av0 Av1 : Addr → Prop} {ow0 ow1 : Nat → List Addr} {r z : R} {v : V} (hd : ∀ a, Av0 a → ∃ o, H0 a = some o)
    (rs : RpS P w A0 H1 Av1 ow1 σ1 σV) (s : Stp H0 Av0 (Ow ow0) H1 Av1 (Ow ow1)) (q : RpR P w σV Hb H1 Av1 ow1 r v) (e : fix r σ1 = .ok z σ2) :
    ∃ Av2 ow2, RpS P w A0 H1 Av2 ow2 σ2 σV ∧ Stp H0 Av0 (Ow ow0) H1 Av2 (Ow ow2) ∧ RpR P w σV Hb H1 Av2 ow2 z v ∧ (∀ i, z ≠ .bor i) ∧ (∀ a, Av2 a → Av1 a) ∧ (∀ i a, a ∈ ow2 i → a ∈ ow1 i) ∧ (∀ a, Av1 a → ¬ Ow ow1 a → Av2 a) := by
  cases r with
  | pure x => cases e; exact ⟨Av1, ow1, rs, s, q, (fun _ h => nomatch h), fun _ h => h, fun _ _ h => h, fun _ h _ => h⟩
  | fdc ob => cases e; exact ⟨Av1, ow1, rs, s, q, (fun _ h => nomatch h), fun _ h => h, fun _ _ h => h, fun _ h _ => h⟩
  | own ob => cases e; exact ⟨Av1, ow1, rs, s, q, (fun _ h => nomatch h), fun _ h => h, fun _ _ h => h, fun _ h _ => h⟩
  | bor i =>
    have e : (match σ1[i]? with
      | some (some (.pure d)) => Out.ok (R.pure d) σ1
      | some (some (.fdc ob)) => .ok (.fdc ob) σ1
      | some (some (.mob none (.lst xs))) => .ok (.pure (.lst xs)) (σ1.set i (some (.pure (.lst xs))))
      | _ => .fail) = .ok z σ2 := e
    have q : σV[i]? = some (some v) := q
    cases hs : σ1[i]? with
    | none => rw [hs] at e; cases e
    | some os =>
      cases os with
      | none => rw [hs] at e; cases e
      | some sl =>
        obtain ⟨v', hv, zz⟩ := rs.slot i sl hs
        rw [q] at hv; cases hv
        rw [hs] at e
        cases zz with
        | pure e0 zz => cases e; exact ⟨Av1, ow1, rs, s, zz, (fun _ h => nomatch h), fun _ h => h, fun _ _ h => h, fun _ h _ => h⟩
        | fdc e0 zz => cases e; exact ⟨Av1, ow1, rs, s, zz, (fun _ h => nomatch h), fun _ h => h, fun _ _ h => h, fun _ h _ => h⟩
        | scr e0 zz => cases e
        | exo e0 zz n => cases e
        | @mob tg ob a _ o t =>
          have kp : ∀ b, Av1 b → ¬ Ow ow1 b → (Av1 b ∧ b ∉ ow1 i) := fun b h n => ⟨h, fun z => n ⟨i, z⟩⟩
          cases tg with
          | some k => cases e
          | none =>
            cases ob with
            | dct kvs => cases e
            | dcs kvs => cases e
            | lst xs =>
              cases e
              generalize hl : ow1 i = l at o
              cases o with
              | lst h tt =>
                have rp : Rp H1 (fun b => Av1 b ∧ b ∉ ow1 i) (.lst xs) (.ref a) := .lst (h) (fun z => z.2 (by rw [hl]; simp)) (tt.less fun b h => h.1)
                exact ⟨_, _, rs.give q (.pure rfl rp), stp_give hd s, rp, (fun _ h => nomatch h), fun b h => h.1, fun j b h => (owDrop_sub h).2, kp⟩
end
end DL

/-! DLexp: expressions. -/
namespace DL
open PySem L2

theorem peImp {X : Cx} {e : Expr} {t t' : TE} (h : PE X e t) (k : ∀ σ H Q, t' σ H Q → t σ H Q) : PE X e t' := ⟨fun pins s σ H Q I z => h.run pins s σ H Q I (k σ H Q z)⟩
theorem ptImp {X : Cx} {e : Expr} {t t' : TT} (h : PT X e t) (k : ∀ σ H Q, t' σ H Q → t σ H Q) : PT X e t' := ⟨fun pins s σ H Q I z => h.run pins s σ H Q I (k σ H Q z)⟩
theorem pwImp {X : Cx} {e : Expr} {t t' : TT} (h : PW X e t) (k : ∀ σ H Q, t' σ H Q → t σ H Q) : PW X e t' := ⟨fun wh pins s σ H Q I z => h.run wh pins s σ H Q I (k σ H Q z)⟩
theorem paImp {X : Cx} {es : List Expr} {t t' : TA} (h : PA X es t) (k : ∀ σ H Q, t' σ H Q → t σ H Q) : PA X es t' := ⟨fun pos pins s σ H Q I z => h.run pos pins s σ H Q I (k σ H Q z)⟩

section
variable {X : Cx} {cl : Nat → Addr} {A0 : AK} {W : WX}

/-! ### names, constants -/
theorem de_var {i : Nat} {x : Str} {pos : Pos} (h : PE X (.Name x pos) (tVar i)) : DE X cl A0 W (.Name x pos) (eVar i) := by
  refine peImp h fun σV H Q z => ?_
  obtain ⟨σ, Av, ow, rs, g⟩ := z
  have g : oG X.prog X.w cl A0 W (RpR X.prog X.w) σV H Av ow Q (eVar i σ) := g
  unfold eVar at g
  cases hs : σ[i]? with
  | none => rw [hs] at g; exact g.elim
  | some os =>
    cases os with
    | none => rw [hs] at g; exact g.elim
    | some sl =>
      rw [hs] at g
      obtain ⟨v, hv, q⟩ := rs.slot i sl hs
      refine ⟨v, hv, ?_⟩
      cases q with
      | pure _ q => exact g v H Av ow rs Stp.refl q
      | fdc _ q => exact g v H Av ow rs Stp.refl q
      | scr _ q => exact g _ H Av ow rs Stp.refl hv
      | exo _ q n => exact g _ H Av ow rs Stp.refl hv
      | mob o t => exact g _ H Av ow rs Stp.refl hv
theorem de_const {d : D} {v : V} {e : Expr} (h : PE X e (tC v)) (r : ∀ H Av, Rp H Av d v) : DE X cl A0 W e (eC d) := by
  refine peImp h fun σV H Q z => ?_
  obtain ⟨σ, Av, ow, rs, g⟩ := z
  exact g v H Av ow rs Stp.refl (r H Av)
theorem de_int {i : Int} {j pos} : DE X cl A0 W (.Constant (.int i) j pos) (eC (.int i)) := de_const pe_int fun _ _ => .int i
theorem de_bl {b : Bool} {j pos} : DE X cl A0 W (.Constant (.bool b) j pos) (eC (.bl b)) := de_const pe_bl fun _ _ => .bl b
theorem de_non {j pos} : DE X cl A0 W (.Constant .none j pos) (eC .non) := de_const pe_non fun _ _ => .non
theorem de_str {x : Str} {s : Tx} {j pos} (h : x = tx s) (ok : txOk s = true) : DE X cl A0 W (.Constant (.str x) j pos) (eC (.str s)) := by
  subst h
  exact de_const pe_str fun _ _ => .str s ok

/-! ### operations on data -/
def Op1 (P : Program) (w : World) (f : D → Option R) (r : V → Hp → VK → Prop) : Prop := ∀ (H : Hp) (Av : Addr → Prop) (d : D) (x : V) (z : R) (Q : VK), (∀ a, Av a → ∃ o, H a = some o) → Top H Av d x → f d = some z → (∀ v H', NewR P w H H' Av z v → Q v H') → r x H Q
def Op2 (P : Program) (w : World) (f : D → D → Option R) (r : R2) : Prop := ∀ (H : Hp) (Av : Addr → Prop) (d e : D) (x y : V) (z : R) (Q : VK), (∀ a, Av a → ∃ o, H a = some o) → Top H Av d x → Top H Av e y → f d e = some z → (∀ v H', NewR P w H H' Av z v → Q v H') → r x y H Q
theorem rd_e1 {f : D → Option R} {r : V → Hp → VK → Prop} {fa : M R} (h : Op1 X.prog X.w f r) {σV : St} {H : Hp} {Q : VK} (z : (rdE X.prog X.w cl A0 W) (e1 f fa) σV H Q) : (rdE X.prog X.w cl A0 W) fa σV H fun x H1 => r x H1 Q := by
  obtain ⟨σ, Av, ow, rs, g⟩ := z
  refine gBind rs.dom rs Stp.refl g fun r1 σ1 x H1 Av1 ow1 rs1 _ s1 q1 g1 => ?_
  cases h1 : asD r1 σ1 with
  | none => rw [h1] at g1; exact g1.elim
  | some d =>
    rw [h1] at g1
    cases h2 : f d with
    | none => simp only [h2] at g1; exact g1.elim
    | some y =>
      simp only [h2] at g1
      exact h H1 Av1 d x y Q rs1.dom (asD_ok rs1 q1 h1) h2 fun v H' n => gEnd rs.dom rs1 s1 g1 n
theorem rd_e2 {f : D → D → Option R} {r : R2} {fa fb : M R} (h : Op2 X.prog X.w f r) {σV : St} {H : Hp} {Q : VK} (z : (rdE X.prog X.w cl A0 W) (e2 f fa fb) σV H Q) : tOp r ((rdE X.prog X.w cl A0 W) fa) ((rdE X.prog X.w cl A0 W) fb) σV H Q := by
  obtain ⟨σ, Av, ow, rs, g⟩ := z
  refine gBind rs.dom rs Stp.refl g fun r1 σ1 x H1 Av1 ow1 rs1 _ s1 q1 g1 => ?_
  refine gBind rs.dom rs1 s1 g1 fun r2 σ2 y H2 Av2 ow2 rs2 s12 s2 q2 g2 => ?_
  have q1' := q1.step s12 rs1.ho
  cases h1 : asD r1 σ2 with
  | none => simp only [h1] at g2; exact g2.elim
  | some d =>
    cases h2 : asD r2 σ2 with
    | none => simp only [h1, h2] at g2; exact g2.elim
    | some e =>
      cases h3 : f d e with
      | none => simp only [h1, h2, h3] at g2; exact g2.elim
      | some z =>
        simp only [h1, h2, h3] at g2
        exact h H2 Av2 d e x y z Q rs2.dom (asD_ok rs2 q1' h1) (asD_ok rs2 q2 h2) h3 fun v H' n => gEnd rs.dom rs2 s2 g2 n
theorem de_bin {op : Operator} {f : D → D → Option R} {r : R2} {a b : Expr} {fa fb : M R} {pos : Pos} (ho : OpR X (binaryOp op) r) (h : Op2 X.prog X.w f r) (ha : DE X cl A0 W a fa) (hb : DE X cl A0 W b fb) : DE X cl A0 W (.BinOp a op b pos) (e2 f fa fb) :=
  peImp (pe_op ho ha hb) fun _ _ _ z => rd_e2 h z
theorem de_un {op : UnaryOp} {f : D → Option R} {r : V → Hp → VK → Prop} {a : Expr} {fa : M R} {pos : Pos} (ho : UnR X (unaryOp op) r) (h : Op1 X.prog X.w f r) (ha : DE X cl A0 W a fa) : DE X cl A0 W (.UnaryOp op a pos) (e1 f fa) :=
  peImp (pe_un ho ha) fun _ _ _ z => rd_e1 h z
theorem de_cmp {op : CmpOp} {f : D → D → Option R} {r : R2} {a b : Expr} {fa fb : M R} {pos : Pos} (ho : OpR X (compareOp op) r) (h : Op2 X.prog X.w f r) (ha : DE X cl A0 W a fa) (hb : DE X cl A0 W b fb) (hm : behindInMarks op b = false) : DE X cl A0 W (.Compare a [op] [b] pos) (e2 f fa fb) :=
  peImp (pe_cmpR ho ha hb hm) fun _ _ _ z => rd_e2 h z
/-- a test by its value -/
theorem rd_tB {fe : M R} {σV : St} {H : Hp} {Q : Bool → Hp → Prop} (z : (rdT X.prog X.w cl A0 W) (tB fe) σV H Q) : (rdE X.prog X.w cl A0 W) fe σV H fun x H' => ∃ k, x = .bl k ∧ Q k H' := by
  obtain ⟨σ, Av, ow, rs, g⟩ := z
  refine gBind rs.dom rs Stp.refl g fun r1 σ1 x H1 Av1 ow1 rs1 _ s1 q1 g1 => ?_
  cases h1 : asD r1 σ1 with
  | none => simp only [h1] at g1; exact g1.elim
  | some d =>
    cases d with
    | bl b =>
      simp only [h1] at g1
      have t := asD_ok rs1 q1 h1
      rcases t with t | ⟨ds, a, vs, e, _⟩
      · cases t
        exact ⟨b, rfl, g1 b H1 Av1 ow1 rs1 s1 rfl⟩
      · cases e
    | _ => simp only [h1] at g1; exact g1.elim
theorem dt_cmp {op : CmpOp} {f : D → D → Option R} {r : R2} {a b : Expr} {fa fb : M R} {pos : Pos} (ho : OpR X (compareOp op) r) (h : Op2 X.prog X.w f r) (ha : DE X cl A0 W a fa) (hb : DE X cl A0 W b fb) (hm : behindInMarks op b = false) : DT X cl A0 W (.Compare a [op] [b] pos) (tB (e2 f fa fb)) :=
  ptImp (pt_cmpR ho ha hb hm) fun _ _ _ z => rd_e2 h (rd_tB z)
/-- any other expression -/
theorem dt_val {e : Expr} {fe : M R} (h : DE X cl A0 W e fe) (he : ∀ whole, isTrue e X.env whole = (do let v ← whole; standAt e.pos; holding [v] (truthy v)) := by intro _; rfl) : DT X cl A0 W e (tB fe) :=
  ptImp (pt_val h he) fun _ _ _ z => rd_tB z
theorem dt_not {a : Expr} {ta : M Bool} {pos : Pos} (h : DT X cl A0 W a ta) : DT X cl A0 W (.UnaryOp .Not a pos) (tNot ta) := by
  refine ptImp (pt_not h) fun σV H Q z => ?_
  obtain ⟨σ, Av, ow, rs, g⟩ := z
  refine gBind rs.dom rs Stp.refl g fun r1 σ1 x H1 Av1 ow1 rs1 _ s1 q1 g1 => ?_
  cases (show r1 = x from q1)
  exact g1 (!r1) H1 Av1 ow1 rs1 s1 rfl
theorem dw_and1 {a : Expr} {ta : M Bool} {pos : Pos} (h : DT X cl A0 W a ta) : DW X cl A0 W (.BoolOp .And [a] pos) ta := pw_and1 h
theorem dw_or1 {a : Expr} {ta : M Bool} {pos : Pos} (h : DT X cl A0 W a ta) : DW X cl A0 W (.BoolOp .Or [a] pos) ta := pw_or1 h
theorem dw_and {a b : Expr} {rest : List Expr} {ta tb : M Bool} {pos : Pos} (ha : DT X cl A0 W a ta) (hb : DW X cl A0 W (.BoolOp .And (b :: rest) pos) tb) : DW X cl A0 W (.BoolOp .And (a :: b :: rest) pos) (tAnd ta tb) := by
  refine pwImp (pw_and ha hb) fun σV H Q z => ?_
  obtain ⟨σ, Av, ow, rs, g⟩ := z
  refine gBind rs.dom rs Stp.refl g fun c σ1 x H1 Av1 ow1 rs1 _ s1 q1 g1 => ?_
  cases (show c = x from q1)
  cases c with
  | true => rw [if_pos rfl] at g1 ⊢; exact ⟨σ1, Av1, ow1, rs1, g1.later rs.dom s1 fun _ _ _ _ _ h => h⟩
  | false => rw [if_neg Bool.false_ne_true] at g1 ⊢; exact g1 false H1 Av1 ow1 rs1 s1 rfl
theorem dw_or {a b : Expr} {rest : List Expr} {ta tb : M Bool} {pos : Pos} (ha : DT X cl A0 W a ta) (hb : DW X cl A0 W (.BoolOp .Or (b :: rest) pos) tb) : DW X cl A0 W (.BoolOp .Or (a :: b :: rest) pos) (tOr ta tb) := by
  refine pwImp (pw_or ha hb) fun σV H Q z => ?_
  obtain ⟨σ, Av, ow, rs, g⟩ := z
  refine gBind rs.dom rs Stp.refl g fun c σ1 x H1 Av1 ow1 rs1 _ s1 q1 g1 => ?_
  cases (show c = x from q1)
  cases c with
  | false => rw [if_neg Bool.false_ne_true] at g1 ⊢; exact ⟨σ1, Av1, ow1, rs1, g1.later rs.dom s1 fun _ _ _ _ _ h => h⟩
  | true => rw [if_pos rfl] at g1 ⊢; exact g1 true H1 Av1 ow1 rs1 s1 rfl
theorem dt_w {e : Expr} {t : M Bool} (h : DW X cl A0 W e t) : DT X cl A0 W e t := PW.pt h
/-! as values -/
theorem de_one {op} {a : Expr} {fa : M R} {pos : Pos} (h : DE X cl A0 W a fa) : DE X cl A0 W (.BoolOp op [a] pos) fa := pe_one h
theorem de_and {a b : Expr} {rest : List Expr} {fa fb : M R} {pos : Pos} (ha : DE X cl A0 W a fa) (hb : DE X cl A0 W (.BoolOp .And (b :: rest) pos) fb) : DE X cl A0 W (.BoolOp .And (a :: b :: rest) pos) (eAnd fa fb) := by
  refine peImp (pe_and ha hb) fun σV H Q z => ?_
  obtain ⟨σ, Av, ow, rs, g⟩ := z
  have k : (rdT X.prog X.w cl A0 W) (tB fa) σV H (fun c H1 => if c = true then (rdE X.prog X.w cl A0 W) fb σV H1 Q else Q (.bl false) H1) := by
    refine gBind rs.dom rs Stp.refl g fun c σ1 x H1 Av1 ow1 rs1 _ s1 q1 g1 => ?_
    cases (show c = x from q1)
    cases c with
    | true => rw [if_pos rfl] at g1 ⊢; exact ⟨σ1, Av1, ow1, rs1, g1.later rs.dom s1 fun _ _ _ _ _ h => h.early fun b hb => s1.none_of hb⟩
    | false => rw [if_neg Bool.false_ne_true] at g1 ⊢; exact g1 _ H1 Av1 ow1 rs1 s1 (.bl false)
  exact rd_tB k
theorem de_or {a b : Expr} {rest : List Expr} {fa fb : M R} {pos : Pos} (ha : DE X cl A0 W a fa) (hb : DE X cl A0 W (.BoolOp .Or (b :: rest) pos) fb) : DE X cl A0 W (.BoolOp .Or (a :: b :: rest) pos) (eOr fa fb) := by
  refine peImp (pe_or ha hb) fun σV H Q z => ?_
  obtain ⟨σ, Av, ow, rs, g⟩ := z
  have k : (rdT X.prog X.w cl A0 W) (tB fa) σV H (fun c H1 => if c = true then Q (.bl true) H1 else (rdE X.prog X.w cl A0 W) fb σV H1 Q) := by
    refine gBind rs.dom rs Stp.refl g fun c σ1 x H1 Av1 ow1 rs1 _ s1 q1 g1 => ?_
    cases (show c = x from q1)
    cases c with
    | false => rw [if_neg Bool.false_ne_true] at g1 ⊢; exact ⟨σ1, Av1, ow1, rs1, g1.later rs.dom s1 fun _ _ _ _ _ h => h.early fun b hb => s1.none_of hb⟩
    | true => rw [if_pos rfl] at g1 ⊢; exact g1 _ H1 Av1 ow1 rs1 s1 (.bl true)
  exact rd_tB k
theorem de_not {a : Expr} {fa : M R} {pos : Pos} (ha : DE X cl A0 W a fa) : DE X cl A0 W (.UnaryOp .Not a pos) (eNot fa) := by
  refine peImp (pe_not ha) fun σV H Q z => ?_
  obtain ⟨σ, Av, ow, rs, g⟩ := z
  have k : (rdT X.prog X.w cl A0 W) (tB fa) σV H (fun c H1 => Q (.bl (!c)) H1) := by
    refine gBind rs.dom rs Stp.refl g fun c σ1 x H1 Av1 ow1 rs1 _ s1 q1 g1 => ?_
    cases (show c = x from q1)
    exact g1 _ H1 Av1 ow1 rs1 s1 (.bl _)
  exact rd_tB k
theorem de_if {c a b : Expr} {tc : M Bool} {fa fb : M R} {pos : Pos} (hc : DT X cl A0 W c tc) (ha : DE X cl A0 W a fa) (hb : DE X cl A0 W b fb) : DE X cl A0 W (.IfExp c a b pos) (eIf tc fa fb) := by
  refine peImp (pe_ifExp hc ha hb) fun σV H Q z => ?_
  obtain ⟨σ, Av, ow, rs, g⟩ := z
  refine gBind rs.dom rs Stp.refl g fun c σ1 x H1 Av1 ow1 rs1 _ s1 q1 g1 => ?_
  cases (show c = x from q1)
  cases c with
  | true => rw [if_pos rfl] at g1 ⊢; exact ⟨σ1, Av1, ow1, rs1, g1.later rs.dom s1 fun _ _ _ _ _ h => h.early fun b hb => s1.none_of hb⟩
  | false => rw [if_neg Bool.false_ne_true] at g1 ⊢; exact ⟨σ1, Av1, ow1, rs1, g1.later rs.dom s1 fun _ _ _ _ _ h => h.early fun b hb => s1.none_of hb⟩

/-! ### displays -/
def DA (X : Cx) (cl : Nat → Addr) (A0 : AK) (W : WX) (es : List Expr) (f : M (List D)) : Prop := PA X es (rdG X.prog X.w cl A0 W RlDs f)
theorem da_nil : DA X cl A0 W [] (eItems []) := by
  refine paImp pa_nil fun σV H Q z => ?_
  obtain ⟨σ, Av, ow, rs, g⟩ := z
  exact g [] H Av ow rs Stp.refl .nil
theorem da_cons {e : Expr} {es : List Expr} {fe : M R} {fs : List (M R)} (he : DE X cl A0 W e fe) (hr : DA X cl A0 W es (eItems fs)) (hs : starEach (e :: es) X.env = (false, eval e X.env) :: starEach es X.env := by rfl) : DA X cl A0 W (e :: es) (eItems (fe :: fs)) := by
  refine paImp (pa_cons he hr hs) fun σV H Q z => ?_
  obtain ⟨σ, Av, ow, rs, g⟩ := z
  refine gBind rs.dom rs Stp.refl g fun r1 σ1 x H1 Av1 ow1 rs1 _ s1 q1 g1 => ?_
  have g1 : oG X.prog X.w cl A0 W RlDs σV H Av ow Q (mbind (frz r1) (fun d => mbind (eItems fs) fun ds => mok (d :: ds)) σ1) := g1
  unfold mbind at g1
  cases hf : frz r1 σ1 with
  | fail => rw [hf] at g1; exact g1.elim
  | exn c σ2 =>
    exact (frz_nox hf).elim
  | ok d σ2 =>
    rw [hf] at g1
    obtain ⟨Av2, ow2, rs2, s2, rp, _, _, _⟩ := frz_ok rs.dom (fun b h => h) rs1 s1 q1 hf
    refine gBind (m := eItems fs) (k := fun ds => mok (d :: ds)) rs.dom rs2 s2 g1 fun ds σ3 xs H3 Av3 ow3 rs3 s23 s3 q3 g3 => ?_
    exact g3 (x :: xs) H3 Av3 ow3 rs3 s3 (.cons (rp.step s23 rs2.ho) q3)
theorem upd_new {H : Hp} {p : Addr} {o : HO} (hp : H p = none) : Same H (upd H p o) := fun a u h => by
  rw [upd_ne (fun e => by rw [e, hp] at h; cases h)]; exact h
theorem Rps.shun {H : Hp} {Av : Addr → Prop} {p : Addr} : ∀ {ds : List D} {vs : List V}, Rps H Av ds vs → ∀ {H' : Hp}, H p = none → Same H H' → Rps H' (fun a => Av a ∨ a = p) ds vs
  | _, _, .nil, _, _, _ => .nil
  | _, _, .cons r t, _, hp, s => .cons (r.shun hp s) (Rps.shun t hp s)
theorem Rps.same {H H' : Hp} {Av : Addr → Prop} {ds : List D} {vs : List V} (r : Rps H Av ds vs) (s : Same H H') : Rps H' Av ds vs := r.step (O := fun _ => False) (O1 := fun _ => False) (Same.stp s) fun _ h => h.elim
theorem Rp.same {H H' : Hp} {Av : Addr → Prop} {d : D} {v : V} (r : Rp H Av d v) (s : Same H H') : Rp H' Av d v := r.step (O := fun _ => False) (O1 := fun _ => False) (Same.stp s) fun _ h => h.elim
/-- a new tuple; shunned addresses stand -/
theorem new_tup {H : Hp} {Av : Addr → Prop} {ds : List D} {vs : List V} {p : Addr} (r : Rps H Av ds vs) (hp : H p = none) (hd : ¬ Av p) : NewR X.prog X.w H (upd H p (.tup vs)) Av (.pure (.tup ds)) (.ref p) :=
  ⟨upd_new hp, .tup upd_same hd (r.same (upd_new hp))⟩
theorem new_lst {H : Hp} {Av : Addr → Prop} {ds : List D} {vs : List V} {p : Addr} (r : Rps H Av ds vs) (hp : H p = none) : NewR X.prog X.w H (upd H p (.lst vs)) Av (.own (.lst ds)) (.ref p) :=
  ⟨upd_new hp, p, rfl, .lst upd_same (r.shun hp (upd_new hp)), hp⟩
theorem zl {n : Nat} (h : n ≤ zLine) : n ≤ sizeLine := by rw [sizeLine_eq]; exact h
theorem eItems_len : ∀ {fs : List (M R)} {σ σ' : Sl} {ds : List D}, eItems fs σ = .ok ds σ' → ds.length = fs.length
  | [], σ, σ', ds, h => by cases h; rfl
  | f :: fs, σ, σ', ds, h => by
    unfold eItems mbind at h
    cases h1 : f σ with
    | fail => rw [h1] at h; cases h
    | exn c σ1 => rw [h1] at h; cases h
    | ok r σ1 =>
      rw [h1] at h
      dsimp only at h
      cases h2 : frz r σ1 with
      | fail => rw [h2] at h; cases h
      | exn c σ2 => rw [h2] at h; cases h
      | ok d σ2 =>
        rw [h2] at h
        dsimp only at h
        cases h3 : eItems fs σ2 with
        | fail => rw [h3] at h; cases h
        | exn c σ3 => rw [h3] at h; cases h
        | ok es σ3 =>
          rw [h3] at h
          have e := eItems_len h3
          cases h
          simp [e]
theorem nav_of {H : Hp} {Av : Addr → Prop} {p : Addr} (hd : ∀ a, Av a → ∃ o, H a = some o) (hp : H p = none) : ¬ Av p := fun z => by
  obtain ⟨o, e⟩ := hd p z; rw [hp] at e; cases e
theorem le_line {n : Nat} (h : n ≤ 1000) : n ≤ sizeLine := Nat.le_trans h (by rw [sizeLine_eq]; decide)
theorem de_tup {es : List Expr} {fs : List (M R)} {x1} {pos : Pos} (h : DA X cl A0 W es (eItems fs)) (hz : Nat.ble fs.length 1000 = true := by rfl) : DE X cl A0 W (.Tuple es x1 pos) (eTup fs) := by
  refine peImp (pe_tup h) fun σV H Q z => ?_
  obtain ⟨σ, Av, ow, rs, g⟩ := z
  refine gBindQ (m := eItems fs) rs.dom rs Stp.refl g fun ds σ1 vs H1 Av1 ow1 e1 rs1 _ s1 q1 g1 => ?_
  have l : vs.length = fs.length := by rw [← eItems_len e1]; exact (Rps.len q1).symm
  exact ⟨le_line (l ▸ Nat.le_of_ble_eq_true hz), fun p hp => gEnd rs.dom rs1 s1 g1 (new_tup q1 hp (nav_of rs1.dom hp))⟩
theorem de_lst {es : List Expr} {fs : List (M R)} {pos : Pos} (h : DA X cl A0 W es (eItems fs)) (hz : Nat.ble fs.length 1000 = true := by rfl) : DE X cl A0 W (.List es pos) (eLst fs) := by
  refine peImp (pe_lst h) fun σV H Q z => ?_
  obtain ⟨σ, Av, ow, rs, g⟩ := z
  refine gBindQ (m := eItems fs) rs.dom rs Stp.refl g fun ds σ1 vs H1 Av1 ow1 e1 rs1 _ s1 q1 g1 => ?_
  have l : vs.length = fs.length := by rw [← eItems_len e1]; exact (Rps.len q1).symm
  exact ⟨le_line (l ▸ Nat.le_of_ble_eq_true hz), fun p hp => gEnd rs.dom rs1 s1 g1 (new_lst q1 hp)⟩
end
end DL

/-! DLops: operators on data. -/
namespace DL
open PySem L2

section
variable {H : Hp} {Av : Addr → Prop} {x : V}
theorem Top.non (t : Top H Av .non x) : x = .non := by
  rcases t with t | ⟨_, _, _, e, _⟩
  · cases t; rfl
  · cases e
theorem Top.bl {b : Bool} (t : Top H Av (.bl b) x) : x = .bl b := by
  rcases t with t | ⟨_, _, _, e, _⟩
  · cases t; rfl
  · cases e
theorem Top.int {i : Int} (t : Top H Av (.int i) x) : x = .int i := by
  rcases t with t | ⟨_, _, _, e, _⟩
  · cases t; rfl
  · cases e
theorem Top.str {s : Tx} (t : Top H Av (.str s) x) : x = .str (tx s) ∧ txOk s = true := by
  rcases t with t | ⟨_, _, _, e, _⟩
  · cases t; exact ⟨rfl, by assumption⟩
  · cases e
theorem Top.tup {ds : List D} (t : Top H Av (.tup ds) x) : ∃ a vs, x = .ref a ∧ H a = some (.tup vs) ∧ Rps H Av ds vs ∧ ¬ Av a := by
  rcases t with t | ⟨_, _, _, e, _⟩
  · cases t with
    | tup h n r => exact ⟨_, _, rfl, h, r, n⟩
  · cases e
theorem Top.lst {ds : List D} (t : Top H Av (.lst ds) x) : ∃ a vs, x = .ref a ∧ H a = some (.lst vs) ∧ Rps H Av ds vs := by
  rcases t with t | ⟨es, a, vs, e, e2, h, r⟩
  · cases t with
    | lst h n r => exact ⟨_, _, rfl, h, r⟩
  · cases e; exact ⟨_, _, e2, h, r⟩
theorem Top.rp {d : D} (t : Top H Av d x) (h : ∀ ds, d ≠ .lst ds) : Rp H Av d x := by
  rcases t with t | ⟨_, _, _, e, _⟩
  · exact t
  · exact absurd e (h _)
end
theorem new_pure {P : Program} {w : World} {H : Hp} {Av : Addr → Prop} {d : D} {v : V} (r : Rp H Av d v) : NewR P w H H Av (.pure d) v := ⟨fun _ _ h => h, r⟩
theorem tx_len (s : Tx) : (tx s).length = s.length := by simp [tx, Str.length]
theorem tx_app (a b : Tx) : tx a ++ tx b = tx (a ++ b) := by
  show Str.append (tx a) (tx b) = _
  simp [Str.append, tx]
theorem txOk_app {a b : Tx} (ha : txOk a = true) (hb : txOk b = true) : txOk (a ++ b) = true := by
  unfold txOk at *; rw [List.all_append, ha, hb]; rfl
theorem zle {n : Nat} (h : n ≤ zLine) : n ≤ sizeLine := by rw [sizeLine_eq]; exact h

section
variable {X : Cx}
def rAddAll (K : PySem.W.Frag) : R2 := fun x y H Q => (rI0 (fun i j => V.int (i + j)) x y H Q ∨ (∃ i j, x = .str i ∧ y = .str j ∧ i.length + j.length ≤ sizeLine ∧ Q (.str (i ++ j)) H)) ∨ (rCatA K x y H Q ∨ rCat x y H Q)
theorem or_add : OpR X (binaryOp .Add) (rAddAll X.K) := (op_add.or op_add_str).or (op_catA.or op_cat)
theorem o_add : Op2 X.prog X.w pyAdd (rAddAll X.K) := by
  intro H Av d e x y z Q hd t u hf k
  cases d with
  | int i =>
    cases e with
    | int j =>
      cases hf
      rw [t.int, u.int]
      exact .inl (.inl ⟨i, j, rfl, rfl, k _ _ (new_pure (.int _))⟩)
    | _ => cases hf
  | str a =>
    cases e with
    | str b =>
      simp only [pyAdd] at hf
      split at hf
      · cases hf
        obtain ⟨rfl, oa⟩ := t.str
        obtain ⟨rfl, ob⟩ := u.str
        refine .inl (.inr ⟨_, _, rfl, rfl, ?_, ?_⟩)
        · rw [tx_len, tx_len]; exact zle (by assumption)
        · rw [tx_app]; exact k _ _ (new_pure (.str _ (txOk_app oa ob)))
      · cases hf
    | _ => cases hf
  | tup a =>
    cases e with
    | tup b =>
      simp only [pyAdd] at hf
      split at hf
      · cases hf
        obtain ⟨p, vs, rfl, h1, r1, n1⟩ := t.tup
        obtain ⟨q, us, rfl, h2, r2, n2⟩ := u.tup
        refine .inr (.inl ⟨p, q, vs, us, rfl, rfl, SqT.of h1, SqT.of h2, ?_, fun e => ?_, fun _ e => ?_, fun _ _ c hc => ?_⟩)
        · rw [← r1.len, ← r2.len]; exact zle (by assumption)
        · subst e
          cases r1
          exact k _ _ (new_pure (.tup h2 n2 r2))
        · subst e
          cases r2
          rw [List.append_nil] at k
          exact k _ _ (new_pure (.tup h1 n1 r1))
        · exact k _ _ (new_tup (r1.append r2) hc (nav_of hd hc))
      · cases hf
    | _ => cases hf
  | lst a =>
    cases e with
    | lst b =>
      simp only [pyAdd] at hf
      split at hf
      · cases hf
        obtain ⟨p, vs, rfl, h1, r1⟩ := t.lst
        obtain ⟨q, us, rfl, h2, r2⟩ := u.lst
        refine .inr (.inr ⟨p, q, vs, us, rfl, rfl, h1, h2, ?_, fun c hc => k _ _ (new_lst (r1.append r2) hc)⟩)
        rw [← r1.len, ← r2.len]; exact zle (by assumption)
      · cases hf
    | _ => cases hf
  | _ => cases hf
theorem opII {f : D → D → Option R} {g : Int → Int → V} {C : Int → Int → Prop} (h : ∀ d e z, f d e = some z → ∃ i j d', d = .int i ∧ e = .int j ∧ C i j ∧ z = .pure d' ∧ ∀ H Av, Rp H Av d' (g i j)) : Op2 X.prog X.w f (rI C g) := by
  intro H Av d e x y z Q hd t u hf k
  obtain ⟨i, j, d', rfl, rfl, hc, rfl, r⟩ := h d e z hf
  rw [t.int, u.int]
  exact ⟨i, j, rfl, rfl, hc, k _ _ (new_pure (r H Av))⟩
theorem opII0 {f : D → D → Option R} {g : Int → Int → V} (h : ∀ d e z, f d e = some z → ∃ i j d', d = .int i ∧ e = .int j ∧ z = .pure d' ∧ ∀ H Av, Rp H Av d' (g i j)) : Op2 X.prog X.w f (rI0 g) := by
  intro H Av d e x y z Q hd t u hf k
  obtain ⟨i, j, d', rfl, rfl, rfl, r⟩ := h d e z hf
  rw [t.int, u.int]
  exact ⟨i, j, rfl, rfl, k _ _ (new_pure (r H Av))⟩
theorem o_sub : Op2 X.prog X.w pySub (rI0 fun i j => .int (i - j)) := opII0 fun d e z h => by
  cases d <;> cases e <;> cases h
  exact ⟨_, _, _, rfl, rfl, rfl, fun _ _ => .int _⟩
theorem o_fdiv : Op2 X.prog X.w pyFdiv (rI CDiv fun i j => .int (i / j)) := opII fun d e z h => by
  cases d with
  | int i =>
    cases e with
    | int j =>
      simp only [pyFdiv] at h
      split at h
      · cases h; exact ⟨_, _, _, rfl, rfl, by assumption, rfl, fun _ _ => .int _⟩
      · cases h
    | _ => cases h
  | _ => cases h
theorem o_mod : Op2 X.prog X.w pyMod (rI (fun _ j => 0 < j) fun i j => .int (i % j)) := opII fun d e z h => by
  cases d with
  | int i =>
    cases e with
    | int j =>
      simp only [pyMod] at h
      split at h
      · cases h; exact ⟨_, _, _, rfl, rfl, by assumption, rfl, fun _ _ => .int _⟩
      · cases h
    | _ => cases h
  | _ => cases h
theorem small_ok {i : Int} (h : small i = true) : -(2 ^ 64) < i ∧ i < 2 ^ 64 := by
  unfold small at h
  simpa using h
theorem o_pow : Op2 X.prog X.w pyPow (rI CPow fun i j => .int (i ^ j.toNat)) := opII fun d e z h => by
  cases d with
  | int i =>
    cases e with
    | int j =>
      simp only [pyPow] at h
      split at h
      · rename_i c
        cases h
        obtain ⟨h1, h2⟩ := small_ok c.2.2
        exact ⟨_, _, _, rfl, rfl, ⟨c.1, by omega, by omega⟩, rfl, fun _ _ => .int _⟩
      · cases h
    | _ => cases h
  | _ => cases h
def rMulAll (K : PySem.W.Frag) : R2 := fun x y H Q => rI CMul (fun i j => V.int (i * j)) x y H Q ∨ (rRepT K x y H Q ∨ rRep x y H Q)
theorem or_mul : OpR X (binaryOp .Mult) (rMulAll X.K) := op_mul.or (op_repT.or op_rep)
theorem o_mul : Op2 X.prog X.w pyMul (rMulAll X.K) := by
  intro H Av d e x y z Q hd t u hf k
  cases d with
  | int i =>
    cases e with
    | int j =>
      simp only [pyMul] at hf
      split at hf
      · rename_i c
        cases hf
        rw [t.int, u.int]
        refine .inl ⟨i, j, rfl, rfl, ?_, k _ _ (new_pure (.int _))⟩
        rcases c with c | c
        · exact .inl (small_ok c)
        · exact .inr (small_ok c)
      · cases hf
    | _ => cases hf
  | tup a =>
    cases e with
    | int j =>
      simp only [pyMul] at hf
      split at hf
      · rename_i c
        cases hf
        rw [u.int]
        obtain ⟨p, vs, rfl, h1, r1, n1⟩ := t.tup
        refine .inr (.inl ⟨p, j, vs, rfl, rfl, SqT.of h1, fun e => ?_, c.2.1, c.2.2.1, by rw [← r1.len]; exact c.2.2.2, fun q hq => k _ _ (new_tup (r1.rep _) hq (nav_of hd hq))⟩)
        subst e
        cases r1
        exact c.1 rfl
      · cases hf
    | _ => cases hf
  | lst a =>
    cases e with
    | int j =>
      simp only [pyMul] at hf
      split at hf
      · rename_i c
        cases hf
        rw [u.int]
        obtain ⟨p, vs, rfl, h1, r1⟩ := t.lst
        have c1 : -(2 ^ 63) ≤ j ∧ j < 2 ^ 63 := by simpa [small63] using c.1
        exact .inr (.inr ⟨p, j, vs, rfl, rfl, h1, c1.1, c1.2, by rw [← r1.len]; exact zle c.2, fun q hq => k _ _ (new_lst (r1.rep _) hq)⟩)
      · cases hf
    | _ => cases hf
  | _ => cases hf
theorem o_neg : Op1 X.prog X.w pyNeg (rU fun i => .int (-i)) := by
  intro H Av d x z Q hd t hf k
  cases d <;> cases hf
  rw [t.int]
  exact ⟨_, rfl, k _ _ (new_pure (.int _))⟩
theorem o_lt : Op2 X.prog X.w pyLt (rI0 fun i j => .bl (decide (i < j))) := opII0 fun d e z h => by
  cases d <;> cases e <;> cases h
  exact ⟨_, _, _, rfl, rfl, rfl, fun _ _ => .bl _⟩
theorem o_le : Op2 X.prog X.w pyLe (rI0 fun i j => .bl (decide (i ≤ j))) := opII0 fun d e z h => by
  cases d <;> cases e <;> cases h
  exact ⟨_, _, _, rfl, rfl, rfl, fun _ _ => .bl _⟩
theorem o_gt : Op2 X.prog X.w pyGt (rI0 fun i j => .bl (decide (j < i))) := opII0 fun d e z h => by
  cases d <;> cases e <;> cases h
  exact ⟨_, _, _, rfl, rfl, rfl, fun _ _ => .bl _⟩
theorem o_ge : Op2 X.prog X.w pyGe (rI0 fun i j => .bl (decide (j ≤ i))) := opII0 fun d e z h => by
  cases d <;> cases e <;> cases h
  exact ⟨_, _, _, rfl, rfl, rfl, fun _ _ => .bl _⟩

/-! ### == of data -/
mutual
def py : D → PyData
  | .non => .none
  | .bl b => .bool b
  | .int i => .int i
  | .str s => .str (tx s)
  | .tup xs => .tuple (pys xs)
  | .lst xs => .list (pys xs)
def pys : List D → List PyData
  | [] => []
  | x :: xs => py x :: pys xs
end
theorem tx_beq (a b : Tx) : (tx a == tx b) = (a == b) := by
  by_cases h : a = b
  · subst h; simp
  · have h2 : tx a ≠ tx b := fun e => h (by have := congrArg Str.cps e; simpa [tx] using this)
    rw [beq_eq_false_iff_ne.mpr h2, beq_eq_false_iff_ne.mpr h]
mutual
theorem eqv_py : ∀ a b : D, PyData.eqv (py a) (py b) = D.eqv a b
  | .non, b => by cases b <;> simp [py, PyData.eqv, D.eqv]
  | .bl x, b => by cases b <;> simp [py, PyData.eqv, D.eqv]
  | .int x, b => by cases b <;> simp [py, PyData.eqv, D.eqv]
  | .str x, b => by cases b <;> simp [py, PyData.eqv, D.eqv, tx_beq]
  | .tup xs, b => by
    cases b with
    | tup ys => simp only [py, PyData.eqv, D.eqv]; exact eqvs_py xs ys
    | _ => simp [py, PyData.eqv, D.eqv]
  | .lst xs, b => by
    cases b with
    | lst ys => simp only [py, PyData.eqv, D.eqv]; exact eqvs_py xs ys
    | _ => simp [py, PyData.eqv, D.eqv]
theorem eqvs_py : ∀ a b : List D, PyData.eqvAll (pys a) (pys b) = D.eqvs a b
  | [], [] => by simp [pys, PyData.eqvAll, D.eqvs]
  | [], _ :: _ => by simp [pys, PyData.eqvAll, D.eqvs]
  | _ :: _, [] => by simp [pys, PyData.eqvAll, D.eqvs]
  | x :: xs, y :: ys => by simp only [pys, PyData.eqvAll, D.eqvs]; rw [eqv_py x y, eqvs_py xs ys]
end
mutual
theorem dep_py : ∀ a : D, (py a).depth = a.dep
  | .non => by simp [py, PyData.depth, D.dep]
  | .bl x => by simp [py, PyData.depth, D.dep]
  | .int x => by simp [py, PyData.depth, D.dep]
  | .str x => by simp [py, PyData.depth, D.dep]
  | .tup xs => by simp only [py, PyData.depth, D.dep]; rw [deps_py xs]
  | .lst xs => by simp only [py, PyData.depth, D.dep]; rw [deps_py xs]
theorem deps_py : ∀ a : List D, PyData.depthAll (pys a) = D.deps a
  | [] => by simp [pys, PyData.depthAll, D.deps]
  | x :: xs => by simp only [pys, PyData.depthAll, D.deps]; rw [dep_py x, deps_py xs]
end
theorem strOk_tx {s : Tx} (h : txOk s = true) : PyData.strOk (tx s) = true := by
  unfold PyData.strOk tx
  unfold txOk at h
  simpa using h
mutual
theorem Rp.lay {H : Hp} {Av : Addr → Prop} : ∀ {d : D} {v : V}, Rp H Av d v → (py d).canLay0 = true
  | _, _, .non => by simp [py, PyData.canLay0]
  | _, _, .bl b => by simp [py, PyData.canLay0]
  | _, _, .int i => by simp [py, PyData.canLay0]
  | _, _, .str s h => by simp [py, PyData.canLay0, strOk_tx h]
  | _, _, .tup _ _ t => by simp [py, PyData.canLay0, Rps.lay t]
  | _, _, .lst _ _ t => by simp [py, PyData.canLay0, Rps.lay t]
theorem Rps.lay {H : Hp} {Av : Addr → Prop} : ∀ {ds : List D} {vs : List V}, Rps H Av ds vs → PyData.canLayAll0 (pys ds) = true
  | _, _, .nil => by simp [pys, PyData.canLayAll0]
  | _, _, .cons r t => by simp [pys, PyData.canLayAll0, Rp.lay r, Rps.lay t]
end
mutual
theorem Rp.dp {K : PySem.W.Frag} {H : Hp} {Av : Addr → Prop} : ∀ {d : D} {v : V}, Rp H Av d v → Dp K H v (py d)
  | _, _, .non => .non
  | _, _, .bl b => .bl b
  | _, _, .int i => .int i
  | _, _, .str s h => .str _
  | _, _, .tup h _ t => .tup (SqT.of h) (Rps.dp t)
  | _, _, .lst h _ t => .lst (SqL.of h) (Rps.dp t)
theorem Rps.dp {K : PySem.W.Frag} {H : Hp} {Av : Addr → Prop} : ∀ {ds : List D} {vs : List V}, Rps H Av ds vs → DpAll K H vs (pys ds)
  | _, _, .nil => .nil
  | _, _, .cons r t => .cons (Rp.dp r) (Rps.dp t)
end
theorem Top.dp {K : PySem.W.Frag} {H : Hp} {Av : Addr → Prop} {d : D} {v : V} (t : Top H Av d v) : Dp K H v (py d) := by
  rcases t with t | ⟨ds, a, vs, rfl, rfl, h, r⟩
  · exact t.dp
  · exact .lst (SqL.of h) r.dp
theorem Top.lay {H : Hp} {Av : Addr → Prop} {d : D} {v : V} (t : Top H Av d v) : (py d).canLay0 = true := by
  rcases t with t | ⟨ds, a, vs, rfl, rfl, h, r⟩
  · exact t.lay
  · simp [py, PyData.canLay0, r.lay]
def rEqAll (K : PySem.W.Frag) (neg : Bool) : R2 := fun x y H Q => ∃ d e, Dp K H x d ∧ Dp K H y e ∧ d.canLay0 = true ∧ e.canLay0 = true ∧ min d.depth e.depth ≤ 64 ∧ Q (.bl (if neg = true then !PyData.eqv d e else PyData.eqv d e)) H
theorem or_eq (hu : X.A.units + 64 < cLine) : OpR X (compareOp .Eq) (rEqAll X.K false) := by
  intro pins s σ H x y v u Q I rx ry h
  obtain ⟨d, e, hd, he, sd, se, hm, q⟩ := h
  obtain ⟨as, r1⟩ := Dp.reads I d x v hd rx
  obtain ⟨bs, r2⟩ := Dp.reads I e y u he ry
  exact PySem.SeqAt.compareEq_reads r1 r2 sd se (by omega) ⟨.bl _, H, I, rfl, q⟩
theorem or_ne (hu : X.A.units + 64 < cLine) : OpR X (compareOp .NotEq) (rEqAll X.K true) := by
  intro pins s σ H x y v u Q I rx ry h
  obtain ⟨d, e, hd, he, sd, se, hm, q⟩ := h
  obtain ⟨as, r1⟩ := Dp.reads I d x v hd rx
  obtain ⟨bs, r2⟩ := Dp.reads I e y u he ry
  exact PySem.SeqAt.compareNe_reads r1 r2 sd se (by omega) ⟨.bl _, H, I, rfl, q⟩
theorem o_eq : Op2 X.prog X.w pyEq (rEqAll X.K false) := by
  intro H Av d e x y z Q hd t u hf k
  unfold pyEq at hf
  split at hf
  · rename_i c
    cases hf
    refine ⟨py d, py e, t.dp, u.dp, t.lay, u.lay, by rw [dep_py, dep_py]; omega, ?_⟩
    rw [if_neg Bool.false_ne_true, eqv_py]
    exact k _ _ (new_pure (.bl _))
  · cases hf
theorem o_ne : Op2 X.prog X.w pyNe (rEqAll X.K true) := by
  intro H Av d e x y z Q hd t u hf k
  unfold pyNe at hf
  split at hf
  · rename_i c
    cases hf
    refine ⟨py d, py e, t.dp, u.dp, t.lay, u.lay, by rw [dep_py, dep_py]; omega, ?_⟩
    rw [if_pos rfl, eqv_py]
    exact k _ _ (new_pure (.bl _))
  · cases hf
end
end DL

/-! DLstm: statements, loops. -/
namespace DL
open PySem L2

theorem psImp {X : Cx} {st : Stmt} {t t' : TS} (h : PS X st t) (k : ∀ D σ H, t' D σ H → t D σ H) : PS X st t' := ⟨fun pins s σ H D I z => h.run pins s σ H D I (k D σ H z)⟩
theorem psImpN {X : Cx} {st : Stmt} {t t' : TS} (h : PS X st t) (k : ∀ D σ H, σ.length = X.N.length → t' D σ H → t D σ H) : PS X st t' := ⟨fun pins s σ H D I z => h.run pins s σ H D I (k D σ H I.len z)⟩
theorem pssImp {X : Cx} {st : List Stmt} {t t' : TS} (h : PSs X st t) (k : ∀ D σ H, t' D σ H → t D σ H) : PSs X st t' := ⟨fun pins s σ H D I z => h.run pins s σ H D I (k D σ H z)⟩

section
variable {P : Program} {w : World} {A0 : AK}
def owSet (ow : Nat → List Addr) (i : Nat) (l : List Addr) : Nat → List Addr := fun j => if j = i then l else ow j
theorem mem_owSet {ow : Nat → List Addr} {i j : Nat} {l : List Addr} {a : Addr} (h : a ∈ owSet ow i l j) : (j = i ∧ a ∈ l) ∨ (j ≠ i ∧ a ∈ ow j) := by
  unfold owSet at h
  split at h
  · exact .inl ⟨by assumption, h⟩
  · exact .inr ⟨by assumption, h⟩
/-- a slot is stored -/
theorem RpS.store {H : Hp} {Av : Addr → Prop} {ow : Nat → List Addr} {σ : Sl} {σV : St} {i : Nat} {s : S} {v : V} {l : List Addr} (r : RpS P w A0 H Av ow σ σV) (hi : i < σ.length) (q : RpSl P w A0 H Av s v l) (hl : ∀ b ∈ l, Av b ∧ ¬ Ow ow b) :
    RpS P w A0 H Av (owSet ow i l) (σ.set i (some s)) (σV.set i (some v)) := by
  have hv : i < σV.length := r.len ▸ hi
  refine ⟨fun j sl e => ?_, fun j h => ?_, fun j k a h1 h2 => ?_, fun j a h => ?_, r.dom, by simpa using r.len⟩
  · by_cases hj : i = j
    · subst hj
      rw [List.getElem?_set_self hi] at e
      cases e
      exact ⟨v, List.getElem?_set_self hv, by unfold owSet; rw [if_pos rfl]; exact q⟩
    · rw [List.getElem?_set_ne hj] at e
      obtain ⟨u, hu, z⟩ := r.slot j sl e
      exact ⟨u, by rw [List.getElem?_set_ne hj]; exact hu, by unfold owSet; rw [if_neg (Ne.symm hj)]; exact z⟩
  · unfold owSet
    by_cases hj : j = i
    · exfalso
      subst hj
      exact h s (List.getElem?_set_self hi)
    · rw [if_neg hj]
      exact r.off j fun sl => by rw [← List.getElem?_set_ne (Ne.symm hj)]; exact h sl
  · rcases mem_owSet h1 with ⟨e1, m1⟩ | ⟨e1, m1⟩ <;> rcases mem_owSet h2 with ⟨e2, m2⟩ | ⟨e2, m2⟩
    · rw [e1, e2]
    · exact ((hl a m1).2 ⟨k, m2⟩).elim
    · exact ((hl a m2).2 ⟨j, m1⟩).elim
    · exact r.dj j k a m1 m2
  · rcases mem_owSet h with ⟨e1, m1⟩ | ⟨e1, m1⟩
    · exact (hl a m1).1
    · exact r.av j a m1
theorem stp_store {H0 H : Hp} {Av0 Av O0 : Addr → Prop} {ow : Nat → List Addr} {i : Nat} {l : List Addr} (s : Stp H0 Av0 O0 H Av (Ow ow)) (hl : ∀ b ∈ l, H0 b = none) : Stp H0 Av0 O0 H Av (Ow (owSet ow i l)) :=
  ⟨s.fm, s.dm, s.ak, s.an, fun a ⟨j, h⟩ => by
    rcases mem_owSet h with ⟨_, m⟩ | ⟨_, m⟩
    · exact .inr (hl a m)
    · exact s.on a ⟨j, m⟩⟩
/-- .. by a result -/
theorem put_ok {H0 Hb H : Hp} {Av0 Av O0 : Addr → Prop} {ow : Nat → List Addr} {σ σ' : Sl} {σV : St} {i : Nat} {z : R} {v : V} (r : RpS P w A0 H Av ow σ σV) (s : Stp H0 Av0 O0 H Av (Ow ow)) (hb : ∀ b, Hb b = none → H0 b = none) (hi : i < σ.length) (q : RpR P w σV Hb H Av ow z v)
    (e : put i z σ = .ok .next σ') : ∃ ow', RpS P w A0 H Av ow' σ' (σV.set i (some v)) ∧ Stp H0 Av0 O0 H Av (Ow ow') ∧ (∀ b, Ow ow' b → Ow ow b ∨ Hb b = none ∧ ∃ ob a l, z = .own ob ∧ v = .ref a ∧ RpO P w H Av ob a l ∧ b ∈ l) := by
  have old : ∀ b, Ow (owSet ow i []) b → Ow ow b ∨ Hb b = none ∧ ∃ ob a l, z = .own ob ∧ v = .ref a ∧ RpO P w H Av ob a l ∧ b ∈ l := fun b ⟨j, h⟩ => by
    rcases mem_owSet h with ⟨_, m⟩ | ⟨_, m⟩
    · cases m
    · exact .inl ⟨j, m⟩
  cases z with
  | pure d => cases e; exact ⟨_, r.store hi (.pure rfl q) (fun _ h => nomatch h), stp_store s (fun _ h => nomatch h), old⟩
  | fdc ob => cases e; exact ⟨_, r.store hi (.fdc rfl q) (fun _ h => nomatch h), stp_store s (fun _ h => nomatch h), old⟩
  | own ob =>
    cases e
    obtain ⟨a, l, rfl, o, k⟩ := q
    refine ⟨_, r.store hi (.mob o fun k e => nomatch e) (fun b h => ⟨(k b h).1, (k b h).2.1⟩), stp_store s (fun b h => hb b (k b h).2.2), fun b ⟨j, h⟩ => ?_⟩
    rcases mem_owSet h with ⟨_, m⟩ | ⟨_, m⟩
    · exact .inr ⟨(k b m).2.2, ob, a, l, rfl, rfl, o, m⟩
    · exact .inl ⟨j, m⟩
  | bor j => cases e
end

section
variable {X : Cx} {cl : Nat → Addr} {A0 : AK} {W : WX}

/-! ### blocks -/
theorem dss_nil : DSs X cl A0 W [] sSkip := by
  refine pssImp pss_nil fun D σV H z => ?_
  obtain ⟨σ, Av, ow, rs, g⟩ := z
  exact g σV H Av ow rfl rs Stp.refl
theorem rd_seq {f g : M Flow} {D : Ends} {σV : St} {H : Hp} (z : (rdS X.prog X.w cl A0 W) (sSeq f g) D σV H) : tSeq ((rdS X.prog X.w cl A0 W) f) ((rdS X.prog X.w cl A0 W) g) D σV H := by
  obtain ⟨σ, Av, ow, rs, q⟩ := z
  refine ⟨σ, Av, ow, rs, ?_⟩
  unfold sSeq mbind at q
  cases e : f σ with
  | fail => rw [e] at q; exact q
  | exn c σ1 => rw [e] at q; exact q
  | ok fl σ1 =>
    rw [e] at q
    cases fl with
    | next => exact fun σV1 H1 Av1 ow1 hn rs1 s1 => ⟨σ1, Av1, ow1, rs1, by rw [hn]; exact q.later rs.dom s1⟩
    | brk => exact q
    | cont => exact q
    | ret r => exact q
theorem dss_cons {st : Stmt} {rest : List Stmt} {f g : M Flow} (h1 : DS X cl A0 W st f) (h2 : DSs X cl A0 W rest g) : DSs X cl A0 W (st :: rest) (sSeq f g) :=
  pssImp (pss_cons h1 h2) fun _ _ _ z => rd_seq z
theorem dss_one {st : Stmt} {f : M Flow} (h1 : DS X cl A0 W st f) : DSs X cl A0 W [st] f := pss_one h1
theorem ds_pass {pos : Pos} : DS X cl A0 W (.Pass pos) sSkip := by
  refine psImp ps_pass fun D σV H z => ?_
  obtain ⟨σ, Av, ow, rs, g⟩ := z
  exact g σV H Av ow rfl rs Stp.refl
theorem ds_do {e : Expr} {fe : M R} {pos : Pos} (he : DE X cl A0 W e fe) (hs : swapsWith e none pos.line X.env = pure false := by rfl) : DS X cl A0 W (.Expr e pos) (sDo fe) := by
  refine psImp (ps_expr he hs) fun D σV H z => ?_
  obtain ⟨σ, Av, ow, rs, g⟩ := z
  exact gBindS rfl rs.dom rs Stp.refl g fun r σ1 v H1 Av1 ow1 rs1 _ s1 _ g1 => g1 σV H1 Av1 ow1 rfl rs1 s1
theorem ds_ret {e : Expr} {fe : M R} {pos : Pos} (he : DE X cl A0 W e fe) : DS X cl A0 W (.Return (some e) pos) (sRet fe) := by
  refine psImp (ps_ret he) fun D σV H z => ?_
  obtain ⟨σ, Av, ow, rs, g⟩ := z
  exact gBindS rfl rs.dom rs Stp.refl g fun r σ1 v H1 Av1 ow1 rs1 _ s1 q1 g1 => g1 σV H1 Av1 ow1 rfl rs1 s1 v q1
theorem ds_if {c : Expr} {a b : List Stmt} {tc : M Bool} {fa fb : M Flow} {pos : Pos} (hc : DT X cl A0 W c tc) (ha : DSs X cl A0 W a fa) (hb : DSs X cl A0 W b fb) : DS X cl A0 W (.If c a b pos) (sIf tc fa fb) := by
  refine psImp (ps_if hc ha hb) fun D σV H z => ?_
  obtain ⟨σ, Av, ow, rs, g⟩ := z
  refine gBindS rfl rs.dom rs Stp.refl g fun r σ1 v H1 Av1 ow1 rs1 _ s1 q1 g1 => ?_
  cases (show r = v from q1)
  cases r with
  | true => rw [if_pos rfl] at g1 ⊢; exact ⟨σ1, Av1, ow1, rs1, g1.later rs.dom s1⟩
  | false => rw [if_neg Bool.false_ne_true] at g1 ⊢; exact ⟨σ1, Av1, ow1, rs1, g1.later rs.dom s1⟩
/-- name = e -/
theorem rd_put {i : Nat} {fe : M R} {D : Ends} {σV : St} {H : Hp} (hi : i < σV.length) (z : (rdS X.prog X.w cl A0 W) (sPut i fe) D σV H) : tAsg ((rdE X.prog X.w cl A0 W) fe) (gName i) D σV H := by
  obtain ⟨σ, Av, ow, rs, g⟩ := z
  refine gBindS rfl rs.dom rs Stp.refl g fun r σ1 v H1 Av1 ow1 rs1 _ s1 q1 g1 => ?_
  unfold mbind at g1
  cases hf : fix r σ1 with
  | fail => rw [hf] at g1; exact g1.elim
  | exn c σ2 => exact (fix_nox hf).elim
  | ok r2 σ2 =>
    rw [hf] at g1
    obtain ⟨Av2, ow2, rs2, s2, q2, nb, _, _, _⟩ := fix_ok rs.dom rs1 s1 q1 hf
    cases hp : put i r2 σ2 with
    | fail => simp only [hp] at g1; exact g1.elim
    | exn c σ3 => cases r2 <;> cases hp
    | ok fl σ3 =>
      have efl : fl = .next := by cases r2 <;> cases hp <;> rfl
      subst efl
      simp only [hp] at g1
      obtain ⟨ow3, rs3, s3, _⟩ := put_ok rs2 s2 (fun b h => h) (by rw [rs2.len]; exact hi) q2 hp
      exact g1 _ H1 Av2 ow3 (by simp) rs3 s3
theorem ds_put {i : Nat} {x : Str} {e : Expr} {fe : M R} {pos pos' : Pos} (hN : X.N.Nodup) (hi : X.N[i]? = some x) (hx : Loc X.env.scope x) (he : DE X cl A0 W e fe) (hs : swapsWith e (some (.Name x pos')) pos.line X.env = pure false := by rfl)
    (hf : X.fn x = true ∨ X.env.scope.names.lookup x = some .local := by first | exact .inl rfl | exact .inr rfl | assumption) : DS X cl A0 W (.Assign [.Name x pos'] e pos) (sPut i fe) :=
  psImpN (ps_set hN hi hx he hs hf) fun D σV H l z => rd_put (by rw [l]; exact (List.getElem?_eq_some_iff.mp hi).1) z

/-! ### targets -/
def gNames : List Nat → TGs
  | [] => gNil
  | i :: is => gCons (gName i) (gNames is)
def setV : List Nat → List V → St → St
  | i :: is, v :: vs, σ => setV is vs (σ.set i (some v))
  | _, _, σ => σ
theorem setV_len : ∀ (is : List Nat) (vs : List V) (σ : St), (setV is vs σ).length = σ.length
  | [], _, _ => rfl
  | _ :: _, [], _ => rfl
  | i :: is, v :: vs, σ => by unfold setV; rw [setV_len is vs]; simp
theorem gNames_of : ∀ {is : List Nat} {vs : List V} {σ : St} {H : Hp} {Q : St → Hp → Prop}, vs.length = is.length → Q (setV is vs σ) H → gNames is vs σ H Q
  | [], [], _, _, _, _, q => ⟨rfl, q⟩
  | i :: is, v :: vs, σ, H, Q, l, q => ⟨v, vs, rfl, gNames_of (by simpa using l) q⟩
  | [], _ :: _, _, _, _, l, _ => by simp at l
  | _ :: _, [], _, _, _, l, _ => by simp at l
def gTg (K : PySem.W.Frag) : Tg → TG
  | .name i => gName i
  | .tup is => gTup K is.length (gNames is)
def Tg.ix : Tg → List Nat
  | .name i => [i]
  | .tup is => is
theorem setAll_ok {P : Program} {w : World} {A0 : AK} {H0 H : Hp} {Av0 Av O0 : Addr → Prop} : ∀ {is : List Nat} {ds : List D} {vs : List V} {ow : Nat → List Addr} {σ : Sl} {σV : St}, RpS P w A0 H Av ow σ σV → Stp H0 Av0 O0 H Av (Ow ow) → (∀ i ∈ is, i < σ.length) → Rps H Av ds vs →
    ∃ ow', RpS P w A0 H Av ow' (setAll is ds σ) (setV is vs σV) ∧ Stp H0 Av0 O0 H Av (Ow ow') ∧ ∀ b, Ow ow' b → Ow ow b
  | [], ds, vs, ow, σ, σV, r, s, _, q => by
    unfold setAll setV
    exact ⟨ow, r, s, fun _ h => h⟩
  | i :: is, [], _, ow, σ, σV, r, s, _, .nil => ⟨ow, r, s, fun _ h => h⟩
  | i :: is, d :: ds, v :: vs, ow, σ, σV, r, s, hi, .cons q t => by
    have r1 := r.store (hi i (by simp)) (.pure rfl q) (fun _ h => nomatch h)
    have s1 : Stp H0 Av0 O0 H Av (Ow (owSet ow i [])) := stp_store s (fun _ h => nomatch h)
    obtain ⟨ow', r', s', k⟩ := setAll_ok r1 s1 (fun j hj => by simpa using hi j (List.mem_cons_of_mem _ hj)) t
    refine ⟨ow', r', s', fun b h => ?_⟩
    obtain ⟨j, hj⟩ := k b h
    rcases mem_owSet hj with ⟨_, m⟩ | ⟨_, m⟩
    · cases m
    · exact ⟨j, m⟩
/-- data to a target -/
theorem bindT_ok {P : Program} {w : World} {A0 : AK} {K : PySem.W.Frag} {H0 H : Hp} {Av0 Av O0 : Addr → Prop} {tg : Tg} {d : D} {x : V} {ow : Nat → List Addr} {σ σ' : Sl} {σV : St} (r : RpS P w A0 H Av ow σ σV) (s : Stp H0 Av0 O0 H Av (Ow ow)) (hi : ∀ i ∈ tg.ix, i < σ.length) (q : Rp H Av d x) (e : bindT tg d σ = some σ') :
    ∃ ow' σV', RpS P w A0 H Av ow' σ' σV' ∧ Stp H0 Av0 O0 H Av (Ow ow') ∧ (∀ b, Ow ow' b → Ow ow b) ∧ (∃ us, σV' = setV tg.ix us σV) ∧ ∀ Q : St → Hp → Prop, Q σV' H → gTg K tg x σV H Q := by
  cases tg with
  | name i =>
    cases e
    obtain ⟨ow', r', s', k⟩ := setAll_ok (is := [i]) r s (by simpa [Tg.ix] using hi) (.cons q .nil)
    exact ⟨ow', _, r', s', k, ⟨_, rfl⟩, fun Q z => z⟩
  | tup is =>
    cases d with
    | tup ds =>
      simp only [bindT] at e
      split at e
      · rename_i hl
        cases e
        cases q with
        | tup h n t =>
          obtain ⟨ow', r', s', k⟩ := setAll_ok r s (by simpa [Tg.ix] using hi) t
          exact ⟨ow', _, r', s', k, ⟨_, rfl⟩, fun Q z => ⟨_, _, rfl, SqT.of h, by rw [← t.len]; exact hl, gNames_of (by rw [← t.len]; exact hl) z⟩⟩
      · cases e
    | _ => cases e
def DG (X : Cx) (tg : Expr) (t : Tg) : Prop := PG X tg (gTg X.K t) ∧ ∀ i ∈ t.ix, i < X.N.length
theorem dg_name {i : Nat} {x : Str} {pos : Pos} (hN : X.N.Nodup) (hi : X.N[i]? = some x) (hx : Loc X.env.scope x) (hf : X.fn x = true ∨ X.env.scope.names.lookup x = some .local := by first | exact .inl rfl | exact .inr rfl | assumption) : DG X (.Name x pos) (.name i) :=
  ⟨pg_name hN hi hx hf, fun j hj => by
    obtain rfl : j = i := by simpa [Tg.ix] using hj
    exact (List.getElem?_eq_some_iff.mp hi).1⟩
def DGs (X : Cx) (ts : List Expr) (is : List Nat) : Prop := PGs X ts (gNames is) ∧ ∀ i ∈ is, i < X.N.length
theorem dgs_nil : DGs X [] [] := ⟨pgs_nil, fun _ h => nomatch h⟩
theorem dgs_cons {i : Nat} {x : Str} {pos : Pos} {es : List Expr} {is : List Nat} (hN : X.N.Nodup) (hi : X.N[i]? = some x) (hx : Loc X.env.scope x) (hr : DGs X es is) (hf : X.fn x = true ∨ X.env.scope.names.lookup x = some .local := by first | exact .inl rfl | exact .inr rfl | assumption)
    (hs : (assignEach (.Name x pos :: es) X.env).map (·.2) = assign (.Name x pos) X.env :: (assignEach es X.env).map (·.2) := by rfl) : DGs X (.Name x pos :: es) (i :: is) :=
  ⟨pgs_cons (pg_name hN hi hx hf) hr.1 hs, fun j hj => by
    rcases List.mem_cons.mp hj with e | h
    · subst e; exact (List.getElem?_eq_some_iff.mp hi).1
    · exact hr.2 j h⟩
theorem dg_tup {es : List Expr} {is : List Nat} {k : Nat} {pos : Pos} (hc : X.calm = true) (h : DGs X es is) (hn : (assignEach es X.env).length = is.length := by rfl) (hst : (assignEach es X.env).findIdx? (·.1) = none := by rfl) : DG X (.Tuple es k pos) (.tup is) :=
  ⟨pg_tup hc h.1 hn hst, h.2⟩
/-- a, b = e (e gives a tuple) -/
theorem ds_unpack {es : List Expr} {is : List Nat} {e : Expr} {fe : M R} {k : Nat} {pos pos' : Pos} (hg : DG X (.Tuple es k pos') (.tup is)) (he : DE X cl A0 W e fe) (hs : swapsWithSole [.Tuple es k pos'] e pos.line X.env = pure false := by rfl) (hw : swappedStores [.Tuple es k pos'] e X.env = pure none := by rfl)
    (h1 : (assignEach [.Tuple es k pos'] X.env).map (·.2) = [assign (.Tuple es k pos') X.env] := by rfl) : DS X cl A0 W (.Assign [.Tuple es k pos'] e pos) (sUnpack is fe) := by
  refine psImpN (ps_asg he hg.1 hs hw h1) fun D σV H l z => ?_
  obtain ⟨σ, Av, ow, rs, g⟩ := z
  refine gBindS rfl rs.dom rs Stp.refl g fun r σ1 v H1 Av1 ow1 rs1 _ s1 q1 g1 => ?_
  cases r with
  | pure d =>
    simp only at g1
    cases hb : bindT (.tup is) d σ1 with
    | none => simp only [hb] at g1; exact g1.elim
    | some σ2 =>
      simp only [hb] at g1
      obtain ⟨ow2, σV2, rs2, s2, _, ⟨us, eu⟩, k⟩ := bindT_ok (K := X.K) rs1 s1 (fun i hi => by rw [rs1.len, l]; exact hg.2 i hi) q1 hb
      exact k _ (g1 σV2 H1 Av1 ow2 (by rw [eu, setV_len]) rs2 s2)
  | _ => exact g1.elim

/-! ### what is walked -/
def ItOk (J : It) (H : Hp) (Av : Addr → Prop) (O : Addr → Prop) (ds : List D) : Prop := ∀ Hc Avc Oc, Stp H Av O Hc Avc Oc → (∀ a, Avc a → ∃ o, Hc a = some o) → ∀ i : Nat,
  (∀ d, ds[i]? = some d → J.go i Hc ∧ ∀ x Hn, J.yld i Hc x Hn → Same Hc Hn ∧ Rp Hn Avc d x) ∧ (ds.length ≤ i → J.stop i Hc)
def RlIt : Rel (List D) It := fun _ _ H Av ow ds J => ItOk J H Av (Ow ow) ds
def DI (X : Cx) (cl : Nat → Addr) (A0 : AK) (W : WX) (tg iter : Expr) (f : M (List D)) : Prop := PI X tg iter (rdG X.prog X.w cl A0 W RlIt f)

theorem ds_for {tg iter : Expr} {body : List Stmt} {t : Tg} {fi : M (List D)} {fb : M Flow} {pos : Pos} (hp : PassesOwn (model X.prog X.w) X.A X.env X.xe) (hc : X.calm = true) (hi : DI X cl A0 W tg iter fi) (hg : DG X tg t) (hb : DSs X cl A0 W body fb)
    (hs : ∀ x, foldedSetIterable iter X.env x = pure x := by intro _; rfl) : DS X cl A0 W (.For tg iter body [] pos) (sFor t fi fb) := by
  refine psImpN (ps_for hp hc hi hg.1 hb hs) fun D σV H l z => ?_
  obtain ⟨σ, Av, ow, rs, g⟩ := z
  refine gBindS rfl rs.dom rs Stp.refl g fun ds σ1 J H1 Av1 ow1 rs1 _ s1 q1 g1 => ?_
  refine ⟨fun i m σV' H' => ∃ σ' Av' ow', RpS X.prog X.w A0 H' Av' ow' σ' σV' ∧ Stp H Av (Ow ow) H' Av' (Ow ow') ∧ Stp H1 Av1 (Ow ow1) H' Av' (Ow ow') ∧ m = ds.length - i ∧ i ≤ ds.length ∧ σV'.length = σV.length ∧ oS X.prog X.w cl A0 W σV.length D H Av ow (goFor t fb (ds.drop i) σ'),
    ⟨ds.length, σ1, Av1, ow1, rs1, s1, Stp.refl, by simp, Nat.zero_le _, rfl, by simpa using g1⟩, ?_⟩
  rintro i m σV' H' ⟨σ', Av', ow', rs', s', t', rfl, hle, hl, g'⟩
  have it := q1 H' Av' (Ow ow') t' rs'.dom i
  by_cases hlt : i < ds.length
  · have hd : ds[i]? = some ds[i] := by simp [hlt]
    obtain ⟨go, yld⟩ := it.1 _ hd
    refine .inr ⟨go, fun σV2 H2 => ∃ σ2 Av2 ow2, RpS X.prog X.w A0 H2 Av2 ow2 σ2 σV2 ∧ Stp H Av (Ow ow) H2 Av2 (Ow ow2) ∧ Stp H1 Av1 (Ow ow1) H2 Av2 (Ow ow2) ∧ σV2.length = σV.length ∧ oS X.prog X.w cl A0 W σV.length D H Av ow (goFor t fb (ds.drop (i + 1)) σ2), ?_, ?_⟩
    · rintro σV2 H2 ⟨σ2, Av2, ow2, a1, a2, a3, a4, a5⟩
      exact ⟨ds.length - (i + 1), by omega, σ2, Av2, ow2, a1, a2, a3, rfl, hlt, a4, a5⟩
    · intro x Hn hy
      obtain ⟨sm, rx⟩ := yld x Hn hy
      rw [List.drop_eq_getElem_cons hlt] at g'
      simp only [goFor] at g'
      have rsn := rs'.same sm
      have sn := s'.trans rs.dom (Same.stp sm)
      have tn := t'.trans rs1.dom (Same.stp sm)
      cases hbt : bindT t ds[i] σ' with
      | none => simp only [hbt] at g'; exact g'.elim
      | some σ2 =>
        simp only [hbt] at g'
        obtain ⟨ow2, σV2, rs2, s2, ko, ⟨us, eu⟩, k⟩ := bindT_ok (K := X.K) rsn sn (fun j hj => by rw [rsn.len, hl, l]; exact hg.2 j hj) rx hbt
        have t2 : Stp H1 Av1 (Ow ow1) Hn Av' (Ow ow2) := ⟨tn.fm, tn.dm, tn.ak, tn.an, fun a h => tn.on a (ko a h)⟩
        have l2 : σV2.length = σV.length := by rw [eu, setV_len]; exact hl
        refine k _ ⟨σ2, Av', ow2, rs2, ?_⟩
        cases hfb : fb σ2 with
        | fail => simp only [hfb] at g'; exact g'.elim
        | exn c σ3 =>
          simp only [hfb] at g'
          exact fun σV3 H3 Av3 ow3 h3 rs3 s3 => g' σV3 H3 Av3 ow3 (h3.trans l2) rs3 (s2.trans rs.dom s3)
        | ok fl σ3 =>
          simp only [hfb] at g'
          cases fl with
          | next => exact fun σV3 H3 Av3 ow3 h3 rs3 s3 => ⟨σ3, Av3, ow3, rs3, s2.trans rs.dom s3, t2.trans rs1.dom s3, h3.trans l2, g'⟩
          | cont => exact fun σV3 H3 Av3 ow3 h3 rs3 s3 => ⟨σ3, Av3, ow3, rs3, s2.trans rs.dom s3, t2.trans rs1.dom s3, h3.trans l2, g'⟩
          | brk => exact fun σV3 H3 Av3 ow3 h3 rs3 s3 => g' σV3 H3 Av3 ow3 (h3.trans l2) rs3 (s2.trans rs.dom s3)
          | ret r => exact fun σV3 H3 Av3 ow3 h3 rs3 s3 v rv => g' σV3 H3 Av3 ow3 (h3.trans l2) rs3 (s2.trans rs.dom s3) v (rv.early fun b hb => s2.none_of hb)
  · have e : i = ds.length := by omega
    subst e
    rw [List.drop_length] at g'
    exact .inl ⟨it.2 (Nat.le_refl _), g' σV' H' Av' ow' hl rs' s'⟩
end
end DL

/-! DLfun: while, raise, comprehensions, defs and calls. -/
namespace DL
open PySem L2

section
variable {P : Program} {w : World} {A0 : AK}
/-- the slots stand over a change that touches nothing of theirs -/
theorem RpS.move {H H' : Hp} {Av Av' O1 O2 : Addr → Prop} {ow : Nat → List Addr} {σ : Sl} {σV : St} (r : RpS P w A0 H Av ow σ σV) (s : Stp H Av O1 H' Av' O2) (ho : ∀ a, O1 a → Av a) (dis : ∀ i a, a ∈ ow i → ¬ O1 a) (dom : ∀ a, Av' a → ∃ o, H' a = some o) : RpS P w A0 H' Av' ow σ σV := by
  refine ⟨fun i sl e => ?_, r.off, r.dj, fun i a h => s.ak a (r.av i a h) (dis i a h), dom, r.len⟩
  obtain ⟨v, hv, q⟩ := r.slot i sl e
  refine ⟨v, hv, ?_⟩
  cases q with
  | pure e0 q => exact .pure e0 (q.step s ho)
  | fdc e0 q => exact .fdc e0 (q.step s ho)
  | scr e0 q => exact .scr e0 (q.step s ho)
  | exo e0 q n => exact .exo e0 (s.rd q fun h => n (ho _ h)) (s.nav n (rd_some q))
  | mob o t => exact .mob (o.step s ho fun b hb => dis i b hb) t
/-- slots forgotten -/
def owWipe (ow : Nat → List Addr) (vs : List Nat) : Nat → List Addr := fun j => if j ∈ vs then [] else ow j
theorem wipeS_some {σ : Sl} {i : Nat} {x : S} : ∀ {vs : List Nat}, (wipeS σ vs)[i]? = some (some x) → σ[i]? = some (some x) ∧ i ∉ vs
  | [], h => ⟨h, by simp⟩
  | v :: vs, h => by
    unfold wipeS at h
    by_cases hi : v = i
    · subst hi
      by_cases hv : v < (wipeS σ vs).length
      · rw [List.getElem?_set_self hv] at h; cases h
      · rw [List.getElem?_eq_none (by simpa using hv)] at h; cases h
    · rw [List.getElem?_set_ne hi] at h
      obtain ⟨h1, h2⟩ := wipeS_some h
      exact ⟨h1, by simp only [List.mem_cons, not_or]; exact ⟨fun e => hi e.symm, h2⟩⟩
theorem wipeS_out {σ : Sl} {i : Nat} : ∀ {vs : List Nat}, i ∉ vs → (wipeS σ vs)[i]? = σ[i]?
  | [], _ => rfl
  | v :: vs, h => by
    unfold wipeS
    simp only [List.mem_cons, not_or] at h
    rw [List.getElem?_set_ne (Ne.symm h.1)]
    exact wipeS_out h.2
theorem wipe_out {σ : St} {i : Nat} : ∀ {vs : List Nat}, i ∉ vs → (wipe σ vs)[i]? = σ[i]?
  | [], _ => rfl
  | v :: vs, h => by
    unfold wipe
    simp only [List.mem_cons, not_or] at h
    rw [List.getElem?_set_ne (Ne.symm h.1)]
    exact wipe_out h.2
theorem wipeS_len (σ : Sl) : ∀ vs : List Nat, (wipeS σ vs).length = σ.length
  | [] => rfl
  | v :: vs => by unfold wipeS; rw [List.length_set, wipeS_len σ vs]
theorem mem_owWipe {ow : Nat → List Addr} {vs : List Nat} {j : Nat} {a : Addr} (h : a ∈ owWipe ow vs j) : j ∉ vs ∧ a ∈ ow j := by
  unfold owWipe at h
  split at h
  · cases h
  · exact ⟨by assumption, h⟩
theorem RpS.wiped {H : Hp} {Av : Addr → Prop} {ow : Nat → List Addr} {σ : Sl} {σV : St} (r : RpS P w A0 H Av ow σ σV) (vs : List Nat) : RpS P w A0 H Av (owWipe ow vs) (wipeS σ vs) (wipe σV vs) := by
  refine ⟨fun i sl e => ?_, fun i h => ?_, fun i j a h1 h2 => r.dj i j a (mem_owWipe h1).2 (mem_owWipe h2).2, fun i a h => r.av i a (mem_owWipe h).2, r.dom, by rw [wipeS_len, wipe_length]; exact r.len⟩
  · obtain ⟨e1, n1⟩ := wipeS_some e
    obtain ⟨v, hv, q⟩ := r.slot i sl e1
    exact ⟨v, by rw [wipe_out n1]; exact hv, by unfold owWipe; rw [if_neg n1]; exact q⟩
  · unfold owWipe
    by_cases hi : i ∈ vs
    · rw [if_pos hi]
    · rw [if_neg hi]
      exact r.off i fun sl => by rw [← wipeS_out hi]; exact h sl
theorem RpS.unwiped {H : Hp} {Av : Addr → Prop} {ow : Nat → List Addr} {σ : Sl} {σV : St} {vs : List Nat} (r : RpS P w A0 H Av ow σ (wipe σV vs)) : RpS P w A0 H Av ow σ σV :=
  ⟨fun i sl e => let ⟨v, hv, q⟩ := r.slot i sl e; ⟨v, (wipe_some hv).1, q⟩, r.off, r.dj, r.av, r.dom, by rw [← wipe_length σV vs]; exact r.len⟩
theorem ow_wipe {ow : Nat → List Addr} {vs : List Nat} : ∀ a, Ow (owWipe ow vs) a → Ow ow a := fun a ⟨j, h⟩ => ⟨j, (mem_owWipe h).2⟩
theorem Stp.owLess {H H' : Hp} {Av Av' O : Addr → Prop} {O' O'' : Addr → Prop} (s : Stp H Av O H' Av' O') (k : ∀ a, O'' a → O' a) : Stp H Av O H' Av' O'' := ⟨s.fm, s.dm, s.ak, s.an, fun a h => s.on a (k a h)⟩
/-- a cell that is no slot's, and new since H, is changed -/
theorem Stp.cell {H H' : Hp} {Av Av' O O' : Addr → Prop} {D : Addr} {o : HO} (s : Stp H Av O H' Av' O') (hD : H D = none) : Stp H Av O (upd H' D o) Av' O' := by
  have ne : ∀ a u, H a = some u → a ≠ D := fun a u h e => by rw [e, hD] at h; cases h
  refine ⟨fun a u h n => by rw [upd_ne (ne a u h)]; exact s.fm a u h n, fun a u h => ?_, s.ak, s.an, s.on⟩
  obtain ⟨u', h'⟩ := s.dm a u h
  exact ⟨u', by rw [upd_ne (ne a u h)]; exact h'⟩
theorem RpS.cell {H : Hp} {Av : Addr → Prop} {ow : Nat → List Addr} {σ : Sl} {σV : St} {D : Addr} {u o : HO} (r : RpS P w A0 H Av ow σ σV) (hD : H D = some u) (ha : Av D) (hn : ¬ Ow ow D) : RpS P w A0 (upd H D o) Av ow σ σV := by
  refine r.move (O1 := fun a => a = D) (O2 := fun a => a = D) ⟨fun a v h n => by rw [upd_ne n]; exact h, fun a v h => ?_, fun a h _ => h, fun a h => .inl h, fun a h => .inl h⟩ (fun a e => e ▸ ha) (fun i a h e => hn ⟨i, e ▸ h⟩) fun a h => ?_
  · by_cases e : a = D
    · exact ⟨o, by rw [e]; exact upd_same⟩
    · exact ⟨v, by rw [upd_ne e]; exact h⟩
  · by_cases e : a = D
    · exact ⟨o, by rw [e]; exact upd_same⟩
    · obtain ⟨v, hv⟩ := r.dom a h
      exact ⟨v, by rw [upd_ne e]; exact hv⟩
theorem Rp.cell {H : Hp} {Av : Addr → Prop} {D : Addr} {o : HO} {d : DL.D} {v : V} (r : Rp H Av d v) (ha : Av D) : Rp (upd H D o) Av d v := by
  refine r.step (O := fun a => a = D) (O1 := fun a => a = D) ⟨fun a v h n => by rw [upd_ne n]; exact h, fun a v h => ?_, fun a h _ => h, fun a h => .inl h, fun a h => .inl h⟩ (fun a e => e ▸ ha)
  by_cases e : a = D
  · exact ⟨o, by rw [e]; exact upd_same⟩
  · exact ⟨v, by rw [upd_ne e]; exact h⟩
theorem Rps.cell {H : Hp} {Av : Addr → Prop} {D : Addr} {o : HO} : ∀ {ds : List DL.D} {vs : List V}, Rps H Av ds vs → Av D → Rps (upd H D o) Av ds vs
  | _, _, .nil, _ => .nil
  | _, _, .cons r t, ha => .cons (r.cell ha) (Rps.cell t ha)
theorem wipe_set {σ : St} {i : Nat} {x : Option V} : ∀ {vs : List Nat}, i ∈ vs → wipe (σ.set i x) vs = wipe σ vs
  | [], h => by cases h
  | v :: vs, h => by
    unfold wipe
    by_cases hi : i ∈ vs
    · rw [wipe_set hi]
    · have e : i = v := by rcases List.mem_cons.mp h with e | h; exact e; exact absurd h hi
      subst e
      have out : ∀ {us : List Nat}, i ∉ us → wipe (σ.set i x) us = (wipe σ us).set i x := by
        intro us
        induction us with
        | nil => intro _; rfl
        | cons u us ih =>
          intro hu
          simp only [List.mem_cons, not_or] at hu
          unfold wipe
          rw [ih hu.2, List.set_comm _ _ hu.1]
      rw [out hi, List.set_set]
theorem wipe_setV : ∀ {is : List Nat} {us : List V} {σ : St} {vs : List Nat}, (∀ i ∈ is, i ∈ vs) → wipe (setV is us σ) vs = wipe σ vs
  | [], _, _, _, _ => rfl
  | _ :: _, [], _, _, _ => rfl
  | i :: is, u :: us, σ, vs, h => by
    unfold setV
    rw [wipe_setV fun j hj => h j (List.mem_cons_of_mem _ hj), wipe_set (h i List.mem_cons_self)]
theorem wipe_wipe (σ : St) (vs : List Nat) : wipe (wipe σ vs) vs = wipe σ vs := by
  have gen : ∀ us : List Nat, (∀ u ∈ us, u ∈ vs) → wipe (wipe σ us) vs = wipe σ vs := by
    intro us
    induction us with
    | nil => intro _; rfl
    | cons u us ih =>
      intro h
      show wipe ((wipe σ us).set u none) vs = _
      rw [wipe_set (h u List.mem_cons_self), ih fun v hv => h v (List.mem_cons_of_mem _ hv)]
  exact gen vs fun _ h => h
end

section
variable {X : Cx} {cl : Nat → Addr} {A0 : AK} {W : WX}

theorem ds_raise {st : Stmt} {c : Nat} (h : PS X st (fun _ σ H => W (.ref (cl c)) none σ H)) : DS X cl A0 W st (sRaise c) := by
  refine psImp h fun D σV H z => ?_
  obtain ⟨σ, Av, ow, rs, g⟩ := z
  exact g σV H Av ow rfl rs Stp.refl
theorem ds_while (n : Nat) {c : Expr} {body : List Stmt} {tc : M Bool} {fb : M Flow} {pos : Pos} (hp : PassesOwn (model X.prog X.w) X.A X.env X.xe) (hc : DT X cl A0 W c tc) (hb : DSs X cl A0 W body fb) : DS X cl A0 W (.While c body [] pos) (sWhile tc fb n) := by
  refine psImp (ps_while hp hc hb) fun D σV H z => ?_
  obtain ⟨σ, Av, ow, rs, g⟩ := z
  refine ⟨fun m σV' H' => ∃ σ' Av' ow', RpS X.prog X.w A0 H' Av' ow' σ' σV' ∧ Stp H Av (Ow ow) H' Av' (Ow ow') ∧ σV'.length = σV.length ∧ oS X.prog X.w cl A0 W σV.length D H Av ow (sWhile tc fb m σ'), ⟨n, σ, Av, ow, rs, Stp.refl, rfl, g⟩, ?_⟩
  rintro m σV' H' ⟨σ', Av', ow', rs', s', hl, g'⟩
  cases m with
  | zero => exact g'.elim
  | succ m =>
    refine ⟨σ', Av', ow', rs', ?_⟩
    simp only [sWhile] at g'
    cases hc : tc σ' with
    | fail => rw [hc] at g'; exact g'.elim
    | exn k σ1 =>
      rw [hc] at g'
      exact fun H1 Av1 ow1 rs1 s1 => g' σV' H1 Av1 ow1 hl rs1 (s'.trans rs.dom s1)
    | ok b σ1 =>
      rw [hc] at g'
      intro b' H1 Av1 ow1 rs1 s1 eb
      cases (show b = b' from eb)
      have s01 := s'.trans rs.dom s1
      cases b with
      | false => rw [if_neg Bool.false_ne_true]; exact g' σV' H1 Av1 ow1 hl rs1 s01
      | true =>
        rw [if_pos rfl]
        refine ⟨fun σV2 H2 => ∃ σ2 Av2 ow2, RpS X.prog X.w A0 H2 Av2 ow2 σ2 σV2 ∧ Stp H Av (Ow ow) H2 Av2 (Ow ow2) ∧ σV2.length = σV.length ∧ oS X.prog X.w cl A0 W σV.length D H Av ow (sWhile tc fb m σ2), fun σV2 H2 h => ⟨m, Nat.lt_succ_self m, h⟩, ?_⟩
        refine ⟨σ1, Av1, ow1, rs1, ?_⟩
        cases hfb : fb σ1 with
        | fail => simp only [hfb] at g'; exact g'.elim
        | exn c σ3 =>
          simp only [hfb] at g'
          exact fun σV3 H3 Av3 ow3 h3 rs3 s3 => g' σV3 H3 Av3 ow3 (h3.trans hl) rs3 (s01.trans rs.dom s3)
        | ok fl σ3 =>
          simp only [hfb] at g'
          cases fl with
          | next => exact fun σV3 H3 Av3 ow3 h3 rs3 s3 => ⟨σ3, Av3, ow3, rs3, s01.trans rs.dom s3, h3.trans hl, g'⟩
          | cont => exact fun σV3 H3 Av3 ow3 h3 rs3 s3 => ⟨σ3, Av3, ow3, rs3, s01.trans rs.dom s3, h3.trans hl, g'⟩
          | brk => exact fun σV3 H3 Av3 ow3 h3 rs3 s3 => g' σV3 H3 Av3 ow3 (h3.trans hl) rs3 (s01.trans rs.dom s3)
          | ret r => exact fun σV3 H3 Av3 ow3 h3 rs3 s3 v rv => g' σV3 H3 Av3 ow3 (h3.trans hl) rs3 (s01.trans rs.dom s3) v (rv.early fun b hb => s01.none_of hb)

/-! ### comprehensions -/
abbrev W0 : WX := fun _ _ _ _ => False
theorem rd_comp {P : Program} {w : World} {K : PySem.W.Frag} {vs : List Nat} {t : Tg} {fi : M (List D)} {ft : M Bool} {fe : M R} {σV : St} {H : Hp} {Q : VK} (hv : ∀ i ∈ t.ix, i ∈ vs) (ht : ∀ i ∈ t.ix, i < σV.length)
    (z : rdE P w cl A0 W (eComp vs t fi ft fe) σV H Q) : tLc (rdG P w cl A0 W RlIt fi) (gTg K t) (rdT P w cl A0 W0 ft) (rdE P w cl A0 W0 fe) vs σV H Q := by
  obtain ⟨σ, Av, ow, rs, g⟩ := z
  refine gBind rs.dom rs Stp.refl g fun ds σ1 J H1 Av1 ow1 rs1 _ s1 q1 g1 => ?_
  intro D hD
  have hD0 : H D = none := s1.none_of hD
  have ne0 : ∀ a, Av a → a ≠ D := fun a h e => by obtain ⟨o, q⟩ := rs.dom a h; rw [e, hD0] at q; cases q
  have nO : ¬ Ow ow1 D := fun ⟨i, h⟩ => by obtain ⟨o, q⟩ := rs1.dom D (rs1.av i D h); rw [hD] at q; cases q
  refine ⟨fun i m H' => ∃ σ' Av' ow' acc vacc, RpS P w A0 H' Av' ow' σ' (wipe σV vs) ∧ Stp H Av (Ow ow) H' Av' (Ow ow') ∧ Stp H1 Av1 (Ow ow1) H' Av' (Ow ow') ∧ H' D = some (.lst vacc) ∧ Rps H' Av' acc vacc ∧ Av' D ∧ ¬ Ow ow' D ∧ m = ds.length - i ∧ i ≤ ds.length ∧
    oG P w cl A0 W (RpR P w) σV H Av ow Q (mbind (goComp vs t ft fe (ds.drop i) acc) (fun xs => mok (.own (.lst xs))) σ'),
    ⟨ds.length, wipeS σ1 vs, fun a => Av1 a ∨ a = D, owWipe ow1 vs, [], [], ?_, ?_, ?_, upd_same, .nil, .inr rfl, fun h => nO (ow_wipe _ h), by simp, Nat.zero_le _, by simpa using g1⟩, ?_⟩
  · exact (rs1.shun hD (upd_new hD) upd_same).wiped vs
  · exact (s1.trans rs.dom (stp_shun hD (upd_new hD))).owLess ow_wipe
  · exact (stp_shun hD (upd_new hD)).owLess ow_wipe
  · rintro i m H' ⟨σ', Av', ow', acc, vacc, rs', s', t', hc, ra, aD, nD, rfl, hle, g'⟩
    have it := q1 H' Av' (Ow ow') t' rs'.dom i
    by_cases hlt : i < ds.length
    · have hd : ds[i]? = some ds[i] := by simp [hlt]
      obtain ⟨go, yld⟩ := it.1 _ hd
      refine .inr ⟨go, fun H2 => ∃ σ2 Av2 ow2 acc2 vacc2, RpS P w A0 H2 Av2 ow2 σ2 (wipe σV vs) ∧ Stp H Av (Ow ow) H2 Av2 (Ow ow2) ∧ Stp H1 Av1 (Ow ow1) H2 Av2 (Ow ow2) ∧ H2 D = some (.lst vacc2) ∧ Rps H2 Av2 acc2 vacc2 ∧ Av2 D ∧ ¬ Ow ow2 D ∧
        oG P w cl A0 W (RpR P w) σV H Av ow Q (mbind (goComp vs t ft fe (ds.drop (i + 1)) acc2) (fun xs => mok (.own (.lst xs))) σ2), ?_, ?_⟩
      · rintro H2 ⟨σ2, Av2, ow2, acc2, vacc2, a1, a2, a3, a4, a5, a6, a7, a8⟩
        exact ⟨ds.length - (i + 1), by omega, σ2, Av2, ow2, acc2, vacc2, a1, a2, a3, a4, a5, a6, a7, rfl, hlt, a8⟩
      · intro x Hn hy
        obtain ⟨sm, rx⟩ := yld x Hn hy
        rw [List.drop_eq_getElem_cons hlt] at g'
        have rsn := rs'.same sm
        have sn := s'.trans rs.dom (Same.stp (Av := Av') (O := Ow ow') sm)
        have tn := t'.trans rs1.dom (Same.stp (Av := Av') (O := Ow ow') sm)
        unfold mbind at g'
        simp only [goComp] at g'
        cases hbt : bindT t ds[i] σ' with
        | none => simp only [hbt] at g'; exact g'.elim
        | some σ2 =>
          simp only [hbt] at g'
          obtain ⟨ow2, σV2, rs2, s2, ko, ⟨us, eu⟩, k⟩ := bindT_ok (K := K) rsn sn (fun j hj => by rw [rsn.len, wipe_length]; exact ht j hj) rx hbt
          have t2 : Stp H1 Av1 (Ow ow1) Hn Av' (Ow ow2) := tn.owLess ko
          have ew : wipe σV2 vs = wipe σV vs := by rw [eu, wipe_setV hv, wipe_wipe]
          have n2 : ¬ Ow ow2 D := fun h => nD (ko D h)
          have c2 : Hn D = some (.lst vacc) := sm D _ hc
          have ra2 : Rps Hn Av' acc vacc := ra.same sm
          refine k _ ⟨ew, σ2, Av', ow2, rs2, ?_⟩
          cases hft : ft σ2 with
          | fail => simp only [hft] at g'; exact g'.elim
          | exn c σ3 => simp only [hft] at g'; exact g'.elim
          | ok b σ3 =>
            simp only [hft] at g'
            intro b' H3 Av3 ow3 rs3 s23 eb
            cases (show b = b' from eb)
            have s3 := s2.trans rs.dom s23
            have t3 := t2.trans rs1.dom s23
            have c3 : H3 D = some (.lst vacc) := s23.fm D _ c2 n2
            have a3 : Av3 D := s23.ak D aD n2
            have n3 : ¬ Ow ow3 D := fun h => by
              rcases s23.on D h with q | q
              · exact n2 q
              · rw [c2] at q; cases q
            have ra3 : Rps H3 Av3 acc vacc := ra2.step s23 rs2.ho
            cases b with
            | false =>
              rw [if_neg Bool.false_ne_true]
              exact ⟨wipeS σ3 vs, Av3, owWipe ow3 vs, acc, vacc, ew ▸ rs3.wiped vs, s3.owLess ow_wipe, t3.owLess ow_wipe, c3, ra3, a3, fun h => n3 (ow_wipe _ h), g'⟩
            | true =>
              rw [if_pos rfl]
              refine ⟨σ3, Av3, ow3, rs3, ?_⟩
              unfold mbind at g'
              cases hfe : fe σ3 with
              | fail => simp only [hfe] at g'; exact g'.elim
              | exn c σ4 => simp only [hfe] at g'; exact g'.elim
              | ok r σ4 =>
                simp only [hfe] at g'
                intro y H4 Av4 ow4 rs4 s34 qr
                have s4 := s3.trans rs.dom s34
                have t4 := t3.trans rs1.dom s34
                have c4 : H4 D = some (.lst vacc) := s34.fm D _ c3 n3
                have a4 : Av4 D := s34.ak D a3 n3
                have n4 : ¬ Ow ow4 D := fun h => by
                  rcases s34.on D h with q | q
                  · exact n3 q
                  · rw [c3] at q; cases q
                have ra4 : Rps H4 Av4 acc vacc := ra3.step s34 rs3.ho
                cases hfz : frz r σ4 with
                | fail => simp only [hfz] at g'; exact g'.elim
                | exn c σ5 => exact (frz_nox hfz).elim
                | ok d σ5 =>
                  simp only [hfz] at g'
                  by_cases hz : acc.length < zLine
                  · simp only [if_pos hz] at g'
                    obtain ⟨Av5, ow5, rs5, s5, rp, kA, kO, kr⟩ := frz_ok rs.dom (fun b h => s3.none_of h) rs4 s4 qr hfz
                    have t5 : Stp H1 Av1 (Ow ow1) H4 Av5 (Ow ow5) := Stp.lessAv rs1.dom (fun b h => t3.none_of h) t4 kA kO kr
                    have a5 : Av5 D := Classical.byContradiction fun z => by
                      rcases kr D a4 z with q | q
                      · exact n4 q
                      · rw [c3] at q; cases q
                    have n5 : ¬ Ow ow5 D := fun ⟨j, h⟩ => n4 ⟨j, kO j D h⟩
                    have lz : vacc.length < sizeLine := by rw [sizeLine_eq, ← ra4.len]; exact hz
                    refine ⟨vacc, c4, lz, wipeS σ5 vs, Av5, owWipe ow5 vs, acc ++ [d], vacc ++ [y], ?_, ?_, ?_, upd_same, ?_, a5, fun h => n5 (ow_wipe _ h), g'⟩
                    · rw [← ew]; exact (rs5.cell c4 a5 n5).wiped vs
                    · exact (s5.owLess ow_wipe).cell hD0
                    · exact (t5.owLess ow_wipe).cell hD
                    · exact Rps.cell ((ra4.less kA).append (.one rp)) a5
                  · simp only [if_neg hz] at g'; exact g'.elim
    · have e : i = ds.length := by omega
      subst e
      rw [List.drop_length] at g'
      refine .inl ⟨it.2 (Nat.le_refl _), ?_⟩
      refine g' (.ref D) H' Av' ow' rs'.unwiped s' ⟨D, [D], rfl, .lst hc ra, fun b hb => ?_⟩
      obtain rfl : b = D := by simpa using hb
      exact ⟨aD, nD, hD0⟩
end
end DL

/-! DLcall: comprehensions as rules; defs and calls. -/
namespace DL
open PySem L2

theorem peImpN {X : Cx} {e : Expr} {t t' : TE} (h : PE X e t) (k : ∀ σ H Q, σ.length = X.N.length → t' σ H Q → t σ H Q) : PE X e t' := ⟨fun pins s σ H Q I z => h.run pins s σ H Q I (k σ H Q I.len z)⟩
theorem ptsImp {X : Cx} {es : List Expr} {t t' : TT} (h : PTs X es t) (k : ∀ σ H Q, t' σ H Q → t σ H Q) : PTs X es t' := ⟨fun pins s σ H Q I z => h.run pins s σ H Q I (k σ H Q z)⟩
section
variable {X : Cx} {cl : Nat → Addr} {A0 : AK} {W : WX}
def DTs (X : Cx) (cl : Nat → Addr) (A0 : AK) (W : WX) (es : List Expr) (f : M Bool) : Prop := PTs X es (rdT X.prog X.w cl A0 W f)
theorem dts_nil : DTs X cl A0 W [] (mok true) := by
  refine ptsImp pts_nil fun σV H Q z => ?_
  obtain ⟨σ, Av, ow, rs, g⟩ := z
  exact g true H Av ow rs Stp.refl rfl
theorem dts_one {c : Expr} {t : M Bool} (h : DT X cl A0 W c t) : DTs X cl A0 W [c] t := pts_one h
theorem de_comp {elt tg iter : Expr} {ifs : List Expr} {scope : Scope} {own : List (Str × Nat)} {pos : Pos} {t : Tg} {fi : M (List D)} {ft : M Bool} {fe : M R} (hc : X.calm = true) (hN : X.N.Nodup) (hi : DI X cl A0 W tg iter fi) (ok : BlkOk X.N X.env.scope scope own)
    (hg : ∀ (s : Shared) (H : Hp) (C : Addr) (c : List (Str × Addr)) (fp : List Addr), DG (X.blk s H scope (compEnvC scope c C X.env) fp) tg t) (ht : ∀ (s : Shared) (H : Hp) (C : Addr) (c : List (Str × Addr)) (fp : List Addr), DTs (X.blk s H scope (compEnvC scope c C X.env) fp) cl A0 W0 ifs ft)
    (he : ∀ (s : Shared) (H : Hp) (C : Addr) (c : List (Str × Addr)) (fp : List Addr), DE (X.blk s H scope (compEnvC scope c C X.env) fp) cl A0 W0 elt fe) (hv : ∀ i ∈ t.ix, i ∈ own.map (·.2) := by decide) (hx : (t.ix.all fun i => decide (i < X.N.length)) = true := by rfl) (hs : ∀ x, foldedSetIterable iter X.env x = pure x := by intro _; rfl) :
    DE X cl A0 W (.ListComp elt [⟨tg, iter, ifs, 0⟩] scope pos) (eComp (own.map (·.2)) t fi ft fe) :=
  peImpN (pe_lc (g := gTg X.K t) (tt := rdT X.prog X.w cl A0 W0 ft) (te := rdE X.prog X.w cl A0 W0 fe) hc hN hi ok (fun s H C c fp => (hg s H C c fp).1) ht he hs) fun σV H Q l z => rd_comp hv (fun i h => by rw [l]; exact of_decide_eq_true (List.all_eq_true.mp hx i h)) z
theorem ds_setcomp {i : Nat} {y : Str} {py : Pos} {elt tg iter : Expr} {ifs : List Expr} {scope : Scope} {own : List (Str × Nat)} {pos spos : Pos} {t : Tg} {fi : M (List D)} {ft : M Bool} {fe : M R} (hc : X.calm = true) (hN : X.N.Nodup) (hy : X.N[i]? = some y) (hyl : X.env.scope.names.lookup y = some .local)
    (hsw : swapsWith (.ListComp elt [⟨tg, iter, ifs, 0⟩] scope pos) (some (.Name y py)) spos.line X.env = pure true) (hi : DI X cl A0 W tg iter fi) (ok : BlkOk X.N X.env.scope scope own)
    (hg : ∀ (s : Shared) (H : Hp) (C : Addr) (c : List (Str × Addr)) (fp : List Addr), DG (X.blk s H scope (compEnvC scope c C X.env) fp) tg t) (ht : ∀ (s : Shared) (H : Hp) (C : Addr) (c : List (Str × Addr)) (fp : List Addr), DTs (X.blk s H scope (compEnvC scope c C X.env) fp) cl A0 W0 ifs ft)
    (he : ∀ (s : Shared) (H : Hp) (C : Addr) (c : List (Str × Addr)) (fp : List Addr), DE (X.blk s H scope (compEnvC scope c C X.env) fp) cl A0 W0 elt fe) (hv : ∀ i ∈ t.ix, i ∈ own.map (·.2) := by decide) (hx : (t.ix.all fun i => decide (i < X.N.length)) = true := by rfl) (hs : ∀ x, foldedSetIterable iter X.env x = pure x := by intro _; rfl) :
    DS X cl A0 W (.Assign [.Name y py] (.ListComp elt [⟨tg, iter, ifs, 0⟩] scope pos) spos) (sPut i (eComp (own.map (·.2)) t fi ft fe)) :=
  psImpN (ps_setLc (g := gTg X.K t) (tt := rdT X.prog X.w cl A0 W0 ft) (te := rdE X.prog X.w cl A0 W0 fe) hc hN hy hyl hsw hi ok (fun s H C c fp => (hg s H C c fp).1) ht he hs) fun D σV H l z =>
    rd_comp hv (fun i h => by rw [l]; exact of_decide_eq_true (List.all_eq_true.mp hx i h)) (rd_put (by rw [l]; exact (List.getElem?_eq_some_iff.mp hy).1) z)
end

/-! ### a def's promise -/
section
variable (P : Program) (w : World) (cl : Nat → Addr) (K : PySem.W.Frag)
def oF (vs : List V) (H : Hp) (Av : Addr → Prop) (ow : Nat → List Addr) (Q : VK) (E : XK) : OutF → Prop
  | .ok r as => ∀ v H' Av' ow', RpS P w ⟨[], K⟩ H' Av' ow' (as.map some) (vs.map some) → Stp H Av (Ow ow) H' Av' (Ow ow') → RpR P w [] H H' Av' ow' r v → Q v H'
  | .exn c as => ∀ H' Av' ow', RpS P w ⟨[], K⟩ H' Av' ow' (as.map some) (vs.map some) → Stp H Av (Ow ow) H' Av' (Ow ow') → E (.ref (cl c)) none H'
  | .fail => False
def spD (n : Nat) (F : Fn) : Sp := fun vs H Q E => vs.length = n ∧ ∃ args Av ow, RpS P w ⟨[], K⟩ H Av ow (args.map some) (vs.map some) ∧ oF P w cl K vs H Av ow Q E (F args)
end
section
variable {P : Program} {w : World} {cl : Nat → Addr} {K : PySem.W.Frag}
theorem map_some_get {α : Type} {l : List α} {i : Nat} {x : α} : (l.map some)[i]? = some (some x) ↔ l[i]? = some x := by
  rw [List.getElem?_map]
  cases l[i]? <;> simp
theorem startF_get {n : Nat} {args : List S} {i : Nat} {s : S} (h : (startF n args)[i]? = some (some s)) : ∃ s0, args[i]? = some s0 ∧ s = toArg i s0 := by
  unfold startF at h
  by_cases hi : i < args.length
  · rw [List.getElem?_append_left (by simpa using hi), List.getElem?_mapIdx] at h
    cases e : args[i]? with
    | none => rw [e] at h; cases h
    | some s0 => rw [e] at h; cases h; exact ⟨s0, rfl, rfl⟩
  · rw [List.getElem?_append_right (by simpa using hi), List.getElem?_replicate] at h
    split at h <;> cases h
theorem startF_ok {n : Nat} {N : List Str} {args : List S} {vs : List V} {H : Hp} {Av : Addr → Prop} {ow : Nat → List Addr} (r : RpS P w ⟨[], K⟩ H Av ow (args.map some) (vs.map some)) (hn : n = N.length) (hl : vs.length ≤ N.length) : RpS P w ⟨vs, K⟩ H Av ow (startF n args) (L2.start N vs) := by
  have la : args.length = vs.length := by simpa using r.len
  refine ⟨fun i s e => ?_, fun i h => ?_, r.dj, r.av, r.dom, ?_⟩
  · obtain ⟨s0, e0, rfl⟩ := startF_get e
    obtain ⟨v, hv, q⟩ := r.slot i s0 (map_some_get.mpr e0)
    have hv' := map_some_get.mp hv
    have hi : i < vs.length := (List.getElem?_eq_some_iff.mp hv').1
    refine ⟨v, ?_, ?_⟩
    · unfold L2.start
      rw [List.getElem?_append_left (by simpa using hi)]
      exact map_some_get.mpr hv'
    · cases q with
      | pure e q => exact .pure e q
      | fdc e q => exact .fdc e q
      | scr e q => exact .scr e q
      | exo e q n => exact .exo e q n
      | mob o t => exact .mob o fun k hk => by cases hk; exact hv'
  · refine r.off i fun s hs => ?_
    have e0 := map_some_get.mp hs
    have hi : i < args.length := (List.getElem?_eq_some_iff.mp e0).1
    refine h (toArg i s) ?_
    unfold startF
    rw [List.getElem?_append_left (by simpa using hi), List.getElem?_mapIdx, e0]
    rfl
  · unfold startF L2.start
    simp
    omega
theorem backF_get {σ : Sl} : ∀ {args as : List S} {k : Nat}, backF σ k args = some as → as.length = args.length ∧ ∀ (j : Nat) s', as[j]? = some s' → ∃ s, args[j]? = some s ∧ backArg σ (k + j) s = some s'
  | [], as, k, h => by cases h; exact ⟨rfl, fun j s' e => by simp at e⟩
  | s :: r, as, k, h => by
    unfold backF at h
    cases h1 : backArg σ k s with
    | none => rw [h1] at h; cases h
    | some x =>
      cases h2 : backF σ (k + 1) r with
      | none => rw [h1, h2] at h; cases h
      | some xs =>
        rw [h1, h2] at h
        cases h
        obtain ⟨l, g⟩ := backF_get h2
        refine ⟨by simp [l], fun j s' e => ?_⟩
        cases j with
        | zero => simp at e; subst e; exact ⟨s, rfl, by simpa using h1⟩
        | succ j =>
          obtain ⟨s0, e0, b0⟩ := g j s' (by simpa using e)
          exact ⟨s0, by simpa using e0, by rw [show k + (j + 1) = k + 1 + j by omega]; exact b0⟩
def owBack (args : List S) (ow : Nat → List Addr) : Nat → List Addr := fun k => match args[k]? with
  | some (.mob _ _) => ow k
  | _ => []
theorem mem_owBack {args : List S} {ow : Nat → List Addr} {k : Nat} {a : Addr} (h : a ∈ owBack args ow k) : (∃ t ob, args[k]? = some (.mob t ob)) ∧ a ∈ ow k := by
  unfold owBack at h
  split at h
  · rename_i t ob e; exact ⟨⟨t, ob, e⟩, h⟩
  · cases h
theorem back_ok {args as : List S} {vs : List V} {σ : Sl} {σV : St} {H H' : Hp} {Av Av' : Addr → Prop} {ow ow' : Nat → List Addr} (r0 : RpS P w ⟨[], K⟩ H Av ow (args.map some) (vs.map some)) (r : RpS P w ⟨vs, K⟩ H' Av' ow' σ σV) (s : Stp H Av (Ow ow) H' Av' (Ow ow')) (e : backF σ 0 args = some as) :
    RpS P w ⟨[], K⟩ H' Av' (owBack args ow') (as.map some) (vs.map some) := by
  obtain ⟨l, g⟩ := backF_get e
  refine ⟨fun k s' h => ?_, fun k h => ?_, fun i j a h1 h2 => r.dj i j a (mem_owBack h1).2 (mem_owBack h2).2, fun i a h => r.av i a (mem_owBack h).2, r.dom, by have := r0.len; simp at this ⊢; omega⟩
  · obtain ⟨s0, e0, b0⟩ := g k s' (map_some_get.mp h)
    rw [Nat.zero_add] at b0
    obtain ⟨v, hv, q⟩ := r0.slot k s0 (map_some_get.mpr e0)
    cases q with
    | pure e1 q =>
      cases b0
      exact ⟨v, hv, .pure (by unfold owBack; rw [e0]) (q.step s r0.ho)⟩
    | fdc e1 q =>
      cases b0
      exact ⟨v, hv, .fdc (by unfold owBack; rw [e0]) (q.step s r0.ho)⟩
    | scr e1 q =>
      cases b0
      exact ⟨_, hv, .scr (by unfold owBack; rw [e0]) (q.step s r0.ho)⟩
    | exo e1 q n =>
      cases b0
      exact ⟨_, hv, .exo (by unfold owBack; rw [e0]) (s.rd q fun z => n (r0.ho _ z)) (s.nav n (rd_some q))⟩
    | @mob tg ob a _ o t =>
      unfold backArg at b0
      cases hs : σ[k]? with
      | none => simp only [hs] at b0; cases b0
      | some os =>
        cases os with
        | none => simp only [hs] at b0; cases b0
        | some sl =>
          cases sl with
          | mob tg2 ob2 =>
            cases tg2 with
            | none => simp only [hs] at b0; cases b0
            | some j =>
              simp only [hs] at b0
              split at b0
              · rename_i ej
                cases b0
                subst ej
                obtain ⟨v2, hv2, q2⟩ := r.slot _ _ hs
                cases q2 with
                | @mob _ _ a2 _ o2 t2 =>
                  have z := t2 _ rfl
                  rw [map_some_get.mp hv] at z
                  cases z
                  exact ⟨_, hv, .mob (by unfold owBack; rw [e0]; exact o2) fun k hk => nomatch hk⟩
              · cases b0
          | pure d => simp only [hs] at b0; cases b0
          | fdc d => simp only [hs] at b0; cases b0
          | scr d => simp only [hs] at b0; cases b0
          | exo d => simp only [hs] at b0; cases b0
  · unfold owBack
    cases hk : args[k]? with
    | none => rfl
    | some s0 =>
      exfalso
      have hi : k < as.length := by rw [l]; exact (List.getElem?_eq_some_iff.mp hk).1
      exact h as[k] (map_some_get.mpr (by simp [hi]))
theorem RpO.single {H : Hp} {Av : Addr → Prop} {ob : Ob} {a : Addr} {l : List Addr} (r : RpO P w H Av ob a l) : l = [a] := by cases r <;> rfl
/-- a def's body keeps the promise -/
theorem fn_body {n : Nat} {N : List Str} {fb : M Flow} {vs : List V} {H : Hp} {Q : VK} {E : XK} (hN : n = N.length) (hp : vs.length ≤ N.length) (z : ∃ args Av ow, RpS P w ⟨[], K⟩ H Av ow (args.map some) (vs.map some) ∧ oF P w cl K vs H Av ow Q E (runF n fb args)) :
    rdS P w cl ⟨vs, K⟩ (fun cls d _ H => E cls d H) fb { nx := fun _ H' => Q .non H', rt := Q } (L2.start N vs) H := by
  obtain ⟨args, Av, ow, r, g⟩ := z
  refine ⟨startF n args, Av, ow, startF_ok r hN hp, ?_⟩
  unfold runF at g
  have keep : ∀ {ow' : Nat → List Addr} {Av' : Addr → Prop} {H' : Hp}, Stp H Av (Ow ow) H' Av' (Ow ow') → Stp H Av (Ow ow) H' Av' (Ow (owBack args ow')) := fun s => s.owLess fun a ⟨k, h⟩ => ⟨k, (mem_owBack h).2⟩
  cases hb : fb (startF n args) with
  | fail => rw [hb] at g; exact g.elim
  | exn c σ =>
    simp only [hb] at g
    cases hbk : backF σ 0 args with
    | none => simp only [hbk] at g; exact g.elim
    | some as =>
      simp only [hbk] at g
      exact fun σV' H' Av' ow' _ rs s => g H' Av' _ (back_ok r rs s hbk) (keep s)
  | ok fl σ =>
    cases fl with
    | brk => simp only [hb] at g; exact g.elim
    | cont => simp only [hb] at g; exact g.elim
    | next =>
      simp only [hb] at g
      cases hbk : backF σ 0 args with
      | none => simp only [hbk] at g; exact g.elim
      | some as =>
        simp only [hbk] at g
        exact fun σV' H' Av' ow' _ rs s => g .non H' Av' _ (back_ok r rs s hbk) (keep s) .non
    | ret rr =>
      simp only [hb] at g
      cases hlv : leaveR σ rr with
      | none => simp only [hlv] at g; exact g.elim
      | some z =>
        cases hbk : backF σ 0 args with
        | none => simp only [hlv, hbk] at g; exact g.elim
        | some as =>
          simp only [hlv, hbk] at g
          intro σV' H' Av' ow' _ rs s v rv
          refine g v H' Av' _ (back_ok r rs s hbk) (keep s) ?_
          have own : ∀ {ob : Ob}, RpR P w σV' H H' Av' ow' (.own ob) v → RpR P w [] H H' Av' (owBack args ow') (.own ob) v := fun ⟨a, l, e, o, k⟩ =>
            ⟨a, l, e, o, fun b hb => ⟨(k b hb).1, fun ⟨j, h⟩ => (k b hb).2.1 ⟨j, (mem_owBack h).2⟩, (k b hb).2.2⟩⟩
          cases rr with
          | pure d => cases hlv; exact rv
          | fdc d => cases hlv; exact rv
          | own ob => cases hlv; exact own rv
          | bor i =>
            have rv : σV'[i]? = some (some v) := rv
            unfold leaveR at hlv
            cases hs : σ[i]? with
            | none => simp only [hs] at hlv; cases hlv
            | some os =>
              cases os with
              | none => simp only [hs] at hlv; cases hlv
              | some sl =>
                obtain ⟨v2, hv2, q2⟩ := rs.slot i sl hs
                rw [rv] at hv2; cases hv2
                cases q2 with
                | pure e q => simp only [hs] at hlv; cases hlv; exact q
                | fdc e q => simp only [hs] at hlv; cases hlv; exact q
                | scr e q => simp only [hs] at hlv; cases hlv
                | exo e q n => simp only [hs] at hlv; cases hlv
                | @mob tg ob a _ o t =>
                  cases tg with
                  | some k => simp only [hs] at hlv; cases hlv
                  | none =>
                    simp only [hs] at hlv
                    cases hlv
                    have notP : ∀ j t0 ob0, args[j]? = some (.mob t0 ob0) → j ≠ i ∧ ∃ ob2 a2, σ[j]? = some (some (.mob (some j) ob2)) ∧ vs[j]? = some (.ref a2) ∧ RpO P w H' Av' ob2 a2 (ow' j) := by
                      intro j t0 ob0 hj
                      obtain ⟨la, ga⟩ := backF_get hbk
                      have hi : j < as.length := by rw [la]; exact (List.getElem?_eq_some_iff.mp hj).1
                      obtain ⟨s0, e0, b0⟩ := ga j as[j] (by simp [hi])
                      rw [Nat.zero_add] at b0
                      rw [hj] at e0
                      cases e0
                      unfold backArg at b0
                      cases hsj : σ[j]? with
                      | none => simp only [hsj] at b0; cases b0
                      | some os =>
                        cases os with
                        | none => simp only [hsj] at b0; cases b0
                        | some sl =>
                          cases sl with
                          | mob tg2 ob2 =>
                            cases tg2 with
                            | none => simp only [hsj] at b0; cases b0
                            | some j2 =>
                              simp only [hsj] at b0
                              split at b0
                              · rename_i ej
                                subst ej
                                obtain ⟨v3, hv3, q3⟩ := rs.slot _ _ hsj
                                cases q3 with
                                | mob o3 t3 => exact ⟨fun e => (by rw [e, hs] at hsj; cases hsj), _, _, rfl, t3 _ rfl, o3⟩
                              · cases b0
                          | pure d => simp only [hsj] at b0; cases b0
                          | fdc d => simp only [hsj] at b0; cases b0
                          | scr d => simp only [hsj] at b0; cases b0
                          | exo d => simp only [hsj] at b0; cases b0
                    refine ⟨a, ow' i, rfl, o, fun b hb => ⟨rs.av i b hb, fun ⟨j, h⟩ => ?_, ?_⟩⟩
                    · obtain ⟨⟨t0, ob0, hj⟩, m⟩ := mem_owBack h
                      exact (notP j t0 ob0 hj).1 (rs.dj j i b m hb)
                    · rcases s.on b ⟨i, hb⟩ with ⟨j, hj⟩ | q
                      · exfalso
                        -- b was the argument j's own
                        cases hsj : args[j]? with
                        | none =>
                          have := r.off j fun sl hsl => by rw [map_some_get.mp hsl] at hsj; cases hsj
                          rw [this] at hj; cases hj
                        | some s0 =>
                          obtain ⟨v4, hv4, q4⟩ := r.slot j s0 (map_some_get.mpr hsj)
                          cases q4 with
                          | pure e _ => rw [e] at hj; cases hj
                          | fdc e _ => rw [e] at hj; cases hj
                          | scr e _ => rw [e] at hj; cases hj
                          | exo e _ _ => rw [e] at hj; cases hj
                          | mob o4 t4 =>
                            obtain ⟨nji, ob2, a2, _, hvj, o2⟩ := notP j _ _ hsj
                            rw [map_some_get.mp hv4] at hvj
                            cases hvj
                            rw [o4.single] at hj
                            have hb2 : b ∈ ow' j := by rw [o2.single]; exact hj
                            exact nji (rs.dj j i b hb2 hb)
                      · exact q
end
end DL

/-! DLapp: the call of a def. -/
namespace DL
open PySem L2
section
variable (P : Program) (w : World)
def RpA (σV : St) (H : Hp) (Av : Addr → Prop) : Arg → V → Prop
  | .d d, v => Rp H Av d v
  | .f ob, v => RpF P w H Av ob v
  | .s i, v => σV[i]? = some (some v)
def RlA : Rel (List Arg) (List V) := fun σV _ H Av _ as vs => Paired (RpA P w σV H Av) as vs
end
section
variable {P : Program} {w : World}
theorem RpA.step {σV : St} {H H1 : Hp} {Av Av1 O O1 : Addr → Prop} (s : Stp H Av O H1 Av1 O1) (ho : ∀ a, O a → Av a) {a : Arg} {v : V} (r : RpA P w σV H Av a v) : RpA P w σV H1 Av1 a v := by
  cases a with
  | d d => exact Rp.step s ho r
  | f ob => exact RpF.step s ho r
  | s i => exact r
theorem Paired.get {α β : Type} {F : α → β → Prop} : ∀ {l : List α} {m : List β} {i : Nat} {a : α}, Paired F l m → l[i]? = some a → ∃ b, m[i]? = some b ∧ F a b
  | _, _, _, _, .nil, e => by simp at e
  | _, _, 0, _, .cons r _, e => by simp at e; subst e; exact ⟨_, rfl, r⟩
  | _, _, i + 1, a, .cons _ t, e => by
    obtain ⟨b, h1, h2⟩ := Paired.get (i := i) (a := a) t (by simpa using e)
    exact ⟨b, by simpa using h1, h2⟩
theorem toA_ok {A0 : AK} {σV : St} {σ1 σ2 : Sl} {H0 Hb H1 : Hp} {Av0 Av1 : Addr → Prop} {ow0 ow1 : Nat → List Addr} {m : Md} {r : R} {v : V} {a : Arg} (hd : ∀ a, Av0 a → ∃ o, H0 a = some o) (hb : ∀ b, Hb b = none → H0 b = none)
    (rs : RpS P w A0 H1 Av1 ow1 σ1 σV) (s : Stp H0 Av0 (Ow ow0) H1 Av1 (Ow ow1)) (q : RpR P w σV Hb H1 Av1 ow1 r v) (e : toA m r σ1 = .ok a σ2) :
    ∃ Av2 ow2, RpS P w A0 H1 Av2 ow2 σ2 σV ∧ Stp H0 Av0 (Ow ow0) H1 Av2 (Ow ow2) ∧ RpA P w σV H1 Av2 a v := by
  cases m with
  | val =>
    unfold toA mbind at e
    simp only at e
    cases hf : frz r σ1 with
    | fail => rw [hf] at e; cases e
    | exn c σ3 => exact (frz_nox hf).elim
    | ok d σ3 =>
      rw [hf] at e
      cases e
      obtain ⟨Av2, ow2, rs2, s2, rp, _⟩ := frz_ok hd hb rs s q hf
      exact ⟨Av2, ow2, rs2, s2, rp⟩
  | ref =>
    cases r with
    | pure d => cases e; exact ⟨Av1, ow1, rs, s, q⟩
    | fdc d => cases e; exact ⟨Av1, ow1, rs, s, q⟩
    | own d => cases e
    | bor i => cases e; exact ⟨Av1, ow1, rs, s, q⟩
theorem toA_nox {m : Md} {r : R} {σ σ' : Sl} {c : Nat} : toA m r σ ≠ .exn c σ' := by
  intro h
  cases m with
  | val =>
    unfold toA mbind at h
    simp only at h
    cases hf : frz r σ with
    | fail => rw [hf] at h; cases h
    | exn c σ3 => exact frz_nox hf
    | ok d σ3 => rw [hf] at h; cases h
  | ref => cases r <;> cases h
theorem argsS_get {σ : Sl} : ∀ {as : List Arg} {ss : List S}, argsS σ as = some ss → ss.length = as.length ∧ ∀ (k : Nat) a, as[k]? = some a → ∃ s, ss[k]? = some s ∧ argS σ a = some s
  | [], ss, h => by cases h; exact ⟨rfl, fun k a e => by simp at e⟩
  | a :: as, ss, h => by
    unfold argsS at h
    cases h1 : argS σ a with
    | none => rw [h1] at h; cases h
    | some s =>
      cases h2 : argsS σ as with
      | none => rw [h1, h2] at h; cases h
      | some ss2 =>
        rw [h1, h2] at h
        cases h
        obtain ⟨l, g⟩ := argsS_get h2
        refine ⟨by simp [l], fun k b e => ?_⟩
        cases k with
        | zero => simp at e; subst e; exact ⟨s, rfl, h1⟩
        | succ k =>
          obtain ⟨s2, e2, q2⟩ := g k b (by simpa using e)
          exact ⟨s2, by simpa using e2, q2⟩
theorem argIx_mem : ∀ {as : List Arg} {i : Nat}, i ∈ argIx as ↔ ∃ k : Nat, as[k]? = some (.s i)
  | [], i => by simp [argIx]
  | .s j :: as, i => by
    have ih := @argIx_mem as i
    simp only [argIx, List.mem_cons]
    constructor
    · rintro (e | h)
      · exact ⟨0, by simp [e]⟩
      · obtain ⟨k, hk⟩ := ih.mp h; exact ⟨k + 1, by simpa using hk⟩
    · rintro ⟨k, hk⟩
      cases k with
      | zero => simp at hk; exact .inl hk.symm
      | succ k => exact .inr (ih.mpr ⟨k, by simpa using hk⟩)
  | .d d :: as, i => by
    have ih := @argIx_mem as i
    simp only [argIx]
    rw [ih]
    constructor
    · rintro ⟨k, hk⟩; exact ⟨k + 1, by simpa using hk⟩
    · rintro ⟨k, hk⟩
      cases k with
      | zero => simp at hk
      | succ k => exact ⟨k, by simpa using hk⟩
  | .f d :: as, i => by
    have ih := @argIx_mem as i
    simp only [argIx]
    rw [ih]
    constructor
    · rintro ⟨k, hk⟩; exact ⟨k + 1, by simpa using hk⟩
    · rintro ⟨k, hk⟩
      cases k with
      | zero => simp at hk
      | succ k => exact ⟨k, by simpa using hk⟩
theorem argIx_one : ∀ {as : List Arg} {i k l : Nat}, (argIx as).Nodup → as[k]? = some (.s i) → as[l]? = some (.s i) → k = l
  | [], _, _, _, _, h, _ => by simp at h
  | .s j :: as, i, k, l, nd, h1, h2 => by
    simp only [argIx, List.nodup_cons] at nd
    cases k with
    | zero =>
      cases l with
      | zero => rfl
      | succ l =>
        simp at h1 h2
        subst h1
        exact (nd.1 (argIx_mem.mpr ⟨l, h2⟩)).elim
    | succ k =>
      cases l with
      | zero =>
        simp at h1 h2
        subst h2
        exact (nd.1 (argIx_mem.mpr ⟨k, h1⟩)).elim
      | succ l => exact congrArg (· + 1) (argIx_one nd.2 (by simpa using h1) (by simpa using h2))
  | .d d :: as, i, k, l, nd, h1, h2 => by
    cases k with
    | zero => simp at h1
    | succ k =>
      cases l with
      | zero => simp at h2
      | succ l => exact congrArg (· + 1) (argIx_one (by simpa [argIx] using nd) (by simpa using h1) (by simpa using h2))
  | .f d :: as, i, k, l, nd, h1, h2 => by
    cases k with
    | zero => simp at h1
    | succ k =>
      cases l with
      | zero => simp at h2
      | succ l => exact congrArg (· + 1) (argIx_one (by simpa [argIx] using nd) (by simpa using h1) (by simpa using h2))
/-- the slots behind the call -/
theorem giveBack_get : ∀ {as : List Arg} {ss : List S} {σ σ' : Sl}, (argIx as).Nodup → giveBack as ss σ = some σ' → σ'.length = σ.length ∧ (∀ j : Nat, (∀ k : Nat, as[k]? ≠ some (.s j)) → σ'[j]? = σ[j]?) ∧
    ∀ (k : Nat) j, as[k]? = some (.s j) → (∀ t ob, σ[j]? ≠ some (some (.mob t ob))) ∧ σ'[j]? = σ[j]? ∨ ∃ t ob t2 ob2, σ[j]? = some (some (.mob t ob)) ∧ ss[k]? = some (.mob t2 ob2) ∧ σ'[j]? = some (some (.mob t ob2))
  | [], ss, σ, σ', _, h => by
    cases ss with
    | nil => cases h; exact ⟨rfl, fun _ _ => rfl, fun k j e => by simp at e⟩
    | cons s ss => cases h
  | .d d :: as, ss, σ, σ', nd, h => by
    cases ss with
    | nil => cases h
    | cons s ss =>
      obtain ⟨l, g1, g2⟩ := giveBack_get (as := as) (by simpa [argIx] using nd) h
      refine ⟨l, fun j hj => g1 j fun k => by simpa using hj (k + 1), fun k j e => ?_⟩
      cases k with
      | zero => simp at e
      | succ k => simpa using g2 k j (by simpa using e)
  | .f d :: as, ss, σ, σ', nd, h => by
    cases ss with
    | nil => cases h
    | cons s ss =>
      obtain ⟨l, g1, g2⟩ := giveBack_get (as := as) (by simpa [argIx] using nd) h
      refine ⟨l, fun j hj => g1 j fun k => by simpa using hj (k + 1), fun k j e => ?_⟩
      cases k with
      | zero => simp at e
      | succ k => simpa using g2 k j (by simpa using e)
  | .s i :: as, ss, σ, σ', nd, h => by
    cases ss with
    | nil => cases h
    | cons s ss =>
      simp only [argIx, List.nodup_cons] at nd
      have ni : ∀ k : Nat, as[k]? ≠ some (.s i) := fun k e => nd.1 (argIx_mem.mpr ⟨k, e⟩)
      by_cases hm : ∃ t ob, σ[i]? = some (some (.mob t ob))
      · obtain ⟨t, ob, hs⟩ := hm
        unfold giveBack at h
        rw [hs] at h
        cases s with
        | mob t2 ob2 =>
          simp only at h
          obtain ⟨l, g1, g2⟩ := giveBack_get nd.2 h
          have hi : i < σ.length := (List.getElem?_eq_some_iff.mp hs).1
          refine ⟨by simpa using l, fun j hj => ?_, fun k j e => ?_⟩
          · have nji : i ≠ j := fun e => hj 0 (by simp [e])
            rw [g1 j fun k => by simpa using hj (k + 1), List.getElem?_set_ne nji]
          · cases k with
            | zero =>
              simp at e
              subst e
              exact .inr ⟨t, ob, t2, ob2, hs, rfl, by rw [g1 i ni, List.getElem?_set_self hi]⟩
            | succ k =>
              have ej : as[k]? = some (.s j) := by simpa using e
              have nji : i ≠ j := fun e2 => ni k (e2 ▸ ej)
              have q := g2 k j ej
              rw [List.getElem?_set_ne nji] at q
              simpa using q
        | pure d => simp only at h; cases h
        | fdc d => simp only at h; cases h
        | scr d => simp only at h; cases h
        | exo d => simp only at h; cases h
      · have e0 : giveBack (.s i :: as) (s :: ss) σ = giveBack as ss σ := by
          conv => lhs; unfold giveBack
          split
          · rename_i t ob hs; exact (hm ⟨t, ob, hs⟩).elim
          · rfl
        rw [e0] at h
        obtain ⟨l, g1, g2⟩ := giveBack_get nd.2 h
        refine ⟨l, fun j hj => g1 j fun k => by simpa using hj (k + 1), fun k j e => ?_⟩
        cases k with
        | zero =>
          simp at e
          subst e
          exact .inl ⟨fun t ob hs => hm ⟨t, ob, hs⟩, g1 i ni⟩
        | succ k => simpa using g2 k j (by simpa using e)
/-- what the arguments own at the call -/
def owArgs (as : List Arg) (ow : Nat → List Addr) : Nat → List Addr := fun k => match as[k]? with
  | some (.s i) => ow i
  | _ => []
theorem mem_owArgs {as : List Arg} {ow : Nat → List Addr} {k : Nat} {a : Addr} (h : a ∈ owArgs as ow k) : ∃ i, as[k]? = some (.s i) ∧ a ∈ ow i := by
  unfold owArgs at h
  split at h
  · rename_i i e; exact ⟨i, e, h⟩
  · cases h
theorem args_ok {A0 : AK} {as : List Arg} {vs : List V} {ss : List S} {σ : Sl} {σV : St} {H : Hp} {Av : Addr → Prop} {ow : Nat → List Addr} (r : RpS P w A0 H Av ow σ σV) (p : Paired (RpA P w σV H Av) as vs) (nd : (argIx as).Nodup) (e : argsS σ as = some ss) :
    RpS P w ⟨[], A0.K⟩ H Av (owArgs as ow) (ss.map some) (vs.map some) := by
  obtain ⟨l, g⟩ := argsS_get e
  have lp : as.length = vs.length := Paired.length p
  refine ⟨fun k s hs => ?_, fun k h => ?_, fun i j a h1 h2 => ?_, fun k a h => ?_, r.dom, by simp; omega⟩
  · have hk := map_some_get.mp hs
    have hlt : k < as.length := by rw [← l]; exact (List.getElem?_eq_some_iff.mp hk).1
    have ha : as[k]? = some as[k] := by simp [hlt]
    obtain ⟨s2, e2, q2⟩ := g k _ ha
    rw [hk] at e2; cases e2
    obtain ⟨v, hv, rv⟩ := Paired.get p ha
    refine ⟨v, map_some_get.mpr hv, ?_⟩
    cases hak : as[k] with
    | d d =>
      rw [hak] at q2 rv ha
      cases q2
      exact .pure (by unfold owArgs; rw [ha]) rv
    | f ob =>
      rw [hak] at q2 rv ha
      cases q2
      exact .fdc (by unfold owArgs; rw [ha]) rv
    | s i =>
      rw [hak] at q2 rv ha
      have rv : σV[i]? = some (some v) := rv
      have eo : owArgs as ow k = ow i := by unfold owArgs; rw [ha]
      rw [eo]
      unfold argS at q2
      cases hsl : σ[i]? with
      | none => simp only [hsl] at q2; cases q2
      | some os =>
        cases os with
        | none => simp only [hsl] at q2; cases q2
        | some sl =>
          obtain ⟨v2, hv2, z⟩ := r.slot i sl hsl
          rw [rv] at hv2; cases hv2
          cases z with
          | pure e q => simp only [hsl] at q2; cases q2; exact .pure e q
          | fdc e q => simp only [hsl] at q2; cases q2; exact .fdc e q
          | scr e q => simp only [hsl] at q2; cases q2; exact .scr e q
          | exo e q n => simp only [hsl] at q2; cases q2; exact .exo e q n
          | mob o t => simp only [hsl] at q2; cases q2; exact .mob o fun _ h => nomatch h
  · unfold owArgs
    cases ha : as[k]? with
    | none => rfl
    | some a =>
      exfalso
      obtain ⟨s2, e2, q2⟩ := g k a ha
      exact h s2 (map_some_get.mpr e2)
  · obtain ⟨i1, e1, m1⟩ := mem_owArgs h1
    obtain ⟨i2, e2, m2⟩ := mem_owArgs h2
    have := r.dj i1 i2 a m1 m2
    subst this
    exact argIx_one nd e1 e2
  · obtain ⟨i, _, m⟩ := mem_owArgs h
    exact r.av i a m
open Classical in
noncomputable def owGive (as : List Arg) (σ : Sl) (ow owc : Nat → List Addr) : Nat → List Addr := fun j => if h : ∃ k : Nat, as[k]? = some (.s j) ∧ ∃ t ob, σ[j]? = some (some (.mob t ob)) then owc (choose h) else ow j
theorem owGive_in {as : List Arg} {σ : Sl} {ow owc : Nat → List Addr} {j k : Nat} {t : Option Nat} {ob : Ob} (nd : (argIx as).Nodup) (h1 : as[k]? = some (.s j)) (h2 : σ[j]? = some (some (.mob t ob))) : owGive as σ ow owc j = owc k := by
  have h : ∃ k : Nat, as[k]? = some (.s j) ∧ ∃ t ob, σ[j]? = some (some (.mob t ob)) := ⟨k, h1, t, ob, h2⟩
  unfold owGive
  rw [dif_pos h]
  rw [argIx_one nd (Classical.choose_spec h).1 h1]
theorem owGive_out {as : List Arg} {σ : Sl} {ow owc : Nat → List Addr} {j : Nat} (h : ¬ ∃ k : Nat, as[k]? = some (.s j) ∧ ∃ t ob, σ[j]? = some (some (.mob t ob))) : owGive as σ ow owc j = ow j := by
  unfold owGive
  rw [dif_neg h]
theorem mem_owGive {as : List Arg} {σ : Sl} {ow owc : Nat → List Addr} {j : Nat} {a : Addr} (h : a ∈ owGive as σ ow owc j) : (∃ k, as[k]? = some (.s j) ∧ (∃ t ob, σ[j]? = some (some (.mob t ob))) ∧ a ∈ owc k) ∨ ((¬ ∃ k : Nat, as[k]? = some (.s j) ∧ ∃ t ob, σ[j]? = some (some (.mob t ob))) ∧ a ∈ ow j) := by
  by_cases q : ∃ k : Nat, as[k]? = some (.s j) ∧ ∃ t ob, σ[j]? = some (some (.mob t ob))
  · unfold owGive at h
    rw [dif_pos q] at h
    exact .inl ⟨_, (Classical.choose_spec q).1, (Classical.choose_spec q).2, h⟩
  · rw [owGive_out q] at h
    exact .inr ⟨q, h⟩
theorem mob_of_own {A0 : AK} {σ : Sl} {σV : St} {H : Hp} {Av : Addr → Prop} {ow : Nat → List Addr} (r : RpS P w A0 H Av ow σ σV) {j : Nat} {a : Addr} (h : a ∈ ow j) : ∃ t ob, σ[j]? = some (some (.mob t ob)) := by
  cases hs : σ[j]? with
  | none =>
    have z : ow j = [] := r.off j fun s e => by rw [hs] at e; cases e
    rw [z] at h; cases h
  | some os =>
    cases os with
    | none =>
      have z : ow j = [] := r.off j fun s e => by rw [hs] at e; cases e
      rw [z] at h; cases h
    | some sl =>
      obtain ⟨v, _, q⟩ := r.slot j sl hs
      cases q with
      | pure e _ => rw [e] at h; cases h
      | fdc e _ => rw [e] at h; cases h
      | scr e _ => rw [e] at h; cases h
      | exo e _ _ => rw [e] at h; cases h
      | mob o t => exact ⟨_, _, rfl⟩
/-- behind the call -/
theorem give_ok {A0 : AK} {as : List Arg} {vs : List V} {ss : List S} {σ σ' : Sl} {σV : St} {H H' : Hp} {Av Av' : Addr → Prop} {ow owc : Nat → List Addr} (r : RpS P w A0 H Av ow σ σV) (p : Paired (RpA P w σV H Av) as vs) (nd : (argIx as).Nodup)
    (rc : RpS P w ⟨[], A0.K⟩ H' Av' owc (ss.map some) (vs.map some)) (s : Stp H Av (Ow (owArgs as ow)) H' Av' (Ow owc)) (e : giveBack as ss σ = some σ') :
    RpS P w A0 H' Av' (owGive as σ ow owc) σ' σV ∧ Stp H Av (Ow ow) H' Av' (Ow (owGive as σ ow owc)) := by
  obtain ⟨l, g1, g2⟩ := giveBack_get nd e
  have sub : ∀ a, Ow (owArgs as ow) a → Ow ow a := fun a ⟨k, h⟩ => by
    obtain ⟨i, _, m⟩ := mem_owArgs h
    exact ⟨i, m⟩
  have ho : ∀ a, Ow (owArgs as ow) a → Av a := fun a h => r.ho a (sub a h)
  -- a slot that was not handed on as an object keeps its own
  have far : ∀ {j : Nat} {a : Addr}, (¬ ∃ k : Nat, as[k]? = some (.s j) ∧ ∃ t ob, σ[j]? = some (some (.mob t ob))) → a ∈ ow j → ¬ Ow (owArgs as ow) a := fun {j a} nh hm ⟨k, h⟩ => by
    obtain ⟨i, ei, m⟩ := mem_owArgs h
    have := r.dj i j a m hm
    subst this
    exact nh ⟨k, ei, mob_of_own r hm⟩
  have oldS : ∀ j sl, σ[j]? = some (some sl) → (¬ ∃ k : Nat, as[k]? = some (.s j) ∧ ∃ t ob, σ[j]? = some (some (.mob t ob))) → ∃ v, σV[j]? = some (some v) ∧ RpSl P w A0 H' Av' sl v (owGive as σ ow owc j) := fun j sl hs nh => by
    obtain ⟨v, hv, q⟩ := r.slot j sl hs
    refine ⟨v, hv, ?_⟩
    rw [owGive_out nh]
    cases q with
    | pure e q => exact .pure e (q.step s ho)
    | fdc e q => exact .fdc e (q.step s ho)
    | scr e q => exact .scr e (q.step s ho)
    | exo e q n => exact .exo e (s.rd q fun z => n (ho _ z)) (s.nav n (rd_some q))
    | mob o t => exact .mob (o.step s ho fun b hb => far nh hb) t
  constructor
  · refine ⟨fun j sl hs => ?_, fun j h => ?_, fun i j a h1 h2 => ?_, fun j a h => ?_, rc.dom, l.trans r.len⟩
    · by_cases hj : ∃ k : Nat, as[k]? = some (.s j)
      · obtain ⟨k, hk⟩ := hj
        rcases g2 k j hk with ⟨nm, e1⟩ | ⟨t, ob, t2, ob2, e1, e2, e3⟩
        · rw [e1] at hs
          exact oldS j sl hs fun ⟨_, _, t, ob, h⟩ => nm t ob h
        · rw [e3] at hs
          cases hs
          obtain ⟨v, hv, q⟩ := rc.slot k _ (map_some_get.mpr e2)
          obtain ⟨v0, hv0, q0⟩ := r.slot j _ e1
          obtain ⟨v1, hv1, rv1⟩ := Paired.get p hk
          rw [map_some_get.mp hv] at hv1
          cases hv1
          have rv1 : σV[j]? = some (some v) := rv1
          rw [hv0] at rv1
          cases rv1
          refine ⟨v, hv0, ?_⟩
          rw [owGive_in nd hk e1]
          cases q with
          | mob o tt =>
            cases q0 with
            | mob o0 t0 => exact .mob o t0
      · rw [g1 j fun k hk => hj ⟨k, hk⟩] at hs
        exact oldS j sl hs fun ⟨k, hk, _⟩ => hj ⟨k, hk⟩
    · by_cases hm : ∃ k : Nat, as[k]? = some (.s j) ∧ ∃ t ob, σ[j]? = some (some (.mob t ob))
      · exfalso
        obtain ⟨k, hk, t, ob, hs⟩ := hm
        rcases g2 k j hk with ⟨nm, _⟩ | ⟨t, ob, t2, ob2, e1, e2, e3⟩
        · exact nm t ob hs
        · exact h _ e3
      · rw [owGive_out hm]
        refine r.off j fun sl hs => ?_
        by_cases hj : ∃ k : Nat, as[k]? = some (.s j)
        · obtain ⟨k, hk⟩ := hj
          rcases g2 k j hk with ⟨nm, e1⟩ | ⟨t, ob, t2, ob2, e1, e2, e3⟩
          · exact h sl (e1.trans hs)
          · exact h _ e3
        · exact h sl ((g1 j fun k hk => hj ⟨k, hk⟩).trans hs)
    · have mix : ∀ {i j : Nat}, (∃ k, as[k]? = some (.s i) ∧ (∃ t ob, σ[i]? = some (some (.mob t ob))) ∧ a ∈ owc k) → ((¬ ∃ k : Nat, as[k]? = some (.s j) ∧ ∃ t ob, σ[j]? = some (some (.mob t ob))) ∧ a ∈ ow j) → False := fun {i j} ⟨k, _, _, m1⟩ ⟨nh, m2⟩ => by
        rcases s.on a ⟨k, m1⟩ with q | q
        · exact far nh m2 q
        · obtain ⟨o, eo⟩ := r.dom a (r.av j a m2)
          rw [q] at eo; cases eo
      rcases mem_owGive h1 with q1 | q1 <;> rcases mem_owGive h2 with q2 | q2
      · obtain ⟨k1, e1, _, m1⟩ := q1
        obtain ⟨k2, e2, _, m2⟩ := q2
        have := rc.dj k1 k2 a m1 m2
        subst this
        rw [e1] at e2
        cases e2
        rfl
      · exact (mix q1 q2).elim
      · exact (mix q2 q1).elim
      · exact r.dj i j a q1.2 q2.2
    · rcases mem_owGive h with ⟨k, _, _, m⟩ | ⟨nh, m⟩
      · exact rc.av k a m
      · exact s.ak a (r.av j a m) (far nh m)
  · refine ⟨fun a o h n => s.fm a o h fun z => n (sub a z), s.dm, fun a h n => s.ak a h fun z => n (sub a z), s.an, fun a ⟨j, h⟩ => ?_⟩
    rcases mem_owGive h with ⟨k, _, _, m⟩ | ⟨nh, m⟩
    · rcases s.on a ⟨k, m⟩ with q | q
      · exact .inl (sub a q)
      · exact .inr q
    · exact .inl ⟨j, m⟩
end
section
variable {X : Cx} {cl : Nat → Addr} {A0 : AK} {W : WX}
def DAs (X : Cx) (cl : Nat → Addr) (A0 : AK) (W : WX) (es : List Expr) (f : M (List Arg)) : Prop := PA X es (rdG X.prog X.w cl A0 W (RlA X.prog X.w) f)
theorem das_nil : DAs X cl A0 W [] (eArgs []) := by
  refine paImp pa_nil fun σV H Q z => ?_
  obtain ⟨σ, Av, ow, rs, g⟩ := z
  exact g [] H Av ow rs Stp.refl .nil
theorem das_cons {m : Md} {e : Expr} {es : List Expr} {fe : M R} {fs : List (Md × M R)} (he : DE X cl A0 W e fe) (hr : DAs X cl A0 W es (eArgs fs)) (hs : starEach (e :: es) X.env = (false, eval e X.env) :: starEach es X.env := by rfl) : DAs X cl A0 W (e :: es) (eArgs ((m, fe) :: fs)) := by
  refine paImp (pa_cons he hr hs) fun σV H Q z => ?_
  obtain ⟨σ, Av, ow, rs, g⟩ := z
  refine gBind rs.dom rs Stp.refl g fun r1 σ1 x H1 Av1 ow1 rs1 _ s1 q1 g1 => ?_
  have g1 : oG X.prog X.w cl A0 W (RlA X.prog X.w) σV H Av ow Q (mbind (toA m r1) (fun a => mbind (eArgs fs) fun as => mok (a :: as)) σ1) := g1
  unfold mbind at g1
  cases hf : toA m r1 σ1 with
  | fail => rw [hf] at g1; exact g1.elim
  | exn c σ2 => exact (toA_nox hf).elim
  | ok a σ2 =>
    rw [hf] at g1
    obtain ⟨Av2, ow2, rs2, s2, ra⟩ := toA_ok rs.dom (fun b h => h) rs1 s1 q1 hf
    refine gBind (m := eArgs fs) (k := fun as => mok (a :: as)) rs.dom rs2 s2 g1 fun as σ3 xs H3 Av3 ow3 rs3 s23 s3 q3 g3 => ?_
    exact g3 (x :: xs) H3 Av3 ow3 rs3 s3 (.cons (ra.step s23 rs2.ho) q3)
theorem rd_call (hk : A0.K = X.K) {F : Fn} {n : Nat} {fs : List (Md × M R)} {σV : St} {H : Hp} {Q : VK} (hn : fs.length = n) (hl : ∀ σ as σ', eArgs fs σ = .ok as σ' → as.length = fs.length) (z : rdE X.prog X.w cl A0 W (eCall F fs) σV H Q) :
    tCallS (spD X.prog X.w cl X.K n F) (WE W) (rdG X.prog X.w cl A0 W (RlA X.prog X.w) (eArgs fs)) σV H Q := by
  obtain ⟨σ, Av, ow, rs, g⟩ := z
  refine gBindQ rs.dom rs Stp.refl g fun as σ1 vs H1 Av1 ow1 e1 rs1 _ s1 q1 g1 => ?_
  have lv : vs.length = n := by rw [← hn, ← hl _ _ _ e1]; exact (Paired.length q1).symm
  by_cases nd : (argIx as).Nodup
  · simp only [if_pos nd] at g1
    cases ha : argsS σ1 as with
    | none => simp only [ha] at g1; exact g1.elim
    | some ss =>
      simp only [ha] at g1
      rw [← hk]
      refine ⟨lv, ss, Av1, owArgs as ow1, args_ok rs1 q1 nd ha, ?_⟩
      cases hF : F ss with
      | fail => simp only [hF] at g1; exact g1.elim
      | exn c ss' =>
        simp only [hF] at g1
        cases hb : giveBack as ss' σ1 with
        | none => simp only [hb] at g1; exact g1.elim
        | some σ2 =>
          simp only [hb] at g1
          intro H2 Av2 owc rc s2
          obtain ⟨rs2, s12⟩ := give_ok rs1 q1 nd rc s2 hb
          exact g1 H2 Av2 _ rs2 (s1.trans rs.dom s12)
      | ok r ss' =>
        simp only [hF] at g1
        cases hb : giveBack as ss' σ1 with
        | none => simp only [hb] at g1; exact g1.elim
        | some σ2 =>
          simp only [hb] at g1
          intro v H2 Av2 owc rc s2 rv
          obtain ⟨rs2, s12⟩ := give_ok rs1 q1 nd rc s2 hb
          refine g1 v H2 Av2 _ rs2 (s1.trans rs.dom s12) ?_
          cases r with
          | pure d => exact rv
          | fdc d => exact rv
          | bor i => exact absurd (show ([] : St)[i]? = some (some v) from rv) (by simp)
          | own ob =>
            obtain ⟨a, l, e, o, k⟩ := rv
            refine ⟨a, l, e, o, fun b hb => ⟨(k b hb).1, fun ⟨j, h⟩ => ?_, s1.none_of (k b hb).2.2⟩⟩
            rcases mem_owGive h with ⟨k2, _, _, m⟩ | ⟨nh, m⟩
            · exact (k b hb).2.1 ⟨k2, m⟩
            · obtain ⟨o2, e2⟩ := rs1.dom b (rs1.av j b m)
              rw [(k b hb).2.2] at e2; cases e2
  · simp only [if_neg nd] at g1; exact g1.elim
theorem eArgs_len : ∀ {fs : List (Md × M R)} {σ σ' : Sl} {as : List Arg}, eArgs fs σ = .ok as σ' → as.length = fs.length
  | [], σ, σ', as, h => by cases h; rfl
  | (m, f) :: fs, σ, σ', as, h => by
    unfold eArgs mbind at h
    cases h1 : f σ with
    | fail => rw [h1] at h; cases h
    | exn c σ1 => rw [h1] at h; cases h
    | ok r σ1 =>
      rw [h1] at h
      dsimp only at h
      cases h2 : toA m r σ1 with
      | fail => rw [h2] at h; cases h
      | exn c σ2 => rw [h2] at h; cases h
      | ok d σ2 =>
        rw [h2] at h
        dsimp only at h
        cases h3 : eArgs fs σ2 with
        | fail => rw [h3] at h; cases h
        | exn c σ3 => rw [h3] at h; cases h
        | ok es σ3 =>
          rw [h3] at h
          have e := eArgs_len h3
          cases h
          simp [e]
/-- a def by its body's meaning -/
theorem fn_ok {P : Program} {w : World} {K : PySem.W.Frag} {mg : Str → Option Value} {base : Heap} {x qual : Str} {st : Stmt} {f : Addr} {fd : FuncData} {N ps : List Str} {k : Nat} {fb : M Flow} (F : Fun K x qual st f fd) (S : FnScope N ps (defScope st)) (hp : ps.length ≤ N.length)
    (h : ∀ (cdv : Value) (A : Around) (outer : List Env) (s : Shared) (H : Hp) (vs : List V) (E : XK), Room k (A.deeper (PyProof.Rows.envOfC qual (defScope st) s.heap.objs.size f cdv)) →
      DSs (cxOf (L2.CX P w) P w K mg base N qual (defScope st) f cdv A outer s H E) cl ⟨vs, K⟩ (fun cls d _ H => E cls d H) (defBody st) fb) :
    FnOk P w K mg base (L2.CX P w) (k + 1) f fd ps (spD P w cl K ps.length (runF N.length fb)) :=
  F.okX S (fun vs H Q E h => h.1) fun cdv A outer s H vs Q E hr z => ⟨_, h cdv A outer s H vs E hr, fn_body rfl (by rw [z.1]; exact hp) z.2⟩
/-- f(e, ..) -/
theorem de_call (hk : A0.K = X.K) {F : Fn} {k : Nat} {f : Addr} {fd : FuncData} {ps : List Str} {x : Str} {p pos : Pos} {e : Expr} {es : List Expr} {fs : List (Md × M R)} (tk : Takes X W) (G : FnOk X.prog X.w X.K X.mg X.base (L2.CX X.prog X.w) k f fd ps (spD X.prog X.w cl X.K ps.length F)) (hr : Room k X.A) (hg : Gl X x) (hm : X.mg x = some (.ref f)) (hkp : PySem.W.keepIn X.K (.ref f) = true) (hb : Binds X.K fd ps [])
    (ha : DAs X cl A0 W (e :: es) (eArgs fs)) (hn : fs.length = ps.length := by rfl) (hdb : (x == ("__debug__" : Str)) = false := by decide) (he : starEach (e :: es) X.env = (false, eval e X.env) :: starEach es X.env := by rfl) (hpl : (backTo pos (starEach es X.env)).any (·.1) = false := by rfl) :
    DE X cl A0 W (.Call (.Name x p) (e :: es) [] pos) (eCall F fs) :=
  peImp (pe_callS G hr hg hm hkp hb (fun σ => passAt tk σ) ha hdb he hpl) fun σV H Q z => rd_call hk hn (fun _ _ _ h => eArgs_len h) z
end
end DL

/-! DLseq: subscripts, slices, lists' methods, what is walked, built-ins. -/
namespace DL
open PySem L2
section
variable {X : Cx} {cl : Nat → Addr} {A0 : AK} {W : WX}

/-! ### subscripts -/
theorem ixOf_eq (i : Int) (n : Nat) : ixOf i n = ixN n i := rfl
def rIxAll (K : PySem.W.Frag) : R2 := fun x y H Q => rIxL K x y H Q ∨ (rIxT K x y H Q ∨ rIxS x y H Q)
theorem or_ix : IxR X (rIxAll X.K) := ix_list.or (ix_tup.or ix_str)
theorem tx_get (s : Tx) : (tx s).cps.toList = s := by simp [tx]
theorem txOk_get {s : Tx} {k c : Nat} (h : txOk s = true) (e : s[k]? = some c) : txOk [c] = true := by
  unfold txOk at *
  rw [List.all_eq_true] at h
  have := h c (List.mem_of_getElem? e)
  simpa using this
theorem o_ix : Op2 X.prog X.w (fun a b => (pyIx a b).map .pure) (rIxAll X.K) := by
  intro H Av d e x y z Q hd t u hf k
  cases e with
  | int i =>
    rw [u.int]
    cases d with
    | tup xs =>
      obtain ⟨a, vs, rfl, h, r, n⟩ := t.tup
      simp only [pyIx, ixOf_eq] at hf
      cases hj : ixN xs.length i with
      | none => simp only [hj] at hf; cases hf
      | some j =>
        simp only [hj] at hf
        cases hx : xs[j]? with
        | none => simp only [hx] at hf; cases hf
        | some d =>
          simp only [hx] at hf
          cases hf
          obtain ⟨v, hv, rv⟩ := r.get hx
          exact .inr (.inl ⟨a, vs, i, v, rfl, rfl, SqT.of h, by unfold atI; rw [← r.len, hj]; exact hv, k _ _ (new_pure rv)⟩)
    | lst xs =>
      obtain ⟨a, vs, rfl, h, r⟩ := t.lst
      simp only [pyIx, ixOf_eq] at hf
      cases hj : ixN xs.length i with
      | none => simp only [hj] at hf; cases hf
      | some j =>
        simp only [hj] at hf
        cases hx : xs[j]? with
        | none => simp only [hx] at hf; cases hf
        | some d =>
          simp only [hx] at hf
          cases hf
          obtain ⟨v, hv, rv⟩ := r.get hx
          exact .inl ⟨a, vs, i, v, rfl, rfl, SqL.of h, by unfold atI; rw [← r.len, hj]; exact hv, k _ _ (new_pure rv)⟩
    | str s =>
      obtain ⟨rfl, ok⟩ := t.str
      simp only [pyIx, ixOf_eq] at hf
      by_cases hz : s.length ≤ zLine
      · simp only [if_pos hz] at hf
        cases hj : ixN s.length i with
        | none => simp only [hj] at hf; cases hf
        | some j =>
          simp only [hj] at hf
          cases hx : s[j]? with
          | none => simp only [hx] at hf; cases hf
          | some c =>
            simp only [hx] at hf
            cases hf
            exact .inr (.inr ⟨tx s, i, c, rfl, rfl, by rw [tx_len]; exact zle hz, by unfold atI; rw [tx_get, hj]; exact hx, k _ _ (new_pure (.str [c] (txOk_get ok hx)))⟩)
      · simp only [if_neg hz] at hf; cases hf
    | _ => cases hf
  | _ => cases d <;> cases hf
theorem de_ix {a b : Expr} {fa fb : M R} {pos : Pos} (ha : DE X cl A0 W a fa) (hb : DE X cl A0 W b fb) (hs : PlainIx b := by intro _ _; rfl) : DE X cl A0 W (.Subscript a b pos) (e2 (fun a b => (pyIx a b).map .pure) fa fb) :=
  peImp (pe_ix or_ix ha hb hs) fun _ _ _ z => rd_e2 o_ix z
/-! ### slices -/
theorem cutLo_eq (n : Nat) (o : Option Int) : cutLo n o = HT.sIx n 0 o := by cases o <;> rfl
theorem cutHi_eq (n : Nat) (o : Option Int) : cutHi n o = HT.sIx n n o := by cases o <;> rfl
theorem Rps.cut {H : Hp} {Av : Addr → Prop} {ds : List D} {vs : List V} (r : Rps H Av ds vs) (lo hi : Option Int) : Rps H Av (DL.cut ds lo hi) (cutV vs lo hi) := by
  unfold DL.cut cutV
  rw [cutLo_eq, cutHi_eq, r.len]
  exact (r.drop _).take _
def rSlAll (K : PySem.W.Frag) : V → Option Int → Option Int → Hp → VK → Prop := fun x lo hi H Q => rSlL K x lo hi H Q ∨ (rSlA K x lo hi H Q ∨ rSlS x lo hi H Q)
theorem or_sl : SlR X (rSlAll X.K) := sl_list.or (sl_tupA.or sl_str)
theorem cutS_tx (s : Tx) (lo hi : Option Int) : cutS (tx s) lo hi = tx (DL.cut s lo hi) := by
  unfold cutS DL.cut
  rw [cutLo_eq, cutHi_eq, tx_len, tx_get]
  rfl
theorem cut_all {α : Type} {xs : List α} {lo hi : Option Int} (h : HT.sIx xs.length 0 lo = 0 ∧ HT.sIx xs.length xs.length hi = xs.length) : DL.cut xs lo hi = xs := by
  unfold DL.cut
  rw [cutLo_eq, cutHi_eq, h.1, h.2]
  simp
theorem txOk_sub {a b : Tx} (h : txOk a = true) (k : ∀ c ∈ b, c ∈ a) : txOk b = true := by
  unfold txOk at *
  rw [List.all_eq_true] at h ⊢
  exact fun c hc => h c (k c hc)
theorem cut_mem {α : Type} {xs : List α} {lo hi : Option Int} {c : α} (h : c ∈ DL.cut xs lo hi) : c ∈ xs := by
  unfold DL.cut at h
  exact List.mem_of_mem_drop (List.mem_of_mem_take h)
theorem o_slice {H : Hp} {Av : Addr → Prop} {d : D} {x : V} {lo hi : Option Int} {z : R} {Q : VK} (hd : ∀ a, Av a → ∃ o, H a = some o) (t : Top H Av d x) (hf : pySlice d lo hi = some z) (k : ∀ v H', NewR X.prog X.w H H' Av z v → Q v H') : rSlAll X.K x lo hi H Q := by
  cases d with
  | tup xs =>
    cases hf
    obtain ⟨a, vs, rfl, h, r, n⟩ := t.tup
    refine .inr (.inl ⟨a, vs, rfl, SqT.of h, fun w => ?_, fun _ p hp => k _ _ (new_tup (r.cut lo hi) hp (nav_of hd hp))⟩)
    rw [cut_all (by rw [r.len]; exact w)] at k
    exact k _ _ (new_pure (.tup h n r))
  | lst xs =>
    cases hf
    obtain ⟨a, vs, rfl, h, r⟩ := t.lst
    exact .inl ⟨a, vs, rfl, SqL.of h, fun p hp => k _ _ (new_lst (r.cut lo hi) hp)⟩
  | str s =>
    simp only [pySlice] at hf
    split at hf
    · rename_i hz
      cases hf
      obtain ⟨rfl, ok⟩ := t.str
      exact .inr (.inr ⟨tx s, rfl, by rw [tx_len]; exact zle hz, by rw [cutS_tx]; exact k _ _ (new_pure (.str _ (txOk_sub ok fun c h => cut_mem h)))⟩)
    · cases hf
  | _ => cases hf
def RlO : Rel (Option Int) (Option Int) := fun _ _ _ _ _ a b => a = b
def DO (X : Cx) (cl : Nat → Addr) (A0 : AK) (W : WX) (e : Option Expr) (f : M (Option Int)) : Prop := PO X e (rdG X.prog X.w cl A0 W RlO f)
theorem poImp {e : Option Expr} {t t' : TO} (h : PO X e t) (k : ∀ σ H Q, t' σ H Q → t σ H Q) : PO X e t' := ⟨fun pins s σ H Q I z => h.run pins s σ H Q I (k σ H Q z)⟩
theorem do_none : DO X cl A0 W none (eOpt none) := by
  refine poImp po_none fun σV H Q z => ?_
  obtain ⟨σ, Av, ow, rs, g⟩ := z
  exact g none H Av ow rs Stp.refl rfl
theorem do_some {e : Expr} {fe : M R} (h : DE X cl A0 W e fe) : DO X cl A0 W (some e) (eOpt (some fe)) := by
  refine poImp (po_some h) fun σV H Q z => ?_
  obtain ⟨σ, Av, ow, rs, g⟩ := z
  have g : oG X.prog X.w cl A0 W RlO σV H Av ow Q (mbind fe (fun r σ => match asD r σ with
    | some (.int i) => Out.ok (some i) σ
    | _ => .fail) σ) := by
    unfold eOpt getD mbind at g
    unfold mbind
    cases hf : fe σ with
    | fail => simp only [hf] at g; exact g
    | exn c σ1 => simp only [hf] at g; exact g
    | ok r σ1 =>
      simp only [hf] at g ⊢
      cases ha : asD r σ1 with
      | none => simp only [ha] at g; exact g.elim
      | some d =>
        simp only [ha] at g ⊢
        cases d with
        | int i => exact g
        | _ => exact g.elim
  refine gBind rs.dom rs Stp.refl g fun r σ1 x H1 Av1 ow1 rs1 _ s1 q1 g1 => ?_
  cases ha : asD r σ1 with
  | none => simp only [ha] at g1; exact g1.elim
  | some d =>
    simp only [ha] at g1
    cases d with
    | int i => exact ⟨i, (asD_ok rs1 q1 ha).int, g1 (some i) H1 Av1 ow1 rs1 s1 rfl⟩
    | _ => exact g1.elim
theorem de_slice {a : Expr} {lo hi : Option Expr} {fa : M R} {fl fh : Option (M R)} {p2 pos : Pos} (ha : DE X cl A0 W a fa) (hl : DO X cl A0 W lo (eOpt fl)) (hh : DO X cl A0 W hi (eOpt fh)) : DE X cl A0 W (.Subscript a (.Slice lo hi none p2) pos) (eSlice fa fl fh) := by
  refine peImp (pe_slice or_sl ha hl hh) fun σV H Q z => ?_
  obtain ⟨σ, Av, ow, rs, g⟩ := z
  refine gBind rs.dom rs Stp.refl g fun r σ1 x H1 Av1 ow1 rs1 _ s1 q1 g1 => ?_
  refine gBind rs.dom rs1 s1 g1 fun l σ2 l' H2 Av2 ow2 rs2 s12 s2 q2 g2 => ?_
  refine gBind rs.dom rs2 s2 g2 fun h σ3 h' H3 Av3 ow3 rs3 s23 s3 q3 g3 => ?_
  cases (show l = l' from q2)
  cases (show h = h' from q3)
  have q1' := (q1.step s12 rs1.ho).step s23 rs2.ho
  cases hd : asD r σ3 with
  | none => simp only [hd] at g3; exact g3.elim
  | some d =>
    simp only [hd] at g3
    cases hf : pySlice d l h with
    | none => simp only [hf] at g3; exact g3.elim
    | some z =>
      simp only [hf] at g3
      exact o_slice rs3.dom (asD_ok rs3 q1' hd) hf fun v H' n => gEnd rs.dom rs3 s3 g3 n

/-! ### built-ins of one and two arguments -/
theorem da1 {e : Expr} {fe : M R} (he : DE X cl A0 W e fe) (hs : starEach [e] X.env = [(false, eval e X.env)] := by rfl) : PA X [e] (fun σ H Q => (rdE X.prog X.w cl A0 W) fe σ H fun v H1 => Q [v] H1) := pa_cons he pa_nil hs
theorem de_call1 {id : String} {x : Str} {f : D → Option R} {r : List V → Hp → VK → Prop} {e : Expr} {fe : M R} {p pos : Pos} (hc : CallR X (.builtin id) r) (ho : Op1 X.prog X.w f fun x H Q => r [x] H Q) (hg : Gl X x) (hm : X.mg x = none) (hv : bootBuiltins x = some (.builtin id)) (he : DE X cl A0 W e fe)
    (hn : x ≠ "__name__" := by decide) (hdb : (x == ("__debug__" : Str)) = false := by decide) (hs : starEach [e] X.env = (false, eval e X.env) :: starEach [] X.env := by rfl) (hpl : (backTo pos (starEach [] X.env)).any (·.1) = false := by rfl) : DE X cl A0 W (.Call (.Name x p) [e] [] pos) (e1 f fe) :=
  peImp (pe_callB hc hg hm hv (da1 he hs) hn hdb hs hpl) fun _ _ _ z => rd_e1 ho z
theorem de_callT1 {T : String} {x : Str} {f : D → Option R} {r : List V → Hp → VK → Prop} {e : Expr} {fe : M R} {p pos : Pos} (hc : CallR X (.type T) r) (ho : Op1 X.prog X.w f fun x H Q => r [x] H Q) (hg : Gl X x) (hm : X.mg x = none) (hv : bootBuiltins x = some (.type T)) (he : DE X cl A0 W e fe)
    (hn : x ≠ "__name__" := by decide) (hdb : (x == ("__debug__" : Str)) = false := by decide) (hs : starEach [e] X.env = (false, eval e X.env) :: starEach [] X.env := by rfl) (hpl : (backTo pos (starEach [] X.env)).any (·.1) = false := by rfl) : DE X cl A0 W (.Call (.Name x p) [e] [] pos) (e1 f fe) :=
  peImp (pe_callTy hc hg hm hv (da1 he hs) hn hdb hs hpl) fun _ _ _ z => rd_e1 ho z
theorem de_call2 {id : String} {x : Str} {f : D → D → Option R} {r : List V → Hp → VK → Prop} {a b : Expr} {fa fb : M R} {p pos : Pos} (hc : CallR X (.builtin id) r) (ho : Op2 X.prog X.w f fun x y H Q => r [x, y] H Q) (hg : Gl X x) (hm : X.mg x = none) (hv : bootBuiltins x = some (.builtin id)) (ha : DE X cl A0 W a fa) (hb : DE X cl A0 W b fb)
    (hn : x ≠ "__name__" := by decide) (hdb : (x == ("__debug__" : Str)) = false := by decide) (hs : starEach [a, b] X.env = (false, eval a X.env) :: starEach [b] X.env := by rfl) (hs2 : starEach [b] X.env = [(false, eval b X.env)] := by rfl) (hpl : (backTo pos (starEach [b] X.env)).any (·.1) = false := by rfl) : DE X cl A0 W (.Call (.Name x p) [a, b] [] pos) (e2 f fa fb) :=
  peImp (pe_callB hc hg hm hv (pa_cons ha (pa_cons hb pa_nil hs2) hs) hn hdb hs hpl) fun _ _ _ z => rd_e2 ho z
theorem CallR.or {f : Value} {r r' : List V → Hp → VK → Prop} (h : CallR X f r) (h' : CallR X f r') : CallR X f (fun xs H Q => r xs H Q ∨ r' xs H Q) := fun pins s σ H xs us Q I rv z => z.elim (h pins s σ H xs us Q I rv) (h' pins s σ H xs us Q I rv)
theorem o_len : Op1 X.prog X.w pyLen (fun x H Q => ∃ y n, [x] = [y] ∧ LenV X.K y H n ∧ Q (.int n) H) := by
  intro H Av d x z Q hd t hf k
  cases d with
  | tup xs =>
    cases hf
    obtain ⟨a, vs, rfl, h, r, n⟩ := t.tup
    exact ⟨_, xs.length, rfl, .inr ⟨vs, SqT.of h, r.len⟩, k _ _ (new_pure (.int _))⟩
  | lst xs =>
    cases hf
    obtain ⟨a, vs, rfl, h, r⟩ := t.lst
    exact ⟨_, xs.length, rfl, .inl ⟨vs, SqL.of h, r.len⟩, k _ _ (new_pure (.int _))⟩
  | str s =>
    simp only [pyLen] at hf
    split at hf
    · rename_i hz
      cases hf
      obtain ⟨rfl, ok⟩ := t.str
      exact ⟨_, s.length, rfl, ⟨by rw [tx_len]; exact zle hz, (tx_len s).symm⟩, k _ _ (new_pure (.int _))⟩
    · cases hf
  | _ => cases hf
theorem o_tuple : Op1 X.prog X.w pyTuple (fun x H Q => ∃ p ys, [x] = [.ref p] ∧ ((SqL X.K H p ys ∧ ∀ l, H l = none → Q (.ref l) (upd H l (.tup ys))) ∨ (SqT X.K H p ys ∧ Q (.ref p) H))) := by
  intro H Av d x z Q hd t hf k
  cases d with
  | tup xs =>
    cases hf
    obtain ⟨a, vs, rfl, h, r, n⟩ := t.tup
    exact ⟨a, vs, rfl, .inr ⟨SqT.of h, k _ _ (new_pure (.tup h n r))⟩⟩
  | lst xs =>
    cases hf
    obtain ⟨a, vs, rfl, h, r⟩ := t.lst
    exact ⟨a, vs, rfl, .inl ⟨SqL.of h, fun l hl => k _ _ (new_tup r hl (nav_of hd hl))⟩⟩
  | _ => cases hf
theorem o_list : Op1 X.prog X.w pyList (fun x H Q => ∃ p ys, [x] = [.ref p] ∧ (SqL X.K H p ys ∨ SqT X.K H p ys) ∧ ∀ l, H l = none → Q (.ref l) (upd H l (.lst ys))) := by
  intro H Av d x z Q hd t hf k
  cases d with
  | tup xs =>
    cases hf
    obtain ⟨a, vs, rfl, h, r, n⟩ := t.tup
    exact ⟨a, vs, rfl, .inr (SqT.of h), fun l hl => k _ _ (new_lst r hl)⟩
  | lst xs =>
    cases hf
    obtain ⟨a, vs, rfl, h, r⟩ := t.lst
    exact ⟨a, vs, rfl, .inl (SqL.of h), fun l hl => k _ _ (new_lst r hl)⟩
  | _ => cases hf
theorem bools_rp {H : Hp} {Av : Addr → Prop} : ∀ {xs : List D} {vs : List V} {bs : List Bool}, Rps H Av xs vs → boolsD xs = some bs → vs = bs.map V.bl
  | _, _, bs, .nil, h => by cases h; rfl
  | d :: ds, v :: vs, bs, .cons r t, h => by
    cases d with
    | bl b =>
      simp only [boolsD] at h
      cases hb : boolsD ds with
      | none => rw [hb] at h; cases h
      | some cs =>
        rw [hb] at h
        cases h
        cases r
        rw [bools_rp t hb]
        rfl
    | _ => cases h
theorem ints_rp {H : Hp} {Av : Addr → Prop} : ∀ {xs : List D} {vs : List V} {bs : List Int}, Rps H Av xs vs → intsD xs = some bs → vs = bs.map V.int
  | _, _, bs, .nil, h => by cases h; rfl
  | d :: ds, v :: vs, bs, .cons r t, h => by
    cases d with
    | int b =>
      simp only [intsD] at h
      cases hb : intsD ds with
      | none => rw [hb] at h; cases h
      | some cs =>
        rw [hb] at h
        cases h
        cases r
        rw [ints_rp t hb]
        rfl
    | _ => cases h
theorem o_all : Op1 X.prog X.w pyAll (fun x H Q => rAll X.K [x] H Q) := by
  intro H Av d x z Q hd t hf k
  cases d with
  | lst xs =>
    simp only [pyAll] at hf
    cases hb : boolsD xs with
    | none => rw [hb] at hf; cases hf
    | some bs =>
      rw [hb] at hf
      cases hf
      obtain ⟨a, vs, rfl, h, r⟩ := t.lst
      have e := bools_rp r hb
      subst e
      exact ⟨a, bs, rfl, SqL.of h, k _ _ (new_pure (.bl _))⟩
  | _ => cases hf
theorem o_sum : Op1 X.prog X.w pySum (fun x H Q => rSum X.K [x] H Q) := by
  intro H Av d x z Q hd t hf k
  cases d with
  | lst xs =>
    simp only [pySum] at hf
    cases hb : intsD xs with
    | none => rw [hb] at hf; cases hf
    | some bs =>
      rw [hb] at hf
      cases hf
      obtain ⟨a, vs, rfl, h, r⟩ := t.lst
      have e := ints_rp r hb
      subst e
      exact ⟨a, bs, rfl, SqL.of h, k _ _ (new_pure (.int _))⟩
  | _ => cases hf
theorem o_abs : Op1 X.prog X.w pyAbs (fun x H Q => ∃ i, [x] = [.int i] ∧ Q (.int (if i < 0 then -i else i)) H) := by
  intro H Av d x z Q hd t hf k
  cases d <;> cases hf
  rw [t.int]
  exact ⟨_, rfl, k _ _ (new_pure (.int _))⟩
theorem o_max2 : Op2 X.prog X.w pyMax2 (fun x y H Q => ∃ i j, [x, y] = [.int i, .int j] ∧ Q (.int (if j > i then j else i)) H) := by
  intro H Av d e x y z Q hd t u hf k
  cases d <;> cases e <;> cases hf
  rw [t.int, u.int]
  exact ⟨_, _, rfl, k _ _ (new_pure (.int _))⟩
theorem o_min2 : Op2 X.prog X.w pyMin2 (fun x y H Q => ∃ i j, [x, y] = [.int i, .int j] ∧ Q (.int (if j < i then j else i)) H) := by
  intro H Av d e x y z Q hd t u hf k
  cases d <;> cases e <;> cases hf
  rw [t.int, u.int]
  exact ⟨_, _, rfl, k _ _ (new_pure (.int _))⟩
/-! isinstance -/
def tyN : Ty → String
  | .int => "int"
  | .bool => "bool"
  | .str => "str"
  | .tuple => "tuple"
  | .list => "list"
  | .dict => "dict"
def pyIsi (t : Ty) (d : D) : Option R := b2 (isTy t d)
def knd : D → String
  | .non => "NoneType"
  | .bl _ => "bool"
  | .int _ => "int"
  | .str _ => "str"
  | .tup _ => "tuple"
  | .lst _ => "list"
theorem Top.ty {H : Hp} {Av : Addr → Prop} {d : D} {x : V} (t : Top H Av d x) : TyX X.K H x (.type (knd d)) := by
  cases d with
  | non => rw [t.non]; exact .base .non
  | bl b => rw [t.bl]; exact .base (.bl b)
  | int i => rw [t.int]; exact .base (.int i)
  | str s => rw [t.str.1]; exact .base (.str _)
  | tup xs => obtain ⟨a, vs, rfl, h, _⟩ := t.tup; exact .base (.tup h)
  | lst xs => obtain ⟨a, vs, rfl, h, _⟩ := t.lst; exact .base (.lst h)
theorem kit_all (t : Ty) (d : D) : kitB (knd d) (tyN t) = some (isTy t d) := by
  cases t <;> cases d <;> (simp only [knd, tyN, isTy]; decide +kernel)
theorem de_isi {t : Ty} {x : Str} {e : Expr} {fe : M R} {p p2 pos : Pos} (hg : Gl X "isinstance") (hm : X.mg "isinstance" = none) (he : DE X cl A0 W e fe) (hx : PE X (.Name x p2) (tC (.ty (tyN t))))
    (hs : starEach [e, .Name x p2] X.env = (false, eval e X.env) :: starEach [.Name x p2] X.env := by rfl) (hs2 : starEach [.Name x p2] X.env = [(false, eval (.Name x p2) X.env)] := by rfl) (hpl : (backTo pos (starEach [.Name x p2] X.env)).any (·.1) = false := by rfl) : DE X cl A0 W (.Call (.Name "isinstance" p) [e, .Name x p2] [] pos) (e1 (pyIsi t) fe) := by
  refine peImp (pe_callB call_isi hg hm (by decide +kernel) (pa_cons he (pa_cons hx pa_nil hs2) hs) (by decide) (by decide) hs hpl) fun σV H Q z => ?_
  refine rd_e1 (r := fun x H Q => rIsi X.K [x, .ty (tyN t)] H Q) ?_ z
  intro H Av d x z Q hd tt hf k
  cases hf
  exact ⟨x, .ty (tyN t), .type (knd d), .type (tyN t), isTy t d, rfl, .ty _, tt.ty, kit_ty (kit_all t d), k _ _ (new_pure (.bl _))⟩

/-! ### what is walked -/
theorem PI.or {tg iter : Expr} {a b : TI} (h : PI X tg iter a) (h' : PI X tg iter b) : PI X tg iter (fun σ H R => a σ H R ∨ b σ H R) := ⟨fun pins s σ H R I z => z.elim (h.run pins s σ H R I) (h'.run pins s σ H R I)⟩
theorem piImp {tg iter : Expr} {t t' : TI} (h : PI X tg iter t) (k : ∀ σ H R, t' σ H R → t σ H R) : PI X tg iter t' := ⟨fun pins s σ H R I z => h.run pins s σ H R I (k σ H R z)⟩
theorem it_lst {K : PySem.W.Frag} {H : Hp} {Av O : Addr → Prop} {ds : List D} {a : Addr} (ho : ∀ b, O b → Av b) (r : Rp H Av (.lst ds) (.ref a)) : ItOk (Itl K a) H Av O ds := by
  cases r with
  | lst h n t =>
    intro Hc Avc Oc s hd i
    have hc := s.fm a _ h fun z => n (ho a z)
    have tc := t.step s ho
    refine ⟨fun d e => ?_, fun l => ⟨_, SqL.of hc, by rw [← tc.len]; exact l⟩⟩
    obtain ⟨v, hv, rv⟩ := tc.get e
    refine ⟨⟨_, v, SqL.of hc, hv⟩, fun x Hn hy => ?_⟩
    obtain ⟨rfl, y⟩ := hy
    have hx := y _ (SqL.of hc)
    rw [hv] at hx
    cases hx
    exact ⟨fun _ _ h => h, rv⟩
theorem it_tup {K : PySem.W.Frag} {H : Hp} {Av O : Addr → Prop} {ds : List D} {a : Addr} (ho : ∀ b, O b → Av b) (r : Rp H Av (.tup ds) (.ref a)) : ItOk (Itt K a) H Av O ds := by
  cases r with
  | tup h n t =>
    intro Hc Avc Oc s hd i
    have hc := s.fm a _ h fun z => n (ho a z)
    have tc := t.step s ho
    refine ⟨fun d e => ?_, fun l => ⟨_, SqT.of hc, by rw [← tc.len]; exact l⟩⟩
    obtain ⟨v, hv, rv⟩ := tc.get e
    refine ⟨⟨_, v, SqT.of hc, hv⟩, fun x Hn hy => ?_⟩
    obtain ⟨rfl, y⟩ := hy
    have hx := y _ (SqT.of hc)
    rw [hv] at hx
    cases hx
    exact ⟨fun _ _ h => h, rv⟩
theorem di_seq {tg e : Expr} {fe : M R} (he : DE X cl A0 W e fe) : DI X cl A0 W tg e (iD fe) := by
  refine piImp (PI.or (pi_list he) (pi_tup he)) fun σV H Rr z => ?_
  obtain ⟨σ, Av, ow, rs, g⟩ := z
  -- which it is, the run tells ahead
  by_cases ht : ∃ r σ1 ds σ2, fe σ = .ok r σ1 ∧ frz r σ1 = .ok (.tup ds) σ2
  · obtain ⟨r0, σ0, ds, σ2, e1, e2⟩ := ht
    refine .inr (gBindQ rs.dom rs Stp.refl g fun r σ1 x H1 Av1 ow1 e1' rs1 _ s1 q1 g1 => ?_)
    rw [e1] at e1'
    cases e1'
    unfold mbind at g1
    rw [e2] at g1
    obtain ⟨Av2, ow2, rs2, s2, rp, _⟩ := frz_ok rs.dom (fun b h => h) rs1 s1 q1 e2
    cases rp with
    | tup h n t =>
      exact ⟨_, rfl, ⟨_, SqT.of h⟩, g1 _ H1 Av2 ow2 rs2 s2 (it_tup rs2.ho (.tup h n t))⟩
  · refine .inl (gBindQ rs.dom rs Stp.refl g fun r σ1 x H1 Av1 ow1 e1 rs1 _ s1 q1 g1 => ?_)
    unfold mbind at g1
    cases hf : frz r σ1 with
    | fail => rw [hf] at g1; exact g1.elim
    | exn c σ2 => exact (frz_nox hf).elim
    | ok d σ2 =>
      rw [hf] at g1
      cases d with
      | lst ds =>
        obtain ⟨Av2, ow2, rs2, s2, rp, _⟩ := frz_ok rs.dom (fun b h => h) rs1 s1 q1 hf
        cases rp with
        | lst h n t =>
          exact ⟨_, rfl, ⟨_, SqL.of h⟩, g1 _ H1 Av2 ow2 rs2 s2 (it_lst rs2.ho (.lst h n t))⟩
      | tup ds => exact (ht ⟨r, σ1, ds, σ2, e1, hf⟩).elim
      | _ => exact g1.elim
theorem it_rng {H : Hp} {Av O : Addr → Prop} {lo : Int} {n : Nat} : ItOk (Itr lo n) H Av O ((List.range n).map fun (k : Nat) => D.int (lo + (k : Int))) := by
  intro Hc Avc Oc s hd i
  refine ⟨fun d e => ?_, fun l => (by simpa using l : n ≤ i)⟩
  rw [List.getElem?_map] at e
  cases hr : (List.range n)[i]? with
  | none => rw [hr] at e; cases e
  | some k =>
    rw [hr] at e
    cases e
    obtain ⟨hi, ek⟩ := List.getElem?_eq_some_iff.mp hr
    simp only [List.length_range] at hi
    rw [List.getElem_range] at ek
    subst ek
    exact ⟨hi, fun x Hn hy => by obtain ⟨rfl, rfl⟩ := hy; exact ⟨fun _ _ h => h, .int _⟩⟩
theorem rd_getD {fe : M R} {σV : St} {H : Hp} {Q : VK} (z : rdG X.prog X.w cl A0 W (fun _ _ H Av _ d v => Top H Av d v) (getD fe) σV H Q) : (rdE X.prog X.w cl A0 W) fe σV H Q := by
  obtain ⟨σ, Av, ow, rs, g⟩ := z
  refine gBind rs.dom rs Stp.refl g fun r σ1 x H1 Av1 ow1 rs1 _ s1 q1 g1 => ?_
  cases ha : asD r σ1 with
  | none => simp only [ha] at g1; exact g1.elim
  | some d => simp only [ha] at g1; exact g1 x H1 Av1 ow1 rs1 s1 (asD_ok rs1 q1 ha)
theorem di_range1 {tg e : Expr} {fe : M R} {p pos : Pos} (hg : Gl X "range") (hm : X.mg "range" = none) (he : DE X cl A0 W e fe) (hs : starEach [e] X.env = [(false, eval e X.env)] := by rfl) : DI X cl A0 W tg (.Call (.Name "range" p) [e] [] pos) (iRange1 fe) := by
  refine piImp (pi_range1 hg hm (da1 he hs) hs) fun σV H Rr z => ?_
  obtain ⟨σ, Av, ow, rs, g⟩ := z
  refine rd_getD (gBind rs.dom rs Stp.refl g fun d σ1 x H1 Av1 ow1 rs1 _ s1 q1 g1 => ?_)
  cases d with
  | int n =>
    simp only at g1
    split at g1
    · rename_i hz
      refine ⟨n, by rw [Top.int q1], by omega, by omega, ?_⟩
      have it := it_rng (H := H1) (Av := Av1) (O := Ow ow1) (lo := 0) (n := n.toNat)
      simp only [Int.zero_add] at it
      exact g1 _ H1 Av1 ow1 rs1 s1 it
    · exact g1.elim
  | _ => exact g1.elim
theorem di_range2 {tg a b : Expr} {fa fb : M R} {p pos : Pos} (hg : Gl X "range") (hm : X.mg "range" = none) (ha : DE X cl A0 W a fa) (hb : DE X cl A0 W b fb) (hs : starEach [a, b] X.env = [(false, eval a X.env), (false, eval b X.env)] := by rfl) (hs2 : starEach [b] X.env = [(false, eval b X.env)] := by rfl) : DI X cl A0 W tg (.Call (.Name "range" p) [a, b] [] pos) (iRange2 fa fb) := by
  refine piImp (pi_range2 hg hm (pa_cons ha (pa_cons hb pa_nil hs2) (by rw [hs, hs2])) hs hs2) fun σV H Rr z => ?_
  obtain ⟨σ, Av, ow, rs, g⟩ := z
  refine rd_getD (gBind rs.dom rs Stp.refl g fun d σ1 x H1 Av1 ow1 rs1 _ s1 q1 g1 => ?_)
  refine rd_getD (gBind rs.dom rs1 s1 g1 fun d2 σ2 y H2 Av2 ow2 rs2 s12 s2 q2 g2 => ?_)
  cases d with
  | int i =>
    have ex := Top.int q1
    cases d2 with
    | int j =>
      have ey := Top.int q2
      simp only at g2
      split at g2
      · rename_i hz
        exact ⟨i, j, by rw [ex, ey], by omega, g2 _ H2 Av2 ow2 rs2 s2 it_rng⟩
      · exact g2.elim
    | _ => exact g2.elim
  | _ => exact g2.elim
end
end DL

/-! DLmut: lists that a slot owns; the script; is; chains. -/
namespace DL
open PySem L2
section
variable {P : Program} {w : World} {A0 : AK}
theorem cell_stp {H : Hp} {Av : Addr → Prop} {a : Addr} {u o : HO} (h : H a = some u) (O : Addr → Prop) (hO : O a) : Stp H Av O (upd H a o) Av O := by
  refine ⟨fun b v hb n => ?_, fun b v hb => ?_, fun b hb _ => hb, fun b hb => .inl hb, fun b hb => .inl hb⟩
  · have e : b ≠ a := fun e => n (e ▸ hO)
    rw [upd_ne e]; exact hb
  · by_cases e : b = a
    · exact ⟨o, by rw [e]; exact upd_same⟩
    · exact ⟨v, by rw [upd_ne e]; exact hb⟩
/-- the object of the slot i changes -/
theorem RpS.mutate {H : Hp} {Av : Addr → Prop} {ow : Nat → List Addr} {σ : Sl} {σV : St} {i : Nat} {tg : Option Nat} {ob ob' : Ob} {a : Addr} {o' : HO} (r : RpS P w A0 H Av ow σ σV) (hs : σ[i]? = some (some (.mob tg ob))) (hv : σV[i]? = some (some (.ref a))) (ro : RpO P w (upd H a o') Av ob' a [a]) :
    RpS P w A0 (upd H a o') Av ow (σ.set i (some (.mob tg ob'))) σV ∧ Stp H Av (Ow ow) (upd H a o') Av (Ow ow) := by
  obtain ⟨v, hv', q⟩ := r.slot i _ hs
  rw [hv] at hv'; cases hv'
  cases q with
  | mob o t =>
    have el := o.single
    have am : a ∈ ow i := by rw [el]; simp
    have aA : Av a := r.av i a am
    obtain ⟨u, hu⟩ := o.there a (by rw [el]; simp)
    have hi : i < σ.length := (List.getElem?_eq_some_iff.mp hs).1
    have st := cell_stp (Av := Av) (o := o') hu (fun b => b = a) rfl
    have ho : ∀ b, (fun b => b = a) b → Av b := fun b e => e ▸ aA
    refine ⟨⟨fun j sl e => ?_, fun j h => ?_, r.dj, r.av, fun b hb => ?_, by simpa using r.len⟩, cell_stp hu _ ⟨i, am⟩⟩
    · by_cases hj : i = j
      · subst hj
        rw [List.getElem?_set_self hi] at e
        cases e
        exact ⟨_, hv, .mob (by rw [el]; exact ro) t⟩
      · rw [List.getElem?_set_ne hj] at e
        obtain ⟨v, hv2, q2⟩ := r.slot j sl e
        refine ⟨v, hv2, ?_⟩
        cases q2 with
        | pure e0 q2 => exact .pure e0 (q2.step st ho)
        | fdc e0 q2 => exact .fdc e0 (q2.step st ho)
        | scr e0 q2 => exact .scr e0 (q2.step st ho)
        | exo e0 q2 n => exact .exo e0 (st.rd q2 fun h => n (ho _ h)) (st.nav n (rd_some q2))
        | mob o2 t2 => exact .mob (o2.step st ho fun b hb e2 => hj (r.dj i j a am (e2 ▸ hb))) t2
    · refine r.off j fun sl e => ?_
      by_cases hj : i = j
      · subst hj; exact h _ (List.getElem?_set_self hi)
      · exact h sl (by rw [List.getElem?_set_ne hj]; exact e)
    · by_cases e : b = a
      · exact ⟨o', by rw [e]; exact upd_same⟩
      · obtain ⟨u2, hu2⟩ := r.dom b hb
        exact ⟨u2, by rw [upd_ne e]; exact hu2⟩
theorem slot_lst {H : Hp} {Av : Addr → Prop} {ow : Nat → List Addr} {σ : Sl} {σV : St} {i : Nat} {tg : Option Nat} {xs : List D} (r : RpS P w A0 H Av ow σ σV) (hs : σ[i]? = some (some (.mob tg (.lst xs)))) : ∃ a vs, σV[i]? = some (some (.ref a)) ∧ H a = some (.lst vs) ∧ Rps H Av xs vs ∧ Av a := by
  obtain ⟨v, hv, q⟩ := r.slot i _ hs
  cases q with
  | @mob _ _ a _ o t =>
    have am : a ∈ ow i := o.self
    generalize ow i = l at o
    cases o with
    | lst h tt => exact ⟨a, _, hv, h, tt, r.av i a am⟩
end
section
variable {X : Cx} {cl : Nat → Addr} {A0 : AK} {W : WX}

theorem isMl_of {σ : Sl} {i : Nat} (h : isMl σ[i]? = true) : ∃ tg xs, σ[i]? = some (some (.mob tg (.lst xs))) := by
  unfold isMl at h
  split at h
  · rename_i tg xs e; exact ⟨tg, xs, e⟩
  · cases h
/-- name.append(e) -/
theorem de_append {i : Nat} {x : Str} {e : Expr} {fe : M R} {p apos cpos : Pos} (hv : PE X (.Name x p) (tVar i)) (he : DE X cl A0 W e fe)
    (hbase : attributeBase (.Name x p) "append" X.env (eval (.Name x p) X.env) = eval (.Name x p) X.env := by rfl)
    (hfew : ((backTo cpos (starEach [e] X.env)).all (fun x => !x.1) && (backToKw cpos (keywordEach [] X.env)).all (fun x => x.1.isSome) && decide ([e].length + ([] : List Keyword).length + (if ([] : List Keyword).isEmpty then 0 else 1) < 30)) = true := by rfl)
    (hline : (apos.endLine == cpos.line) = true := by rfl) (hs : starEach [e] X.env = (false, eval e X.env) :: starEach [] X.env := by rfl) (hplain : (backTo cpos (starEach [] X.env)).any (·.1) = false := by rfl) :
    DE X cl A0 W (.Call (.Attribute (.Name x p) "append" apos) [e] [] cpos) (eAppend i fe) := by
  refine peImp (pe_bm PySem.F.plainAttrs_list PySem.F.slot_list_append PySem.F.type_list_append mt_append hv (da1 he hs) hbase hfew hline hs hplain) fun σV H Q z => ?_
  obtain ⟨σ, Av, ow, rs, g⟩ := z
  have g : oG X.prog X.w cl A0 W (RpR X.prog X.w) σV H Av ow Q (eAppend i fe σ) := g
  unfold eAppend at g
  by_cases hm : isMl σ[i]? = true
  · simp only [if_pos hm] at g
    obtain ⟨tg, xs0, hs0⟩ := isMl_of hm
    obtain ⟨a, vs0, ha, hc0, _, _⟩ := slot_lst rs hs0
    refine ⟨_, ha, .inl ⟨rfl, _, SqL.of hc0⟩, ?_⟩
    refine gBind rs.dom rs Stp.refl g fun r σ1 y H1 Av1 ow1 rs1 _ s1 q1 g1 => ?_
    unfold mbind at g1
    cases hf : frz r σ1 with
    | fail => rw [hf] at g1; exact g1.elim
    | exn c σ2 => exact (frz_nox hf).elim
    | ok d σ2 =>
      rw [hf] at g1
      obtain ⟨Av2, ow2, rs2, s2, rp, _⟩ := frz_ok rs.dom (fun b h => h) rs1 s1 q1 hf
      simp only at g1
      split at g1
      · rename_i tg2 xs hsl
        by_cases hz : xs.length < zLine
        · simp only [if_pos hz] at g1
          obtain ⟨a2, vs, ha2, hc, rv, aA⟩ := slot_lst rs2 hsl
          rw [ha] at ha2; cases ha2
          refine ⟨a, vs, y, rfl, rfl, hc, by rw [sizeLine_eq, ← rv.len]; exact hz, ?_⟩
          obtain ⟨rs3, s3⟩ := rs2.mutate hsl ha (ob' := .lst (xs ++ [d])) (o' := .lst (vs ++ [y])) (.lst upd_same (Rps.cell (rv.append (.one rp)) aA))
          exact g1 .non _ Av2 ow2 rs3 (s2.trans rs.dom s3) .non
        · simp only [if_neg hz] at g1; exact g1.elim
      · exact g1.elim
  · simp only [if_neg hm] at g; exact g.elim
/-- name.extend(e) -/
theorem de_extend {i : Nat} {x : Str} {e : Expr} {fe : M R} {p apos cpos : Pos} (hv : PE X (.Name x p) (tVar i)) (he : DE X cl A0 W e fe)
    (hbase : attributeBase (.Name x p) "extend" X.env (eval (.Name x p) X.env) = eval (.Name x p) X.env := by rfl)
    (hfew : ((backTo cpos (starEach [e] X.env)).all (fun x => !x.1) && (backToKw cpos (keywordEach [] X.env)).all (fun x => x.1.isSome) && decide ([e].length + ([] : List Keyword).length + (if ([] : List Keyword).isEmpty then 0 else 1) < 30)) = true := by rfl)
    (hline : (apos.endLine == cpos.line) = true := by rfl) (hs : starEach [e] X.env = (false, eval e X.env) :: starEach [] X.env := by rfl) (hplain : (backTo cpos (starEach [] X.env)).any (·.1) = false := by rfl) :
    DE X cl A0 W (.Call (.Attribute (.Name x p) "extend" apos) [e] [] cpos) (eExtend i fe) := by
  refine peImp (pe_bm PySem.F.plainAttrs_list PySem.F.slot_list_extend PySem.F.type_list_extend mt_extend hv (da1 he hs) hbase hfew hline hs hplain) fun σV H Q z => ?_
  obtain ⟨σ, Av, ow, rs, g⟩ := z
  have g : oG X.prog X.w cl A0 W (RpR X.prog X.w) σV H Av ow Q (eExtend i fe σ) := g
  unfold eExtend at g
  by_cases hm : isMl σ[i]? = true
  · simp only [if_pos hm] at g
    obtain ⟨tg, xs0, hs0⟩ := isMl_of hm
    obtain ⟨a, vs0, ha, hc0, _, _⟩ := slot_lst rs hs0
    refine ⟨_, ha, .inl ⟨rfl, _, SqL.of hc0⟩, ?_⟩
    refine gBind rs.dom rs Stp.refl g fun r σ1 y H1 Av1 ow1 rs1 _ s1 q1 g1 => ?_
    unfold mbind at g1
    cases hf : frz r σ1 with
    | fail => rw [hf] at g1; exact g1.elim
    | exn c σ2 => exact (frz_nox hf).elim
    | ok d σ2 =>
      rw [hf] at g1
      obtain ⟨Av2, ow2, rs2, s2, rp, _⟩ := frz_ok rs.dom (fun b h => h) rs1 s1 q1 hf
      cases d with
      | lst ys =>
        simp only at g1
        split at g1
        · rename_i tg2 xs hsl
          by_cases hz : xs.length + ys.length ≤ zLine
          · simp only [if_pos hz] at g1
            obtain ⟨a2, vs, ha2, hc, rv, aA⟩ := slot_lst rs2 hsl
            rw [ha] at ha2; cases ha2
            cases rp with
            | @lst b us _ hb nb ry =>
              refine ⟨a, b, vs, us, rfl, rfl, hc, hb, by rw [sizeLine_eq, ← rv.len, ← ry.len]; exact hz, ?_⟩
              obtain ⟨rs3, s3⟩ := rs2.mutate hsl ha (ob' := .lst (xs ++ ys)) (o' := .lst (vs ++ us)) (.lst upd_same (Rps.cell (rv.append ry) aA))
              exact g1 .non _ Av2 ow2 rs3 (s2.trans rs.dom s3) .non
          · simp only [if_neg hz] at g1; exact g1.elim
        · exact g1.elim
      | _ => exact g1.elim
  · simp only [if_neg hm] at g; exact g.elim
/-- name.pop() -/
theorem de_pop {i : Nat} {x : Str} {p apos cpos : Pos} (hv : PE X (.Name x p) (tVar i))
    (hbase : attributeBase (.Name x p) "pop" X.env (eval (.Name x p) X.env) = eval (.Name x p) X.env := by rfl) (hline : (apos.endLine == cpos.line) = true := by rfl) :
    DE X cl A0 W (.Call (.Attribute (.Name x p) "pop" apos) [] [] cpos) (ePop i) := by
  refine peImp (pe_bm0 PySem.F.plainAttrs_list PySem.F.slot_list_pop PySem.F.type_list_pop mt_pop hv hbase hline) fun σV H Q z => ?_
  obtain ⟨σ, Av, ow, rs, g⟩ := z
  have g : oG X.prog X.w cl A0 W (RpR X.prog X.w) σV H Av ow Q (ePop i σ) := g
  unfold ePop at g
  split at g
  · rename_i tg xs hsl
    obtain ⟨a, vs, ha, hc, rv, aA⟩ := slot_lst rs hsl
    cases hx : xs[xs.length - 1]? with
    | none => simp only [hx] at g; exact g.elim
    | some d =>
      simp only [hx] at g
      obtain ⟨y, hy, ry⟩ := rv.get hx
      refine ⟨_, ha, .inl ⟨rfl, _, SqL.of hc⟩, a, vs, y, rfl, rfl, hc, by rw [← rv.len]; exact hy, ?_⟩
      obtain ⟨rs3, s3⟩ := rs.mutate hsl ha (ob' := .lst xs.dropLast) (o' := .lst vs.dropLast) (.lst upd_same (Rps.cell rv.dropLast aA))
      exact g y _ Av ow rs3 s3 (ry.cell aA)
  · exact g.elim
/-! ### the script -/
theorem slot_scr {H : Hp} {Av : Addr → Prop} {ow : Nat → List Addr} {σ : Sl} {σV : St} {i : Nat} {ns : List Int} (r : RpS X.prog X.w A0 H Av ow σ σV) (hk : A0.K = X.K) (hs : σ[i]? = some (some (.scr ns))) : ∃ a, σV[i]? = some (some (.ref a)) ∧ SqL X.K H a (ns.map V.int) := by
  obtain ⟨v, hv, q⟩ := r.slot i _ hs
  cases q with
  | scr e q =>
    rw [hk] at q
    exact ⟨_, hv, q.elim (fun z => .inl z.1) .inr⟩
theorem rd_scr (hk : A0.K = X.K) {i : Nat} {f : List Int → Option R} {σV : St} {H : Hp} {Q : VK} (z : (rdE X.prog X.w cl A0 W) (scrAt i f) σV H Q) : ∃ a ns r, σV[i]? = some (some (.ref a)) ∧ SqL X.K H a (ns.map V.int) ∧ f ns = some r ∧ ∃ Av, (∀ a, Av a → ∃ o, H a = some o) ∧ ∀ v H', NewR X.prog X.w H H' Av r v → Q v H' := by
  obtain ⟨σ, Av, ow, rs, g⟩ := z
  have g : oG X.prog X.w cl A0 W (RpR X.prog X.w) σV H Av ow Q (scrAt i f σ) := g
  unfold scrAt at g
  split at g
  · rename_i ns hsl
    obtain ⟨a, ha, hq⟩ := slot_scr rs hk hsl
    cases hf : f ns with
    | none => simp only [hf] at g; exact g.elim
    | some r =>
      simp only [hf] at g
      exact ⟨a, ns, r, ha, hq, hf, Av, rs.dom, fun v H' nr => gEnd rs.dom rs Stp.refl g nr⟩
  · exact g.elim
theorem rps_ints {H : Hp} {Av : Addr → Prop} : ∀ ns : List Int, Rps H Av (ns.map .int) (ns.map V.int)
  | [] => .nil
  | n :: ns => .cons (.int n) (rps_ints ns)
/-- script == [] -/
theorem rd_scrNil (hk : A0.K = X.K) {i : Nat} {σV : St} {H : Hp} {Q : VK} (z : (rdE X.prog X.w cl A0 W) (eScrNil i) σV H Q) : tOp (rEqAll X.K false) (tVar i) (tLst tNil) σV H Q := by
  obtain ⟨a, ns, r, ha, hq, hf, Av, hd, k⟩ := rd_scr hk z
  cases hf
  refine ⟨_, ha, by simp, fun p hp => ?_⟩
  have sm : Same H (upd H p (.lst [])) := upd_new hp
  have hq2 : SqL X.K (upd H p (.lst [])) a (ns.map V.int) := by
    rcases hq with (h | ⟨o, h⟩) | h
    · exact .inl (.inl (sm _ _ h))
    · exact .inl (.inr ⟨o, sm _ _ h⟩)
    · exact .inr h
  have dp : ∀ {H : Hp} (ns : List Int), DpAll X.K H (ns.map V.int) (ns.map PyData.int) := fun {H} ns => by
    induction ns with
    | nil => exact .nil
    | cons n ns ih => exact .cons (.int n) ih
  have lay : ∀ ns : List Int, PyData.canLayAll0 (ns.map PyData.int) = true := fun ns => by
    induction ns with
    | nil => simp [PyData.canLayAll0]
    | cons n ns ih => simp [PyData.canLayAll0, PyData.canLay0, ih]
  refine ⟨.list (ns.map PyData.int), .list [], .lst hq2 (dp ns), .lst (SqL.of upd_same) .nil, by simp [PyData.canLay0, lay], by simp [PyData.canLay0, PyData.canLayAll0], by simp [PyData.depth, PyData.depthAll], ?_⟩
  rw [if_neg Bool.false_ne_true]
  have e : PyData.eqv (.list (ns.map PyData.int)) (.list []) = ns.isEmpty := by cases ns <;> simp [PyData.eqv, PyData.eqvAll]
  rw [e]
  exact k _ _ ⟨sm, .bl _⟩
theorem de_scrNil (hk : A0.K = X.K) {i : Nat} {x : Str} {p pos pos' : Pos} (hu : X.A.units + 64 < cLine) (hv : PE X (.Name x p) (tVar i)) : DE X cl A0 W (.Compare (.Name x p) [.Eq] [.List [] pos'] pos) (eScrNil i) :=
  peImp (pe_cmpR (or_eq hu) hv (pe_lst pa_nil) (nomark _)) fun _ _ _ z => rd_scrNil hk z
theorem dt_scrNil (hk : A0.K = X.K) {i : Nat} {x : Str} {p pos pos' : Pos} (hu : X.A.units + 64 < cLine) (hv : PE X (.Name x p) (tVar i)) : DT X cl A0 W (.Compare (.Name x p) [.Eq] [.List [] pos'] pos) (tB (eScrNil i)) :=
  ptImp (pt_cmpR (or_eq hu) hv (pe_lst pa_nil) (nomark _)) fun _ _ _ z => rd_scrNil hk (rd_tB z)
/-- len(script) -/
theorem de_scrLen (hk : A0.K = X.K) {i : Nat} {x : Str} {p p2 pos : Pos} (hg : Gl X "len") (hm : X.mg "len" = none) (hv : PE X (.Name x p) (tVar i)) (hs : starEach [.Name x p] X.env = (false, eval (.Name x p) X.env) :: starEach [] X.env := by rfl) (hpl : (backTo pos (starEach [] X.env)).any (·.1) = false := by rfl) :
    DE X cl A0 W (.Call (.Name "len" p2) [.Name x p] [] pos) (eScrLen i) := by
  refine peImp (pe_callB call_len hg hm PySem.boot_len (pa_cons hv pa_nil hs) (by decide) (by decide) hs hpl) fun σV H Q z => ?_
  obtain ⟨a, ns, r, ha, hq, hf, Av, hd, k⟩ := rd_scr hk z
  cases hf
  exact ⟨_, ha, _, ns.length, rfl, .inl ⟨_, hq, by simp⟩, k _ _ (new_pure (.int _))⟩
/-- list(script) -/
theorem de_scrList (hk : A0.K = X.K) {i : Nat} {x : Str} {p p2 pos : Pos} (hg : Gl X "list") (hm : X.mg "list" = none) (hv : PE X (.Name x p) (tVar i)) (hs : starEach [.Name x p] X.env = (false, eval (.Name x p) X.env) :: starEach [] X.env := by rfl) (hpl : (backTo pos (starEach [] X.env)).any (·.1) = false := by rfl) :
    DE X cl A0 W (.Call (.Name "list" p2) [.Name x p] [] pos) (eScrList i) := by
  refine peImp (pe_callTy call_list_of hg hm (by decide +kernel) (pa_cons hv pa_nil hs) (by decide) (by decide) hs hpl) fun σV H Q z => ?_
  obtain ⟨a, ns, r, ha, hq, hf, Av, hd, k⟩ := rd_scr hk z
  cases hf
  exact ⟨_, ha, a, _, rfl, .inl hq, fun l hl => k _ _ (new_lst (rps_ints ns) hl)⟩
/-- script[e] -/
theorem de_scrIx (hk : A0.K = X.K) {i : Nat} {x : Str} {e : Expr} {fe : M R} {p pos : Pos} (hv : PE X (.Name x p) (tVar i)) (he : DE X cl A0 W e fe) (hs : PlainIx e := by intro _ _; rfl) : DE X cl A0 W (.Subscript (.Name x p) e pos) (eScrIx i fe) := by
  refine peImp (pe_ix ix_list hv he hs) fun σV H Q z => ?_
  obtain ⟨σ, Av, ow, rs, g⟩ := z
  have g : oG X.prog X.w cl A0 W (RpR X.prog X.w) σV H Av ow Q (eScrIx i fe σ) := g
  unfold eScrIx at g
  split at g
  case h_2 => exact g.elim
  rename_i ns0 hs0
  obtain ⟨a0, hvi, _⟩ := slot_scr rs hk hs0
  refine ⟨_, hvi, ?_⟩
  refine gBind rs.dom rs Stp.refl g fun r σ1 y H1 Av1 ow1 rs1 _ s1 q1 g1 => ?_
  cases ha : asD r σ1 with
  | none => simp only [ha] at g1; exact g1.elim
  | some d =>
    cases d with
    | int k =>
      simp only [ha] at g1
      rw [(asD_ok rs1 q1 ha).int]
      unfold scrAt at g1
      split at g1
      · rename_i ns hsl
        obtain ⟨a, ha1, hq⟩ := slot_scr rs1 hk hsl
        rw [hvi] at ha1; cases ha1
        cases hj : ixOf k ns.length with
        | none => simp only [hj] at g1; exact g1.elim
        | some j =>
          simp only [hj] at g1
          cases hx : ns[j]? with
          | none => simp only [hx] at g1; exact g1.elim
          | some z =>
            simp only [hx] at g1
            refine ⟨_, _, k, .int z, rfl, rfl, hq, ?_, gEnd rs.dom rs1 s1 g1 (new_pure (.int z))⟩
            unfold atI
            rw [List.length_map, ← ixOf_eq, hj]
            show (ns.map V.int)[j]? = _
            rw [List.getElem?_map, hx]
            rfl
      · exact g1.elim
    | _ => simp only [ha] at g1; exact g1.elim
/-! ### is -/
theorem isN_eq {H : Hp} {Av : Addr → Prop} {d : D} {x : V} (t : Top H Av d x) : isN d = decide (x = .non) := by
  cases d with
  | non => rw [t.non]; rfl
  | bl b => rw [t.bl]; rfl
  | int i => rw [t.int]; rfl
  | str s => rw [t.str.1]; rfl
  | tup xs => obtain ⟨a, vs, rfl, _⟩ := t.tup; rfl
  | lst xs => obtain ⟨a, vs, rfl, _⟩ := t.lst; rfl
theorem de_isN {e : Expr} {fe : M R} {j pos pos'} (he : DE X cl A0 W e fe) : DE X cl A0 W (.Compare e [.Is] [.Constant .none j pos'] pos) (e1 (pyIsN false) fe) := by
  refine peImp (pe_cmp (pc_isN he)) fun σV H Q z => rd_e1 (r := fun x H Q => Q (.bl (decide (x = .non))) H) ?_ z
  intro H Av d x z Q hd t hf k
  cases hf
  rw [← isN_eq t]
  exact k _ _ (new_pure (.bl _))
theorem de_notN {e : Expr} {fe : M R} {j pos pos'} (he : DE X cl A0 W e fe) : DE X cl A0 W (.Compare e [.IsNot] [.Constant .none j pos'] pos) (e1 (pyIsN true) fe) := by
  refine peImp (pe_cmp (pc_notN he)) fun σV H Q z => rd_e1 (r := fun x H Q => Q (.bl (!decide (x = .non))) H) ?_ z
  intro H Av d x z Q hd t hf k
  cases hf
  rw [← isN_eq t]
  exact k _ _ (new_pure (.bl _))
theorem dt_isN {e : Expr} {fe : M R} {j pos pos'} (he : DE X cl A0 W e fe) : DT X cl A0 W (.Compare e [.Is] [.Constant .none j pos'] pos) (tB (e1 (pyIsN false) fe)) := by
  refine ptImp (pt_cmp (pc_isN he)) fun σV H Q z => rd_e1 (r := fun x H Q => Q (.bl (decide (x = .non))) H) ?_ (rd_tB z)
  intro H Av d x z Q hd t hf k
  cases hf
  rw [← isN_eq t]
  exact k _ _ (new_pure (.bl _))
theorem dt_notN {e : Expr} {fe : M R} {j pos pos'} (he : DE X cl A0 W e fe) : DT X cl A0 W (.Compare e [.IsNot] [.Constant .none j pos'] pos) (tB (e1 (pyIsN true) fe)) := by
  refine ptImp (pt_cmp (pc_notN he)) fun σV H Q z => rd_e1 (r := fun x H Q => Q (.bl (!decide (x = .non))) H) ?_ (rd_tB z)
  intro H Av d x z Q hd t hf k
  cases hf
  rw [← isN_eq t]
  exact k _ _ (new_pure (.bl _))
theorem o_isB (c : Bool) : Op1 X.prog X.w (pyIsB false c) (fun x H Q => rIsB x (.bl c) H Q) := by
  intro H Av d x z Q hd t hf k
  cases d with
  | bl b =>
    cases hf
    rw [t.bl]
    refine ⟨b, c, rfl, rfl, ?_⟩
    rw [show decide (b = c) = (b == c) by cases b <;> cases c <;> rfl]
    exact k _ _ (new_pure (.bl _))
  | _ => cases hf
theorem o_notB (c : Bool) : Op1 X.prog X.w (pyIsB true c) (fun x H Q => rNotB x (.bl c) H Q) := by
  intro H Av d x z Q hd t hf k
  cases d with
  | bl b =>
    cases hf
    rw [t.bl]
    refine ⟨b, c, rfl, rfl, ?_⟩
    rw [show decide (b = c) = (b == c) by cases b <;> cases c <;> rfl]
    exact k _ _ (new_pure (.bl _))
  | _ => cases hf
theorem de_isB {e : Expr} {fe : M R} {c : Bool} {j pos pos'} (he : DE X cl A0 W e fe) : DE X cl A0 W (.Compare e [.Is] [.Constant (.bool c) j pos'] pos) (e1 (pyIsB false c) fe) :=
  peImp (pe_cmpR op_isBl he pe_bl (nomark _)) fun _ _ _ z => rd_e1 (o_isB c) z
theorem de_notB {e : Expr} {fe : M R} {c : Bool} {j pos pos'} (he : DE X cl A0 W e fe) : DE X cl A0 W (.Compare e [.IsNot] [.Constant (.bool c) j pos'] pos) (e1 (pyIsB true c) fe) :=
  peImp (pe_cmpR op_notBl he pe_bl (nomark _)) fun _ _ _ z => rd_e1 (o_notB c) z
theorem dt_isB {e : Expr} {fe : M R} {c : Bool} {j pos pos'} (he : DE X cl A0 W e fe) : DT X cl A0 W (.Compare e [.Is] [.Constant (.bool c) j pos'] pos) (tB (e1 (pyIsB false c) fe)) :=
  ptImp (pt_cmpR op_isBl he pe_bl (nomark _)) fun _ _ _ z => rd_e1 (o_isB c) (rd_tB z)
theorem dt_notB {e : Expr} {fe : M R} {c : Bool} {j pos pos'} (he : DE X cl A0 W e fe) : DT X cl A0 W (.Compare e [.IsNot] [.Constant (.bool c) j pos'] pos) (tB (e1 (pyIsB true c) fe)) :=
  ptImp (pt_cmpR op_notBl he pe_bl (nomark _)) fun _ _ _ z => rd_e1 (o_notB c) (rd_tB z)
/-! ### a op b op' c -/
def RlI : Rel Int V := fun _ _ _ _ _ i v => v = .int i
theorem rd_getI {fe : M R} {σV : St} {H : Hp} {Q : VK} (z : rdG X.prog X.w cl A0 W RlI (getI fe) σV H Q) : (rdE X.prog X.w cl A0 W) fe σV H Q := by
  obtain ⟨σ, Av, ow, rs, g⟩ := z
  refine rd_getD (gBind rs.dom rs Stp.refl g fun d σ1 x H1 Av1 ow1 rs1 _ s1 q1 g1 => ?_)
  cases d with
  | int i => exact g1 x H1 Av1 ow1 rs1 s1 (Top.int q1)
  | _ => exact g1.elim
theorem rd_chain {p q : Int → Int → Bool} {fa fb fc : M R} {σV : St} {H : Hp} {Q : VK} (z : (rdE X.prog X.w cl A0 W) (eChain p q fa fb fc) σV H Q) : tChain (rI0 fun i j => .bl (p i j)) (rI0 fun i j => .bl (q i j)) ((rdE X.prog X.w cl A0 W) fa) ((rdE X.prog X.w cl A0 W) fb) ((rdE X.prog X.w cl A0 W) fc) σV H Q := by
  obtain ⟨σ, Av, ow, rs, g⟩ := z
  refine rd_getI (gBind rs.dom rs Stp.refl g fun i σ1 x H1 Av1 ow1 rs1 _ s1 q1 g1 => ?_)
  refine rd_getI (gBind rs.dom rs1 s1 g1 fun j σ2 y H2 Av2 ow2 rs2 s12 s2 q2 g2 => ?_)
  cases (show x = V.int i from q1)
  cases (show y = V.int j from q2)
  refine ⟨i, j, rfl, rfl, p i j, rfl, ?_⟩
  by_cases h : p i j = true
  · simp only [if_pos h] at g2
    rw [if_pos h]
    refine rd_getI (gBind rs.dom rs2 s2 g2 fun l σ3 z H3 Av3 ow3 rs3 s23 s3 q3 g3 => ?_)
    cases (show z = V.int l from q3)
    exact ⟨j, l, rfl, rfl, g3 _ H3 Av3 ow3 rs3 s3 (.bl _)⟩
  · simp only [if_neg h] at g2
    rw [if_neg h]
    exact g2 _ H2 Av2 ow2 rs2 s2 (.bl _)
theorem de_chain {op op' : CmpOp} {p q : Int → Int → Bool} {a b c : Expr} {fa fb fc : M R} {pos : Pos} (ho : OpR X (compareOp op) (rI0 fun i j => .bl (p i j))) (ho' : OpR X (compareOp op') (rI0 fun i j => .bl (q i j))) (ha : DE X cl A0 W a fa) (hb : DE X cl A0 W b fb) (hc : DE X cl A0 W c fc)
    (hm : lastMarks [op, op'] [b, c] = false := by with_unfolding_all rfl) : DE X cl A0 W (.Compare a [op, op'] [b, c] pos) (eChain p q fa fb fc) := peImp (pe_chain ho ho' ha hb hc hm) fun _ _ _ z => rd_chain z
theorem dt_chain {op op' : CmpOp} {p q : Int → Int → Bool} {a b c : Expr} {fa fb fc : M R} {pos : Pos} (ho : OpR X (compareOp op) (rI0 fun i j => .bl (p i j))) (ho' : OpR X (compareOp op') (rI0 fun i j => .bl (q i j))) (ha : DE X cl A0 W a fa) (hb : DE X cl A0 W b fb) (hc : DE X cl A0 W c fc)
    (hm : lastMarks [op, op'] [b, c] = false := by with_unfolding_all rfl) : DT X cl A0 W (.Compare a [op, op'] [b, c] pos) (tB (eChain p q fa fb fc)) := ptImp (pt_chain ho ho' ha hb hc hm) fun _ _ _ z => rd_chain (rd_tB z)

/-! ### a, b = x, y -/
def RlRs (P : Program) (w : World) (σV : St) (H : Hp) (Av : Addr → Prop) (ow : Nat → List Addr) : List R → List V → Hp → Prop
  | [], [], _ => True
  | r :: rs, v :: vs, H0 => ∃ H1, RpR P w σV H0 H Av ow r v ∧ (∀ i, r ≠ .bor i) ∧ (∀ a, v = .ref a → ∃ o, H1 a = some o) ∧ (∀ b, H1 b = none → H0 b = none) ∧ RlRs P w σV H Av ow rs vs H1
  | _, _, _ => False
theorem RlRs.step {P : Program} {w : World} {σV : St} {H H' : Hp} {Av Av' : Addr → Prop} {ow ow' : Nat → List Addr} (s : Stp H Av (Ow ow) H' Av' (Ow ow')) (ho : ∀ a, Ow ow a → Av a) : ∀ {rs : List R} {vs : List V} {H0 : Hp}, RlRs P w σV H Av ow rs vs H0 → RlRs P w σV H' Av' ow' rs vs H0
  | [], [], _, _ => trivial
  | r :: rs, v :: vs, H0, ⟨H1, q, nb, hv, hn, t⟩ => ⟨H1, q.step s ho, nb, hv, hn, RlRs.step s ho t⟩
  | [], _ :: _, _, h => h.elim
  | _ :: _, [], _, h => h.elim
theorem RlRs.len {P : Program} {w : World} {σV : St} {H : Hp} {Av : Addr → Prop} {ow : Nat → List Addr} : ∀ {rs : List R} {vs : List V} {H0 : Hp}, RlRs P w σV H Av ow rs vs H0 → rs.length = vs.length
  | [], [], _, _ => rfl
  | r :: rs, v :: vs, H0, ⟨H1, _, _, _, _, t⟩ => by simp [RlRs.len t]
  | [], _ :: _, _, h => h.elim
  | _ :: _, [], _, h => h.elim
def RlRr (P : Program) (w : World) : Rel (List R) (List V) := fun σV H0 H Av ow rs vs => RlRs P w σV H Av ow rs vs H0
def DRs (X : Cx) (cl : Nat → Addr) (A0 : AK) (W : WX) (es : List Expr) (f : M (List R)) : Prop := PA X es (rdG X.prog X.w cl A0 W (RlRr X.prog X.w) f)
theorem drs_nil : DRs X cl A0 W [] (eRs []) := by
  refine paImp pa_nil fun σV H Q z => ?_
  obtain ⟨σ, Av, ow, rs, g⟩ := z
  exact g [] H Av ow rs Stp.refl trivial
theorem rpr_there {P : Program} {w : World} {σV : St} {H0 H : Hp} {Av : Addr → Prop} {ow : Nat → List Addr} {r : R} {v : V} (nb : ∀ i, r ≠ .bor i) (q : RpR P w σV H0 H Av ow r v) : ∀ a, v = .ref a → ∃ o, H a = some o := by
  intro a e
  subst e
  cases r with
  | pure d => cases q with
    | tup h _ _ => exact ⟨_, h⟩
    | lst h _ _ => exact ⟨_, h⟩
  | fdc ob => cases q with
    | dct h _ _ => exact ⟨_, h⟩
    | dcs h _ _ => exact ⟨_, h⟩
  | own ob =>
    obtain ⟨b, l, e, o, _⟩ := q
    cases e
    exact o.there a o.self
  | bor i => exact (nb i rfl).elim
theorem drs_cons {e : Expr} {es : List Expr} {fe : M R} {fs : List (M R)} (he : DE X cl A0 W e fe) (hr : DRs X cl A0 W es (eRs fs)) (hs : starEach (e :: es) X.env = (false, eval e X.env) :: starEach es X.env := by rfl) : DRs X cl A0 W (e :: es) (eRs (fe :: fs)) := by
  refine paImp (pa_cons he hr hs) fun σV H Q z => ?_
  obtain ⟨σ, Av, ow, rs, g⟩ := z
  refine gBind rs.dom rs Stp.refl g fun r1 σ1 x H1 Av1 ow1 rs1 _ s1 q1 g1 => ?_
  have g1 : oG X.prog X.w cl A0 W (RlRr X.prog X.w) σV H Av ow Q (mbind (fix r1) (fun r => mbind (eRs fs) fun rs => mok (r :: rs)) σ1) := g1
  unfold mbind at g1
  cases hf : fix r1 σ1 with
  | fail => rw [hf] at g1; exact g1.elim
  | exn c σ2 => exact (fix_nox hf).elim
  | ok r2 σ2 =>
    rw [hf] at g1
    obtain ⟨Av2, ow2, rs2, s2, q2, nb, _, _, _⟩ := fix_ok rs.dom rs1 s1 q1 hf
    refine gBind (m := eRs fs) (k := fun rs => mok (r2 :: rs)) rs.dom rs2 s2 g1 fun rl σ3 xs H3 Av3 ow3 rs3 s23 s3 q3 g3 => ?_
    exact g3 (x :: xs) H3 Av3 ow3 rs3 s3 ⟨H1, q2.step s23 rs2.ho, nb, rpr_there nb q2, fun b h => s1.none_of h, q3⟩
theorem puts_ok {P : Program} {w : World} {A0 : AK} {H0 H : Hp} {Av0 Av O0 : Addr → Prop} : ∀ {is : List Nat} {rl : List R} {vs : List V} {Hb : Hp} {ow : Nat → List Addr} {σ σ' : Sl} {σV : St} {fl : Flow}, RpS P w A0 H Av ow σ σV → Stp H0 Av0 O0 H Av (Ow ow) → (∀ b, Hb b = none → H0 b = none) → (∀ i ∈ is, i < σ.length) → rl.length = is.length → RlRs P w σV H Av ow rl vs Hb → puts is rl σ = .ok fl σ' →
    fl = .next ∧ ∃ ow', RpS P w A0 H Av ow' σ' (setV is vs σV) ∧ Stp H0 Av0 O0 H Av (Ow ow')
  | [], rl, vs, Hb, ow, σ, σ', σV, fl, r, s, hb, _, hl, q, e => by
    cases rl with
    | nil =>
      cases e
      cases vs with
      | nil => exact ⟨rfl, ow, r, s⟩
      | cons v vs => exact q.elim
    | cons _ _ => simp at hl
  | i :: is, rl, vs, Hb, ow, σ, σ', σV, fl, r, s, hb, hi, hl, q, e => by
    cases rl with
    | nil => simp at hl
    | cons z rl =>
      cases vs with
      | nil => exact q.elim
      | cons v vs =>
        obtain ⟨H1, qz, nb, hv, hn, t⟩ := q
        unfold puts sSeq mbind at e
        cases hp : put i z σ with
        | fail => rw [hp] at e; cases e
        | exn c σ2 => rw [hp] at e; cases e
        | ok f2 σ2 =>
          have ef : f2 = .next := by cases z <;> cases hp <;> rfl
          subst ef
          rw [hp] at e
          obtain ⟨ow1, r1, s1, k1⟩ := put_ok r s hb (hi i (by simp)) qz hp
          have lσ : σ2.length = σ.length := by rw [r1.len, List.length_set, ← r.len]
          have tt : RlRs P w (σV.set i (some v)) H Av ow1 rl vs H1 := by
            have gen : ∀ {rl : List R} {vs : List V} {Hc : Hp}, (∀ b, Hc b = none → H1 b = none) → RlRs P w σV H Av ow rl vs Hc → RlRs P w (σV.set i (some v)) H Av ow1 rl vs Hc := by
              intro rl
              induction rl with
              | nil => intro vs Hc _ q; cases vs with
                | nil => trivial
                | cons _ _ => exact q.elim
              | cons r0 rl ih =>
                intro vs Hc hc q
                cases vs with
                | nil => exact q.elim
                | cons v0 vs =>
                  obtain ⟨Hd, q0, nb0, hv0, hn0, t0⟩ := q
                  refine ⟨Hd, ?_, nb0, hv0, hn0, ih (fun b h => hc b (hn0 b h)) t0⟩
                  cases r0 with
                  | pure d => exact q0
                  | fdc d => exact q0
                  | bor j => exact (nb0 j rfl).elim
                  | own ob =>
                    obtain ⟨a, l, ea, o, k⟩ := q0
                    refine ⟨a, l, ea, o, fun b hb => ⟨(k b hb).1, fun z0 => ?_, (k b hb).2.2⟩⟩
                    rcases k1 b z0 with z1 | ⟨_, ob1, a1, l1, _, ev, o1, m1⟩
                    · exact (k b hb).2.1 z1
                    · rw [o1.single] at m1
                      obtain rfl : b = a1 := by simpa using m1
                      obtain ⟨u, hu⟩ := hv b ev
                      rw [hc b (k b hb).2.2] at hu; cases hu
            exact gen (fun b h => h) t
          exact puts_ok (is := is) (rl := rl) (vs := vs) (σV := σV.set i (some v)) r1 s1 (fun b h => hb b (hn b h)) (fun j hj => by rw [lσ]; exact hi j (List.mem_cons_of_mem _ hj)) (by simpa using hl) tt e
theorem eRs_len : ∀ {fs : List (M R)} {σ σ' : Sl} {rl : List R}, eRs fs σ = .ok rl σ' → rl.length = fs.length
  | [], σ, σ', ds, h => by cases h; rfl
  | f :: fs, σ, σ', ds, h => by
    unfold eRs mbind at h
    cases h1 : f σ with
    | fail => rw [h1] at h; cases h
    | exn c σ1 => rw [h1] at h; cases h
    | ok r σ1 =>
      rw [h1] at h
      dsimp only at h
      cases h2 : fix r σ1 with
      | fail => rw [h2] at h; cases h
      | exn c σ2 => rw [h2] at h; cases h
      | ok d σ2 =>
        rw [h2] at h
        dsimp only at h
        cases h3 : eRs fs σ2 with
        | fail => rw [h3] at h; cases h
        | exn c σ3 => rw [h3] at h; cases h
        | ok es σ3 =>
          rw [h3] at h
          have e := eRs_len h3
          cases h
          simp [e]
theorem puts_nox : ∀ {is : List Nat} {rl : List R} {σ σ' : Sl} {c : Nat}, puts is rl σ ≠ .exn c σ'
  | [], rl, σ, σ', c, h => by cases rl <;> cases h
  | i :: is, [], σ, σ', c, h => by cases h
  | i :: is, r :: rl, σ, σ', c, h => by
    unfold puts sSeq mbind at h
    cases hp : put i r σ with
    | fail => rw [hp] at h; cases h
    | exn c σ2 => cases r <;> cases hp
    | ok f2 σ2 =>
      have ef : f2 = .next := by cases r <;> cases hp <;> rfl
      subst ef
      rw [hp] at h
      exact puts_nox h
theorem rd_par {is : List Nat} {fs : List (M R)} {D : Ends} {σV : St} {H : Hp} (hn : fs.length = is.length) (hi : ∀ i ∈ is, i < σV.length) (z : (rdS X.prog X.w cl A0 W) (sPar is fs) D σV H) :
    rdG X.prog X.w cl A0 W (RlRr X.prog X.w) (eRs fs) σV H fun vs H1 => vs.length = is.length ∧ ∀ H2, Same H1 H2 → D.nx (setV is vs σV) H2 := by
  obtain ⟨σ, Av, ow, rs, g⟩ := z
  refine ⟨σ, Av, ow, rs, ?_⟩
  unfold sPar mbind at g
  cases hf : eRs fs σ with
  | fail => rw [hf] at g; exact g.elim
  | exn c σ1 => rw [hf] at g; exact fun H' Av' ow' r' s' => g σV H' Av' ow' rfl r' s'
  | ok rl σ1 =>
    rw [hf] at g
    intro vs H1 Av1 ow1 rs1 s1 q1
    have q1 : RlRs X.prog X.w σV H1 Av1 ow1 rl vs H := q1
    have ll : rl.length = is.length := (eRs_len hf).trans hn
    refine ⟨by rw [← q1.len]; exact ll, fun H2 sm => ?_⟩
    have rs2 := rs1.same sm
    have s2 := s1.trans rs.dom (Same.stp (Av := Av1) (O := Ow ow1) sm)
    have q2 := q1.step (Same.stp (Av := Av1) (O := Ow ow1) sm) rs1.ho
    cases hp : puts is rl σ1 with
    | fail => simp only [hp] at g; exact g.elim
    | exn c σ2 => exact (puts_nox hp).elim
    | ok fl σ2 =>
      simp only [hp] at g
      obtain ⟨rfl, ow3, rs3, s3⟩ := puts_ok rs2 s2 (fun b h => h) (fun i h => by rw [rs1.len]; exact hi i h) ll q2 hp
      exact g _ H2 Av1 ow3 (setV_len _ _ _) rs3 s3
theorem ds_par2 {i j : Nat} {x y : Str} {a b : Expr} {fs : List (M R)} {px py pt pos : Pos} {kt k2 pt2} (hc : X.calm = true) (hN : X.N.Nodup) (hi : X.N[i]? = some x) (hj : X.N[j]? = some y) (hx : X.env.scope.names.lookup x = some .local) (hy : X.env.scope.names.lookup y = some .local) (ha : DRs X cl A0 W [a, b] (eRs fs))
    (hw : swappedStores [.Tuple [.Name x px, .Name y py] kt pt] (.Tuple [a, b] k2 pt2) X.env = pure (some [x, y])) (hn : fs.length = 2 := by rfl) (hij : i ≠ j := by decide)
    (hs : swapsWithSole [.Tuple [.Name x px, .Name y py] kt pt] (.Tuple [a, b] k2 pt2) pos.line X.env = pure false := by rfl) : DS X cl A0 W (.Assign [.Tuple [.Name x px, .Name y py] kt pt] (.Tuple [a, b] k2 pt2) pos) (sPar [i, j] fs) := by
  refine psImpN (ps_par hc hN hi hj hij hx hy ha hw hs) fun D σV H l z => ?_
  have z2 := rd_par hn (fun k hk => by
    have h1 := (List.getElem?_eq_some_iff.mp hi).1
    have h2 := (List.getElem?_eq_some_iff.mp hj).1
    simp at hk
    rcases hk with e | e <;> (subst e; omega)) z
  obtain ⟨σ, Av, ow, rs, g⟩ := z2
  refine ⟨σ, Av, ow, rs, ?_⟩
  cases hf : eRs fs σ with
  | fail => rw [hf] at g; exact g
  | exn c σ1 => rw [hf] at g; exact g
  | ok rl σ1 =>
    rw [hf] at g
    intro vs H1 Av1 ow1 rs1 s1 q1
    obtain ⟨lv, k⟩ := g vs H1 Av1 ow1 rs1 s1 q1
    match vs, lv, k with
    | [v, u], _, k => exact ⟨v, u, rfl, k H1 fun _ _ h => h⟩
theorem ds_par3 {i j l : Nat} {x y z : Str} {a b c : Expr} {fs : List (M R)} {px py pz pt pos : Pos} {kt k2 pt2} (hc : X.calm = true) (hN : X.N.Nodup) (hi : X.N[i]? = some x) (hj : X.N[j]? = some y) (hl : X.N[l]? = some z) (hx : X.env.scope.names.lookup x = some .local) (hy : X.env.scope.names.lookup y = some .local) (hz : X.env.scope.names.lookup z = some .local) (ha : DRs X cl A0 W [a, b, c] (eRs fs))
    (hw : swappedStores [.Tuple [.Name x px, .Name y py, .Name z pz] kt pt] (.Tuple [a, b, c] k2 pt2) X.env = pure (some [x, y, z])) (hn : fs.length = 3 := by rfl) (hij : i ≠ j := by decide) (hil : i ≠ l := by decide) (hjl : j ≠ l := by decide)
    (hs : swapsWithSole [.Tuple [.Name x px, .Name y py, .Name z pz] kt pt] (.Tuple [a, b, c] k2 pt2) pos.line X.env = pure false := by rfl) : DS X cl A0 W (.Assign [.Tuple [.Name x px, .Name y py, .Name z pz] kt pt] (.Tuple [a, b, c] k2 pt2) pos) (sPar [i, j, l] fs) := by
  refine psImpN (ps_par3 hc hN hi hj hl hij hil hjl hx hy hz ha hw hs) fun D σV H ll zz => ?_
  have z2 := rd_par hn (fun k hk => by
    have h1 := (List.getElem?_eq_some_iff.mp hi).1
    have h2 := (List.getElem?_eq_some_iff.mp hj).1
    have h3 := (List.getElem?_eq_some_iff.mp hl).1
    simp at hk
    rcases hk with e | e | e <;> (subst e; omega)) zz
  obtain ⟨σ, Av, ow, rs, g⟩ := z2
  refine ⟨σ, Av, ow, rs, ?_⟩
  cases hf : eRs fs σ with
  | fail => rw [hf] at g; exact g
  | exn c σ1 => rw [hf] at g; exact g
  | ok rl σ1 =>
    rw [hf] at g
    intro vs H1 Av1 ow1 rs1 s1 q1
    obtain ⟨lv, k⟩ := g vs H1 Av1 ow1 rs1 s1 q1
    match vs, lv, k with
    | [v, u, t], _, k => exact ⟨v, u, t, rfl, k H1 fun _ _ h => h⟩
/-- .. by way of the tuple (some name is no plain local) -/
theorem ds_parT {es gs : List Expr} {is : List Nat} {fs : List (M R)} {k k2 : Nat} {pos pos' pos2 : Pos} (hg : DG X (.Tuple gs k pos') (.tup is)) (ha : DRs X cl A0 W es (eRs fs)) (hn : fs.length = is.length := by rfl) (hz : is.length ≤ 1000 := by decide) (hs : swapsWithSole [.Tuple gs k pos'] (.Tuple es k2 pos2) pos.line X.env = pure false := by rfl) (hw : swappedStores [.Tuple gs k pos'] (.Tuple es k2 pos2) X.env = pure none := by rfl)
    (h1 : (assignEach [.Tuple gs k pos'] X.env).map (·.2) = [assign (.Tuple gs k pos') X.env] := by rfl) : DS X cl A0 W (.Assign [.Tuple gs k pos'] (.Tuple es k2 pos2) pos) (sPar is fs) := by
  refine psImpN (ps_asg (pe_tup ha) hg.1 hs hw h1) fun D σV H l z => ?_
  have z2 := rd_par hn (fun i h => by rw [l]; exact hg.2 i h) z
  obtain ⟨σ, Av, ow, rs, g⟩ := z2
  refine ⟨σ, Av, ow, rs, ?_⟩
  cases hf : eRs fs σ with
  | fail => rw [hf] at g; exact g
  | exn c σ1 => rw [hf] at g; exact g
  | ok rl σ1 =>
    rw [hf] at g
    intro vs H1 Av1 ow1 rs1 s1 q1
    obtain ⟨lv, kk⟩ := g vs H1 Av1 ow1 rs1 s1 q1
    exact ⟨le_line (lv ▸ hz), fun p hp => ⟨p, vs, rfl, SqT.of upd_same, lv, gNames_of lv (kk _ (upd_new hp))⟩⟩
end
end DL

/-! DLdict: dicts whose keys are tuples. -/
namespace DL
open PySem L2
/-! ### keys -/
mutual
theorem Rp.nested {P : Program} {w : World} {H : Hp} {Av : Addr → Prop} {h : Heap} (ok : HOk P w H h) : ∀ {d : D} {v : V} {u : Value}, Rp H Av d v → d.kin = true → RelV v u → NestedIs h (nk d) u
  | _, _, _, .non, _, r => by cases r; simp only [nk]; exact .none
  | _, _, _, .bl b, k, _ => by simp [D.kin] at k
  | _, _, _, .int i, _, r => by obtain ⟨t, rfl⟩ := r; simp only [nk]; exact .int i t
  | _, _, _, .str s _, _, r => by obtain ⟨t, rfl⟩ := r; simp only [nk]; exact .text _ t
  | _, _, _, .tup hh _ t, k, r => by
    cases r
    obtain ⟨_, its, rv, o, e, c, n, dt⟩ := ok _ _ hh
    simp only [nk]
    exact .tup e c dt (by simpa using Rps.nested ok t (by simpa [D.kin] using k) rv)
  | _, _, _, .lst _ _ _, k, _ => by simp [D.kin] at k
theorem Rps.nested {P : Program} {w : World} {H : Hp} {Av : Addr → Prop} {h : Heap} (ok : HOk P w H h) : ∀ {ds : List D} {vs : List V} {us : List Value}, Rps H Av ds vs → D.kins ds = true → Vals vs us → NestedAll h (nks ds) us
  | _, _, _, .nil, _, r => by cases r; simp only [nks]; exact .nil
  | _, _, _, .cons r t, k, q => by
    simp only [D.kins, Bool.and_eq_true] at k
    cases q with
    | cons q1 q2 => simp only [nks]; exact .cons (Rp.nested ok r k.1 q1) (Rps.nested ok t k.2 q2)
end
mutual
theorem nk_dep : ∀ d : D, (nk d).depth = d.dep
  | .non => by simp [nk, NestedKey.depth, D.dep]
  | .bl b => by simp [nk, NestedKey.depth, D.dep]
  | .int i => by simp [nk, NestedKey.depth, D.dep]
  | .str s => by simp [nk, NestedKey.depth, D.dep]
  | .tup xs => by simp only [nk, NestedKey.depth, D.dep]; rw [nks_dep xs]
  | .lst xs => by simp only [nk, NestedKey.depth, D.dep]; rw [nks_dep xs]
theorem nks_dep : ∀ ds : List D, NestedKey.depthAll (nks ds) = D.deps ds
  | [] => by simp [nks, NestedKey.depthAll, D.deps]
  | x :: xs => by simp only [nks, NestedKey.depthAll, D.deps]; rw [nk_dep x, nks_dep xs]
end
theorem tx_inj {a b : Tx} (h : tx a = tx b) : a = b := by have := congrArg Str.cps h; simpa [tx] using this
mutual
theorem eqv_nk : ∀ a b : D, a.kin = true → b.kin = true → (a.eqv b = true ↔ nk a = nk b)
  | .non, b, _, hb => by cases b <;> simp_all [nk, D.eqv, D.kin]
  | .bl x, b, ha, _ => by simp [D.kin] at ha
  | .int x, b, _, hb => by cases b <;> simp_all [nk, D.eqv, D.kin]
  | .str x, b, _, hb => by
    cases b with
    | str y =>
      simp only [nk, D.eqv, beq_iff_eq]
      exact ⟨fun e => by rw [e], fun e => tx_inj (NestedKey.text.inj e)⟩
    | bl _ => simp [D.kin] at hb
    | lst _ => simp [D.kin] at hb
    | _ => simp [nk, D.eqv]
  | .tup xs, b, ha, hb => by
    cases b with
    | tup ys =>
      simp only [nk, D.eqv]
      rw [eqvs_nk xs ys (by simpa [D.kin] using ha) (by simpa [D.kin] using hb)]
      exact ⟨fun e => by rw [e], fun e => NestedKey.tup.inj e⟩
    | bl _ => simp [D.kin] at hb
    | lst _ => simp [D.kin] at hb
    | _ => simp [nk, D.eqv]
  | .lst x, b, ha, _ => by simp [D.kin] at ha
theorem eqvs_nk : ∀ a b : List D, D.kins a = true → D.kins b = true → (D.eqvs a b = true ↔ nks a = nks b)
  | [], [], _, _ => by simp [nks, D.eqvs]
  | [], _ :: _, _, _ => by simp [nks, D.eqvs]
  | _ :: _, [], _, _ => by simp [nks, D.eqvs]
  | x :: xs, y :: ys, ha, hb => by
    simp only [D.kins, Bool.and_eq_true] at ha hb
    simp only [nks, D.eqvs, Bool.and_eq_true, List.cons.injEq]
    rw [eqv_nk x y ha.1 hb.1, eqvs_nk xs ys ha.2 hb.2]
end
theorem keyOk_kin {d : D} (h : d.keyOk = true) : d.kin = true ∧ d.dep ≤ 8 := by
  cases d with
  | tup xs =>
    simp only [D.keyOk, Bool.and_eq_true, decide_eq_true_eq] at h
    exact ⟨by simpa [D.kin] using h.1, by simp only [D.dep]; omega⟩
  | _ => simp [D.keyOk] at h
/-- the tuple at b is the key n, wherever the abstract heap holds -/
def KeyN (P : Program) (w : World) (H : Hp) (n : NestedKey) (b : Addr) : Prop := ∀ h, HOk P w H h → (nestedKind P w).is h n b
theorem Rp.key {P : Program} {w : World} {H : Hp} {Av : Addr → Prop} {d : D} {v : V} (r : Rp H Av d v) (k : d.keyOk = true) : ∃ b, v = .ref b ∧ KeyN P w H (nk d) b := by
  cases r with
  | @tup a vs ds h n t => exact ⟨a, rfl, fun hp ok => ⟨Rp.nested ok (.tup h n t) (keyOk_kin k).1 rfl, by rw [nk_dep]; exact (keyOk_kin k).2⟩⟩
  | _ => simp [D.keyOk] at k
/-! ### what is found -/
def lookN (xs : List (NestedKey × Addr × V)) (n : NestedKey) : Option V := (xs.find? fun x => decide (x.1 = n)).map (·.2.2)
def putN (xs : List (NestedKey × Addr × V)) (n : NestedKey) (b : Addr) (v : V) : List (NestedKey × Addr × V) :=
  if (lookN xs n).isSome then xs.map fun x => if x.1 = n then (x.1, x.2.1, v) else x else xs ++ [(n, b, v)]
theorem Rpk.look {H : Hp} {Av : Addr → Prop} {k : D} (hk : k.keyOk = true) : ∀ {kvs : List (D × D)} {xs : List (NestedKey × Addr × V)}, Rpk H Av kvs xs → match dGet kvs k with
    | some d => ∃ v, lookN xs (nk k) = some v ∧ Rp H Av d v
    | none => lookN xs (nk k) = none
  | _, _, .nil => by simp [dGet, lookN]
  | (k0, v0) :: kvs, (n0, b0, x0) :: xs, .cons ⟨e1, e2, e3, e4⟩ t => by
    have ih := Rpk.look hk t
    have e1 : n0 = nk k0 := e1
    have ev := eqv_nk k0 k (keyOk_kin e2).1 (keyOk_kin hk).1
    unfold dGet
    by_cases h : k0.eqv k = true
    · rw [if_pos h]
      refine ⟨x0, ?_, e4⟩
      unfold lookN
      rw [List.find?_cons_of_pos (by simpa [e1] using ev.mp h)]
      rfl
    · rw [if_neg h]
      have hn : ¬ n0 = nk k := fun e => h (ev.mpr (by rw [← e1, e]))
      have el : lookN ((n0, b0, x0) :: xs) (nk k) = lookN xs (nk k) := by
        unfold lookN
        rw [List.find?_cons_of_neg (by simpa using hn)]
      rw [el]
      exact ih
theorem Rpk.put {H : Hp} {Av : Addr → Prop} {k v : D} {b : Addr} {y : V} (hk : k.keyOk = true) (rk : Rp H Av k (.ref b)) (rv : Rp H Av v y) : ∀ {kvs : List (D × D)} {xs : List (NestedKey × Addr × V)}, (xs.map (·.1)).Nodup → Rpk H Av kvs xs → Rpk H Av (dPut kvs k v) (putN xs (nk k) b y)
  | _, _, _, .nil => by simp [dPut, putN, lookN]; exact .cons ⟨rfl, hk, rk, rv⟩ .nil
  | (k0, v0) :: kvs, (n0, b0, x0) :: xs, nd, .cons ⟨e1, e2, e3, e4⟩ t => by
    have e1 : n0 = nk k0 := e1
    have ev := eqv_nk k0 k (keyOk_kin e2).1 (keyOk_kin hk).1
    simp only [List.map_cons, List.nodup_cons] at nd
    have ih := Rpk.put hk rk rv nd.2 t
    unfold dPut
    by_cases h : k0.eqv k = true
    · rw [if_pos h]
      have en : n0 = nk k := by rw [e1]; exact ev.mp h
      have same : xs.map (fun x => if x.1 = nk k then (x.1, x.2.1, y) else x) = xs := by
        conv => rhs; rw [← List.map_id xs]
        refine List.map_congr_left fun x hx => ?_
        rw [if_neg (fun e => nd.1 (by rw [en, ← e]; exact List.mem_map_of_mem hx))]
        rfl
      have ep : putN ((n0, b0, x0) :: xs) (nk k) b y = (n0, b0, y) :: xs := by
        unfold putN
        have : (lookN ((n0, b0, x0) :: xs) (nk k)).isSome = true := by
          unfold lookN
          rw [List.find?_cons_of_pos (by simpa using en)]
          rfl
        rw [if_pos this, List.map_cons, same]
        simp [en]
      rw [ep]
      exact .cons ⟨e1, e2, e3, rv⟩ t
    · rw [if_neg h]
      have hn : ¬ n0 = nk k := fun e => h (ev.mpr (by rw [← e1, e]))
      have el : lookN ((n0, b0, x0) :: xs) (nk k) = lookN xs (nk k) := by
        unfold lookN
        rw [List.find?_cons_of_neg (by simpa using hn)]
      have ep : putN ((n0, b0, x0) :: xs) (nk k) b y = (n0, b0, x0) :: putN xs (nk k) b y := by
        unfold putN
        rw [el]
        split
        · rw [List.map_cons]; simp [hn]
        · rfl
      rw [ep]
      exact .cons ⟨e1, e2, e3, e4⟩ ih
theorem putN_len (xs : List (NestedKey × Addr × V)) (n : NestedKey) (b : Addr) (v : V) : (putN xs n b v).length ≤ xs.length + 1 := by
  unfold putN
  split <;> simp
section
variable {X : Cx} {pins : List (Addr × Obj)} {σ : St} {H : Hp} {s : Shared}
abbrev YR : NestedKey × Addr × V → NestedKey × Addr × Value → Prop := fun p q => p.1 = q.1 ∧ p.2.1 = q.2.1 ∧ RelV p.2.2 q.2.2
theorem Paired.mem {α β : Type} {F : α → β → Prop} : ∀ {l : List α} {m : List β}, Paired F l m → ∀ b ∈ m, ∃ a ∈ l, F a b
  | _, _, .nil, b, h => by cases h
  | _, _, .cons r t, b, h => by
    rcases List.mem_cons.mp h with e | h
    · subst e; exact ⟨_, List.mem_cons_self, r⟩
    · obtain ⟨a, ha, q⟩ := Paired.mem t b h
      exact ⟨a, List.mem_cons_of_mem _ ha, q⟩
/-- the dict as the library tells it -/
theorem dn_of {d : Addr} {xs : List (NestedKey × Addr × V)} (I : Inv X pins σ H s) (hd : Rd H d (dn X.prog X.w d xs)) (hk : ∀ x ∈ xs, KeyN X.prog X.w H x.1 x.2.1) : xs.length ≤ sizeLine ∧ (d == sysModules) = false ∧ ∃ ys, Paired YR xs ys ∧ s.heap.DictOfH (nestedKind X.prog X.w) d ys := by
  obtain ⟨⟨z, ns, ys, pr, o, es, ep, h1, h2, h3, h4, h5⟩, _⟩ := hd.ok I.hok
  refine ⟨z, ns, ys, pr, o, es, ep, h1, h2, h3, h4, fun y hy => ?_, h5⟩
  obtain ⟨x, hx, e1, e2, _⟩ := Paired.mem pr y hy
  rw [← e1, ← e2]
  exact hk x hx _ I.hok
theorem look_of {n : NestedKey} : ∀ {xs : List (NestedKey × Addr × V)} {ys : List (NestedKey × Addr × Value)}, Paired YR xs ys → RelO (lookN xs n) ((atKey ys n).map (·.2))
  | _, _, .nil => by simp [lookN, atKey, RelO]
  | (n0, b0, x0) :: xs, (m0, c0, y0) :: ys, .cons ⟨e1, e2, e3⟩ t => by
    have ih := look_of (n := n) t
    have e1 : n0 = m0 := e1
    subst e1
    by_cases h : n0 = n
    · simp [lookN, atKey, h]
      exact e3
    · simpa [lookN, atKey, h] using ih
theorem keys_of : ∀ {xs : List (NestedKey × Addr × V)} {ys : List (NestedKey × Addr × Value)}, Paired YR xs ys → xs.map (·.1) = ys.map (·.1)
  | _, _, .nil => rfl
  | _, _, .cons h t => by simp [h.1, keys_of t]
theorem look_some {n : NestedKey} {xs : List (NestedKey × Addr × V)} {ys : List (NestedKey × Addr × Value)} (p : Paired YR xs ys) : (atKey ys n).isSome = (lookN xs n).isSome := by
  have h := look_of (n := n) p
  cases h1 : lookN xs n with
  | none => rw [h1] at h; have := RelO.none_of h; rw [Option.map_eq_none_iff] at this; rw [this]; rfl
  | some v =>
    rw [h1] at h
    obtain ⟨u, hu, _⟩ := RelO.some_of h
    obtain ⟨p, hp, _⟩ := Option.map_eq_some_iff.mp hu
    rw [hp]; rfl
theorem put_of {n : NestedKey} {b : Addr} {v : V} {u : Value} (r : RelV v u) {xs : List (NestedKey × Addr × V)} {ys : List (NestedKey × Addr × Value)} (p : Paired YR xs ys) : Paired YR (putN xs n b v) (storedH ys n b u) := by
  unfold putN storedH
  rw [look_some p]
  split
  · have gen : ∀ {xs : List (NestedKey × Addr × V)} {ys : List (NestedKey × Addr × Value)}, Paired YR xs ys → Paired YR (xs.map fun x => if x.1 = n then (x.1, x.2.1, v) else x) (ys.map (putAt n u)) := by
      intro xs ys p
      induction p with
      | nil => exact .nil
      | @cons x y xs ys h t ih =>
        refine .cons ?_ ih
        unfold putAt
        dsimp only
        by_cases e : x.1 = n
        · rw [if_pos e, if_pos (by rw [← h.1]; exact e)]; exact ⟨h.1, h.2.1, r⟩
        · rw [if_neg e, if_neg (by rw [← h.1]; exact e)]; exact h
    exact gen p
  · have gen : ∀ {xs : List (NestedKey × Addr × V)} {ys : List (NestedKey × Addr × Value)}, Paired YR xs ys → Paired YR (xs ++ [(n, b, v)]) (ys ++ [(n, b, u)]) := by
      intro xs ys p
      induction p with
      | nil => exact .cons ⟨rfl, rfl, r⟩ .nil
      | cons h t ih => exact .cons h ih
    exact gen p
/-- a dict's new state, as an object of the abstract heap -/
theorem dn_ok {h : Heap} {H : Hp} {d : Addr} {xs : List (NestedKey × Addr × V)} {ys : List (NestedKey × Addr × Value)} (z : xs.length ≤ sizeLine) (ns : (d == sysModules) = false) (p : Paired YR xs ys) (dd : h.DictOfH (nestedKind X.prog X.w) d ys) : ObjOk X.prog X.w H h d (dn X.prog X.w d xs) := by
  obtain ⟨o, es, ep, h1, h2, h3, h4, _, h6⟩ := dd
  refine ⟨⟨z, ns, ys, p, o, es, ep, h1, h2, h3, h4, h6⟩, ⟨o, h1⟩, fun g1 g2 hφ k => ?_⟩
  obtain ⟨z', ns', ys', p', o', es', ep', a1, a2⟩ := hφ
  exact ⟨z', ns', ys', p', o', es', ep', k _ a1, a2⟩
theorem roomN {A : Around} (hu : A.units + 64 < cLine) : (nestedKind X.prog X.w).room A.in1 := by
  show A.units + 1 + 8 < cLine
  omega
/-! ### the operations, by values -/
def KsN (X : Cx) (H : Hp) (xs : List (NestedKey × Addr × V)) : Prop := ∀ x ∈ xs, KeyN X.prog X.w H x.1 x.2.1
def rInN (X : Cx) (neg : Bool) : R2 := fun x y H Q => ∃ b d n xs, x = .ref b ∧ y = .ref d ∧ KeyN X.prog X.w H n b ∧ Rd H d (dn X.prog X.w d xs) ∧ KsN X H xs ∧ Q (.bl (if neg = true then !(lookN xs n).isSome else (lookN xs n).isSome)) H
theorem or_inN (hu : X.A.units + 64 < cLine) : OpR X (compareOp .In) (rInN X false) := by
  intro pins s σ H x y v u Q I rx ry h
  obtain ⟨b, d, n, xs, rfl, rfl, hk, hd, ks, q⟩ := h
  cases rx
  cases ry
  obtain ⟨z, ns, ys, pr, dd⟩ := dn_of I hd ks
  refine wpAny_in_heap (roomN hu) (hk _ I.hok) ns dd ⟨.bl _, H, I.tok _, rfl, ?_⟩
  rw [look_some pr]
  exact q
theorem or_notinN (hu : X.A.units + 64 < cLine) : OpR X (compareOp .NotIn) (rInN X true) := by
  intro pins s σ H x y v u Q I rx ry h
  obtain ⟨b, d, n, xs, rfl, rfl, hk, hd, ks, q⟩ := h
  cases rx
  cases ry
  obtain ⟨z, ns, ys, pr, dd⟩ := dn_of I hd ks
  refine notIn_keyed (kvs := pairsH ys) (roomN hu) (hk _ I.hok) ns ⟨ys, dd, rfl⟩ ⟨.bl _, H, I.tok _, rfl, ?_⟩
  rw [valueAt_pairsH, Option.isSome_map, look_some pr]
  exact q
def rIxN (X : Cx) : R2 := fun x y H Q => ∃ d b n xs v, x = .ref d ∧ y = .ref b ∧ KeyN X.prog X.w H n b ∧ Rd H d (dn X.prog X.w d xs) ∧ KsN X H xs ∧ lookN xs n = some v ∧ Q v H
theorem ix_dn (hu : X.A.units + 64 < cLine) : IxR X (rIxN X) := by
  intro value slice pins s σ H x y v u Q I rx ry h hs
  obtain ⟨d, b, n, xs, w', rfl, rfl, hk, hd, ks, hl, q⟩ := h
  cases rx
  cases ry
  obtain ⟨z, ns, ys, pr, dd⟩ := dn_of I hd ks
  have ho := look_of (n := n) pr
  rw [hl] at ho
  obtain ⟨u, hu1, ru⟩ := RelO.some_of ho
  obtain ⟨p, hp, ep⟩ := Option.map_eq_some_iff.mp hu1
  exact PyProof.Rows.tail_any dd.typeIs PySem.F.slot_dict_getitem.lookup (wpAny_getItem_heap (roomN hu) (hk _ I.hok) dd hp ⟨w', H, I.tok _, by rw [ep]; exact ru, q⟩) hs
def rGetN (X : Cx) : V → List V → Hp → VK → Prop := fun x vs H Q => ∃ d b n xs, x = .ref d ∧ Rd H d (dn X.prog X.w d xs) ∧ KsN X H xs ∧ KeyN X.prog X.w H n b ∧ ((vs = [.ref b] ∧ Q ((lookN xs n).getD .non) H) ∨ ∃ y, vs = [.ref b, y] ∧ Q ((lookN xs n).getD y) H)
theorem mt_getN (hu : X.A.units + 64 < cLine) : MtR X "dict.get" (rGetN X) := by
  intro pins s σ H x vs v us Q I rx rv h
  obtain ⟨d, b, n, xs, rfl, hd, ks, hk, h⟩ := h
  cases rx
  obtain ⟨z, ns, ys, pr, dd⟩ := dn_of I hd ks
  have ho := look_of (n := n) pr
  have gd : ∀ {y : V} {u : Value}, RelV y u → RelV ((lookN xs n).getD y) (((atKey ys n).map (·.2)).getD u) := fun {y u} r => by
    cases h1 : lookN xs n with
    | none => rw [h1] at ho; rw [RelO.none_of ho]; exact r
    | some w' =>
      rw [h1] at ho
      obtain ⟨u', hu', ru⟩ := RelO.some_of ho
      rw [hu']; exact ru
  rcases h with ⟨rfl, q⟩ | ⟨y, rfl, q⟩
  · obtain ⟨u1, rfl, r1⟩ := vals1 rv
    cases r1
    refine get_keyed (kvs := pairsH ys) (roomN hu) (hk _ I.hok) ns ⟨ys, dd, rfl⟩ ⟨_, H, I.tok _, ?_, q⟩
    rw [valueAt_pairsH]
    exact gd rfl
  · obtain ⟨u1, u2, rfl, r1, r2⟩ := vals2 rv
    cases r1
    refine getOr_keyed (kvs := pairsH ys) (roomN hu) (hk _ I.hok) ns ⟨ys, dd, rfl⟩ ⟨_, H, I.tok _, ?_, q⟩
    rw [valueAt_pairsH]
    exact gd r2
def rSetN (X : Cx) : V → V → V → Hp → (Hp → Prop) → Prop := fun o i v H Q => ∃ d b n xs, o = .ref d ∧ i = .ref b ∧ H d = some (dn X.prog X.w d xs) ∧ KsN X H xs ∧ KeyN X.prog X.w H n b ∧ xs.length < sizeLine ∧ ((xs.map (·.1)).Nodup → Q (upd H d (dn X.prog X.w d (putN xs n b v))))
theorem set_dn (hu : X.A.units + 64 < cLine) : PSet X (rSetN X) := by
  intro pins s σ H o i v ov iv u Q I ro ri rv h
  obtain ⟨d, b, n, xs, rfl, rfl, hd, ks, hk, hz, q⟩ := h
  cases ro
  cases ri
  obtain ⟨z, ns, ys, pr, dd⟩ := dn_of I (.inl hd) ks
  have nd : (xs.map (·.1)).Nodup := by
    obtain ⟨_, _, _, _, _, _, _, _, hn⟩ := id dd
    have e := keys_of pr
    rw [e]; exact hn
  have lz : ys.length ≤ sizeLine := by rw [← Paired.length pr]; exact Nat.le_of_lt hz
  refine wpAny_setItem_heap (hsz := lz) (roomN hu) (hk _ I.hok) dd fun h' dd' sb => ⟨_, ?_, q nd⟩
  refine I.write (x := d) (e := d) (by rw [hd]; exact True.intro) (.inl rfl) (fun c w' hc e => (sb.2 c hc).trans e) ?_ (dn_ok (Nat.le_trans (putN_len xs n b v) hz) ns (put_of rv pr) dd')
  obtain ⟨o, _, _, e, _⟩ := id dd'
  exact ⟨o, e⟩
end
end DL

/-! DLdic2: rules for dicts. -/
namespace DL
open PySem L2
section
variable {X : Cx} {cl : Nat → Addr} {A0 : AK} {W : WX}

theorem Rpk.keys {H : Hp} {Av : Addr → Prop} {kvs : List (D × D)} {xs : List (NestedKey × Addr × V)} (r : Rpk H Av kvs xs) : KsN X H xs := by
  intro x hx
  obtain ⟨p, _, e1, e2, e3, _⟩ := Paired.mem r x hx
  obtain ⟨b, eb, k⟩ := e3.key (P := X.prog) (w := X.w) e2
  cases eb
  rw [e1]
  exact k
theorem TopK.dct {H : Hp} {Av : Addr → Prop} {kvs : List (D × D)} {v : V} (t : TopK X.prog X.w H Av (.dct kvs) v) : ∃ a xs, v = .ref a ∧ Rd H a (dn X.prog X.w a xs) ∧ Rpk H Av kvs xs := by
  rcases t with t | ⟨a, l, rfl, o⟩
  · cases t with
    | dct h n r => exact ⟨_, _, rfl, .inr ⟨_, h⟩, r⟩
  · cases o with
    | dct h r => exact ⟨_, _, rfl, .inl h, r⟩
theorem keyFor_dct {ob : Ob} {k : D} {kvs : List (D × D)} (h : keyFor ob k = some kvs) : ob = .dct kvs ∧ k.keyOk = true := by
  cases ob with
  | dct kvs' =>
    simp only [keyFor] at h
    split at h
    · rename_i hk; cases h; exact ⟨rfl, hk⟩
    · cases h
  | _ => cases h
theorem keyOk_nl {k : D} (h : k.keyOk = true) : ∀ ds, k ≠ .lst ds := fun ds e => by subst e; cases h
theorem rd_e2v {f : Vw → D → Option R} {r : R2} {fa fb : M R} (h : ∀ (H : Hp) (Av : Addr → Prop) (d : Vw) (e : D) (x y : V) (z : R) (Q : VK), (∀ a, Av a → ∃ o, H a = some o) → TopV X.prog X.w H Av d x → Top H Av e y → f d e = some z → (∀ v H', NewR X.prog X.w H H' Av z v → Q v H') → r x y H Q) {σV : St} {H : Hp} {Q : VK} (z : (rdE X.prog X.w cl A0 W) (e2v f fa fb) σV H Q) : tOp r ((rdE X.prog X.w cl A0 W) fa) ((rdE X.prog X.w cl A0 W) fb) σV H Q := by
  obtain ⟨σ, Av, ow, rs, g⟩ := z
  refine gBind rs.dom rs Stp.refl g fun r1 σ1 x H1 Av1 ow1 rs1 _ s1 q1 g1 => ?_
  refine gBind rs.dom rs1 s1 g1 fun r2 σ2 y H2 Av2 ow2 rs2 s12 s2 q2 g2 => ?_
  have q1' := q1.step s12 rs1.ho
  cases h1 : view r1 σ2 with
  | none => simp only [h1] at g2; exact g2.elim
  | some d =>
    cases h2 : asD r2 σ2 with
    | none => simp only [h1, h2] at g2; exact g2.elim
    | some e =>
      cases h3 : f d e with
      | none => simp only [h1, h2, h3] at g2; exact g2.elim
      | some z =>
        simp only [h1, h2, h3] at g2
        exact h H2 Av2 d e x y z Q rs2.dom (view_ok rs2 q1' h1) (asD_ok rs2 q2 h2) h3 fun v H' n => gEnd rs.dom rs2 s2 g2 n
def rIxV (X : Cx) : R2 := fun x y H Q => rIxAll X.K x y H Q ∨ rIxN X x y H Q
theorem or_ixV (hu : X.A.units + 64 < cLine) : IxR X (rIxV X) := or_ix.or (ix_dn hu)
/-- a[b], a list, a tuple, a text, a dict -/
theorem de_sub {a b : Expr} {fa fb : M R} {pos : Pos} (hu : X.A.units + 64 < cLine) (ha : DE X cl A0 W a fa) (hb : DE X cl A0 W b fb) (hs : PlainIx b := by intro _ _; rfl) : DE X cl A0 W (.Subscript a b pos) (e2v pySub' fa fb) := by
  refine peImp (pe_ix (or_ixV hu) ha hb hs) fun _ _ _ z => rd_e2v ?_ z
  intro H Av d e x y z Q hd t u hf k
  cases d with
  | d x0 => exact .inl (o_ix H Av x0 e x y z Q hd t u hf k)
  | kv ob =>
    simp only [pySub'] at hf
    cases hk : keyFor ob e with
    | none => simp only [hk] at hf; cases hf
    | some kvs =>
      simp only [hk] at hf
      obtain ⟨rfl, ok⟩ := keyFor_dct hk
      obtain ⟨a, xs, rfl, h1, r1⟩ := TopK.dct t
      have ry := u.rp (keyOk_nl ok)
      obtain ⟨b, rfl, kn⟩ := ry.key (P := X.prog) (w := X.w) ok
      have lk := Rpk.look ok r1
      cases hg : dGet kvs e with
      | none => rw [hg] at hf; cases hf
      | some d =>
        rw [hg] at hf lk
        cases hf
        obtain ⟨v, hv, rv⟩ := lk
        exact .inr ⟨a, b, _, xs, v, rfl, rfl, kn, h1, r1.keys, hv, k _ _ (new_pure rv)⟩
/-! ### in -/
theorem pys_map : ∀ xs : List D, pys xs = xs.map py
  | [] => by simp [pys]
  | x :: xs => by simp [pys, pys_map xs]
def rInS (K : PySem.W.Frag) (neg : Bool) : R2 := fun x y H Q => ∃ d ds t, Dp K H x d ∧ (t = .list ds ∨ t = .tuple ds) ∧ Dp K H y t ∧ d.canLay0 = true ∧ PyData.canLayAll0 ds = true ∧ min (PyData.depthAll ds) d.depth ≤ 63 ∧ Q (.bl (if neg = true then !(ds.any fun z => PyData.eqv z d) else ds.any fun z => PyData.eqv z d)) H
theorem or_inS (hu : X.A.units + 65 < cLine) : OpR X (compareOp .In) (rInS X.K false) := by
  intro pins s σ H x y v u Q I rx ry h
  obtain ⟨d, ds, t, hd, ht, he, ld, lt, hz, q⟩ := h
  obtain ⟨as, r1⟩ := Dp.reads I d x v hd rx
  obtain ⟨bs, r2⟩ := Dp.reads I t y u he ry
  rcases ht with rfl | rfl
  · exact SeqAt.in_list_reads r2 r1 lt ld (by omega) ⟨.bl _, H, I, rfl, q⟩
  · exact SeqAt.in_tuple_reads r2 r1 lt ld (by omega) ⟨.bl _, H, I, rfl, q⟩
theorem or_notInS (hu : X.A.units + 65 < cLine) : OpR X (compareOp .NotIn) (rInS X.K true) := by
  intro pins s σ H x y v u Q I rx ry h
  obtain ⟨d, ds, t, hd, ht, he, ld, lt, hz, q⟩ := h
  obtain ⟨as, r1⟩ := Dp.reads I d x v hd rx
  obtain ⟨bs, r2⟩ := Dp.reads I t y u he ry
  rcases ht with rfl | rfl
  · exact SeqAt.notIn_list_reads r2 r1 lt ld (by omega) ⟨.bl _, H, I, rfl, q⟩
  · exact SeqAt.notIn_tuple_reads r2 r1 lt ld (by omega) ⟨.bl _, H, I, rfl, q⟩
def rInC (neg : Bool) : R2 := fun x y H Q => ∃ c z, x = .str ⟨#[c]⟩ ∧ y = .str z ∧ Q (.bl (if neg = true then !decide (c ∈ z.cps.toList) else decide (c ∈ z.cps.toList))) H
theorem or_inC : OpR X (compareOp .In) (rInC false) := fun pins s σ H x y v u Q I rx ry ⟨c, z, e1, e2, q⟩ => op_in_sign pins s σ H x y v u Q I rx ry ⟨c, z, e1, e2, q⟩
theorem or_notInC : OpR X (compareOp .NotIn) (rInC true) := fun pins s σ H x y v u Q I rx ry ⟨c, z, e1, e2, q⟩ => op_notIn_sign pins s σ H x y v u Q I rx ry ⟨c, z, e1, e2, q⟩
def rInAll (X : Cx) (neg : Bool) : R2 := fun x y H Q => rInS X.K neg x y H Q ∨ (rInN X neg x y H Q ∨ rInC neg x y H Q)
theorem any_py (xs : List D) (d : D) : (pys xs).any (fun z => PyData.eqv z (py d)) = xs.any fun z => z.eqv d := by
  induction xs with
  | nil => simp [pys]
  | cons x xs ih => simp only [pys, List.any_cons, eqv_py, ih]
theorem o_in {neg : Bool} {H : Hp} {Av : Addr → Prop} {d : D} {y0 : Vw} {x y : V} {k : Bool} {Q : VK} (t : Top H Av d x) (u : TopV X.prog X.w H Av y0 y) (hf : pyIn y0 d = some k) (q : Q (.bl (if neg = true then !k else k)) H) : rInAll X neg x y H Q := by
  cases y0 with
  | kv ob =>
    simp only [pyIn] at hf
    cases hk : keyFor ob d with
    | none => simp only [hk] at hf; cases hf
    | some kvs =>
      simp only [hk] at hf
      cases hf
      obtain ⟨rfl, ok⟩ := keyFor_dct hk
      obtain ⟨a, xs, rfl, h1, r1⟩ := TopK.dct u
      obtain ⟨b, rfl, kn⟩ := (t.rp (keyOk_nl ok)).key (P := X.prog) (w := X.w) ok
      have lk := Rpk.look ok r1
      refine .inr (.inl ⟨b, a, _, xs, rfl, rfl, kn, h1, r1.keys, ?_⟩)
      have e : (lookN xs (nk d)).isSome = (dGet kvs d).isSome := by
        cases hg : dGet kvs d with
        | none => rw [hg] at lk; rw [lk]; rfl
        | some z => rw [hg] at lk; obtain ⟨v, hv, _⟩ := lk; rw [hv]; rfl
      rw [e]
      exact q
  | d y0 =>
    cases y0 with
    | tup ys =>
      simp only [pyIn] at hf
      split at hf
      · rename_i hz
        cases hf
        obtain ⟨a, vs, rfl, h, r, n⟩ := Top.tup u
        refine .inl ⟨py d, pys ys, _, t.dp, .inr rfl, .tup (SqT.of h) r.dp, t.lay, r.lay, by rw [dep_py, deps_py]; omega, ?_⟩
        rw [any_py]; exact q
      · cases hf
    | lst ys =>
      simp only [pyIn] at hf
      split at hf
      · rename_i hz
        cases hf
        obtain ⟨a, vs, rfl, h, r⟩ := Top.lst u
        refine .inl ⟨py d, pys ys, _, t.dp, .inl rfl, .lst (SqL.of h) r.dp, t.lay, r.lay, by rw [dep_py, deps_py]; omega, ?_⟩
        rw [any_py]; exact q
      · cases hf
    | str tt =>
      cases d with
      | str s =>
        match s, hf with
        | [c], hf =>
          simp only [pyIn] at hf
          cases hf
          obtain ⟨rfl, _⟩ := t.str
          obtain ⟨rfl, _⟩ := Top.str u
          refine .inr (.inr ⟨c, tx tt, rfl, rfl, ?_⟩)
          have e : decide (c ∈ (tx tt).cps.toList) = tt.any fun b => b == c := by
            rw [tx_get, Bool.eq_iff_iff]
            simp
          rw [e]
          exact q
      | _ => simp [pyIn] at hf
    | _ => simp [pyIn] at hf
theorem or_in (hu : X.A.units + 65 < cLine) : OpR X (compareOp .In) (rInAll X false) := (or_inS hu).or ((or_inN (by omega)).or or_inC)
theorem or_notin (hu : X.A.units + 65 < cLine) : OpR X (compareOp .NotIn) (rInAll X true) := (or_notInS hu).or ((or_notinN (by omega)).or or_notInC)
theorem rd_in {neg : Bool} {fa fb : M R} {σV : St} {H : Hp} {Q : VK} (z : (rdE X.prog X.w cl A0 W) (eIn neg fa fb) σV H Q) : tOp (rInAll X neg) ((rdE X.prog X.w cl A0 W) fa) ((rdE X.prog X.w cl A0 W) fb) σV H Q := by
  obtain ⟨σ, Av, ow, rs, g⟩ := z
  refine gBind rs.dom rs Stp.refl g fun r1 σ1 x H1 Av1 ow1 rs1 _ s1 q1 g1 => ?_
  refine gBind rs.dom rs1 s1 g1 fun r2 σ2 y H2 Av2 ow2 rs2 s12 s2 q2 g2 => ?_
  have q1' := q1.step s12 rs1.ho
  cases h1 : asD r1 σ2 with
  | none => simp only [h1] at g2; exact g2.elim
  | some d =>
    cases h2 : view r2 σ2 with
    | none => simp only [h1, h2] at g2; exact g2.elim
    | some e =>
      cases h3 : pyIn e d with
      | none => simp only [h1, h2, h3] at g2; exact g2.elim
      | some k =>
        simp only [h1, h2, h3] at g2
        exact o_in (asD_ok rs2 q1' h1) (view_ok rs2 q2 h2) h3 (gEnd rs.dom rs2 s2 g2 (new_pure (.bl _)))
theorem de_in {a b : Expr} {fa fb : M R} {pos : Pos} (hu : X.A.units + 65 < cLine) (ha : DE X cl A0 W a fa) (hb : DE X cl A0 W b fb) (hm : behindInMarks .In b = false := by rfl) : DE X cl A0 W (.Compare a [.In] [b] pos) (eIn false fa fb) := peImp (pe_cmpR (or_in hu) ha hb hm) fun _ _ _ z => rd_in z
theorem de_notin {a b : Expr} {fa fb : M R} {pos : Pos} (hu : X.A.units + 65 < cLine) (ha : DE X cl A0 W a fa) (hb : DE X cl A0 W b fb) (hm : behindInMarks .NotIn b = false := by rfl) : DE X cl A0 W (.Compare a [.NotIn] [b] pos) (eIn true fa fb) := peImp (pe_cmpR (or_notin hu) ha hb hm) fun _ _ _ z => rd_in z
theorem dt_in {a b : Expr} {fa fb : M R} {pos : Pos} (hu : X.A.units + 65 < cLine) (ha : DE X cl A0 W a fa) (hb : DE X cl A0 W b fb) (hm : behindInMarks .In b = false := by rfl) : DT X cl A0 W (.Compare a [.In] [b] pos) (tB (eIn false fa fb)) := ptImp (pt_cmpR (or_in hu) ha hb hm) fun _ _ _ z => rd_in (rd_tB z)
theorem dt_notin {a b : Expr} {fa fb : M R} {pos : Pos} (hu : X.A.units + 65 < cLine) (ha : DE X cl A0 W a fa) (hb : DE X cl A0 W b fb) (hm : behindInMarks .NotIn b = false := by rfl) : DT X cl A0 W (.Compare a [.NotIn] [b] pos) (tB (eIn true fa fb)) := ptImp (pt_cmpR (or_notin hu) ha hb hm) fun _ _ _ z => rd_in (rd_tB z)
end
end DL

/-! DLdic3: d.get, {}, {k: v}, the keys of a dict, one by one. -/
namespace DL
open PySem L2
section
variable {X : Cx} {cl : Nat → Addr} {A0 : AK} {W : WX}

/-! ### d.get -/
/-- a method of a dict -/
def DcV (X : Cx) (x : V) (H : Hp) : Prop := ∃ d xs, x = .ref d ∧ Rd H d (dn X.prog X.w d xs)
theorem dc_is {pins : List (Addr × Obj)} {σ : St} {H : Hp} {s : Shared} {x : V} {v : Value} (I : Inv X pins σ H s) (r : RelV x v) (t : DcV X x H) : s.TypeIs v "dict" ∧ ∀ a, v = .ref a → ∃ ob, s.heap.get? a = some ob ∧ ob.dict = none := by
  obtain ⟨d, xs, rfl, h⟩ := t
  cases r
  obtain ⟨⟨_, _, _, _, o, es, ep, h1, h2, _⟩, _⟩ := h.ok I.hok
  exact ⟨⟨o, h1, h2.1⟩, fun a e => by cases e; exact ⟨o, h1, h2.2.1⟩⟩
theorem pe_dm {o e : Expr} {es : List Expr} {to : TE} {t : TA} {name : Str} {apos cpos : Pos} {id : String} {r : V → List V → Hp → VK → Prop} (pa : PlainAttrs "dict") (slot : Slot "dict" name id) (hty : typeOf (.builtin id) = pure (.type "method_descriptor")) (hm : MtR X id r) (ho : PE X o to) (ha : PA X (e :: es) t)
    (hbase : attributeBase o name X.env (eval o X.env) = eval o X.env)
    (hfew : ((backTo cpos (starEach (e :: es) X.env)).all (fun x => !x.1) && (backToKw cpos (keywordEach [] X.env)).all (fun x => x.1.isSome) && decide ((e :: es).length + ([] : List Keyword).length + (if ([] : List Keyword).isEmpty then 0 else 1) < 30)) = true)
    (hline : (apos.endLine == cpos.line) = true) (hs : starEach (e :: es) X.env = (false, eval e X.env) :: starEach es X.env) (hplain : (backTo cpos (starEach es X.env)).any (·.1) = false) :
    PE X (.Call (.Attribute o name apos) (e :: es) [] cpos) (fun σ H Q => to σ H fun x H1 => DcV X x H1 ∧ t σ H1 fun xs H2 => r x xs H2 Q) := by
  refine ⟨fun pins s σ H Q I h => ?_⟩
  refine wpAny_Call_method_late hbase hfew hline rfl (thn (ho.run pins s σ H _ I h) fun v s1 ⟨x, H1, I1, r1, ty, q1⟩ => ?_)
  obtain ⟨h1, h2⟩ := dc_is I1 r1 ty
  refine ⟨"dict", id, pa, slot, hty, h1, h2, ?_⟩
  have hA := ha.run cpos pins s1 σ H1 _ I1 q1
  rw [hs] at hA ⊢
  refine Calls.callWith_builtin (by show (false || (backTo cpos (starEach es X.env)).any (·.1)) = false; rw [hplain] <;> rfl) (Calls.evalArgs_plain ?_)
  exact thn hA fun us s2 ⟨vs, H2, I2, r2, q2⟩ => hm pins s2 σ H2 x vs v us Q I2 r1 r2 q2
theorem isDct_of {o : Option Ob} (h : isDct o = true) : ∃ kvs, o = some (.dct kvs) := by
  match o, h with
  | some (.dct kvs), _ => exact ⟨kvs, rfl⟩
theorem look_getD {H : Hp} {Av : Addr → Prop} {kvs : List (D × D)} {xs : List (NestedKey × Addr × V)} {k x : D} {y : V} (hk : k.keyOk = true) (r : Rpk H Av kvs xs) (rx : Rp H Av x y) : Rp H Av ((dGet kvs k).getD x) ((lookN xs (nk k)).getD y) := by
  have lk := Rpk.look hk r
  cases hg : dGet kvs k with
  | none => rw [hg] at lk; rw [lk]; exact rx
  | some z => rw [hg] at lk; obtain ⟨v, hv, rv⟩ := lk; rw [hv]; exact rv
theorem rd_get1 {fa fb : M R} {σV : St} {H : Hp} {Q : VK} (z : (rdE X.prog X.w cl A0 W) (eGet1 fa fb) σV H Q) : (rdE X.prog X.w cl A0 W) fa σV H fun x H1 => DcV X x H1 ∧ (rdE X.prog X.w cl A0 W) fb σV H1 fun y H2 => rGetN X x [y] H2 Q := by
  obtain ⟨σ, Av, ow, rs, g⟩ := z
  refine gBind rs.dom rs Stp.refl g fun r1 σ1 x H1 Av1 ow1 rs1 _ s1 q1 g1 => ?_
  by_cases h0 : isDct (asKv r1 σ1) = true
  · simp only [h0, if_true] at g1
    obtain ⟨kvs0, e0⟩ := isDct_of h0
    obtain ⟨a0, xs0, rfl, hd0, _⟩ := TopK.dct (asKv_ok rs1 q1 e0)
    refine ⟨⟨a0, xs0, rfl, hd0⟩, ?_⟩
    refine gBind rs.dom rs1 s1 g1 fun r2 σ2 y H2 Av2 ow2 rs2 s12 s2 q2 g2 => ?_
    have q1' := q1.step s12 rs1.ho
    cases h1 : asKv r1 σ2 with
    | none => simp only [h1] at g2; exact g2.elim
    | some ob =>
      cases h2 : asD r2 σ2 with
      | none => simp only [h1, h2] at g2; exact g2.elim
      | some k =>
        cases h3 : keyFor ob k with
        | none => simp only [h1, h2, h3] at g2; exact g2.elim
        | some kvs =>
          simp only [h1, h2, h3] at g2
          obtain ⟨rfl, ok⟩ := keyFor_dct h3
          obtain ⟨a, xs, e, hd, rk⟩ := TopK.dct (asKv_ok rs2 q1' h1)
          cases e
          obtain ⟨b, rfl, kn⟩ := ((asD_ok rs2 q2 h2).rp (keyOk_nl ok)).key (P := X.prog) (w := X.w) ok
          exact ⟨a0, b, _, xs, rfl, hd, rk.keys, kn, .inl ⟨rfl, gEnd rs.dom rs2 s2 g2 (new_pure (look_getD ok rk .non))⟩⟩
  · simp only [h0] at g1; exact g1.elim
theorem de_get1 {a e : Expr} {fa fe : M R} {apos cpos : Pos} (hu : X.A.units + 64 < cLine) (ha : DE X cl A0 W a fa) (he : DE X cl A0 W e fe) (hs : starEach [e] X.env = [(false, eval e X.env)] := by rfl)
    (hbase : attributeBase a "get" X.env (eval a X.env) = eval a X.env := by rfl)
    (hfew : ((backTo cpos (starEach [e] X.env)).all (fun x => !x.1) && (backToKw cpos (keywordEach [] X.env)).all (fun x => x.1.isSome) && decide (([e] : List Expr).length + ([] : List Keyword).length + (if ([] : List Keyword).isEmpty then 0 else 1) < 30)) = true := by rfl)
    (hline : (apos.endLine == cpos.line) = true := by rfl) (hplain : (backTo cpos (starEach [] X.env)).any (·.1) = false := by rfl) :
    DE X cl A0 W (.Call (.Attribute a "get" apos) [e] [] cpos) (eGet1 fa fe) :=
  peImp (pe_dm PySem.F.plainAttrs_dict PySem.F.slot_dict_get PySem.F.type_dict_get (mt_getN hu) ha (da1 he hs) hbase hfew hline hs hplain) fun _ _ _ z => rd_get1 z
theorem rd_get2 {fa fb fc : M R} {σV : St} {H : Hp} {Q : VK} (z : (rdE X.prog X.w cl A0 W) (eGet2 fa fb fc) σV H Q) : (rdE X.prog X.w cl A0 W) fa σV H fun x H1 => DcV X x H1 ∧ (rdE X.prog X.w cl A0 W) fb σV H1 fun y H2 => (rdE X.prog X.w cl A0 W) fc σV H2 fun u H3 => rGetN X x [y, u] H3 Q := by
  obtain ⟨σ, Av, ow, rs, g⟩ := z
  refine gBind rs.dom rs Stp.refl g fun r1 σ1 x H1 Av1 ow1 rs1 _ s1 q1 g1 => ?_
  by_cases h0 : isDct (asKv r1 σ1) = true
  · simp only [h0, if_true] at g1
    obtain ⟨kvs0, e0⟩ := isDct_of h0
    obtain ⟨a0, xs0, rfl, hd0, _⟩ := TopK.dct (asKv_ok rs1 q1 e0)
    refine ⟨⟨a0, xs0, rfl, hd0⟩, ?_⟩
    refine gBind rs.dom rs1 s1 g1 fun r2 σ2 y H2 Av2 ow2 rs2 s12 s2 q2 g2 => ?_
    have q1' := q1.step s12 rs1.ho
    refine gBind rs.dom rs2 s2 g2 fun r3 σ3 u H3 Av3 ow3 rs3 s23 s3 q3 g3 => ?_
    have q1'' := q1'.step s23 rs2.ho
    have q2' := q2.step s23 rs2.ho
    cases h1 : asKv r1 σ3 with
    | none => simp only [h1] at g3; exact g3.elim
    | some ob =>
      cases h2 : asD r2 σ3 with
      | none => simp only [h1, h2] at g3; exact g3.elim
      | some k =>
        cases h3 : keyFor ob k with
        | none => simp only [h1, h2, h3] at g3; exact g3.elim
        | some kvs =>
          simp only [h1, h2, h3] at g3
          obtain ⟨rfl, ok⟩ := keyFor_dct h3
          obtain ⟨a, xs, e, hd, rk⟩ := TopK.dct (asKv_ok rs3 q1'' h1)
          cases e
          obtain ⟨b, rfl, kn⟩ := ((asD_ok rs3 q2' h2).rp (keyOk_nl ok)).key (P := X.prog) (w := X.w) ok
          unfold mbind at g3
          cases hf : frz r3 σ3 with
          | fail => rw [hf] at g3; exact g3.elim
          | exn c σ4 => exact (frz_nox hf).elim
          | ok x4 σ4 =>
            rw [hf] at g3
            have hb2 : ∀ b, H2 b = none → H b = none := fun b h => s2.none_of h
            obtain ⟨Av4, ow4, rs4, s4, rp, k1, k2, k3⟩ := frz_ok rs.dom hb2 rs3 s3 q3 hf
            exact ⟨a0, b, _, xs, rfl, hd, rk.keys, kn, .inr ⟨u, rfl, gEnd rs.dom rs4 s4 g3 (new_pure (look_getD ok (rk.less k1) rp))⟩⟩
  · simp only [h0] at g1; exact g1.elim
theorem de_get2 {a e e2 : Expr} {fa fe fe2 : M R} {apos cpos : Pos} (hu : X.A.units + 64 < cLine) (ha : DE X cl A0 W a fa) (he : DE X cl A0 W e fe) (he2 : DE X cl A0 W e2 fe2) (hs : starEach [e, e2] X.env = (false, eval e X.env) :: starEach [e2] X.env := by rfl) (hs2 : starEach [e2] X.env = [(false, eval e2 X.env)] := by rfl)
    (hbase : attributeBase a "get" X.env (eval a X.env) = eval a X.env := by rfl)
    (hfew : ((backTo cpos (starEach [e, e2] X.env)).all (fun x => !x.1) && (backToKw cpos (keywordEach [] X.env)).all (fun x => x.1.isSome) && decide (([e, e2] : List Expr).length + ([] : List Keyword).length + (if ([] : List Keyword).isEmpty then 0 else 1) < 30)) = true := by rfl)
    (hline : (apos.endLine == cpos.line) = true := by rfl) (hplain : (backTo cpos (starEach [e2] X.env)).any (·.1) = false := by rfl) :
    DE X cl A0 W (.Call (.Attribute a "get" apos) [e, e2] [] cpos) (eGet2 fa fe fe2) :=
  peImp (pe_dm PySem.F.plainAttrs_dict PySem.F.slot_dict_get PySem.F.type_dict_get (mt_getN hu) ha (pa_cons he (pa_cons he2 pa_nil hs2) hs) hbase hfew hline hs hplain) fun _ _ _ z => rd_get2 z
/-! ### {} -/
theorem dn_empty {H : Hp} (h : Heap) (hb : sysModules < h.objs.size) : ObjOk X.prog X.w H (h.push { cls := .type "dict", data := .dict #[] }) h.objs.size (dn X.prog X.w h.objs.size []) :=
  dn_ok (ys := []) (Nat.zero_le _) (beq_eq_false_iff_ne.mpr (Ne.symm (Nat.ne_of_lt hb))) .nil ⟨_, #[], 0, Heap.get?_push_size _ rfl, ⟨rfl, rfl, rfl⟩, rfl, rfl, (by simp), List.nodup_nil⟩
theorem pe_dnewN {pos : Pos} : PE X (.Dict [] [] pos) (fun _ H Q => ∀ p, H p = none → Q (.ref p) (upd H p (dn X.prog X.w p []))) := ⟨fun pins s σ H Q I h =>
  wpAny_Dict_empty ⟨.ref s.heap.objs.size, _, I.laid (a := s.heap.objs.size) (o := dn X.prog X.w s.heap.objs.size []) (t' := s.toks) (fun _ _ q => Heap.get?_push_of_some _ q) (Nat.le_refl _) (dn_empty s.heap I.big), rfl, h _ (I.hok.fresh (Nat.le_refl _))⟩⟩
theorem new_dct {H : Hp} {Av : Addr → Prop} {kvs : List (D × D)} {xs : List (NestedKey × Addr × V)} {p : Addr} (r : Rpk H Av kvs xs) (hp : H p = none) : NewR X.prog X.w H (upd H p (dn X.prog X.w p xs)) Av (.own (.dct kvs)) (.ref p) :=
  ⟨upd_new hp, p, rfl, .dct upd_same (Paired.imp (fun _ _ z => ⟨z.1, z.2.1, z.2.2.1.shun hp (upd_new hp), z.2.2.2.shun hp (upd_new hp)⟩) r), hp⟩
theorem de_dict0 {pos : Pos} : DE X cl A0 W (.Dict [] [] pos) eDict0 := peImp pe_dnewN fun σV H Q z p hp => by
  obtain ⟨σ, Av, ow, rs, g⟩ := z
  exact gEnd rs.dom rs Stp.refl g (new_dct .nil hp)
/-! ### {k: v} -/
theorem dict_pairsN {env : Env} {A : Around} {E : Value → Shared → Prop} {s : Shared} {keys : List (Option Expr)} {values : List Expr} {pos : Pos} {Q : Value → Shared → Prop} (hu : (nestedKind X.prog X.w).room A)
    (hall : keys.all (·.isSome) = true) (hl : keys.length = values.length) (h0 : keys ≠ []) (h15 : keys.length ≤ 15)
    (h : wpAny (model X.prog X.w) A (evalPairs (pairTrees keys values env pos)) (fun vs s₁ => ∃ ps, CarriesH (nestedKind X.prog X.w) s₁.heap vs ps ∧ s₁.heap.DictOfH (nestedKind X.prog X.w) s.heap.objs.size [] ∧
      ∀ h' tk, h'.DictOfH (nestedKind X.prog X.w) s.heap.objs.size (storedAllH [] ps) → Heap.SameBut s.heap.objs.size s₁.heap h' → Q (.ref s.heap.objs.size) { s₁ with heap := h', toks := tk }) E
      { s with heap := s.heap.push { cls := .type "dict", data := .dict #[] } }) :
    wpAny (model X.prog X.w) A (eval (.Dict keys values pos) env) Q E s := by
  have hn := pairTrees_length keys values env pos hall hl
  have hne : pairTrees keys values env pos ≠ [] := by
    intro he
    rw [he] at hn
    exact h0 (List.length_eq_zero_iff.mp hn.symm)
  rw [arm_eval_Dict, zip_pairTrees keys values env pos hall hl, dictDisplay_pairs _ hne (by omega)]
  exact wpAny_bind (wpAny_standAt (wpAny_bind (wpAny_subDictH (knd := nestedKind X.prog X.w) (Q := fun d s' => wpAny (model X.prog X.w) A (pure (Value.ref d)) Q E s') hu (by omega)
    (wpAny_mono h (fun vs s₁ h₁ => by obtain ⟨ps, hc, hm, hq⟩ := h₁; exact ⟨ps, hc, hm, fun h' tk a b => wpAny_pure (hq h' tk a b)⟩) fun _ _ e => e))))
theorem pe_disp1N {k v : Expr} {tk tv : TE} {pos : Pos} (hu : X.A.units + 64 < cLine) (hk : PE X k tk) (hv : PE X v tv) : PE X (.Dict [some k] [v] pos) (fun σ H Q => ∀ p, H p = none → tk σ (upd H p (dn X.prog X.w p [])) fun x H1 => tv σ H1 fun y H2 => H2 p = some (dn X.prog X.w p []) ∧ ∃ b n, x = .ref b ∧ KeyN X.prog X.w H2 n b ∧ Q (.ref p) (upd H2 p (dn X.prog X.w p [(n, b, y)]))) := by
  refine ⟨fun pins s σ H Q I q => ?_⟩
  have hn := I.hok.fresh (Nat.le_refl s.heap.objs.size)
  have I1 := I.laid (a := s.heap.objs.size) (o := dn X.prog X.w s.heap.objs.size []) (h' := s.heap.push { cls := .type "dict", data := .dict #[] }) (t' := s.toks) (fun _ _ q => Heap.get?_push_of_some _ q) (Nat.le_refl _) (dn_empty s.heap I.big)
  have hr : (nestedKind X.prog X.w).room X.A := by show X.A.units + 8 < cLine; omega
  refine dict_pairsN hr rfl rfl (by simp) (by simp) (pairTrees_cons_walk (thn (hk.run pins _ σ _ _ I1 (q _ hn)) fun u s1 ⟨x, H1, I2, rx, q1⟩ => thn (hv.run pins s1 σ H1 _ I2 q1) fun w2 s2 ⟨y, H2, I3, ry, e, b, n, ex, kn, q2⟩ => pairTrees_nil_walk ?_))
  subst ex
  cases rx
  obtain ⟨z, ns, ys, pr, dd⟩ := dn_of I3 (.inl e) (by intro x hx; cases hx)
  cases pr
  refine ⟨[(n, b, w2)], ⟨rfl, rfl, kn _ I3.hok, True.intro⟩, dd, fun h' tk dd' sb => ⟨.ref s.heap.objs.size, _, ?_, rfl, q2⟩⟩
  refine I3.write (x := s.heap.objs.size) (e := s.heap.objs.size) (by rw [e]; exact True.intro) (.inl rfl) (fun c w' hc e => (sb.2 c hc).trans e) ?_ (dn_ok (ys := [(n, b, w2)]) (by show 1 ≤ sizeLine; decide) ns (.cons ⟨rfl, rfl, ry⟩ .nil) dd')
  obtain ⟨o, _, _, e, _⟩ := id dd'
  exact ⟨o, e⟩
theorem stp_poke {H : Hp} {Av : Addr → Prop} {p : Addr} {o' : HO} (ho : ∃ o, H p = some o) : Stp H Av (fun a => a = p) (upd H p o') Av (fun _ => False) :=
  ⟨fun a o h n => by rw [upd_ne n]; exact h, fun a o h => by
    by_cases e : a = p
    · exact ⟨o', by rw [e, upd_same]⟩
    · exact ⟨o, by rw [upd_ne e]; exact h⟩, fun a h _ => h, fun a h => .inl h, fun a h => h.elim⟩
/-- what no slot owns, and no slot's data name, changes -/
theorem RpS.poke {H : Hp} {Av : Addr → Prop} {ow : Nat → List Addr} {σ : Sl} {σV : St} {p : Addr} {o' : HO} (r : RpS X.prog X.w A0 H Av ow σ σV) (hp : Av p) (no : ¬ Ow ow p) : RpS X.prog X.w A0 (upd H p o') Av ow σ σV := by
  have st : Stp H Av (fun a => a = p) (upd H p o') Av (fun _ => False) := stp_poke (r.dom p hp)
  have nf : ∀ a : Addr, a = p → Av a := fun a h => h ▸ hp
  refine ⟨fun i sl e => ?_, r.off, r.dj, r.av, fun a h => ?_, r.len⟩
  · obtain ⟨v, hv, q⟩ := r.slot i sl e
    refine ⟨v, hv, ?_⟩
    cases q with
    | pure e0 q => exact .pure e0 (q.step st nf)
    | fdc e0 q => exact .fdc e0 (q.step st nf)
    | scr e0 q => exact .scr e0 (q.step st nf)
    | exo e0 q n => exact .exo e0 (st.rd q fun h => n (nf _ h)) (st.nav n (rd_some q))
    | mob o t => exact .mob (o.step st nf fun b hb h => no ⟨i, h ▸ hb⟩) t
  · obtain ⟨o, e⟩ := r.dom a h
    exact st.dm a o e
theorem rd_dict1 {fa fb : M R} {σV : St} {H : Hp} {Q : VK} (z : (rdE X.prog X.w cl A0 W) (eDict1 fa fb) σV H Q) : ∀ p, H p = none → (rdE X.prog X.w cl A0 W) fa σV (upd H p (dn X.prog X.w p [])) fun x H1 => (rdE X.prog X.w cl A0 W) fb σV H1 fun y H2 => H2 p = some (dn X.prog X.w p []) ∧ ∃ b n, x = .ref b ∧ KeyN X.prog X.w H2 n b ∧ Q (.ref p) (upd H2 p (dn X.prog X.w p [(n, b, y)])) := by
  intro p hp
  obtain ⟨σ, Av, ow, rs, g⟩ := z
  have npo : ¬ Ow ow p := fun h => by obtain ⟨o, e⟩ := rs.dom p (rs.ho p h); rw [hp] at e; cases e
  have sm : Same H (upd H p (dn X.prog X.w p [])) := upd_new hp
  have rs0 := rs.shun hp sm (upd_same)
  have s0 : Stp H Av (Ow ow) (upd H p (dn X.prog X.w p [])) (fun a => Av a ∨ a = p) (Ow ow) := stp_shun hp sm
  have b0 : ∀ b, upd H p (dn X.prog X.w p []) b = none → H b = none := fun b h => s0.none_of h
  refine gBind rs.dom rs0 s0 g fun r1 σ1 x H1 Av1 ow1 rs1 s01 s1 q1 g1 => ?_
  unfold mbind at g1
  cases hf : frz r1 σ1 with
  | fail => rw [hf] at g1; exact g1.elim
  | exn c σ2 => exact (frz_nox hf).elim
  | ok k σ2 =>
    rw [hf] at g1
    obtain ⟨Av2, ow2, rs2, s2, rk, k1, k2, k3⟩ := frz_ok rs.dom b0 rs1 s1 q1 hf
    refine gBind rs.dom rs2 s2 g1 fun r3 σ3 y H3 Av3 ow3 rs3 s23 s3 q3 g3 => ?_
    unfold mbind at g3
    cases hf2 : frz r3 σ3 with
    | fail => rw [hf2] at g3; exact g3.elim
    | exn c σ4 => exact (frz_nox hf2).elim
    | ok v σ4 =>
      rw [hf2] at g3
      have hb1 : ∀ b, H1 b = none → H b = none := fun b h => s1.none_of h
      obtain ⟨Av4, ow4, rs4, s4, rv, j1, j2, j3⟩ := frz_ok rs.dom hb1 rs3 s3 q3 hf2
      dsimp only at g3
      split at g3
      · rename_i ok
        have rk3 : Rp H3 Av4 k x := (rk.step s23 rs2.ho).less j1
        obtain ⟨b, rfl, kn⟩ := rk3.key (P := X.prog) (w := X.w) ok
        have p1 : H1 p = some (dn X.prog X.w p []) := s01.fm p _ upd_same npo
        have a1 : Av1 p := s01.ak p (.inr rfl) npo
        have n1 : ¬ Ow ow1 p := fun h => (s01.on p h).elim npo fun e => by rw [upd_same] at e; cases e
        have n2 : ¬ Ow ow2 p := fun ⟨i, h⟩ => n1 ⟨i, k2 i p h⟩
        have a2 : Av2 p := Classical.byContradiction fun h => (k3 p a1 h).elim n1 fun e => by rw [upd_same] at e; cases e
        have p3 : H3 p = some (dn X.prog X.w p []) := s23.fm p _ p1 n2
        have a3 : Av3 p := s23.ak p a2 n2
        have n3 : ¬ Ow ow3 p := fun h => (s23.on p h).elim n2 fun e => by rw [p1] at e; cases e
        have n4 : ¬ Ow ow4 p := fun ⟨i, h⟩ => n3 ⟨i, j2 i p h⟩
        have a4 : Av4 p := Classical.byContradiction fun h => (j3 p a3 h).elim n3 fun e => by rw [p1] at e; cases e
        refine ⟨p3, b, _, rfl, kn, ?_⟩
        have st := stp_poke (Av := Av4) (o' := dn X.prog X.w p [(nk k, b, y)]) ⟨_, p3⟩
        have nf : ∀ a : Addr, a = p → Av4 a := fun a h => h ▸ a4
        have s5 : Stp H Av (Ow ow) (upd H3 p (dn X.prog X.w p [(nk k, b, y)])) Av4 (Ow ow4) :=
          ⟨fun a o h n => by rw [upd_ne (fun e => by rw [e, hp] at h; cases h)]; exact s4.fm a o h n, fun a o h => by
            obtain ⟨o', e⟩ := s4.dm a o h
            exact st.dm a o' e, s4.ak, s4.an, s4.on⟩
        exact g3 _ _ _ _ (rs4.poke a4 n4) s5 ⟨p, [p], rfl, .dct upd_same (.cons ⟨rfl, ok, rk3.step st nf, rv.step st nf⟩ .nil), fun c hc => by
          obtain rfl : c = p := by simpa using hc
          exact ⟨a4, n4, hp⟩⟩
      · exact g3.elim
theorem de_dict1 {k v : Expr} {fk fv : M R} {pos : Pos} (hu : X.A.units + 64 < cLine) (hk : DE X cl A0 W k fk) (hv : DE X cl A0 W v fv) : DE X cl A0 W (.Dict [some k] [v] pos) (eDict1 fk fv) := peImp (pe_disp1N hu hk hv) fun _ _ _ z => rd_dict1 z
/-! ### the keys, one by one -/
/-- the dict at d stands still -/
def ItN (P : Program) (w : World) (d : Addr) (o : Obj) (xs : List (NestedKey × Addr × V)) : It :=
  ⟨fun i H => H d = some (.frz o (dn P w d xs)) ∧ i < xs.length, fun i H x H' => H' = H ∧ ∃ n b v, xs[i]? = some (n, b, v) ∧ x = .ref b, fun i H => H d = some (.frz o (dn P w d xs)) ∧ xs.length ≤ i⟩
theorem Inv.frzN {pins : List (Addr × Obj)} {σ : St} {H : Hp} {s : Shared} {d : Addr} {o : Obj} {xs : List (NestedKey × Addr × V)} (I : Inv X pins σ H s) (h : H d = some (.frz o (dn X.prog X.w d xs))) :
    (d == sysModules) = false ∧ s.heap.get? d = some o ∧ o.ExactDict ∧ ∃ (es : Array DictEntry) (ep : Nat), o.data = .dict es ep ∧ es.size = xs.length ∧
      ∀ (i : Nat) (n : NestedKey) (b : Addr) (v : V), xs[i]? = some (n, b, v) → ∃ en : DictEntry, es[i]? = some en ∧ en.key = .ref b := by
  obtain ⟨hd, ⟨z, hs, ys, pr, o', es, ep, ho, hx, hdt, he, _⟩, _⟩ := I.hok d _ h
  rw [hd] at ho
  cases ho
  refine ⟨hs, hd, hx, es, ep, hdt, ?_, fun i n b v e => ?_⟩
  · have l1 : es.size = ys.length := size_of_entries he
    have l2 : xs.length = ys.length := Paired.length pr
    omega
  · obtain ⟨q, hq, e1, e2, _⟩ := paired_get pr e
    have z := entry_at he i
    rw [hq] at z
    exact ⟨_, z, by rw [show b = q.2.1 from e2]; rfl⟩
theorem turn_keysN {P : Program} {w : World} {K : PySem.W.Frag} {tg : Expr} {d : Addr} {o : Obj} {es : Array DictEntry} {ep : Nat} {xs : List (NestedKey × Addr × V)} (it : Addr) (hod : o.data = .dict es ep) : Turn P w K tg (ItN P w d o xs) [it] it (fun i h => h.IsKeyIter it d i xs.length ep) where
  mem := by simp
  obj := fun i h st b hb => by
    have e : b = it := by simpa using hb
    subst e
    obtain ⟨oi, e, c, dd⟩ := st
    exact ⟨oi, e, fun v z => by rw [dd] at z; cases z⟩
  keep := fun i h h' st k => st.at fun oi e => k it (by simp) oi e
  item := by
    intro X hP hw hK hc i pins s σ H E I hf st hg
    subst hP hw hK
    obtain ⟨hd, hi⟩ := hg
    obtain ⟨f0, f1, f2, f3, f4, f5⟩ := hf it (by simp)
    obtain ⟨hs, hgd, hx, es', ep', hdt, hsz, ent⟩ := Inv.frzN I hd
    obtain ⟨rfl, rfl⟩ := dict_ep hod hdt
    obtain ⟨⟨n, b, v⟩, hkv⟩ : ∃ p, xs[i]? = some p := ⟨xs[i], List.getElem?_eq_getElem hi⟩
    obtain ⟨en, hen, hkey⟩ := ent i n b v hkv
    refine next_key_item st hgd hdt hsz hen fun h' st' sb => ?_
    have I1 : Inv X pins σ H { s with heap := h' } := I.turned (t' := s.toks) (fun b ob hb e => (sb.2 b hb).trans e) f0 f1 f3 f4 f5
    obtain ⟨oi, e, c, dd⟩ := id st'
    exact ⟨en.key, rfl, go_of (s := { s with heap := h' }) e c dd (by decide) ⟨.ref b, H, I1, hkey, ⟨rfl, n, b, v, hkv, rfl⟩, st', fun b hb => (hf b hb).1⟩⟩
  done := by
    intro X hP hw hK hc i pins s σ H E I hf st hg
    subst hP hw hK
    obtain ⟨hd, hi⟩ := hg
    obtain ⟨f0, f1, f2, f3, f4, f5⟩ := hf it (by simp)
    obtain ⟨hs, hgd, hx, es', ep', hdt, hsz, ent⟩ := Inv.frzN I hd
    obtain ⟨rfl, rfl⟩ := dict_ep hod hdt
    exact next_key_end (I.ok.hd hc) st hgd hdt hsz hi fun h' eb => ⟨rfl, I.turned (t' := s.toks) (fun b ob hb e => eb b ob hb e) f0 f1 f3 f4 f5⟩
  self := fun A i s Q E st h => by
    refine wpAny_pyIter_slot st.typeIs F.slot_dict_keyiterator_iter (wpAny_call_entry F.slot_dict_keyiterator_iter st.typeIs F.entry_dict_keyiterator_iter ?_ (F.args_dict_keyiterator_iter_1 _))
    show wpAny _ _ (ret (.ref it)) _ _ s
    exact wpAny_pure ⟨_, rfl, "dict_keyiterator", _, st.typeIs, F.slot_dict_keyiterator_next.lookup, h⟩
theorem pi_keysN {tg e : Expr} {td : TE} (he : PE X e td) : PI X tg e (fun σ H R => td σ H fun x H1 => ∃ d xs, x = .ref d ∧ ((H1 d = some (dn X.prog X.w d xs) ∧ ∀ o, R (ItN X.prog X.w d o xs) (upd H1 d (.frz o (dn X.prog X.w d xs)))) ∨ ∃ o, H1 d = some (.frz o (dn X.prog X.w d xs)) ∧ R (ItN X.prog X.w d o xs) H1)) := by
  refine ⟨fun pins s σ H R I h => ?_⟩
  refine thn (he.run pins s σ H _ I h) fun u s1 ⟨x, H1, I1, rx, d, xs, ex, q⟩ => ?_
  subst ex
  obtain rfl : u = Value.ref d := rx
  have fin : ∀ o H2, Inv X pins σ H2 s1 → H2 d = some (.frz o (dn X.prog X.w d xs)) → R (ItN X.prog X.w d o xs) H2 → wpAny (model X.prog X.w) X.A (pyIter (.ref d)) (PIE X pins σ tg R) X.xe s1 := by
    intro o H2 I2 hd q
    obtain ⟨hs, hgd, hx, es, ep, hdt, hsz, ent⟩ := Inv.frzN I2 hd
    refine iter_keys hs hgd hx hdt (pi_one (tk := s1.toks) I2 _ (turn_keysN _ hdt) ⟨_, Heap.get?_push_size _ rfl, rfl, ?_⟩ q)
    rw [hsz] <;> rfl
  rcases q with ⟨hd, q⟩ | ⟨o, hd, q⟩
  · obtain ⟨o, I2⟩ := I1.lock hd True.intro
    exact fin o _ I2 upd_same (q o)
  · exact fin o _ I1 hd q
theorem Paired.get? {α β : Type} {F : α → β → Prop} : ∀ {l : List α} {m : List β} {i : Nat} {x : α}, Paired F l m → l[i]? = some x → ∃ y, m[i]? = some y ∧ F x y
  | _, _, _, _, .nil, e => by simp at e
  | _, _, 0, _, .cons r _, e => by simp at e; subst e; exact ⟨_, rfl, r⟩
  | _, _, i + 1, x, .cons _ t, e => by
    obtain ⟨y, h1, h2⟩ := Paired.get? (i := i) (x := x) t (by simpa using e)
    exact ⟨y, by simpa using h1, h2⟩
theorem it_keys {H : Hp} {Av O : Addr → Prop} {kvs : List (D × D)} {xs : List (NestedKey × Addr × V)} {a : Addr} {o : Obj} (ho : ∀ b, O b → Av b) (h : H a = some (.frz o (dn X.prog X.w a xs))) (n : ¬ Av a) (r : Rpk H Av kvs xs) : ItOk (ItN X.prog X.w a o xs) H Av O (kvs.map (·.1)) := by
  intro Hc Avc Oc s hd i
  have hc := s.fm a _ h fun z => n (ho a z)
  have rc := r.step s ho
  have hl : kvs.length = xs.length := Paired.length r
  refine ⟨fun d e => ?_, fun l => ⟨hc, by simp at l; omega⟩⟩
  rw [List.getElem?_map] at e
  cases hk : kvs[i]? with
  | none => rw [hk] at e; cases e
  | some p =>
    rw [hk] at e
    cases e
    obtain ⟨q, hq, e1, e2, e3, e4⟩ := Paired.get? rc hk
    refine ⟨⟨hc, by have := (List.getElem?_eq_some_iff.mp hq).1; omega⟩, fun x Hn hy => ?_⟩
    obtain ⟨rfl, n', b', v', hx, rfl⟩ := hy
    rw [hq] at hx
    cases hx
    exact ⟨fun _ _ h => h, e3⟩
theorem RpS.lockD {H : Hp} {Av : Addr → Prop} {ow : Nat → List Addr} {σ : Sl} {σV : St} {i : Nat} {kvs : List (D × D)} {a : Addr} {xs : List (NestedKey × Addr × V)} {o : Obj} (r : RpS X.prog X.w A0 H Av ow σ σV) (hv : σV[i]? = some (some (.ref a))) (ei : ow i = [a]) (h : H a = some (dn X.prog X.w a xs)) (rk : Rpk H Av kvs xs) :
    RpS X.prog X.w A0 (upd H a (.frz o (dn X.prog X.w a xs))) (fun b => Av b ∧ b ∉ ow i) (owDrop ow i) (σ.set i (some (.fdc (.dct kvs)))) σV ∧ Stp H Av (Ow ow) (upd H a (.frz o (dn X.prog X.w a xs))) (fun b => Av b ∧ b ∉ ow i) (Ow (owDrop ow i)) ∧ Rpk (upd H a (.frz o (dn X.prog X.w a xs))) (fun b => Av b ∧ b ∉ ow i) kvs xs := by
  have hi : i < σ.length := by rw [r.len]; exact (List.getElem?_eq_some_iff.mp hv).1
  have ai : a ∈ ow i := by rw [ei]; simp
  have st : Stp H Av (fun b => b = a) (upd H a (.frz o (dn X.prog X.w a xs))) (fun b => Av b ∧ b ∉ ow i) (fun _ => False) :=
    ⟨fun b u hb n => by rw [upd_ne n]; exact hb, fun b u hb => by
      by_cases e : b = a
      · exact ⟨_, by rw [e, upd_same]⟩
      · exact ⟨u, by rw [upd_ne e]; exact hb⟩, fun b hb n => ⟨hb, fun z => n (by rw [ei] at z; simpa using z)⟩, fun b hb => .inl hb.1, fun b hb => hb.elim⟩
  have nf : ∀ b : Addr, b = a → Av b := fun b hb => hb ▸ r.av i a ai
  have rk' := rk.step st nf
  refine ⟨⟨fun j sl e => ?_, fun j h => ?_, fun j k b h1 h2 => r.dj j k b (owDrop_sub h1).2 (owDrop_sub h2).2, fun j b h => ⟨r.av j b (owDrop_sub h).2, fun z => (owDrop_sub h).1 (r.dj _ _ _ (owDrop_sub h).2 z)⟩, fun b h => ?_, by simpa using r.len⟩, ?_, rk'⟩
  · by_cases hj : i = j
    · subst hj
      rw [List.getElem?_set_self hi] at e
      cases e
      refine ⟨_, hv, ?_⟩
      refine .fdc (by unfold owDrop; rw [if_pos rfl]) (.dct upd_same (fun z => z.2 ai) rk')
    · rw [List.getElem?_set_ne hj] at e
      obtain ⟨v, hv', q⟩ := r.slot j sl e
      refine ⟨v, hv', ?_⟩
      have eo : owDrop ow i j = ow j := by unfold owDrop; rw [if_neg (Ne.symm hj)]
      rw [eo]
      cases q with
      | pure e0 q => exact .pure e0 (q.step st nf)
      | fdc e0 q => exact .fdc e0 (q.step st nf)
      | scr e0 q => exact .scr e0 (q.step st nf)
      | exo e0 q n => exact .exo e0 (st.rd q fun h => n (nf _ h)) (st.nav n (rd_some q))
      | mob o t => exact .mob (o.step st nf fun b hb h => hj (r.dj i j b (h ▸ ai) hb)) t
  · unfold owDrop
    by_cases hj : j = i
    · rw [if_pos hj]
    · rw [if_neg hj]
      exact r.off j fun sl => by rw [← List.getElem?_set_ne (Ne.symm hj)]; exact h sl
  · obtain ⟨u, e⟩ := r.dom b h.1
    exact st.dm b u e
  · refine ⟨fun b u hb n => ?_, st.dm, fun b hb n => ⟨hb, fun z => n ⟨i, z⟩⟩, fun b hb => .inl hb.1, fun b ⟨j, h⟩ => .inl ⟨j, (owDrop_sub h).2⟩⟩
    rw [upd_ne (show b ≠ a from fun e => n ⟨i, by rw [e]; exact ai⟩)]
    exact hb
/-- for k in name: a dict -/
theorem di_keys {tg : Expr} {i : Nat} {x : Str} {p : Pos} (hv : PE X (.Name x p) (tVar i)) : DI X cl A0 W tg (.Name x p) (iKeys i) := by
  refine piImp (pi_keysN hv) fun σV H Rr z => ?_
  obtain ⟨σ, Av, ow, rs, g⟩ := z
  have g : oG X.prog X.w cl A0 W RlIt σV H Av ow Rr (iKeys i σ) := g
  unfold iKeys at g
  split at g
  · rename_i kvs hs
    obtain ⟨v, hv', q⟩ := rs.slot i _ hs
    generalize hl : ow i = l at q
    cases q with
    | mob o t =>
      cases o with
      | dct h rk =>
        refine ⟨_, hv', _, _, rfl, .inl ⟨h, fun o => ?_⟩⟩
        obtain ⟨rs2, s2, rk2⟩ := rs.lockD (o := o) hv' hl h rk
        exact g _ _ _ _ rs2 s2 (it_keys rs2.ho upd_same (fun z => z.2 (by rw [hl]; simp)) rk2)
  · rename_i kvs hs
    obtain ⟨v, hv', q⟩ := rs.slot i _ hs
    cases q with
    | fdc e0 q =>
      cases q with
      | dct h n rk =>
        refine ⟨_, hv', _, _, rfl, .inr ⟨_, h, ?_⟩⟩
        exact g _ _ _ _ rs Stp.refl (it_keys rs.ho h n rk)
  · exact g.elim
/-! ### x = y: the object goes over -/
def owMove (ow : Nat → List Addr) (i j : Nat) : Nat → List Addr := fun k => if k = i then ow j else if k = j then [] else ow k
theorem owMove_sub {ow : Nat → List Addr} {i j k : Nat} {a : Addr} (h : a ∈ owMove ow i j k) : (k = i ∧ a ∈ ow j) ∨ (k ≠ i ∧ k ≠ j ∧ a ∈ ow k) := by
  unfold owMove at h
  split at h
  · exact .inl ⟨by assumption, h⟩
  · split at h
    · cases h
    · exact .inr ⟨by assumption, by assumption, h⟩
theorem RpS.goOver {H : Hp} {Av : Addr → Prop} {ow : Nat → List Addr} {σ : Sl} {σV : St} {i j : Nat} {ob : Ob} (r : RpS X.prog X.w A0 H Av ow σ σV) (hi : i < σV.length) (hs : σ[j]? = some (some (.mob none ob))) :
    ∃ v, σV[j]? = some (some v) ∧ RpS X.prog X.w A0 H Av (owMove ow i j) ((σ.set j none).set i (some (.mob none ob))) (σV.set i (some v)) ∧ Stp H Av (Ow ow) H Av (Ow (owMove ow i j)) := by
  obtain ⟨v, hv, q⟩ := r.slot j _ hs
  refine ⟨v, hv, ⟨fun k sl e => ?_, fun k h => ?_, fun k k' a h1 h2 => ?_, fun k a h => ?_, r.dom, by simpa using r.len⟩, ⟨fun _ _ h _ => h, fun _ o h => ⟨o, h⟩, fun _ h _ => h, fun _ h => .inl h, fun a ⟨k, h⟩ => ?_⟩⟩
  · by_cases hk : i = k
    · subst hk
      rw [List.getElem?_set_self (by simpa [r.len] using hi)] at e
      cases e
      refine ⟨v, by rw [List.getElem?_set_self hi], ?_⟩
      have eo : owMove ow i j i = ow j := by unfold owMove; rw [if_pos rfl]
      rw [eo]
      exact q
    · rw [List.getElem?_set_ne hk] at e
      by_cases hj : j = k
      · subst hj
        obtain ⟨hl, _⟩ := List.getElem?_eq_some_iff.mp hs
        rw [List.getElem?_set_self hl] at e
        cases e
      · rw [List.getElem?_set_ne hj] at e
        obtain ⟨u, hu, z⟩ := r.slot k sl e
        refine ⟨u, by rw [List.getElem?_set_ne hk]; exact hu, ?_⟩
        have eo : owMove ow i j k = ow k := by unfold owMove; rw [if_neg (Ne.symm hk), if_neg (Ne.symm hj)]
        rw [eo]
        exact z
  · unfold owMove
    by_cases hk : k = i
    · subst hk
      exact absurd (List.getElem?_set_self (by simpa [r.len] using hi)) (h (.mob none ob))
    · rw [if_neg hk]
      by_cases hj : k = j
      · rw [if_pos hj]
      · rw [if_neg hj]
        exact r.off k fun sl => by
          have := h sl
          rw [List.getElem?_set_ne (Ne.symm hk), List.getElem?_set_ne (Ne.symm hj)] at this
          exact this
  · rcases owMove_sub h1 with ⟨e1, m1⟩ | ⟨n1, n1', m1⟩ <;> rcases owMove_sub h2 with ⟨e2, m2⟩ | ⟨n2, n2', m2⟩
    · rw [e1, e2]
    · exact absurd (r.dj _ _ _ m2 m1) n2'
    · exact absurd (r.dj _ _ _ m1 m2) n1'
    · exact r.dj _ _ _ m1 m2
  · rcases owMove_sub h with ⟨_, m⟩ | ⟨_, _, m⟩
    · exact r.av _ _ m
    · exact r.av _ _ m
  · rcases owMove_sub h with ⟨_, m⟩ | ⟨_, _, m⟩
    · exact .inl ⟨_, m⟩
    · exact .inl ⟨_, m⟩
theorem ds_move {i j : Nat} {x z : Str} {p pos pos' : Pos} (hN : X.N.Nodup) (hi : X.N[i]? = some x) (hx : Loc X.env.scope x) (hv : PE X (.Name z p) (tVar j)) (hs : swapsWith (.Name z p) (some (.Name x pos')) pos.line X.env = pure false := by rfl)
    (hf : X.fn x = true ∨ X.env.scope.names.lookup x = some .local := by first | exact .inl rfl | exact .inr rfl | assumption) : DS X cl A0 W (.Assign [.Name x pos'] (.Name z p) pos) (sMove i j) := by
  refine psImpN (ps_set hN hi hx hv hs hf) fun D σV H l z => ?_
  obtain ⟨σ, Av, ow, rs, g⟩ := z
  have g : oS X.prog X.w cl A0 W σV.length D H Av ow (sMove i j σ) := g
  unfold sMove at g
  split at g
  · rename_i ob hsl
    obtain ⟨v, hv', rs2, s2⟩ := rs.goOver (by rw [l]; exact (List.getElem?_eq_some_iff.mp hi).1) hsl
    exact ⟨v, hv', g _ H Av _ (by simp) rs2 s2⟩
  · exact g.elim
end
end DL

/-! DLdne: d != {}, min and max of ints. -/
namespace DL
open PySem L2 PySem.W
section
variable {X : Cx} {cl : Nat → Addr} {A0 : AK} {W : WX}

theorem ne_empty {A : Around} {E : Value → Shared → Prop} {s : Shared} {a b : Addr} {oa ob : Obj} {es : Array DictEntry} {ep ep' : Nat} {Q : Value → Shared → Prop} (ha : (a == sysModules) = false) (hb : (b == sysModules) = false)
    (hoa : s.heap.get? a = some oa) (ca : oa.ExactDict) (hda : oa.data = .dict es ep) (hob : s.heap.get? b = some ob) (cb : ob.ExactDict) (hdb : ob.data = .dict #[] ep') (hu : A.units < cLine) (h : Q (.bool (!(es.size == 0))) s) :
    wpAny (model X.prog X.w) A (compareOp .NotEq (.ref a) (.ref b)) Q E s := by
  have ta : s.TypeIs (.ref a) "dict" := ⟨oa, hoa, ca.1⟩
  have tb : s.TypeIs (.ref b) "dict" := ⟨ob, hob, cb.1⟩
  refine wpAny_richCompare_same_room (op := .NotEq) ta tb PySem.F.slot_dict_ne (wpAny_call_entry PySem.F.slot_dict_ne ta PySem.F.entry_dict_ne ?_ (PySem.F.args_dict_ne_2 _ _)) hu
  show wpAny _ _ (Builtin.Dict.dictSlotArgs "__ne__" ⟨[.ref a, .ref b], []⟩ >>= _) _ _ s
  refine wpAny_bind ?_
  unfold Builtin.Dict.dictSlotArgs
  refine wpAny_bind (wpAny_notOrdered_dict ta ?_)
  show wpAny _ _ (pure (Value.ref a, Value.ref b)) _ _ s
  refine wpAny_pure ?_
  refine wpAny_bind (wpAny_isInstance (T := "dict") tb PySem.F.sub_dict_dict ?_)
  simp only [Bool.not_true, Bool.false_eq_true, if_false]
  refine wpAny_bind (wpAny_pure (wpAny_bind (wpAny_pure ?_)))
  refine wpAny_bind ?_
  have fin : wpAny (model X.prog X.w) A.in1 (Builtin.Dict.samePairs "dict.__ne__" a b) (fun r s' => r = (es.size == 0) ∧ s' = s) E s := by
    unfold Builtin.Dict.samePairs Builtin.Dict.showsAll
    rw [if_neg (show ¬ (a == sysModules) = true by rw [ha]; exact Bool.false_ne_true), if_neg (show ¬ (b == sysModules) = true by rw [hb]; exact Bool.false_ne_true)]
    refine wpAny_bind (wpAny_pure (wpAny_bind (wpAny_pure ?_)))
    refine wpAny_bind (wpAny_dictEntries hoa hda ?_)
    dsimp only
    refine wpAny_bind (wpAny_dictEntries hob hdb ?_)
    by_cases hsz : es.size = 0
    · rw [if_neg (by rw [hsz]; simp)]
      refine wpAny_bind (wpAny_dictEpoch hoa hda ?_)
      refine wpAny_bind ?_
      rw [Std.Legacy.Range.forIn_eq_forIn_range']
      simp only [Std.Legacy.Range.size, Nat.sub_zero, Nat.add_sub_cancel, Nat.div_one, hsz, List.range'_zero, List.forIn_nil]
      exact wpAny_pure (wpAny_pure ⟨by simp, rfl⟩)
    · rw [if_pos (by simpa using hsz)]
      exact wpAny_bind (wpAny_rule (wpAny_pure ⟨by simpa using hsz, rfl⟩))
  refine wpAny_mono fin (fun r s' hr => ?_) fun _ _ e => e
  obtain ⟨rfl, rfl⟩ := hr
  refine wpAny_pure ⟨_, rfl, ?_, ?_⟩
  · exact fun x => nomatch x
  · simpa using h
def rNeD (X : Cx) : R2 := fun x y H Q => ∃ a b xs, x = .ref a ∧ y = .ref b ∧ Rd H a (dn X.prog X.w a xs) ∧ Rd H b (dn X.prog X.w b []) ∧ Q (.bl (!xs.isEmpty)) H
theorem or_neD (hu : X.A.units + 64 < cLine) : OpR X (compareOp .NotEq) (rNeD X) := by
  intro pins s σ H x y v u Q I rx ry h
  obtain ⟨a, b, xs, rfl, rfl, h1, h2, q⟩ := h
  cases rx
  cases ry
  obtain ⟨⟨_, n1, ys, pr, o1, es1, ep1, g1, c1, d1, e1, _⟩, _⟩ := h1.ok I.hok
  obtain ⟨⟨_, n2, zs, pz, o2, es2, ep2, g2, c2, d2, e2, _⟩, _⟩ := h2.ok I.hok
  cases pz
  have l1 : es1.size = ys.length := size_of_entries e1
  have l2 : xs.length = ys.length := Paired.length pr
  have z2 : es2 = #[] := by
    have : es2.toList = [] := by rw [e2]; rfl
    exact Array.toList_inj.mp (by simpa using this)
  subst z2
  refine ne_empty n1 n2 g1 c1 d1 g2 c2 d2 (by omega) ⟨.bl _, H, I, rfl, ?_⟩
  have e : (es1.size == 0) = xs.isEmpty := by
    rw [l1, ← l2]
    cases xs <;> simp
  rw [e]
  exact q
theorem rd_dne {fa : M R} {σV : St} {H : Hp} {Q : VK} (z : (rdE X.prog X.w cl A0 W) (eDNe fa) σV H Q) : tOp (rNeD X) ((rdE X.prog X.w cl A0 W) fa) (fun _ H Q => ∀ p, H p = none → Q (.ref p) (upd H p (dn X.prog X.w p []))) σV H Q := by
  obtain ⟨σ, Av, ow, rs, g⟩ := z
  refine gBind rs.dom rs Stp.refl g fun r1 σ1 x H1 Av1 ow1 rs1 _ s1 q1 g1 => ?_
  intro p hp
  cases h1 : asKv r1 σ1 with
  | none => simp only [h1] at g1; exact g1.elim
  | some ob =>
    cases ob with
    | dct kvs =>
      simp only [h1] at g1
      obtain ⟨a, xs, rfl, hd, rk⟩ := TopK.dct (asKv_ok rs1 q1 h1)
      have ne : a ≠ p := fun e => by obtain ⟨o, z⟩ := rd_some hd; rw [e, hp] at z; cases z
      have hd' : Rd (upd H1 p (dn X.prog X.w p [])) a (dn X.prog X.w a xs) := by
        rcases hd with h | ⟨o, h⟩
        · exact .inl (by rw [upd_ne ne]; exact h)
        · exact .inr ⟨o, by rw [upd_ne ne]; exact h⟩
      refine ⟨a, p, xs, rfl, rfl, hd', .inl upd_same, ?_⟩
      have hl : kvs.length = xs.length := Paired.length rk
      have e : xs.isEmpty = kvs.isEmpty := by
        cases xs <;> cases kvs <;> simp_all
      rw [e]
      exact gEnd rs.dom rs1 s1 g1 ⟨upd_new hp, .bl _⟩
    | lst xs => simp only [h1] at g1; exact g1.elim
    | dcs xs => simp only [h1] at g1; exact g1.elim
theorem de_dne {a : Expr} {fa : M R} {p pos : Pos} (hu : X.A.units + 64 < cLine) (ha : DE X cl A0 W a fa) (hm : behindInMarks .NotEq (.Dict [] [] p) = false := by rfl) : DE X cl A0 W (.Compare a [.NotEq] [.Dict [] [] p] pos) (eDNe fa) := peImp (pe_cmpR (or_neD hu) ha pe_dnewN hm) fun _ _ _ z => rd_dne z
theorem dt_dne {a : Expr} {fa : M R} {p pos : Pos} (hu : X.A.units + 64 < cLine) (ha : DE X cl A0 W a fa) (hm : behindInMarks .NotEq (.Dict [] [] p) = false := by rfl) : DT X cl A0 W (.Compare a [.NotEq] [.Dict [] [] p] pos) (tB (eDNe fa)) := ptImp (pt_cmpR (or_neD hu) ha pe_dnewN hm) fun _ _ _ z => rd_dne (rd_tB z)
/-! ### min, max -/
def pyMinL : D → Option R
  | .lst xs => match intsD xs with
    | some ns => (minI ns).map fun m => .pure (.int m)
    | none => none
  | _ => none
def pyMaxL : D → Option R
  | .lst xs => match intsD xs with
    | some ns => (maxI ns).map fun m => .pure (.int m)
    | none => none
  | _ => none
theorem foldl_min_le : ∀ (r : List Int) (x : Int), r.foldl min x ≤ x ∧ ∀ y ∈ r, r.foldl min x ≤ y
  | [], x => ⟨by simp, fun _ h => nomatch h⟩
  | z :: r, x => by
    obtain ⟨h1, h2⟩ := foldl_min_le r (min x z)
    simp only [List.foldl_cons]
    refine ⟨by omega, fun y hy => ?_⟩
    rcases List.mem_cons.mp hy with rfl | hy
    · omega
    · exact h2 y hy
theorem foldl_min_mem : ∀ (r : List Int) (x : Int), r.foldl min x ∈ x :: r
  | [], x => by simp
  | z :: r, x => by
    have h := foldl_min_mem r (min x z)
    simp only [List.foldl_cons]
    rcases List.mem_cons.mp h with h | h
    · rw [h]
      rcases Int.le_total x z with q | q
      · rw [Int.min_eq_left q]; simp
      · rw [Int.min_eq_right q]; simp
    · simp [h]
theorem foldl_max_ge : ∀ (r : List Int) (x : Int), x ≤ r.foldl max x ∧ ∀ y ∈ r, y ≤ r.foldl max x
  | [], x => ⟨by simp, fun _ h => nomatch h⟩
  | z :: r, x => by
    obtain ⟨h1, h2⟩ := foldl_max_ge r (max x z)
    simp only [List.foldl_cons]
    refine ⟨by omega, fun y hy => ?_⟩
    rcases List.mem_cons.mp hy with rfl | hy
    · omega
    · exact h2 y hy
theorem foldl_max_mem : ∀ (r : List Int) (x : Int), r.foldl max x ∈ x :: r
  | [], x => by simp
  | z :: r, x => by
    have h := foldl_max_mem r (max x z)
    simp only [List.foldl_cons]
    rcases List.mem_cons.mp h with h | h
    · rw [h]
      rcases Int.le_total x z with q | q
      · rw [Int.max_eq_right q]; simp
      · rw [Int.max_eq_left q]; simp
    · simp [h]
theorem o_minL : Op1 X.prog X.w pyMinL (fun x H Q => rMin X.K [x] H Q) := by
  intro H Av d x z Q hd t hf k
  cases d with
  | lst xs =>
    simp only [pyMinL] at hf
    cases hb : intsD xs with
    | none => rw [hb] at hf; cases hf
    | some ns =>
      rw [hb] at hf
      obtain ⟨a, vs, rfl, h, r⟩ := t.lst
      have e := ints_rp r hb
      subst e
      cases ns with
      | nil => cases hf
      | cons n ns =>
        cases hf
        refine ⟨a, n :: ns, rfl, SqL.of h, by simp, fun m hm hle => ?_⟩
        have e1 := foldl_min_le ns n
        have e2 := hle _ (foldl_min_mem ns n)
        have e3 : ns.foldl min n ≤ m := by
          rcases List.mem_cons.mp hm with h | h
          · rw [h]; exact e1.1
          · exact e1.2 m h
        rw [show m = ns.foldl min n by omega]
        exact k _ _ (new_pure (.int _))
  | _ => cases hf
theorem o_maxL : Op1 X.prog X.w pyMaxL (fun x H Q => rMax X.K [x] H Q) := by
  intro H Av d x z Q hd t hf k
  cases d with
  | lst xs =>
    simp only [pyMaxL] at hf
    cases hb : intsD xs with
    | none => rw [hb] at hf; cases hf
    | some ns =>
      rw [hb] at hf
      obtain ⟨a, vs, rfl, h, r⟩ := t.lst
      have e := ints_rp r hb
      subst e
      cases ns with
      | nil => cases hf
      | cons n ns =>
        cases hf
        refine ⟨a, n :: ns, rfl, SqL.of h, by simp, fun m hm hle => ?_⟩
        have e1 := foldl_max_ge ns n
        have e2 := hle _ (foldl_max_mem ns n)
        have e3 : m ≤ ns.foldl max n := by
          rcases List.mem_cons.mp hm with h | h
          · rw [h]; exact e1.1
          · exact e1.2 m h
        rw [show m = ns.foldl max n by omega]
        exact k _ _ (new_pure (.int _))
  | _ => cases hf
end
end DL

/-! DLpar: x, z = y, e: the object of y goes over to x. -/
namespace DL
open PySem L2
/-- x (i), z (k) = y (j), e -/
def sParM (i j k : Nat) (e : M R) : M Flow := fun σ => if isMo σ[j]? = true then (mbind e fun r σ => match r with
  | .pure d => match σ[j]? with
    | some (some (.mob none ob)) => .ok .next (((σ.set j none).set i (some (.mob none ob))).set k (some (.pure d)))
    | _ => .fail
  | _ => .fail) σ else .fail
section
variable {X : Cx} {cl : Nat → Addr} {A0 : AK} {W : WX}
theorem ds_parM {i j k : Nat} {x y z : Str} {e : Expr} {fe : M R} {px py pz pt pos : Pos} {kt k2 pt2} (hc : X.calm = true) (hN : X.N.Nodup) (hi : X.N[i]? = some x) (hk : X.N[k]? = some z) (hx : X.env.scope.names.lookup x = some .local) (hz : X.env.scope.names.lookup z = some .local) (hv : PE X (.Name y py) (tVar j)) (he : DE X cl A0 W e fe)
    (hw : swappedStores [.Tuple [.Name x px, .Name z pz] kt pt] (.Tuple [.Name y py, e] k2 pt2) X.env = pure (some [x, z])) (hij : i ≠ k := by decide) (h1 : starEach [.Name y py, e] X.env = (false, eval (.Name y py) X.env) :: starEach [e] X.env := by rfl) (h2 : starEach [e] X.env = [(false, eval e X.env)] := by rfl)
    (hs : swapsWithSole [.Tuple [.Name x px, .Name z pz] kt pt] (.Tuple [.Name y py, e] k2 pt2) pos.line X.env = pure false := by rfl) : DS X cl A0 W (.Assign [.Tuple [.Name x px, .Name z pz] kt pt] (.Tuple [.Name y py, e] k2 pt2) pos) (sParM i j k fe) := by
  refine psImpN (ps_par hc hN hi hk hij hx hz (pa_cons hv (pa_cons he pa_nil h2) h1) hw hs) fun D σV H l zz => ?_
  obtain ⟨σ, Av, ow, rs, g⟩ := zz
  have li : i < σV.length := by rw [l]; exact (List.getElem?_eq_some_iff.mp hi).1
  have lk : k < σV.length := by rw [l]; exact (List.getElem?_eq_some_iff.mp hk).1
  have g : oS X.prog X.w cl A0 W σV.length D H Av ow (sParM i j k fe σ) := g
  unfold sParM at g
  by_cases hm : isMo σ[j]? = true
  · rw [if_pos hm] at g
    have hy : ∃ v, σV[j]? = some (some v) := by
      cases hq : σ[j]? with
      | none => rw [hq] at hm; cases hm
      | some os =>
        cases os with
        | none => rw [hq] at hm; cases hm
        | some sl =>
          obtain ⟨v, hv', _⟩ := rs.slot j sl hq
          exact ⟨v, hv'⟩
    obtain ⟨v, hv'⟩ := hy
    refine ⟨v, hv', ?_⟩
    refine gBindS rfl rs.dom rs Stp.refl g fun r σ1 u H1 Av1 ow1 rs1 _ s1 q1 g1 => ?_
    cases r with
    | pure d =>
      simp only at g1
      split at g1
      · rename_i ob hsl
        obtain ⟨v2, e2, rs2, s2⟩ := rs1.goOver li hsl
        rw [hv'] at e2
        cases e2
        obtain ⟨ow3, rs3, s3, _⟩ := setAll_ok (is := [k]) (ds := [d]) (vs := [u]) rs2 (s1.trans rs.dom s2) (fun n hn => by
          obtain rfl : n = k := by simpa using hn
          rw [rs2.len]; simpa using lk) (.cons q1 .nil)
        refine ⟨v, u, rfl, ?_⟩
        have := g1 _ H1 Av1 ow3 (by rw [setV_len]; simp) rs3 s3
        simpa [setV, flE] using this
      · exact g1.elim
    | _ => exact g1.elim
  · rw [if_neg hm] at g; exact g.elim
/-- the same, where the values go by a tuple -/
theorem ds_parMT {i j k : Nat} {y : Str} {gs : List Expr} {e : Expr} {fe : M R} {py pos pos' pos2 : Pos} {kt k2 : Nat} (hg : DG X (.Tuple gs kt pos') (.tup [i, k])) (hv : PE X (.Name y py) (tVar j)) (he : DE X cl A0 W e fe)
    (hs : swapsWithSole [.Tuple gs kt pos'] (.Tuple [.Name y py, e] k2 pos2) pos.line X.env = pure false := by rfl) (hw : swappedStores [.Tuple gs kt pos'] (.Tuple [.Name y py, e] k2 pos2) X.env = pure none := by rfl)
    (h0 : (assignEach [.Tuple gs kt pos'] X.env).map (·.2) = [assign (.Tuple gs kt pos') X.env] := by rfl) (h1 : starEach [.Name y py, e] X.env = (false, eval (.Name y py) X.env) :: starEach [e] X.env := by rfl) (h2 : starEach [e] X.env = [(false, eval e X.env)] := by rfl) : DS X cl A0 W (.Assign [.Tuple gs kt pos'] (.Tuple [.Name y py, e] k2 pos2) pos) (sParM i j k fe) := by
  refine psImpN (ps_asg (pe_tup (pa_cons hv (pa_cons he pa_nil h2) h1)) hg.1 hs hw h0) fun D σV H l zz => ?_
  obtain ⟨σ, Av, ow, rs, g⟩ := zz
  have li : i < σV.length := by rw [l]; exact hg.2 i (by simp [Tg.ix])
  have lk : k < σV.length := by rw [l]; exact hg.2 k (by simp [Tg.ix])
  have g : oS X.prog X.w cl A0 W σV.length D H Av ow (sParM i j k fe σ) := g
  unfold sParM at g
  by_cases hm : isMo σ[j]? = true
  · rw [if_pos hm] at g
    have hy : ∃ v, σV[j]? = some (some v) := by
      cases hq : σ[j]? with
      | none => rw [hq] at hm; cases hm
      | some os =>
        cases os with
        | none => rw [hq] at hm; cases hm
        | some sl =>
          obtain ⟨v, hv', _⟩ := rs.slot j sl hq
          exact ⟨v, hv'⟩
    obtain ⟨v, hv'⟩ := hy
    refine ⟨v, hv', ?_⟩
    refine gBindS rfl rs.dom rs Stp.refl g fun r σ1 u H1 Av1 ow1 rs1 _ s1 q1 g1 => ?_
    cases r with
    | pure d =>
      simp only at g1
      split at g1
      · rename_i ob hsl
        refine ⟨by show 2 ≤ sizeLine; decide, fun p hp => ⟨p, [v, u], rfl, SqT.of upd_same, rfl, gNames_of rfl ?_⟩⟩
        have sm : Same H1 (upd H1 p (.tup [v, u])) := upd_new hp
        obtain ⟨v2, e2, rs2, s2⟩ := (rs1.same sm).goOver li hsl
        rw [hv'] at e2
        cases e2
        obtain ⟨ow3, rs3, s3, _⟩ := setAll_ok (is := [k]) (ds := [d]) (vs := [u]) rs2 ((s1.trans rs.dom (Same.stp sm)).trans rs.dom s2) (fun n hn => by
          obtain rfl : n = k := by simpa using hn
          rw [rs2.len]; simpa using lk) (.cons (q1.same sm) .nil)
        have := g1 _ _ Av1 ow3 (by rw [setV_len]; simp) rs3 s3
        simpa [setV, flE] using this
      · exact g1.elim
    | _ => exact g1.elim
  · rw [if_neg hm] at g; exact g.elim
end
end DL

/-! DLenum: for i, x in enumerate(a tuple). -/
namespace DL
open PySem L2 PyProof.Rows
theorem meets_enum1 {v : Value} {o : Obj} {H : Heap → Prop} (B : Begins v o H) :
    Meets (Builtin.«enumerate.__new__» ⟨[.type "enumerate", v], []⟩) (fun _ R s => H s.heap ∧
      R (.ok (.ret (.ref (s.heap.push o).objs.size))) { s with heap := (s.heap.push o).push { cls := .type "enumerate", data := .fields #[.none, .bool false, .ref s.heap.objs.size, rawInt 0, .none, .none] } }) :=
  .of_wp fun prog w A R s h => by
    obtain ⟨hp, g, d, tk, os⟩ := s; obtain ⟨h1, h⟩ := h
    have hsub := sub_enumerate
    have q1 : ∀ {A' : Around} {E : Value → Shared → Prop} {Q : Value → Shared → Prop}, Q (.ref hp.objs.size) ⟨hp.push o, g, d, tk, os⟩ → wpAny (model prog w) A' (pyIter v) Q E ⟨hp, g, d, tk, os⟩ :=
      fun q => B.iter prog w _ _ ⟨hp, g, d, tk, os⟩ _ h1 q
    wp_walk using q1
    refine wpAny_stack_any fun st => wpAny_pure ?_
    split
    · rename_i c _ _ _ _ _
      cases (c == Value.type "enumerate")
      · wp_walk using q1
        exact ⟨_, rfl, h⟩
      · wp_walk using q1
        exact ⟨_, rfl, h⟩
    · wp_walk using q1
      exact ⟨_, rfl, h⟩
theorem enum_begins1 {prog : Program} {w : World} {A : Around} {E : Value → Shared → Prop} {s : Shared} {v : Value} {o : Obj} {H : Heap → Prop} {Q : Value → Shared → Prop} (B : Begins v o H) (h1 : H s.heap)
    (h : ∀ h', IsEnum h' (s.heap.objs.size + 1) s.heap.objs.size 0 .none → h'.get? s.heap.objs.size = some o → h'.objs.size = s.heap.objs.size + 2 →
      (∀ b o, s.heap.get? b = some o → h'.get? b = some o) → Q (.ref (s.heap.objs.size + 1)) { s with heap := h' }) :
    wpAny (model prog w) A (call (.type "enumerate") [v]) Q E s := by
  refine callType_new F.called_enumerate (by decide) (F.typeCall_enumerate_1 _) (F.newCall_enumerate_1 _) (fun obj => F.args_object_init_2 obj _) F.entry_enumerate_new
    (meets_enum1 B) ⟨h1, ?_⟩
  have hz : (s.heap.push o).objs.size = s.heap.objs.size + 1 := Heap.size_push ..
  show _ ∧ _
  rw [hz]
  have he : IsEnum ((s.heap.push o).push { cls := .type "enumerate", data := .fields #[.none, .bool false, .ref s.heap.objs.size, rawInt 0, .none, .none] }) (s.heap.objs.size + 1) s.heap.objs.size 0 .none := by
    have := Heap.get?_push_size (s.heap.push o) (o := { cls := .type "enumerate", data := .fields #[.none, .bool false, .ref s.heap.objs.size, rawInt 0, .none, .none] }) rfl
    rw [hz] at this; exact this
  refine ⟨⟨_, he, rfl⟩, h _ he (Heap.get?_push_of_some _ (Heap.get?_push_size _ B.free)) (by rw [Heap.size_push, hz]) fun b o x => Heap.get?_push_of_some _ (Heap.get?_push_of_some _ x)⟩
theorem enum_endT {prog : Program} {w : World} {A : Around} {E : Value → Shared → Prop} {s : Shared} {e it l : Addr} {i : Nat} {items : Array Value} {old : Value} {Q : Option Value → Shared → Prop} (hh : A.handled = none)
    (he : IsEnum s.heap e it i old) (hit : s.heap.IsTupleIter it l i) (hl : s.heap.IsTuple l items) (hx : items[i]? = none)
    (hQ : ∀ h', Heap.ExtBut it s.heap h' → Q none { s with heap := h' }) : wpAny (model prog w) A (pyNext (.ref e)) Q E s := by
  have hT : s.TypeIs (.ref e) "enumerate" := ⟨_, he, rfl⟩
  unfold pyNext
  refine wpAny_bind (wpAny_attempt (wpAny_callSpecial?_slot (name := Str.ofString "__next__") hT F.slot_enumerate_next
    (wpAny_call_entry F.slot_enumerate_next hT F.entry_enumerate_next ?_ (F.args_enumerate_next_1 _))))
  show wpAny _ _ (field (.ref e) 2 >>= _) _ _ _
  refine wpAny_bind (wpAny_field he rfl (x := .ref it) rfl ?_)
  refine wpAny_bind (wpAny_nextOf_tuple_end hh hit hl hx fun h' x he' hx' => ?_)
  obtain ⟨o, ho, hc⟩ := hx'
  refine wpAny_bind (wpAny_isInstance (T := "StopIteration") (b := true) ⟨o, ho, hc⟩ isSubtype_stop ?_)
  exact wpAny_pure (hQ _ he')
def IteT (K : PySem.W.Frag) (a : Addr) : It :=
  ⟨fun i H => ∃ (xs : List V) (x : V), SqT K H a xs ∧ xs[i]? = some x, fun i H v H' => ∃ T x, v = .ref T ∧ H T = none ∧ H' = upd H T (.tup [.int (i : Nat), x]) ∧ ∀ xs, SqT K H a xs → xs[i]? = some x, fun i H => ∃ xs : List V, SqT K H a xs ∧ xs.length ≤ i⟩
theorem turn_enumT {P : Program} {w : World} {K : PySem.W.Frag} {elts : List Expr} {kk : Nat} {tpos : Pos} (a e it : Addr) :
    Turn P w K (.Tuple elts kk tpos) (IteT K a) [e, it] e (fun i h => (∃ old, IsEnum h e it ((i : Nat) : Int) old) ∧ h.IsTupleIter it a i ∧ e ≠ it ∧ a ≠ it ∧ a ≠ e) where
  mem := by simp
  obj := fun i h st b hb => by
    obtain ⟨⟨old, he⟩, ⟨o, ho, hc, hd⟩, _⟩ := st
    have e' : b = e ∨ b = it := by simpa using hb
    rcases e' with z | z
    · rw [z]; exact ⟨_, he, fun v q => nomatch q⟩
    · rw [z]; exact ⟨o, ho, fun v q => by rw [hd] at q; cases q⟩
  keep := fun i h h' st k => let ⟨⟨old, he⟩, hi, hne⟩ := st; ⟨⟨old, k e (by simp) _ he⟩, hi.at fun o q => k it (by simp) o q, hne⟩
  item := by
    intro X hP hw hK hc i pins s σ H E I hf st hg
    subst hP hw hK
    obtain ⟨⟨old, he⟩, hit, hne, hai, hae⟩ := st
    obtain ⟨xs, x, hq, hx⟩ := hg
    obtain ⟨its, rv, p, hz⟩ := I.tuple hq
    obtain ⟨u, hu, ru⟩ := rv.get hx
    have hel : e < s.heap.objs.size := Heap.lt_size he
    have hil : it < s.heap.objs.size := by obtain ⟨_, q, _⟩ := hit; exact Heap.lt_size q
    have hlt : i < its.toArray.size := by
      have := (List.getElem?_eq_some_iff.mp hu).1
      simpa using this
    refine wpAny_pyNext_enum_itemD (Draws.tuple (A := X.A.in1) (I.ok.hd hc) it a hai its.toArray) he ⟨hit, p⟩ hlt hne (by simp [hne, Ne.symm hae]) fun x' h' tk hx' ho hst hT hsz hk => ?_
    have ex : x' = u := by
      have : its.toArray[i]? = some u := by simpa using hu
      rw [this] at hx'
      exact (Option.some.inj hx').symm
    subst ex
    refine ⟨_, rfl, wpAny_letOwnedTupleGo_enum (s := { s with heap := h', toks := tk + 1 }) ho fun h'' he' sb => ?_⟩
    have hT2 : h''.get? s.heap.objs.size = some { cls := .type "tuple", data := .seq #[.int i tk, x'] } := (sb.2 _ (Nat.ne_of_gt hel)).trans hT
    have new : ObjOk X.prog X.w (upd H s.heap.objs.size (.tup [.int (i : Nat), x])) h'' s.heap.objs.size (.tup [.int (i : Nat), x]) :=
      ⟨by show 2 ≤ sizeLine; decide, [.int i tk, x'], .cons ⟨_, rfl⟩ (.cons ru .nil), ⟨_, hT2, rfl, _, rfl⟩⟩
    have I1 : Inv X pins σ (upd H s.heap.objs.size (.tup [.int (i : Nat), x])) { s with heap := h'', toks := tk + 1 } :=
      I.turnedNew (ch := [e, it]) (fun b ob hb q => (sb.2 b (fun z => hb (by simp [z]))).trans (hk b ob (fun z => hb (by simp [z])) (fun z => hb (by simp [z])) q)) hf (Nat.le_refl _) new
    refine ⟨.ref s.heap.objs.size, _, I1, rfl, ⟨_, x, rfl, I.hok.fresh (Nat.le_refl _), rfl, fun ys hy => by rw [I.tuple_inj hy hq]; exact hx⟩, ⟨⟨x', ?_⟩, hst.1.at fun o q => (sb.2 it (Ne.symm hne)).trans q, hne, hai, hae⟩, fun b hb => ?_⟩
    · have e1 : ((i + 1 : Nat) : Int) = (i : Int) + 1 := by omega
      rw [e1]; exact he'
    · have hb' : b < s.heap.objs.size := by
        have e' : b = e ∨ b = it := by simpa using hb
        rcases e' with z | z
        · rw [z]; exact hel
        · rw [z]; exact hil
      rw [upd_ne (Nat.ne_of_lt hb')]
      exact (hf b hb).1
  done := by
    intro X hP hw hK hc i pins s σ H E I hf st hg
    subst hP hw hK
    obtain ⟨⟨old, he⟩, hit, hne, hai, hae⟩ := st
    obtain ⟨xs, hq, hx⟩ := hg
    obtain ⟨its, rv, p, hz⟩ := I.tuple hq
    obtain ⟨f0, f1, f2, f3, f4, f5⟩ := hf it (by simp)
    have hl := rv.length
    exact enum_endT (I.ok.hd hc) he hit p (by simp; omega) fun h' eb => ⟨rfl, I.turned (t' := s.toks) (fun b o hb q => eb b o hb q) f0 f1 f3 f4 f5⟩
  self := fun A i s Q E st h => let ⟨⟨_, he⟩, _⟩ := st; wpAny_pyIter_enum he h
/-- a meaning that tells nothing -/
theorem fnok_fail {P : Program} {w : World} {K : PySem.W.Frag} {mg : Str → Option Value} {base : Heap} {k : Nat} {f : Addr} {fd : FuncData} {ps : List Str} {n : Nat} {cl : Nat → Addr} (hn : n = ps.length) : FnOk P w K mg base (L2.CX P w) k f fd ps (spD P w cl K n fun _ => .fail) :=
  ⟨fun vs H Q E h => h.1.trans hn, fun A outer s H args us vs Q E hr h0 hb hv h => by
    obtain ⟨_, _, _, _, _, h⟩ := h
    exact h.elim⟩
section
variable {X : Cx} {cl : Nat → Addr} {A0 : AK} {W : WX}
theorem pi_enumT {e : Expr} {ta : TA} {p pos tpos : Pos} {elts : List Expr} {kk : Nat} (hg : Gl X "enumerate") (hm : X.mg "enumerate" = none) (ha : PA X [e] ta) (hs : starEach [e] X.env = [(false, eval e X.env)] := by rfl) :
    PI X (.Tuple elts kk tpos) (.Call (.Name "enumerate" p) [e] [] pos) (fun σ H R => ta σ H fun vs H1 => ∃ a xs, vs = [.ref a] ∧ SqT X.K H1 a xs ∧ R (IteT X.K a) H1) := by
  refine ⟨fun pins s σ H R I h => ?_⟩
  refine Call_ (ld_blt I hg hm boot_enumerate (PyProof.Rows.callWith_type1 (thn (ha.run pos pins s σ H _ I h) fun us s1 ⟨vs, H1, I1, r1, q1⟩ => ?_) hs rfl))
  obtain ⟨a, xs, ex, hq, q⟩ := q1
  subst ex
  cases r1 with
  | cons r rr =>
    cases rr
    cases r
    obtain ⟨its, rv, p', hz⟩ := I1.tuple hq
    have hal : a < s1.heap.objs.size := by obtain ⟨_, q, _⟩ := p'; exact Heap.lt_size q
    refine enum_begins1 (begins_tuple a its.toArray) p' fun h' he hit hsz hk => wpAny_pyIter_enum he ?_
    have I2 : Inv X pins σ H1 { s1 with heap := h' } := I1.kept (t' := s1.toks) hk
    refine ⟨s1.heap.objs.size + 1, [s1.heap.objs.size + 1, s1.heap.objs.size], _, _, H1, rfl, I2, turn_enumT a (s1.heap.objs.size + 1) s1.heap.objs.size, ⟨⟨.none, he⟩, ⟨_, hit, rfl, rfl⟩, Nat.succ_ne_self _, Nat.ne_of_lt hal, Nat.ne_of_lt (Nat.lt_succ_of_lt hal)⟩, fun b hb => ?_, q⟩
    have e' : b = s1.heap.objs.size + 1 ∨ b = s1.heap.objs.size := by simpa using hb
    have hle : s1.heap.objs.size ≤ b := by
      rcases e' with z | z
      · rw [z]; exact Nat.le_add_right _ _
      · rw [z]; exact Nat.le_refl _
    exact I1.fpOk hle (I1.hok.fresh hle)
/-- the items of a tuple, numbered -/
def numD (xs : List D) : List D := xs.mapIdx fun i d => .tup [.int (i : Nat), d]
def iEnum (e : M R) : M (List D) := mbind (getD e) fun d => match d with
  | .tup xs => mok (numD xs)
  | _ => fun _ => .fail
theorem it_enumT {H : Hp} {Av O : Addr → Prop} {ds : List D} {a : Addr} {vs : List V} (ho : ∀ b, O b → Av b) (h : H a = some (.tup vs)) (n : ¬ Av a) (r : Rps H Av ds vs) : ItOk (IteT X.K a) H Av O (numD ds) := by
  intro Hc Avc Oc s hd i
  have hc := s.fm a _ h fun z => n (ho a z)
  have tc := r.step s ho
  refine ⟨fun d e => ?_, fun l => ⟨_, SqT.of hc, by rw [← tc.len]; simpa [numD] using l⟩⟩
  unfold numD at e
  rw [List.getElem?_mapIdx] at e
  cases hx : ds[i]? with
  | none => rw [hx] at e; cases e
  | some x =>
    rw [hx] at e
    cases e
    obtain ⟨v, hv, rv⟩ := tc.get hx
    refine ⟨⟨_, v, SqT.of hc, hv⟩, fun w Hn hy => ?_⟩
    obtain ⟨T, x', rfl, hT, rfl, y⟩ := hy
    have hx' := y _ (SqT.of hc)
    rw [hv] at hx'
    cases hx'
    have nav : ¬ Avc T := fun z => by obtain ⟨o, e⟩ := hd T z; rw [hT] at e; cases e
    exact ⟨upd_new hT, .tup upd_same nav (.cons (.int _) (.cons (rv.same (upd_new hT)) .nil))⟩
theorem di_enum {e : Expr} {fe : M R} {p pos tpos : Pos} {elts : List Expr} {kk : Nat} (hg : Gl X "enumerate") (hm : X.mg "enumerate" = none) (he : DE X cl A0 W e fe) (hs : starEach [e] X.env = [(false, eval e X.env)] := by rfl) : DI X cl A0 W (.Tuple elts kk tpos) (.Call (.Name "enumerate" p) [e] [] pos) (iEnum fe) := by
  refine piImp (pi_enumT hg hm (da1 he hs) hs) fun σV H Rr z => ?_
  obtain ⟨σ, Av, ow, rs, g⟩ := z
  refine rd_getD (gBind rs.dom rs Stp.refl g fun d σ1 x H1 Av1 ow1 rs1 _ s1 q1 g1 => ?_)
  cases d with
  | tup xs =>
    obtain ⟨a, vs, rfl, h, r, n⟩ := Top.tup q1
    exact ⟨a, vs, rfl, SqT.of h, g1 _ H1 Av1 ow1 rs1 s1 (it_enumT rs1.ho h n r)⟩
  | _ => exact g1.elim
end
end DL

/-! DLtxt: texts, sorted, index. -/
namespace DL
open PySem L2

/-! ### splits -/
theorem splitTx_ne (c : Nat) : ∀ s : Tx, splitTx c s ≠ []
  | [] => by simp [splitTx]
  | x :: r => by
    unfold splitTx
    split
    · simp
    · split <;> simp
theorem joinTx_cons {a x : Tx} {r : List Tx} (h : r ≠ []) : joinTx a (x :: r) = x ++ a ++ joinTx a r := by
  cases r with
  | nil => exact absurd rfl h
  | cons y r => rfl
theorem split_join (c : Nat) : ∀ s : Tx, joinTx [c] (splitTx c s) = s
  | [] => rfl
  | x :: r => by
    have ih := split_join c r
    unfold splitTx
    split
    · rename_i e
      rw [joinTx_cons (splitTx_ne c r), ih, e]; rfl
    · split
      · rename_i e; exact absurd e (splitTx_ne c r)
      · rename_i w ws e
        rw [e] at ih
        cases ws with
        | nil => simp only [joinTx] at ih ⊢; rw [ih]
        | cons y ws =>
          rw [joinTx_cons (by simp)] at ih ⊢
          rw [← ih]; rfl
theorem split_in (c : Nat) : ∀ (s : Tx), ∀ p ∈ splitTx c s, c ∉ p
  | [], p, h => by simp [splitTx] at h; subst h; simp
  | x :: r, p, h => by
    have ih := split_in c r
    unfold splitTx at h
    split at h
    · rcases List.mem_cons.mp h with rfl | h
      · simp
      · exact ih p h
    · rename_i ne
      split at h
      · rename_i e; exact absurd e (splitTx_ne c r)
      · rename_i w ws e
        rw [e] at ih
        rcases List.mem_cons.mp h with rfl | h
        · simp only [List.mem_cons, not_or]
          exact ⟨fun q => ne q.symm, ih w List.mem_cons_self⟩
        · exact ih p (List.mem_cons_of_mem _ h)
theorem app_free {c : Nat} : ∀ {a b u v : Tx}, c ∉ a → c ∉ b → a ++ c :: u = b ++ c :: v → a = b ∧ u = v
  | [], [], u, v, _, _, h => by simpa using h
  | [], y :: b, u, v, _, hb, h => by
    simp at h
    exact absurd (by rw [h.1]; exact List.mem_cons_self) hb
  | x :: a, [], u, v, ha, _, h => by
    simp at h
    exact absurd (by rw [h.1]; exact List.mem_cons_self) ha
  | x :: a, y :: b, u, v, ha, hb, h => by
    simp only [List.cons_append, List.cons.injEq] at h
    obtain ⟨e1, e2⟩ := app_free (fun q => ha (List.mem_cons_of_mem _ q)) (fun q => hb (List.mem_cons_of_mem _ q)) h.2
    exact ⟨by rw [h.1, e1], e2⟩
theorem join_one {c : Nat} : ∀ {ps qs : List Tx}, ps ≠ [] → qs ≠ [] → (∀ p ∈ ps, c ∉ p) → (∀ p ∈ qs, c ∉ p) → joinTx [c] ps = joinTx [c] qs → ps = qs
  | [], _, h, _, _, _, _ => absurd rfl h
  | _ :: _, [], _, h, _, _, _ => absurd rfl h
  | [p], [q], _, _, _, _, h => by simp only [joinTx] at h; rw [h]
  | [p], q :: q2 :: qs, _, _, hp, _, h => by
    simp only [joinTx] at h
    have : c ∈ p := by rw [h]; simp
    exact absurd this (hp p List.mem_cons_self)
  | p :: p2 :: ps, [q], _, _, _, hq, h => by
    simp only [joinTx] at h
    have : c ∈ q := by rw [← h]; simp
    exact absurd this (hq q List.mem_cons_self)
  | p :: p2 :: ps, q :: q2 :: qs, _, _, hp, hq, h => by
    rw [joinTx_cons (List.cons_ne_nil p2 ps), joinTx_cons (List.cons_ne_nil q2 qs)] at h
    simp only [List.append_assoc, List.singleton_append] at h
    obtain ⟨e1, e2⟩ := app_free (hp p List.mem_cons_self) (hq q List.mem_cons_self) h
    rw [e1, join_one (by simp) (by simp) (fun x hx => hp x (List.mem_cons_of_mem _ hx)) (fun x hx => hq x (List.mem_cons_of_mem _ hx)) e2]
/-- its parts, if they are free of the sign -/
theorem split_of {c : Nat} {ps : List Tx} (h : ps ≠ []) (hf : ∀ p ∈ ps, c ∉ p) : splitTx c (joinTx [c] ps) = ps :=
  join_one (splitTx_ne c _) h (split_in c _) hf (split_join c _)
theorem tx_back (x : Str) : tx x.cps.toList = x := by cases x; simp [tx]
theorem join_tx (a : Tx) : ∀ ys : List Tx, Str.join (tx a) (ys.map tx) = tx (joinTx a ys)
  | [] => rfl
  | [x] => rfl
  | x :: y :: r => by
    show tx x ++ tx a ++ Str.join (tx a) ((y :: r).map tx) = _
    rw [join_tx a (y :: r), tx_app, tx_app]
    rfl
theorem split_nn (x y : Str) : Txt.split x y ≠ [] := by
  unfold Txt.split
  split
  · simp
  · split
    · simp
    · unfold Builtin.Str.partsBetween
      simp only [ne_eq, List.map_eq_nil_iff]
      intro h
      have := congrArg List.length h
      simp at this
theorem split_tx (c : Nat) (s : Tx) : Txt.split (tx s) (tx [c]) = (splitTx c s).map tx := by
  have e : ∀ l : List Str, (l.map fun x => x.cps.toList).map tx = l := fun l => by
    induction l with
    | nil => rfl
    | cons x l ih => simp only [List.map_cons, ih, tx_back]
  rw [← e (Txt.split (tx s) (tx [c]))]
  refine congrArg (List.map tx) (join_one (c := c) (by simpa using split_nn _ _) (splitTx_ne c s) ?_ (split_in c s) ?_)
  · intro p hp
    obtain ⟨x, hx, rfl⟩ := List.mem_map.mp hp
    exact StrLaws.split_free (tx s) c x hx
  · rw [split_join]
    refine tx_inj ?_
    rw [← join_tx, e]
    exact StrLaws.join_split (tx s) (tx [c])

/-! ### methods of texts and of lists -/
def eM (p : D → Bool) (f : D → D → Option R) (a b : M R) : M R := mbind a fun r σ => match asD r σ with
  | some d0 => if p d0 = true then (mbind b fun q σ => match asD r σ, asD q σ with
    | some d, some e => match f d e with
      | some z => .ok z σ
      | none => .fail
    | _, _ => .fail) σ else .fail
  | none => .fail
def isS : D → Bool
  | .str _ => true
  | _ => false
def isL : D → Bool
  | .lst _ => true
  | _ => false
section
variable {X : Cx} {cl : Nat → Addr} {A0 : AK} {W : WX}

theorem rd_eM {p : D → Bool} {f : D → D → Option R} {Pr : V → Hp → Prop} {r : R2} {fa fb : M R} (hp : ∀ H Av d x, Top H Av d x → p d = true → Pr x H) (h : Op2 X.prog X.w f r) {σV : St} {H : Hp} {Q : VK} (z : (rdE X.prog X.w cl A0 W) (eM p f fa fb) σV H Q) :
    (rdE X.prog X.w cl A0 W) fa σV H fun x H1 => Pr x H1 ∧ (rdE X.prog X.w cl A0 W) fb σV H1 fun y H2 => r x y H2 Q := by
  obtain ⟨σ, Av, ow, rs, g⟩ := z
  refine gBind rs.dom rs Stp.refl g fun r1 σ1 x H1 Av1 ow1 rs1 _ s1 q1 g1 => ?_
  cases h0 : asD r1 σ1 with
  | none => simp only [h0] at g1; exact g1.elim
  | some d0 =>
    simp only [h0] at g1
    by_cases hpd : p d0 = true
    · rw [if_pos hpd] at g1
      refine ⟨hp H1 Av1 d0 x (asD_ok rs1 q1 h0) hpd, ?_⟩
      refine gBind rs.dom rs1 s1 g1 fun r2 σ2 y H2 Av2 ow2 rs2 s12 s2 q2 g2 => ?_
      have q1' := q1.step s12 rs1.ho
      cases h1 : asD r1 σ2 with
      | none => simp only [h1] at g2; exact g2.elim
      | some d =>
        cases h2 : asD r2 σ2 with
        | none => simp only [h1, h2] at g2; exact g2.elim
        | some e =>
          cases h3 : f d e with
          | none => simp only [h1, h2, h3] at g2; exact g2.elim
          | some z =>
            simp only [h1, h2, h3] at g2
            exact h H2 Av2 d e x y z Q rs2.dom (asD_ok rs2 q1' h1) (asD_ok rs2 q2 h2) h3 fun v H' n => gEnd rs.dom rs2 s2 g2 n
    · rw [if_neg hpd] at g1; exact g1.elim
theorem isS_str {H : Hp} {Av : Addr → Prop} {d : D} {x : V} (t : Top H Av d x) (h : isS d = true) : ∃ a, x = .str a := by
  cases d with
  | str s => exact ⟨_, t.str.1⟩
  | _ => cases h
theorem rps_strs {H : Hp} {Av : Addr → Prop} : ∀ {ys : List Tx}, (∀ y ∈ ys, txOk y = true) → Rps H Av (ys.map .str) ((ys.map tx).map V.str)
  | [], _ => .nil
  | y :: ys, h => .cons (.str y (h y List.mem_cons_self)) (rps_strs fun z hz => h z (List.mem_cons_of_mem _ hz))
theorem strs_rp {H : Hp} {Av : Addr → Prop} : ∀ {xs : List D} {vs : List V} {ys : List Tx}, Rps H Av xs vs → strsD xs = some ys → vs = (ys.map tx).map V.str ∧ ∀ y ∈ ys, txOk y = true
  | _, _, ys, .nil, h => by cases h; exact ⟨rfl, by simp⟩
  | d :: ds, v :: vs, ys, .cons r t, h => by
    cases d with
    | str b =>
      simp only [strsD] at h
      cases hb : strsD ds with
      | none => rw [hb] at h; cases h
      | some cs =>
        rw [hb] at h
        cases h
        cases r with
        | str _ ok =>
          obtain ⟨e, k⟩ := strs_rp t hb
          rw [e]
          refine ⟨rfl, fun y hy => ?_⟩
          rcases List.mem_cons.mp hy with rfl | hy
          · exact ok
          · exact k y hy
    | _ => cases h
theorem splitTx_sub (c : Nat) : ∀ (s : Tx), ∀ p ∈ splitTx c s, ∀ k ∈ p, k ∈ s
  | [], p, h, k, hk => by simp [splitTx] at h; subst h; cases hk
  | x :: r, p, h, k, hk => by
    have ih := splitTx_sub c r
    unfold splitTx at h
    split at h
    · rcases List.mem_cons.mp h with rfl | h
      · cases hk
      · exact List.mem_cons_of_mem _ (ih p h k hk)
    · split at h
      · rename_i e; exact absurd e (splitTx_ne c r)
      · rename_i w ws e
        rw [e] at ih
        rcases List.mem_cons.mp h with rfl | h
        · rcases List.mem_cons.mp hk with rfl | hk
          · exact List.mem_cons_self
          · exact List.mem_cons_of_mem _ (ih w List.mem_cons_self k hk)
        · exact List.mem_cons_of_mem _ (ih p (List.mem_cons_of_mem _ h) k hk)
theorem joinTx_ok {a : Tx} (ha : txOk a = true) : ∀ {ys : List Tx}, (∀ y ∈ ys, txOk y = true) → txOk (joinTx a ys) = true
  | [], _ => rfl
  | [x], h => h x List.mem_cons_self
  | x :: y :: r, h => by
    have ih := joinTx_ok ha (ys := y :: r) fun z hz => h z (List.mem_cons_of_mem _ hz)
    have hx := h x List.mem_cons_self
    unfold txOk at *
    simp only [joinTx, List.all_append, hx, ha, ih, Bool.and_self]
theorem o_split : Op2 X.prog X.w pySplit (fun x y H Q => ∃ a b, x = .str a ∧ [y] = [.str b] ∧ (b.length == 0) = false ∧ a.length + 2 ≤ sizeLine ∧ rNewStrs (Txt.split a b) H Q) := by
  intro H Av d e x y z Q hd t u hf k
  cases d with
  | str s =>
    cases e with
    | str q =>
      match q, hf, u with
      | [c], hf, u =>
        simp only [pySplit] at hf
        split at hf
        · rename_i hz
          cases hf
          obtain ⟨rfl, ok⟩ := t.str
          obtain ⟨rfl, _⟩ := u.str
          refine ⟨_, _, rfl, rfl, rfl, by rw [tx_len]; exact zle hz, fun p hp => ?_⟩
          rw [split_tx]
          exact k _ _ (new_lst (rps_strs fun y hy => txOk_sub ok (splitTx_sub c s y hy)) hp)
        · cases hf
    | _ => cases hf
  | _ => cases hf
theorem de_split {a b : Expr} {fa fb : M R} {apos pos : Pos} (ha : DE X cl A0 W a fa) (hb : DE X cl A0 W b fb) (hs : starEach [b] X.env = [(false, eval b X.env)] := by rfl) (hbase : attributeBase a "split" X.env (eval a X.env) = eval a X.env := by rfl) (hline : (apos.endLine == pos.line) = true := by rfl) :
    DE X cl A0 W (.Call (.Attribute a "split" apos) [b] [] pos) (eM isS pySplit fa fb) :=
  peImp (pe_split ha hb hs hbase hline) fun _ _ _ z => rd_eM (fun H Av d x => isS_str) o_split z
theorem o_join : Op2 X.prog X.w pyJoin (fun x y H Q => ∃ a p, ∃ ys : List Str, x = .str a ∧ [y] = [.ref p] ∧ (SqL X.K H p (ys.map V.str) ∨ SqT X.K H p (ys.map V.str)) ∧ (ys.map (·.length)).sum + ys.length * a.length ≤ 16777216 ∧ Q (.str (Txt.join a ys)) H) := by
  intro H Av d e x y z Q hd t u hf k
  have len : ∀ (ys : List Tx) (s : Tx), ((ys.map tx).map (·.length)).sum + (ys.map tx).length * (tx s).length = (ys.map (·.length)).sum + ys.length * s.length := fun ys s => by
    rw [tx_len, List.length_map, List.map_map]
    have e : ys.map ((fun x : Str => x.length) ∘ tx) = ys.map (·.length) := List.map_congr_left fun y _ => tx_len y
    rw [e]
  cases d with
  | str s =>
    obtain ⟨rfl, ok⟩ := t.str
    cases e with
    | lst xs =>
      simp only [pyJoin] at hf
      cases hys : strsD xs with
      | none => simp only [hys] at hf; cases hf
      | some ys =>
        simp only [hys] at hf
        split at hf
        · rename_i hz
          cases hf
          obtain ⟨a, vs, rfl, h, r⟩ := u.lst
          obtain ⟨rfl, oks⟩ := strs_rp r hys
          refine ⟨_, a, ys.map tx, rfl, rfl, .inl (SqL.of h), by rw [len ys s]; exact hz, ?_⟩
          have e : Txt.join (tx s) (ys.map tx) = tx (joinTx s ys) := by
            show Builtin.Str.glued _ _ = _
            rw [StrLaws.glued_eq_join, join_tx]
          rw [e]
          exact k _ _ (new_pure (.str _ (joinTx_ok ok oks)))
        · cases hf
    | tup xs =>
      simp only [pyJoin] at hf
      cases hys : strsD xs with
      | none => simp only [hys] at hf; cases hf
      | some ys =>
        simp only [hys] at hf
        split at hf
        · rename_i hz
          cases hf
          obtain ⟨a, vs, rfl, h, r, n⟩ := u.tup
          obtain ⟨rfl, oks⟩ := strs_rp r hys
          refine ⟨_, a, ys.map tx, rfl, rfl, .inr (SqT.of h), by rw [len ys s]; exact hz, ?_⟩
          have e : Txt.join (tx s) (ys.map tx) = tx (joinTx s ys) := by
            show Builtin.Str.glued _ _ = _
            rw [StrLaws.glued_eq_join, join_tx]
          rw [e]
          exact k _ _ (new_pure (.str _ (joinTx_ok ok oks)))
        · cases hf
    | _ => cases hf
  | _ => cases hf
theorem de_join {a b : Expr} {fa fb : M R} {apos pos : Pos} (ha : DE X cl A0 W a fa) (hb : DE X cl A0 W b fb) (hs : starEach [b] X.env = [(false, eval b X.env)] := by rfl) (hbase : attributeBase a "join" X.env (eval a X.env) = eval a X.env := by rfl) (hline : (apos.endLine == pos.line) = true := by rfl) :
    DE X cl A0 W (.Call (.Attribute a "join" apos) [b] [] pos) (eM isS pyJoin fa fb) :=
  peImp (pe_join ha hb hs hbase hline) fun _ _ _ z => rd_eM (fun H Av d x => isS_str) o_join z
/-! ### str, int, f-strings -/
theorem int_tx {i : Int} {s : Tx} (h : intTx i = some s) : i.natAbs.log2 < 1920 ∧ V.str (toString i) = V.str (tx s) ∧ txOk s = true := by
  have all : ∀ n : Fin 100, ∀ s, intTx ((n.val : Nat) : Int) = some s → (toString ((n.val : Nat) : Int) : Str) = tx s ∧ txOk s = true := by
    have a1 : ∀ n : Fin 100, (toString ((n.val : Nat) : Int) : Str) = tx ((intTx ((n.val : Nat) : Int)).getD []) ∧ txOk ((intTx ((n.val : Nat) : Int)).getD []) = true := by decide +kernel
    intro n s h
    have := a1 n
    rw [h] at this
    exact this
  have rng : 0 ≤ i ∧ i < 100 := by
    unfold intTx at h
    split at h
    · omega
    · split at h
      · omega
      · cases h
  obtain ⟨n, rfl⟩ : ∃ n : Nat, i = n := ⟨i.toNat, by omega⟩
  have hn : n < 100 := by omega
  obtain ⟨e, ok⟩ := all ⟨n, hn⟩ s h
  refine ⟨?_, congrArg V.str e, ok⟩
  simp only [Int.natAbs_natCast]
  by_cases h0 : n = 0
  · subst h0; decide
  · exact (Nat.log2_lt h0).mpr (Nat.lt_of_lt_of_le hn (Nat.le_trans (by decide : 100 ≤ 2 ^ 7) (Nat.pow_le_pow_right (by decide) (by decide))))
def rStr1 : List V → Hp → VK → Prop := fun xs H Q => (∃ i, xs = [.int i] ∧ i.natAbs.log2 < 1920 ∧ Q (.str (toString i)) H) ∨ ∃ a, xs = [.str a] ∧ Q (.str a) H
theorem cr_str1 : CallR X (.type "str") rStr1 := CallR.or call_str_int SkE.call_str_str
theorem o_str : Op1 X.prog X.w pyStr (fun x H Q => rStr1 [x] H Q) := by
  intro H Av d x z Q hd t hf k
  cases d with
  | int i =>
    simp only [pyStr] at hf
    cases hs : intTx i with
    | none => rw [hs] at hf; cases hf
    | some s =>
      rw [hs] at hf
      cases hf
      obtain ⟨h1, h2, ok⟩ := int_tx hs
      rw [t.int]
      exact .inl ⟨i, rfl, h1, by rw [h2]; exact k _ _ (new_pure (.str s ok))⟩
  | str s =>
    simp only [pyStr] at hf
    split at hf
    · cases hf
      obtain ⟨rfl, ok⟩ := t.str
      exact .inr ⟨_, rfl, k _ _ (new_pure (.str s ok))⟩
    · cases hf
  | _ => cases hf
theorem int_fig {c : Nat} (h : 48 ≤ c ∧ c ≤ 57) : PySem.intText? (tx [c]) = some ((c : Int) - 48) := by
  have all : ∀ n : Fin 10, PySem.intText? (tx [48 + n.val]) = some ((n.val : Nat) : Int) := by decide +kernel
  obtain ⟨n, rfl⟩ : ∃ n, c = 48 + n := ⟨c - 48, by omega⟩
  have := all ⟨n, by omega⟩
  rw [this]
  congr 1
  show (n : Int) = _
  omega
theorem o_intS : Op1 X.prog X.w pyIntS (fun x H Q => ∃ a n, [x] = [.str a] ∧ PySem.intText? a = some n ∧ a.length ≤ 640 ∧ Q (.int n) H) := by
  intro H Av d x z Q hd t hf k
  cases d with
  | str s =>
    match s, hf, t with
    | [c], hf, t =>
      simp only [pyIntS] at hf
      split at hf
      · rename_i hc
        cases hf
        obtain ⟨rfl, ok⟩ := t.str
        exact ⟨_, _, rfl, int_fig hc, by rw [tx_len]; exact (by decide : 1 ≤ 640), k _ _ (new_pure (.int _))⟩
      · cases hf
  | _ => cases hf
/-- {e} in an f-string -/
theorem de_fmt {e : Expr} {fe : M R} {pos : Pos} (he : DE X cl A0 W e fe) : DE X cl A0 W (.FormattedValue e (-1) none pos) (e1 pyStr fe) := by
  refine peImp (pe_fmt he) fun σV H Q z => ?_
  refine rd_e1 (r := fun x H1 Q => (∃ y : Str, x = .str y ∧ y.length ≤ sizeLine ∧ Q (.str y) H1) ∨ ∃ i : Int, x = .int i ∧ i.natAbs.log2 < 1920 ∧ Q (.str (toString i)) H1) ?_ z
  intro H Av d x z Q hd t hf k
  cases d with
  | int i =>
    simp only [pyStr] at hf
    cases hs : intTx i with
    | none => rw [hs] at hf; cases hf
    | some s =>
      rw [hs] at hf
      cases hf
      obtain ⟨h1, h2, ok⟩ := int_tx hs
      exact .inr ⟨i, t.int, h1, by rw [h2]; exact k _ _ (new_pure (.str s ok))⟩
  | str s =>
    simp only [pyStr] at hf
    split at hf
    · rename_i hz
      cases hf
      obtain ⟨rfl, ok⟩ := t.str
      exact .inl ⟨_, rfl, by rw [tx_len]; exact zle hz, k _ _ (new_pure (.str s ok))⟩
    · cases hf
  | _ => cases hf
inductive DJ (X : Cx) (cl : Nat → Addr) (A0 : AK) (W : WX) : List Expr → List (M R) → Prop where
  | nil : DJ X cl A0 W [] []
  | cons {e : Expr} {f : M R} {es : List Expr} {fs : List (M R)} (h : DE X cl A0 W e f) (r : DJ X cl A0 W es fs) : DJ X cl A0 W (e :: es) (f :: fs)
theorem DJ.pj {es : List Expr} {fs : List (M R)} (h : DJ X cl A0 W es fs) : PJ X es (fs.map (rdE X.prog X.w cl A0 W)) := by
  induction h with
  | nil => exact .nil
  | cons h _ ih => exact .cons h ih
theorem rd_fstr : ∀ {fs : List (M R)} {acc : Tx} {σV : St} {H : Hp} {Q : VK}, txOk acc = true → (rdE X.prog X.w cl A0 W) (eFstr fs acc) σV H Q → tJs (fs.map (rdE X.prog X.w cl A0 W)) (tx acc) σV H fun out H1 => Q (.str out) H1
  | [], acc, σV, H, Q, ok, z => by
    obtain ⟨σ, Av, ow, rs, g⟩ := z
    exact g _ H Av ow rs Stp.refl (.str acc ok)
  | f :: fs, acc, σV, H, Q, ok, z => by
    obtain ⟨σ, Av, ow, rs, g⟩ := z
    refine gBind rs.dom rs Stp.refl g fun r1 σ1 x H1 Av1 ow1 rs1 _ s1 q1 g1 => ?_
    cases h0 : asD r1 σ1 with
    | none => simp only [h0] at g1; exact g1.elim
    | some d =>
      cases d with
      | str y =>
        simp only [h0] at g1
        split at g1
        · rename_i hz
          obtain ⟨rfl, oky⟩ := (asD_ok rs1 q1 h0).str
          refine ⟨tx y, rfl, ?_, ?_⟩
          · rw [tx_app, tx_len, List.length_append]; exact zle hz
          · rw [tx_app]
            refine rd_fstr ?_ ⟨σ1, Av1, ow1, rs1, g1.later rs.dom s1 fun _ _ _ _ _ h => h.early fun b hb => s1.none_of hb⟩
            unfold txOk at *
            simp [List.all_append, ok, oky]
        · exact g1.elim
      | _ => simp only [h0] at g1; exact g1.elim
theorem de_fstr {v1 v2 : Expr} {rest : List Expr} {fs : List (M R)} {pos : Pos} (h : DJ X cl A0 W (v1 :: v2 :: rest) fs) : DE X cl A0 W (.JoinedStr (v1 :: v2 :: rest) pos) (eFstr fs []) :=
  peImp (pe_joined h.pj) fun _ _ _ z => rd_fstr (acc := []) rfl z
/-! ### list(text) -/
theorem vals_of_get : ∀ {xs : List V} {us : List Value}, xs.length = us.length → (∀ (j : Nat) u, us[j]? = some u → ∃ x, xs[j]? = some x ∧ RelV x u) → Vals xs us
  | [], [], _, _ => .nil
  | [], u :: us, h, _ => by simp at h
  | x :: xs, [], h, _ => by simp at h
  | x :: xs, u :: us, h, k => by
    obtain ⟨y, e, r⟩ := k 0 u rfl
    simp at e
    subst e
    exact .cons r (vals_of_get (by simpa using h) fun j v hv => by
      obtain ⟨y, e, r⟩ := k (j + 1) v (by simpa using hv)
      exact ⟨y, by simpa using e, r⟩)
def rListS : List V → Hp → VK → Prop := fun xs H Q => ∃ s : Tx, xs = [.str (tx s)] ∧ s.length ≤ sizeLine ∧ ∀ p, H p = none → Q (.ref p) (upd H p (.lst ((s.map fun c => tx [c]).map V.str)))
theorem cr_listS (hc : X.calm = true) : CallR X (.type "list") rListS := by
  intro pins s σ H xs us Q I r h
  obtain ⟨a, rfl, hz, q⟩ := h
  cases r with
  | cons r1 rs =>
    cases rs
    obtain ⟨t, rfl⟩ := r1
    refine call_list_str (I.ok.hd hc) (tx a) t (fun h' tk acc' c' kp e it => ?_) (by show (tx a).cps.size ≤ sizeLine; simpa [tx] using hz)
    have lenA : acc'.toList.length = a.length := by
      have := it.1
      simp [tx] at this
      simpa using this
    have vals : Vals ((a.map fun c => tx [c]).map V.str) acc'.toList := by
      refine vals_of_get (by simp [lenA]) fun j v hv => ?_
      obtain ⟨c, u, e1, rfl⟩ := it.2 j v (by simpa using hv)
      have e1 : a[j]? = some c := by simpa [tx] using e1
      exact ⟨.str (tx [c]), by simp [e1], ⟨u, rfl⟩⟩
    exact ⟨.ref s.heap.objs.size, _, I.laid (t' := tk) kp (Nat.le_refl _) (show ObjOk X.prog X.w _ h' _ (.lst _) from ⟨by simpa using hz, acc'.toList, c', vals, by simpa using e⟩), rfl, q _ (I.hok.fresh (Nat.le_refl _))⟩
end
end DL

/-! DLtx2: sorted, index, stores, methods of dicts. -/
namespace DL
open PySem L2
theorem insI_perm (x : Int) : ∀ l, (insI x l).Perm (x :: l)
  | [] => .refl _
  | y :: r => by
    unfold insI
    split
    · exact .refl _
    · exact ((insI_perm x r).cons y).trans (.swap x y r)
theorem sortI_perm : ∀ l, (sortI l).Perm l
  | [] => .refl _
  | x :: r => (insI_perm x (sortI r)).trans ((sortI_perm r).cons x)
theorem insI_sorted (x : Int) : ∀ l, l.Pairwise (· ≤ ·) → (insI x l).Pairwise (· ≤ ·)
  | [], _ => by simp [insI]
  | y :: r, h => by
    unfold insI
    rw [List.pairwise_cons] at h
    split
    · rename_i hx
      rw [List.pairwise_cons, List.pairwise_cons]
      refine ⟨fun z hz => ?_, h⟩
      rcases List.mem_cons.mp hz with rfl | hz
      · exact hx
      · exact Int.le_trans hx (h.1 z hz)
    · rename_i hx
      rw [List.pairwise_cons]
      refine ⟨fun z hz => ?_, insI_sorted x r h.2⟩
      rcases List.mem_cons.mp ((insI_perm x r).mem_iff.mp hz) with rfl | hz
      · omega
      · exact h.1 z hz
theorem sortI_sorted : ∀ l, (sortI l).Pairwise (· ≤ ·)
  | [] => .nil
  | x :: r => insI_sorted x _ (sortI_sorted r)
theorem sort_one {l m : List Int} (p : l.Perm m) (s : l.Pairwise (· ≤ ·)) : l = sortI m :=
  List.Perm.eq_of_pairwise (fun a b _ _ h1 h2 => Int.le_antisymm h1 h2) s (sortI_sorted m) (p.trans (sortI_perm m).symm)
section
variable {X : Cx} {cl : Nat → Addr} {A0 : AK} {W : WX}

theorem o_sortI : Op1 X.prog X.w pySortI (fun x H Q => rSorted X.K [x] H Q) := by
  intro H Av d x z Q hd t hf k
  cases d with
  | lst xs =>
    simp only [pySortI] at hf
    cases hb : intsD xs with
    | none => simp only [hb] at hf; cases hf
    | some ns =>
      simp only [hb] at hf
      split at hf
      · rename_i hz
        cases hf
        obtain ⟨a, vs, rfl, h, r⟩ := t.lst
        have e := ints_rp r hb
        subst e
        refine ⟨a, ns, rfl, SqL.of h, hz, fun ns' p hp hs hn => ?_⟩
        rw [sort_one hp hs]
        exact k _ _ (new_lst (rps_ints _) hn)
      · cases hf
  | _ => cases hf
def rListA (K : PySem.W.Frag) : List V → Hp → VK → Prop := fun xs H Q => (∃ p ys, xs = [.ref p] ∧ (SqL K H p ys ∨ SqT K H p ys) ∧ ∀ l, H l = none → Q (.ref l) (upd H l (.lst ys))) ∨ rListS xs H Q
theorem cr_listA (hc : X.calm = true) : CallR X (.type "list") (rListA X.K) := CallR.or call_list_of (cr_listS hc)
theorem o_listS : Op1 X.prog X.w pyListS (fun x H Q => rListA X.K [x] H Q) := by
  intro H Av d x z Q hd t hf k
  cases d with
  | tup xs =>
    cases hf
    obtain ⟨a, vs, rfl, h, r, n⟩ := t.tup
    exact .inl ⟨a, vs, rfl, .inr (SqT.of h), fun l hl => k _ _ (new_lst r hl)⟩
  | lst xs =>
    cases hf
    obtain ⟨a, vs, rfl, h, r⟩ := t.lst
    exact .inl ⟨a, vs, rfl, .inl (SqL.of h), fun l hl => k _ _ (new_lst r hl)⟩
  | str s =>
    simp only [pyListS] at hf
    split at hf
    · rename_i hz
      cases hf
      obtain ⟨rfl, ok⟩ := t.str
      refine .inr ⟨s, rfl, zle hz, fun p hp => ?_⟩
      have e : (s.map fun c => D.str [c]) = ((s.map fun c => [c]).map D.str) := by rw [List.map_map]; rfl
      have e2 : (s.map fun c => tx [c]) = ((s.map fun c => [c]).map tx) := by rw [List.map_map]; rfl
      rw [e] at k
      rw [e2]
      exact k _ _ (new_lst (rps_strs fun y hy => by
        obtain ⟨c, hc, rfl⟩ := List.mem_map.mp hy
        exact txOk_sub ok fun b hb => by rw [List.mem_singleton.mp hb]; exact hc) hp)
    · cases hf
  | _ => cases hf
/-! index -/
theorem flat_rp {H : Hp} {Av : Addr → Prop} {d : D} {v : V} (r : Rp H Av d v) (h : flatD d = true) : flatV v = true := by
  cases r with
  | non => rfl
  | bl b => rfl
  | int i => rfl
  | str s ok => rfl
  | tup h1 h2 h3 => cases h
  | lst h1 h2 h3 => cases h
theorem eq_rp {H : Hp} {Av : Addr → Prop} {d e : D} {v u : V} (r : Rp H Av d v) (q : Rp H Av e u) (h : flatD d = true) (h2 : flatD e = true) : eqV v u = d.eqv e := by
  cases r with
  | non => cases q <;> first | rfl | cases h2
  | bl b => cases q <;> first | rfl | cases h2
  | int i => cases q <;> first | rfl | cases h2
  | str s ok =>
    cases q with
    | str t ok2 =>
      show (tx s == tx t) = _
      simp only [D.eqv]
      by_cases e : s = t
      · subst e; simp
      · rw [beq_eq_false_iff_ne.mpr e, beq_eq_false_iff_ne.mpr fun z => e (tx_inj z)]
    | non => rfl
    | bl => rfl
    | int => rfl
    | tup _ _ _ => cases h2
    | lst _ _ _ => cases h2
  | tup h1 h3 h4 => cases h
  | lst h1 h3 h4 => cases h
theorem idx_rp {H : Hp} {Av : Addr → Prop} {x : D} {y : V} (rx : Rp H Av x y) (fx : flatD x = true) : ∀ {xs : List D} {vs : List V} {m n : Nat}, Rps H Av xs vs → xs.all flatD = true → idxD xs x m = some n → ∃ j z, n = m + j ∧ vs[j]? = some z ∧ eqV z y = true ∧ ∀ (k : Nat) (z' : V), k < j → vs[k]? = some z' → eqV z' y = false
  | _, _, m, n, .nil, _, h => by cases h
  | d :: ds, v :: vs, m, n, .cons r t, hf, h => by
    simp only [List.all_cons, Bool.and_eq_true] at hf
    unfold idxD at h
    have e := eq_rp r rx hf.1 fx
    split at h
    · rename_i hd
      cases h
      exact ⟨0, v, rfl, rfl, by rw [e]; exact hd, fun k z' hk => absurd hk (Nat.not_lt_zero _)⟩
    · rename_i hd
      obtain ⟨j, z, e1, e2, e3, e4⟩ := idx_rp rx fx t hf.2 h
      refine ⟨j + 1, z, by omega, by simpa using e2, e3, fun k z' hk hz => ?_⟩
      cases k with
      | zero => simp at hz; subst hz; rw [e]; simpa using hd
      | succ k => exact e4 k z' (by omega) (by simpa using hz)
theorem all_flat {H : Hp} {Av : Addr → Prop} : ∀ {xs : List D} {vs : List V}, Rps H Av xs vs → xs.all flatD = true → vs.all flatV = true
  | _, _, .nil, _ => rfl
  | d :: ds, v :: vs, .cons r t, h => by
    simp only [List.all_cons, Bool.and_eq_true] at h ⊢
    exact ⟨flat_rp r h.1, all_flat t h.2⟩
theorem o_index : Op2 X.prog X.w pyIndex (fun x y H Q => rIndex X.K x [y] H Q) := by
  intro H Av d e x y z Q hd t u hf k
  cases d with
  | lst xs =>
    simp only [pyIndex] at hf
    split at hf
    · rename_i hfl
      cases hi : idxD xs e 0 with
      | none => rw [hi] at hf; cases hf
      | some n =>
        rw [hi] at hf
        cases hf
        obtain ⟨a, vs, rfl, h, r⟩ := t.lst
        have ru : Rp H Av e y := by
          rcases u with u | ⟨ds, a, vs, e1, _⟩
          · exact u
          · subst e1; cases hfl.2
        obtain ⟨j, z, e1, e2, e3, e4⟩ := idx_rp ru hfl.2 r hfl.1 hi
        rw [Nat.zero_add] at e1
        subst e1
        exact ⟨a, vs, y, n, z, rfl, rfl, SqL.of h, flat_rp ru hfl.2, all_flat r hfl.1, e2, e3, e4, k _ _ (new_pure (.int _))⟩
    · cases hf
  | _ => cases hf
theorem isL_ty {H : Hp} {Av : Addr → Prop} {d : D} {x : V} (t : Top H Av d x) (h : isL d = true) : tyV X.K "list" x H := by
  cases d with
  | lst s =>
    obtain ⟨a, vs, rfl, h, r⟩ := t.lst
    exact .inl ⟨rfl, _, SqL.of h⟩
  | _ => cases h
theorem de_index {a e : Expr} {fa fe : M R} {apos cpos : Pos} (ha : DE X cl A0 W a fa) (he : DE X cl A0 W e fe)
    (hbase : attributeBase a "index" X.env (eval a X.env) = eval a X.env := by rfl)
    (hfew : ((backTo cpos (starEach [e] X.env)).all (fun x => !x.1) && (backToKw cpos (keywordEach [] X.env)).all (fun x => x.1.isSome) && decide ([e].length + ([] : List Keyword).length + (if ([] : List Keyword).isEmpty then 0 else 1) < 30)) = true := by rfl)
    (hline : (apos.endLine == cpos.line) = true := by rfl) (hs : starEach [e] X.env = (false, eval e X.env) :: starEach [] X.env := by rfl) (hplain : (backTo cpos (starEach [] X.env)).any (·.1) = false := by rfl) :
    DE X cl A0 W (.Call (.Attribute a "index" apos) [e] [] cpos) (eM isL pyIndex fa fe) :=
  peImp (pe_bm PySem.F.plainAttrs_list PySem.F.slot_list_index PySem.F.type_list_index mt_index ha (da1 he hs) hbase hfew hline hs hplain) fun _ _ _ z => rd_eM (fun H Av d x => isL_ty) o_index z
/-! ### name[k] = e -/
theorem PSet.or {t t' : TSet} (h : PSet X t) (h' : PSet X t') : PSet X (fun o i v H Q => t o i v H Q ∨ t' o i v H Q) := fun pins s σ H o i v ov iv u Q I r1 r2 r3 z => z.elim (h pins s σ H o i v ov iv u Q I r1 r2 r3) (h' pins s σ H o i v ov iv u Q I r1 r2 r3)
theorem isMo_of {σ : Sl} {i : Nat} (h : isMo σ[i]? = true) : ∃ tg ob, σ[i]? = some (some (.mob tg ob)) := by
  unfold isMo at h
  split at h
  · rename_i tg ob e; exact ⟨tg, ob, e⟩
  · cases h
theorem slot_dct {P : Program} {w : World} {H : Hp} {Av : Addr → Prop} {ow : Nat → List Addr} {σ : Sl} {σV : St} {i : Nat} {tg : Option Nat} {kvs : List (D × D)} (r : RpS P w A0 H Av ow σ σV) (hs : σ[i]? = some (some (.mob tg (.dct kvs)))) : ∃ a l, σV[i]? = some (some (.ref a)) ∧ RpO P w H Av (.dct kvs) a l ∧ Av a := by
  obtain ⟨v, hv, q⟩ := r.slot i _ hs
  cases q with
  | @mob _ _ a _ o t => exact ⟨a, _, hv, o, r.av i a (by rw [o.single]; exact List.mem_cons_self)⟩
theorem Rpk.cell {H : Hp} {Av : Addr → Prop} {D : Addr} {o : HO} {kvs : List (DL.D × DL.D)} {xs : List (NestedKey × Addr × V)} (r : Rpk H Av kvs xs) (ha : Av D) : Rpk (upd H D o) Av kvs xs :=
  Paired.imp (fun _ _ z => ⟨z.1, z.2.1, z.2.2.1.cell ha, z.2.2.2.cell ha⟩) r
theorem ds_set {i : Nat} {x : Str} {k e : Expr} {fk fe : M R} {p spos pos : Pos} (hu : X.A.units + 64 < cLine) (hv : PE X (.Name x p) (tVar i)) (hk : DE X cl A0 W k fk) (he : DE X cl A0 W e fe)
    (ha : ∀ v, assign (.Subscript (.Name x p) k spos) X.env v = (do
      let ov ← holding [v] (eval (.Name x p) X.env)
      let iv ← holding [v, ov] (eval k X.env)
      standAt spos
      holding [v, ov, iv] (setItem ov iv v)
      release [v, ov, iv] []) := by intro _; rfl)
    (hs : swapsWithSole [.Subscript (.Name x p) k spos] e pos.line X.env = pure false := by rfl) (hw : swappedStores [.Subscript (.Name x p) k spos] e X.env = pure none := by rfl) :
    DS X cl A0 W (.Assign [.Subscript (.Name x p) k spos] e pos) (sSet i fk fe) := by
  refine psImp (ps_asg he (pg_sub hv hk (PSet.or set_list (set_dn hu)) ha) hs hw) fun D σV H z => ?_
  obtain ⟨σ, Av, ow, rs, g⟩ := z
  refine gBindS rfl rs.dom rs Stp.refl g fun r σ1 y H1 Av1 ow1 rs1 _ s1 q1 g1 => ?_
  unfold mbind at g1
  cases hf : frz r σ1 with
  | fail => rw [hf] at g1; exact g1.elim
  | exn c σ2 => exact (frz_nox hf).elim
  | ok d σ2 =>
    rw [hf] at g1
    obtain ⟨Av2, ow2, rs2, s2, rp, _⟩ := frz_ok rs.dom (fun b h => h) rs1 s1 q1 hf
    simp only at g1
    by_cases hm : isMo σ2[i]? = true
    · rw [if_pos hm] at g1
      obtain ⟨tg, ob, hso⟩ := isMo_of hm
      obtain ⟨v0, hv0, _⟩ := rs2.slot i _ hso
      refine ⟨v0, hv0, ?_⟩
      have g1 : oS X.prog X.w cl A0 W σV.length D H Av ow (mbind fk (fun q => mbind (frz q) fun k σ => match σ[i]? with
        | some (some (.mob tg (.lst xs))) => match k with
          | .int z => match ixOf z xs.length with
            | some j => .ok .next (σ.set i (some (.mob tg (.lst (xs.set j d)))))
            | none => .fail
          | _ => .fail
        | some (some (.mob tg (.dct kvs))) => if k.keyOk = true ∧ kvs.length < zLine then .ok .next (σ.set i (some (.mob tg (.dct (dPut kvs k d))))) else .fail
        | _ => .fail) σ2) := g1
      refine gBindS rfl rs.dom rs2 s2 g1 fun q σ3 w3 H3 Av3 ow3 rs3 s23 s3 q3 g3 => ?_
      unfold mbind at g3
      cases hf2 : frz q σ3 with
      | fail => rw [hf2] at g3; exact g3.elim
      | exn c σ4 => exact (frz_nox hf2).elim
      | ok kd σ4 =>
        rw [hf2] at g3
        obtain ⟨Av4, ow4, rs4, s4, rk, hav, _⟩ := frz_ok rs.dom (fun b h => s1.none_of h) rs3 s3 q3 hf2
        have rp4 : Rp H3 Av4 d y := (rp.step s23 rs2.ho).less hav
        simp only at g3
        split at g3
        · rename_i tg2 xs hsl
          cases kd with
          | int z =>
            cases hj : ixOf z xs.length with
            | none => simp only [hsl, hj] at g3; exact g3.elim
            | some j =>
              simp only [hsl, hj] at g3
              obtain ⟨a2, vs, ha2, hc, rv, aA⟩ := slot_lst rs4 hsl
              rw [hv0] at ha2; cases ha2
              cases rk
              refine .inl ⟨a2, vs, z, j, rfl, rfl, hc, by rw [← rv.len]; exact hj, ?_⟩
              obtain ⟨rs5, s5⟩ := rs4.mutate hsl hv0 (ob' := .lst (xs.set j d)) (o' := .lst (vs.set j y)) (.lst upd_same (Rps.cell (Rps.set rp4 j rv) aA))
              exact g3 σV _ Av4 ow4 rfl rs5 (s4.trans rs.dom s5)
          | _ => simp only [hsl] at g3; exact g3.elim
        · rename_i tg2 kvs hsl
          by_cases hkz : kd.keyOk = true ∧ kvs.length < zLine
          · simp only [hsl, if_pos hkz] at g3
            obtain ⟨a2, l2, ha2, ro, aA⟩ := slot_dct rs4 hsl
            rw [hv0] at ha2; cases ha2
            cases ro with
            | @dct _ xs _ hc rkv =>
              obtain ⟨b, rfl, kn⟩ := rk.key (P := X.prog) (w := X.w) hkz.1
              refine .inr ⟨a2, b, nk kd, xs, rfl, rfl, hc, rkv.keys, kn, by rw [sizeLine_eq, ← Paired.length rkv]; exact hkz.2, fun nd => ?_⟩
              obtain ⟨rs5, s5⟩ := rs4.mutate hsl hv0 (ob' := .dct (dPut kvs kd d)) (o' := dn X.prog X.w a2 (putN xs (nk kd) b y)) (.dct upd_same (Rpk.cell (Rpk.put hkz.1 rk rp4 nd rkv) aA))
              exact g3 σV _ Av4 ow4 rfl rs5 (s4.trans rs.dom s5)
          · simp only [hsl, if_neg hkz] at g3; exact g3.elim
        · exact g3.elim
    · rw [if_neg hm] at g1; exact g1.elim
end
end DL

/-! DLexc: an exception that is caught and kept. -/
namespace DL
open PySem L2
theorem exK_ok {P : Program} {w : World} {H : Hp} {h : Heap} {a C : Addr} {oe : Obj} {vs : Array Value} (e : h.get? a = some oe) (z : Zc (.ref C) none oe) (d : oe.data = .fields vs) : ObjOk P w H h a (exK C a) :=
  ⟨⟨oe, vs, e, z, d⟩, ⟨oe, e⟩, fun _ _ ⟨o, v, q, r⟩ k => ⟨o, v, k o q, r⟩⟩
section
variable {X : Cx} {pins : List (Addr × Obj)} {σ : St} {H : Hp} {s : Shared}
/-- an object that came up since the def began is tracked from now on -/
theorem track {a : Addr} {o : HO} (I : Inv X pins σ H s) (n0 : X.s_0.heap.get? a = none) (hn : H a = none) (nL : a ≠ X.env.locals) (nC : ∀ x c, X.env.cells.lookup x = some c → c ≠ a) (nP : ∀ p ∈ X.pn ++ pins, p.1 ≠ a) (new : ObjOk X.prog X.w (upd H a o) s.heap a o) : Inv X pins σ (upd H a o) s := by
  have ne0 : ∀ b u, X.s_0.heap.get? b = some u → b ≠ a := fun b u e z => by rw [z, n0] at e; cases e
  have neH : ∀ b u, H b = some u → b ≠ a := fun b u e z => by rw [z, hn] at e; cases e
  refine ⟨I.ok, I.os, I.bare, ⟨I.base.keep, I.base.slot, fun b u e n hq => ?_, I.base.there, fun b xs e => ?_, fun b u v e => ?_, fun b ps e => ?_⟩, I.loc, I.cell, ?_, fun x c e => ?_, fun p hp => ?_, fun b u e => ?_, I.len⟩
  · rw [upd_ne (ne0 b u e)]; exact I.base.free b u e n hq
  · have q := I.base.tups b xs e
    rw [upd_ne (neH b _ q)]; exact q
  · have q := I.base.frzs b u v e
    rw [upd_ne (neH b _ q)]; exact q
  · obtain ⟨m, q⟩ := I.base.tbls b ps e
    exact ⟨m, by rw [upd_ne (neH b _ q)]; exact q⟩
  · rw [upd_ne (Ne.symm nL)]; exact I.free
  · rw [upd_ne (nC x c e)]; exact I.freeC x c e
  · obtain ⟨e1, e2, e3⟩ := I.pin p hp
    exact ⟨e1, by rw [upd_ne (nP p hp)]; exact e2, e3⟩
  · by_cases hb : b = a
    · subst hb
      rw [upd_same] at e
      cases e
      exact new
    · rw [upd_ne hb] at e
      exact (I.hok b u e).stay (fun c v _ q => q) (fun c q => by rw [upd_ne (neH c _ q)]; exact q) fun c xs q => by rw [upd_ne (neH c _ q)]; exact q
end
/-- what 'except E as n: ..' wishes, the exception tracked -/
def wKp (K : PySem.W.Frag) (c : Value) (i : Nat) (ts : Addr → TS) (Wout : WX) (D : Ends) : WX := fun cls d σ H =>
  ∃ C b, cls = .ref C ∧ d = none ∧ PySem.W.exmOne K cls c = some b ∧ (b = true → ∀ a, H a = none → ts a { nx := fun σ' H' => D.nx (σ'.set i none) H', rt := D.rt, bk := fun σ' H' => D.bk (σ'.set i none) H', ct := fun σ' H' => D.ct (σ'.set i none) H' } (σ.set i (some (.ref a))) (upd H a (exK C a))) ∧ (b = false → Wout cls d σ H)
section
variable {X : Cx} {x n : Str} {c : Value} {i : Nat} {body suite : List Stmt} {b₀ : Stmt} {np pos pos' : Pos} {tb : WX → TS} {ts : Addr → TS} {Wout : WX}
theorem ps_try_keep (hs : X.stack = X.env :: X.outer) (hf : X.env.frame = some X.env.locals) (hN : X.N.Nodup) (hi : X.N[i]? = some n) (hln : X.env.kindOf n = some .local) (hc : Names X x c) (tk : Takes X Wout) (hx : X.ex = [])
    (hb : ∀ (W : WX) (pn : List (Addr × Obj)) (xe : Value → Shared → Prop), Takes (X.tr pn xe) W → PassesOwn (model X.prog X.w) X.A X.env xe → PSs (X.tr pn xe) body (tb W))
    (hsu : ∀ (a : Addr) (pn : List (Addr × Obj)), PSs (X.suite a pn) (b₀ :: suite) (ts a)) :
    PS X (.Try body [.ExceptHandler (some (.Name x np)) (some n) (b₀ :: suite) pos'] [] [] pos) (fun D σ H => tb (wKp X.K c i ts Wout D) D σ H) := by
  refine ⟨fun pins s σ H D I h => ?_⟩
  have iok := I.ok
  have hfr : X.A.frames = some (X.env :: X.outer) := by rw [iok.frames, hs]
  have hloc : Loc X.env.scope n := .inl hln
  refine wpAny_Try_except (wpAny_mono ((hb (wKp X.K c i ts Wout D) (X.pn ++ pins) (fun e t1 => wpAny (model X.prog X.w) X.A (noteFrame e X.env) (fun _ t2 => wpAny (model X.prog X.w) X.A (setFlight e none) (fun _ t3 =>
    wpAny (model X.prog X.w) X.A (handleBy e X.env [.ExceptHandler (some (.Name x np)) (some n) (b₀ :: suite) pos']) (SP X pins D) X.xe t3) X.xe t2) X.xe t1) (fun u s' xx => ?_) PassesOwn.looking).run [] s σ H D (I.toTry _) h) (fun f s1 hsp => ?_) (fun e s1 he => he))
  · obtain ⟨a, B, sI, pins', σ', H', cls, d, rfl, J', nb, up, sky, na, os, ag, C, b, rfl, rfl, hb1, hyes, hno⟩ := xx
    have J : Inv X pins σ' H' sI := J'.ofTry iok
    have sky1 : Sky B (X.env :: X.outer) a (Zc (.ref C) none) X.env.locals s'.heap := by rw [← hs]; exact sky
    show wpAny (model X.prog X.w) X.A (noteFrame (.ref a) X.env) _ _ _
    refine Sky.land Zc.steady hfr hf sky1 fun h3 fl3 up3 => ?_
    have J3 : Inv X pins σ' H' { s' with heap := h3 } := J.landed nb fl3.1 (up.trans up3) os ag
    obtain ⟨oe3, vs3, he3, hz3, hd3⟩ := fl3.there
    have nfr : a ∉ frs (X.env :: X.outer) := fun hm => by
      obtain ⟨_, ob, eb, hnf⟩ := fl3.2.2.1.mem hm
      rw [he3] at eb; cases eb
      exact hnf _ hd3
    have nL : a ≠ X.env.locals := fun z => nfr (List.mem_filterMap.mpr ⟨X.env, List.mem_cons_self, by rw [hf, z]⟩)
    have nF : a ∉ X.fs := fun hm => by
      obtain ⟨e, he, q⟩ := List.mem_filterMap.mp hm
      exact nfr (List.mem_filterMap.mpr ⟨e, List.mem_cons_of_mem _ he, q⟩)
    have nI : sI.heap.get? a = none := by
      cases e : sI.heap.get? a with
      | none => rfl
      | some o =>
        have q := nb a o e (by rw [hs]; exact nfr)
        rw [fl3.2.1] at q; cases q
    have n0 : X.s_0.heap.get? a = none := by
      cases e : X.s_0.heap.get? a with
      | none => rfl
      | some o =>
        obtain ⟨o', q⟩ := J.base.there a o e (by rw [hx]; exact List.not_mem_nil)
        rw [nI] at q; cases q
    have S3 := J3.suite he3 hd3 na nL nF
    refine wpAny_handleBy_cons (codeAny_handlers_test ?_) (by intro q; cases q)
    have LT : PySem.W.Looks (model X.prog X.w) h3 (typeOf (.ref a)) (.ref C) := fun A Q E s k q => wpAny_typeOf_ref (k _ _ he3) (by rw [hz3.1]; exact q)
    have LM := PySem.W.exm_one (M := model X.prog X.w) (J3.kIn) LT hb1
    have ask : ∀ {Q : Value → Shared → Prop} {E : Value → Shared → Prop}, Q c { s' with heap := h3 } → wpAny (model X.prog X.w) (X.A.mark (some (.ref a))) (eval (.Name x np) X.env) Q E { s' with heap := h3 } := fun {Q E} q => by
      obtain ⟨hg, hdbg, hm | ⟨hm, hv, hnn⟩⟩ := hc
      · exact ld_glob (X := X.suite a ((a, oe3) :: (X.pn ++ pins))) S3 hg hm q hdbg
      · exact ld_blt (X := X.suite a ((a, oe3) :: (X.pn ++ pins))) S3 hg hm hv q hnn hdbg
    refine ask (LM.here ?_)
    cases b with
    | true =>
      refine codeAny_handlers_suite_as (HandSPX.lands_againZ fl3 fun h4 fl4 up4 => ?_)
      have J4 : Inv X pins σ' H' { s' with heap := h4 } := J.landed nb fl4.1 ((up.trans up3).trans up4) os ag
      obtain ⟨oe4, vs4, he4, hz4, hd4⟩ := fl4.there
      have J5 : Inv X pins σ' (upd H' a (exK C a)) { s' with heap := h4 } := by
        refine track J4 n0 na nL (fun y c e z => ?_) (fun p hp z => ?_) (exK_ok he4 hz4 hd4)
        · obtain ⟨v, o, q1, q2⟩ := J4.cell y c e
          rw [z, he4] at q1; cases q1
          rw [hd4] at q2; cases q2
        · obtain ⟨q, _⟩ := J.pin p hp
          rw [z, nI] at q; cases q
      have S5 : Inv (X.suite a (X.pn ++ pins)) [] σ' (upd H' a (exK C a)) { s' with heap := h4 } :=
        ⟨J5.ok.suite _ _, J5.os, J5.bare, J5.base, J5.loc, J5.cell, J5.free, J5.freeC, fun p hp => J5.pin p (by simpa using hp), J5.hok, J5.len⟩
      refine store_ok (X := X.suite a (X.pn ++ pins)) (v := .ref a) S5 hN hi hloc rfl (fun s5 S5 => ?_) (.inr hln)
      refine wpAny_mono ((hsu a (X.pn ++ pins)).run [] s5 _ _ _ S5 (hyes rfl a na)) (fun f s6 hsp => ?_) (fun _ _ z => False.elim z)
      have done : ∀ {σ6 : St} {H6 : Hp} {Q : Shared → Prop}, Inv (X.suite a (X.pn ++ pins)) [] σ6 H6 s6 → (∀ s7, Inv X pins (σ6.set i none) H6 s7 → Q s7) →
          wpAny (model X.prog X.w) X.A (do bindName X.env n .none; unbindBehindTheSuite X.env n pos') (fun _ s7 => Q s7) X.xe s6 := fun {σ6 H6 Q} S6 hq =>
        gone_ok ⟨iok, S6.os, S6.bare, S6.base, S6.loc, S6.cell, S6.free, S6.freeC, fun p hp => S6.pin p (by simpa using hp), S6.hok, S6.len⟩ hN hi hln hq
      cases f with
      | next => obtain ⟨σ6, H6, S6, q6⟩ := hsp; exact done S6 fun s7 J7 => ⟨_, _, J7, q6⟩
      | brk => obtain ⟨σ6, H6, S6, q6⟩ := hsp; exact done S6 fun s7 J7 => ⟨_, _, J7, q6⟩
      | cont => obtain ⟨σ6, H6, S6, q6⟩ := hsp; exact done S6 fun s7 J7 => ⟨_, _, J7, q6⟩
      | ret u => obtain ⟨v6, σ6, H6, S6, r6, q6⟩ := hsp; exact done S6 fun s7 J7 => ⟨_, _, _, J7, r6, q6⟩
    | false =>
      show wpAny _ X.A (handleBy (.ref a) X.env []) _ _ _
      refine wpAny_handleBy_nil ?_
      obtain ⟨k1, k2, k3, oe, vs, T, oT, ts', he, hz, hd, h1, hr⟩ := id fl3
      unfold PySem.passOn
      refine wpAny_bind (wpAny_field he hd h1 ?_)
      rw [if_neg (show ¬ ((Value.ref T == Value.none) = true) from by simp)]
      have fin : wpAny (model X.prog X.w) X.A (setFlight (.ref a) X.env.frame) (fun _ s4 => wpAny (model X.prog X.w) X.A (throw (.ref a) : Sem PySem.Flow) (SP X pins D) X.xe s4) X.xe { s' with heap := h3 } := by
        rw [hf]
        refine HandSPX.setFlight_upZ fl3 fun h4 hh4 up4 => wpAny_throw (tk _ _ ?_)
        exact ⟨a, B, sI, pins, σ', H', .ref C, none, rfl, J, nb, (up.trans up3).trans up4, .inr (.inr (by rw [hs]; exact hh4)), na, os, ag, hno rfl⟩
      first
        | exact wpAny_bind (wpAny_pure (wpAny_bind fin))
        | exact wpAny_bind fin
  · cases f with
    | next => obtain ⟨σ', H', J', q⟩ := hsp; exact wpAny_execs_nil ⟨σ', H', J'.ofTry iok, q⟩
    | brk => obtain ⟨σ', H', J', q⟩ := hsp; exact ⟨σ', H', J'.ofTry iok, q⟩
    | cont => obtain ⟨σ', H', J', q⟩ := hsp; exact ⟨σ', H', J'.ofTry iok, q⟩
    | ret u => obtain ⟨v, σ', H', J', r, q⟩ := hsp; exact ⟨v, σ', H', J'.ofTry iok, r, q⟩
end
section
variable {X : Cx} {cl : Nat → Addr} {A0 : AK} {W : WX}

theorem RpS.keep1 {P : Program} {w : World} {H : Hp} {Av : Addr → Prop} {ow : Nat → List Addr} {σ : Sl} {σV : St} (r : RpS P w A0 H Av ow σ σV) {a : Addr} {o : HO} (hn : H a = none) : RpS P w A0 (upd H a o) Av ow σ σV := r.same (upd_new hn)
/-- a slot forgotten -/
theorem RpS.drop {P : Program} {w : World} {H : Hp} {Av : Addr → Prop} {ow : Nat → List Addr} {σ : Sl} {σV : St} (r : RpS P w A0 H Av ow σ σV) (i : Nat) (x : Option V) : RpS P w A0 H Av (owSet ow i []) (σ.set i none) (σV.set i x) := by
  refine ⟨fun j sl e => ?_, fun j h => ?_, fun j k a h1 h2 => ?_, fun j a h => ?_, r.dom, by simpa using r.len⟩
  · by_cases hj : i = j
    · subst hj
      by_cases hl : i < σ.length
      · rw [List.getElem?_set_self hl] at e; cases e
      · rw [List.getElem?_eq_none (by simpa using hl)] at e; cases e
    · rw [List.getElem?_set_ne hj] at e ⊢
      obtain ⟨v, hv, q⟩ := r.slot j sl e
      refine ⟨v, hv, ?_⟩
      unfold owSet
      rw [if_neg fun z => hj z.symm]
      exact q
  · unfold owSet
    split
    · rfl
    · rename_i hj
      exact r.off j fun s e => h s (by rw [List.getElem?_set_ne fun z => hj z.symm]; exact e)
  · rcases mem_owSet h1 with ⟨_, z⟩ | ⟨_, z1⟩
    · cases z
    · rcases mem_owSet h2 with ⟨_, z⟩ | ⟨_, z2⟩
      · cases z
      · exact r.dj j k a z1 z2
  · rcases mem_owSet h with ⟨_, z⟩ | ⟨_, z⟩
    · cases z
    · exact r.av j a z
theorem ow_drop {ow : Nat → List Addr} {i : Nat} : ∀ a, Ow (owSet ow i []) a → Ow ow a := fun a ⟨j, h⟩ => by
  rcases mem_owSet h with ⟨_, z⟩ | ⟨_, z⟩
  · cases z
  · exact ⟨j, z⟩
theorem ds_try {x n y : Str} {cE : Value} {i j : Nat} {f : Nat → Option Bool} {bst : Stmt} {fb : M Flow} {np py pn2 apos pos pos' : Pos} (hcl : ∀ c, cl c = c) (hs : X.stack = X.env :: X.outer) (hf : X.env.frame = some X.env.locals) (hN : X.N.Nodup) (hi : X.N[i]? = some n) (hj : X.N[j]? = some y)
    (hln : X.env.kindOf n = some .local) (hly : X.env.scope.names.lookup y = some .local) (hv : Vis X.env.scope n) (hc : Names X x cE) (tk : Takes X W) (hx : X.ex = []) (hij : i ≠ j)
    (hb : ∀ (W : WX) (pn : List (Addr × Obj)) (xe : Value → Shared → Prop), Takes (X.tr pn xe) W → PassesOwn (model X.prog X.w) X.A X.env xe → DS (X.tr pn xe) cl A0 W bst fb)
    (hE : ∀ C b, f C = some b → PySem.W.exmOne X.K (.ref C) cE = some b) (hd1 : (n == ("__debug__" : Str)) = false := by decide) (hd2 : (n == ("__classdict__" : Str)) = false := by decide)
    (hsw : ∀ (a : Addr) (pn : List (Addr × Obj)), swapsWith (.Name n pn2) (some (.Name y py)) apos.line (X.suite a pn).env = pure false := by intro _ _; rfl) :
    DS X cl A0 W (.Try [bst] [.ExceptHandler (some (.Name x np)) (some n) [.Assign [.Name y py] (.Name n pn2) apos] pos'] [] [] pos) (sTry f i j fb) := by
  have li : i < X.N.length := (List.getElem?_eq_some_iff.mp hi).1
  have lj : j < X.N.length := (List.getElem?_eq_some_iff.mp hj).1
  refine psImpN (ps_try_keep (tb := fun W => rdS X.prog X.w cl A0 W fb) (ts := fun a => tAsg (tVar i) (gName j)) hs hf hN hi hln hc tk hx (fun W pn xe tk2 po => pss_one (hb W pn xe tk2 po)) fun a pn => ?_) fun D σV H hl z => ?_
  · exact pss_one (ps_asg (X := X.suite a pn) (pe_var hi hv hd1 hd2) (pg_name hN hj (.inl hly) (.inr hly)) (hsw a pn))
  · obtain ⟨σ, Av, ow, rs, g⟩ := z
    refine ⟨σ, Av, ow, rs, ?_⟩
    have g : oS X.prog X.w cl A0 W σV.length D H Av ow (sTry f i j fb σ) := g
    unfold sTry at g
    cases hfb : fb σ with
    | fail => rw [hfb] at g; exact g.elim
    | ok fl σ1 => rw [hfb] at g; exact g
    | exn c σ1 =>
      simp only [hfb] at g
      intro σV' H' Av' ow' hn' rs' s'
      rw [hcl c]
      cases hfc : f c with
      | none => simp only [hfc] at g; exact g.elim
      | some b0 =>
      refine ⟨c, b0, rfl, rfl, hE c b0 hfc, fun ht a ha => ?_, fun hf0 => ?_⟩
      · subst ht
        simp only [hfc] at g
        have lV : σV'.length = X.N.length := hn'.trans hl
        refine ⟨.ref a, by rw [List.getElem?_set_self (by rw [lV]; exact li)], ?_⟩
        have nav : ¬ Av' a := fun z => by obtain ⟨o, e⟩ := rs'.dom a z; rw [ha] at e; cases e
        have r1 : RpS X.prog X.w A0 (upd H' a (exK c a)) Av' ow' σ1 σV' := rs'.same (upd_new ha)
        have r2 := (r1.drop i none).store (i := j) (s := .exo c) (v := .ref a) (l := []) (by rw [List.length_set, rs'.len, lV]; exact lj) (.exo rfl (.inl upd_same) nav) (fun b hb => nomatch hb)
        have r3 := r2.drop i none
        have e1 : ((σ1.set i none).set j (some (.exo c))).set i none = (σ1.set j (some (.exo c))).set i none := by
          rw [List.set_comm _ _ hij, List.set_set]
        have e2 : ((σV'.set i (none : Option V)).set j (some (.ref a))).set i none = (((σV'.set i (some (V.ref a))).set j (some (V.ref a))).set i none) := by
          rw [List.set_comm _ _ hij, List.set_comm _ _ hij, List.set_set, List.set_set]
        rw [e1, e2] at r3
        refine g _ _ Av' _ (by simp [hn']) r3 ?_
        exact ((s'.trans rs.dom (Same.stp (Av := Av') (O := Ow ow') (upd_new ha))).owLess fun b hb => ow_drop b (ow_drop b (ow_drop b hb)))
      · subst hf0
        simp only [hfc] at g
        have := g σV' H' Av' ow' hn' rs' s'
        rw [hcl c] at this
        exact this
/-! ### what is asked of a caught exception -/
theorem slot_exo {P : Program} {w : World} {H : Hp} {Av : Addr → Prop} {ow : Nat → List Addr} {σ : Sl} {σV : St} {i C : Nat} (r : RpS P w A0 H Av ow σ σV) (hs : σ[i]? = some (some (.exo C))) : ∃ a, σV[i]? = some (some (.ref a)) ∧ Rd H a (exK C a) ∧ ¬ Av a := by
  obtain ⟨v, hv, q⟩ := r.slot i _ hs
  cases q with
  | exo e q n => exact ⟨_, hv, q, n⟩
theorem rd_isNx {i : Nat} {σV : St} {H : Hp} {Q : VK} (z : (rdE X.prog X.w cl A0 W) (eIsNx i) σV H Q) : ∃ v, σV[i]? = some (some v) ∧ Q (.bl (decide (v = .non))) H := by
  obtain ⟨σ, Av, ow, rs, g⟩ := z
  have g : oG X.prog X.w cl A0 W (RpR X.prog X.w) σV H Av ow Q (eIsNx i σ) := g
  unfold eIsNx at g
  split at g
  · rename_i C e
    obtain ⟨a, ha, _⟩ := slot_exo rs e
    exact ⟨_, ha, g _ H Av ow rs Stp.refl (.bl _)⟩
  · rename_i e
    obtain ⟨v, hv, q⟩ := rs.slot i _ e
    cases q with
    | pure e0 q => cases q; exact ⟨_, hv, g _ H Av ow rs Stp.refl (.bl _)⟩
  · exact g.elim
theorem de_isNx {i : Nat} {x : Str} {p : Pos} {j pos pos'} (hv : PE X (.Name x p) (tVar i)) : DE X cl A0 W (.Compare (.Name x p) [.Is] [.Constant .none j pos'] pos) (eIsNx i) :=
  peImp (pe_cmp (pc_isN hv)) fun _ _ _ z => rd_isNx z
theorem dt_isNx {i : Nat} {x : Str} {p : Pos} {j pos pos'} (hv : PE X (.Name x p) (tVar i)) : DT X cl A0 W (.Compare (.Name x p) [.Is] [.Constant .none j pos'] pos) (tB (eIsNx i)) :=
  ptImp (pt_cmp (pc_isN hv)) fun _ _ _ z => rd_isNx (rd_tB z)
/-- isinstance(e, T), e caught -/
def rIsK (K : PySem.W.Frag) : List V → Hp → VK → Prop := fun xs H Q => ∃ (a C : Addr) (t : V) (tv : Value) (b : Bool), xs = [.ref a, t] ∧ Rd H a (exK C a) ∧ ExcC K C ∧ (∀ u, RelV t u → u = tv) ∧ PySem.W.kitOne K (.ref C) tv = some b ∧ Q (.bl b) H
theorem call_isK : CallR X (.builtin "isinstance") (rIsK X.K) := by
  intro pins s σ H xs us Q I r h
  obtain ⟨a, C, t, tv, b, rfl, rd, xc, htv, e, q⟩ := h
  cases r with
  | cons rx rr =>
    cases rr with
    | cons rt rr =>
      cases rr
      cases rx
      have et := htv _ rt
      subst et
      obtain ⟨⟨oe, vs, h1, h2, h3⟩, _⟩ := rd.ok I.hok
      have J : PySem.W.InstAt s.heap a oe C none := by
        obtain ⟨oc, od, oda, osl⟩ := oe
        obtain ⟨z1, z2⟩ := h2
        dsimp only at z1 z2 h3
        subst z1 z2 h3
        exact ⟨h1, rfl, rfl, trivial⟩
      exact PySem.W.kia_one (PySem.W.handS_kitx_exc xc.hg xc.hk xc.hs xc.hd xc.ha xc.hn xc.ht xc.hm) I.kIn J e (fun z => nomatch z) fun tk => ⟨.bl b, H, I.kept (t' := tk) fun _ _ z => z, rfl, q⟩
theorem de_isX {i : Nat} {x t : Str} {f : Nat → Option Bool} {tV : V} {tv : Value} {p p2 p3 pos : Pos} (hg : Gl X "isinstance") (hm : X.mg "isinstance" = none) (hv : PE X (.Name x p3) (tVar i)) (ht : PE X (.Name t p2) (tC tV)) (hu : ∀ u, RelV tV u → u = tv)
    (hE : ∀ C b, f C = some b → ExcC X.K C ∧ PySem.W.kitOne X.K (.ref C) tv = some b)
    (hs : starEach [.Name x p3, .Name t p2] X.env = (false, eval (.Name x p3) X.env) :: starEach [.Name t p2] X.env := by rfl) (hs2 : starEach [.Name t p2] X.env = [(false, eval (.Name t p2) X.env)] := by rfl) (hpl : (backTo pos (starEach [.Name t p2] X.env)).any (·.1) = false := by rfl) :
    DE X cl A0 W (.Call (.Name "isinstance" p) [.Name x p3, .Name t p2] [] pos) (eIsX i f) := by
  refine peImp (pe_callB call_isK hg hm (by decide +kernel) (pa_cons hv (pa_cons ht pa_nil hs2) hs) (by decide) (by decide) hs hpl) fun σV H Q z => ?_
  obtain ⟨σ, Av, ow, rs, g⟩ := z
  have g : oG X.prog X.w cl A0 W (RpR X.prog X.w) σV H Av ow Q (eIsX i f σ) := g
  unfold eIsX at g
  split at g
  · rename_i C e
    obtain ⟨a, ha, rd, _⟩ := slot_exo rs e
    cases hf : f C with
    | none => simp only [hf] at g; exact g.elim
    | some b =>
      simp only [hf] at g
      obtain ⟨xc, kk⟩ := hE C b hf
      exact ⟨_, ha, a, C, tV, tv, b, rfl, rd, xc, hu, kk, g _ H Av ow rs Stp.refl (.bl b)⟩
  · exact g.elim
/-! xs.count(True) -/
def rCntB (K : PySem.W.Frag) : V → List V → Hp → VK → Prop := fun x xs H Q => ∃ (p : Addr) (bs : List Bool) (k : Bool), x = .ref p ∧ xs = [.bl k] ∧ SqL K H p (bs.map V.bl) ∧ Q (.int (bs.count k : Nat)) H
theorem bool_vals {h : Heap} : ∀ {bs : List Bool} {us : List Value}, Vals (bs.map V.bl) us → ∃ as, PySem.ReadsAll h us (bs.map PyData.bool) as
  | [], _, .nil => ⟨_, .nil⟩
  | b :: bs, _, .cons r t => by
    obtain ⟨as, q⟩ := bool_vals (h := h) t
    cases r
    exact ⟨_, .cons (.bool b) q⟩
theorem count_bools (k : Bool) : ∀ bs : List Bool, PySem.Spec.countIn (.bool k) (bs.map PyData.bool) = ((bs.count k : Nat) : Int)
  | [] => rfl
  | b :: bs => by
    have ih := count_bools k bs
    simp only [List.map_cons, PySem.Spec.countIn, PySem.Spec.same, List.count_cons, ih]
    cases b <;> cases k <;> simp <;> omega
theorem mt_countB : MtR X "list.count" (rCntB X.K) := by
  intro pins s σ H x xs v us Q I rx rxs h
  obtain ⟨p, bs, k, rfl, rfl, hs, q⟩ := h
  cases rx
  obtain ⟨u, rfl, ru⟩ := rxs.one
  cases ru
  obtain ⟨its, rv, hl, _⟩ := I.list hs
  obtain ⟨as, ra⟩ := bool_vals (h := s.heap) rv
  refine PyProof.Rows.count_list_bools hl.isList ra (by simp [List.all_map, PySem.Spec.Shape.has]) ?_
  rw [count_bools]
  exact ⟨.int _, H, I.tok _, ⟨_, rfl⟩, q⟩
theorem o_countB : Op2 X.prog X.w pyCountT (fun x y H Q => rCntB X.K x [y] H Q) := by
  intro H Av d e x y z Q hd t u hf k
  cases d with
  | lst xs =>
    cases e with
    | bl b =>
      simp only [pyCountT] at hf
      cases hb : boolsD xs with
      | none => rw [hb] at hf; cases hf
      | some bs =>
        rw [hb] at hf
        cases hf
        obtain ⟨a, vs, rfl, h, r⟩ := t.lst
        have e := bools_rp r hb
        subst e
        rw [u.bl]
        exact ⟨a, bs, b, rfl, rfl, SqL.of h, k _ _ (new_pure (.int _))⟩
    | _ => cases hf
  | _ => cases hf
theorem de_count {a e : Expr} {fa fe : M R} {apos cpos : Pos} (ha : DE X cl A0 W a fa) (he : DE X cl A0 W e fe)
    (hbase : attributeBase a "count" X.env (eval a X.env) = eval a X.env := by rfl)
    (hfew : ((backTo cpos (starEach [e] X.env)).all (fun x => !x.1) && (backToKw cpos (keywordEach [] X.env)).all (fun x => x.1.isSome) && decide ([e].length + ([] : List Keyword).length + (if ([] : List Keyword).isEmpty then 0 else 1) < 30)) = true := by rfl)
    (hline : (apos.endLine == cpos.line) = true := by rfl) (hs : starEach [e] X.env = (false, eval e X.env) :: starEach [] X.env := by rfl) (hplain : (backTo cpos (starEach [] X.env)).any (·.1) = false := by rfl) :
    DE X cl A0 W (.Call (.Attribute a "count" apos) [e] [] cpos) (eM isL pyCountT fa fe) :=
  peImp (pe_bm PySem.F.plainAttrs_list PySem.F.slot_list_count PySem.F.type_list_count mt_countB ha (da1 he hs) hbase hfew hline hs hplain) fun _ _ _ z => rd_eM (fun H Av d x => isL_ty) o_countB z
end
end DL

/-! DLgen: short forms for what a program prints. -/
namespace DL
open PySem L2
/-- the classes of errors, by their addresses -/
structure Ec where
  yard : Nat
  state : Nat
  step : Nat
  load : Nat
  sequence : Nat
  crane : Nat
  dues : Nat
  ticks : Nat
  text : Nat
  many : Nat
  undo : Nat
/-- what raise X('..') asks of the class X -/
structure Rz (K : PySem.W.Frag) (mg : Str → Option Value) (x : Str) (C : Addr) : Prop where
  g : mg x = some (.ref C)
  e : PySem.W.excIn K C [.type "ValueError", .type "Exception", .type "BaseException", .type "object"] "ValueError.__new__" = true
  k : PySem.W.keepIn K (.ref C) = true
  b : PySem.W.subIn K (.ref C) (.type "BaseException") = some true
  t : PySem.W.typeIn K (.ref C) = some (.type "type")
/-- what a call of the def x asks -/
structure Dz (K : PySem.W.Frag) (mg : Str → Option Value) (x : Str) (f : Addr) (fd : FuncData) (ps : List Str) : Prop where
  g : mg x = some (.ref f)
  k : PySem.W.keepIn K (.ref f) = true
  b : Binds K fd ps []
abbrev idA : Nat → Addr := fun c => c
section
variable {X : Cx} {cl : Nat → Addr} {A0 : AK} {W : WX}
theorem hu64 {A : Around} {k : Nat} (hr : Room k A) : A.units + 65 < cLine := by have := hr.un; omega
theorem ev (i : Nat) {x : Str} {pos : Pos} (hN : X.N[i]? = some x := by rfl) (hv : Vis X.env.scope x := by first | exact Or.inl rfl | exact Or.inr (Or.inl rfl) | exact Or.inr (Or.inr rfl)) (hd : (x == ("__debug__" : Str)) = false := by decide) (hcd : (x == ("__classdict__" : Str)) = false := by decide) : DE X cl A0 W (.Name x pos) (eVar i) := de_var (pe_var hN hv hd hcd)
theorem es {x : Str} {s : Tx} {j pos} (h : x = tx s := by decide +kernel) (ok : txOk s = true := by decide +kernel) : DE X cl A0 W (.Constant (.str x) j pos) (eC (.str s)) := de_str h ok
theorem ds_rz {x : Str} {C : Nat} {m : Str} {j : Nat} {p p2 p3 pos : Pos} (hc : X.calm = true) (tk : Takes X W) (z : Rz X.K X.mg x (cl C)) (hg : Gl X x) (hdb : (x == ("__debug__" : Str)) = false := by decide) : DS X cl A0 W (.Raise (some (.Call (.Name x p) [.Constant (.str m) j p2] [] p3)) none pos) (sRaise C) :=
  ds_raise (ps_raise hc tk (pmk_own PySem.F.excBase_ValueError z.e z.g z.k (raises_own z.b z.t) hg hdb))
/-- a table of classes: what isinstance, what except says of each -/
theorem lookup_in {l : List (Nat × Bool)} {C : Nat} {b : Bool} (h : l.lookup C = some b) : (C, b) ∈ l := by
  induction l with
  | nil => cases h
  | cons p l ih =>
    obtain ⟨c, k⟩ := p
    rw [List.lookup_cons] at h
    by_cases e : C == c
    · rw [e] at h
      cases h
      rw [beq_iff_eq.mp e]; exact List.mem_cons_self
    · simp only [Bool.eq_false_iff.mpr e] at h
      exact List.mem_cons_of_mem _ (ih h)
def TabX (K : PySem.W.Frag) (tv : Value) (l : List (Nat × Bool)) : Prop := ∀ p ∈ l, ExcC K p.1 ∧ PySem.W.kitOne K (.ref p.1) tv = some p.2
def TabE (K : PySem.W.Frag) (tv : Value) (l : List (Nat × Bool)) : Prop := ∀ p ∈ l, PySem.W.exmOne K (.ref p.1) tv = some p.2
theorem tabX_nil {K : PySem.W.Frag} {tv : Value} : TabX K tv [] := fun _ h => nomatch h
theorem tabX_cons {K : PySem.W.Frag} {tv : Value} {C : Nat} {b : Bool} {l : List (Nat × Bool)} (h1 : ExcC K C) (h2 : PySem.W.kitOne K (.ref C) tv = some b) (r : TabX K tv l) : TabX K tv ((C, b) :: l) := fun p h => by
  rcases List.mem_cons.mp h with rfl | h
  · exact ⟨h1, h2⟩
  · exact r p h
theorem tabE_nil {K : PySem.W.Frag} {tv : Value} : TabE K tv [] := fun _ h => nomatch h
theorem tabE_cons {K : PySem.W.Frag} {tv : Value} {C : Nat} {b : Bool} {l : List (Nat × Bool)} (h2 : PySem.W.exmOne K (.ref C) tv = some b) (r : TabE K tv l) : TabE K tv ((C, b) :: l) := fun p h => by
  rcases List.mem_cons.mp h with rfl | h
  · exact h2
  · exact r p h
theorem dx_is {i : Nat} {x t : Str} {l : List (Nat × Bool)} {C : Addr} {p p2 p3 pos : Pos} (hg : Gl X "isinstance") (hm : X.mg "isinstance" = none) (hv : PE X (.Name x p3) (tVar i)) (hgt : Gl X t) (ht : X.mg t = some (.ref C)) (hT : TabX X.K (.ref C) l) (hd : (t == ("__debug__" : Str)) = false := by decide)
    (hs : starEach [.Name x p3, .Name t p2] X.env = (false, eval (.Name x p3) X.env) :: starEach [.Name t p2] X.env := by rfl) (hs2 : starEach [.Name t p2] X.env = [(false, eval (.Name t p2) X.env)] := by rfl) (hpl : (backTo pos (starEach [.Name t p2] X.env)).any (·.1) = false := by rfl) :
    DE X cl A0 W (.Call (.Name "isinstance" p) [.Name x p3, .Name t p2] [] pos) (eIsX i fun c => List.lookup c l) :=
  de_isX (tV := .ref C) (tv := .ref C) hg hm hv (pe_glob hgt ht rfl hd) (fun u r => r) (fun C b h => hT (C, b) (lookup_in h)) hs hs2 hpl
theorem dx_isB {i : Nat} {x t : Str} {T : String} {l : List (Nat × Bool)} {p p2 p3 pos : Pos} (hg : Gl X "isinstance") (hm : X.mg "isinstance" = none) (hv : PE X (.Name x p3) (tVar i)) (hgt : Gl X t) (ht : X.mg t = none) (hb : bootBuiltins t = some (.type T)) (hT : TabX X.K (.type T) l) (hn : t ≠ "__name__" := by decide) (hd : (t == ("__debug__" : Str)) = false := by decide)
    (hs : starEach [.Name x p3, .Name t p2] X.env = (false, eval (.Name x p3) X.env) :: starEach [.Name t p2] X.env := by rfl) (hs2 : starEach [.Name t p2] X.env = [(false, eval (.Name t p2) X.env)] := by rfl) (hpl : (backTo pos (starEach [.Name t p2] X.env)).any (·.1) = false := by rfl) :
    DE X cl A0 W (.Call (.Name "isinstance" p) [.Name x p3, .Name t p2] [] pos) (eIsX i fun c => List.lookup c l) :=
  de_isX (tV := .ty T) (tv := .type T) hg hm hv (pe_bltn hgt ht hb rfl hn hd) (fun u r => r) (fun C b h => hT (C, b) (lookup_in h)) hs hs2 hpl
end
end DL

/-! DLend: from the law's meaning to the law. -/
namespace DL
open PySem L2
/-- law's promise: a list of at most 63 ints is handed in, True comes out -/
def spLaw (K : PySem.W.Frag) : Sp := fun vs H Q _ => ∃ (a : Addr) (ns : List Int), vs = [.ref a] ∧ SqL K H a (ns.map V.int) ∧ ns.length ≤ 63 ∧ ∀ H', Q (.bl true) H'
theorem law_imp {P : Program} {w : World} {cl : Nat → Addr} {K : PySem.W.Frag} {F : Fn} (h : ∀ ns : List Int, ns.length ≤ 63 → ∃ as, F [.scr ns] = .ok (.pure (.bl true)) as) : ∀ vs H Q E, spLaw K vs H Q E → spD P w cl K 1 F vs H Q E := by
  rintro vs H Q E ⟨a, ns, rfl, hS, hl, k⟩
  refine ⟨rfl, [.scr ns], fun _ => False, fun _ => [], ⟨fun i s e => ?_, fun _ _ => rfl, fun _ _ _ z => (nomatch z), fun _ _ z => (nomatch z), fun _ z => z.elim, rfl⟩, ?_⟩
  · cases i with
    | zero =>
      cases e
      refine ⟨.ref a, rfl, .scr rfl ?_⟩
      rcases hS with z | z
      · exact .inl ⟨z, fun q => q⟩
      · exact .inr z
    | succ i => simp at e
  · obtain ⟨as, e⟩ := h ns hl
    rw [e]
    intro v H' Av' ow' _ _ r
    cases r
    exact k H'
theorem walkD {l : PySem.W.OpenLaw} {q : Program} {loose : List Str} {XP : (Str → Option Value) → Heap → Prop} {YP : World → Heap → Prop} {d : DefRec} {K : Params → PySem.W.Frag} (k : Nat) (hr : Room k callerA) (hn : l.most = some 63) (hdf : d.params.defaults = [])
    (hY : ∀ (w : World) (h : Heap), YP w h → (K w.params).In h)
    (F : ∀ (w : World) (mg : Str → Option Value) (fa : Addr) (h : Heap), (K w.params).In h → h.Ns mainGlobals mg → mg d.name = some (.ref fa) →
      ∃ fd : FuncData, (∀ (s : Shared) (u : Value), BindsTo s fd ⟨[u], []⟩ [("script", u)]) ∧ ∀ base : Heap, (K w.params).In base → base.Ns mainGlobals mg → FnOk l.prog w (K w.params) mg base (L2.CX l.prog w) k fa fd ["script"] (spLaw (K w.params))) :
    PySem.W.WalkO q loose XP YP l.row.toRowW d [] (fun f vs => PySem.call f vs) :=
  L2.walk_of (n := 63) (k := k) (x := "script") (CX := fun w => L2.CX l.prog w) (sp := fun w => spLaw (K w.params)) hn (by decide) hdf hr hY F (fun _ _ a ns hl _ hS => ⟨a, ns, rfl, hS, hl, fun _ => rfl⟩) fun _ _ _ _ _ ⟨_, _, _, _, _, _, _, _, _, _, _, _, z⟩ => z
end DL

/-! DLkey: sorted(rows, key=f), f(row) = row[0]. -/
namespace DL
open PySem L2 PyProof.Rows
/-- what the key's def looks like -/
structure Key0 (st : Stmt) (y : Str) : Prop where
  sc : FnScope [y] [y] (defScope st)
  body : ∃ p1 p2 p3 p4 j, defBody st = [.Return (some (.Subscript (.Name y p1) (.Constant (.int 0) j p2) p3)) p4]
  loc : (defScope st).names.lookup y = some .local
  dbg : (y == ("__debug__" : Str)) = false
theorem run_key {prog : Program} {w : World} {A : Around} {s : Shared} {K : PySem.W.Frag} {x qual y : Str} {st : Stmt} {f p : Addr} {fd : FuncData} {its : Array Value} {u : Value} {E : Value → Shared → Prop} {Q : Value → Shared → Prop} {k : Nat} (Fu : Fun K x qual st f fd) (hb : Binds K fd [y] []) (D : Key0 st y) (hr : Room (k + 1) A) (KX : K.In s.heap) (lim : s.heap.NoLimit)
    (ht : IsTup s.heap p its) (h0 : its[0]? = some u) (q : ∀ h' tk, (∀ b o, s.heap.get? b = some o → h'.get? b = some o) → Q u { s with heap := h', toks := tk }) : wpAny (model prog w) A (call (.ref f) [.ref p]) Q E s := by
  obtain ⟨oc, od, kV, doc, pm, an, cdv, ct, osl, rfl, lk, hcd⟩ := Fu.ex
  have b := hb s [.ref p] KX rfl
  rw [List.append_nil] at b
  refine wpAny_call (codeAny_call_function hr.depth (KX _ _ lk) rfl D.sc.co D.sc.gen rfl (PySem.W.codeRec_of KX hcd) (b _ _ _ _ ?_))
  refine wpAny_newFunctionEnv_cells D.sc.kind (fun z hz => ?_) fun env he s1 xx => ?_
  · have : z = (y, .ref p) := by simpa using hz
    subst this
    exact .inl D.loc
  subst he
  refine ⟨lim.keeps xx.toInCall.keep, codeAny_func ?_⟩
  obtain ⟨p1, p2, p3, p4, j, eb⟩ := D.body
  show wpAny _ _ (execs (defBody st) _) _ _ _
  rw [eb]
  obtain ⟨h1, tk1, e1, kp1⟩ := xx.done
  subst e1
  have pl : IsTup h1 p its := by
    obtain ⟨o, a1, a2⟩ := ht
    exact ⟨o, kp1 _ _ a1, a2⟩
  refine wpAny_execs_cons (wpAny_Return_some (Subscript_ (wpAny_Name (wpAny_loadName_local (v := .ref p) D.sc.kind D.loc xx.toInCall.ns ?_ ?_) D.dbg)))
  · exact bindL_get (P := [y]) (vs := [.ref p]) (i := 0) (by simp) rfl rfl D.loc
  · refine wpAny_Constant_int ?_
    refine subscriptTail_builtinR (x := u) pl.typeIs slot_tuple_getitem.lookup (getItem_tuple (j := 0) (Q := fun r s' => r = u ∧ _) pl (by decide) (by decide) ?_ h0 ⟨rfl, ?_⟩) ?_
    · have hz : 0 < its.size := by
        rcases Nat.eq_zero_or_pos its.size with z | z
        · rw [Array.getElem?_eq_none (by omega)] at h0; cases h0
        · exact z
      unfold seqIndex?
      simp [hz]
    · exact q h1 _ kp1
    · rfl

/-! ### the order of pairs of texts -/
abbrev Pk := Tx × Tx
def ltP (p q : Pk) : Bool := if p.1 == q.1 then (if p.2 == q.2 then false else decide (p.2 < q.2)) else decide (p.1 < q.1)
def leP (p q : Pk) : Bool := !ltP q p
theorem leP_iff (p q : Pk) : leP p q = true ↔ p.1 < q.1 ∨ (p.1 = q.1 ∧ p.2 ≤ q.2) := by
  unfold leP ltP
  by_cases h : q.1 = p.1
  · simp only [h, beq_self_eq_true, if_true]
    by_cases h2 : q.2 = p.2
    · simp [h2]
    · have b2 : (q.2 == p.2) = false := beq_eq_false_iff_ne.mpr h2
      simp [b2, List.lt_irrefl]
  · have b1 : (q.1 == p.1) = false := beq_eq_false_iff_ne.mpr h
    simp only [b1, Bool.false_eq_true, if_false, Bool.not_eq_true', decide_eq_false_iff_not, List.not_lt]
    constructor
    · intro z
      rcases List.le_iff_lt_or_eq.mp z with z | z
      · exact .inl z
      · exact absurd z.symm h
    · rintro (z | ⟨z, _⟩)
      · exact List.le_of_lt z
      · exact absurd z.symm h
def insB {α : Type} (le : α → α → Bool) (x : α) : List α → List α
  | [] => [x]
  | y :: r => if le x y = true then x :: y :: r else y :: insB le x r
def sortB {α : Type} (le : α → α → Bool) : List α → List α
  | [] => []
  | x :: r => insB le x (sortB le r)
section
variable {α : Type} {le : α → α → Bool}
theorem insB_perm (x : α) : ∀ l, (insB le x l).Perm (x :: l)
  | [] => .refl _
  | y :: r => by
    unfold insB
    split
    · exact .refl _
    · exact ((insB_perm x r).cons y).trans (.swap x y r)
theorem sortB_perm : ∀ l, (sortB le l).Perm l
  | [] => .refl _
  | x :: r => (insB_perm x (sortB le r)).trans ((sortB_perm r).cons x)
theorem insB_sorted (tr : ∀ a b c, le a b = true → le b c = true → le a c = true) (to : ∀ a b, le a b = true ∨ le b a = true) (x : α) : ∀ l, l.Pairwise (fun a b => le a b = true) → (insB le x l).Pairwise (fun a b => le a b = true)
  | [], _ => by simp [insB]
  | y :: r, h => by
    unfold insB
    rw [List.pairwise_cons] at h
    split
    · rename_i hx
      rw [List.pairwise_cons, List.pairwise_cons]
      refine ⟨fun z hz => ?_, h⟩
      rcases List.mem_cons.mp hz with rfl | hz
      · exact hx
      · exact tr _ _ _ hx (h.1 z hz)
    · rename_i hx
      rw [List.pairwise_cons]
      refine ⟨fun z hz => ?_, insB_sorted tr to x r h.2⟩
      rcases List.mem_cons.mp ((insB_perm x r).mem_iff.mp hz) with rfl | hz
      · exact (to _ _).resolve_left hx
      · exact h.1 z hz
theorem sortB_sorted (tr : ∀ a b c, le a b = true → le b c = true → le a c = true) (to : ∀ a b, le a b = true ∨ le b a = true) : ∀ l, (sortB le l).Pairwise (fun a b => le a b = true)
  | [] => .nil
  | x :: r => insB_sorted tr to x _ (sortB_sorted tr to r)
theorem merge_is (tr : ∀ a b c, le a b = true → le b c = true → le a c = true) (to : ∀ a b, le a b = true ∨ le b a = true) (l : List α) (an : ∀ a ∈ l, ∀ b ∈ l, le a b = true → le b a = true → a = b) : l.mergeSort le = sortB le l := by
  refine List.Perm.eq_of_pairwise (le := fun a b => le a b = true) (fun a b ha hb h1 h2 => an a ((List.mergeSort_perm l le).mem_iff.mp ha) b ((sortB_perm l).mem_iff.mp hb) h1 h2) (List.pairwise_mergeSort tr (fun a b => ?_) l) (sortB_sorted tr to l) ((List.mergeSort_perm l le).trans (sortB_perm l).symm)
  rcases to a b with h | h <;> simp [h]
end
theorem leP_tr (a b c : Pk) (h1 : leP a b = true) (h2 : leP b c = true) : leP a c = true := by
  rw [leP_iff] at *
  rcases h1 with h1 | ⟨e1, h1⟩ <;> rcases h2 with h2 | ⟨e2, h2⟩
  · exact .inl (List.lt_trans h1 h2)
  · exact .inl (e2 ▸ h1)
  · exact .inl (e1 ▸ h2)
  · exact .inr ⟨e1.trans e2, List.le_trans h1 h2⟩
theorem leP_to (a b : Pk) : leP a b = true ∨ leP b a = true := by
  rw [leP_iff, leP_iff]
  rcases List.le_total a.1 b.1 with h | h
  · rcases List.le_iff_lt_or_eq.mp h with h | h
    · exact .inl (.inl h)
    · rcases List.le_total a.2 b.2 with z | z
      · exact .inl (.inr ⟨h, z⟩)
      · exact .inr (.inr ⟨h.symm, z⟩)
  · rcases List.le_iff_lt_or_eq.mp h with h | h
    · exact .inr (.inl h)
    · rcases List.le_total a.2 b.2 with z | z
      · exact .inl (.inr ⟨h.symm, z⟩)
      · exact .inr (.inr ⟨h, z⟩)
theorem leP_an (a b : Pk) (h1 : leP a b = true) (h2 : leP b a = true) : a = b := by
  rw [leP_iff] at *
  rcases h1 with h1 | ⟨e1, h1⟩
  · rcases h2 with h2 | ⟨e2, h2⟩
    · exact absurd (List.lt_trans h1 h2) (List.lt_irrefl _)
    · exact absurd (e2 ▸ h1) (List.lt_irrefl _)
  · rcases h2 with h2 | ⟨e2, h2⟩
    · exact absurd (e1 ▸ h2) (List.lt_irrefl _)
    · exact Prod.ext e1 (List.le_antisymm h1 h2)
end DL

/-! DLsrt: sorted(pairs of texts), sorted(rows, key=f). -/
namespace DL
open PySem L2 PyProof.Rows
/-! ### plain -/
def keyP : D → Option Pk
  | .tup [.str a, .str b] => some (a, b)
  | _ => none
def rowK : D → Option Pk
  | .tup (k :: _) => keyP k
  | _ => none
def keyed (ky : D → Option Pk) : List D → Option (List (Pk × D))
  | [] => some []
  | d :: ds => match ky d, keyed ky ds with
    | some k, some r => some ((k, d) :: r)
    | _, _ => none
def leK {α : Type} (a b : Pk × α) : Bool := leP a.1 b.1
def pySortK (ky : D → Option Pk) : D → Option R
  | .lst xs => match keyed ky xs with
    | some ys => if (ys.map (·.1)).Nodup ∧ ys.length ≤ 1000 then some (.own (.lst ((sortB leK ys).map (·.2)))) else none
    | none => none
  | _ => none
/-! ### the order of the data -/
def encP (p : Pk) : PyData := .tuple [.str (tx p.1), .str (tx p.2)]
theorem leP_data (p q : Pk) : PySem.W.dataLe false encP p q = leP p q := by
  show (!PySem.W.dataLt (encP q) (encP p)) = leP p q
  unfold encP leP ltP
  rw [PySem.W.dataLt_pair (by simp [PySem.W.alike]) (by simp [PySem.W.alike]), PySem.W.dataLt_str, PySem.W.dataLt_str]
  have e1 : (PyData.eqv (.str (tx q.1)) (.str (tx p.1)) = true) = ((q.1 == p.1) = true) := by
    simp only [PyData.eqv, beq_iff_eq]
    exact propext ⟨fun h => tx_inj h, fun h => by rw [h]⟩
  have e2 : (PyData.eqv (.str (tx q.2)) (.str (tx p.2)) = true) = ((q.2 == p.2) = true) := by
    simp only [PyData.eqv, beq_iff_eq]
    exact propext ⟨fun h => tx_inj h, fun h => by rw [h]⟩
  simp only [e1, e2, tx_get]
theorem same_nodup {α β : Type} : ∀ {l : List (α × β)} {a b : α × β}, (l.map (·.1)).Nodup → a ∈ l → b ∈ l → a.1 = b.1 → a = b
  | [], a, b, _, h, _, _ => nomatch h
  | x :: l, a, b, nd, ha, hb, e => by
    simp only [List.map_cons, List.nodup_cons] at nd
    rcases List.mem_cons.mp ha with rfl | ha' <;> rcases List.mem_cons.mp hb with rfl | hb'
    · rfl
    · exact absurd (List.mem_map.mpr ⟨b, hb', e.symm⟩) nd.1
    · exact absurd (List.mem_map.mpr ⟨a, ha', e⟩) nd.1
    · exact same_nodup nd.2 ha' hb' e
theorem merge_K {α : Type} (l : List (Pk × α)) (nd : (l.map (·.1)).Nodup) : l.mergeSort leK = sortB leK l :=
  merge_is (le := leK) (fun a b c => leP_tr a.1 b.1 c.1) (fun a b => leP_to a.1 b.1) l fun a ha b hb h1 h2 => same_nodup nd ha hb (leP_an _ _ h1 h2)
theorem sortB_map {α β : Type} {f : α → β} : ∀ l : List (Pk × α), (sortB leK l).map (fun p => (p.1, f p.2)) = sortB leK (l.map fun p => (p.1, f p.2))
  | [] => rfl
  | x :: l => by
    have ins : ∀ (x : Pk × α) (m : List (Pk × α)), (insB leK x m).map (fun p => (p.1, f p.2)) = insB leK (x.1, f x.2) (m.map fun p => (p.1, f p.2)) := by
      intro x m
      induction m with
      | nil => rfl
      | cons y m ih =>
        simp only [insB, List.map_cons]
        have e : leK x y = leK (x.1, f x.2) (y.1, f y.2) := rfl
        rw [← e]
        split
        · rfl
        · simp only [List.map_cons, ih]
    simp only [sortB, List.map_cons, ins, sortB_map l]
section
variable {X : Cx} {cl : Nat → Addr} {A0 : AK} {W : WX}
def PairAt (K : PySem.W.Frag) (H : Hp) (k : Pk) (v : V) : Prop := ∃ q, v = .ref q ∧ SqT K H q [.str (tx k.1), .str (tx k.2)]
def RowAt (K : PySem.W.Frag) (H : Hp) (k : Pk) (v : V) : Prop := ∃ p z r, v = .ref p ∧ SqT K H p (z :: r) ∧ PairAt K H k z
def rSortPk (K : PySem.W.Frag) (At : PySem.W.Frag → Hp → Pk → V → Prop) : List V → Hp → VK → Prop := fun xs H Q => ∃ (a : Addr) (bs : List (Pk × V)), xs = [.ref a] ∧ SqL K H a (bs.map (·.2)) ∧ (∀ b ∈ bs, At K H b.1 b.2) ∧ bs.length ≤ 1000 ∧ ∀ p, H p = none → Q (.ref p) (upd H p (.lst ((bs.mergeSort leK).map (·.2))))
theorem each_vals : ∀ {bs : List (Pk × V)} {us : List Value}, Vals (bs.map (·.2)) us → PySem.W.EachIs (fun u b => RelV b.2 u) us bs
  | [], _, .nil => .nil
  | b :: bs, _, .cons r t => .cons r (each_vals t)
theorem vals_each : ∀ {bs : List (Pk × V)} {us : List Value}, PySem.W.EachIs (fun u b => RelV b.2 u) us bs → Vals (bs.map (·.2)) us
  | [], _, .nil => .nil
  | b :: bs, _, .cons r t => .cons r (vals_each t)
theorem pair_reads {pins : List (Addr × Obj)} {σ : L2.St} {H : Hp} {s : Shared} {k : Pk} {v : V} {u : Value} (I : Inv X pins σ H s) (h : PairAt X.K H k v) (r : RelV v u) : Reads s.heap u (encP k) [] := by
  obtain ⟨q, rfl, hq⟩ := h
  cases r
  obtain ⟨its, rv, ⟨o, e1, e2, n, e3⟩, _⟩ := I.tuple hq
  cases rv with
  | cons r1 rv =>
    cases rv with
    | cons r2 rv =>
      cases rv
      obtain ⟨t1, rfl⟩ := r1
      obtain ⟨t2, rfl⟩ := r2
      exact Reads.tuple (as := []) e1 e2 e3 (ReadsAll.cons (as := []) (bs := []) (.str _ _) (ReadsAll.cons (as := []) (bs := []) (.str _ _) .nil))
theorem cr_sortPk (hu : X.A.units + 64 < cLine) : CallR X (.builtin "sorted") (rSortPk X.K PairAt) := by
  intro pins s σ H xs us Q I r h
  obtain ⟨a, bs, rfl, hs, at', hz, q⟩ := h
  obtain ⟨its, rv, hl, _⟩ := I.list hs
  rw [Vals.ref1 r]
  have ev := each_vals rv
  have hle : PySem.W.dataLe false (fun b : Pk × V => encP b.1) = leK := by
    funext a b
    exact leP_data a.1 b.1
  have er : PySem.W.EachIs (fun u b => ∃ as, Reads s.heap u (encP b.1) as) its bs := by
    have gen : ∀ {us : List Value} {l : List (Pk × V)}, (∀ b ∈ l, b ∈ bs) → PySem.W.EachIs (fun u b => RelV b.2 u) us l → PySem.W.EachIs (fun u b => ∃ as, Reads s.heap u (encP b.1) as) us l := by
      intro us l hm e
      induction e with
      | nil => exact .nil
      | cons r t ih => exact .cons ⟨[], pair_reads I (at' _ (hm _ List.mem_cons_self)) r⟩ (ih fun b hb => hm b (List.mem_cons_of_mem _ hb))
    exact gen (fun b hb => hb) ev
  refine PySem.W.sorted_data (enc := fun b : Pk × V => encP b.1) hl.isList ev er (PySem.W.AllAlike.of fun _ _ => by simp [PySem.W.alike, PySem.W.alikeAll, encP]) (PySem.W.Sortable.tuples fun _ => ⟨_, _, rfl⟩) (le_line hz) (fun b _ => by
    have hd : (encP b.1).depth = 1 := by simp [encP, PyData.depth, PyData.depthAll]
    omega) fun out hlen eo => ?_
  rw [hle] at eo
  obtain ⟨ep, he'⟩ := PyProof.Rows.sortedAll_at s.heap its out.toArray
  have vo := vals_each eo
  have hlen2 : ((bs.mergeSort leK).map (·.2)).length ≤ sizeLine := by rw [List.length_map, List.length_mergeSort]; exact le_line hz
  exact ⟨.ref _, upd H (s.heap.objs.size + 1) (.lst ((bs.mergeSort leK).map (·.2))), I.laid (t' := s.toks) (fun _ _ => PyProof.Rows.sortedAll_old) (Nat.le_succ _) ⟨hlen2, out, ep, vo, he'⟩, rfl, q _ (I.hok.fresh (Nat.le_succ _))⟩
/-- the rows' keys at the values -/
theorem keyed_rp {ky : D → Option Pk} {At : PySem.W.Frag → Hp → Pk → V → Prop} {H : Hp} {Av : Addr → Prop} (hk : ∀ d k v, ky d = some k → Rp H Av d v → At X.K H k v) : ∀ {ds : List D} {vs : List V} {ys : List (Pk × D)}, Rps H Av ds vs → keyed ky ds = some ys →
    ∃ bs : List (Pk × V), vs = bs.map (·.2) ∧ (∀ b ∈ bs, At X.K H b.1 b.2) ∧ Paired (fun (y : Pk × D) (b : Pk × V) => y.1 = b.1 ∧ Rp H Av y.2 b.2) ys bs
  | _, _, ys, .nil, h => by cases h; exact ⟨[], rfl, fun _ h => (nomatch h), .nil⟩
  | d :: ds, v :: vs, ys, .cons r t, h => by
    unfold keyed at h
    cases h1 : ky d with
    | none => simp only [h1] at h; cases h
    | some k =>
      cases h2 : keyed ky ds with
      | none => simp only [h1, h2] at h; cases h
      | some rs =>
        simp only [h1, h2] at h
        cases h
        obtain ⟨bs, e, a, p⟩ := keyed_rp hk t h2
        refine ⟨(k, v) :: bs, by rw [e]; rfl, fun b hb => ?_, .cons ⟨rfl, r⟩ p⟩
        rcases List.mem_cons.mp hb with rfl | hb
        · exact hk d k v h1 r
        · exact a b hb
theorem paired_ins {F : D → V → Prop} {x : Pk × D} {y : Pk × V} (hx : x.1 = y.1 ∧ F x.2 y.2) : ∀ {l : List (Pk × D)} {m : List (Pk × V)}, Paired (fun (y : Pk × D) (b : Pk × V) => y.1 = b.1 ∧ F y.2 b.2) l m → Paired (fun (y : Pk × D) (b : Pk × V) => y.1 = b.1 ∧ F y.2 b.2) (insB leK x l) (insB leK y m)
  | _, _, .nil => .cons hx .nil
  | a :: l, b :: m, .cons h t => by
    have e : leK x a = leK y b := by unfold leK; rw [hx.1, h.1]
    simp only [insB, e]
    split
    · exact .cons hx (.cons h t)
    · exact .cons h (paired_ins hx t)
theorem paired_sort {F : D → V → Prop} : ∀ {l : List (Pk × D)} {m : List (Pk × V)}, Paired (fun (y : Pk × D) (b : Pk × V) => y.1 = b.1 ∧ F y.2 b.2) l m → Paired (fun (y : Pk × D) (b : Pk × V) => y.1 = b.1 ∧ F y.2 b.2) (sortB leK l) (sortB leK m)
  | _, _, .nil => .nil
  | _ :: _, _ :: _, .cons h t => paired_ins h (paired_sort t)
theorem paired_keys {F : D → V → Prop} : ∀ {l : List (Pk × D)} {m : List (Pk × V)}, Paired (fun (y : Pk × D) (b : Pk × V) => y.1 = b.1 ∧ F y.2 b.2) l m → l.map (·.1) = m.map (·.1)
  | _, _, .nil => rfl
  | _ :: _, _ :: _, .cons h t => by simp only [List.map_cons, h.1, paired_keys t]
theorem paired_rps {H : Hp} {Av : Addr → Prop} : ∀ {l : List (Pk × D)} {m : List (Pk × V)}, Paired (fun (y : Pk × D) (b : Pk × V) => y.1 = b.1 ∧ Rp H Av y.2 b.2) l m → Rps H Av (l.map (·.2)) (m.map (·.2))
  | _, _, .nil => .nil
  | _ :: _, _ :: _, .cons h t => .cons h.2 (paired_rps t)
theorem o_sortK {ky : D → Option Pk} {At : PySem.W.Frag → Hp → Pk → V → Prop} (hk : ∀ H Av d k v, ky d = some k → Rp H Av d v → At X.K H k v) : Op1 X.prog X.w (pySortK ky) (fun x H Q => rSortPk X.K At [x] H Q) := by
  intro H Av d x z Q hd t hf k
  cases d with
  | lst xs =>
    simp only [pySortK] at hf
    cases hb : keyed ky xs with
    | none => simp only [hb] at hf; cases hf
    | some ys =>
      simp only [hb] at hf
      split at hf
      · rename_i hz
        cases hf
        obtain ⟨a, vs, rfl, h, r⟩ := t.lst
        obtain ⟨bs, rfl, at', pr⟩ := keyed_rp (hk H Av) r hb
        have nd : (bs.map (·.1)).Nodup := by rw [← paired_keys pr]; exact hz.1
        refine ⟨a, bs, rfl, SqL.of h, at', by rw [← Paired.length pr]; exact hz.2, fun p hp => ?_⟩
        rw [merge_K bs nd]
        exact k _ _ (new_lst (paired_rps (paired_sort pr)) hp)
      · cases hf
  | _ => cases hf
theorem at_pair (H : Hp) (Av : Addr → Prop) (d : D) (k : Pk) (v : V) (h : keyP d = some k) (r : Rp H Av d v) : PairAt X.K H k v := by
  unfold keyP at h
  split at h
  · cases h
    cases r with
    | tup h1 h2 h3 =>
      cases h3 with
      | cons r1 h3 =>
        cases h3 with
        | cons r2 h3 =>
          cases h3
          cases r1
          cases r2
          exact ⟨_, rfl, SqT.of h1⟩
  · cases h
theorem at_row (H : Hp) (Av : Addr → Prop) (d : D) (k : Pk) (v : V) (h : rowK d = some k) (r : Rp H Av d v) : RowAt X.K H k v := by
  unfold rowK at h
  split at h
  · cases r with
    | tup h1 h2 h3 =>
      cases h3 with
      | cons r1 h3 => exact ⟨_, _, _, rfl, SqT.of h1, at_pair H Av _ k _ h r1⟩
  · cases h
/-! ### key= -/
theorem cr_sortRk {x qual y : Str} {st : Stmt} {f : Addr} {fd : FuncData} {k : Nat} (Fu : Fun X.K x qual st f fd) (hb : L2.Binds X.K fd [y] []) (D0 : Key0 st y) (hr : Room (k + 3) X.A) (hu : X.A.units + 64 < cLine) :
    CallRK X (.builtin "sorted") [Str.ofString "key"] (fun xs zs H Q => zs = [.ref f] ∧ rSortPk X.K RowAt xs H Q) := by
  intro pins s σ H xs zs us ws Q I r rz h
  obtain ⟨rfl, a, bs, rfl, hs, at', hz, q⟩ := h
  obtain ⟨its, rv, hl, _⟩ := I.list hs
  rw [Vals.ref1 r, Vals.ref1 rz]
  have ev := each_vals rv
  have hle : PySem.W.dataLe false (fun b : Pk × V => encP b.1) = leK := by
    funext a b
    exact leP_data a.1 b.1
  refine PySem.W.sorted_key_data (b := false) (f := .ref f) (kw := [(Str.ofString "key", .ref f)]) (fun b : Pk × V => encP b.1) hl.isList ev (PySem.W.AllAlike.of fun _ _ => by simp [PySem.W.alike, PySem.W.alikeAll, encP]) (PySem.W.Sortable.tuples fun _ => ⟨_, _, rfl⟩) (le_line hz) (fun b _ => by
    have hd : (encP b.1).depth = 1 := by simp [encP, PyData.depth, PyData.depthAll]
    omega) (ksk_s1 _ _) (fun _ => ksk_l1 _ _) (fun _ => ksk_t1 _ _) (fun v b hR hm h tk kp => ?_) fun out c h' tk kp hn hD hlen eo => ?_
  · have J : Inv X pins σ H { s with heap := h, toks := tk } := I.kept kp
    obtain ⟨p, z, rr, e1, hp, hpr⟩ := at' b hm
    rw [e1] at hR
    cases hR
    obtain ⟨jts, jv, jt, _⟩ := J.tuple hp
    cases jv with
    | @cons _ u0 _ us0 ru jv =>
      refine run_key Fu hb D0 hr.in1.in1 J.kIn J.nolimit jt (u := u0) (by simp) fun h2 tk2 kp2 => ⟨h2, tk2, rfl, kp2, ?_⟩
      exact pair_reads (s := { s with heap := h2, toks := tk2 }) (I.kept fun b o e => kp2 b o (kp b o e)) hpr ru
  · rw [hle] at eo
    have vo := vals_each eo
    have hlen2 : ((bs.mergeSort leK).map (·.2)).length ≤ sizeLine := by rw [List.length_map, List.length_mergeSort]; exact le_line hz
    exact ⟨.ref _, upd H (s.heap.objs.size + 1) (.lst ((bs.mergeSort leK).map (·.2))), I.laid (t' := tk) kp (Nat.le_succ _) ⟨hlen2, out, c, vo, hD⟩, rfl, q _ (I.hok.fresh (Nat.le_succ _))⟩
theorem de_sortP {e : Expr} {fe : M R} {p pos : Pos} (hu : X.A.units + 64 < cLine) (hm : X.mg "sorted" = none) (he : DE X cl A0 W e fe) (hg : Gl X "sorted" := by rfl) (hs : starEach [e] X.env = (false, eval e X.env) :: starEach [] X.env := by rfl) (hpl : (backTo pos (starEach [] X.env)).any (·.1) = false := by rfl) : DE X cl A0 W (.Call (.Name "sorted" p) [e] [] pos) (e1 (pySortK keyP) fe) :=
  de_call1 (cr_sortPk hu) (o_sortK at_pair) hg hm (by decide +kernel) he (by decide) (by decide) hs hpl
theorem de_sortR {e : Expr} {fe : M R} {y fx qual : Str} {st : Stmt} {f : Addr} {fd : FuncData} {k : Nat} {p p2 pk pos : Pos} (Fu : Fun X.K fx qual st f fd) (hb : L2.Binds X.K fd [y] []) (D0 : Key0 st y) (hr : Room (k + 3) X.A) (hu : X.A.units + 64 < cLine) (hm : X.mg "sorted" = none) (hmf : X.mg fx = some (.ref f)) (he : DE X cl A0 W e fe) (hg : Gl X "sorted" := by rfl) (hgf : Gl X fx := by rfl) (hdf : (fx == ("__debug__" : Str)) = false := by decide)
    (h1 : backTo pos (starEach [e] X.env) = (false, eval e X.env) :: backTo pos (starEach [] X.env) := by rfl) (h2 : (backTo pos (starEach [e] X.env)).any (·.1) = false := by rfl) (h0 : starEach [e] X.env = (false, eval e X.env) :: starEach [] X.env := by rfl)
    (h3 : (backToKw pos (keywordEach [⟨some "key", .Name fx p2, pk⟩] X.env)).all (·.1.isSome) = true := by rfl) (h4 : (backToKw pos (keywordEach [⟨some "key", .Name fx p2, pk⟩] X.env)).any (·.1.isNone) = false := by rfl) (h5 : (backToKw pos (keywordEach [⟨some "key", .Name fx p2, pk⟩] X.env)).filterMap (·.1) = [Str.ofString "key"] := by rfl) :
    DE X cl A0 W (.Call (.Name "sorted" p) [e] [⟨some "key", .Name fx p2, pk⟩] pos) (e1 (pySortK rowK) fe) := by
  refine peImp (pe_callBK (cr_sortRk Fu hb D0 hr hu) hg hm (by decide +kernel) (da1 he h0) (pk_cons (pe_glob (v := .ref f) hgf hmf rfl hdf) pk_nil) (by decide) (by decide) h1 h2 h3 h4 h5) fun σV H Q z => ?_
  exact rd_e1 (r := fun x H Q => [V.ref f] = [.ref f] ∧ rSortPk X.K RowAt [x] H Q) (fun H Av d x z Q hd t hf k => ⟨rfl, o_sortK at_row H Av d x z Q hd t hf k⟩) z
end
end DL

/-! DLltp: the order of pairs of texts. -/
namespace DL
open PySem L2
def pyLtP (d e : D) : Option R := match keyP d, keyP e with
  | some p, some q => b2 (ltP p q)
  | _, _ => none
theorem dataLt_ltP (p q : Pk) : PySem.W.dataLt (encP p) (encP q) = ltP p q := by
  have h := leP_data q p
  have h : (!PySem.W.dataLt (encP p) (encP q)) = !ltP p q := h
  cases h1 : PySem.W.dataLt (encP p) (encP q) <;> cases h2 : ltP p q <;> simp_all
section
variable {X : Cx} {cl : Nat → Addr} {A0 : AK} {W : WX}
def rLtP (K : PySem.W.Frag) : R2 := fun x y H Q => ∃ p q : Pk, Dp K H x (encP p) ∧ Dp K H y (encP q) ∧ Q (.bl (ltP p q)) H
theorem or_ltP (hu : X.A.units + 64 < cLine) : OpR X (compareOp .Lt) (rLtP X.K) := by
  intro pins s σ H x y v u Q I rx ry h
  obtain ⟨p, q, hp, hq, k⟩ := h
  obtain ⟨as, r1⟩ := Dp.reads I _ x v hp rx
  obtain ⟨bs, r2⟩ := Dp.reads I _ y u hq ry
  refine PySem.W.lt_data r1 r2 (by simp [encP, PySem.W.alike, PySem.W.alikeAll]) (by simp [encP]) (by simp [encP, PyData.depth, PyData.depthAll]; omega) ⟨.bl _, H, I, rfl, ?_⟩
  rw [dataLt_ltP]
  exact k
theorem keyP_inv {d : D} {p : Pk} (h : keyP d = some p) : d = .tup [.str p.1, .str p.2] := by
  match d, h with
  | .tup [.str a, .str b], h => cases h; rfl
theorem o_ltP : Op2 X.prog X.w pyLtP (rLtP X.K) := by
  intro H Av d e x y z Q hd t u hf k
  unfold pyLtP at hf
  cases h1 : keyP d with
  | none => rw [h1] at hf; cases hf
  | some p =>
    cases h2 : keyP e with
    | none => rw [h1, h2] at hf; cases hf
    | some q =>
      rw [h1, h2] at hf
      cases hf
      have e1 := keyP_inv h1
      have e2 := keyP_inv h2
      subst e1 e2
      exact ⟨p, q, t.dp, u.dp, k _ _ (new_pure (.bl _))⟩
end
end DL

/-! DLdof: dict([(k, v), ..]). -/
namespace DL
open PySem L2
/-! ### plain -/
def pairsD : List D → Option (List (D × D))
  | [] => some []
  | .tup [k, v] :: r => if k.keyOk = true then (pairsD r).map ((k, v) :: ·) else none
  | _ :: _ => none
def putAll (kvs : List (D × D)) : List (D × D) := kvs.foldl (fun acc p => dPut acc p.1 p.2) []
def pyDictOf : D → Option R
  | .lst xs => match pairsD xs with
    | some kvs => if kvs.length ≤ 1000 then some (.own (.dct (putAll kvs))) else none
    | none => none
  | _ => none
abbrev En := Addr × NestedKey × Addr × V
def putE (es : List En) (acc : List (NestedKey × Addr × V)) : List (NestedKey × Addr × V) := es.foldl (fun acc e => putN acc e.2.1 e.2.2.1 e.2.2.2) acc
theorem putN_nodup {xs : List (NestedKey × Addr × V)} {n : NestedKey} {b : Addr} {v : V} (h : (xs.map (·.1)).Nodup) : ((putN xs n b v).map (·.1)).Nodup := by
  unfold putN
  split
  · have e : (xs.map fun x => if x.1 = n then (x.1, x.2.1, v) else x).map (·.1) = xs.map (·.1) := by
      rw [List.map_map]
      refine List.map_congr_left fun x _ => ?_
      show (if x.1 = n then (x.1, x.2.1, v) else x).1 = x.1
      split <;> rfl
    rw [e]; exact h
  · rename_i hn
    rw [List.map_append, List.nodup_append]
    refine ⟨h, by simp, fun a ha c hc => ?_⟩
    have ec : c = n := by simpa using hc
    subst ec
    obtain ⟨x, hx, rfl⟩ := List.mem_map.mp ha
    intro e
    refine hn ?_
    unfold lookN
    rw [Option.isSome_map, List.find?_isSome]
    exact ⟨x, hx, by simpa using e⟩
theorem putE_len : ∀ (es : List En) (acc : List (NestedKey × Addr × V)), (putE es acc).length ≤ acc.length + es.length
  | [], acc => by simp [putE]
  | e :: es, acc => by
    have h1 := putE_len es (putN acc e.2.1 e.2.2.1 e.2.2.2)
    have h2 := putN_len acc e.2.1 e.2.2.1 e.2.2.2
    simp only [putE, List.foldl_cons, List.length_cons] at *
    omega
section
variable {X : Cx} {cl : Nat → Addr} {A0 : AK} {W : WX}
def rDictN (X : Cx) : List V → Hp → VK → Prop := fun xs H Q => ∃ (a : Addr) (es : List En), xs = [.ref a] ∧ SqL X.K H a (es.map fun e => V.ref e.1) ∧ (∀ e ∈ es, SqT X.K H e.1 [.ref e.2.2.1, e.2.2.2] ∧ KeyN X.prog X.w H e.2.1 e.2.2.1) ∧ es.length ≤ 1000 ∧ ∀ p, H p = none → Q (.ref p) (upd H p (dn X.prog X.w p (putE es [])))
theorem ents_of {pins : List (Addr × Obj)} {σ : L2.St} {H : Hp} {s : Shared} (I : Inv X pins σ H s) : ∀ {es : List En}, (∀ e ∈ es, SqT X.K H e.1 [.ref e.2.2.1, e.2.2.2] ∧ KeyN X.prog X.w H e.2.1 e.2.2.1) →
    ∃ prs : List (NestedKey × Addr × Value), Paired (fun (e : En) (q : NestedKey × Addr × Value) => YR e.2 q ∧ PyProof.Rows.IsTup s.heap e.1 #[.ref q.2.1, q.2.2]) es prs
  | [], _ => ⟨[], .nil⟩
  | e :: es, h => by
    obtain ⟨prs, p⟩ := ents_of I fun x hx => h x (List.mem_cons_of_mem _ hx)
    obtain ⟨its, rv, ht, _⟩ := I.tuple (h e List.mem_cons_self).1
    cases rv with
    | cons r1 rv =>
      cases rv with
      | cons r2 rv =>
        cases rv
        cases r1
        exact ⟨(e.2.1, e.2.2.1, _) :: prs, .cons ⟨⟨rfl, rfl, r2⟩, ht⟩ p⟩
theorem putE_of : ∀ {es : List En} {prs : List (NestedKey × Addr × Value)} {acc : List (NestedKey × Addr × V)} {bcc : List (NestedKey × Addr × Value)} {F : En → NestedKey × Addr × Value → Prop}, Paired (fun e q => YR e.2 q ∧ F e q) es prs → Paired YR acc bcc → Paired YR (putE es acc) (storedAllH bcc prs)
  | _, _, _, _, _, .nil, h => h
  | e :: es, q :: prs, acc, bcc, F, .cons h t, p => by
    have e1 : storedH bcc q.1 q.2.1 q.2.2 = storedH bcc e.2.1 e.2.2.1 q.2.2 := by rw [h.1.1, h.1.2.1]
    simp only [putE, storedAllH, List.foldl_cons, e1]
    exact putE_of t (put_of h.1.2.2 p)
theorem call_dictN (hc : X.calm = true) (hu : X.A.units + 65 < cLine) : CallR X (.type "dict") (rDictN X) := by
  intro pins s σ H xs us Q I r h
  obtain ⟨a, es, rfl, hs, hes, hz, q⟩ := h
  obtain ⟨its, rv, hl, _⟩ := I.list hs
  rw [Vals.ref1 r]
  obtain ⟨prs, pr⟩ := ents_of I hes
  have lp : es.length = prs.length := Paired.length pr
  have il : its.length = es.length := by have := rv.length; simpa using this.symm
  obtain ⟨ps, hps⟩ : ∃ ps : List (Value × Value), ps = prs.map fun q => (.ref q.2.1, q.2.2) := ⟨_, rfl⟩
  have psl : ps.length = es.length := by rw [hps, List.length_map, lp]
  have at' : ∀ (j : Nat) k v, ps[j]? = some (k, v) → ∃ e q, es[j]? = some e ∧ prs[j]? = some q ∧ k = .ref q.2.1 ∧ v = q.2.2 ∧ YR e.2 q ∧ PyProof.Rows.IsTup s.heap e.1 #[.ref q.2.1, q.2.2] := by
    intro j k v hj
    rw [hps, List.getElem?_map] at hj
    cases hq : prs[j]? with
    | none => rw [hq] at hj; cases hj
    | some q0 =>
      rw [hq] at hj
      cases hj
      have hlt : j < es.length := by rw [lp]; exact (List.getElem?_eq_some_iff.mp hq).1
      obtain ⟨q1, e1, f1⟩ := Paired.get pr (show es[j]? = some es[j] by simp [hlt])
      rw [hq] at e1
      cases e1
      exact ⟨es[j], q0, by simp [hlt], rfl, rfl, rfl, f1.1, f1.2⟩
  have P := PairArg.list (prog := X.prog) (w := X.w) a its.toArray (fun j => ((es[j]?).map (·.1)).getD 0) ps
  have items : PairItems s.heap its.toArray (fun j => ((es[j]?).map (·.1)).getD 0) ps := by
    refine ⟨by simp [il, psl], fun j k v hj => ?_⟩
    obtain ⟨e, q0, h1, h2, rfl, rfl, h3, h4⟩ := at' j k v hj
    have hv : (es.map fun e => V.ref e.1)[j]? = some (.ref e.1) := by rw [List.getElem?_map, h1]; rfl
    obtain ⟨u, hu1, hu2⟩ := rv.get hv
    cases hu2
    simp only [h1, Option.map_some, Option.getD_some]
    refine ⟨by simpa using hu1, .inl ?_⟩
    obtain ⟨o, b1, b2, n, b3⟩ := h4
    exact ⟨o, b1, b2, n, b3⟩
  have plain : PlainSeq "list" s.heap a its.toArray := by
    obtain ⟨o, n, e1, e2, e3, e4⟩ := hl
    exact ⟨o, n, e1, e2, e3, e4⟩
  refine call_dict_pairsH (knd := nestedKind X.prog X.w) (ps := prs) P (I.ok.hd hc) ?_ ⟨plain, items⟩ ⟨by rw [psl, lp], fun i key v hR => ?_⟩ (fun h' hk x hx => ?_) (by rw [psl]; exact le_line hz) fun h' tk hd' hk => ?_
  · exact roomN (A := X.A.in1) (by show X.A.units + 1 + 64 < cLine; omega)
  · obtain ⟨e, q0, h1, h2, rfl, rfl, _⟩ := at' i key v hR
    exact ⟨q0.1, q0.2.1, h2, rfl⟩
  · obtain ⟨e, he, f⟩ := Paired.mem pr x hx
    have ok' : HOk X.prog X.w H h' := I.hok.kept fun b u e => hk b u (Nat.ne_of_lt (Heap.lt_size e)) (by simp) e
    have k1 := (hes e he).2 h' ok'
    rw [f.1.1, f.1.2.1] at k1
    exact k1
  · have ns : (s.heap.objs.size == sysModules) = false := beq_eq_false_iff_ne.mpr (Nat.ne_of_gt I.big)
    have hlen : (putE es []).length ≤ sizeLine := Nat.le_trans (putE_len es []) (by simpa using le_line hz)
    exact ⟨.ref s.heap.objs.size, upd H s.heap.objs.size (dn X.prog X.w s.heap.objs.size (putE es [])), I.laid (t' := tk) (fun b u e => hk b u (by simp) e) (Nat.le_refl _) (dn_ok hlen ns (putE_of pr .nil) hd'), rfl, q _ (I.hok.fresh (Nat.le_refl _))⟩
theorem pairsD_rp {H : Hp} {Av : Addr → Prop} : ∀ {xs : List D} {vs : List V} {kvs : List (D × D)}, Rps H Av xs vs → pairsD xs = some kvs →
    ∃ es : List En, vs = es.map (fun e => V.ref e.1) ∧ (∀ e ∈ es, SqT X.K H e.1 [.ref e.2.2.1, e.2.2.2] ∧ KeyN X.prog X.w H e.2.1 e.2.2.1) ∧ Paired (fun (p : D × D) (e : En) => e.2.1 = nk p.1 ∧ p.1.keyOk = true ∧ Rp H Av p.1 (.ref e.2.2.1) ∧ Rp H Av p.2 e.2.2.2) kvs es
  | _, _, kvs, .nil, h => by cases h; exact ⟨[], rfl, fun _ h => (nomatch h), .nil⟩
  | d :: ds, v :: vs, kvs, .cons r t, h => by
    unfold pairsD at h
    split at h
    · rename_i e0; cases e0
    · rename_i k w0 r0 e0
      cases e0
      split at h
      · rename_i hk
        cases h2 : pairsD ds with
        | none => rw [h2] at h; cases h
        | some rs =>
          rw [h2] at h
          cases h
          obtain ⟨es, e, a, p⟩ := pairsD_rp t h2
          cases r with
          | tup h1 h2' h3 =>
            cases h3 with
            | cons r1 h3 =>
              cases h3 with
              | cons r2 h3 =>
                cases h3
                obtain ⟨b, rfl, kn⟩ := r1.key (P := X.prog) (w := X.w) hk
                refine ⟨(_, nk k, b, _) :: es, by rw [e]; rfl, fun x hx => ?_, .cons ⟨rfl, hk, r1, r2⟩ p⟩
                rcases List.mem_cons.mp hx with rfl | hx
                · exact ⟨SqT.of h1, kn⟩
                · exact a x hx
      · cases h
    · cases h
theorem putAll_rp {H : Hp} {Av : Addr → Prop} : ∀ {kvs : List (D × D)} {es : List En} {acc : List (D × D)} {xs : List (NestedKey × Addr × V)}, Paired (fun (p : D × D) (e : En) => e.2.1 = nk p.1 ∧ p.1.keyOk = true ∧ Rp H Av p.1 (.ref e.2.2.1) ∧ Rp H Av p.2 e.2.2.2) kvs es → (xs.map (·.1)).Nodup → Rpk H Av acc xs →
    Rpk H Av (kvs.foldl (fun acc p => dPut acc p.1 p.2) acc) (putE es xs)
  | _, _, _, _, .nil, _, h => h
  | p :: kvs, e :: es, acc, xs, .cons h t, nd, r => by
    simp only [List.foldl_cons, putE]
    have := Rpk.put h.2.1 h.2.2.1 h.2.2.2 nd r
    rw [← h.1] at this
    exact putAll_rp t (putN_nodup nd) this
theorem o_dictOf : Op1 X.prog X.w pyDictOf (fun x H Q => rDictN X [x] H Q) := by
  intro H Av d x z Q hd t hf k
  cases d with
  | lst xs =>
    simp only [pyDictOf] at hf
    cases hb : pairsD xs with
    | none => simp only [hb] at hf; cases hf
    | some kvs =>
      simp only [hb] at hf
      split at hf
      · rename_i hz
        cases hf
        obtain ⟨a, vs, rfl, h, r⟩ := t.lst
        obtain ⟨es, rfl, hes, pr⟩ := pairsD_rp r hb
        refine ⟨a, es, rfl, SqL.of h, hes, by rw [← Paired.length pr]; exact hz, fun p hp => k _ _ ⟨upd_new hp, p, rfl, ?_, hp⟩⟩
        have rk := putAll_rp pr (xs := []) (acc := []) (by simp) .nil
        exact .dct upd_same (Paired.imp (fun _ _ z => ⟨z.1, z.2.1, z.2.2.1.shun hp (upd_new hp), z.2.2.2.shun hp (upd_new hp)⟩) rk)
      · cases hf
  | _ => cases hf
theorem de_dictOf {e : Expr} {fe : M R} {p pos : Pos} (hc : X.calm = true) (hu : X.A.units + 65 < cLine) (hm : X.mg "dict" = none) (he : DE X cl A0 W e fe) (hg : Gl X "dict" := by rfl) (hs : starEach [e] X.env = (false, eval e X.env) :: starEach [] X.env := by rfl) (hpl : (backTo pos (starEach [] X.env)).any (·.1) = false := by rfl) : DE X cl A0 W (.Call (.Name "dict" p) [e] [] pos) (e1 pyDictOf fe) :=
  de_callT1 (call_dictN hc hu) o_dictOf hg hm (by decide +kernel) he (by decide) (by decide) hs hpl
end
end DL

/-! DLset: list(range(n)), len(set(ints)), sorted(a tuple of ints), a text in a text. -/
namespace DL
open PySem L2
/-! ### plain -/
def pyListRg : D → Option R
  | .int n => if -1000 ≤ n ∧ n ≤ 1000 then some (.own (.lst ((List.range n.toNat).map fun (k : Nat) => D.int (k : Int)))) else none
  | _ => none
def dedI (ns : List Int) : List Int := ns.foldl PyProof.Rows.step_dedup []
def pyLenSet : D → Option R
  | .lst xs => match intsD xs with
    | some ns => if ns.length ≤ 1000 then some (.pure (.int (dedI ns).length)) else none
    | none => none
  | _ => none
section
variable {X : Cx} {cl : Nat → Addr} {A0 : AK} {W : WX}
theorem de_listRg {e : Expr} {fe : M R} {p p2 pos pos2 : Pos} (hc : X.calm = true) (hm : X.mg "list" = none) (hm2 : X.mg "range" = none) (he : DE X cl A0 W e fe) (hg : Gl X "list" := by rfl) (hg2 : Gl X "range" := by rfl)
    (n1 : starEach [e] X.env = (false, eval e X.env) :: starEach [] X.env := by rfl) (n2 : starEach [.Call (.Name "range" p2) [e] [] pos2] X.env = (false, eval (.Call (.Name "range" p2) [e] [] pos2) X.env) :: starEach [] X.env := by rfl) :
    DE X cl A0 W (.Call (.Name "list" p) [.Call (.Name "range" p2) [e] [] pos2] [] pos) (e1 pyListRg fe) := by
  refine peImp (pe_listRg hc hg hm (prg_1 hg2 hm2 he n1) n2) fun σV H Q z => ?_
  refine rd_e1 (r := fun x H1 Q => ∃ n, x = .int n ∧ RgOk 0 n ∧ ∀ q, H1 q = none → Q (.ref q) (upd H1 q (.lst (rgV 0 n)))) ?_ z
  intro H Av d x z Q hd t hf k
  cases d with
  | int n =>
    simp only [pyListRg] at hf
    split at hf
    · rename_i hz
      cases hf
      refine ⟨n, t.int, ⟨by omega, by omega, by omega, by omega, by omega⟩, fun q hq => ?_⟩
      have e1 : rgV 0 n = ((List.range n.toNat).map fun (k : Nat) => (k : Int)).map V.int := by
        unfold rgV
        rw [Int.sub_zero, List.map_map]
        exact List.map_congr_left fun i _ => by show V.int (0 + (i : Int)) = V.int (i : Int); rw [Int.zero_add]
      have e2 : ((List.range n.toNat).map fun (k : Nat) => D.int (k : Int)) = ((List.range n.toNat).map fun (k : Nat) => (k : Int)).map D.int := by rw [List.map_map]; rfl
      rw [e2] at k
      rw [e1]
      exact k _ _ (new_lst (rps_ints _) hq)
    · cases hf
  | _ => cases hf
theorem met_all (ns : List Int) : PyProof.Rows.firstMet (fun i => ns.getD i 0) ns.length = dedI ns := by
  unfold PyProof.Rows.firstMet dedI
  congr 1
  refine List.ext_getElem (by simp) fun i h1 h2 => ?_
  simp [h2]
def rLenSet (K : PySem.W.Frag) (x : V) (H : Hp) (Q : VK) : Prop := ∃ (l : Addr) (ns : List Int), x = .ref l ∧ SqL K H l (ns.map V.int) ∧ ns.length ≤ 1000 ∧ Q (.int ((dedI ns).length : Nat)) H
theorem ints_vals : ∀ {ns : List Int} {us : List Value}, Vals (ns.map V.int) us → PyProof.Rows.IntsAre us ns
  | [], _, .nil => .nil
  | n :: ns, _, .cons r t => by
    obtain ⟨k, rfl⟩ := r
    exact .cons n k (ints_vals t)
theorem pe_setLen {a : Expr} {ta : TE} {p p2 q pos : Pos} (hc : X.calm = true) (hg : Gl X "len") (hm : X.mg "len" = none) (hg2 : Gl X "set") (hm2 : X.mg "set" = none) (ha : PE X a ta) (na : starEach [a] X.env = (false, eval a X.env) :: starEach [] X.env := by rfl) :
    PE X (.Call (.Name "len" p) [.Call (.Name "set" p2) [a] [] q] [] pos) (fun σ H Q => ta σ H fun x H1 => rLenSet X.K x H1 Q) := by
  refine ⟨fun pins s σ H Q I h => PyProof.Rows.Call_ (ld_blt I hg hm PySem.boot_len (PyProof.Rows.callWith_builtin1 (PyProof.Rows.args_cons (PyProof.Rows.Call_ (ld_blt I hg2 hm2 PyProof.Rows.boot_set (PyProof.Rows.callWith_type1 (PyProof.Rows.args_cons (thn (ha.run pins s σ H _ I h) fun v s1 hv => PyProof.Rows.args_nil ?_) na) na rfl))) rfl) rfl rfl))⟩
  obtain ⟨x, H1, I1, r1, l, ns, rfl, hq, hl, q1⟩ := hv
  cases r1
  obtain ⟨its, r, pl, hz⟩ := I1.list hq
  have hlen : its.toArray.size = ns.length := by rw [List.size_toArray, ← r.length, List.length_map]
  refine call_set_list (I1.ok.hd hc) pl.isList (ns := ns) (by simpa using ints_vals r) (by rw [hlen]; unfold scanBound; omega) fun h' tk hS hk => PyProof.Rows.args_nil ?_
  rw [hlen, met_all] at hS
  obtain ⟨o, es, ep, t, ho, hex, hd, _, _, _, hf, hn⟩ := hS
  have I2 : Inv X pins σ H1 { s1 with heap := h', toks := tk } := I1.kept fun b o e => hk b o (Heap.lt_size e) e
  have dl : (dedI ns).length ≤ ns.length := by rw [← met_all]; exact PyProof.Rows.firstMet_length_le _ _
  exact call_len_set ho hex hd hf (by rw [hn]; omega) ⟨.int (dedI ns).length, H1, I2.tok _, ⟨_, by rw [hn]⟩, q1⟩
theorem de_lenSet {a : Expr} {fa : M R} {p p2 q pos : Pos} (hc : X.calm = true) (hm : X.mg "len" = none) (hm2 : X.mg "set" = none) (ha : DE X cl A0 W a fa) (hg : Gl X "len" := by rfl) (hg2 : Gl X "set" := by rfl) (na : starEach [a] X.env = (false, eval a X.env) :: starEach [] X.env := by rfl) :
    DE X cl A0 W (.Call (.Name "len" p) [.Call (.Name "set" p2) [a] [] q] [] pos) (e1 pyLenSet fa) := by
  refine peImp (pe_setLen hc hg hm hg2 hm2 ha na) fun σV H Q z => rd_e1 (r := rLenSet X.K) ?_ z
  intro H Av d x z Q hd t hf k
  cases d with
  | lst xs =>
    simp only [pyLenSet] at hf
    cases hb : intsD xs with
    | none => simp only [hb] at hf; cases hf
    | some ns =>
      simp only [hb] at hf
      split at hf
      · rename_i hz
        cases hf
        obtain ⟨a, vs, rfl, h, r⟩ := t.lst
        have e := ints_rp r hb
        subst e
        exact ⟨a, ns, rfl, SqL.of h, hz, k _ _ (new_pure (.int _))⟩
      · cases hf
  | _ => cases hf
end
end DL

/-! DLsti: sorted(a tuple of ints); a text in a text. -/
namespace DL
open PySem L2
section
open PyProof.Rows
variable {prog : Program} {w : World} {A : Around} {E : Value → Shared → Prop} {s : Shared}
theorem gather_tup {l : Addr} {vs : List Value} {Q : List Value → Shared → Prop} (hl : s.heap.IsTuple l vs.toArray) (hsz : vs.length ≤ sizeLine)
    (h : Q vs { s with heap := (s.heap.push (seqObj "list" #[] 0)).update s.heap.objs.size (Obj.mapSeq (· ++ vs.toArray)) }) : wpAny (model prog w) A (collect (.ref l)) Q E s := by
  obtain ⟨o, ho, hc, n, hd⟩ := id hl
  unfold collect
  refine wpAny_bind (wpAny_runValue (codeAny_builtin entry_proto_collect' ?_))
  show wpAny _ _ (do again (.builtin "list.__iadd__" ⟨[← newList [], .ref l], []⟩)) _ _ s
  refine wpAny_bind (wpAny_newList (wpAny_pure ⟨Code.quiet_builtin _ (by decide +kernel), codeAny_builtin entry_list_iadd' ?_⟩))
  show wpAny _ _ (Builtin.List.listExtendWith (.ref s.heap.objs.size) (.ref l) (.ref s.heap.objs.size)) _ _ { s with heap := s.heap.push (seqObj "list" #[] 0) }
  unfold Builtin.List.listExtendWith
  have ho1 : (s.heap.push (seqObj "list" #[] 0)).get? l = some o := Heap.get?_push_of_some _ ho
  refine wpAny_bind (wpAny_typeOf (T := "tuple") ⟨o, ho1, hc⟩ ?_)
  have tt : (Value.type "tuple" == Value.type "tuple") = true := rfl
  rw [if_pos (by rw [tt]; simp)]
  refine wpAny_bind (listItems_at ho1 hd (wpAny_bind (listItems_at (xs := #[]) (n := 0) (Heap.get?_push_size _ rfl) rfl ?_)))
  rw [if_neg (by simp)]
  refine wpAny_bind (listUpdate_at (xs := #[]) (n := 0) (Heap.get?_push_size _ rfl) rfl (wpAny_pure ?_) (Nat.zero_le _) (by simp only [Array.size_append, List.size_toArray, List.length_nil]; omega))
  refine wpAny_bind (wpAny_load (get?_update_seq (Heap.get?_push_size _ rfl) _) ?_)
  have ee : ((#[] : Array Value) ++ vs.toArray).toList = vs := by simp
  show wpAny _ _ (pure ((#[] : Array Value) ++ vs.toArray).toList) Q E _
  rw [ee]
  exact wpAny_pure h
theorem sorted_tupI {l : Addr} {vs : List Value} {ns : List Int} {Q : Value → Shared → Prop} (hl : s.heap.IsTuple l vs.toArray) (hI : IntsAre vs ns) (h64 : vs.length < 64)
    (h : ∀ (out : Array Value) (ns' : List Int), IntsAre out.toList ns' → ns'.Perm ns → ns'.Pairwise (· ≤ ·) → Q (.ref (s.heap.objs.size + 1)) { s with heap := sortedAll s.heap vs out }) :
    wpAny (model prog w) A (call (.builtin "sorted") [.ref l]) Q E s := by
  refine Calls.call_function_entry kind_sorted plain_sorted entry_sorted (args_sorted1 _) ?_
  unfold Builtin.«sorted»
  refine wpAny_bind (m := checkCount "sorted" 1 1 _) (wpAny_pure (wpAny_bind (gather_tup hl (small64 h64) (wpAny_bind (wpAny_newList ?_ (small64 h64))))))
  have hsz : ((s.heap.push (seqObj "list" #[] 0)).update s.heap.objs.size (Obj.mapSeq (· ++ vs.toArray))).objs.size = s.heap.objs.size + 1 := by rw [Heap.size_update, size_push']
  have hoL : (((s.heap.push (seqObj "list" #[] 0)).update s.heap.objs.size (Obj.mapSeq (· ++ vs.toArray))).push (seqObj "list" vs.toArray 0)).get? (s.heap.objs.size + 1) = some (seqObj "list" vs.toArray 0) := by rw [← hsz]; exact Heap.get?_push_size _ rfl
  show wpAny _ _ _ _ _ { s with heap := ((s.heap.push (seqObj "list" #[] 0)).update s.heap.objs.size (Obj.mapSeq (· ++ vs.toArray))).push (seqObj "list" vs.toArray 0) }
  rw [hsz]
  exact wpAny_bind (wpAny_holding (wpAny_call_entry slot_list_sort ⟨_, hoL, rfl⟩ entry_list_sort (list_sort_tree hoL hI h64 fun out ns' a1 a2 a3 => ⟨_, rfl, wpAny_pure ⟨_, rfl, h out ns' a1 a2 a3⟩⟩) (args_list_sort _)))
end
def pySortT : D → Option R
  | .lst xs => match intsD xs with
    | some ns => if ns.length < 64 then some (.own (.lst ((sortI ns).map .int))) else none
    | none => none
  | .tup xs => match intsD xs with
    | some ns => if ns.length < 64 then some (.own (.lst ((sortI ns).map .int))) else none
    | none => none
  | _ => none
section
variable {X : Cx} {cl : Nat → Addr} {A0 : AK} {W : WX}
def rSortTu (K : PySem.W.Frag) : List V → Hp → VK → Prop := fun vs H Q => ∃ (a : Addr) (ns : List Int), vs = [V.ref a] ∧ SqT K H a (ns.map V.int) ∧ ns.length < 64 ∧
  ∀ (ns' : List Int) (p : Addr), ns'.Perm ns → ns'.Pairwise (· ≤ ·) → H p = none → Q (.ref p) (upd H p (.lst (ns'.map V.int)))
theorem cr_sortTu : CallR X (.builtin "sorted") (rSortTu X.K) := by
  intro pins s σ H vs us Q I r h
  obtain ⟨a, ns, rfl, hs, h64, q⟩ := h
  obtain ⟨its, rv, hl, _⟩ := I.tuple hs
  rw [Vals.ref1 r]
  have hi := ints_vals rv
  have hlen0 : its.length = ns.length := by have := rv.length; simpa using this.symm
  refine sorted_tupI hl hi (by rw [hlen0]; exact h64) fun out ns' h1 h2 h3 => ?_
  obtain ⟨ep, he'⟩ := PyProof.Rows.sortedAll_at s.heap its out
  have hlen : (ns'.map V.int).length ≤ sizeLine := by rw [List.length_map, h2.length_eq]; exact small64 h64
  exact ⟨.ref _, upd H (s.heap.objs.size + 1) (.lst (ns'.map V.int)), I.laid (t' := s.toks) (fun _ _ => PyProof.Rows.sortedAll_old) (Nat.le_succ _) ⟨hlen, out.toList, ep, vals_of_ints h1, he'⟩, rfl, q ns' _ h2 h3 (I.hok.fresh (Nat.le_succ _))⟩
theorem o_sortT : Op1 X.prog X.w pySortT (fun x H Q => rSorted X.K [x] H Q ∨ rSortTu X.K [x] H Q) := by
  intro H Av d x z Q hd t hf k
  cases d with
  | lst xs => exact .inl (o_sortI H Av (.lst xs) x z Q hd t hf k)
  | tup xs =>
    simp only [pySortT] at hf
    cases hb : intsD xs with
    | none => simp only [hb] at hf; cases hf
    | some ns =>
      simp only [hb] at hf
      split at hf
      · rename_i hz
        cases hf
        obtain ⟨a, vs, rfl, h, r, n⟩ := t.tup
        have e := ints_rp r hb
        subst e
        refine .inr ⟨a, ns, rfl, SqT.of h, hz, fun ns' p hp hs hn => ?_⟩
        rw [sort_one hp hs]
        exact k _ _ (new_lst (rps_ints _) hn)
      · cases hf
  | _ => cases hf
theorem cr_sortT : CallR X (.builtin "sorted") (fun xs H Q => rSorted X.K xs H Q ∨ rSortTu X.K xs H Q) := CallR.or cr_sorted cr_sortTu
/-! ### a text in a written text -/
def occ (t : Tx) (x : Tx) : Bool := !(Builtin.Str.occurrences (tx t) (tx x) 0 (tx t).length 1).isEmpty
def pyInT (neg : Bool) (t : Tx) : D → Option R
  | .str x => b2 (if neg = true then !occ t x else occ t x)
  | _ => none
theorem dt_inT {a : Expr} {fa : M R} {x : Str} {t : Tx} {j pos pos'} (hx : x = tx t) (ha : DE X cl A0 W a fa) (hm : behindInMarks .In (.Constant (.str x) j pos') = false := by rfl) : DT X cl A0 W (.Compare a [.In] [.Constant (.str x) j pos'] pos) (tB (e1 (pyInT false t) fa)) := by
  subst hx
  refine ptImp (pt_cmpR op_in_str ha pe_str hm) fun σV H Q z => rd_e1 (r := fun x H Q => ∃ i j, x = .str i ∧ V.str (tx t) = .str j ∧ Q (.bl (!(Builtin.Str.occurrences j i 0 j.length 1).isEmpty)) H) ?_ (rd_tB z)
  intro H Av d x z Q hd tt hf k
  cases d <;> cases hf
  obtain ⟨rfl, ok⟩ := tt.str
  exact ⟨_, _, rfl, rfl, k _ _ (new_pure (.bl _))⟩
theorem dt_notinT {a : Expr} {fa : M R} {x : Str} {t : Tx} {j pos pos'} (hx : x = tx t) (ha : DE X cl A0 W a fa) (hm : behindInMarks .NotIn (.Constant (.str x) j pos') = false := by rfl) : DT X cl A0 W (.Compare a [.NotIn] [.Constant (.str x) j pos'] pos) (tB (e1 (pyInT true t) fa)) := by
  subst hx
  refine ptImp (pt_cmpR op_notIn_str ha pe_str hm) fun σV H Q z => rd_e1 (r := fun x H Q => ∃ i j, x = .str i ∧ V.str (tx t) = .str j ∧ Q (.bl (!(!(Builtin.Str.occurrences j i 0 j.length 1).isEmpty))) H) ?_ (rd_tB z)
  intro H Av d x z Q hd tt hf k
  cases d <;> cases hf
  obtain ⟨rfl, ok⟩ := tt.str
  exact ⟨_, _, rfl, rfl, k _ _ (new_pure (.bl _))⟩
end
end DL

/-! DLint: int(bool). -/
namespace DL
open PySem L2
def pyIntB : D → Option R
  | .bl b => some (.pure (.int (if b then 1 else 0)))
  | _ => none
section
variable {X : Cx} {cl : Nat → Addr} {A0 : AK} {W : WX}
theorem call_intB : CallR X (.type "int") (fun xs H Q => ∃ b, xs = [.bl b] ∧ Q (.int (if b then 1 else 0)) H) := by
  intro pins s σ H xs us Q I rs h
  obtain ⟨b, rfl, q⟩ := h
  cases rs with
  | cons r1 rs =>
    cases rs
    obtain rfl := r1
    exact call_int_bool ⟨.int (if b then 1 else 0), H, I.tok _, ⟨_, rfl⟩, q⟩
theorem o_intB : Op1 X.prog X.w pyIntB (fun x H Q => ∃ b, [x] = [.bl b] ∧ Q (.int (if b then 1 else 0)) H) := by
  intro H Av d x z Q hd t hf k
  cases d <;> cases hf
  rw [t.bl]
  exact ⟨_, rfl, k _ _ (new_pure (.int _))⟩
end
end DL

/-! DLsor: sorted(a list of alike data), min and max of such a list. -/
namespace DL
open PySem L2 PyProof.Rows
/-! ### plain -/
mutual
def simD : D → D → Bool
  | .int _, .int _ => true
  | .str _, .str _ => true
  | .tup a, .tup b => simDs a b
  | _, _ => false
def simDs : List D → List D → Bool
  | x :: xs, y :: ys => simD x y && simDs xs ys
  | _, _ => true
end
mutual
def ltD : D → D → Bool
  | .int a, .int b => decide (a < b)
  | .str a, .str b => decide (a < b)
  | .tup a, .tup b => ltDs a b
  | _, _ => false
def ltDs : List D → List D → Bool
  | x :: xs, y :: ys => if x.eqv y = true then ltDs xs ys else ltD x y
  | [], _ :: _ => true
  | _, [] => false
end
def leD (a b : D) : Bool := !PySem.W.dataLt (py b) (py a)
def tupNE : D → Bool
  | .tup (_ :: _) => true
  | _ => false
def atomD : D → Bool
  | .int _ => true
  | .str _ => true
  | _ => false
def sortOk (xs : List D) : Prop := xs.length ≤ 1000 ∧ (∀ a ∈ xs, ∀ b ∈ xs, simD a b = true) ∧ ((∀ a ∈ xs, tupNE a = true) ∨ (∀ a ∈ xs, atomD a = true)) ∧ ∀ a ∈ xs, a.dep ≤ 8
instance (xs : List D) : Decidable (sortOk xs) := by unfold sortOk; exact inferInstance
def pySortD : D → Option R
  | .lst xs => if sortOk xs then some (.own (.lst (xs.mergeSort leD))) else none
  | _ => none
/-! ### the order of the data -/
mutual
theorem sim_py : ∀ a b : D, simD a b = true → PySem.W.alike (py a) (py b) = true ∧ PySem.W.dataLt (py a) (py b) = ltD a b
  | .non, b, h => by cases b <;> simp [simD] at h
  | .bl _, b, h => by cases b <;> simp [simD] at h
  | .lst _, b, h => by cases b <;> simp [simD] at h
  | .int x, b, h => by
    cases b with
    | int y => exact ⟨by simp [py, PySem.W.alike], by simp only [py, ltD]; exact PySem.W.dataLt_int x y⟩
    | _ => simp [simD] at h
  | .str x, b, h => by
    cases b with
    | str y => exact ⟨by simp [py, PySem.W.alike], by simp only [py, ltD]; rw [PySem.W.dataLt_str, tx_get, tx_get]⟩
    | _ => simp [simD] at h
  | .tup x, b, h => by
    cases b with
    | tup y =>
      have := sims_py x y (by simpa [simD] using h)
      exact ⟨by simp only [py, PySem.W.alike]; exact this.1, by simp only [py, ltD]; rw [PySem.W.dataLt_tuple]; exact this.2⟩
    | _ => simp [simD] at h
theorem sims_py : ∀ a b : List D, simDs a b = true → PySem.W.alikeAll (pys a) (pys b) = true ∧ PyProof.Rows.lexLt PyProof.Rows.itemOrd (PySem.W.keyToksAll (pys a)) (PySem.W.keyToksAll (pys b)) = ltDs a b
  | [], [], _ => ⟨by simp [pys, PySem.W.alikeAll], by simp only [pys, ltDs]; decide +kernel⟩
  | [], y :: ys, _ => ⟨by simp [pys, PySem.W.alikeAll], by
    simp only [pys, ltDs, PySem.W.keyToksAll]
    rw [PyProof.Rows.lex_diff (O := PyProof.Rows.itemOrd) (by simp)]
    decide +kernel⟩
  | x :: xs, [], _ => ⟨by simp [pys, PySem.W.alikeAll], by
    simp only [pys, ltDs, PySem.W.keyToksAll]
    rw [PyProof.Rows.lex_diff (O := PyProof.Rows.itemOrd) (by simp)]
    decide +kernel⟩
  | x :: xs, y :: ys, h => by
    simp only [simDs, Bool.and_eq_true] at h
    have h1 := sim_py x y h.1
    have h2 := sims_py xs ys h.2
    refine ⟨by simp [pys, PySem.W.alikeAll, h1.1, h2.1], ?_⟩
    simp only [pys, ltDs]
    rw [PySem.W.dataLt_cons h1.1, eqv_py, h2.2, h1.2]
end

theorem leD_sim {a b : D} (h : simD b a = true) : leD a b = !ltD b a := by unfold leD; rw [(sim_py b a h).2]
section
variable {X : Cx} {cl : Nat → Addr} {A0 : AK} {W : WX}
theorem each_vals' {β : Type} {g : β → V} : ∀ {bs : List β} {us : List Value}, Vals (bs.map g) us → PySem.W.EachIs (fun u b => RelV (g b) u) us bs
  | [], _, .nil => .nil
  | b :: bs, _, .cons r t => .cons r (each_vals' t)
theorem vals_each' {β : Type} {g : β → V} : ∀ {bs : List β} {us : List Value}, PySem.W.EachIs (fun u b => RelV (g b) u) us bs → Vals (bs.map g) us
  | [], _, .nil => .nil
  | b :: bs, _, .cons r t => .cons r (vals_each' t)
def leB (a b : D × V) : Bool := leD a.1 b.1
def rSortD (K : PySem.W.Frag) : List V → Hp → VK → Prop := fun xs H Q => ∃ (a : Addr) (bs : List (D × V)), xs = [.ref a] ∧ SqL K H a (bs.map (·.2)) ∧ (∀ b ∈ bs, Dp K H b.2 (py b.1)) ∧ sortOk (bs.map (·.1)) ∧ ∀ p, H p = none → Q (.ref p) (upd H p (.lst ((bs.mergeSort leB).map (·.2))))
theorem sort_alike {bs : List (D × V)} (h : sortOk (bs.map (·.1))) : PySem.W.AllAlike (bs.map fun b => py b.1) := by
  intro d hd d' hd'
  obtain ⟨b, hb, rfl⟩ := List.mem_map.mp hd
  obtain ⟨b', hb', rfl⟩ := List.mem_map.mp hd'
  exact (sim_py _ _ (h.2.1 _ (List.mem_map.mpr ⟨b, hb, rfl⟩) _ (List.mem_map.mpr ⟨b', hb', rfl⟩))).1
theorem sort_able {bs : List (D × V)} (h : sortOk (bs.map (·.1))) : PySem.W.Sortable (bs.map fun b => py b.1) := by
  rcases h.2.2.1 with h | h
  · refine .inl fun d hd => ?_
    obtain ⟨b, hb, rfl⟩ := List.mem_map.mp hd
    have := h _ (List.mem_map.mpr ⟨b, hb, rfl⟩)
    unfold tupNE at this
    split at this
    · rename_i x r e
      rw [e]
      exact ⟨py x, pys r, by simp [py, pys]⟩
    · cases this
  · refine .inr fun d hd => ?_
    obtain ⟨b, hb, rfl⟩ := List.mem_map.mp hd
    have := h _ (List.mem_map.mpr ⟨b, hb, rfl⟩)
    unfold atomD at this
    split at this
    · rename_i e; rw [e]; simp [py]
    · rename_i e; rw [e]; simp [py]
    · cases this
theorem each_reads {pins : List (Addr × Obj)} {σ : L2.St} {H : Hp} {s : Shared} (I : Inv X pins σ H s) {bs : List (D × V)} (hd : ∀ b ∈ bs, Dp X.K H b.2 (py b.1)) : ∀ {us : List Value} {l : List (D × V)}, (∀ b ∈ l, b ∈ bs) → PySem.W.EachIs (fun u b => RelV b.2 u) us l → PySem.W.EachIs (fun u b => ∃ as, Reads s.heap u (py b.1) as) us l := by
  intro us l hm e
  induction e with
  | nil => exact .nil
  | cons r t ih => exact .cons (Dp.reads I _ _ _ (hd _ (hm _ List.mem_cons_self)) r) (ih fun b hb => hm b (List.mem_cons_of_mem _ hb))
theorem cr_sortD (hu : X.A.units + 64 < cLine) : CallR X (.builtin "sorted") (rSortD X.K) := by
  intro pins s σ H xs us Q I r h
  obtain ⟨a, bs, rfl, hs, hd, so, q⟩ := h
  obtain ⟨its, rv, hl, _⟩ := I.list hs
  rw [Vals.ref1 r]
  have ev := each_vals' (g := fun b : D × V => b.2) rv
  have hz : bs.length ≤ 1000 := by have := so.1; simpa using this
  refine PySem.W.sorted_data (enc := fun b : D × V => py b.1) hl.isList ev (each_reads I hd (fun b hb => hb) ev) (sort_alike so) (sort_able so) (le_line hz) (fun b hb => by
    have hd : (py b.1).depth ≤ 8 := by rw [dep_py]; exact so.2.2.2 _ (List.mem_map.mpr ⟨b, hb, rfl⟩)
    omega) fun out hlen eo => ?_
  have eo : PySem.W.EachIs (fun u (b : D × V) => RelV b.2 u) out (bs.mergeSort leB) := eo
  obtain ⟨ep, he'⟩ := PyProof.Rows.sortedAll_at s.heap its out.toArray
  have vo := vals_each' (g := fun b : D × V => b.2) eo
  have hlen2 : ((bs.mergeSort leB).map (·.2)).length ≤ sizeLine := by rw [List.length_map, List.length_mergeSort]; exact le_line hz
  exact ⟨.ref _, upd H (s.heap.objs.size + 1) (.lst ((bs.mergeSort leB).map (·.2))), I.laid (t' := s.toks) (fun _ _ => PyProof.Rows.sortedAll_old) (Nat.le_succ _) ⟨hlen2, out, ep, vo, he'⟩, rfl, q _ (I.hok.fresh (Nat.le_succ _))⟩
theorem zip_rps {H : Hp} {Av : Addr → Prop} : ∀ {ds : List D} {vs : List V}, Rps H Av ds vs → ∃ bs : List (D × V), bs.map (·.1) = ds ∧ bs.map (·.2) = vs ∧ ∀ b ∈ bs, Rp H Av b.1 b.2
  | _, _, .nil => ⟨[], rfl, rfl, fun _ h => nomatch h⟩
  | d :: _, v :: _, .cons r t => by
    obtain ⟨bs, h1, h2, h3⟩ := zip_rps t
    refine ⟨(d, v) :: bs, by rw [← h1]; rfl, by rw [← h2]; rfl, fun b hb => ?_⟩
    rcases List.mem_cons.mp hb with rfl | hb
    · exact r
    · exact h3 b hb
theorem rps_zip {H : Hp} {Av : Addr → Prop} : ∀ {bs : List (D × V)}, (∀ b ∈ bs, Rp H Av b.1 b.2) → Rps H Av (bs.map (·.1)) (bs.map (·.2))
  | [], _ => .nil
  | b :: bs, h => .cons (h b List.mem_cons_self) (rps_zip fun x hx => h x (List.mem_cons_of_mem _ hx))
theorem sort_fst (bs : List (D × V)) : (bs.mergeSort leB).map (·.1) = (bs.map (·.1)).mergeSort leD := List.map_mergeSort fun _ _ _ _ => rfl
theorem o_sortD : Op1 X.prog X.w pySortD (fun x H Q => rSortD X.K [x] H Q) := by
  intro H Av d x z Q hd t hf k
  cases d with
  | lst xs =>
    simp only [pySortD] at hf
    split at hf
    · rename_i hz
      cases hf
      obtain ⟨a, vs, rfl, h, r⟩ := t.lst
      obtain ⟨bs, rfl, rfl, hr⟩ := zip_rps r
      refine ⟨a, bs, rfl, SqL.of h, fun b hb => (hr b hb).dp, hz, fun p hp => ?_⟩
      have := rps_zip (bs := bs.mergeSort leB) fun b hb => hr b (List.mem_mergeSort.mp hb)
      rw [sort_fst] at this
      exact k _ _ (new_lst this hp)
    · cases hf
  | _ => cases hf
theorem de_sortD {e : Expr} {fe : M R} {p pos : Pos} (hu : X.A.units + 64 < cLine) (hm : X.mg "sorted" = none) (he : DE X cl A0 W e fe) (hg : Gl X "sorted" := by rfl) (hs : starEach [e] X.env = (false, eval e X.env) :: starEach [] X.env := by rfl) (hpl : (backTo pos (starEach [] X.env)).any (·.1) = false := by rfl) : DE X cl A0 W (.Call (.Name "sorted" p) [e] [] pos) (e1 pySortD fe) :=
  de_call1 (cr_sortD hu) o_sortD hg hm (by decide +kernel) he (by decide) (by decide) hs hpl

/-! ### sorted(a dict): its keys -/
theorem kdl_raw {prog : Program} {w : World} {d : Addr} {o : Obj} {es : Array DictEntry} {ep : Nat} (lo : (d == sysModules) = false) (hx : o.ExactDict) (hdt : o.data = .dict es ep) :
    PySem.W.KdlSrc prog w "dict" d d es.size (fun i v => ∃ en : DictEntry, es[i]? = some en ∧ en.key = v) (fun h => h.get? d = some o) where
  type := fun _ h => ⟨o, h, hx.1⟩
  there := fun _ h => ⟨Heap.lt_size h, Heap.lt_size h⟩
  keep := fun _ _ h hk => hk d (.inl rfl) o h
  notList := by decide
  notTuple := by decide
  hint := fun _ _ _ _ h hq => PySem.W.kdl_hint_dict ⟨o, h, hx.1⟩ hq
  iter := fun A s hh h => ⟨_, fun i h' => h'.IsKeyIter s.heap.objs.size d i es.size ep ∧ h'.get? d = some o, fun _ _ hq => iter_keys lo h hx hdt hq, {
    sub := fun b hb => by simp at hb; simp [hb]
    frame := fun _ _ _ st hk => ⟨st.1.at fun o e => hk _ (by simp) o e, hk d (by simp) o st.2⟩
    item := fun i s' Q E hi st hQ => by
      obtain ⟨en, hen⟩ : ∃ en, es[i]? = some en := ⟨es[i], by simp [hi]⟩
      refine next_key_item st.1 st.2 hdt rfl hen fun h' hit' hs' => ?_
      exact hQ en.key h' s'.toks ⟨en, hen, rfl⟩ ⟨hit', hs'.extBut d o (Nat.ne_of_lt (Heap.lt_size h)) st.2⟩ fun b o hb e => hs'.extBut b o (fun h => hb (by simp [h])) e
    done := fun s' Q E st hQ => next_key_end hh st.1 st.2 hdt rfl (Nat.le_refl _) fun h' he' => hQ h' s'.toks fun b o hb e => he' b o (fun h => hb (by simp [h])) e
    self := fun _ _ _ _ st hQ => wpAny_pyIter_keyiter st.1 hQ }, ⟨⟨_, Heap.get?_push_size _ rfl, rfl, rfl⟩, Heap.get?_push_of_some _ h⟩⟩
theorem vals_at : ∀ {us : List Value} {vs : List V}, us.length = vs.length → (∀ (j : Nat) (u : Value), us[j]? = some u → ∃ v, vs[j]? = some v ∧ RelV v u) → Vals vs us
  | [], [], _, _ => .nil
  | u :: us, v :: vs, hl, h => by
    obtain ⟨v', e1, e2⟩ := h 0 u rfl
    have e1' : v = v' := Option.some.inj e1
    subst e1'
    exact .cons e2 (vals_at (by simpa using hl) fun j u e => by simpa using h (j + 1) u (by simpa using e))
  | [], _ :: _, hl, _ => by simp at hl
  | _ :: _, [], hl, _ => by simp at hl
theorem sorted_src {pins : List (Addr × Obj)} {σ : L2.St} {H : Hp} {s : Shared} {T : String} {r d : Addr} {n : Nat} {P : Nat → Value → Prop} {OK : Heap → Prop} {Q : VK} (hc : X.calm = true) (hu : X.A.units + 64 < cLine) (I : Inv X pins σ H s) (K : PySem.W.KdlSrc X.prog X.w T r d n P OK) (hok : OK s.heap)
    {bs : List (D × V)} (hn : n = bs.length) (hv : ∀ (j : Nat) (u : Value), P j u → ∃ b, bs[j]? = some b ∧ RelV b.2 u) (hd : ∀ b ∈ bs, Dp X.K H b.2 (py b.1)) (so : sortOk (bs.map (·.1)))
    (q : ∀ p, H p = none → Q (.ref p) (upd H p (.lst ((bs.mergeSort leB).map (·.2))))) :
    wpAny (model X.prog X.w) X.A (call (.builtin "sorted") [.ref r]) (fun v s' => ∃ x H', Inv X pins σ H' s' ∧ RelV x v ∧ Q x H') X.xe s := by
  have hz : bs.length ≤ 1000 := by have := so.1; simpa using this
  refine Calls.call_function_entry PyProof.Rows.kind_sorted PyProof.Rows.plain_sorted PyProof.Rows.entry_sorted (PyProof.Rows.args_sorted1 _) ?_
  unfold Builtin.«sorted»
  refine wpAny_bind (m := checkCount "sorted" 1 1 _) (wpAny_pure ?_)
  refine wpAny_bind (PySem.W.kdu_collect (A := X.A.in1) K (I.ok.hd hc) hok (by rw [hn]; exact le_line hz) fun h' tk acc hk hacc => ?_)
  have hal : acc.toList.length = bs.length := by rw [Array.length_toList, hacc.1, hn]
  have hV : Vals (bs.map (·.2)) acc.toList := vals_at (by simpa using hal) fun j u e => by
    obtain ⟨b, e1, e2⟩ := hv j u (hacc.2 j u (by rw [← Array.getElem?_toList]; exact e))
    exact ⟨b.2, by rw [List.getElem?_map, e1]; rfl, e2⟩
  have I1 : Inv X pins σ H { s with heap := h', toks := tk } := I.kept hk
  have ev := each_vals' (g := fun b : D × V => b.2) hV
  have er0 := each_reads I1 hd (fun b hb => hb) ev
  have lz : acc.toList.length ≤ sizeLine := by rw [hal]; exact le_line hz
  refine wpAny_bind (wpAny_newList ?_ lz)
  have hoL : (h'.push (seqObj "list" acc.toList.toArray 0)).get? h'.objs.size = some (seqObj "list" acc.toList.toArray 0) := Heap.get?_push_size _ rfl
  show wpAny _ _ _ _ _ { s with heap := h'.push (seqObj "list" acc.toList.toArray 0), toks := tk }
  have er' : PySem.W.EachIs (fun v (b : D × V) => ∃ as, Reads (PySem.W.sortingHeap (h'.push (seqObj "list" acc.toList.toArray 0)) h'.objs.size acc.toList) v (py b.1) as) acc.toList bs :=
    er0.mono fun _ _ ⟨as, r⟩ => ⟨as, PyProof.Rows.Reads.keeps (fun b o e => PySem.W.sortingHeap_old (Nat.ne_of_lt (Heap.lt_size e)) (Heap.get?_push_of_some _ e)) r⟩
  refine wpAny_bind (wpAny_holding (wpAny_call_entry PyProof.Rows.slot_list_sort ⟨_, hoL, rfl⟩ PyProof.Rows.entry_list_sort
    (PySem.W.list_sort_vals (κ := PySem.W.dataKind (PySem.W.sortingHeap (h'.push (seqObj "list" acc.toList.toArray 0)) h'.objs.size acc.toList) (bs.map fun b => py b.1)) (s := { s with heap := h'.push (seqObj "list" acc.toList.toArray 0), toks := tk }) hoL
      (PySem.W.SortsAt.data (s := { s with heap := PySem.W.sortingHeap (h'.push (seqObj "list" acc.toList.toArray 0)) h'.objs.size acc.toList, toks := tk }) (PySem.W.each_map (R := fun v d => ∃ as, Reads (PySem.W.sortingHeap (h'.push (seqObj "list" acc.toList.toArray 0)) h'.objs.size acc.toList) v d as) (fun b : D × V => py b.1) er') (sort_alike so) (sort_able so) (PySem.W.bound_map fun b hb => by
        have hd : (py b.1).depth ≤ 8 := by rw [dep_py]; exact so.2.2.2 _ (List.mem_map.mpr ⟨b, hb, rfl⟩)
        show X.A.units + 1 + 1 + _ < cLine
        omega)) lz ⟨_, rfl, ?_⟩)
    (PyProof.Rows.args_list_sort _)))
  have eo : PySem.W.EachIs (fun u (b : D × V) => RelV b.2 u) _ (bs.mergeSort leB) := PySem.W.sortVals_data false ev er' (sort_alike so)
  generalize PySem.W.sortVals _ _ _ _ = out at eo
  obtain ⟨e', he'⟩ := PyProof.Rows.sortedHeap_at (vs := acc.toList) (out := out.toArray) hoL
  have vo := vals_each' (g := fun b : D × V => b.2) eo
  have hlen2 : ((bs.mergeSort leB).map (·.2)).length ≤ sizeLine := by rw [List.length_map, List.length_mergeSort]; exact le_line hz
  refine wpAny_pure ⟨_, rfl, .ref h'.objs.size, upd H h'.objs.size (.lst ((bs.mergeSort leB).map (·.2))), I1.laid (t' := tk) (fun b u e => ?_) (Nat.le_refl _)
    (show ObjOk X.prog X.w _ _ _ (.lst ((bs.mergeSort leB).map (·.2))) from ⟨hlen2, out, e', vo, he'⟩), rfl, q _ (I1.hok.fresh (Nat.le_refl _))⟩
  have hb : b < h'.objs.size := Heap.lt_size e
  rw [PyProof.Rows.sortedHeap_old (Nat.ne_of_lt hb) (by rw [size_push']; exact Nat.lt_succ_of_lt hb)]
  exact Heap.get?_push_of_some _ e
end
end DL

/-! DLsok: sorted(a dict). -/
namespace DL
open PySem L2
def eSortK (a : M R) : M R := mbind a fun r σ => match asKv r σ with
  | some (.dct kvs) => if sortOk (kvs.map (·.1)) then .ok (.own (.lst ((kvs.map (·.1)).mergeSort leD))) σ else .fail
  | some (.dcs kvs) => if sortOk (kvs.map (·.1)) then .ok (.own (.lst ((kvs.map (·.1)).mergeSort leD))) σ else .fail
  | _ => .fail
section
variable {X : Cx} {cl : Nat → Addr} {A0 : AK} {W : WX}

def rSortK (X : Cx) (x : V) (H : Hp) (Q : VK) : Prop := ∃ (a : Addr) (bs : List (D × V)), x = .ref a ∧ ((∃ xs : List (NestedKey × Addr × V), Rd H a (dn X.prog X.w a xs) ∧ bs.map (·.2) = xs.map fun y => V.ref y.2.1) ∨ ∃ xs : List (Key × V), Rd H a (.dK xs) ∧ bs.map (·.2) = xs.map fun y => kV y.1) ∧
  (∀ b ∈ bs, Dp X.K H b.2 (py b.1)) ∧ sortOk (bs.map (·.1)) ∧ ∀ p, H p = none → Q (.ref p) (upd H p (.lst ((bs.mergeSort leB).map (·.2))))
theorem get_map2 {α β γ : Type} {f : α → γ} {g : β → γ} {l : List α} {m : List β} (h : l.map f = m.map g) {j : Nat} {b : β} (hb : m[j]? = some b) : ∃ a, l[j]? = some a ∧ f a = g b := by
  have e : (l.map f)[j]? = (m.map g)[j]? := by rw [h]
  rw [List.getElem?_map, List.getElem?_map, hb] at e
  cases ha : l[j]? with
  | none => rw [ha] at e; cases e
  | some a => rw [ha] at e; exact ⟨a, rfl, Option.some.inj e⟩
theorem cr_sortK (hc : X.calm = true) (hu : X.A.units + 64 < cLine) : CallR X (.builtin "sorted") (fun xs H Q => ∃ x, xs = [x] ∧ rSortK X x H Q) := by
  intro pins s σ H xs us Q I r h
  obtain ⟨x, rfl, a, bs, rfl, hd, dp, so, q⟩ := h
  rw [Vals.ref1 r]
  have hz : bs.length ≤ 1000 := by have := so.1; simpa using this
  rcases hd with ⟨xs, hd, e⟩ | ⟨xs, hd, e⟩
  · obtain ⟨⟨z, ns, ys, pr, o, es, ep, h1, h2, h3, h4, h5⟩, _⟩ := hd.ok I.hok
    have l1 : es.size = ys.length := size_of_entries h4
    have l2 : xs.length = ys.length := Paired.length pr
    have l3 : bs.length = xs.length := by have := congrArg List.length e; simpa using this
    refine sorted_src hc hu I (kdl_raw ns h2 h3) h1 (by omega) (fun j u hP => ?_) dp so q
    obtain ⟨en, hen, rfl⟩ := hP
    have hj : j < ys.length := by
      have := Array.getElem?_eq_some_iff.mp hen
      obtain ⟨h, _⟩ := this
      omega
    obtain ⟨p, hp⟩ : ∃ p, xs[j]? = some p := ⟨xs[j], List.getElem?_eq_getElem (by omega)⟩
    obtain ⟨y', hy', e1, e2, _⟩ := paired_get pr hp
    have hent := entry_at h4 j
    rw [hy', hen] at hent
    have hent := Option.some.inj hent
    obtain ⟨b, hb, eb⟩ := get_map2 e hp
    refine ⟨b, hb, ?_⟩
    rw [eb, hent]
    show Value.ref y'.2.1 = Value.ref p.2.1
    rw [e2]
  · obtain ⟨z, lo, vs, rel, dd⟩ := dk_rd I.hok hd
    obtain ⟨ep, hat⟩ := dd.dictAt
    have l3 : bs.length = xs.length := by have := congrArg List.length e; simpa using this
    have l4 : xs.length = vs.length := rel.length
    refine sorted_src hc hu I (PySem.W.kdl_dict (knd := mixKind X.prog X.w) (kvs := vs) (ep := ep) lo) hat (by omega) (fun j u hP => ?_) dp so q
    obtain ⟨k, x, e1, e2⟩ := hP
    have ek : xs.map (·.1) = vs.map (·.1) := rel.keys
    obtain ⟨p, hp, ep'⟩ := get_map2 ek e1
    obtain ⟨b, hb, eb⟩ := get_map2 e hp
    refine ⟨b, hb, ?_⟩
    rw [eb, ep']
    rcases keyIs_shape e2 with ⟨i, t, ek, ev⟩ | ⟨z, t, ek, ev⟩
    · dsimp only at ek ⊢; subst ek; exact ⟨t, ev⟩
    · dsimp only at ek ⊢; subst ek; exact ⟨t, ev⟩
theorem rpk_rps {H : Hp} {Av : Addr → Prop} : ∀ {kvs : List (D × D)} {xs : List (NestedKey × Addr × V)}, Rpk H Av kvs xs → Rps H Av (kvs.map (·.1)) (xs.map fun y => V.ref y.2.1)
  | _, _, .nil => .nil
  | _, _, .cons h t => .cons h.2.2.1 (rpk_rps t)
theorem rpt_rps {H : Hp} {Av : Addr → Prop} : ∀ {kvs : List (D × D)} {xs : List (Key × V)}, Rpt H Av kvs xs → Rps H Av (kvs.map (·.1)) (xs.map fun y => kV y.1)
  | _, _, .nil => .nil
  | (_, _) :: _, (_, _) :: _, .cons ⟨⟨s, e1, e2, e3⟩, _⟩ t => by
    dsimp only at e1 e3
    subst e1 e3
    exact .cons (.str s e2) (rpt_rps t)
theorem TopK.dcs {H : Hp} {Av : Addr → Prop} {kvs : List (D × D)} {v : V} (t : TopK X.prog X.w H Av (.dcs kvs) v) : ∃ a xs, v = .ref a ∧ Rd H a (.dK xs) ∧ Rpt H Av kvs xs := by
  rcases t with t | ⟨a, l, rfl, o⟩
  · cases t with
    | dcs h n r => exact ⟨_, _, rfl, .inr ⟨_, h⟩, r⟩
  · cases o with
    | dcs h r => exact ⟨_, _, rfl, .inl h, r⟩
theorem rd_sortK {fa : M R} {σV : St} {H : Hp} {Q : VK} (z : (rdE X.prog X.w cl A0 W) (eSortK fa) σV H Q) : (rdE X.prog X.w cl A0 W) fa σV H fun x H1 => ∃ y, [x] = [y] ∧ rSortK X y H1 Q := by
  obtain ⟨σ, Av, ow, rs, g⟩ := z
  refine gBind rs.dom rs Stp.refl g fun r1 σ1 x H1 Av1 ow1 rs1 _ s1 q1 g1 => ?_
  have fin : ∀ (kvs : List (D × D)) (vs : List V), Rps H1 Av1 (kvs.map (·.1)) vs → sortOk (kvs.map (·.1)) → (∀ v H', NewR X.prog X.w H1 H' Av1 (.own (.lst ((kvs.map (·.1)).mergeSort leD))) v → Q v H') → ∃ bs : List (D × V), bs.map (·.2) = vs ∧ (∀ b ∈ bs, Dp X.K H1 b.2 (py b.1)) ∧ sortOk (bs.map (·.1)) ∧ ∀ p, H1 p = none → Q (.ref p) (upd H1 p (.lst ((bs.mergeSort leB).map (·.2)))) := by
    intro kvs vs r so k
    obtain ⟨bs, e1, e2, hr⟩ := zip_rps r
    refine ⟨bs, e2, fun b hb => (hr b hb).dp, by rw [e1]; exact so, fun p hp => ?_⟩
    have := rps_zip (bs := bs.mergeSort leB) fun b hb => hr b (List.mem_mergeSort.mp hb)
    rw [sort_fst, e1] at this
    exact k _ _ (new_lst this hp)
  cases h1 : asKv r1 σ1 with
  | none => simp only [h1] at g1; exact g1.elim
  | some ob =>
    cases ob with
    | dct kvs =>
      simp only [h1] at g1
      by_cases so : sortOk (kvs.map (·.1))
      · rw [if_pos so] at g1
        obtain ⟨a, xs, rfl, hd, rk⟩ := TopK.dct (asKv_ok rs1 q1 h1)
        obtain ⟨bs, h2, h3, h4, h5⟩ := fin kvs _ (rpk_rps rk) so fun v H' n => gEnd rs.dom rs1 s1 g1 n
        exact ⟨_, rfl, a, bs, rfl, .inl ⟨xs, hd, h2⟩, h3, h4, h5⟩
      · rw [if_neg so] at g1; exact g1.elim
    | dcs kvs =>
      simp only [h1] at g1
      by_cases so : sortOk (kvs.map (·.1))
      · rw [if_pos so] at g1
        obtain ⟨a, xs, rfl, hd, rk⟩ := TopK.dcs (asKv_ok rs1 q1 h1)
        obtain ⟨bs, h2, h3, h4, h5⟩ := fin kvs _ (rpt_rps rk) so fun v H' n => gEnd rs.dom rs1 s1 g1 n
        exact ⟨_, rfl, a, bs, rfl, .inr ⟨xs, hd, h2⟩, h3, h4, h5⟩
      · rw [if_neg so] at g1; exact g1.elim
    | lst xs => simp only [h1] at g1; exact g1.elim
theorem de_sortK {e : Expr} {fe : M R} {p pos : Pos} (hc : X.calm = true) (hu : X.A.units + 64 < cLine) (hm : X.mg "sorted" = none) (he : DE X cl A0 W e fe) (hg : Gl X "sorted" := by rfl) (hs : starEach [e] X.env = (false, eval e X.env) :: starEach [] X.env := by rfl) (hpl : (backTo pos (starEach [] X.env)).any (·.1) = false := by rfl) : DE X cl A0 W (.Call (.Name "sorted" p) [e] [] pos) (eSortK fe) :=
  peImp (pe_callB (cr_sortK hc hu) hg hm (by decide +kernel) (da1 he hs) (by decide) (by decide) hs hpl) fun _ _ _ z => rd_sortK z
end
end DL

/-! DLmit: min(a list of alike data). -/
namespace DL
open PySem L2
def minT (x : D) (r : List D) : D := r.foldl (fun m y => if PySem.W.dataLt (py y) (py m) = true then y else m) x
def pyMinD : D → Option R
  | .lst (x :: r) => if sortOk (x :: r) then some (.pure (minT x r)) else none
  | _ => none
mutual
theorem py_inj : ∀ a b : D, py a = py b → a = b
  | .non, b, h => by cases b <;> simp [py] at h ⊢
  | .bl _, b, h => by cases b <;> simp [py] at h ⊢; exact h
  | .int _, b, h => by cases b <;> simp [py] at h ⊢; exact h
  | .str x, b, h => by
    cases b with
    | str y => simp only [py, PyData.str.injEq] at h; rw [tx_inj h]
    | _ => simp [py] at h
  | .tup x, b, h => by
    cases b with
    | tup y => simp only [py, PyData.tuple.injEq] at h; rw [pys_inj x y h]
    | _ => simp [py] at h
  | .lst x, b, h => by
    cases b with
    | lst y => simp only [py, PyData.list.injEq] at h; rw [pys_inj x y h]
    | _ => simp [py] at h
theorem pys_inj : ∀ a b : List D, pys a = pys b → a = b
  | [], [], _ => rfl
  | [], _ :: _, h => by simp [pys] at h
  | _ :: _, [], h => by simp [pys] at h
  | x :: xs, y :: ys, h => by
    simp only [pys, List.cons.injEq] at h
    rw [py_inj x y h.1, pys_inj xs ys h.2]
end
theorem minT_py : ∀ (r : List D) (x : D), py (minT x r) = PySem.W.minD (py x) (pys r)
  | [], x => rfl
  | y :: r, x => by
    have h1 : minT x (y :: r) = minT (if PySem.W.dataLt (py y) (py x) = true then y else x) r := rfl
    have h2 : PySem.W.minD (py x) (pys (y :: r)) = PySem.W.minD (if PySem.W.dataLt (py y) (py x) = true then py y else py x) (pys r) := rfl
    rw [h1, h2, minT_py r]
    split <;> rfl
theorem minT_mem : ∀ (r : List D) (x : D), minT x r ∈ x :: r
  | [], x => by simp [minT]
  | y :: r, x => by
    have h1 : minT x (y :: r) = minT (if PySem.W.dataLt (py y) (py x) = true then y else x) r := rfl
    rw [h1]
    have := minT_mem r (if PySem.W.dataLt (py y) (py x) = true then y else x)
    rcases List.mem_cons.mp this with h | h
    · rw [h]; split <;> simp
    · simp [h]
section
variable {X : Cx} {cl : Nat → Addr} {A0 : AK} {W : WX}
def rMinD (K : PySem.W.Frag) : List V → Hp → VK → Prop := fun xs H Q => ∃ (a : Addr) (b : D × V) (bs : List (D × V)), xs = [.ref a] ∧ SqL K H a ((b :: bs).map (·.2)) ∧ (∀ c ∈ b :: bs, Dp K H c.2 (py c.1)) ∧ sortOk ((b :: bs).map (·.1)) ∧ ∀ c ∈ b :: bs, c.1 = minT b.1 (bs.map (·.1)) → Q c.2 H
theorem deps_le : ∀ (ds : List D) (n : Nat), (∀ d ∈ ds, d.dep ≤ n) → D.deps ds ≤ n
  | [], n, _ => by simp [D.deps]
  | d :: ds, n, h => by
    have h1 := h d List.mem_cons_self
    have h2 := deps_le ds n fun x hx => h x (List.mem_cons_of_mem _ hx)
    simp only [D.deps]
    omega
theorem dpall_bs {K : PySem.W.Frag} {H : Hp} : ∀ {bs : List (D × V)}, (∀ c ∈ bs, Dp K H c.2 (py c.1)) → DpAll K H (bs.map (·.2)) (pys (bs.map (·.1)))
  | [], _ => .nil
  | b :: bs, h => .cons (h b List.mem_cons_self) (dpall_bs fun c hc => h c (List.mem_cons_of_mem _ hc))
theorem cr_minD (hc : X.calm = true) (hu : X.A.units + 64 < cLine) : CallR X (.builtin "min") (rMinD X.K) := by
  intro pins s σ H xs us Q I r h
  obtain ⟨a, b, bs, rfl, hs, hd, so, q⟩ := h
  obtain ⟨its, rv, hl, _⟩ := I.list hs
  rw [Vals.ref1 r]
  have ev := each_vals' (g := fun b : D × V => b.2) rv
  have er := each_reads I hd (fun b hb => hb) ev
  obtain ⟨as, ra⟩ := PySem.W.each_readsAll (h := s.heap) (fun b : D × V => py b.1) er
  have ra : ReadsAll s.heap its.toArray.toList (py b.1 :: pys (bs.map (·.1))) as := by
    have e : (b :: bs).map (fun b => py b.1) = py b.1 :: pys (bs.map (·.1)) := by rw [pys_map]; simp
    rw [← e]
    simpa using ra
  have al : PySem.W.AlikeAll (py b.1 :: pys (bs.map (·.1))) := by
    have e : (b :: bs).map (fun b => py b.1) = py b.1 :: pys (bs.map (·.1)) := by rw [pys_map]; simp
    rw [← e]
    refine ⟨fun x hx y hy => sort_alike so x hx y hy, fun x hx => ?_⟩
    obtain ⟨c, hc, rfl⟩ := List.mem_map.mp hx
    have := so.2.1 _ (List.mem_map.mpr ⟨c, hc, rfl⟩) _ (List.mem_map.mpr ⟨c, hc, rfl⟩)
    obtain ⟨c1, c2⟩ := c
    cases c1 <;> simp [simD, py] at this ⊢
  have dp : PyData.depthAll (py b.1 :: pys (bs.map (·.1))) ≤ 8 := by
    have := deps_py (b.1 :: bs.map (·.1))
    simp only [pys] at this
    rw [this]
    exact deps_le _ _ fun d hd => so.2.2.2 d (by simpa using hd)
  refine PySem.W.min_list_data (I.ok.hd hc) hl.isList ra al (by omega) fun i v h' tk cs hv hR hk => ?_
  have hi : i < its.length := by
    have := Array.getElem?_eq_some_iff.mp hv
    obtain ⟨h, _⟩ := this
    simpa using h
  have hlen : its.length = (b :: bs).length := by have := rv.length; simpa using this.symm
  obtain ⟨c, hcx⟩ : ∃ c, (b :: bs)[i]? = some c := ⟨(b :: bs)[i], List.getElem?_eq_getElem (by omega)⟩
  have hcm := List.mem_of_getElem? hcx
  have I1 : Inv X pins σ H { s with heap := h', toks := tk } := I.kept hk
  have rel : RelV c.2 v := by
    have := Vals.get (i := i) (x := c.2) rv (by rw [List.getElem?_map, hcx]; rfl)
    obtain ⟨u, hu, ru⟩ := this
    have : v = u := by
      have hv' : its[i]? = some v := by simpa using hv
      rw [hu] at hv'
      exact (Option.some.inj hv').symm
    rw [this]
    exact ru
  obtain ⟨as', rc⟩ := Dp.reads I1 _ _ _ (hd c hcm) rel
  have alk : PySem.W.alike (py c.1) (PySem.W.minD (py b.1) (pys (bs.map (·.1)))) = true := by
    rw [← minT_py]
    have hm := minT_mem (bs.map (·.1)) b.1
    exact (sim_py _ _ (so.2.1 _ (List.mem_map.mpr ⟨c, hcm, rfl⟩) _ (by simpa using hm))).1
  have e := PySem.W.alike_unique _ _ _ _ _ alk rc hR
  rw [← minT_py] at e
  exact ⟨c.2, H, I1, rel, q c hcm (py_inj _ _ e)⟩
theorem o_minD : Op1 X.prog X.w pyMinD (fun x H Q => rMinD X.K [x] H Q) := by
  intro H Av d x z Q hd t hf k
  cases d with
  | lst xs =>
    cases xs with
    | nil => cases hf
    | cons y ys =>
      simp only [pyMinD] at hf
      split at hf
      · rename_i so
        cases hf
        obtain ⟨a, vs, rfl, h, r⟩ := t.lst
        obtain ⟨bs, e1, rfl, hr⟩ := zip_rps r
        cases bs with
        | nil => cases e1
        | cons b bs =>
          simp only [List.map_cons, List.cons.injEq] at e1
          obtain ⟨rfl, rfl⟩ := e1
          refine ⟨a, b, bs, rfl, SqL.of h, fun c hc => (hr c hc).dp, so, fun c hc e => ?_⟩
          have := hr c hc
          rw [e] at this
          exact k _ _ (new_pure this)
      · cases hf
  | _ => cases hf
theorem de_minD {e : Expr} {fe : M R} {p pos : Pos} (hc : X.calm = true) (hu : X.A.units + 64 < cLine) (hm : X.mg "min" = none) (he : DE X cl A0 W e fe) (hg : Gl X "min" := by rfl) (hs : starEach [e] X.env = (false, eval e X.env) :: starEach [] X.env := by rfl) (hpl : (backTo pos (starEach [] X.env)).any (·.1) = false := by rfl) : DE X cl A0 W (.Call (.Name "min" p) [e] [] pos) (e1 pyMinD fe) :=
  de_call1 (cr_minD hc hu) o_minD hg hm (by decide +kernel) he (by decide) (by decide) hs hpl
end
end DL

/-! DLsts: a dict whose keys are texts: {}, name[k] = e. -/
namespace DL
open PySem L2
def dPutM (kvs : List (D × D)) (k v : D) : List (D × D) := if (kvs.any fun p => p.1.eqv k) = true then kvs.map (fun p => if p.1.eqv k = true then (p.1, v) else p) else kvs ++ [(k, v)]
def isMs : Option (Option S) → Bool
  | some (some (.mob _ (.dcs _))) => true
  | _ => false
def sSetS (i : Nat) (ek ev : M R) : M Flow := mbind ev fun r => mbind (frz r) fun v σ => if isMs σ[i]? = true then (mbind ek fun q => mbind (frz q) fun k σ => match σ[i]? with
  | some (some (.mob tg (.dcs kvs))) => match k with
    | .str _ => if kvs.length < zLine then .ok .next (σ.set i (some (.mob tg (.dcs (dPutM kvs k v))))) else .fail
    | _ => .fail
  | _ => .fail) σ else .fail
section
variable {X : Cx} {cl : Nat → Addr} {A0 : AK} {W : WX}
theorem new_dcs0 {H : Hp} {Av : Addr → Prop} {p : Addr} (hp : H p = none) : NewR X.prog X.w H (upd H p (.dK [])) Av (.own (.dcs [])) (.ref p) :=
  ⟨upd_new hp, p, rfl, .dcs upd_same .nil, hp⟩
theorem de_dict0s {pos : Pos} : DE X cl A0 W (.Dict [] [] pos) eDict0s := peImp pe_dnewK fun σV H Q z p hp => by
  obtain ⟨σ, Av, ow, rs, g⟩ := z
  exact gEnd rs.dom rs Stp.refl g (new_dcs0 hp)
theorem isMs_of {σ : Sl} {i : Nat} (h : isMs σ[i]? = true) : ∃ tg kvs, σ[i]? = some (some (.mob tg (.dcs kvs))) := by
  unfold isMs at h
  split at h
  · rename_i tg ob e; exact ⟨tg, ob, e⟩
  · cases h
theorem slot_dcs {P : Program} {w : World} {H : Hp} {Av : Addr → Prop} {ow : Nat → List Addr} {σ : Sl} {σV : St} {i : Nat} {tg : Option Nat} {kvs : List (D × D)} (r : RpS P w A0 H Av ow σ σV) (hs : σ[i]? = some (some (.mob tg (.dcs kvs)))) : ∃ a l, σV[i]? = some (some (.ref a)) ∧ RpO P w H Av (.dcs kvs) a l ∧ Av a := by
  obtain ⟨v, hv, q⟩ := r.slot i _ hs
  cases q with
  | @mob _ _ a _ o t => exact ⟨a, _, hv, o, r.av i a (by rw [o.single]; exact List.mem_cons_self)⟩
theorem Rpt.cell {H : Hp} {Av : Addr → Prop} {a : Addr} {o : HO} {kvs : List (D × D)} {xs : List (Key × V)} (r : Rpt H Av kvs xs) (ha : Av a) : Rpt (upd H a o) Av kvs xs :=
  Paired.imp (fun _ _ z => ⟨z.1, z.2.cell ha⟩) r
theorem key_eqv {s t : Tx} : ((D.str s).eqv (.str t) = true) ↔ (Sum.inr (tx s) : Key) = Sum.inr (tx t) := by
  simp only [D.eqv, beq_iff_eq]
  exact ⟨fun e => by rw [e], fun e => tx_inj (Sum.inr.inj e)⟩
theorem Rpt.put {H : Hp} {Av : Addr → Prop} {s : Tx} {v : D} {y : V} (hs : txOk s = true) (rv : Rp H Av v y) {kvs : List (D × D)} {xs : List (Key × V)} (r : Rpt H Av kvs xs) : Rpt H Av (dPutM kvs (.str s) v) (putK xs (Sum.inr (tx s)) y) := by
  have ea : (kvs.any fun p => p.1.eqv (.str s)) = xs.any fun kv => decide (kv.1 = Sum.inr (tx s)) := by
    induction r with
    | nil => rfl
    | @cons p q _ _ h t ih =>
      obtain ⟨⟨s0, e1, e2, e3⟩, _⟩ := h
      simp only [List.any_cons, ih]
      congr 1
      rw [Bool.eq_iff_iff, e1, e3, key_eqv]
      simp
  have em : Rpt H Av (kvs.map fun p => if p.1.eqv (.str s) = true then (p.1, v) else p) (xs.map fun kv => if kv.1 = Sum.inr (tx s) then (kv.1, y) else kv) := by
    clear ea
    induction r with
    | nil => exact .nil
    | @cons p q _ _ h t ih =>
      obtain ⟨⟨s0, e1, e2, e3⟩, rq⟩ := h
      refine .cons ?_ ih
      by_cases e : p.1.eqv (.str s) = true
      · have e' : q.1 = Sum.inr (tx s) := by rw [e1, key_eqv] at e; rw [e3]; exact e
        simp only [if_pos e, if_pos e']
        exact ⟨⟨s0, e1, e2, e3⟩, rv⟩
      · have e' : ¬ q.1 = Sum.inr (tx s) := by rw [e1, key_eqv] at e; rw [e3]; exact e
        simp only [if_neg e, if_neg e']
        exact ⟨⟨s0, e1, e2, e3⟩, rq⟩
  have ep : Rpt H Av (kvs ++ [(.str s, v)]) (xs ++ [(Sum.inr (tx s), y)]) := by
    clear ea em
    induction r with
    | nil => exact .cons ⟨⟨s, rfl, hs, rfl⟩, rv⟩ .nil
    | cons h t ih => exact .cons h ih
  unfold dPutM putK
  rw [ea]
  split
  · exact em
  · exact ep
theorem ds_setS {i : Nat} {x : Str} {k e : Expr} {fk fe : M R} {p spos pos : Pos} (hu : X.A.units + 64 < cLine) (hv : PE X (.Name x p) (tVar i)) (hk : DE X cl A0 W k fk) (he : DE X cl A0 W e fe)
    (ha : ∀ v, assign (.Subscript (.Name x p) k spos) X.env v = (do
      let ov ← holding [v] (eval (.Name x p) X.env)
      let iv ← holding [v, ov] (eval k X.env)
      standAt spos
      holding [v, ov, iv] (setItem ov iv v)
      release [v, ov, iv] []) := by intro _; rfl)
    (hs : swapsWithSole [.Subscript (.Name x p) k spos] e pos.line X.env = pure false := by rfl) (hw : swappedStores [.Subscript (.Name x p) k spos] e X.env = pure none := by rfl) :
    DS X cl A0 W (.Assign [.Subscript (.Name x p) k spos] e pos) (sSetS i fk fe) := by
  refine psImp (ps_asg he (pg_sub hv hk (set_dict (by omega)) ha) hs hw) fun D σV H z => ?_
  obtain ⟨σ, Av, ow, rs, g⟩ := z
  refine gBindS rfl rs.dom rs Stp.refl g fun r σ1 y H1 Av1 ow1 rs1 _ s1 q1 g1 => ?_
  unfold mbind at g1
  cases hf : frz r σ1 with
  | fail => rw [hf] at g1; exact g1.elim
  | exn c σ2 => exact (frz_nox hf).elim
  | ok d σ2 =>
    rw [hf] at g1
    obtain ⟨Av2, ow2, rs2, s2, rp, _⟩ := frz_ok rs.dom (fun b h => h) rs1 s1 q1 hf
    simp only at g1
    by_cases hm : isMs σ2[i]? = true
    · rw [if_pos hm] at g1
      obtain ⟨tg, ob, hso⟩ := isMs_of hm
      obtain ⟨v0, hv0, _⟩ := rs2.slot i _ hso
      refine ⟨v0, hv0, ?_⟩
      have g1 : oS X.prog X.w cl A0 W σV.length D H Av ow (mbind fk (fun q => mbind (frz q) fun k σ => match σ[i]? with
        | some (some (.mob tg (.dcs kvs))) => match k with
          | .str _ => if kvs.length < zLine then .ok .next (σ.set i (some (.mob tg (.dcs (dPutM kvs k d))))) else .fail
          | _ => .fail
        | _ => .fail) σ2) := g1
      refine gBindS rfl rs.dom rs2 s2 g1 fun q σ3 w3 H3 Av3 ow3 rs3 s23 s3 q3 g3 => ?_
      unfold mbind at g3
      cases hf2 : frz q σ3 with
      | fail => rw [hf2] at g3; exact g3.elim
      | exn c σ4 => exact (frz_nox hf2).elim
      | ok kd σ4 =>
        rw [hf2] at g3
        obtain ⟨Av4, ow4, rs4, s4, rk, hav, _⟩ := frz_ok rs.dom (fun b h => s1.none_of h) rs3 s3 q3 hf2
        have rp4 : Rp H3 Av4 d y := (rp.step s23 rs2.ho).less hav
        simp only at g3
        split at g3
        · rename_i tg2 kvs hsl
          cases kd with
          | str s =>
            by_cases hkz : kvs.length < zLine
            · simp only [hsl, if_pos hkz] at g3
              obtain ⟨a2, l2, ha2, ro, aA⟩ := slot_dcs rs4 hsl
              rw [hv0] at ha2; cases ha2
              cases ro with
              | @dcs _ xs _ hc rkv =>
                cases rk with
                | str _ hok =>
                  refine ⟨a2, _, rfl, DPut.k (k := Sum.inr (tx s)) hc (by rw [sizeLine_eq, ← Paired.length rkv]; exact hkz), ?_⟩
                  obtain ⟨rs5, s5⟩ := rs4.mutate hsl hv0 (ob' := .dcs (dPutM kvs (.str s) d)) (o' := .dK (putK xs (Sum.inr (tx s)) y)) (.dcs upd_same (Rpt.cell (Rpt.put hok rp4 rkv) aA))
                  exact g3 σV _ Av4 ow4 rfl rs5 (s4.trans rs.dom s5)
            · simp only [hsl, if_neg hkz] at g3; exact g3.elim
          | _ => simp only [hsl] at g3; exact g3.elim
        · exact g3.elim
    · rw [if_neg hm] at g1; exact g1.elim
end
end DL

/-! DLca0: f(). -/
namespace DL
open PySem L2
section
variable {X : Cx} {cl : Nat → Addr} {A0 : AK} {W : WX}
theorem pe_callS0 {F : Sp} {k : Nat} {f : Addr} {fd : FuncData} {ps : List Str} {x : Str} {p pos : Pos} {E : St → XK} (G : FnOk X.prog X.w X.K X.mg X.base (L2.CX X.prog X.w) k f fd ps F) (hr : Room k X.A) (hg : Gl X x) (hm : X.mg x = some (.ref f)) (hk : PySem.W.keepIn X.K (.ref f) = true) (hb : Binds X.K fd ps []) (hx : ∀ σ, PassesAt (L2.CX X.prog X.w) X σ (E σ))
    (hdb : (x == ("__debug__" : Str)) = false := by decide) : PE X (.Call (.Name x p) [] [] pos) (fun σ H Q => F [] H Q (E σ)) := by
  refine ⟨fun pins s σ H Q I h => ?_⟩
  refine wpAny_Call_Name_kw (ld_glob I hg hm ?_ hdb)
  exact PySem.W.callWith_K0 I.kIn hk (run_fnS (us := []) G hr hb (hx σ) I .nil h)
theorem de_call0 (hk : A0.K = X.K) {F : Fn} {k : Nat} {f : Addr} {fd : FuncData} {x : Str} {p pos : Pos} (tk : Takes X W) (G : FnOk X.prog X.w X.K X.mg X.base (L2.CX X.prog X.w) k f fd [] (spD X.prog X.w cl X.K 0 F)) (hr : Room k X.A) (hg : Gl X x) (hm : X.mg x = some (.ref f)) (hkp : PySem.W.keepIn X.K (.ref f) = true) (hb : Binds X.K fd [] [])
    (hdb : (x == ("__debug__" : Str)) = false := by decide) : DE X cl A0 W (.Call (.Name x p) [] [] pos) (eCall F []) :=
  peImp (pe_callS0 G hr hg hm hkp hb (fun σ => passAt tk σ) hdb) fun σV H Q z => by
    have := rd_call (fs := []) hk rfl (fun _ _ _ h => eArgs_len h) z
    obtain ⟨σ, Av, ow, rs, g⟩ := this
    exact g [] H Av ow rs Stp.refl .nil
end
end DL

/-! DLmu0: a tuple times 0 or 1. -/
namespace DL
open PySem L2 PySem.Spec PyProof.Rows
def pyMulT : D → D → Option R
  | .tup a, .int k => if k = 1 then some (.pure (.tup a)) else if k = 0 ∧ a ≠ [] then some (.pure (.tup [])) else pyMul (.tup a) (.int k)
  | _, _ => none
theorem tuple_mul1 (l : Addr) (items : Array Value) (n : Nat) (dd : Option Addr) (sl : Array (Option Value)) (u : Tok) :
    Meets (Builtin.«tuple.__mul__» ⟨[.ref l, .int 1 u], []⟩) (fun _ R s => s.heap.get? l = some { cls := .type "tuple", dict := dd, data := .seq items n, slots := sl } ∧ R (.ok (.ret (Value.ref l))) s) :=
  .of_wp fun prog w A R s h => by
    obtain ⟨hp, g, d, tk, os⟩ := s
    obtain ⟨hl, h⟩ := h
    have f1 := AutoSeq1.idx_int
    wp_walk using wpAny_loadPart' hl
    exact ⟨_, rfl, h⟩
theorem tuple_mul0 (l : Addr) (items : Array Value) (n : Nat) (dd : Option Addr) (sl : Array (Option Value)) (u : Tok) (hi : items.isEmpty = false) :
    Meets (Builtin.«tuple.__mul__» ⟨[.ref l, .int 0 u], []⟩) (fun _ R s => s.heap.get? l = some { cls := .type "tuple", dict := dd, data := .seq items n, slots := sl } ∧
      R (.ok (.ret (Value.ref s.heap.objs.size))) { s with heap := s.heap.push { cls := Value.type "tuple", data := Data.seq #[] }, toks := s.toks }) :=
  .of_wp fun prog w A R s h => by
    obtain ⟨hp, g, d, tk, os⟩ := s
    obtain ⟨hl, h⟩ := h
    have f1 := AutoSeq1.idx_int
    wp_walk using wpAny_loadPart' hl
    exact ⟨_, rfl, h⟩
section
variable {X : Cx} {cl : Nat → Addr} {A0 : AK} {W : WX}
def rRep1 (K : PySem.W.Frag) : R2 := fun x y H Q => ∃ l xs, x = .ref l ∧ y = .int 1 ∧ SqT K H l xs ∧ Q (.ref l) H
def rRep0 (K : PySem.W.Frag) : R2 := fun x y H Q => ∃ l xs, x = .ref l ∧ y = .int 0 ∧ SqT K H l xs ∧ xs ≠ [] ∧ ∀ p, H p = none → Q (.ref p) (upd H p (.tup []))
theorem op_rep1 : OpR X (binaryOp .Mult) (rRep1 X.K) := by
  intro pins s σ H x y v u Q I rx ry h
  obtain ⟨l, xs, rfl, rfl, hT, q⟩ := h
  cases rx
  obtain ⟨t, rfl⟩ := ry
  obtain ⟨its, r, ⟨⟨cls, dd, data, sl⟩, ho, hc, n, hd⟩, hs⟩ := I.tuple hT
  simp only at hc hd
  subst hc hd
  refine wpAny_binaryOp_repeat_ref (T := "tuple") (U := "int") (by decide) ⟨_, ho, rfl⟩ (fun s' => typeIs_int s' 1 t) noFill_tuple_mul F.fills_int_mul F.slot_int_rmul repeat_tuple F.slot_int_index.lookup
    (call_meets F.slot_int_rmul (typeIs_int s 1 t) F.entry_int_rmul (F.args_int_rmul_2 _ _) (int_rmul_tuple 1 t l its.toArray n dd sl)
      ⟨ho, rfl, ⟨_, ho, rfl⟩, call_meets F.slot_tuple_mul ⟨_, ho, rfl⟩ F.entry_tuple_mul (F.args_tuple_mul_2 _ _) (tuple_mul1 l its.toArray n dd sl t) ⟨ho, ?_⟩⟩)
  exact ⟨.ref l, H, I, rfl, q⟩
theorem op_rep0 : OpR X (binaryOp .Mult) (rRep0 X.K) := by
  intro pins s σ H x y v u Q I rx ry h
  obtain ⟨l, xs, rfl, rfl, hT, hne, q⟩ := h
  cases rx
  obtain ⟨t, rfl⟩ := ry
  obtain ⟨its, r, ⟨⟨cls, dd, data, sl⟩, ho, hc, n, hd⟩, hs⟩ := I.tuple hT
  simp only at hc hd
  subst hc hd
  have hle : its.length = xs.length := r.length.symm
  have hn : its ≠ [] := fun e => hne (by
    rw [e] at hle
    exact List.eq_nil_of_length_eq_zero hle.symm)
  have hi : its.toArray.isEmpty = false := by
    cases its with
    | nil => exact absurd rfl hn
    | cons a b => rfl
  refine wpAny_binaryOp_repeat_ref (T := "tuple") (U := "int") (by decide) ⟨_, ho, rfl⟩ (fun s' => typeIs_int s' 0 t) noFill_tuple_mul F.fills_int_mul F.slot_int_rmul repeat_tuple F.slot_int_index.lookup
    (call_meets F.slot_int_rmul (typeIs_int s 0 t) F.entry_int_rmul (F.args_int_rmul_2 _ _) (int_rmul_tuple 0 t l its.toArray n dd sl)
      ⟨ho, rfl, ⟨_, ho, rfl⟩, call_meets F.slot_tuple_mul ⟨_, ho, rfl⟩ F.entry_tuple_mul (F.args_tuple_mul_2 _ _) (tuple_mul0 l its.toArray n dd sl t hi) ⟨ho, ?_⟩⟩)
  refine ⟨.ref s.heap.objs.size, _, I.laid (t' := s.toks) (o := .tup []) (fun b ob q => Heap.get?_push_of_some _ q) (Nat.le_refl _) ?_, rfl, q _ (I.hok.fresh (Nat.le_refl _))⟩
  exact ⟨Nat.zero_le _, [], .nil, IsTup.new _ _⟩
def rMulTT (K : PySem.W.Frag) : R2 := fun x y H Q => rMulAll K x y H Q ∨ (rRep1 K x y H Q ∨ rRep0 K x y H Q)
theorem or_mulT : OpR X (binaryOp .Mult) (rMulTT X.K) := or_mul.or (op_rep1.or op_rep0)
theorem o_mulT : Op2 X.prog X.w pyMulT (rMulTT X.K) := by
  intro H Av d e x y z Q hd t u hf k
  cases d with
  | tup a =>
    cases e with
    | int j =>
      simp only [pyMulT] at hf
      split at hf
      · rename_i c
        subst c
        cases hf
        rw [u.int]
        obtain ⟨p, vs, rfl, h1, r1, n1⟩ := t.tup
        exact .inr (.inl ⟨p, vs, rfl, rfl, SqT.of h1, k _ _ (new_pure (.tup h1 n1 r1))⟩)
      · split at hf
        · rename_i c
          cases hf
          obtain ⟨rfl, hne⟩ := c
          rw [u.int]
          obtain ⟨p, vs, rfl, h1, r1, n1⟩ := t.tup
          refine .inr (.inr ⟨p, vs, rfl, rfl, SqT.of h1, fun e => ?_, fun q hq => k _ _ (new_tup .nil hq (nav_of hd hq))⟩)
          subst e
          cases r1
          exact hne rfl
        · exact .inl (o_mul H Av _ _ x y z Q hd t u hf k)
    | _ => cases hf
  | _ => cases hf
end
end DL

namespace DL
/-! the meanings of the defs (printed by gen.py) -/
inductive Er where | yard | state | step | load | sequence | crane | dues | ticks | text | many | undo
  deriving DecidableEq
def Ec.at (E : Ec) : Er → Nat
  | .yard => E.yard
  | .state => E.state
  | .step => E.step
  | .load => E.load
  | .sequence => E.sequence
  | .crane => E.crane
  | .dues => E.dues
  | .ticks => E.ticks
  | .text => E.text
  | .many => E.many
  | .undo => E.undo
def raised : List Er := []
def tab (E : Ec) (t : Er) : List (Nat × Bool) := raised.map fun r => (E.at r, decide (r = t))
def tabV (E : Ec) : List (Nat × Bool) := raised.map fun r => (E.at r, true)
def fuel : Nat := 100000
def m_L_town (E : Ec) : M Flow := sRet (e2 pyAdd (eLst [eC (.int 0)]) (eScrList 0))
def F_L_town (E : Ec) : Fn := runF 1 (m_L_town E)
def m_L_draw (E : Ec) : M Flow := sSeq (sSet 1 (eC (.int 0)) (e2 pyAdd (e2v pySub' (eVar 1) (eC (.int 0))) (eC (.int 1)))) (sSeq (sIf (tB (eScrNil 0)) (sRet (e2 pyMod (e2 pyFdiv (e2 pyMul (e2 pyMul (e2v pySub' (eVar 1) (eC (.int 0))) (e2v pySub' (eVar 1) (eC (.int 0)))) (eC (.int 7))) (eC (.int 3))) (eVar 2))) (sSkip)) (sSeq (sPut 3 (e2 pyMod (e2v pySub' (eVar 1) (eC (.int 0))) (eScrLen 0))) (sSeq (sPut 4 (e2v pySub' (eVar 1) (e2 pyAdd (eC (.int 1)) (eVar 3)))) (sSeq (sIf (tAnd (tB (e2 pyGe (eScrIx 0 (eVar 3)) (e2 pyPow (eC (.int 10)) (eC (.int 18))))) (tB (e2 pyGt (eVar 4) (eC (.int 0))))) (sSeq (sSet 1 (e2 pyAdd (eC (.int 1)) (eVar 3)) (e2 pyFdiv (eVar 4) (eVar 2))) (sRet (e2 pyMod (eVar 4) (eVar 2)))) (sSkip)) (sSeq (sPut 5 (e2 pyMod (e2 pyAdd (eScrIx 0 (eVar 3)) (e2 pyMul (eC (.int 104729)) (e2v pySub' (eVar 1) (eC (.int 0))))) (eC (.int 4294967291)))) (sSeq (sPut 5 (e2 pyMod (e2 pyPow (eVar 5) (eC (.int 5))) (eC (.int 4294967279)))) (sRet (e2 pyMod (e2 pyFdiv (e2 pyMod (e2 pyAdd (e2 pyMul (e2 pyFdiv (eVar 5) (eC (.int 64))) (eC (.int 69621))) (eVar 5)) (eC (.int 4294967231))) (eC (.int 8))) (eVar 2)))))))))
def F_L_draw (E : Ec) : Fn := runF 6 (m_L_draw E)
def b0_L_yard (E : Ec) : M Flow := sSeq (sPut 9 (eCall (F_L_draw E) [(.ref, eVar 0), (.ref, eVar 1), (.ref, eVar 4)])) (sSeq (sPut 10 (e2 pyMod (e2 pyAdd (e2 pyAdd (eVar 9) (eC (.int 1))) (eCall (F_L_draw E) [(.ref, eVar 0), (.ref, eVar 1), (.val, e2 pySub (eVar 4) (eC (.int 1)))])) (eVar 4))) (sSeq (sIf (tAnd (tB (e2 pyEq (e1 pySortI (eLst [eVar 9, eVar 10])) (eLst [eC (.int 0), e2 pySub (eVar 4) (eC (.int 1))]))) (tAnd (tB (e2 pyGt (eVar 4) (eC (.int 2)))) (tB (e2 pyGt (eCall (F_L_draw E) [(.ref, eVar 0), (.ref, eVar 1), (.val, eC (.int 6))]) (eC (.int 0)))))) (sUnpack [9, 10] (eIf (tB (e2 pyEq (eVar 10) (eC (.int 0)))) (eTup [eC (.int 1), eC (.int 0)]) (eTup [eC (.int 0), eC (.int 1)]))) (sSkip)) (sDo (eAppend 7 (eTup [eVar 9, eVar 10])))))
def m_L_yard (E : Ec) : M Flow := sSeq (sPut 4 (e2 pyAdd (eC (.int 2)) (eCall (F_L_draw E) [(.ref, eVar 0), (.ref, eVar 1), (.val, e2 pySub (eVar 2) (eC (.int 1)))]))) (sSeq (sPut 5 (eCall (F_L_draw E) [(.ref, eVar 0), (.ref, eVar 1), (.val, e2 pySub (eVar 4) (eC (.int 1)))])) (sSeq (sPut 6 (e2 pyAdd (e2 pyAdd (eVar 5) (eC (.int 1))) (eCall (F_L_draw E) [(.ref, eVar 0), (.ref, eVar 1), (.val, e2 pySub (e2 pySub (eVar 4) (eC (.int 1))) (eVar 5))]))) (sSeq (sPut 7 (eLst [])) (sSeq (sFor (.name 8) (iRange1 (eCall (F_L_draw E) [(.ref, eVar 0), (.ref, eVar 1), (.val, e2 pyAdd (eVar 3) (eC (.int 1)))])) (b0_L_yard E)) (sRet (eTup [eVar 4, eVar 5, eVar 6, e1 pyTuple (eVar 7)]))))))
def F_L_yard (E : Ec) : Fn := runF 11 (m_L_yard E)
def m_L_pick (E : Ec) : M Flow := sRet (e2v pySub' (eVar 2) (eCall (F_L_draw E) [(.ref, eVar 0), (.ref, eVar 1), (.val, e1 pyLen (eVar 2))]))
def F_L_pick (E : Ec) : Fn := runF 3 (m_L_pick E)
def m_is_between (E : Ec) : M Flow := sRet (eAnd (e1 (pyIsi .int) (eVar 0)) (eAnd (eNot (e1 (pyIsi .bool) (eVar 0))) (eChain (fun i j => decide (i ≤ j)) (fun i j => decide (i ≤ j)) (eVar 1) (eVar 0) (eVar 2))))
def F_is_between (E : Ec) : Fn := runF 3 (m_is_between E)
def x0_is_yard (E : Ec) : M R := eCall (F_is_between E) [(.ref, eVar 6), (.val, eC (.int 0)), (.val, e2 pySub (eVar 1) (eC (.int 1)))]
def b1_is_yard (E : Ec) : M Flow := sIf (tOr (tNot (tB (e1 (pyIsi .tuple) (eVar 5)))) (tOr (tB (e2 pyNe (e1 pyLen (eVar 5)) (eC (.int 2)))) (tNot (tB (e1 pyAll (eComp [6] (.name 6) (iD (eVar 5)) (mok true) (x0_is_yard E))))))) (sRet (eC (.bl false))) (sSkip)
def x2_is_yard (E : Ec) : M R := e2 pyNe (e2v pySub' (eVar 5) (eC (.int 0))) (e2v pySub' (eVar 5) (eC (.int 1)))
def m_is_yard (E : Ec) : M Flow := sSeq (sIf (tOr (tNot (tB (e1 (pyIsi .tuple) (eVar 0)))) (tOr (tB (e2 pyNe (e1 pyLen (eVar 0)) (eC (.int 4)))) (tNot (tB (eCall (F_is_between E) [(.val, e2v pySub' (eVar 0) (eC (.int 0))), (.val, eC (.int 2)), (.val, eC (.int 6))]))))) (sRet (eC (.bl false))) (sSkip)) (sSeq (sUnpack [1, 2, 3, 4] (eVar 0)) (sSeq (sIf (tOr (tNot (tB (eCall (F_is_between E) [(.ref, eVar 3), (.val, eC (.int 0)), (.val, e2 pySub (eVar 1) (eC (.int 1)))]))) (tNot (tB (eCall (F_is_between E) [(.ref, eVar 2), (.val, eC (.int 0)), (.val, e2 pySub (eVar 3) (eC (.int 1)))])))) (sRet (eC (.bl false))) (sSkip)) (sSeq (sIf (tOr (tNot (tB (e1 (pyIsi .tuple) (eVar 4)))) (tB (e2 pyGt (e1 pyLen (eVar 4)) (eC (.int 3))))) (sRet (eC (.bl false))) (sSkip)) (sSeq (sFor (.name 5) (iD (eVar 4)) (b1_is_yard E)) (sRet (e1 pyAll (eComp [5] (.name 5) (iD (eVar 4)) (mok true) (x2_is_yard E))))))))
def F_is_yard (E : Ec) : Fn := runF 7 (m_is_yard E)
def m_check_yard (E : Ec) : M Flow := sIf (tNot (tB (eCall (F_is_yard E) [(.ref, eVar 0)]))) (sRaise E.yard) (sSkip)
def F_check_yard (E : Ec) : Fn := runF 1 (m_check_yard E)
def b0_acts_of (E : Ec) : M Flow := sIf (tB (eChain (fun i j => decide (i ≤ j)) (fun i j => decide (i < j)) (eC (.int 0)) (e2 pyAdd (eVar 1) (eVar 8)) (eVar 4))) (sDo (eAppend 6 (eTup [eVar 7, e2 pyAdd (eVar 1) (eVar 8), eVar 2, eC .non]))) (sSkip)
def t1_acts_of (E : Ec) : M Bool := tB (e2 pyEq (e2v pySub' (e2v pySub' (eVar 5) (eVar 9)) (eC (.int 0))) (eVar 1))
def x2_acts_of (E : Ec) : M R := eTup [eFstr [eC (.str [94]), e1 pyStr (eVar 9)] [], eVar 1, eVar 9, eVar 9]
def m_acts_of (E : Ec) : M Flow := sSeq (sPar [4, 5] [e2v pySub' (eVar 0) (eC (.int 0)), e2v pySub' (eVar 0) (eC (.int 3))]) (sSeq (sPut 6 (eLst [])) (sSeq (sFor (.tup [7, 8]) (iD (eTup [eTup [eC (.str [45]), eC (.int 0)], eTup [eC (.str [60]), e1 pyNeg (eC (.int 1))], eTup [eC (.str [62]), eC (.int 1)]])) (b0_acts_of E)) (sSeq (sIf (tB (e1 (pyIsN false) (eVar 2))) (sDo (eExtend 6 (eComp [9] (.name 9) (iD (eVar 3)) ((t1_acts_of E)) (x2_acts_of E)))) (sIf (tB (e2 pyEq (e2v pySub' (e2v pySub' (eVar 5) (eVar 2)) (eC (.int 1))) (eVar 1))) (sDo (eAppend 6 (eTup [eC (.str [118]), eVar 1, eC .non, eC .non]))) (sSkip))) (sRet (eVar 6)))))
def F_acts_of (E : Ec) : Fn := runF 10 (m_acts_of E)
def m_step_of (E : Ec) : M Flow := sRet (e2v pySub' (eVar 0) (eC (.int 0)))
def F_step_of (E : Ec) : Fn := runF 1 (m_step_of E)
def t0_nexts (E : Ec) : M Bool := tAnd (tB (e2 pyNe (eVar 17) (eVar 11))) (tB (e2 pyNe (eVar 17) (eVar 15)))
def x1_nexts (E : Ec) : M R := eVar 17
def b2_nexts (E : Ec) : M Flow := sIf (tB (e2 pyLt (eVar 9) (eVar 13))) (sSeq (sPut 16 (e1 pyTuple (eComp [17] (.name 17) (iD (eVar 6)) ((t0_nexts E)) (x1_nexts E)))) (sDo (eAppend 7 (eTup [eTup [eVar 8, eVar 12], eTup [eVar 9, eVar 13, eVar 10, eVar 14, eVar 16]])))) (sSkip)
def b3_nexts (E : Ec) : M Flow := sFor (.tup [12, 13, 14, 15]) (iD (eCall (F_acts_of E) [(.ref, eVar 0), (.ref, eVar 3), (.ref, eVar 5), (.ref, eVar 6)])) (b2_nexts E)
def m_nexts (E : Ec) : M Flow := sSeq (sUnpack [2, 3, 4, 5, 6] (eVar 1)) (sSeq (sPut 7 (eLst [])) (sSeq (sFor (.tup [8, 9, 10, 11]) (iD (eCall (F_acts_of E) [(.ref, eVar 0), (.ref, eVar 2), (.ref, eVar 4), (.ref, eVar 6)])) (b3_nexts E)) (sRet (e1 (pySortK rowK) (eVar 7)))))
def F_nexts (E : Ec) : Fn := runF 18 (m_nexts E)
def m_is_finished (E : Ec) : M Flow := sRet (e2 pyEq (eSlice (eVar 0) (some (eC (.int 2))) none) (eTup [eC .non, eC .non, eTup []]))
def F_is_finished (E : Ec) : Fn := runF 1 (m_is_finished E)
def b0_distances (E : Ec) : M Flow := sSeq (sSet 2 (eVar 8) (e2 pyAdd (eGet2 (eVar 2) (eVar 8) (eLst [])) (eLst [eVar 6]))) (sIf (tB (eIn true (eVar 8) (eVar 5))) (sSeq (sSet 5 (eVar 8) (eC (.bl true))) (sDo (eAppend 3 (eVar 8)))) (sSkip))
def c1_distances (E : Ec) : M Bool := tB (e2 pyNe (eVar 3) (eLst []))
def w2_distances (E : Ec) : M Flow := sSeq (sPut 6 (ePop 3)) (sFor (.tup [7, 8]) (iD (eCall (F_nexts E) [(.ref, eVar 0), (.ref, eVar 6)])) (b0_distances E))
def t3_distances (E : Ec) : M Bool := tB (eCall (F_is_finished E) [(.ref, eVar 10)])
def x4_distances (E : Ec) : M R := eVar 10
def b5_distances (E : Ec) : M Flow := sSet 4 (eVar 10) (eC (.int 0))
def b6_distances (E : Ec) : M Flow := sIf (tB (eIn true (eVar 12) (eVar 4))) (sSeq (sSet 4 (eVar 12) (e2 pyAdd (e2v pySub' (eVar 4) (eVar 10)) (eC (.int 1)))) (sDo (eAppend 11 (eVar 12)))) (sSkip)
def b7_distances (E : Ec) : M Flow := sFor (.name 12) (iD (eGet2 (eVar 2) (eVar 10) (eLst []))) (b6_distances E)
def c8_distances (E : Ec) : M Bool := tB (e2 pyNe (eVar 9) (eLst []))
def w9_distances (E : Ec) : M Flow := sSeq (sPut 11 (eLst [])) (sSeq (sFor (.name 10) (iD (eVar 9)) (b7_distances E)) (sPut 9 (eVar 11)))
def m_distances (E : Ec) : M Flow := sSeq (sPar [2, 3, 4] [eDict0, eLst [eVar 1], eDict0]) (sSeq (sPut 5 (eDict1 (eVar 1) (eC (.bl true)))) (sSeq (sWhile (c1_distances E) (w2_distances E) fuel) (sSeq (sPut 9 (eComp [10] (.name 10) (iKeys 5) ((t3_distances E)) (x4_distances E))) (sSeq (sFor (.name 10) (iD (eVar 9)) (b5_distances E)) (sSeq (sWhile (c8_distances E) (w9_distances E) fuel) (sRet (eVar 4)))))))
def F_distances (E : Ec) : Fn := runF 13 (m_distances E)
def m_begin (E : Ec) : M Flow := sRet (eTup [e2v pySub' (eVar 0) (eC (.int 1)), e2v pySub' (eVar 0) (eC (.int 2)), eC .non, eC .non, e1 pyTuple (e1 pyListRg (e1 pyLen (e2v pySub' (eVar 0) (eC (.int 3)))))])
def F_begin (E : Ec) : Fn := runF 1 (m_begin E)
def m_fewest_of (E : Ec) : M Flow := sRet (eGet1 (eCall (F_distances E) [(.ref, eVar 0), (.val, eCall (F_begin E) [(.ref, eVar 0)])]) (eCall (F_begin E) [(.ref, eVar 0)]))
def F_fewest_of (E : Ec) : Fn := runF 1 (m_fewest_of E)
def m_fewest (E : Ec) : M Flow := sSeq (sDo (eCall (F_check_yard E) [(.ref, eVar 0)])) (sRet (eCall (F_fewest_of E) [(.ref, eVar 0)]))
def F_fewest (E : Ec) : Fn := runF 1 (m_fewest E)
def m_check_load (E : Ec) : M Flow := sSeq (sDo (eCall (F_check_yard E) [(.ref, eVar 0)])) (sIf (tNot (tB (eCall (F_is_between E) [(.ref, eVar 1), (.val, eC (.int 0)), (.val, e2 pySub (e1 pyLen (e2v pySub' (eVar 0) (eC (.int 3)))) (eC (.int 1)))]))) (sRaise E.load) (sSkip))
def F_check_load (E : Ec) : Fn := runF 2 (m_check_load E)
def t0_set_down (E : Ec) : M Bool := tAnd (tB (e1 (pyIsN true) (eVar 3))) (tB (e1 (pyIsN false) (eVar 4)))
def x1_set_down (E : Ec) : M R := eVar 3
def m_set_down (E : Ec) : M Flow := sSeq (sPut 2 (eLst [eTup [e2v pySub' (eVar 0) (eC (.int 2)), e2v pySub' (eVar 1) (eC (.int 2))], eTup [e2v pySub' (eVar 0) (eC (.int 3)), e2v pySub' (eVar 1) (eC (.int 3))]])) (sRet (eComp [3, 4] (.tup [3, 4]) (iD (eVar 2)) ((t0_set_down E)) (x1_set_down E)))
def F_set_down (E : Ec) : Fn := runF 5 (m_set_down E)
def b0_earliest (E : Ec) : M Flow := sSeq (sIf (tB (eIn false (eVar 1) (eCall (F_set_down E) [(.ref, eVar 6), (.ref, eVar 8)]))) (sRet (eVar 4)) (sSkip)) (sIf (tB (eIn true (eVar 8) (eVar 2))) (sSeq (sSet 2 (eVar 8) (eC (.bl true))) (sDo (eAppend 5 (eVar 8)))) (sSkip))
def b1_earliest (E : Ec) : M Flow := sFor (.tup [7, 8]) (iD (eCall (F_nexts E) [(.ref, eVar 0), (.ref, eVar 6)])) (b0_earliest E)
def c2_earliest (E : Ec) : M Bool := tB (e2 pyNe (eVar 3) (eLst []))
def w3_earliest (E : Ec) : M Flow := sSeq (sPar [5, 4] [eLst [], e2 pyAdd (eVar 4) (eC (.int 1))]) (sSeq (sFor (.name 6) (iD (eVar 3)) (b1_earliest E)) (sPut 3 (eVar 5)))
def m_earliest (E : Ec) : M Flow := sSeq (sDo (eCall (F_check_load E) [(.ref, eVar 0), (.ref, eVar 1)])) (sSeq (sPar [2, 3, 4] [eDict1 (eCall (F_begin E) [(.ref, eVar 0)]) (eC (.bl true)), eLst [eCall (F_begin E) [(.ref, eVar 0)]], eC (.int 0)]) (sSeq (sWhile (c2_earliest E) (w3_earliest E) fuel) (sRet (eC .non))))
def F_earliest (E : Ec) : Fn := runF 9 (m_earliest E)
def t0_found_hopeless (E : Ec) : M Bool := tB (e2 pyEq (e1 pySortT (eVar 3)) (eVar 1))
def x1_found_hopeless (E : Ec) : M R := eVar 2
def m_found_hopeless (E : Ec) : M Flow := sSeq (sPut 1 (eLst [eC (.int 0), e2 pySub (e2v pySub' (eVar 0) (eC (.int 0))) (eC (.int 1))])) (sRet (eComp [2, 3] (.tup [2, 3]) (iEnum (e2v pySub' (eVar 0) (eC (.int 3)))) ((t0_found_hopeless E)) (x1_found_hopeless E)))
def F_found_hopeless (E : Ec) : Fn := runF 4 (m_found_hopeless E)
def m_hopeless (E : Ec) : M Flow := sSeq (sDo (eCall (F_check_yard E) [(.ref, eVar 0)])) (sRet (e1 pyTuple (eCall (F_found_hopeless E) [(.ref, eVar 0)])))
def F_hopeless (E : Ec) : Fn := runF 1 (m_hopeless E)
def x0_does_meet (E : Ec) : M R := e2 pyGe (e2v pySub' (eVar 1) (eVar 10)) (eVar 4)
def b1_does_meet (E : Ec) : M Flow := sSeq (sPut 9 (e1 pyAll (eComp [10] (.name 10) (iD (eCall (F_set_down E) [(.ref, eVar 6), (.ref, eVar 8)])) (mok true) (x0_does_meet E)))) (sIf (tAnd (tB (eVar 9)) (tB (eIn true (eVar 8) (eVar 2)))) (sSeq (sSet 2 (eVar 8) (eC (.bl true))) (sDo (eAppend 5 (eVar 8)))) (sSkip))
def b2_does_meet (E : Ec) : M Flow := sSeq (sIf (tB (eCall (F_is_finished E) [(.ref, eVar 6)])) (sRet (eC (.bl true))) (sSkip)) (sFor (.tup [7, 8]) (iD (eCall (F_nexts E) [(.ref, eVar 0), (.ref, eVar 6)])) (b1_does_meet E))
def c3_does_meet (E : Ec) : M Bool := tB (e2 pyNe (eVar 3) (eLst []))
def w4_does_meet (E : Ec) : M Flow := sSeq (sPar [5, 4] [eLst [], e2 pyAdd (eVar 4) (eC (.int 1))]) (sSeq (sFor (.name 6) (iD (eVar 3)) (b2_does_meet E)) (sPut 3 (eVar 5)))
def m_does_meet (E : Ec) : M Flow := sSeq (sPar [2, 3, 4] [eDict1 (eCall (F_begin E) [(.ref, eVar 0)]) (eC (.bl true)), eLst [eCall (F_begin E) [(.ref, eVar 0)]], eC (.int 0)]) (sSeq (sWhile (c3_does_meet E) (w4_does_meet E) fuel) (sRet (eC (.bl false))))
def F_does_meet (E : Ec) : Fn := runF 11 (m_does_meet E)
def c0_least_dues (E : Ec) : M Bool := tB (e2 pyGt (e2 pySub (e2v pySub' (eVar 1) (eVar 2)) (eVar 3)) (eC (.int 0)))
def w1_least_dues (E : Ec) : M Flow := sSeq (sPut 4 (e2 pyFdiv (e2 pyAdd (eVar 3) (e2v pySub' (eVar 1) (eVar 2))) (eC (.int 2)))) (sIf (tB (eCall (F_does_meet E) [(.ref, eVar 0), (.val, e2 pyAdd (e2 pyAdd (eSlice (eVar 1) none (some (eVar 2))) (eLst [eVar 4])) (eSlice (eVar 1) (some (e2 pyAdd (eVar 2) (eC (.int 1)))) none))])) (sSet 1 (eVar 2) (eVar 4)) (sPut 3 (e2 pyAdd (eVar 4) (eC (.int 1)))))
def b2_least_dues (E : Ec) : M Flow := sSeq (sPut 3 (eC (.int 0))) (sWhile (c0_least_dues E) (w1_least_dues E) fuel)
def m_least_dues (E : Ec) : M Flow := sSeq (sDo (eCall (F_check_yard E) [(.ref, eVar 0)])) (sSeq (sPut 1 (e2 pyMul (eLst [eC (.int 99)]) (e1 pyLen (e2v pySub' (eVar 0) (eC (.int 3)))))) (sSeq (sIf (tNot (tB (eCall (F_does_meet E) [(.ref, eVar 0), (.ref, eVar 1)]))) (sRet (eC .non)) (sSkip)) (sSeq (sFor (.name 2) (iRange1 (e1 pyLen (eVar 1))) (b2_least_dues E)) (sRet (e1 pyTuple (eVar 1))))))
def F_least_dues (E : Ec) : Fn := runF 5 (m_least_dues E)
def x0_can_meet (E : Ec) : M R := eCall (F_is_between E) [(.ref, eVar 2), (.val, eC (.int 0)), (.val, eC (.int 99))]
def m_can_meet (E : Ec) : M Flow := sSeq (sDo (eCall (F_check_yard E) [(.ref, eVar 0)])) (sSeq (sIf (tOr (tNot (tB (e1 (pyIsi .tuple) (eVar 1)))) (tB (e2 pyNe (e1 pyLen (eVar 1)) (e1 pyLen (e2v pySub' (eVar 0) (eC (.int 3))))))) (sRaise E.dues) (sSkip)) (sSeq (sIf (tNot (tB (e1 pyAll (eComp [2] (.name 2) (iD (eVar 1)) (mok true) (x0_can_meet E))))) (sRaise E.dues) (sSkip)) (sRet (eCall (F_does_meet E) [(.ref, eVar 0), (.ref, eVar 1)]))))
def F_can_meet (E : Ec) : Fn := runF 3 (m_can_meet E)
def b0_law (E : Ec) : M Flow := sSeq (sPut 10 (eCall (F_fewest E) [(.val, eTup [eVar 3, eVar 4, eVar 5, eTup [e2v pySub' (eVar 6) (eVar 9)]])])) (sSeq (sIf (tOr (tB (e2 pyNe (eCall (F_earliest E) [(.ref, eVar 2), (.ref, eVar 9)]) (eVar 10))) (tB (e2 pyNe (e1 (pyIsN false) (eVar 10)) (eIn false (eVar 9) (eCall (F_hopeless E) [(.ref, eVar 2)]))))) (sRet (eC (.bl false))) (sSkip)) (sDo (eAppend 8 (eVar 10))))
def x1_law (E : Ec) : M R := e2 pyAdd (e2 pyMul (eC (.int 2)) (eVar 3)) (e2 pyMul (eC (.int 2)) (eVar 3))
def b2_law (E : Ec) : M Flow := sSeq (sPut 12 (e2 pyMul (eLst [eC (.int 99)]) (e1 pyLen (eVar 6)))) (sSeq (sSet 12 (eVar 9) (e2v pySub' (eVar 8) (eVar 9))) (sSeq (sIf (tOr (tB (e1 (pyIsB true true) (eCall (F_can_meet E) [(.ref, eVar 2), (.val, e1 pyTuple (eVar 12))]))) (tB (e2 pyLt (e2v pySub' (eVar 11) (eVar 9)) (e2v pySub' (eVar 8) (eVar 9))))) (sRet (eC (.bl false))) (sSkip)) (sSeq (sSet 12 (eVar 9) (e2 pySub (e2v pySub' (eVar 8) (eVar 9)) (eC (.int 1)))) (sIf (tB (e1 (pyIsB true false) (eCall (F_can_meet E) [(.ref, eVar 2), (.val, e1 pyTuple (eVar 12))]))) (sRet (eC (.bl false))) (sSkip)))))
def m_law (E : Ec) : M Flow := sSeq (sPut 1 (eCall (F_L_town E) [(.ref, eVar 0)])) (sSeq (sPut 2 (eCall (F_L_yard E) [(.ref, eVar 0), (.ref, eVar 1), (.val, eCall (F_L_pick E) [(.ref, eVar 0), (.ref, eVar 1), (.val, eLst [eC (.int 4), eC (.int 4), eC (.int 5)])]), (.val, eCall (F_L_pick E) [(.ref, eVar 0), (.ref, eVar 1), (.val, eLst [eC (.int 2), eC (.int 2), eC (.int 3)])])])) (sSeq (sUnpack [3, 4, 5, 6] (eVar 2)) (sSeq (sPar [7, 8] [eCall (F_fewest E) [(.ref, eVar 2)], eLst []]) (sSeq (sFor (.name 9) (iRange1 (e1 pyLen (eVar 6))) (b0_law E)) (sSeq (sIf (tB (e2 pyNe (eIn false (eC .non) (eVar 8)) (e1 (pyIsN false) (eVar 7)))) (sRet (eC (.bl false))) (sSkip)) (sSeq (sIf (tB (e1 (pyIsN false) (eVar 7))) (sRet (eAnd (e1 (pyIsN false) (eCall (F_least_dues E) [(.ref, eVar 2)])) (e1 (pyIsB false false) (eCall (F_can_meet E) [(.ref, eVar 2), (.val, e2 pyMulT (eTup [eC (.int 99)]) (e1 pyLen (eVar 6)))])))) (sSkip)) (sSeq (sIf (tB (e2 pyLt (eVar 7) (e1 pyMaxL (e2 pyAdd (eLst [eC (.int 0)]) (eVar 8))))) (sRet (eC (.bl false))) (sSkip)) (sSeq (sIf (tB (e2 pyGt (eVar 7) (e1 pySum (eComp [9] (.name 9) (iD (eVar 6)) (mok true) (x1_law E))))) (sRet (eC (.bl false))) (sSkip)) (sSeq (sPut 11 (eCall (F_least_dues E) [(.ref, eVar 2)])) (sSeq (sFor (.name 9) (iRange1 (e1 pyLen (eVar 6))) (b2_law E)) (sSeq (sIf (tAnd (tB (e2 pyGt (e1 pyLen (eVar 6)) (eC (.int 0)))) (tB (e2 pyNe (e2v pySub' (eVar 11) (eC (.int 0))) (e2v pySub' (eVar 8) (eC (.int 0)))))) (sRet (eC (.bl false))) (sSkip)) (sSeq (sIf (tB (e1 (pyIsB true true) (eCall (F_can_meet E) [(.ref, eVar 2), (.val, e2 pyMulT (eTup [eVar 7]) (e1 pyLen (eVar 6)))]))) (sRet (eC (.bl false))) (sSkip)) (sRet (eOr (e2 pyEq (eVar 7) (eC (.int 0))) (e1 (pyIsB false false) (eCall (F_can_meet E) [(.ref, eVar 2), (.val, e2 pyMulT (eTup [e2 pySub (eVar 7) (eC (.int 1))]) (e1 pyLen (eVar 6)))]))))))))))))))))
def F_law (E : Ec) : Fn := runF 13 (m_law E)
end DL

namespace DL
theorem pyLen_t (xs : List D) : pyLen (.tup xs) = some (.pure (.int xs.length)) := rfl
theorem pyLen_l (xs : List D) : pyLen (.lst xs) = some (.pure (.int xs.length)) := rfl
def zs (n : Nat) : List Int := (List.range n).map fun (k : Nat) => (k : Int)
def rg (d : D) : M (List D) := match d with
  | .int n => if n < 1000 ∧ -1000 < n then mok ((List.range n.toNat).map fun (k : Nat) => D.int (k : Int)) else fun _ => .fail
  | _ => fun _ => .fail
theorem iRange1_eq (e : M R) : iRange1 e = mbind (getD e) rg := rfl
theorem rg_int (n : Int) (h1 : -1000 < n) (h2 : n < 1000) : rg (.int n) = mok ((zs n.toNat).map .int) := by
  unfold rg zs
  dsimp only
  rw [if_pos (by omega), List.map_map]
  rfl
theorem rg_nat (n : Nat) (h2 : n < 1000) : rg (.int (n : Int)) = mok ((zs n).map .int) := by
  rw [rg_int _ (by omega) (by omega)]
  simp
theorem rg_lit (n : Nat) (h : n < 1000) : rg (.int (OfNat.ofNat n)) = mok ((zs n).map .int) := rg_nat n h
theorem bindT_name (i : Nat) (d : D) (σ : Sl) : bindT (.name i) d σ = some (σ.set i (some (.pure d))) := rfl
theorem bindT_tup (is : List Nat) (ds : List D) (σ : Sl) : bindT (.tup is) (.tup ds) σ = if ds.length = is.length then some (setAll is ds σ) else none := rfl
theorem pyIxT (xs : List D) (i : Int) : pyIx (.tup xs) (.int i) = (match ixOf i xs.length with
  | some k => xs[k]?
  | none => none) := rfl
theorem pyIxL (xs : List D) (i : Int) : pyIx (.lst xs) (.int i) = (match ixOf i xs.length with
  | some k => xs[k]?
  | none => none) := rfl
def isBtw (d : D) (lo hi : Int) : Bool := match d with
  | .int i => decide (lo ≤ i) && decide (i ≤ hi)
  | _ => false
theorem r_is_between (E : Ec) (d : D) (lo hi : Int) : F_is_between E [.pure d, .pure (.int lo), .pure (.int hi)] = .ok (.pure (.bl (isBtw d lo hi))) [.pure d, .pure (.int lo), .pure (.int hi)] := by
  cases d with
  | int i =>
    by_cases h : lo ≤ i
    · simp [F_is_between, m_is_between, sSeq, sSkip, sPut, sIf, sRet, sRaise, sDo, sUnpack, sPar, eRs, puts, sSet, mbind, mok, eVar, eC, getD, e1, e2, e2v, eItems, eTup, eLst, tB, tNot, tAnd, tOr, eAnd, eOr, eNot, eIf, getI, eChain, asD, view, slotVw, frz, fix, put, eIn, eOpt, eSlice, eM, isS, isL, eFstr, eCall, eArgs, toA, argsS, argS, argIx, giveBack, runF, startF, toArg, backF, backArg, leaveR, bindT_name, bindT_tup, setAll, iD, iRange1_eq, iRange2, eAppend, isMl, isMo, pyIsi, isTy, b2, pySub', pyIxT, pyIxL, pyLen_t, pyLen_l, pyTuple, scrAt, eScrNil, eScrLen, eScrList, eScrIx, List.mapIdx_cons, List.replicate, isBtw, h]
    · simp [F_is_between, m_is_between, sSeq, sSkip, sPut, sIf, sRet, sRaise, sDo, sUnpack, sPar, eRs, puts, sSet, mbind, mok, eVar, eC, getD, e1, e2, e2v, eItems, eTup, eLst, tB, tNot, tAnd, tOr, eAnd, eOr, eNot, eIf, getI, eChain, asD, view, slotVw, frz, fix, put, eIn, eOpt, eSlice, eM, isS, isL, eFstr, eCall, eArgs, toA, argsS, argS, argIx, giveBack, runF, startF, toArg, backF, backArg, leaveR, bindT_name, bindT_tup, setAll, iD, iRange1_eq, iRange2, eAppend, isMl, isMo, pyIsi, isTy, b2, pySub', pyIxT, pyIxL, pyLen_t, pyLen_l, pyTuple, scrAt, eScrNil, eScrLen, eScrList, eScrIx, List.mapIdx_cons, List.replicate, isBtw, h]
  | bl b => simp [F_is_between, m_is_between, sSeq, sSkip, sPut, sIf, sRet, sRaise, sDo, sUnpack, sPar, eRs, puts, sSet, mbind, mok, eVar, eC, getD, e1, e2, e2v, eItems, eTup, eLst, tB, tNot, tAnd, tOr, eAnd, eOr, eNot, eIf, getI, eChain, asD, view, slotVw, frz, fix, put, eIn, eOpt, eSlice, eM, isS, isL, eFstr, eCall, eArgs, toA, argsS, argS, argIx, giveBack, runF, startF, toArg, backF, backArg, leaveR, bindT_name, bindT_tup, setAll, iD, iRange1_eq, iRange2, eAppend, isMl, isMo, pyIsi, isTy, b2, pySub', pyIxT, pyIxL, pyLen_t, pyLen_l, pyTuple, scrAt, eScrNil, eScrLen, eScrList, eScrIx, List.mapIdx_cons, List.replicate, isBtw]
  | non => simp [F_is_between, m_is_between, sSeq, sSkip, sPut, sIf, sRet, sRaise, sDo, sUnpack, sPar, eRs, puts, sSet, mbind, mok, eVar, eC, getD, e1, e2, e2v, eItems, eTup, eLst, tB, tNot, tAnd, tOr, eAnd, eOr, eNot, eIf, getI, eChain, asD, view, slotVw, frz, fix, put, eIn, eOpt, eSlice, eM, isS, isL, eFstr, eCall, eArgs, toA, argsS, argS, argIx, giveBack, runF, startF, toArg, backF, backArg, leaveR, bindT_name, bindT_tup, setAll, iD, iRange1_eq, iRange2, eAppend, isMl, isMo, pyIsi, isTy, b2, pySub', pyIxT, pyIxL, pyLen_t, pyLen_l, pyTuple, scrAt, eScrNil, eScrLen, eScrList, eScrIx, List.mapIdx_cons, List.replicate, isBtw]
  | str s => simp [F_is_between, m_is_between, sSeq, sSkip, sPut, sIf, sRet, sRaise, sDo, sUnpack, sPar, eRs, puts, sSet, mbind, mok, eVar, eC, getD, e1, e2, e2v, eItems, eTup, eLst, tB, tNot, tAnd, tOr, eAnd, eOr, eNot, eIf, getI, eChain, asD, view, slotVw, frz, fix, put, eIn, eOpt, eSlice, eM, isS, isL, eFstr, eCall, eArgs, toA, argsS, argS, argIx, giveBack, runF, startF, toArg, backF, backArg, leaveR, bindT_name, bindT_tup, setAll, iD, iRange1_eq, iRange2, eAppend, isMl, isMo, pyIsi, isTy, b2, pySub', pyIxT, pyIxL, pyLen_t, pyLen_l, pyTuple, scrAt, eScrNil, eScrLen, eScrList, eScrIx, List.mapIdx_cons, List.replicate, isBtw]
  | tup s => simp [F_is_between, m_is_between, sSeq, sSkip, sPut, sIf, sRet, sRaise, sDo, sUnpack, sPar, eRs, puts, sSet, mbind, mok, eVar, eC, getD, e1, e2, e2v, eItems, eTup, eLst, tB, tNot, tAnd, tOr, eAnd, eOr, eNot, eIf, getI, eChain, asD, view, slotVw, frz, fix, put, eIn, eOpt, eSlice, eM, isS, isL, eFstr, eCall, eArgs, toA, argsS, argS, argIx, giveBack, runF, startF, toArg, backF, backArg, leaveR, bindT_name, bindT_tup, setAll, iD, iRange1_eq, iRange2, eAppend, isMl, isMo, pyIsi, isTy, b2, pySub', pyIxT, pyIxL, pyLen_t, pyLen_l, pyTuple, scrAt, eScrNil, eScrLen, eScrList, eScrIx, List.mapIdx_cons, List.replicate, isBtw]
  | lst s => simp [F_is_between, m_is_between, sSeq, sSkip, sPut, sIf, sRet, sRaise, sDo, sUnpack, sPar, eRs, puts, sSet, mbind, mok, eVar, eC, getD, e1, e2, e2v, eItems, eTup, eLst, tB, tNot, tAnd, tOr, eAnd, eOr, eNot, eIf, getI, eChain, asD, view, slotVw, frz, fix, put, eIn, eOpt, eSlice, eM, isS, isL, eFstr, eCall, eArgs, toA, argsS, argS, argIx, giveBack, runF, startF, toArg, backF, backArg, leaveR, bindT_name, bindT_tup, setAll, iD, iRange1_eq, iRange2, eAppend, isMl, isMo, pyIsi, isTy, b2, pySub', pyIxT, pyIxL, pyLen_t, pyLen_l, pyTuple, scrAt, eScrNil, eScrLen, eScrList, eScrIx, List.mapIdx_cons, List.replicate, isBtw]

/-! the draws -/
theorem ix_nat {i n : Nat} (h : i < n) : ixOf (i : Int) n = some i := by
  unfold ixOf
  rw [if_pos (by omega), if_pos (by omega)]
  simp
theorem ix_int {i : Int} {n : Nat} (h : 0 ≤ i ∧ i < n) : ixOf i n = some i.toNat := by
  unfold ixOf
  rw [if_pos h.1, if_pos h.2]
theorem small_of {i : Int} (h : 0 ≤ i ∧ i < 1000000000000) : small i = true := by
  unfold small
  simp only [Bool.and_eq_true, decide_eq_true_eq]
  omega
theorem r_draw (E : Ec) (ns rest : List Int) (c L : Int) (hl : rest.length = ns.length) (hc : 0 ≤ c ∧ c < 1000000) (hL : 0 < L ∧ L < 1000000) :
    ∃ (k : Int) (rest' : List Int), rest'.length = ns.length ∧ 0 ≤ k ∧ k < L ∧ F_L_draw E [.scr ns, .mob none (.lst (.int c :: rest.map .int)), .pure (.int L)] = .ok (.pure (.int k)) [.scr ns, .mob none (.lst (.int (c + 1) :: rest'.map .int)), .pure (.int L)] := by
  have hs : small (c + 1) = true := small_of (by omega)
  have i0 : ∀ m : Nat, ixOf 0 (m + 1) = some 0 := fun m => ix_nat (Nat.succ_pos m)
  have hL1 : L < 1073741824 := by omega
  by_cases hn : ns = []
  · subst hn
    have hr : rest = [] := List.length_eq_zero_iff.mp hl
    subst hr
    have hs7 : small 7 = true := by decide
    exact ⟨(c + 1) * (c + 1) * 7 / 3 % L, [], rfl, Int.emod_nonneg _ (by omega), Int.emod_lt_of_pos _ hL.1, by
      simp [F_L_draw, m_L_draw, sSeq, sSkip, sPut, sIf, sRet, sRaise, sDo, sUnpack, sPar, eRs, puts, sSet, mbind, mok, eVar, eC, getD, e1, e2, e2v, eItems, eTup, eLst, tB, tNot, tAnd, tOr, eAnd, eOr, eNot, eIf, getI, eChain, asD, view, slotVw, frz, fix, put, eIn, eOpt, eSlice, eM, isS, isL, eFstr, eCall, eArgs, toA, argsS, argS, argIx, giveBack, runF, startF, toArg, backF, backArg, leaveR, bindT_name, bindT_tup, setAll, iD, iRange1_eq, iRange2, eAppend, isMl, isMo, pyIsi, isTy, b2, pySub', pyIxT, pyIxL, pyLen_t, pyLen_l, pyTuple, scrAt, eScrNil, eScrLen, eScrList, eScrIx, List.mapIdx_cons, List.replicate, pyAdd, pyMul, pyFdiv, pyMod, hs, hs7, hL.1, i0]⟩
  · have hlen : 0 < ns.length := List.length_pos_iff.mpr hn
    have hm1 : 0 ≤ (c + 1) % (ns.length : Int) := Int.emod_nonneg _ (by omega)
    have hm2 : (c + 1) % (ns.length : Int) < ns.length := Int.emod_lt_of_pos _ (by omega)
    obtain ⟨a, ha⟩ : ∃ a : Nat, (c + 1) % (ns.length : Int) = a := ⟨((c + 1) % (ns.length : Int)).toNat, by omega⟩
    have han : a < ns.length := by omega
    have har : a < rest.length := by omega
    have j1 : ixOf ((a : Int)) ns.length = some a := ix_nat han
    have j2 : ixOf (1 + (a : Int)) (rest.length + 1) = some (a + 1) := by
      have := ix_nat (i := a + 1) (n := rest.length + 1) (by omega)
      rw [show (1 : Int) + (a : Int) = ((a + 1 : Nat) : Int) by omega]
      exact this
    have hem : ns.isEmpty = false := by simpa using hn
    have hp : (10 : Int) ^ 18 = 1000000000000000000 := by decide
    have hs10 : small 10 = true := by decide
    have x1 : ns[a]? = some ns[a] := by simp [han]
    have x2 : rest[a]? = some rest[a] := by simp [har]
    by_cases hb : (1000000000000000000 : Int) ≤ ns[a] ∧ 0 < rest[a]
    · refine ⟨rest[a] % L, rest.set a (rest[a] / L), by simpa using hl, Int.emod_nonneg _ (by omega), Int.emod_lt_of_pos _ hL.1, ?_⟩
      simp [F_L_draw, m_L_draw, sSeq, sSkip, sPut, sIf, sRet, sRaise, sDo, sUnpack, sPar, eRs, puts, sSet, mbind, mok, eVar, eC, getD, e1, e2, e2v, eItems, eTup, eLst, tB, tNot, tAnd, tOr, eAnd, eOr, eNot, eIf, getI, eChain, asD, view, slotVw, frz, fix, put, eIn, eOpt, eSlice, eM, isS, isL, eFstr, eCall, eArgs, toA, argsS, argS, argIx, giveBack, runF, startF, toArg, backF, backArg, leaveR, bindT_name, bindT_tup, setAll, iD, iRange1_eq, iRange2, eAppend, isMl, isMo, pyIsi, isTy, b2, pySub', pyIxT, pyIxL, pyLen_t, pyLen_l, pyTuple, scrAt, eScrNil, eScrLen, eScrList, eScrIx, List.mapIdx_cons, List.replicate, pyAdd, pyMul, pyFdiv, pyMod, pyPow, pyGe, pyGt, hem, hlen, hL.1, hL1, i0, ha, j1, j2, x1, x2, hs10, hb.1, hb.2, List.map_set]
    · have q1 : 0 ≤ (ns[a] + 104729 * (c + 1)) % 4294967291 := Int.emod_nonneg _ (by decide)
      have q2 : (ns[a] + 104729 * (c + 1)) % 4294967291 < 4294967291 := Int.emod_lt_of_pos _ (by decide)
      have hsn : small ((ns[a] + 104729 * (c + 1)) % 4294967291) = true := small_of (by omega)
      have hsk : small 104729 = true := by decide
      have hsq : small 69621 = true := by decide
      refine ⟨(((ns[a] + 104729 * (c + 1)) % 4294967291) ^ 5 % 4294967279 / 64 * 69621 + ((ns[a] + 104729 * (c + 1)) % 4294967291) ^ 5 % 4294967279) % 4294967231 / 8 % L, rest, hl, Int.emod_nonneg _ (by omega), Int.emod_lt_of_pos _ hL.1, ?_⟩
      by_cases h1 : (1000000000000000000 : Int) ≤ ns[a]
      · have h2 : ¬ 0 < rest[a] := fun z => hb ⟨h1, z⟩
        simp [F_L_draw, m_L_draw, sSeq, sSkip, sPut, sIf, sRet, sRaise, sDo, sUnpack, sPar, eRs, puts, sSet, mbind, mok, eVar, eC, getD, e1, e2, e2v, eItems, eTup, eLst, tB, tNot, tAnd, tOr, eAnd, eOr, eNot, eIf, getI, eChain, asD, view, slotVw, frz, fix, put, eIn, eOpt, eSlice, eM, isS, isL, eFstr, eCall, eArgs, toA, argsS, argS, argIx, giveBack, runF, startF, toArg, backF, backArg, leaveR, bindT_name, bindT_tup, setAll, iD, iRange1_eq, iRange2, eAppend, isMl, isMo, pyIsi, isTy, b2, pySub', pyIxT, pyIxL, pyLen_t, pyLen_l, pyTuple, scrAt, eScrNil, eScrLen, eScrList, eScrIx, List.mapIdx_cons, List.replicate, pyAdd, pyMul, pyFdiv, pyMod, pyPow, pyGe, pyGt, hem, hlen, hL.1, hL1, i0, ha, j1, j2, x1, x2, hs10, h1, h2, hsn, hsk, hsq]
      · simp [F_L_draw, m_L_draw, sSeq, sSkip, sPut, sIf, sRet, sRaise, sDo, sUnpack, sPar, eRs, puts, sSet, mbind, mok, eVar, eC, getD, e1, e2, e2v, eItems, eTup, eLst, tB, tNot, tAnd, tOr, eAnd, eOr, eNot, eIf, getI, eChain, asD, view, slotVw, frz, fix, put, eIn, eOpt, eSlice, eM, isS, isL, eFstr, eCall, eArgs, toA, argsS, argS, argIx, giveBack, runF, startF, toArg, backF, backArg, leaveR, bindT_name, bindT_tup, setAll, iD, iRange1_eq, iRange2, eAppend, isMl, isMo, pyIsi, isTy, b2, pySub', pyIxT, pyIxL, pyLen_t, pyLen_l, pyTuple, scrAt, eScrNil, eScrLen, eScrList, eScrIx, List.mapIdx_cons, List.replicate, pyAdd, pyMul, pyFdiv, pyMod, pyPow, pyGe, pyGt, hem, hlen, hL.1, hL1, i0, ha, j1, j2, x1, x2, hs10, h1, hsn, hsk, hsq]

/-! yards -/
structure Y where
  n : Int
  l : Int
  r : Int
  ld : List (Int × Int)
def prD (p : Int × Int) : D := .tup [.int p.1, .int p.2]
def yD (y : Y) : D := .tup [.int y.n, .int y.l, .int y.r, .tup (y.ld.map prD)]
def okP (n : Int) (p : Int × Int) : Prop := 0 ≤ p.1 ∧ p.1 < n ∧ 0 ≤ p.2 ∧ p.2 < n ∧ p.1 ≠ p.2
structure okY (y : Y) : Prop where
  n2 : 2 ≤ y.n
  n6 : y.n ≤ 6
  l0 : 0 ≤ y.l
  lr : y.l < y.r
  rn : y.r < y.n
  len : y.ld.length ≤ 3
  ld : ∀ p ∈ y.ld, okP y.n p
theorem srt2 {a b n : Int} (hn : 2 ≤ n) : pyEq (.lst ((sortI [a, b]).map .int)) (.lst [.int 0, .int (n - 1)]) = some (.pure (.bl (decide ((a = 0 ∧ b = n - 1) ∨ (a = n - 1 ∧ b = 0))))) := by
  unfold pyEq b2
  rw [if_pos (Or.inl (by simp [D.dep, D.deps]))]
  by_cases h : a ≤ b
  · simp only [sortI, insI, h, if_true, List.map_cons, List.map_nil, D.eqv, D.eqvs, Bool.and_true]
    congr 3
    rw [Bool.eq_iff_iff]
    simp
    omega
  · simp only [sortI, insI, h, if_false, List.map_cons, List.map_nil, D.eqv, D.eqvs, Bool.and_true]
    congr 3
    rw [Bool.eq_iff_iff]
    simp
    omega
theorem eqI (a b : Int) : pyEq (.int a) (.int b) = some (.pure (.bl (a == b))) := by simp [pyEq, D.dep, b2, D.eqv]
theorem neI (a b : Int) : pyNe (.int a) (.int b) = some (.pure (.bl (!(a == b)))) := by simp [pyNe, D.dep, b2, D.eqv]
theorem goal_ne {a b n : Int} (hn : 2 ≤ n ∧ n ≤ 6) (ha : 0 ≤ a ∧ a < n) (hb : 0 ≤ b ∧ b < n - 1) : 0 ≤ (a + 1 + b) % n ∧ (a + 1 + b) % n < n ∧ a ≠ (a + 1 + b) % n := by
  have : n = 2 ∨ n = 3 ∨ n = 4 ∨ n = 5 ∨ n = 6 := by omega
  rcases this with rfl | rfl | rfl | rfl | rfl <;> omega
theorem yard_step (E : Ec) (ns rest : List Int) (c n : Int) (ld : List (Int × Int)) (q2 q3 q5 q6 q8 q9 q10 : Option S) (hl : rest.length = ns.length) (hc : 0 ≤ c ∧ c < 900000) (hn : 2 ≤ n ∧ n ≤ 6) (hz : ld.length < 1000) :
    ∃ (c' : Int) (rest' : List Int) (p : Int × Int) (q9' q10' : Option S), rest'.length = ns.length ∧ c ≤ c' ∧ c' ≤ c + 3 ∧ okP n p ∧
      b0_L_yard E [some (.scr ns), some (.mob (some 1) (.lst (.int c :: rest.map .int))), q2, q3, some (.pure (.int n)), q5, q6, some (.mob none (.lst (ld.map prD))), q8, q9, q10]
        = .ok .next [some (.scr ns), some (.mob (some 1) (.lst (.int c' :: rest'.map .int))), q2, q3, some (.pure (.int n)), q5, q6, some (.mob none (.lst ((ld ++ [p]).map prD))), q8, q9', q10'] := by
  obtain ⟨k1, r1, l1, a1, b1, d1⟩ := r_draw E ns rest c n hl (by omega) (by omega)
  obtain ⟨k2, r2, l2, a2, b2', d2⟩ := r_draw E ns r1 (c + 1) (n - 1) l1 (by omega) (by omega)
  obtain ⟨k3, r3, l3, a3, b3, d3⟩ := r_draw E ns r2 (c + 1 + 1) 6 l2 (by omega) (by omega)
  obtain ⟨g0, g1, g2⟩ := goal_ne hn ⟨a1, b1⟩ ⟨a2, b2'⟩
  have hz2 : ld.length < zLine := by unfold zLine; omega
  have hn0 : 0 < n := by omega
  have st := srt2 (a := k1) (b := (k1 + 1 + k2) % n) (n := n) hn.1
  generalize hg : (k1 + 1 + k2) % n = g at *
  by_cases hcnd : (k1 = 0 ∧ g = n - 1) ∨ (k1 = n - 1 ∧ g = 0)
  · by_cases h2 : 2 < n
    · by_cases h3 : 0 < k3
      · by_cases h4 : (g == 0) = true
        · refine ⟨c + 3, r3, (1, 0), some (.pure (.int 1)), some (.pure (.int 0)), l3, by omega, by omega, ⟨by decide, by omega, by decide, by omega, by decide⟩, ?_⟩
          simp [b0_L_yard, sSeq, sSkip, sPut, sIf, sRet, sRaise, sDo, sUnpack, sPar, eRs, puts, sSet, mbind, mok, eVar, eC, getD, e1, e2, e2v, eItems, eTup, eLst, tB, tNot, tAnd, tOr, eAnd, eOr, eNot, eIf, getI, eChain, asD, view, slotVw, frz, fix, put, eIn, eOpt, eSlice, eM, isS, isL, eFstr, eCall, eArgs, toA, argsS, argS, argIx, giveBack, runF, startF, toArg, backF, backArg, leaveR, bindT_name, bindT_tup, setAll, iD, iRange1_eq, iRange2, eAppend, isMl, isMo, pyIsi, isTy, b2, pySub', pyIxT, pyIxL, pyLen_t, pyLen_l, pyTuple, scrAt, eScrNil, eScrLen, eScrList, eScrIx, List.mapIdx_cons, List.replicate, d1, d2, d3, pyAdd, pySub, pyMod, pyGt, pySortI, intsD, hn0, hg, st, hcnd, h2, h3, h4, eqI, prD, hz2]
          omega
        · refine ⟨c + 3, r3, (0, 1), some (.pure (.int 0)), some (.pure (.int 1)), l3, by omega, by omega, ⟨by decide, by omega, by decide, by omega, by decide⟩, ?_⟩
          simp [b0_L_yard, sSeq, sSkip, sPut, sIf, sRet, sRaise, sDo, sUnpack, sPar, eRs, puts, sSet, mbind, mok, eVar, eC, getD, e1, e2, e2v, eItems, eTup, eLst, tB, tNot, tAnd, tOr, eAnd, eOr, eNot, eIf, getI, eChain, asD, view, slotVw, frz, fix, put, eIn, eOpt, eSlice, eM, isS, isL, eFstr, eCall, eArgs, toA, argsS, argS, argIx, giveBack, runF, startF, toArg, backF, backArg, leaveR, bindT_name, bindT_tup, setAll, iD, iRange1_eq, iRange2, eAppend, isMl, isMo, pyIsi, isTy, b2, pySub', pyIxT, pyIxL, pyLen_t, pyLen_l, pyTuple, scrAt, eScrNil, eScrLen, eScrList, eScrIx, List.mapIdx_cons, List.replicate, d1, d2, d3, pyAdd, pySub, pyMod, pyGt, pySortI, intsD, hn0, hg, st, hcnd, h2, h3, h4, eqI, prD, hz2]
          omega
      · refine ⟨c + 3, r3, (k1, g), some (.pure (.int k1)), some (.pure (.int (g))), l3, by omega, by omega, ⟨a1, b1, g0, g1, g2⟩, ?_⟩
        simp [b0_L_yard, sSeq, sSkip, sPut, sIf, sRet, sRaise, sDo, sUnpack, sPar, eRs, puts, sSet, mbind, mok, eVar, eC, getD, e1, e2, e2v, eItems, eTup, eLst, tB, tNot, tAnd, tOr, eAnd, eOr, eNot, eIf, getI, eChain, asD, view, slotVw, frz, fix, put, eIn, eOpt, eSlice, eM, isS, isL, eFstr, eCall, eArgs, toA, argsS, argS, argIx, giveBack, runF, startF, toArg, backF, backArg, leaveR, bindT_name, bindT_tup, setAll, iD, iRange1_eq, iRange2, eAppend, isMl, isMo, pyIsi, isTy, b2, pySub', pyIxT, pyIxL, pyLen_t, pyLen_l, pyTuple, scrAt, eScrNil, eScrLen, eScrList, eScrIx, List.mapIdx_cons, List.replicate, d1, d2, d3, pyAdd, pySub, pyMod, pyGt, pySortI, intsD, hn0, hg, st, hcnd, h2, h3, prD, hz2]
        omega
    · refine ⟨c + 2, r2, (k1, g), some (.pure (.int k1)), some (.pure (.int (g))), l2, by omega, by omega, ⟨a1, b1, g0, g1, g2⟩, ?_⟩
      simp [b0_L_yard, sSeq, sSkip, sPut, sIf, sRet, sRaise, sDo, sUnpack, sPar, eRs, puts, sSet, mbind, mok, eVar, eC, getD, e1, e2, e2v, eItems, eTup, eLst, tB, tNot, tAnd, tOr, eAnd, eOr, eNot, eIf, getI, eChain, asD, view, slotVw, frz, fix, put, eIn, eOpt, eSlice, eM, isS, isL, eFstr, eCall, eArgs, toA, argsS, argS, argIx, giveBack, runF, startF, toArg, backF, backArg, leaveR, bindT_name, bindT_tup, setAll, iD, iRange1_eq, iRange2, eAppend, isMl, isMo, pyIsi, isTy, b2, pySub', pyIxT, pyIxL, pyLen_t, pyLen_l, pyTuple, scrAt, eScrNil, eScrLen, eScrList, eScrIx, List.mapIdx_cons, List.replicate, d1, d2, d3, pyAdd, pySub, pyMod, pyGt, pySortI, intsD, hn0, hg, st, hcnd, h2, prD, hz2]
      omega
  · refine ⟨c + 2, r2, (k1, g), some (.pure (.int k1)), some (.pure (.int (g))), l2, by omega, by omega, ⟨a1, b1, g0, g1, g2⟩, ?_⟩
    simp [b0_L_yard, sSeq, sSkip, sPut, sIf, sRet, sRaise, sDo, sUnpack, sPar, eRs, puts, sSet, mbind, mok, eVar, eC, getD, e1, e2, e2v, eItems, eTup, eLst, tB, tNot, tAnd, tOr, eAnd, eOr, eNot, eIf, getI, eChain, asD, view, slotVw, frz, fix, put, eIn, eOpt, eSlice, eM, isS, isL, eFstr, eCall, eArgs, toA, argsS, argS, argIx, giveBack, runF, startF, toArg, backF, backArg, leaveR, bindT_name, bindT_tup, setAll, iD, iRange1_eq, iRange2, eAppend, isMl, isMo, pyIsi, isTy, b2, pySub', pyIxT, pyIxL, pyLen_t, pyLen_l, pyTuple, scrAt, eScrNil, eScrLen, eScrList, eScrIx, List.mapIdx_cons, List.replicate, d1, d2, d3, pyAdd, pySub, pyMod, pyGt, pySortI, intsD, hn0, hg, st, hcnd, prD, hz2]
    omega

theorem yard_loop (E : Ec) (ns : List Int) (n : Int) (hn : 2 ≤ n ∧ n ≤ 6) (q2 q3 q5 q6 : Option S) : ∀ (ds : List D) (rest : List Int) (c : Int) (ld : List (Int × Int)) (q8 q9 q10 : Option S), rest.length = ns.length → 0 ≤ c → c + 3 * ds.length < 900000 → ld.length + ds.length < 1000 → (∀ p ∈ ld, okP n p) →
    ∃ (c' : Int) (rest' : List Int) (ld' : List (Int × Int)) (q8' q9' q10' : Option S), rest'.length = ns.length ∧ c ≤ c' ∧ c' ≤ c + 3 * ds.length ∧ (∀ p ∈ ld', okP n p) ∧ ld'.length = ld.length + ds.length ∧
      goFor (.name 8) (b0_L_yard E) ds [some (.scr ns), some (.mob (some 1) (.lst (.int c :: rest.map .int))), q2, q3, some (.pure (.int n)), q5, q6, some (.mob none (.lst (ld.map prD))), q8, q9, q10]
        = .ok .next [some (.scr ns), some (.mob (some 1) (.lst (.int c' :: rest'.map .int))), q2, q3, some (.pure (.int n)), q5, q6, some (.mob none (.lst (ld'.map prD))), q8', q9', q10']
  | [], rest, c, ld, q8, q9, q10, hl, hc, _, _, hp => ⟨c, rest, ld, q8, q9, q10, hl, by omega, by simp, hp, by simp, rfl⟩
  | d :: ds, rest, c, ld, q8, q9, q10, hl, hc, hb, hz, hp => by
    simp only [List.length_cons] at hb hz
    obtain ⟨c1, r1, p, q9', q10', l1, k1, k2, op, e⟩ := yard_step E ns rest c n ld q2 q3 q5 q6 (some (.pure d)) q9 q10 hl (by omega) hn (by omega)
    obtain ⟨c2, r2, ld2, w8, w9, w10, l2, m1, m2, op2, z2, e2'⟩ := yard_loop E ns n hn q2 q3 q5 q6 ds r1 c1 (ld ++ [p]) (some (.pure d)) q9' q10' l1 (by omega) (by omega) (by simp; omega) (fun x hx => by
      rcases List.mem_append.mp hx with h | h
      · exact hp x h
      · rw [List.mem_singleton.mp h]; exact op)
    refine ⟨c2, r2, ld2, w8, w9, w10, l2, by omega, by simp; omega, op2, by simp at z2 ⊢; omega, ?_⟩
    simp only [goFor, bindT, List.set_cons_succ, List.set_cons_zero, e]
    exact e2'
theorem r_yard (E : Ec) (ns rest : List Int) (c most loads : Int) (hl : rest.length = ns.length) (hc : 0 ≤ c ∧ c < 800000) (hm : 2 ≤ most ∧ most ≤ 6) (hk : 0 ≤ loads ∧ loads ≤ 3) :
    ∃ (c' : Int) (rest' : List Int) (y : Y), rest'.length = ns.length ∧ c ≤ c' ∧ c' ≤ c + 13 ∧ okY y ∧ y.n ≤ most ∧ y.ld.length ≤ loads ∧
      F_L_yard E [.scr ns, .mob none (.lst (.int c :: rest.map .int)), .pure (.int most), .pure (.int loads)] = .ok (.pure (yD y)) [.scr ns, .mob none (.lst (.int c' :: rest'.map .int)), .pure (.int most), .pure (.int loads)] := by
  obtain ⟨k1, r1, l1, a1, b1, d1⟩ := r_draw E ns rest c (most - 1) hl (by omega) (by omega)
  obtain ⟨k2, r2, l2, a2, b2', d2⟩ := r_draw E ns r1 (c + 1) (2 + k1 - 1) l1 (by omega) (by omega)
  obtain ⟨k3, r3, l3, a3, b3, d3⟩ := r_draw E ns r2 (c + 1 + 1) (2 + k1 - 1 - k2) l2 (by omega) (by omega)
  obtain ⟨k4, r4, l4, a4, b4, d4⟩ := r_draw E ns r3 (c + 1 + 1 + 1) (loads + 1) l3 (by omega) (by omega)
  obtain ⟨c', r5, ld, q8, q9, q10, l5, m1, m2, op, z, e⟩ := yard_loop E ns (2 + k1) (by omega) (some (.pure (.int most))) (some (.pure (.int loads))) (some (.pure (.int k2))) (some (.pure (.int (k2 + 1 + k3)))) ((zs k4.toNat).map .int) r4 (c + 1 + 1 + 1 + 1) [] none none none l4 (by omega) (by simp [zs]; omega) (by simp [zs]; omega) (by simp)
  simp [zs] at z m2
  simp only [List.map_nil] at e
  refine ⟨c', r5, ⟨2 + k1, k2, k2 + 1 + k3, ld⟩, l5, by omega, by omega, ⟨by simp; omega, by simp; omega, a2, by simp; omega, by simp; omega, by simp; omega, op⟩, by simp; omega, by simp; omega, ?_⟩
  have hk4 := rg_int k4 (by omega) (by omega)
  simp [F_L_yard, m_L_yard, sSeq, sSkip, sPut, sIf, sRet, sRaise, sDo, sUnpack, sPar, eRs, puts, sSet, mbind, mok, eVar, eC, getD, e1, e2, e2v, eItems, eTup, eLst, tB, tNot, tAnd, tOr, eAnd, eOr, eNot, eIf, getI, eChain, asD, view, slotVw, frz, fix, put, eIn, eOpt, eSlice, eM, isS, isL, eFstr, eCall, eArgs, toA, argsS, argS, argIx, giveBack, runF, startF, toArg, backF, backArg, leaveR, bindT_name, bindT_tup, setAll, iD, iRange1_eq, iRange2, eAppend, isMl, isMo, pyIsi, isTy, b2, pySub', pyIxT, pyIxL, pyLen_t, pyLen_l, pyTuple, scrAt, eScrNil, eScrLen, eScrList, eScrIx, List.mapIdx_cons, List.replicate, sFor, d1, d2, d3, d4, pyAdd, pySub, hk4, e, yD]

/-! comprehensions that map -/
theorem comp_map {vs : List Nat} {tg : Tg} {t : M Bool} {e : M R} {σ : Sl} (f : D → D) : ∀ (ds acc : List D), (∀ d ∈ ds, ∃ σ1 σ2, bindT tg d σ = some σ1 ∧ t σ1 = .ok true σ1 ∧ mbind e frz σ1 = .ok (f d) σ2 ∧ wipeS σ2 vs = σ) → acc.length + ds.length ≤ zLine →
    goComp vs tg t e ds acc σ = .ok (acc ++ ds.map f) σ
  | [], acc, _, _ => by simp [goComp, mok]
  | d :: ds, acc, h, hz => by
    obtain ⟨σ1, σ2, h1, h2, h3, h4⟩ := h d List.mem_cons_self
    simp only [List.length_cons] at hz
    have ih := comp_map f ds (acc ++ [f d]) (fun x hx => h x (List.mem_cons_of_mem _ hx)) (by simp; omega)
    have hlt : acc.length < zLine := by omega
    simp only [goComp, h1, h2, h3, hlt, if_true, h4, ih]
    simp
/-! is_yard -/
def chk (n : Int) : D → Bool
  | .tup [p, q] => isBtw p 0 (n - 1) && isBtw q 0 (n - 1)
  | _ => false
def df2 : D → Bool
  | .tup [.int p, .int q] => !(p == q)
  | _ => false
def isYd : D → Bool
  | .tup [.int n, .int l, .int r, .tup ls] => decide (2 ≤ n) && decide (n ≤ 6) && (decide (0 ≤ r) && decide (r ≤ n - 1)) && (decide (0 ≤ l) && decide (l ≤ r - 1)) && decide (ls.length ≤ 3) && ls.all (chk n) && ls.all df2
  | _ => false
theorem load_step (E : Ec) (n : Int) (l : D) (q0 q2 q3 q4 q6 : Option S) :
    ∃ q6', b1_is_yard E [q0, some (.pure (.int n)), q2, q3, q4, some (.pure l), q6] = (if chk n l = true then .ok .next [q0, some (.pure (.int n)), q2, q3, q4, some (.pure l), q6'] else .ok (.ret (.pure (.bl false))) [q0, some (.pure (.int n)), q2, q3, q4, some (.pure l), q6']) := by
  cases l with
  | tup xs =>
    match xs with
    | [] => exact ⟨q6, by simp [b1_is_yard, sSeq, sSkip, sPut, sIf, sRet, sRaise, sDo, sUnpack, sPar, eRs, puts, sSet, mbind, mok, eVar, eC, getD, e1, e2, e2v, eItems, eTup, eLst, tB, tNot, tAnd, tOr, eAnd, eOr, eNot, eIf, getI, eChain, asD, view, slotVw, frz, fix, put, eIn, eOpt, eSlice, eM, isS, isL, eFstr, eCall, eArgs, toA, argsS, argS, argIx, giveBack, runF, startF, toArg, backF, backArg, leaveR, bindT_name, bindT_tup, setAll, iD, iRange1_eq, iRange2, eAppend, isMl, isMo, pyIsi, isTy, b2, pySub', pyIxT, pyIxL, pyLen_t, pyLen_l, pyTuple, scrAt, eScrNil, eScrLen, eScrList, eScrIx, List.mapIdx_cons, List.replicate, chk, neI]⟩
    | [_] => exact ⟨q6, by simp [b1_is_yard, sSeq, sSkip, sPut, sIf, sRet, sRaise, sDo, sUnpack, sPar, eRs, puts, sSet, mbind, mok, eVar, eC, getD, e1, e2, e2v, eItems, eTup, eLst, tB, tNot, tAnd, tOr, eAnd, eOr, eNot, eIf, getI, eChain, asD, view, slotVw, frz, fix, put, eIn, eOpt, eSlice, eM, isS, isL, eFstr, eCall, eArgs, toA, argsS, argS, argIx, giveBack, runF, startF, toArg, backF, backArg, leaveR, bindT_name, bindT_tup, setAll, iD, iRange1_eq, iRange2, eAppend, isMl, isMo, pyIsi, isTy, b2, pySub', pyIxT, pyIxL, pyLen_t, pyLen_l, pyTuple, scrAt, eScrNil, eScrLen, eScrList, eScrIx, List.mapIdx_cons, List.replicate, chk, neI]⟩
    | [p, q] =>
      refine ⟨none, ?_⟩
      cases h1 : isBtw p 0 (n - 1) <;> cases h2 : isBtw q 0 (n - 1) <;>
        simp [b1_is_yard, sSeq, sSkip, sPut, sIf, sRet, sRaise, sDo, sUnpack, sPar, eRs, puts, sSet, mbind, mok, eVar, eC, getD, e1, e2, e2v, eItems, eTup, eLst, tB, tNot, tAnd, tOr, eAnd, eOr, eNot, eIf, getI, eChain, asD, view, slotVw, frz, fix, put, eIn, eOpt, eSlice, eM, isS, isL, eFstr, eCall, eArgs, toA, argsS, argS, argIx, giveBack, runF, startF, toArg, backF, backArg, leaveR, bindT_name, bindT_tup, setAll, iD, iRange1_eq, iRange2, eAppend, isMl, isMo, pyIsi, isTy, b2, pySub', pyIxT, pyIxL, pyLen_t, pyLen_l, pyTuple, scrAt, eScrNil, eScrLen, eScrList, eScrIx, List.mapIdx_cons, List.replicate, chk, neI, eComp, goComp, wipeS, x0_is_yard, r_is_between, pySub, zLine, pyAll, boolsD, h1, h2]
    | a :: b :: c :: r =>
      have : ¬ ((r.length : Int) + 1 + 1 + 1 = 2) := by omega
      exact ⟨q6, by simp [b1_is_yard, sSeq, sSkip, sPut, sIf, sRet, sRaise, sDo, sUnpack, sPar, eRs, puts, sSet, mbind, mok, eVar, eC, getD, e1, e2, e2v, eItems, eTup, eLst, tB, tNot, tAnd, tOr, eAnd, eOr, eNot, eIf, getI, eChain, asD, view, slotVw, frz, fix, put, eIn, eOpt, eSlice, eM, isS, isL, eFstr, eCall, eArgs, toA, argsS, argS, argIx, giveBack, runF, startF, toArg, backF, backArg, leaveR, bindT_name, bindT_tup, setAll, iD, iRange1_eq, iRange2, eAppend, isMl, isMo, pyIsi, isTy, b2, pySub', pyIxT, pyIxL, pyLen_t, pyLen_l, pyTuple, scrAt, eScrNil, eScrLen, eScrList, eScrIx, List.mapIdx_cons, List.replicate, chk, neI, this]⟩
  | _ => exact ⟨q6, by simp [b1_is_yard, sSeq, sSkip, sPut, sIf, sRet, sRaise, sDo, sUnpack, sPar, eRs, puts, sSet, mbind, mok, eVar, eC, getD, e1, e2, e2v, eItems, eTup, eLst, tB, tNot, tAnd, tOr, eAnd, eOr, eNot, eIf, getI, eChain, asD, view, slotVw, frz, fix, put, eIn, eOpt, eSlice, eM, isS, isL, eFstr, eCall, eArgs, toA, argsS, argS, argIx, giveBack, runF, startF, toArg, backF, backArg, leaveR, bindT_name, bindT_tup, setAll, iD, iRange1_eq, iRange2, eAppend, isMl, isMo, pyIsi, isTy, b2, pySub', pyIxT, pyIxL, pyLen_t, pyLen_l, pyTuple, scrAt, eScrNil, eScrLen, eScrList, eScrIx, List.mapIdx_cons, List.replicate, chk]⟩
theorem load_loop (E : Ec) (n : Int) (q0 q2 q3 q4 : Option S) : ∀ (ls : List D) (q5 q6 : Option S), ∃ q5' q6', goFor (.name 5) (b1_is_yard E) ls [q0, some (.pure (.int n)), q2, q3, q4, q5, q6]
    = (if ls.all (chk n) = true then .ok .next [q0, some (.pure (.int n)), q2, q3, q4, q5', q6'] else .ok (.ret (.pure (.bl false))) [q0, some (.pure (.int n)), q2, q3, q4, q5', q6'])
  | [], q5, q6 => ⟨q5, q6, by simp [goFor, mok]⟩
  | l :: ls, q5, q6 => by
    obtain ⟨w6, e⟩ := load_step E n l q0 q2 q3 q4 q6
    by_cases h : chk n l = true
    · obtain ⟨v5, v6, e'⟩ := load_loop E n q0 q2 q3 q4 ls (some (.pure l)) w6
      refine ⟨v5, v6, ?_⟩
      simp only [goFor, bindT, List.set_cons_succ, List.set_cons_zero, e, h, if_true, e', List.all_cons, Bool.true_and]
    · refine ⟨some (.pure l), w6, ?_⟩
      simp only [goFor, bindT, List.set_cons_succ, List.set_cons_zero, e, h, if_false, List.all_cons, Bool.false_and, Bool.false_eq_true]
theorem bools_map (f : D → Bool) : ∀ ds : List D, boolsD (ds.map fun d => .bl (f d)) = some (ds.map f)
  | [] => rfl
  | d :: ds => by simp [boolsD, bools_map f ds]
theorem r_is_yard (E : Ec) (d : D) : F_is_yard E [.pure d] = .ok (.pure (.bl (isYd d))) [.pure d] := by
  cases d with
  | tup xs =>
    match xs with
    | [] => simp [F_is_yard, m_is_yard, sSeq, sSkip, sPut, sIf, sRet, sRaise, sDo, sUnpack, sPar, eRs, puts, sSet, mbind, mok, eVar, eC, getD, e1, e2, e2v, eItems, eTup, eLst, tB, tNot, tAnd, tOr, eAnd, eOr, eNot, eIf, getI, eChain, asD, view, slotVw, frz, fix, put, eIn, eOpt, eSlice, eM, isS, isL, eFstr, eCall, eArgs, toA, argsS, argS, argIx, giveBack, runF, startF, toArg, backF, backArg, leaveR, bindT_name, bindT_tup, setAll, iD, iRange1_eq, iRange2, eAppend, isMl, isMo, pyIsi, isTy, b2, pySub', pyIxT, pyIxL, pyLen_t, pyLen_l, pyTuple, scrAt, eScrNil, eScrLen, eScrList, eScrIx, List.mapIdx_cons, List.replicate, isYd, neI]
    | [_] => simp [F_is_yard, m_is_yard, sSeq, sSkip, sPut, sIf, sRet, sRaise, sDo, sUnpack, sPar, eRs, puts, sSet, mbind, mok, eVar, eC, getD, e1, e2, e2v, eItems, eTup, eLst, tB, tNot, tAnd, tOr, eAnd, eOr, eNot, eIf, getI, eChain, asD, view, slotVw, frz, fix, put, eIn, eOpt, eSlice, eM, isS, isL, eFstr, eCall, eArgs, toA, argsS, argS, argIx, giveBack, runF, startF, toArg, backF, backArg, leaveR, bindT_name, bindT_tup, setAll, iD, iRange1_eq, iRange2, eAppend, isMl, isMo, pyIsi, isTy, b2, pySub', pyIxT, pyIxL, pyLen_t, pyLen_l, pyTuple, scrAt, eScrNil, eScrLen, eScrList, eScrIx, List.mapIdx_cons, List.replicate, isYd, neI]
    | [_, _] => simp [F_is_yard, m_is_yard, sSeq, sSkip, sPut, sIf, sRet, sRaise, sDo, sUnpack, sPar, eRs, puts, sSet, mbind, mok, eVar, eC, getD, e1, e2, e2v, eItems, eTup, eLst, tB, tNot, tAnd, tOr, eAnd, eOr, eNot, eIf, getI, eChain, asD, view, slotVw, frz, fix, put, eIn, eOpt, eSlice, eM, isS, isL, eFstr, eCall, eArgs, toA, argsS, argS, argIx, giveBack, runF, startF, toArg, backF, backArg, leaveR, bindT_name, bindT_tup, setAll, iD, iRange1_eq, iRange2, eAppend, isMl, isMo, pyIsi, isTy, b2, pySub', pyIxT, pyIxL, pyLen_t, pyLen_l, pyTuple, scrAt, eScrNil, eScrLen, eScrList, eScrIx, List.mapIdx_cons, List.replicate, isYd, neI]
    | [_, _, _] => simp [F_is_yard, m_is_yard, sSeq, sSkip, sPut, sIf, sRet, sRaise, sDo, sUnpack, sPar, eRs, puts, sSet, mbind, mok, eVar, eC, getD, e1, e2, e2v, eItems, eTup, eLst, tB, tNot, tAnd, tOr, eAnd, eOr, eNot, eIf, getI, eChain, asD, view, slotVw, frz, fix, put, eIn, eOpt, eSlice, eM, isS, isL, eFstr, eCall, eArgs, toA, argsS, argS, argIx, giveBack, runF, startF, toArg, backF, backArg, leaveR, bindT_name, bindT_tup, setAll, iD, iRange1_eq, iRange2, eAppend, isMl, isMo, pyIsi, isTy, b2, pySub', pyIxT, pyIxL, pyLen_t, pyLen_l, pyTuple, scrAt, eScrNil, eScrLen, eScrList, eScrIx, List.mapIdx_cons, List.replicate, isYd, neI]
    | [a, b, c, l] =>
      have i0 : ∀ m : Nat, ixOf 0 (m + 1) = some 0 := fun m => ix_nat (Nat.succ_pos m)
      by_cases ha : isBtw a 2 6 = true
      · cases a with
        | int n =>
          by_cases hc : isBtw c 0 (n - 1) = true
          · cases c with
            | int r =>
              by_cases hb : isBtw b 0 (r - 1) = true
              · cases b with
                | int li =>
                  cases l with
                  | tup ls =>
                    by_cases h3 : ls.length ≤ 3
                    · obtain ⟨q5, q6, e⟩ := load_loop E n (some (.pure (.tup [.int n, .int li, .int r, .tup ls]))) (some (.pure (.int li))) (some (.pure (.int r))) (some (.pure (.tup ls))) ls none none
                      have h3' : ¬ ((3 : Int) < ls.length) := by omega
                      by_cases hk : ls.all (chk n) = true
                      · rw [if_pos hk] at e
                        have cm := comp_map (vs := [5]) (tg := .name 5) (t := mok true) (e := x2_is_yard E) (σ := [some (.pure (.tup [.int n, .int li, .int r, .tup ls])), some (.pure (.int n)), some (.pure (.int li)), some (.pure (.int r)), some (.pure (.tup ls)), none, q6]) (fun d => .bl (df2 d)) ls [] (fun d hd => by
                          have hcd := List.all_eq_true.mp hk d hd
                          refine ⟨[some (.pure (.tup [.int n, .int li, .int r, .tup ls])), some (.pure (.int n)), some (.pure (.int li)), some (.pure (.int r)), some (.pure (.tup ls)), some (.pure d), q6], [some (.pure (.tup [.int n, .int li, .int r, .tup ls])), some (.pure (.int n)), some (.pure (.int li)), some (.pure (.int r)), some (.pure (.tup ls)), some (.pure d), q6], rfl, rfl, ?_, rfl⟩
                          unfold chk at hcd
                          split at hcd
                          · rename_i p q
                            rw [Bool.and_eq_true] at hcd
                            have i1 : ∀ m : Nat, ixOf 1 (m + 2) = some 1 := fun m => @ix_nat 1 (m + 2) (by omega)
                            cases p <;> simp only [isBtw] at hcd
                            case int p =>
                              cases q <;> simp only [isBtw] at hcd
                              case int q => simp [x2_is_yard, sSeq, sSkip, sPut, sIf, sRet, sRaise, sDo, sUnpack, sPar, eRs, puts, sSet, mbind, mok, eVar, eC, getD, e1, e2, e2v, eItems, eTup, eLst, tB, tNot, tAnd, tOr, eAnd, eOr, eNot, eIf, getI, eChain, asD, view, slotVw, frz, fix, put, eIn, eOpt, eSlice, eM, isS, isL, eFstr, eCall, eArgs, toA, argsS, argS, argIx, giveBack, runF, startF, toArg, backF, backArg, leaveR, bindT_name, bindT_tup, setAll, iD, iRange1_eq, iRange2, eAppend, isMl, isMo, pyIsi, isTy, b2, pySub', pyIxT, pyIxL, pyLen_t, pyLen_l, pyTuple, scrAt, eScrNil, eScrLen, eScrList, eScrIx, List.mapIdx_cons, List.replicate, i0, ix_nat, neI, df2, i1]
                              all_goals exact absurd hcd.2 (by simp)
                            all_goals exact absurd hcd.1 (by simp)
                          · cases hcd) (by simp [zLine]; omega)
                        simp only [isBtw, Bool.and_eq_true, decide_eq_true_eq] at ha hb hc
                        simp [F_is_yard, m_is_yard, sSeq, sSkip, sPut, sIf, sRet, sRaise, sDo, sUnpack, sPar, eRs, puts, sSet, mbind, mok, eVar, eC, getD, e1, e2, e2v, eItems, eTup, eLst, tB, tNot, tAnd, tOr, eAnd, eOr, eNot, eIf, getI, eChain, asD, view, slotVw, frz, fix, put, eIn, eOpt, eSlice, eM, isS, isL, eFstr, eCall, eArgs, toA, argsS, argS, argIx, giveBack, runF, startF, toArg, backF, backArg, leaveR, bindT_name, bindT_tup, setAll, iD, iRange1_eq, iRange2, eAppend, isMl, isMo, pyIsi, isTy, b2, pySub', pyIxT, pyIxL, pyLen_t, pyLen_l, pyTuple, scrAt, eScrNil, eScrLen, eScrList, eScrIx, List.mapIdx_cons, List.replicate, isYd, neI, i0, r_is_between, isBtw, ha, hb, hc, pySub, pyGt, h3, h3', sFor, e, hk, eComp, wipeS, cm, pyAll, bools_map, List.all_map]
                      · rw [if_neg hk] at e
                        simp only [isBtw, Bool.and_eq_true, decide_eq_true_eq] at ha hb hc
                        simp [F_is_yard, m_is_yard, sSeq, sSkip, sPut, sIf, sRet, sRaise, sDo, sUnpack, sPar, eRs, puts, sSet, mbind, mok, eVar, eC, getD, e1, e2, e2v, eItems, eTup, eLst, tB, tNot, tAnd, tOr, eAnd, eOr, eNot, eIf, getI, eChain, asD, view, slotVw, frz, fix, put, eIn, eOpt, eSlice, eM, isS, isL, eFstr, eCall, eArgs, toA, argsS, argS, argIx, giveBack, runF, startF, toArg, backF, backArg, leaveR, bindT_name, bindT_tup, setAll, iD, iRange1_eq, iRange2, eAppend, isMl, isMo, pyIsi, isTy, b2, pySub', pyIxT, pyIxL, pyLen_t, pyLen_l, pyTuple, scrAt, eScrNil, eScrLen, eScrList, eScrIx, List.mapIdx_cons, List.replicate, isYd, neI, i0, r_is_between, isBtw, ha, hb, hc, pySub, pyGt, h3, h3', sFor, e, hk]
                    · have h3' : (3 : Int) < ls.length := by omega
                      simp only [isBtw, Bool.and_eq_true, decide_eq_true_eq] at ha hb hc
                      simp [F_is_yard, m_is_yard, sSeq, sSkip, sPut, sIf, sRet, sRaise, sDo, sUnpack, sPar, eRs, puts, sSet, mbind, mok, eVar, eC, getD, e1, e2, e2v, eItems, eTup, eLst, tB, tNot, tAnd, tOr, eAnd, eOr, eNot, eIf, getI, eChain, asD, view, slotVw, frz, fix, put, eIn, eOpt, eSlice, eM, isS, isL, eFstr, eCall, eArgs, toA, argsS, argS, argIx, giveBack, runF, startF, toArg, backF, backArg, leaveR, bindT_name, bindT_tup, setAll, iD, iRange1_eq, iRange2, eAppend, isMl, isMo, pyIsi, isTy, b2, pySub', pyIxT, pyIxL, pyLen_t, pyLen_l, pyTuple, scrAt, eScrNil, eScrLen, eScrList, eScrIx, List.mapIdx_cons, List.replicate, isYd, neI, i0, r_is_between, isBtw, ha, hb, hc, pySub, pyGt, h3, h3']
                  | _ =>
                    simp only [isBtw, Bool.and_eq_true, decide_eq_true_eq] at ha hb hc
                    simp [F_is_yard, m_is_yard, sSeq, sSkip, sPut, sIf, sRet, sRaise, sDo, sUnpack, sPar, eRs, puts, sSet, mbind, mok, eVar, eC, getD, e1, e2, e2v, eItems, eTup, eLst, tB, tNot, tAnd, tOr, eAnd, eOr, eNot, eIf, getI, eChain, asD, view, slotVw, frz, fix, put, eIn, eOpt, eSlice, eM, isS, isL, eFstr, eCall, eArgs, toA, argsS, argS, argIx, giveBack, runF, startF, toArg, backF, backArg, leaveR, bindT_name, bindT_tup, setAll, iD, iRange1_eq, iRange2, eAppend, isMl, isMo, pyIsi, isTy, b2, pySub', pyIxT, pyIxL, pyLen_t, pyLen_l, pyTuple, scrAt, eScrNil, eScrLen, eScrList, eScrIx, List.mapIdx_cons, List.replicate, isYd, neI, i0, r_is_between, isBtw, ha, hb, hc, pySub, pyGt]
                | _ => simp [isBtw] at hb
              · have hb0 : isBtw b 0 (r - 1) = false := by simpa using hb
                have hy : isYd (.tup [.int n, b, .int r, l]) = false := by
                  cases b <;> cases l <;> simp [isYd]
                  simp [isBtw] at hb
                  intro _ _ _ _ z1 z2
                  exact absurd z2 (by have := hb z1; omega)
                simp [F_is_yard, m_is_yard, sSeq, sSkip, sPut, sIf, sRet, sRaise, sDo, sUnpack, sPar, eRs, puts, sSet, mbind, mok, eVar, eC, getD, e1, e2, e2v, eItems, eTup, eLst, tB, tNot, tAnd, tOr, eAnd, eOr, eNot, eIf, getI, eChain, asD, view, slotVw, frz, fix, put, eIn, eOpt, eSlice, eM, isS, isL, eFstr, eCall, eArgs, toA, argsS, argS, argIx, giveBack, runF, startF, toArg, backF, backArg, leaveR, bindT_name, bindT_tup, setAll, iD, iRange1_eq, iRange2, eAppend, isMl, isMo, pyIsi, isTy, b2, pySub', pyIxT, pyIxL, pyLen_t, pyLen_l, pyTuple, scrAt, eScrNil, eScrLen, eScrList, eScrIx, List.mapIdx_cons, List.replicate, hy, neI, i0, r_is_between, ha, hc, hb0, pySub]
            | _ => simp [isBtw] at hc
          · have hc0 : isBtw c 0 (n - 1) = false := by simpa using hc
            have hy : isYd (.tup [.int n, b, c, l]) = false := by
              cases c <;> cases b <;> cases l <;> simp [isYd]
              simp [isBtw] at hc
              intro _ _ z1 z2
              exact absurd z2 (by have := hc z1; omega)
            simp [F_is_yard, m_is_yard, sSeq, sSkip, sPut, sIf, sRet, sRaise, sDo, sUnpack, sPar, eRs, puts, sSet, mbind, mok, eVar, eC, getD, e1, e2, e2v, eItems, eTup, eLst, tB, tNot, tAnd, tOr, eAnd, eOr, eNot, eIf, getI, eChain, asD, view, slotVw, frz, fix, put, eIn, eOpt, eSlice, eM, isS, isL, eFstr, eCall, eArgs, toA, argsS, argS, argIx, giveBack, runF, startF, toArg, backF, backArg, leaveR, bindT_name, bindT_tup, setAll, iD, iRange1_eq, iRange2, eAppend, isMl, isMo, pyIsi, isTy, b2, pySub', pyIxT, pyIxL, pyLen_t, pyLen_l, pyTuple, scrAt, eScrNil, eScrLen, eScrList, eScrIx, List.mapIdx_cons, List.replicate, hy, neI, i0, r_is_between, ha, hc0, pySub]
        | _ => simp [isBtw] at ha
      · have ha0 : isBtw a 2 6 = false := by simpa using ha
        have hy : isYd (.tup [a, b, c, l]) = false := by
          cases a <;> cases c <;> cases b <;> cases l <;> simp [isYd]
          simp [isBtw] at ha
          intro z1 z2
          exact absurd z2 (by have := ha z1; omega)
        simp [F_is_yard, m_is_yard, sSeq, sSkip, sPut, sIf, sRet, sRaise, sDo, sUnpack, sPar, eRs, puts, sSet, mbind, mok, eVar, eC, getD, e1, e2, e2v, eItems, eTup, eLst, tB, tNot, tAnd, tOr, eAnd, eOr, eNot, eIf, getI, eChain, asD, view, slotVw, frz, fix, put, eIn, eOpt, eSlice, eM, isS, isL, eFstr, eCall, eArgs, toA, argsS, argS, argIx, giveBack, runF, startF, toArg, backF, backArg, leaveR, bindT_name, bindT_tup, setAll, iD, iRange1_eq, iRange2, eAppend, isMl, isMo, pyIsi, isTy, b2, pySub', pyIxT, pyIxL, pyLen_t, pyLen_l, pyTuple, scrAt, eScrNil, eScrLen, eScrList, eScrIx, List.mapIdx_cons, List.replicate, hy, neI, i0, r_is_between, ha0]
    | a :: b :: c :: d :: e :: r =>
      have : ¬ ((r.length : Int) + 1 + 1 + 1 + 1 + 1 = 4) := by omega
      simp [F_is_yard, m_is_yard, sSeq, sSkip, sPut, sIf, sRet, sRaise, sDo, sUnpack, sPar, eRs, puts, sSet, mbind, mok, eVar, eC, getD, e1, e2, e2v, eItems, eTup, eLst, tB, tNot, tAnd, tOr, eAnd, eOr, eNot, eIf, getI, eChain, asD, view, slotVw, frz, fix, put, eIn, eOpt, eSlice, eM, isS, isL, eFstr, eCall, eArgs, toA, argsS, argS, argIx, giveBack, runF, startF, toArg, backF, backArg, leaveR, bindT_name, bindT_tup, setAll, iD, iRange1_eq, iRange2, eAppend, isMl, isMo, pyIsi, isTy, b2, pySub', pyIxT, pyIxL, pyLen_t, pyLen_l, pyTuple, scrAt, eScrNil, eScrLen, eScrList, eScrIx, List.mapIdx_cons, List.replicate, isYd, neI, this]
  | _ => simp [F_is_yard, m_is_yard, sSeq, sSkip, sPut, sIf, sRet, sRaise, sDo, sUnpack, sPar, eRs, puts, sSet, mbind, mok, eVar, eC, getD, e1, e2, e2v, eItems, eTup, eLst, tB, tNot, tAnd, tOr, eAnd, eOr, eNot, eIf, getI, eChain, asD, view, slotVw, frz, fix, put, eIn, eOpt, eSlice, eM, isS, isL, eFstr, eCall, eArgs, toA, argsS, argS, argIx, giveBack, runF, startF, toArg, backF, backArg, leaveR, bindT_name, bindT_tup, setAll, iD, iRange1_eq, iRange2, eAppend, isMl, isMo, pyIsi, isTy, b2, pySub', pyIxT, pyIxL, pyLen_t, pyLen_l, pyTuple, scrAt, eScrNil, eScrLen, eScrList, eScrIx, List.mapIdx_cons, List.replicate, isYd]

def fig (i : Int) : Tx := [48 + i.toNat]
theorem fig_of {i : Int} (h : 0 ≤ i ∧ i < 10) : intTx i = some (fig i) := by
  unfold intTx fig
  rw [if_pos h]

theorem isYd_y {y : Y} (hy : okY y) : isYd (yD y) = true := by
  obtain ⟨n, l, r, ld⟩ := y
  obtain ⟨h1, h2, h3, h4, h5, h6, h7⟩ := hy
  simp only at h1 h2 h3 h4 h5 h6 h7
  simp only [yD, isYd, Bool.and_eq_true, decide_eq_true_eq, List.length_map, List.all_map, List.all_eq_true, Function.comp, prD, chk, df2, isBtw, Bool.not_eq_true', beq_eq_false_iff_ne]
  refine ⟨⟨⟨⟨⟨⟨h1, h2⟩, by omega, by omega⟩, by omega, by omega⟩, h6⟩, fun p hp => ?_⟩, fun p hp => ?_⟩
  · obtain ⟨z1, z2, z3, z4, z5⟩ := h7 p hp
    exact ⟨⟨z1, by omega⟩, z3, by omega⟩
  · exact (h7 p hp).2.2.2.2
theorem r_check_yard (E : Ec) (y : Y) (hy : okY y) : F_check_yard E [.pure (yD y)] = .ok (.pure .non) [.pure (yD y)] := by
  simp [F_check_yard, m_check_yard, sSeq, sSkip, sPut, sIf, sRet, sRaise, sDo, sUnpack, sPar, eRs, puts, sSet, mbind, mok, eVar, eC, getD, e1, e2, e2v, eItems, eTup, eLst, tB, tNot, tAnd, tOr, eAnd, eOr, eNot, eIf, getI, eChain, asD, view, slotVw, frz, fix, put, eIn, eOpt, eSlice, eM, isS, isL, eFstr, eCall, eArgs, toA, argsS, argS, argIx, giveBack, runF, startF, toArg, backF, backArg, leaveR, bindT_name, bindT_tup, setAll, iD, iRange1_eq, iRange2, eAppend, isMl, isMo, pyIsi, isTy, b2, pySub', pyIxT, pyIxL, pyLen_t, pyLen_l, pyTuple, scrAt, eScrNil, eScrLen, eScrList, eScrIx, List.mapIdx_cons, List.replicate, r_is_yard, isYd_y hy]
/-! equality of data -/
mutual
theorem eqv_refl : ∀ d : D, d.eqv d = true
  | .non => by simp [D.eqv]
  | .bl b => by simp [D.eqv]
  | .int i => by simp [D.eqv]
  | .str s => by simp [D.eqv]
  | .tup xs => by simp [D.eqv, eqvs_refl xs]
  | .lst xs => by simp [D.eqv, eqvs_refl xs]
theorem eqvs_refl : ∀ ds : List D, D.eqvs ds ds = true
  | [] => by simp [D.eqvs]
  | d :: ds => by simp [D.eqvs, eqv_refl d, eqvs_refl ds]
end
theorem deps_prs : ∀ ld : List (Int × Int), D.deps (ld.map prD) ≤ 1
  | [] => by simp [D.deps]
  | p :: ld => by
    have := deps_prs ld
    simp [D.deps, prD, D.dep]
    omega
theorem dep_y (y : Y) : (yD y).dep ≤ 3 := by
  have := deps_prs y.ld
  simp [yD, D.dep, D.deps]
  omega
theorem neRefl {d : D} (h : d.dep ≤ 64) : pyNe d d = some (.pure (.bl false)) := by simp [pyNe, h, b2, eqv_refl]
theorem eqRefl {d : D} (h : d.dep ≤ 64) : pyEq d d = some (.pure (.bl true)) := by simp [pyEq, h, b2, eqv_refl]
theorem neS (a b : Tx) : pyNe (.str a) (.str b) = some (.pure (.bl (!(a == b)))) := by simp [pyNe, D.dep, b2, D.eqv]
theorem eqS (a b : Tx) : pyEq (.str a) (.str b) = some (.pure (.bl (a == b))) := by simp [pyEq, D.dep, b2, D.eqv]
theorem r_town (E : Ec) (ns : List Int) (h : ns.length ≤ 63) : F_L_town E [.scr ns] = .ok (.own (.lst (.int 0 :: ns.map .int))) [.scr ns] := by
  have hz : 1 + ns.length ≤ zLine := by unfold zLine; omega
  simp [F_L_town, m_L_town, sSeq, sSkip, sPut, sIf, sRet, sRaise, sDo, sUnpack, sPar, eRs, puts, sSet, mbind, mok, eVar, eC, getD, e1, e2, e2v, eItems, eTup, eLst, tB, tNot, tAnd, tOr, eAnd, eOr, eNot, eIf, getI, eChain, asD, view, slotVw, frz, fix, put, eIn, eOpt, eSlice, eM, isS, isL, eFstr, eCall, eArgs, toA, argsS, argS, argIx, giveBack, runF, startF, toArg, backF, backArg, leaveR, bindT_name, bindT_tup, setAll, iD, iRange1_eq, iRange2, eAppend, isMl, isMo, pyIsi, isTy, b2, pySub', pyIxT, pyIxL, pyLen_t, pyLen_l, pyTuple, scrAt, eScrNil, eScrLen, eScrList, eScrIx, List.mapIdx_cons, List.replicate, pyAdd, hz]
theorem yD_inj {y y' : Y} (h : yD y = yD y') : y = y' := by
  obtain ⟨n, l, r, ld⟩ := y
  obtain ⟨n', l', r', ld'⟩ := y'
  simp only [yD, D.tup.injEq, List.cons.injEq, D.int.injEq, and_true] at h
  obtain ⟨rfl, rfl, rfl, e⟩ := h
  have inj : ∀ a b : List (Int × Int), a.map prD = b.map prD → a = b := by
    intro a
    induction a with
    | nil => intro b h; cases b <;> simp at h; rfl
    | cons x a ih =>
      intro b h
      cases b with
      | nil => simp at h
      | cons z b =>
        simp only [List.map_cons, List.cons.injEq, prD, D.tup.injEq, D.int.injEq, and_true] at h
        rw [ih b h.2]
        obtain ⟨x1, x2⟩ := x
        obtain ⟨z1, z2⟩ := z
        obtain ⟨⟨rfl, rfl⟩, _⟩ := h
        rfl
  rw [inj _ _ e]

/-! comprehensions with a test -/
theorem comp_filter {vs : List Nat} {tg : Tg} {t : M Bool} {e : M R} {σ : Sl} (f : D → D) (p : D → Bool) : ∀ (ds acc : List D), (∀ d ∈ ds, ∃ σ1 σ2, bindT tg d σ = some σ1 ∧ t σ1 = .ok (p d) σ2 ∧ (p d = true → ∃ σ3, mbind e frz σ2 = .ok (f d) σ3 ∧ wipeS σ3 vs = σ) ∧ (p d = false → wipeS σ2 vs = σ)) → acc.length + ds.length ≤ zLine →
    goComp vs tg t e ds acc σ = .ok (acc ++ (ds.filter p).map f) σ
  | [], acc, _, _ => by simp [goComp, mok]
  | d :: ds, acc, h, hz => by
    obtain ⟨σ1, σ2, h1, h2, h3, h4⟩ := h d List.mem_cons_self
    simp only [List.length_cons] at hz
    cases hp : p d with
    | true =>
      obtain ⟨σ3, h5, h6⟩ := h3 hp
      have ih := comp_filter f p ds (acc ++ [f d]) (fun x hx => h x (List.mem_cons_of_mem _ hx)) (by simp; omega)
      have hlt : acc.length < zLine := by omega
      rw [hp] at h2
      simp only [goComp, h1, h2, h5, hlt, if_true, h6, ih]
      simp [hp]
    | false =>
      have ih := comp_filter f p ds acc (fun x hx => h x (List.mem_cons_of_mem _ hx)) (by omega)
      rw [hp] at h2
      simp only [goComp, h1, h2, h4 hp, ih]
      simp [hp]
/-! acts -/
def oD : Option Int → D
  | none => .non
  | some i => .int i
structure Ac where
  nm : Tx
  pl : Int
  ca : Option Int
  li : Option Int
def acD (a : Ac) : D := .tup [.str a.nm, .int a.pl, oD a.ca, oD a.li]
def ldAt (y : Y) (k : Int) : Int × Int := y.ld.getD k.toNat (0, 0)
def moves (y : Y) (p : Int) (c : Option Int) : List Ac := [⟨[45], p, c, none⟩] ++ (if 0 < p then [⟨[60], p - 1, c, none⟩] else []) ++ (if p < y.n - 1 then [⟨[62], p + 1, c, none⟩] else [])
def lifts (y : Y) (p : Int) (ly : List Int) : List Ac := (ly.filter fun k => (ldAt y k).1 == p).map fun k => ⟨94 :: fig k, p, some k, some k⟩
def acts (y : Y) (p : Int) (c : Option Int) (ly : List Int) : List Ac := moves y p c ++ match c with
  | none => lifts y p ly
  | some k => if (ldAt y k).2 == p then [⟨[118], p, none, none⟩] else []
theorem ld_get {y : Y} {k : Int} (h : 0 ≤ k ∧ k < y.ld.length) : ixOf k (y.ld.map prD).length = some k.toNat ∧ (y.ld.map prD)[k.toNat]? = some (prD (ldAt y k)) := by
  have hk : k.toNat < y.ld.length := by omega
  refine ⟨ix_int (by simpa using h), ?_⟩
  simp [ldAt, hk]
theorem yix0 (y : Y) : pyIx (yD y) (.int 0) = some (.int y.n) := by simp [yD, pyIx, @ix_nat 0 4 (by omega), show ixOf 0 4 = some 0 from rfl]
theorem yix1 (y : Y) : pyIx (yD y) (.int 1) = some (.int y.l) := by simp [yD, pyIx, show ixOf 1 4 = some 1 from rfl]
theorem yix2 (y : Y) : pyIx (yD y) (.int 2) = some (.int y.r) := by simp [yD, pyIx, show ixOf 2 4 = some 2 from rfl]
theorem yix3 (y : Y) : pyIx (yD y) (.int 3) = some (.tup (y.ld.map prD)) := by simp [yD, pyIx, show ixOf 3 4 = some 3 from rfl]
def IxOk (y : Y) (k : Int) : Prop := 0 ≤ k ∧ k < y.ld.length
theorem r_acts_of (E : Ec) (y : Y) (hy : okY y) (p : Int) (hp : 0 ≤ p ∧ p < y.n) (c : Option Int) (hc : ∀ k, c = some k → IxOk y k) (ly : List Int) (hl : ∀ k ∈ ly, IxOk y k) (hz : ly.length ≤ 100) :
    F_acts_of E [.pure (yD y), .pure (.int p), .pure (oD c), .pure (.tup (ly.map .int))] = .ok (.own (.lst ((acts y p c ly).map acD))) [.pure (yD y), .pure (.int p), .pure (oD c), .pure (.tup (ly.map .int))] := by
  have i0 : ∀ m : Nat, ixOf 0 (m + 1) = some 0 := fun m => ix_nat (Nat.succ_pos m)
  have i1 : ∀ m : Nat, ixOf 1 (m + 2) = some 1 := fun m => @ix_nat 1 (m + 2) (by omega)
  have i3 : ∀ m : Nat, ixOf 3 (m + 4) = some 3 := fun m => @ix_nat 3 (m + 4) (by omega)
  have n6 := hy.n6
  have l3 := hy.len
  have mv : ∀ (q3 : Option S) (q9 : Option S), goFor (.tup [7, 8]) (b0_acts_of E) [.tup [.str [45], .int 0], .tup [.str [60], .int (-1)], .tup [.str [62], .int 1]] [some (.pure (yD y)), some (.pure (.int p)), some (.pure (oD c)), q3, some (.pure (.int y.n)), some (.pure (.tup (y.ld.map prD))), some (.mob none (.lst [])), none, none, q9]
      = .ok .next [some (.pure (yD y)), some (.pure (.int p)), some (.pure (oD c)), q3, some (.pure (.int y.n)), some (.pure (.tup (y.ld.map prD))), some (.mob none (.lst ((moves y p c).map acD))), some (.pure (.str [62])), some (.pure (.int 1)), q9] := by
    intro q3 q9
    have a1 : 0 ≤ p + 0 ∧ p + 0 < y.n := by omega
    have ep : p + -1 = p - 1 := by omega
    by_cases h1 : 0 < p
    · have b0 : 1 ≤ p := h1
      have b1 : p - 1 < y.n := by omega
      by_cases h2 : p < y.n - 1
      · have c1 : 0 ≤ p + 1 ∧ p + 1 < y.n := by omega
        simp [goFor, b0_acts_of, sSeq, sSkip, sPut, sIf, sRet, sRaise, sDo, sUnpack, sPar, eRs, puts, sSet, mbind, mok, eVar, eC, getD, e1, e2, e2v, eItems, eTup, eLst, tB, tNot, tAnd, tOr, eAnd, eOr, eNot, eIf, getI, eChain, asD, view, slotVw, frz, fix, put, eIn, eOpt, eSlice, eM, isS, isL, eFstr, eCall, eArgs, toA, argsS, argS, argIx, giveBack, runF, startF, toArg, backF, backArg, leaveR, bindT_name, bindT_tup, setAll, iD, iRange1_eq, iRange2, eAppend, isMl, isMo, pyIsi, isTy, b2, pySub', pyIxT, pyIxL, pyLen_t, pyLen_l, pyTuple, scrAt, eScrNil, eScrLen, eScrList, eScrIx, List.mapIdx_cons, List.replicate, pyAdd, hp, b0, b1, c1, h1, h2, moves, acD, oD, zLine, ep]
      · have c1 : 0 ≤ p + 1 ∧ ¬ p + 1 < y.n := by omega
        simp [goFor, b0_acts_of, sSeq, sSkip, sPut, sIf, sRet, sRaise, sDo, sUnpack, sPar, eRs, puts, sSet, mbind, mok, eVar, eC, getD, e1, e2, e2v, eItems, eTup, eLst, tB, tNot, tAnd, tOr, eAnd, eOr, eNot, eIf, getI, eChain, asD, view, slotVw, frz, fix, put, eIn, eOpt, eSlice, eM, isS, isL, eFstr, eCall, eArgs, toA, argsS, argS, argIx, giveBack, runF, startF, toArg, backF, backArg, leaveR, bindT_name, bindT_tup, setAll, iD, iRange1_eq, iRange2, eAppend, isMl, isMo, pyIsi, isTy, b2, pySub', pyIxT, pyIxL, pyLen_t, pyLen_l, pyTuple, scrAt, eScrNil, eScrLen, eScrList, eScrIx, List.mapIdx_cons, List.replicate, pyAdd, hp, b0, b1, c1, h1, h2, moves, acD, oD, zLine, ep]
    · have b0 : ¬ 1 ≤ p := h1
      have b1 : p - 1 < y.n := by omega
      by_cases h2 : p < y.n - 1
      · have c1 : 0 ≤ p + 1 ∧ p + 1 < y.n := by omega
        simp [goFor, b0_acts_of, sSeq, sSkip, sPut, sIf, sRet, sRaise, sDo, sUnpack, sPar, eRs, puts, sSet, mbind, mok, eVar, eC, getD, e1, e2, e2v, eItems, eTup, eLst, tB, tNot, tAnd, tOr, eAnd, eOr, eNot, eIf, getI, eChain, asD, view, slotVw, frz, fix, put, eIn, eOpt, eSlice, eM, isS, isL, eFstr, eCall, eArgs, toA, argsS, argS, argIx, giveBack, runF, startF, toArg, backF, backArg, leaveR, bindT_name, bindT_tup, setAll, iD, iRange1_eq, iRange2, eAppend, isMl, isMo, pyIsi, isTy, b2, pySub', pyIxT, pyIxL, pyLen_t, pyLen_l, pyTuple, scrAt, eScrNil, eScrLen, eScrList, eScrIx, List.mapIdx_cons, List.replicate, pyAdd, hp, b0, b1, c1, h1, h2, moves, acD, oD, zLine, ep]
      · have c1 : 0 ≤ p + 1 ∧ ¬ p + 1 < y.n := by omega
        simp [goFor, b0_acts_of, sSeq, sSkip, sPut, sIf, sRet, sRaise, sDo, sUnpack, sPar, eRs, puts, sSet, mbind, mok, eVar, eC, getD, e1, e2, e2v, eItems, eTup, eLst, tB, tNot, tAnd, tOr, eAnd, eOr, eNot, eIf, getI, eChain, asD, view, slotVw, frz, fix, put, eIn, eOpt, eSlice, eM, isS, isL, eFstr, eCall, eArgs, toA, argsS, argS, argIx, giveBack, runF, startF, toArg, backF, backArg, leaveR, bindT_name, bindT_tup, setAll, iD, iRange1_eq, iRange2, eAppend, isMl, isMo, pyIsi, isTy, b2, pySub', pyIxT, pyIxL, pyLen_t, pyLen_l, pyTuple, scrAt, eScrNil, eScrLen, eScrList, eScrIx, List.mapIdx_cons, List.replicate, pyAdd, hp, b0, b1, c1, h1, h2, moves, acD, oD, zLine, ep]
  have mvl : (moves y p c).length ≤ 3 := by
    unfold moves
    split <;> split <;> simp
  cases c with
  | none =>
    have cm := comp_filter (vs := [9]) (tg := .name 9) (t := t1_acts_of E) (e := x2_acts_of E) (σ := [some (.pure (yD y)), some (.pure (.int p)), some (.pure (oD none)), some (.pure (.tup (ly.map .int))), some (.pure (.int y.n)), some (.pure (.tup (y.ld.map prD))), some (.mob none (.lst ((moves y p none).map acD))), some (.pure (.str [62])), some (.pure (.int 1)), none])
      (fun d => match d with | .int k => acD ⟨94 :: fig k, p, some k, some k⟩ | _ => .non) (fun d => match d with | .int k => (ldAt y k).1 == p | _ => false) (ly.map .int) [] (fun d hd => by
        obtain ⟨k, hk, rfl⟩ := List.mem_map.mp hd
        have ik := hl k hk
        obtain ⟨g1, g2⟩ := ld_get ik
        have fk : intTx k = some (fig k) := fig_of (by unfold IxOk at ik; omega)
        refine ⟨[some (.pure (yD y)), some (.pure (.int p)), some (.pure (oD none)), some (.pure (.tup (ly.map .int))), some (.pure (.int y.n)), some (.pure (.tup (y.ld.map prD))), some (.mob none (.lst ((moves y p none).map acD))), some (.pure (.str [62])), some (.pure (.int 1)), some (.pure (.int k))], [some (.pure (yD y)), some (.pure (.int p)), some (.pure (oD none)), some (.pure (.tup (ly.map .int))), some (.pure (.int y.n)), some (.pure (.tup (y.ld.map prD))), some (.mob none (.lst ((moves y p none).map acD))), some (.pure (.str [62])), some (.pure (.int 1)), some (.pure (.int k))], rfl, ?_, fun _ => ⟨[some (.pure (yD y)), some (.pure (.int p)), some (.pure (oD none)), some (.pure (.tup (ly.map .int))), some (.pure (.int y.n)), some (.pure (.tup (y.ld.map prD))), some (.mob none (.lst ((moves y p none).map acD))), some (.pure (.str [62])), some (.pure (.int 1)), some (.pure (.int k))], ?_, rfl⟩, fun _ => rfl⟩
        · rw [List.length_map] at g1
          simp [t1_acts_of, sSeq, sSkip, sPut, sIf, sRet, sRaise, sDo, sUnpack, sPar, eRs, puts, sSet, mbind, mok, eVar, eC, getD, e1, e2, e2v, eItems, eTup, eLst, tB, tNot, tAnd, tOr, eAnd, eOr, eNot, eIf, getI, eChain, asD, view, slotVw, frz, fix, put, eIn, eOpt, eSlice, eM, isS, isL, eFstr, eCall, eArgs, toA, argsS, argS, argIx, giveBack, runF, startF, toArg, backF, backArg, leaveR, bindT_name, bindT_tup, setAll, iD, iRange1_eq, iRange2, eAppend, isMl, isMo, pyIsi, isTy, b2, pySub', pyIxT, pyIxL, pyLen_t, pyLen_l, pyTuple, scrAt, eScrNil, eScrLen, eScrList, eScrIx, List.mapIdx_cons, List.replicate, g1, g2, prD, i0, eqI]
        · simp [x2_acts_of, sSeq, sSkip, sPut, sIf, sRet, sRaise, sDo, sUnpack, sPar, eRs, puts, sSet, mbind, mok, eVar, eC, getD, e1, e2, e2v, eItems, eTup, eLst, tB, tNot, tAnd, tOr, eAnd, eOr, eNot, eIf, getI, eChain, asD, view, slotVw, frz, fix, put, eIn, eOpt, eSlice, eM, isS, isL, eFstr, eCall, eArgs, toA, argsS, argS, argIx, giveBack, runF, startF, toArg, backF, backArg, leaveR, bindT_name, bindT_tup, setAll, iD, iRange1_eq, iRange2, eAppend, isMl, isMo, pyIsi, isTy, b2, pySub', pyIxT, pyIxL, pyLen_t, pyLen_l, pyTuple, scrAt, eScrNil, eScrLen, eScrList, eScrIx, List.mapIdx_cons, List.replicate, pyStr, fk, zLine, acD, oD, fig]) (by simp [zLine]; omega)
    have mv0 := mv (some (.pure (.tup (ly.map .int)))) none
    simp only [List.nil_append] at cm
    have hzz : (moves y p none).length + ((ly.map D.int).filter (fun d => match d with | .int k => (ldAt y k).1 == p | _ => false)).length ≤ 16777216 := by
      have := List.length_filter_le (fun d => match d with | .int k => (ldAt y k).1 == p | _ => false) (ly.map D.int)
      simp only [List.length_map] at this
      omega
    have ef : ((ly.map D.int).filter (fun d => match d with | .int k => (ldAt y k).1 == p | _ => false)).map (fun d => match d with | .int k => acD ⟨94 :: fig k, p, some k, some k⟩ | _ => .non) = (lifts y p ly).map acD := by
      unfold lifts
      rw [List.filter_map, List.map_map, List.map_map]
      rfl
    rw [ef] at cm
    have hzl : (moves y p none).length + (lifts y p ly).length ≤ 16777216 := by
      unfold lifts
      have := List.length_filter_le (fun k => (ldAt y k).1 == p) ly
      rw [List.length_map]
      omega
    have o0 : oD none = .non := rfl
    rw [o0] at mv0 cm ⊢
    simp [F_acts_of, m_acts_of, sSeq, sSkip, sPut, sIf, sRet, sRaise, sDo, sUnpack, sPar, eRs, puts, sSet, mbind, mok, eVar, eC, getD, e1, e2, e2v, eItems, eTup, eLst, tB, tNot, tAnd, tOr, eAnd, eOr, eNot, eIf, getI, eChain, asD, view, slotVw, frz, fix, put, eIn, eOpt, eSlice, eM, isS, isL, eFstr, eCall, eArgs, toA, argsS, argS, argIx, giveBack, runF, startF, toArg, backF, backArg, leaveR, bindT_name, bindT_tup, setAll, iD, iRange1_eq, iRange2, eAppend, isMl, isMo, pyIsi, isTy, b2, pySub', pyIxT, pyIxL, pyLen_t, pyLen_l, pyTuple, scrAt, eScrNil, eScrLen, eScrList, eScrIx, List.mapIdx_cons, List.replicate, yix0, yix3, sFor, pyNeg, mv0, pyIsN, isN, eExtend, eComp, wipeS, cm, zLine, hzl, acts]
  | some k =>
    have ik := hc k rfl
    obtain ⟨g1, g2⟩ := ld_get ik
    rw [List.length_map] at g1
    have mv0 := mv (some (.pure (.tup (ly.map .int)))) none
    have o0 : oD (some k) = .int k := rfl
    have hzl : (moves y p (some k)).length < 16777216 := by omega
    rw [o0] at mv0 ⊢
    cases hq : ((ldAt y k).2 == p) with
    | true => simp [F_acts_of, m_acts_of, sSeq, sSkip, sPut, sIf, sRet, sRaise, sDo, sUnpack, sPar, eRs, puts, sSet, mbind, mok, eVar, eC, getD, e1, e2, e2v, eItems, eTup, eLst, tB, tNot, tAnd, tOr, eAnd, eOr, eNot, eIf, getI, eChain, asD, view, slotVw, frz, fix, put, eIn, eOpt, eSlice, eM, isS, isL, eFstr, eCall, eArgs, toA, argsS, argS, argIx, giveBack, runF, startF, toArg, backF, backArg, leaveR, bindT_name, bindT_tup, setAll, iD, iRange1_eq, iRange2, eAppend, isMl, isMo, pyIsi, isTy, b2, pySub', pyIxT, pyIxL, pyLen_t, pyLen_l, pyTuple, scrAt, eScrNil, eScrLen, eScrList, eScrIx, List.mapIdx_cons, List.replicate, yix0, yix3, sFor, pyNeg, mv0, pyIsN, isN, g1, g2, prD, i1, eqI, hq, zLine, hzl, acts, acD, oD]
    | false => simp [F_acts_of, m_acts_of, sSeq, sSkip, sPut, sIf, sRet, sRaise, sDo, sUnpack, sPar, eRs, puts, sSet, mbind, mok, eVar, eC, getD, e1, e2, e2v, eItems, eTup, eLst, tB, tNot, tAnd, tOr, eAnd, eOr, eNot, eIf, getI, eChain, asD, view, slotVw, frz, fix, put, eIn, eOpt, eSlice, eM, isS, isL, eFstr, eCall, eArgs, toA, argsS, argS, argIx, giveBack, runF, startF, toArg, backF, backArg, leaveR, bindT_name, bindT_tup, setAll, iD, iRange1_eq, iRange2, eAppend, isMl, isMo, pyIsi, isTy, b2, pySub', pyIxT, pyIxL, pyLen_t, pyLen_l, pyTuple, scrAt, eScrNil, eScrLen, eScrList, eScrIx, List.mapIdx_cons, List.replicate, yix0, yix3, sFor, pyNeg, mv0, pyIsN, isN, g1, g2, prD, i1, eqI, hq, acts]

/-! _law_acts: the same acts -/
theorem in_ints (k : Int) (ly : List Int) : (ly.map D.int).any (fun z => z.eqv (.int k)) = decide (k ∈ ly) := by
  rw [Bool.eq_iff_iff]
  simp [D.eqv]
theorem deps_ints (ly : List Int) : D.deps (ly.map D.int) = 0 := by
  induction ly with
  | nil => rfl
  | cons a ly ih => simp [D.deps, D.dep, ih]
def extra (y : Y) (p : Int) (c : Option Int) (ly : List Int) (k : Int) : List Ac :=
  (if c = none ∧ k ∈ ly ∧ (ldAt y k).1 = p then [⟨94 :: fig k, p, some k, some k⟩] else []) ++ (if c = some k ∧ (ldAt y k).2 = p then [⟨[118], p, none, none⟩] else [])
theorem eqO (c : Option Int) (k : Int) : pyEq (oD c) (.int k) = some (.pure (.bl (decide (c = some k)))) := by
  cases c with
  | none => simp [oD, pyEq, D.dep, b2, D.eqv]
  | some i =>
    by_cases h : i = k <;> simp [oD, pyEq, D.dep, b2, D.eqv, h]
/-! ### loops -/
theorem goFor_pre {α : Type} {tg : Tg} {body : M Flow} (enc : α → D) (P : List α → Sl → Prop) (xs : List α) {σ : Sl} (h0 : P [] σ)
    (hs : ∀ pre x post, xs = pre ++ x :: post → ∀ σ, P pre σ → ∃ σ1 σ2, bindT tg (enc x) σ = some σ1 ∧ (body σ1 = .ok .next σ2 ∨ body σ1 = .ok .cont σ2) ∧ P (pre ++ [x]) σ2) :
    ∃ σ', goFor tg body (xs.map enc) σ = .ok .next σ' ∧ P xs σ' := by
  suffices h : ∀ (post pre : List α) (σ : Sl), xs = pre ++ post → P pre σ → ∃ σ', goFor tg body (post.map enc) σ = .ok .next σ' ∧ P xs σ' from h xs [] σ rfl h0
  intro post
  induction post with
  | nil =>
    intro pre σ e p
    rw [List.append_nil] at e
    exact ⟨σ, rfl, e ▸ p⟩
  | cons x post ih =>
    intro pre σ e p
    obtain ⟨σ1, σ2, h1, h2, p2⟩ := hs pre x post e σ p
    obtain ⟨σ', h3, p3⟩ := ih (pre ++ [x]) σ2 (by rw [e]; simp) p2
    refine ⟨σ', ?_, p3⟩
    rcases h2 with h2 | h2 <;> simp only [List.map_cons, goFor, h1, h2, h3]
/-- a loop that may return -/
theorem goFor_ret {α : Type} {tg : Tg} {body : M Flow} (enc : α → D) (P : List α → Sl → Prop) (Q : Out Flow → Prop) (xs : List α) {σ : Sl} (h0 : P [] σ) (hq : ∀ σ, P xs σ → Q (.ok .next σ))
    (hs : ∀ pre x post, xs = pre ++ x :: post → ∀ σ, P pre σ → ∃ σ1 σ2, bindT tg (enc x) σ = some σ1 ∧ ((body σ1 = .ok .next σ2 ∧ P (pre ++ [x]) σ2) ∨ (∃ r, body σ1 = .ok (.ret r) σ2 ∧ Q (.ok (.ret r) σ2)))) :
    Q (goFor tg body (xs.map enc) σ) := by
  suffices h : ∀ (post pre : List α) (σ : Sl), xs = pre ++ post → P pre σ → Q (goFor tg body (post.map enc) σ) from h xs [] σ rfl h0
  intro post
  induction post with
  | nil =>
    intro pre σ e p
    rw [List.append_nil] at e
    exact hq σ (e ▸ p)
  | cons x post ih =>
    intro pre σ e p
    obtain ⟨σ1, σ2, h1, h2⟩ := hs pre x post e σ p
    rcases h2 with ⟨h2, p2⟩ | ⟨r, h2, q⟩
    · have := ih (pre ++ [x]) σ2 (by rw [e]; simp) p2
      simpa only [List.map_cons, goFor, h1, h2] using this
    · simpa only [List.map_cons, goFor, h1, h2] using q
/-- a while by a measure -/
theorem sWhile_inv {c : M Bool} {body : M Flow} (I : Nat → Sl → Prop) (Q : Out Flow → Prop) (h : ∀ k σ, I k σ → ∃ b σ1, c σ = .ok b σ1 ∧ ((b = false ∧ Q (.ok .next σ1)) ∨ (b = true ∧ ((∃ σ2 k', body σ1 = .ok .next σ2 ∧ k' < k ∧ I k' σ2) ∨ (∃ r σ2, body σ1 = .ok (.ret r) σ2 ∧ Q (.ok (.ret r) σ2)))))) :
    ∀ (n k : Nat) (σ : Sl), k < n → I k σ → Q (sWhile c body n σ)
  | 0, _, _, hk, _ => absurd hk (by omega)
  | n + 1, k, σ, hk, i => by
    obtain ⟨b, σ1, h1, h2⟩ := h k σ i
    rcases h2 with ⟨rfl, q⟩ | ⟨rfl, ⟨σ2, k', h3, lt, i2⟩ | ⟨r, σ2, h3, q⟩⟩
    · simpa only [sWhile, h1] using q
    · have := sWhile_inv I Q h n k' σ2 (by omega) i2
      simpa only [sWhile, h1, h3] using this
    · simpa only [sWhile, h1, h3] using q
/-! ### states, rows -/
structure Stt where
  l : Int
  r : Int
  a : Option Int
  b : Option Int
  ly : List Int
  deriving DecidableEq
def stD (s : Stt) : D := .tup [.int s.l, .int s.r, oD s.a, oD s.b, .tup (s.ly.map .int)]
abbrev Rw := Pk × Stt
def pkD (p : Pk) : D := .tup [.str p.1, .str p.2]
def rowD (r : Rw) : D := .tup [pkD r.1, stD r.2]
/-- the loads that are carried -/
def carr (a b : Option Int) : List Int := a.toList ++ b.toList
structure okS (y : Y) (s : Stt) : Prop where
  l0 : 0 ≤ s.l
  lr : s.l < s.r
  rn : s.r < y.n
  ix : ∀ k ∈ carr s.a s.b ++ s.ly, IxOk y k
  nd : (carr s.a s.b ++ s.ly).Nodup
  so : s.ly.Pairwise (· < ·)
def nO (k : Int) (c : Option Int) : Bool := decide (some k ≠ c)
def rest2 (ly : List Int) (a b : Option Int) : List Int := ly.filter fun k => nO k a && nO k b
def goR (s : Stt) (a b : Ac) : Rw := ((a.nm, b.nm), ⟨a.pl, b.pl, a.ca, b.ca, rest2 s.ly a.li b.li⟩)
def rowsB (s : Stt) (a : Ac) (bs : List Ac) : List Rw := (bs.filter fun b => decide (a.pl < b.pl)).map (goR s a)
def rowsA (s : Stt) (as bs : List Ac) : List Rw := as.flatMap fun a => rowsB s a bs
def actL (y : Y) (s : Stt) : List Ac := acts y s.l s.a s.ly
def actR (y : Y) (s : Stt) : List Ac := acts y s.r s.b s.ly
def rows0 (y : Y) (s : Stt) : List Rw := rowsA s (actL y s) (actR y s)
def nx (y : Y) (s : Stt) : List Rw := sortB leK (rows0 y s)
theorem neO (k : Int) (c : Option Int) : pyNe (.int k) (oD c) = some (.pure (.bl (nO k c))) := by
  unfold nO
  cases c with
  | none => simp [oD, pyNe, D.dep, b2, D.eqv]
  | some i =>
    by_cases h : k = i <;> simp [oD, pyNe, D.dep, b2, D.eqv, h]
theorem nexts_in (E : Ec) (a b : Ac) (ly : List Int) (s : Stt) (hs : s.ly = ly) (fo : List Rw) (q0 q1 q2 q3 q4 q5 q16 q17 : Option S) (hz : fo.length < 1000) (hl : ly.length < 1000) :
    ∃ w16 w17, b2_nexts E [q0, q1, q2, q3, q4, q5, some (.pure (.tup (ly.map .int))), some (.mob none (.lst (fo.map rowD))), some (.pure (.str a.nm)), some (.pure (.int a.pl)), some (.pure (oD a.ca)), some (.pure (oD a.li)), some (.pure (.str b.nm)), some (.pure (.int b.pl)), some (.pure (oD b.ca)), some (.pure (oD b.li)), q16, q17]
      = .ok .next [q0, q1, q2, q3, q4, q5, some (.pure (.tup (ly.map .int))), some (.mob none (.lst ((fo ++ (if a.pl < b.pl then [goR s a b] else [])).map rowD))), some (.pure (.str a.nm)), some (.pure (.int a.pl)), some (.pure (oD a.ca)), some (.pure (oD a.li)), some (.pure (.str b.nm)), some (.pure (.int b.pl)), some (.pure (oD b.ca)), some (.pure (oD b.li)), w16, w17] := by
  subst hs
  by_cases h : a.pl < b.pl
  · have cm := comp_filter (vs := [17]) (tg := .name 17) (t := t0_nexts E) (e := x1_nexts E) (σ := [q0, q1, q2, q3, q4, q5, some (.pure (.tup (s.ly.map .int))), some (.mob none (.lst (fo.map rowD))), some (.pure (.str a.nm)), some (.pure (.int a.pl)), some (.pure (oD a.ca)), some (.pure (oD a.li)), some (.pure (.str b.nm)), some (.pure (.int b.pl)), some (.pure (oD b.ca)), some (.pure (oD b.li)), q16, none]) id (fun d => match d with | .int k => nO k a.li && nO k b.li | _ => false) (s.ly.map .int) [] (fun d hd => by
      obtain ⟨k, hk, rfl⟩ := List.mem_map.mp hd
      refine ⟨[q0, q1, q2, q3, q4, q5, some (.pure (.tup (s.ly.map .int))), some (.mob none (.lst (fo.map rowD))), some (.pure (.str a.nm)), some (.pure (.int a.pl)), some (.pure (oD a.ca)), some (.pure (oD a.li)), some (.pure (.str b.nm)), some (.pure (.int b.pl)), some (.pure (oD b.ca)), some (.pure (oD b.li)), q16, some (.pure (.int k))], [q0, q1, q2, q3, q4, q5, some (.pure (.tup (s.ly.map .int))), some (.mob none (.lst (fo.map rowD))), some (.pure (.str a.nm)), some (.pure (.int a.pl)), some (.pure (oD a.ca)), some (.pure (oD a.li)), some (.pure (.str b.nm)), some (.pure (.int b.pl)), some (.pure (oD b.ca)), some (.pure (oD b.li)), q16, some (.pure (.int k))], rfl, ?_, fun _ => ⟨[q0, q1, q2, q3, q4, q5, some (.pure (.tup (s.ly.map .int))), some (.mob none (.lst (fo.map rowD))), some (.pure (.str a.nm)), some (.pure (.int a.pl)), some (.pure (oD a.ca)), some (.pure (oD a.li)), some (.pure (.str b.nm)), some (.pure (.int b.pl)), some (.pure (oD b.ca)), some (.pure (oD b.li)), q16, some (.pure (.int k))], ?_, rfl⟩, fun _ => rfl⟩
      · cases h1 : nO k a.li <;> simp [t0_nexts, sSeq, sSkip, sPut, sIf, sRet, sRaise, sDo, sUnpack, sPar, eRs, puts, sSet, mbind, mok, eVar, eC, getD, e1, e2, e2v, eItems, eTup, eLst, tB, tNot, tAnd, tOr, eAnd, eOr, eNot, eIf, getI, eChain, asD, view, slotVw, frz, fix, put, eIn, eOpt, eSlice, eM, isS, isL, eFstr, eCall, eArgs, toA, argsS, argS, argIx, giveBack, runF, startF, toArg, backF, backArg, leaveR, bindT_name, bindT_tup, setAll, iD, iRange1_eq, iRange2, eAppend, isMl, isMo, pyIsi, isTy, b2, pySub', pyIxT, pyIxL, pyLen_t, pyLen_l, pyTuple, scrAt, eScrNil, eScrLen, eScrList, eScrIx, List.mapIdx_cons, List.replicate, neO, h1]
      · simp [x1_nexts, sSeq, sSkip, sPut, sIf, sRet, sRaise, sDo, sUnpack, sPar, eRs, puts, sSet, mbind, mok, eVar, eC, getD, e1, e2, e2v, eItems, eTup, eLst, tB, tNot, tAnd, tOr, eAnd, eOr, eNot, eIf, getI, eChain, asD, view, slotVw, frz, fix, put, eIn, eOpt, eSlice, eM, isS, isL, eFstr, eCall, eArgs, toA, argsS, argS, argIx, giveBack, runF, startF, toArg, backF, backArg, leaveR, bindT_name, bindT_tup, setAll, iD, iRange1_eq, iRange2, eAppend, isMl, isMo, pyIsi, isTy, b2, pySub', pyIxT, pyIxL, pyLen_t, pyLen_l, pyTuple, scrAt, eScrNil, eScrLen, eScrList, eScrIx, List.mapIdx_cons, List.replicate]) (by simp [zLine]; omega)
    have ef : ((s.ly.map D.int).filter (fun d => match d with | .int k => nO k a.li && nO k b.li | _ => false)).map id = (rest2 s.ly a.li b.li).map .int := by
      unfold rest2
      rw [List.map_id, List.filter_map]
      rfl
    rw [List.nil_append, ef] at cm
    have hz1 : fo.length < 16777216 := by omega
    refine ⟨some (.pure (.tup ((rest2 s.ly a.li b.li).map .int))), none, ?_⟩
    simp [b2_nexts, sSeq, sSkip, sPut, sIf, sRet, sRaise, sDo, sUnpack, sPar, eRs, puts, sSet, mbind, mok, eVar, eC, getD, e1, e2, e2v, eItems, eTup, eLst, tB, tNot, tAnd, tOr, eAnd, eOr, eNot, eIf, getI, eChain, asD, view, slotVw, frz, fix, put, eIn, eOpt, eSlice, eM, isS, isL, eFstr, eCall, eArgs, toA, argsS, argS, argIx, giveBack, runF, startF, toArg, backF, backArg, leaveR, bindT_name, bindT_tup, setAll, iD, iRange1_eq, iRange2, eAppend, isMl, isMo, pyIsi, isTy, b2, pySub', pyIxT, pyIxL, pyLen_t, pyLen_l, pyTuple, scrAt, eScrNil, eScrLen, eScrList, eScrIx, List.mapIdx_cons, List.replicate, pyLt, h, eComp, wipeS, cm, zLine, hz1, goR, rowD, pkD, stD]
  · exact ⟨q16, q17, by simp [b2_nexts, sSeq, sSkip, sPut, sIf, sRet, sRaise, sDo, sUnpack, sPar, eRs, puts, sSet, mbind, mok, eVar, eC, getD, e1, e2, e2v, eItems, eTup, eLst, tB, tNot, tAnd, tOr, eAnd, eOr, eNot, eIf, getI, eChain, asD, view, slotVw, frz, fix, put, eIn, eOpt, eSlice, eM, isS, isL, eFstr, eCall, eArgs, toA, argsS, argS, argIx, giveBack, runF, startF, toArg, backF, backArg, leaveR, bindT_name, bindT_tup, setAll, iD, iRange1_eq, iRange2, eAppend, isMl, isMo, pyIsi, isTy, b2, pySub', pyIxT, pyIxL, pyLen_t, pyLen_l, pyTuple, scrAt, eScrNil, eScrLen, eScrList, eScrIx, List.mapIdx_cons, List.replicate, pyLt, h]⟩

/-! nexts: the possible steps -/
theorem asc_len : ∀ (l : List Int) (lo hi : Int), l.Pairwise (· < ·) → (∀ k ∈ l, lo ≤ k ∧ k < hi) → (l.length : Int) ≤ max 0 (hi - lo)
  | [], lo, hi, _, _ => by simp; omega
  | x :: l, lo, hi, h, hb => by
    rw [List.pairwise_cons] at h
    have hx := hb x List.mem_cons_self
    have := asc_len l (x + 1) hi h.2 fun k hk => by
      have := h.1 k hk
      have := hb k (List.mem_cons_of_mem _ hk)
      omega
    simp only [List.length_cons]
    omega
theorem okS.ly3 {y : Y} {s : Stt} (hy : okY y) (hs : okS y s) : s.ly.length ≤ 3 := by
  have := asc_len s.ly 0 3 hs.so fun k hk => by
    have := hs.ix k (List.mem_append.mpr (.inr hk))
    have := hy.len
    unfold IxOk at *
    omega
  omega
theorem okS.ixl {y : Y} {s : Stt} (hs : okS y s) : ∀ k ∈ s.ly, IxOk y k := fun k hk => hs.ix k (List.mem_append.mpr (.inr hk))
theorem okS.ixa {y : Y} {s : Stt} (hs : okS y s) : ∀ k, s.a = some k → IxOk y k := fun k hk => hs.ix k (by simp [carr, hk])
theorem okS.ixb {y : Y} {s : Stt} (hs : okS y s) : ∀ k, s.b = some k → IxOk y k := fun k hk => hs.ix k (by simp [carr, hk])
theorem moves_len (y : Y) (p : Int) (c : Option Int) : (moves y p c).length ≤ 3 := by
  unfold moves
  split <;> split <;> simp
theorem acts_len (y : Y) (p : Int) (c : Option Int) (ly : List Int) (h : ly.length ≤ 3) : (acts y p c ly).length ≤ 6 := by
  have := moves_len y p c
  unfold acts lifts
  rw [List.length_append]
  cases c with
  | none =>
    have := List.length_filter_le (fun k => (ldAt y k).1 == p) ly
    simp only [List.length_map]
    omega
  | some k =>
    dsimp only
    split <;> simp <;> omega
theorem fig_inj {i j : Int} (hi : 0 ≤ i) (hj : 0 ≤ j) (h : fig i = fig j) : i = j := by
  unfold fig at h
  simp at h
  omega
theorem acts_nm (y : Y) (p : Int) (c : Option Int) (ly : List Int) (h0 : ∀ k ∈ ly, 0 ≤ k) (hn : ly.Nodup) : ((acts y p c ly).map (·.nm)).Nodup := by
  unfold acts
  rw [List.map_append, List.nodup_append]
  have m1 : ∀ t ∈ (moves y p c).map (·.nm), t = [45] ∨ t = [60] ∨ t = [62] := by
    intro t ht
    obtain ⟨a, ha, rfl⟩ := List.mem_map.mp ht
    unfold moves at ha
    simp only [List.mem_append, List.mem_singleton] at ha
    rcases ha with (rfl | ha) | ha
    · exact .inl rfl
    · split at ha
      · rw [List.mem_singleton.mp ha]; exact .inr (.inl rfl)
      · cases ha
    · split at ha
      · rw [List.mem_singleton.mp ha]; exact .inr (.inr rfl)
      · cases ha
  refine ⟨?_, ?_, ?_⟩
  · unfold moves
    split <;> split <;> simp
  · cases c with
    | none =>
      simp only [lifts, List.map_map]
      refine List.pairwise_map.mpr ?_
      refine (List.Pairwise.filter _ hn).imp_of_mem fun {i j} hi hj hij e => hij ?_
      simp at e
      exact fig_inj (h0 _ ((List.mem_filter.mp hi).1)) (h0 _ ((List.mem_filter.mp hj).1)) e
    | some k =>
      dsimp only
      split <;> simp
  · intro t ht u hu e
    subst e
    have := m1 t ht
    cases c with
    | none =>
      simp only [lifts, List.map_map, List.mem_map] at hu
      obtain ⟨k, _, rfl⟩ := hu
      simp [fig] at this
    | some k =>
      dsimp only at hu
      split at hu
      · simp at hu; subst hu; simp at this
      · cases hu
theorem rowsB_append (s : Stt) (a : Ac) (p q : List Ac) : rowsB s a (p ++ q) = rowsB s a p ++ rowsB s a q := by simp [rowsB]
theorem rowsB_one (s : Stt) (a b : Ac) : rowsB s a [b] = if a.pl < b.pl then [goR s a b] else [] := by
  unfold rowsB
  by_cases h : a.pl < b.pl <;> simp [h]
theorem rowsB_len (s : Stt) (a : Ac) (bs : List Ac) : (rowsB s a bs).length ≤ bs.length := by
  unfold rowsB
  rw [List.length_map]
  exact List.length_filter_le _ _
theorem rowsA_append (s : Stt) (p q bs : List Ac) : rowsA s (p ++ q) bs = rowsA s p bs ++ rowsA s q bs := by simp [rowsA]
theorem rowsA_one (s : Stt) (a : Ac) (bs : List Ac) : rowsA s [a] bs = rowsB s a bs := by simp [rowsA]
theorem rowsA_len (s : Stt) (bs : List Ac) : ∀ as : List Ac, (rowsA s as bs).length ≤ as.length * bs.length
  | [] => by simp [rowsA]
  | a :: as => by
    have h1 := rowsA_len s bs as
    have h2 := rowsB_len s a bs
    rw [show a :: as = [a] ++ as from rfl, rowsA_append, rowsA_one, List.length_append, List.length_append, Nat.add_mul]
    simp
    omega
theorem rowsA_keys (s : Stt) (as bs : List Ac) (ha : (as.map (·.nm)).Nodup) (hb : (bs.map (·.nm)).Nodup) : ((rowsA s as bs).map (·.1)).Nodup := by
  unfold rowsA
  rw [List.map_flatMap]
  refine List.pairwise_flatMap.mpr ⟨fun a _ => ?_, ?_⟩
  · unfold rowsB
    rw [List.map_map]
    refine List.pairwise_map.mpr ((List.Pairwise.filter _ (List.pairwise_map.mp hb)).imp fun h e => h ?_)
    simp [goR] at e
    exact e
  · refine (List.pairwise_map.mp ha).imp fun {a b} h x hx z hz e => h ?_
    subst e
    simp only [rowsB, List.map_map, List.mem_map] at hx hz
    obtain ⟨u, _, rfl⟩ := hx
    obtain ⟨v, _, e⟩ := hz
    simp [goR] at e
    exact e.1.symm
/-! sorting by keys -/
theorem insB_map {α β : Type} {le : α → α → Bool} {le' : β → β → Bool} (g : α → β) (h : ∀ a b, le' (g a) (g b) = le a b) (x : α) : ∀ l : List α, insB le' (g x) (l.map g) = (insB le x l).map g
  | [] => rfl
  | y :: l => by
    simp only [List.map_cons, insB, h]
    split
    · rfl
    · rw [insB_map g h x l]; rfl
theorem sortB_mapG {α β : Type} {le : α → α → Bool} {le' : β → β → Bool} (g : α → β) (h : ∀ a b, le' (g a) (g b) = le a b) : ∀ l : List α, sortB le' (l.map g) = (sortB le l).map g
  | [] => rfl
  | x :: l => by simp only [List.map_cons, sortB, sortB_mapG g h l, insB_map g h]
theorem keyed_rows : ∀ rs : List Rw, keyed rowK (rs.map rowD) = some (rs.map fun r => (r.1, rowD r))
  | [] => rfl
  | r :: rs => by simp only [List.map_cons, keyed, keyed_rows rs]; simp [rowD, rowK, pkD, keyP]
theorem sort_rows (rs : List Rw) (hn : (rs.map (·.1)).Nodup) (hl : rs.length ≤ 1000) : pySortK rowK (.lst (rs.map rowD)) = some (.own (.lst ((sortB leK rs).map rowD))) := by
  have e : ((rs.map fun r => (r.1, rowD r)).map (·.1)) = rs.map (·.1) := by simp
  simp only [pySortK, keyed_rows]
  rw [if_pos ⟨by rw [e]; exact hn, by simpa using hl⟩, sortB_mapG (le := leK) (fun r : Rw => (r.1, rowD r)) (fun _ _ => rfl) rs, List.map_map]
  rfl
theorem rows0_keys {y : Y} {s : Stt} (hs : okS y s) : ((rows0 y s).map (·.1)).Nodup := by
  have h0 : ∀ k ∈ s.ly, 0 ≤ k := fun k hk => (hs.ixl k hk).1
  have hn : s.ly.Nodup := hs.so.imp fun h => by omega
  exact rowsA_keys s _ _ (acts_nm y _ _ _ h0 hn) (acts_nm y _ _ _ h0 hn)
theorem rows0_len {y : Y} {s : Stt} (hy : okY y) (hs : okS y s) : (rows0 y s).length ≤ 36 := by
  have h1 := acts_len y s.l s.a s.ly (hs.ly3 hy)
  have h2 := acts_len y s.r s.b s.ly (hs.ly3 hy)
  have h3 := rowsA_len s (actR y s) (actL y s)
  have : (actL y s).length * (actR y s).length ≤ 6 * 6 := Nat.mul_le_mul h1 h2
  unfold rows0
  omega
theorem nexts_mid (E : Ec) (y : Y) (hy : okY y) (s : Stt) (hs : okS y s) (a : Ac) (fo : List Rw) (hz : fo.length < 900) (q12 q13 q14 q15 q16 q17 : Option S) :
    ∃ w12 w13 w14 w15 w16 w17, b3_nexts E [some (.pure (yD y)), some (.pure (stD s)), some (.pure (.int s.l)), some (.pure (.int s.r)), some (.pure (oD s.a)), some (.pure (oD s.b)), some (.pure (.tup (s.ly.map .int))), some (.mob none (.lst (fo.map rowD))), some (.pure (.str a.nm)), some (.pure (.int a.pl)), some (.pure (oD a.ca)), some (.pure (oD a.li)), q12, q13, q14, q15, q16, q17]
      = .ok .next [some (.pure (yD y)), some (.pure (stD s)), some (.pure (.int s.l)), some (.pure (.int s.r)), some (.pure (oD s.a)), some (.pure (oD s.b)), some (.pure (.tup (s.ly.map .int))), some (.mob none (.lst ((fo ++ rowsB s a (actR y s)).map rowD))), some (.pure (.str a.nm)), some (.pure (.int a.pl)), some (.pure (oD a.ca)), some (.pure (oD a.li)), w12, w13, w14, w15, w16, w17] := by
  have ly3 := hs.ly3 hy
  have r0 := hs.l0
  have r1 := hs.lr
  have r2 := hs.rn
  have ra := r_acts_of E y hy s.r (by omega) s.b hs.ixb s.ly hs.ixl (by omega)
  have al := acts_len y s.r s.b s.ly ly3
  obtain ⟨σ', h1, w12, w13, w14, w15, w16, w17, h2⟩ := goFor_pre (tg := .tup [12, 13, 14, 15]) (body := b2_nexts E) acD (fun pre σ => ∃ q12 q13 q14 q15 q16 q17, σ = [some (.pure (yD y)), some (.pure (stD s)), some (.pure (.int s.l)), some (.pure (.int s.r)), some (.pure (oD s.a)), some (.pure (oD s.b)), some (.pure (.tup (s.ly.map .int))), some (.mob none (.lst ((fo ++ rowsB s a pre).map rowD))), some (.pure (.str a.nm)), some (.pure (.int a.pl)), some (.pure (oD a.ca)), some (.pure (oD a.li)), q12, q13, q14, q15, q16, q17]) (actR y s) (σ := [some (.pure (yD y)), some (.pure (stD s)), some (.pure (.int s.l)), some (.pure (.int s.r)), some (.pure (oD s.a)), some (.pure (oD s.b)), some (.pure (.tup (s.ly.map .int))), some (.mob none (.lst (fo.map rowD))), some (.pure (.str a.nm)), some (.pure (.int a.pl)), some (.pure (oD a.ca)), some (.pure (oD a.li)), q12, q13, q14, q15, q16, q17]) ⟨q12, q13, q14, q15, q16, q17, by simp [rowsB]⟩ (by
      rintro pre b post e σ ⟨q12, q13, q14, q15, q16, q17, rfl⟩
      have hl : pre.length ≤ 6 := by
        have : (actR y s).length = pre.length + (post.length + 1) := by rw [e]; simp
        unfold actR at this
        omega
      have hb := rowsB_len s a pre
      obtain ⟨w16, w17, h⟩ := nexts_in E a b s.ly s rfl (fo ++ rowsB s a pre) (some (.pure (yD y))) (some (.pure (stD s))) (some (.pure (.int s.l))) (some (.pure (.int s.r))) (some (.pure (oD s.a))) (some (.pure (oD s.b))) q16 q17 (by simp; omega) (by omega)
      rw [List.append_assoc, ← rowsB_one s a b, ← rowsB_append] at h
      exact ⟨_, _, rfl, .inl h, _, _, _, _, _, _, rfl⟩)
  refine ⟨w12, w13, w14, w15, w16, w17, ?_⟩
  subst h2
  rw [← h1]
  simp [b3_nexts, sSeq, sSkip, sPut, sIf, sRet, sRaise, sDo, sUnpack, sPar, eRs, puts, sSet, mbind, mok, eVar, eC, getD, e1, e2, e2v, eItems, eTup, eLst, tB, tNot, tAnd, tOr, eAnd, eOr, eNot, eIf, getI, eChain, asD, view, slotVw, frz, fix, put, eIn, eOpt, eSlice, eM, isS, isL, eFstr, eCall, eArgs, toA, argsS, argS, argIx, giveBack, runF, startF, toArg, backF, backArg, leaveR, bindT_name, bindT_tup, setAll, iD, iRange1_eq, iRange2, eAppend, isMl, isMo, pyIsi, isTy, b2, pySub', pyIxT, pyIxL, pyLen_t, pyLen_l, pyTuple, scrAt, eScrNil, eScrLen, eScrList, eScrIx, List.mapIdx_cons, List.replicate, sFor, ra, actR]
theorem bind_st (i1 i2 i3 i4 i5 : Nat) (s : Stt) (σ : Sl) : bindT (.tup [i1, i2, i3, i4, i5]) (stD s) σ = some (setAll [i1, i2, i3, i4, i5] [.int s.l, .int s.r, oD s.a, oD s.b, .tup (s.ly.map .int)] σ) := rfl
theorem r_nexts (E : Ec) (y : Y) (hy : okY y) (s : Stt) (hs : okS y s) : F_nexts E [.pure (yD y), .pure (stD s)] = .ok (.own (.lst ((nx y s).map rowD))) [.pure (yD y), .pure (stD s)] := by
  have ly3 := hs.ly3 hy
  have r0 := hs.l0
  have r1 := hs.lr
  have r2 := hs.rn
  have ra := r_acts_of E y hy s.l (by omega) s.a hs.ixa s.ly hs.ixl (by omega)
  have al := acts_len y s.l s.a s.ly ly3
  have ar := acts_len y s.r s.b s.ly ly3
  obtain ⟨σ', h1, w8, w9, w10, w11, w12, w13, w14, w15, w16, w17, h2⟩ := goFor_pre (tg := .tup [8, 9, 10, 11]) (body := b3_nexts E) acD (fun pre σ => ∃ q8 q9 q10 q11 q12 q13 q14 q15 q16 q17, σ = [some (.pure (yD y)), some (.pure (stD s)), some (.pure (.int s.l)), some (.pure (.int s.r)), some (.pure (oD s.a)), some (.pure (oD s.b)), some (.pure (.tup (s.ly.map .int))), some (.mob none (.lst ((rowsA s pre (actR y s)).map rowD))), q8, q9, q10, q11, q12, q13, q14, q15, q16, q17]) (actL y s) (σ := [some (.pure (yD y)), some (.pure (stD s)), some (.pure (.int s.l)), some (.pure (.int s.r)), some (.pure (oD s.a)), some (.pure (oD s.b)), some (.pure (.tup (s.ly.map .int))), some (.mob none (.lst [])), none, none, none, none, none, none, none, none, none, none]) ⟨none, none, none, none, none, none, none, none, none, none, by simp [rowsA]⟩ (by
      rintro pre a post e σ ⟨q8, q9, q10, q11, q12, q13, q14, q15, q16, q17, rfl⟩
      have hl : pre.length ≤ 6 := by
        have : (actL y s).length = pre.length + (post.length + 1) := by rw [e]; simp
        unfold actL at this
        omega
      have hb := rowsA_len s (actR y s) pre
      have : pre.length * (actR y s).length ≤ 6 * 6 := Nat.mul_le_mul hl ar
      obtain ⟨w12, w13, w14, w15, w16, w17, h⟩ := nexts_mid E y hy s hs a (rowsA s pre (actR y s)) (by omega) q12 q13 q14 q15 q16 q17
      rw [← rowsA_one s a, ← rowsA_append] at h
      exact ⟨_, _, rfl, .inl h, _, _, _, _, _, _, _, _, _, _, rfl⟩)
  have so := sort_rows (rows0 y s) (rows0_keys hs) (by have := rows0_len hy hs; omega)
  subst h2
  unfold rows0 at so
  simp only [actL] at h1 so
  simp [F_nexts, m_nexts, sSeq, sSkip, sPut, sIf, sRet, sRaise, sDo, sUnpack, sPar, eRs, puts, sSet, mbind, mok, eVar, eC, getD, e1, e2, e2v, eItems, eTup, eLst, tB, tNot, tAnd, tOr, eAnd, eOr, eNot, eIf, getI, eChain, asD, view, slotVw, frz, fix, put, eIn, eOpt, eSlice, eM, isS, isL, eFstr, eCall, eArgs, toA, argsS, argS, argIx, giveBack, runF, startF, toArg, backF, backArg, leaveR, bindT_name, bindT_tup, setAll, iD, iRange1_eq, iRange2, eAppend, isMl, isMo, pyIsi, isTy, b2, pySub', pyIxT, pyIxL, pyLen_t, pyLen_l, pyTuple, scrAt, eScrNil, eScrLen, eScrList, eScrIx, List.mapIdx_cons, List.replicate, bind_st, sFor, ra, h1, so, nx, rows0, actL]

/-! _law_acts, _law_nexts: the same -/
theorem asc_eq {l m : List Int} (hl : l.Pairwise (· < ·)) (hm : m.Pairwise (· < ·)) (h : ∀ k, k ∈ l ↔ k ∈ m) : l = m :=
  List.Perm.eq_of_pairwise (le := fun a b : Int => a < b) (fun a b _ _ h1 h2 => absurd h1 (by omega)) hl hm ((List.perm_ext_iff_of_nodup (hl.imp fun h => by omega) (hm.imp fun h => by omega)).mpr h)
theorem zs_asc (n : Nat) : (zs n).Pairwise (· < ·) := by
  unfold zs
  exact List.pairwise_map.mpr (List.pairwise_lt_range.imp fun h => by omega)
theorem zs_mem {n : Nat} {k : Int} : k ∈ zs n ↔ 0 ≤ k ∧ k < n := by
  unfold zs
  simp only [List.mem_map, List.mem_range]
  constructor
  · rintro ⟨a, h, rfl⟩; omega
  · intro h
    exact ⟨k.toNat, by omega, by omega⟩
theorem zs_len (n : Nat) : (zs n).length = n := by simp [zs]
theorem range_zs (n : Nat) : ((List.range n).map fun (k : Nat) => D.int (k : Int)) = (zs n).map .int := by simp [zs]
theorem flat_if {α : Type} (f : Int → α) (p : Int → Prop) [DecidablePred p] : ∀ l : List Int, (l.flatMap fun k => if p k then [f k] else []) = (l.filter fun k => decide (p k)).map f
  | [] => rfl
  | k :: l => by
    rw [List.flatMap_cons, flat_if f p l, List.filter_cons]
    by_cases h : p k <;> simp [h]
theorem extra_acts (y : Y) (p : Int) (c : Option Int) (ly : List Int) (hc : ∀ k, c = some k → IxOk y k) (hl : ∀ k ∈ ly, IxOk y k) (so : ly.Pairwise (· < ·)) : moves y p c ++ (zs y.ld.length).flatMap (extra y p c ly) = acts y p c ly := by
  unfold acts
  congr 1
  cases c with
  | none =>
    have e : extra y p none ly = fun k => if k ∈ ly ∧ (ldAt y k).1 = p then [(⟨94 :: fig k, p, some k, some k⟩ : Ac)] else [] := by
      funext k
      simp [extra]
    rw [e, flat_if]
    unfold lifts
    dsimp only
    congr 1
    refine asc_eq ((zs_asc _).filter _) (so.filter _) fun k => ?_
    simp only [List.mem_filter, zs_mem, decide_eq_true_eq, beq_iff_eq]
    constructor
    · rintro ⟨_, h1, h2⟩; exact ⟨h1, h2⟩
    · rintro ⟨h1, h2⟩; exact ⟨hl k h1, h1, h2⟩
  | some i =>
    have hi := hc i rfl
    have e : extra y p (some i) ly = fun k => if k = i ∧ (ldAt y k).2 = p then [(⟨[118], p, none, none⟩ : Ac)] else [] := by
      funext k
      simp [extra, eq_comm]
    rw [e, flat_if (fun _ => (⟨[118], p, none, none⟩ : Ac))]
    by_cases h : (ldAt y i).2 = p
    · have : (zs y.ld.length).filter (fun k => decide (k = i ∧ (ldAt y k).2 = p)) = [i] := asc_eq ((zs_asc _).filter _) (by simp) fun k => by
        simp only [List.mem_filter, zs_mem, decide_eq_true_eq, List.mem_singleton]
        constructor
        · rintro ⟨_, h1, _⟩; exact h1
        · rintro rfl; exact ⟨hi, rfl, h⟩
      rw [this]
      simp [h]
    · have : (zs y.ld.length).filter (fun k => decide (k = i ∧ (ldAt y k).2 = p)) = [] := by
        rw [List.filter_eq_nil_iff]
        intro k _ hk
        simp only [decide_eq_true_eq] at hk
        exact h (hk.1 ▸ hk.2)
      rw [this]
      simp [h]
theorem extra_len (y : Y) (p : Int) (c : Option Int) (ly : List Int) (k : Int) : (extra y p c ly k).length ≤ 2 := by
  unfold extra
  split <;> split <;> simp
theorem flat_len {α β : Type} (f : α → List β) (n : Nat) (h : ∀ a, (f a).length ≤ n) : ∀ l : List α, (l.flatMap f).length ≤ n * l.length
  | [] => by simp
  | a :: l => by
    have := flat_len f n h l
    have := h a
    rw [List.flatMap_cons, List.length_append, List.length_cons, Nat.mul_succ]
    omega
/-! ### comprehensions over what is encoded -/
theorem comp_fT {α : Type} {vs : List Nat} {tg : Tg} {t : M Bool} {e : M R} {σ : Sl} (enc : α → D) (g : α → D) (p : α → Bool) (xs acc : List _) (h : ∀ x ∈ xs, ∃ σ1 σ2, bindT tg (enc x) σ = some σ1 ∧ t σ1 = .ok (p x) σ2 ∧ (p x = true → ∃ σ3, mbind e frz σ2 = .ok (g x) σ3 ∧ wipeS σ3 vs = σ) ∧ (p x = false → wipeS σ2 vs = σ)) (hz : acc.length + xs.length ≤ zLine) :
    goComp vs tg t e (xs.map enc) acc σ = .ok (acc ++ (xs.filter p).map g) σ := by
  induction xs generalizing acc with
  | nil => simp [goComp, mok]
  | cons x xs ih =>
    obtain ⟨σ1, σ2, h1, h2, h3, h4⟩ := h x List.mem_cons_self
    simp only [List.length_cons] at hz
    cases hp : p x with
    | true =>
      obtain ⟨σ3, h5, h6⟩ := h3 hp
      have ih := ih (acc ++ [g x]) (fun x hx => h x (List.mem_cons_of_mem _ hx)) (by simp; omega)
      have hlt : acc.length < zLine := by omega
      rw [hp] at h2
      simp only [List.map_cons, goComp, h1, h2, h5, hlt, if_true, h6, ih]
      simp [hp]
    | false =>
      have ih := ih acc (fun x hx => h x (List.mem_cons_of_mem _ hx)) (by omega)
      rw [hp] at h2
      simp only [List.map_cons, goComp, h1, h2, h4 hp, ih]
      simp [hp]
theorem comp_mT {α : Type} {vs : List Nat} {tg : Tg} {e : M R} {σ : Sl} (enc : α → D) (g : α → D) (xs : List α) (h : ∀ x ∈ xs, ∃ σ1 σ2, bindT tg (enc x) σ = some σ1 ∧ mbind e frz σ1 = .ok (g x) σ2 ∧ wipeS σ2 vs = σ) (hz : xs.length ≤ zLine) :
    goComp vs tg (mok true) e (xs.map enc) [] σ = .ok (xs.map g) σ := by
  have := comp_fT (vs := vs) (tg := tg) (t := mok true) (e := e) (σ := σ) enc g (fun _ => true) xs [] (fun x hx => by
    obtain ⟨σ1, σ2, h1, h2, h3⟩ := h x hx
    exact ⟨σ1, σ1, h1, rfl, fun _ => ⟨σ2, h2, h3⟩, fun h => by simp at h⟩) (by simpa using hz)
  rw [this, List.filter_eq_self.mpr (fun _ _ => rfl), List.nil_append]
/-! ### dicts of encoded keys -/
structure Enc {α : Type} (enc : α → D) [DecidableEq α] : Prop where
  eq : ∀ a b, (enc a).eqv (enc b) = decide (a = b)
  ok : ∀ a, (enc a).keyOk = true
section
variable {α β : Type} [DecidableEq α]
def lk : List (α × β) → α → Option β
  | [], _ => none
  | (k, v) :: r, x => if k = x then some v else lk r x
def pu : List (α × β) → α → β → List (α × β)
  | [], x, v => [(x, v)]
  | (k, u) :: r, x, v => if k = x then (k, v) :: r else (k, u) :: pu r x v
def dE (enc : α → D) (f : β → D) (l : List (α × β)) : List (D × D) := l.map fun p => (enc p.1, f p.2)
theorem dGet_E {enc : α → D} (he : Enc enc) (f : β → D) (x : α) : ∀ l : List (α × β), dGet (dE enc f l) (enc x) = (lk l x).map f
  | [] => rfl
  | (k, v) :: r => by
    show (if (enc k).eqv (enc x) = true then some (f v) else dGet (dE enc f r) (enc x)) = _
    rw [dGet_E he f x r, he.eq]
    by_cases h : k = x <;> simp [lk, h]
theorem dPut_E {enc : α → D} (he : Enc enc) (f : β → D) (x : α) (v : β) : ∀ l : List (α × β), dPut (dE enc f l) (enc x) (f v) = dE enc f (pu l x v)
  | [] => rfl
  | (k, u) :: r => by
    show (if (enc k).eqv (enc x) = true then (enc k, f v) :: dE enc f r else (enc k, f u) :: dPut (dE enc f r) (enc x) (f v)) = _
    rw [dPut_E he f x v r, he.eq]
    by_cases h : k = x <;> simp [pu, h, dE]
theorem lk_pu (l : List (α × β)) (x z : α) (v : β) : lk (pu l x v) z = if x = z then some v else lk l z := by
  induction l with
  | nil => simp [pu, lk]
  | cons p r ih =>
    obtain ⟨k, u⟩ := p
    unfold pu
    by_cases h : k = x
    · subst h
      simp only [if_true, lk]
      split <;> rfl
    · rw [if_neg h]
      simp only [lk, ih]
      by_cases h2 : k = z
      · subst h2; rw [if_pos rfl, if_neg (fun e => h e.symm), if_pos rfl]
      · rw [if_neg h2, if_neg h2]
theorem lk_none {l : List (α × β)} {x : α} : lk l x = none ↔ x ∉ l.map (·.1) := by
  induction l with
  | nil => simp [lk]
  | cons p r ih =>
    obtain ⟨k, u⟩ := p
    unfold lk
    by_cases h : k = x
    · simp [h]
    · rw [if_neg h, ih]
      simp [Ne.symm h]
theorem lk_some {l : List (α × β)} {x : α} {v : β} (hn : (l.map (·.1)).Nodup) : lk l x = some v ↔ (x, v) ∈ l := by
  induction l with
  | nil => simp [lk]
  | cons p r ih =>
    obtain ⟨k, u⟩ := p
    simp only [List.map_cons, List.nodup_cons] at hn
    unfold lk
    by_cases h : k = x
    · subst h
      rw [if_pos rfl]
      simp only [Option.some.injEq, List.mem_cons, Prod.mk.injEq, true_and]
      constructor
      · intro h; exact .inl h.symm
      · rintro (h | h)
        · exact h.symm
        · exact absurd (List.mem_map.mpr ⟨_, h, rfl⟩) hn.1
    · rw [if_neg h, ih hn.2]
      simp [Ne.symm h]
theorem pu_new {l : List (α × β)} {x : α} {v : β} (h : lk l x = none) : pu l x v = l ++ [(x, v)] := by
  induction l with
  | nil => rfl
  | cons p r ih =>
    obtain ⟨k, u⟩ := p
    unfold lk at h
    split at h
    · cases h
    · rename_i hk
      unfold pu
      rw [if_neg hk, ih h]
      rfl
theorem pu_keys (l : List (α × β)) (x : α) (v : β) : (pu l x v).map (·.1) = if x ∈ l.map (·.1) then l.map (·.1) else l.map (·.1) ++ [x] := by
  induction l with
  | nil => simp [pu]
  | cons p r ih =>
    obtain ⟨k, u⟩ := p
    unfold pu
    by_cases h : k = x
    · simp [h]
    · rw [if_neg h]
      simp only [List.map_cons, ih, List.mem_cons, Ne.symm h, false_or]
      split <;> simp
theorem pu_nodup {l : List (α × β)} (x : α) (v : β) (h : (l.map (·.1)).Nodup) : ((pu l x v).map (·.1)).Nodup := by
  rw [pu_keys]
  split
  · exact h
  · rename_i hx
    rw [List.nodup_append]
    exact ⟨h, by simp, fun a ha b hb => by rw [List.mem_singleton.mp hb]; exact fun e => hx (e ▸ ha)⟩
def puA (l : List (α × β)) : List (α × β) := l.foldl (fun acc p => pu acc p.1 p.2) []
theorem putAll_E {enc : α → D} (he : Enc enc) (f : β → D) (l : List (α × β)) : putAll (dE enc f l) = dE enc f (puA l) := by
  unfold putAll puA
  suffices h : ∀ (l acc : List (α × β)), (dE enc f l).foldl (fun acc p => dPut acc p.1 p.2) (dE enc f acc) = dE enc f (l.foldl (fun acc p => pu acc p.1 p.2) acc) from h l []
  intro l
  induction l with
  | nil => intro acc; rfl
  | cons p r ih =>
    intro acc
    show (dE enc f r).foldl _ (dPut (dE enc f acc) (enc p.1) (f p.2)) = _
    rw [dPut_E he, ih]
    rfl
theorem puA_nodup (l : List (α × β)) (h : (l.map (·.1)).Nodup) : puA l = l := by
  unfold puA
  suffices g : ∀ (l acc : List (α × β)), ((acc ++ l).map (·.1)).Nodup → l.foldl (fun acc p => pu acc p.1 p.2) acc = acc ++ l from g l [] h
  intro l
  induction l with
  | nil => intro acc _; simp
  | cons p r ih =>
    intro acc hn
    have hx : lk acc p.1 = none := lk_none.mpr fun hm => by
      rw [List.map_append, List.nodup_append] at hn
      exact hn.2.2 _ hm p.1 (by simp) rfl
    simp only [List.foldl_cons]
    rw [pu_new hx, ih _ (by simpa using hn)]
    simp
end
theorem eqvs_ints : ∀ a b : List Int, D.eqvs (a.map .int) (b.map .int) = decide (a = b)
  | [], [] => by simp [D.eqvs]
  | [], _ :: _ => by simp [D.eqvs]
  | _ :: _, [] => by simp [D.eqvs]
  | x :: a, y :: b => by
    simp only [List.map_cons, D.eqvs, D.eqv, eqvs_ints a b]
    rw [Bool.eq_iff_iff]
    simp
theorem eqv_oD (a b : Option Int) : (oD a).eqv (oD b) = decide (a = b) := by
  cases a <;> cases b <;> simp [oD, D.eqv]
  rw [Bool.eq_iff_iff]; simp
theorem eqv_stD (s t : Stt) : (stD s).eqv (stD t) = decide (s = t) := by
  obtain ⟨l, r, a, b, ly⟩ := s
  obtain ⟨l', r', a', b', ly'⟩ := t
  simp only [stD, D.eqv, D.eqvs, eqv_oD, eqvs_ints]
  rw [Bool.eq_iff_iff]
  simp
theorem eqv_pkD (s t : Pk) : (pkD s).eqv (pkD t) = decide (s = t) := by
  obtain ⟨a, b⟩ := s
  obtain ⟨c, d⟩ := t
  simp only [pkD, D.eqv, D.eqvs]
  rw [Bool.eq_iff_iff]
  simp
theorem kins_ints (l : List Int) : D.kins (l.map .int) = true := by
  induction l with
  | nil => rfl
  | cons a l ih => simp [D.kins, D.kin, ih]
theorem encP' : Enc pkD := ⟨eqv_pkD, fun a => by simp [pkD, D.keyOk, D.kins, D.kin, D.deps, D.dep]⟩
theorem encS' : Enc stD := ⟨eqv_stD, fun s => by
  have ho : ∀ o, D.kin (oD o) = true ∧ D.dep (oD o) = 0 := fun o => by cases o <;> simp [oD, D.kin, D.dep]
  simp [stD, D.keyOk, D.kins, D.kin, D.deps, D.dep, kins_ints, deps_ints, ho]⟩
/-! the parts of a state, of an act, of a row -/
theorem sx0 (s : Stt) : pyIx (stD s) (.int 0) = some (.int s.l) := rfl
theorem sx1 (s : Stt) : pyIx (stD s) (.int 1) = some (.int s.r) := rfl
theorem sx2 (s : Stt) : pyIx (stD s) (.int 2) = some (oD s.a) := rfl
theorem sx3 (s : Stt) : pyIx (stD s) (.int 3) = some (oD s.b) := rfl
theorem sx4 (s : Stt) : pyIx (stD s) (.int 4) = some (.tup (s.ly.map .int)) := rfl
theorem ax0 (a : Ac) : pyIx (acD a) (.int 0) = some (.str a.nm) := rfl
theorem ax1 (a : Ac) : pyIx (acD a) (.int 1) = some (.int a.pl) := rfl
theorem ax2 (a : Ac) : pyIx (acD a) (.int 2) = some (oD a.ca) := rfl
theorem ax3 (a : Ac) : pyIx (acD a) (.int 3) = some (oD a.li) := rfl
theorem rx0 (r : Rw) : pyIx (rowD r) (.int 0) = some (pkD r.1) := rfl
theorem rx1 (r : Rw) : pyIx (rowD r) (.int 1) = some (stD r.2) := rfl
theorem px0 (r : Pk) : pyIx (pkD r) (.int 0) = some (.str r.1) := rfl
theorem px1 (r : Pk) : pyIx (pkD r) (.int 1) = some (.str r.2) := rfl
theorem bind_row (i j : Nat) (r : Rw) (σ : Sl) : bindT (.tup [i, j]) (rowD r) σ = some (setAll [i, j] [pkD r.1, stD r.2] σ) := rfl
theorem bind_ac (i j k l : Nat) (a : Ac) (σ : Sl) : bindT (.tup [i, j, k, l]) (acD a) σ = some (setAll [i, j, k, l] [.str a.nm, .int a.pl, oD a.ca, oD a.li] σ) := rfl

/-! _law_nexts -/
theorem keyed_pks : ∀ ks : List Pk, keyed keyP (ks.map pkD) = some (ks.map fun k => (k, pkD k))
  | [] => rfl
  | r :: rs => by simp only [List.map_cons, keyed, keyed_pks rs]; simp [pkD, keyP]
theorem sort_pks (ks : List Pk) (hn : ks.Nodup) (hl : ks.length ≤ 1000) : pySortK keyP (.lst (ks.map pkD)) = some (.own (.lst ((sortB leP ks).map pkD))) := by
  have e : ((ks.map fun r => (r, pkD r)).map (·.1)) = ks := by rw [List.map_map]; exact List.map_id ks
  simp only [pySortK, keyed_pks]
  rw [if_pos ⟨by rw [e]; exact hn, by simpa using hl⟩, sortB_mapG (le := leP) (fun r : Pk => (r, pkD r)) (fun _ _ => rfl) ks, List.map_map]
  rfl
theorem pairs_rows : ∀ rs : List Rw, pairsD (rs.map rowD) = some (dE pkD stD rs)
  | [] => rfl
  | r :: rs => by
    show (if (pkD r.1).keyOk = true then (pairsD (rs.map rowD)).map ((pkD r.1, stD r.2) :: ·) else none) = _
    rw [pairs_rows rs, if_pos (encP'.ok _)]
    rfl
theorem dict_rows (rs : List Rw) (hn : (rs.map (·.1)).Nodup) (hl : rs.length ≤ 1000) : pyDictOf (.lst (rs.map rowD)) = some (.own (.dct (dE pkD stD rs))) := by
  simp only [pyDictOf, pairs_rows]
  rw [if_pos (by simpa [dE] using hl), putAll_E encP', puA_nodup rs hn]
theorem nx_mem {y : Y} {s : Stt} {r : Rw} : r ∈ nx y s ↔ r ∈ rows0 y s := (sortB_perm (rows0 y s)).mem_iff
theorem nx_keys {y : Y} {s : Stt} (hs : okS y s) : ((nx y s).map (·.1)).Nodup := ((sortB_perm (rows0 y s)).map (·.1)).nodup_iff.mpr (rows0_keys hs)
theorem nx_len {y : Y} {s : Stt} (hy : okY y) (hs : okS y s) : (nx y s).length ≤ 36 := by rw [show (nx y s).length = (rows0 y s).length from (sortB_perm (rows0 y s)).length_eq]; exact rows0_len hy hs
theorem nx_fst (y : Y) (s : Stt) : sortB leP ((rows0 y s).map (·.1)) = (nx y s).map (·.1) := sortB_mapG (le := leK) (fun r : Rw => r.1) (fun _ _ => rfl) _
theorem lk_row {y : Y} {s : Stt} (hs : okS y s) {r : Rw} (h : r ∈ nx y s) : lk (rows0 y s) r.1 = some r.2 := (lk_some (rows0_keys hs)).mpr (nx_mem.mp h)
/-! ### what a step keeps -/
def Act1 (c ca li : Option Int) (ly : List Int) : Prop := (ca = c ∧ li = none) ∨ (∃ k, c = none ∧ ca = some k ∧ li = some k ∧ k ∈ ly) ∨ (∃ k, c = some k ∧ ca = none ∧ li = none)
theorem acts_are {y : Y} {p : Int} {c : Option Int} {ly : List Int} {a : Ac} (hp : 0 ≤ p ∧ p < y.n) (h : a ∈ acts y p c ly) :
    0 ≤ a.pl ∧ a.pl < y.n ∧ ((a.ca = c ∧ a.li = none ∧ ((a.nm = [45] ∧ a.pl = p) ∨ (a.nm = [60] ∧ a.pl = p - 1) ∨ (a.nm = [62] ∧ a.pl = p + 1))) ∨ (∃ k, c = none ∧ a.ca = some k ∧ a.li = some k ∧ k ∈ ly ∧ (ldAt y k).1 = p ∧ a.pl = p ∧ a.nm = 94 :: fig k) ∨ (∃ k, c = some k ∧ a.ca = none ∧ a.li = none ∧ (ldAt y k).2 = p ∧ a.pl = p ∧ a.nm = [118])) := by
  unfold acts at h
  rcases List.mem_append.mp h with h | h
  · unfold moves at h
    simp only [List.mem_append, List.mem_singleton] at h
    rcases h with (rfl | h) | h
    · exact ⟨hp.1, hp.2, .inl ⟨rfl, rfl, .inl ⟨rfl, rfl⟩⟩⟩
    · split at h
      · rw [List.mem_singleton.mp h]
        exact ⟨by dsimp only; omega, by dsimp only; omega, .inl ⟨rfl, rfl, .inr (.inl ⟨rfl, rfl⟩)⟩⟩
      · cases h
    · split at h
      · rw [List.mem_singleton.mp h]
        exact ⟨by dsimp only; omega, by dsimp only; omega, .inl ⟨rfl, rfl, .inr (.inr ⟨rfl, rfl⟩)⟩⟩
      · cases h
  · cases c with
    | none =>
      dsimp only at h
      unfold lifts at h
      obtain ⟨k, hk, rfl⟩ := List.mem_map.mp h
      have := List.mem_filter.mp hk
      exact ⟨hp.1, hp.2, .inr (.inl ⟨k, rfl, rfl, rfl, this.1, by simpa using this.2, rfl, rfl⟩)⟩
    | some k =>
      dsimp only at h
      split at h
      · rename_i hq
        rw [List.mem_singleton.mp h]
        exact ⟨hp.1, hp.2, .inr (.inr ⟨k, rfl, rfl, rfl, by simpa using hq, rfl, rfl⟩)⟩
      · cases h
theorem acts1 {y : Y} {p : Int} {c : Option Int} {ly : List Int} {a : Ac} (hp : 0 ≤ p ∧ p < y.n) (h : a ∈ acts y p c ly) : Act1 c a.ca a.li ly := by
  obtain ⟨_, _, h⟩ := acts_are hp h
  rcases h with h | ⟨k, h⟩ | ⟨k, h⟩
  · exact .inl ⟨h.1, h.2.1⟩
  · exact .inr (.inl ⟨k, h.1, h.2.1, h.2.2.1, h.2.2.2.1⟩)
  · exact .inr (.inr ⟨k, h.1, h.2.1, h.2.2.1⟩)
theorem rows_are {y : Y} {s : Stt} {r : Rw} (h : r ∈ nx y s) : ∃ a ∈ actL y s, ∃ b ∈ actR y s, a.pl < b.pl ∧ r = goR s a b := by
  have h := nx_mem.mp h
  unfold rows0 rowsA at h
  obtain ⟨a, ha, h⟩ := List.mem_flatMap.mp h
  unfold rowsB at h
  obtain ⟨b, hb, rfl⟩ := List.mem_map.mp h
  have := List.mem_filter.mp hb
  exact ⟨a, ha, b, this.1, by simpa using this.2, rfl⟩
theorem rows_mk {y : Y} {s : Stt} {a b : Ac} (ha : a ∈ actL y s) (hb : b ∈ actR y s) (h : a.pl < b.pl) : goR s a b ∈ nx y s := by
  refine nx_mem.mpr (List.mem_flatMap.mpr ⟨a, ha, List.mem_map.mpr ⟨b, List.mem_filter.mpr ⟨hb, by simpa using h⟩, rfl⟩⟩)
theorem rest2_mem {ly : List Int} {a b : Option Int} {k : Int} : k ∈ rest2 ly a b ↔ k ∈ ly ∧ some k ≠ a ∧ some k ≠ b := by simp [rest2, nO]
theorem okS.pl {y : Y} {s : Stt} (hs : okS y s) : (0 ≤ s.l ∧ s.l < y.n) ∧ (0 ≤ s.r ∧ s.r < y.n) := by
  have := hs.l0
  have := hs.lr
  have := hs.rn
  omega
theorem nx_ok {y : Y} {s : Stt} (hs : okS y s) {r : Rw} (h : r ∈ nx y s) : okS y r.2 := by
  obtain ⟨a, ha, b, hb, lt, rfl⟩ := rows_are h
  obtain ⟨p1, p2⟩ := hs.pl
  obtain ⟨a0, a1, a2⟩ := acts_are p1 ha
  obtain ⟨b0, b1, b2⟩ := acts_are p2 hb
  have A := acts1 p1 ha
  have B := acts1 p2 hb
  have nd := hs.nd
  have ix := hs.ix
  simp only [List.nodup_append, carr] at nd
  obtain ⟨⟨n1, n2, n3⟩, n4, n5⟩ := nd
  have hA : ∀ i, a.ca = some i → (s.a = some i ∧ i ∉ s.ly) ∨ (i ∈ s.ly ∧ a.li = some i ∧ (ldAt y i).1 = s.l) := by
    intro i hi
    rcases a2 with ⟨h, _⟩ | ⟨k, _, h1, h2, h3, h4, _⟩ | ⟨k, _, h1, _⟩
    · rw [hi] at h
      refine .inl ⟨h.symm, fun hm => n5 i (by simp [h.symm]) i hm rfl⟩
    · rw [hi] at h1
      cases h1
      exact .inr ⟨h3, h2, h4⟩
    · rw [hi] at h1; cases h1
  have hB : ∀ i, b.ca = some i → (s.b = some i ∧ i ∉ s.ly) ∨ (i ∈ s.ly ∧ b.li = some i ∧ (ldAt y i).1 = s.r) := by
    intro i hi
    rcases b2 with ⟨h, _⟩ | ⟨k, _, h1, h2, h3, h4, _⟩ | ⟨k, _, h1, _⟩
    · rw [hi] at h
      refine .inl ⟨h.symm, fun hm => n5 i (by simp [h.symm]) i hm rfl⟩
    · rw [hi] at h1
      cases h1
      exact .inr ⟨h3, h2, h4⟩
    · rw [hi] at h1; cases h1
  have lr := hs.lr
  refine ⟨a0, lt, b1, ?_, ?_, ?_⟩
  · intro k hk
    simp only [goR, carr, List.mem_append, Option.mem_toList, rest2_mem] at hk
    rcases hk with (hk | hk) | hk
    · rcases hA k hk with h | h
      · exact ix k (by simp [carr, h.1])
      · exact ix k (by simp [h.1])
    · rcases hB k hk with h | h
      · exact ix k (by simp [carr, h.1])
      · exact ix k (by simp [h.1])
    · exact ix k (by simp [hk.1])
  · simp only [goR, carr, List.nodup_append, List.mem_append, Option.mem_toList, rest2_mem]
    refine ⟨⟨by cases a.ca <;> simp, by cases b.ca <;> simp, ?_⟩, ?_, ?_⟩
    · rintro i hi j hj rfl
      rcases hA i hi with h | h <;> rcases hB i hj with h' | h'
      · exact n3 i (by simp [h.1]) i (by simp [h'.1]) rfl
      · exact h.2 h'.1
      · exact h'.2 h.1
      · omega
    · exact n4.filter _
    · rintro i (hi | hi) j hj rfl
      · rcases hA i hi with h | h
        · exact h.2 hj.1
        · exact hj.2.1 h.2.1.symm
      · rcases hB i hi with h | h
        · exact h.2 hj.1
        · exact hj.2.2 h.2.1.symm
  · exact hs.so.filter _
/-! ### the beginning -/
def begS (y : Y) : Stt := ⟨y.l, y.r, none, none, zs y.ld.length⟩
theorem okS_beg {y : Y} (hy : okY y) : okS y (begS y) := by
  refine ⟨hy.l0, hy.lr, hy.rn, fun k hk => ?_, ?_, zs_asc _⟩
  · simp only [begS, carr, Option.toList_none, List.nil_append] at hk
    exact zs_mem.mp hk
  · simp only [begS, carr, Option.toList_none, List.nil_append]
    exact (zs_asc _).imp fun h => by omega
theorem r_begin (E : Ec) (y : Y) (hy : okY y) : F_begin E [.pure (yD y)] = .ok (.pure (stD (begS y))) [.pure (yD y)] := by
  have l3 := hy.len
  have b1 : -1000 ≤ (y.ld.length : Int) := by omega
  have b2 : (y.ld.length : Int) ≤ 1000 := by omega
  have e : pyListRg (.int y.ld.length) = some (.own (.lst ((zs y.ld.length).map .int))) := by
    simp only [pyListRg]
    rw [if_pos ⟨b1, b2⟩]
    simp [zs]
  simp [F_begin, m_begin, sSeq, sSkip, sPut, sIf, sRet, sRaise, sDo, sUnpack, sPar, eRs, puts, sSet, mbind, mok, eVar, eC, getD, e1, e2, e2v, eItems, eTup, eLst, tB, tNot, tAnd, tOr, eAnd, eOr, eNot, eIf, getI, eChain, asD, view, slotVw, frz, fix, put, eIn, eOpt, eSlice, eM, isS, isL, eFstr, eCall, eArgs, toA, argsS, argS, argIx, giveBack, runF, startF, toArg, backF, backArg, leaveR, bindT_name, bindT_tup, setAll, iD, iRange1_eq, iRange2, eAppend, isMl, isMo, pyIsi, isTy, b2, pySub', pyIxT, pyIxL, pyLen_t, pyLen_l, pyTuple, scrAt, eScrNil, eScrLen, eScrList, eScrIx, List.mapIdx_cons, List.replicate, yix1, yix2, yix3, e]
  simp [stD, begS, oD]

theorem ne_nil (xs : List D) : pyNe (.lst xs) (.lst []) = some (.pure (.bl (!xs.isEmpty))) := by
  cases xs <;> simp [pyNe, D.dep, D.deps, b2, D.eqv, D.eqvs]
theorem dep_st (s : Stt) : (stD s).dep ≤ 3 := by
  have ho : ∀ o, D.dep (oD o) = 0 := fun o => by cases o <;> rfl
  simp [stD, D.dep, D.deps, deps_ints, ho]
theorem deps_map_le {α : Type} (enc : α → D) (n : Nat) (h : ∀ a, (enc a).dep ≤ n) : ∀ l : List α, D.deps (l.map enc) ≤ n
  | [] => by simp [D.deps]
  | a :: l => by
    have := deps_map_le enc n h l
    have := h a
    simp only [List.map_cons, D.deps]
    omega
theorem isN_oD (o : Option Int) : isN (oD o) = o.isNone := by cases o <;> rfl

/-! ### states are accepted -/
theorem ded_nodup (ns : List Int) (h : ns.Nodup) : dedI ns = ns := by
  unfold dedI
  suffices g : ∀ (l acc : List Int), (acc ++ l).Nodup → l.foldl PyProof.Rows.step_dedup acc = acc ++ l from g ns [] h
  intro l
  induction l with
  | nil => intro acc _; simp
  | cons x r ih =>
    intro acc hn
    have hx : (acc.any (· == x)) = false := by
      rw [List.any_eq_false]
      intro z hz e
      rw [List.nodup_append] at hn
      exact hn.2.2 z hz x (by simp) (by simpa using e)
    simp only [List.foldl_cons, PyProof.Rows.step_dedup, hx, Bool.false_eq_true, if_false]
    rw [ih _ (by simpa using hn)]
    simp
theorem sortI_asc : ∀ l : List Int, l.Pairwise (· < ·) → sortI l = l
  | [], _ => rfl
  | x :: l, h => by
    rw [List.pairwise_cons] at h
    rw [sortI, sortI_asc l h.2]
    cases l with
    | nil => rfl
    | cons z l =>
      have := h.1 z List.mem_cons_self
      rw [insI, if_pos (by omega)]
theorem intsD_map : ∀ l : List Int, intsD (l.map .int) = some l
  | [] => rfl
  | x :: l => by simp [intsD, intsD_map l]
theorem bools_true {α : Type} : ∀ xs : List α, boolsD (xs.map fun _ => .bl true) = some (xs.map fun _ => true)
  | [] => rfl
  | x :: l => by simp [boolsD, bools_true l]
theorem oD_int {a b : Option Int} : [a, b].filter (fun o => !o.isNone) = (carr a b).map some := by cases a <;> cases b <;> rfl
theorem eq_lints (a b : List Int) : pyEq (.lst (a.map .int)) (.lst (b.map .int)) = some (.pure (.bl (decide (a = b)))) := by
  unfold pyEq b2
  rw [if_pos (Or.inl (by simp [D.dep, deps_ints]))]
  simp only [D.eqv, eqvs_ints]
theorem bind_y (i1 i2 i3 i4 : Nat) (y : Y) (σ : Sl) : bindT (.tup [i1, i2, i3, i4]) (yD y) σ = some (setAll [i1, i2, i3, i4] [.int y.n, .int y.l, .int y.r, .tup (y.ld.map prD)] σ) := rfl
theorem isT_st (s : Stt) : isTy .tuple (stD s) = true := rfl
theorem len_st (s : Stt) : pyLen (stD s) = some (.pure (.int 5)) := rfl

/-! ### steps, after -/
theorem eq_pk (p q : Pk) : pyEq (pkD p) (pkD q) = some (.pure (.bl (decide (p = q)))) := by
  unfold pyEq b2
  rw [if_pos (Or.inl (by simp [pkD, D.dep, D.deps])), eqv_pkD]
theorem filter_key {α β : Type} [DecidableEq α] (x : α) : ∀ l : List (α × β), (l.map (·.1)).Nodup → l.filter (fun r => decide (r.1 = x)) = (match lk l x with | some v => [(x, v)] | none => [])
  | [], _ => rfl
  | (k, v) :: r, h => by
    simp only [List.map_cons, List.nodup_cons] at h
    have ih := filter_key x r h.2
    unfold lk
    by_cases e : k = x
    · subst e
      have : lk r k = none := lk_none.mpr h.1
      rw [this] at ih
      simp [ih]
    · rw [if_neg e, ← ih]
      simp [e]
/-! ### mirrored yards, yards without a load -/
def mirP (n : Int) (p : Int × Int) : Int × Int := (n - 1 - p.1, n - 1 - p.2)
def mirY (y : Y) : Y := ⟨y.n, y.n - 1 - y.r, y.n - 1 - y.l, y.ld.map (mirP y.n)⟩
theorem okY_mir {y : Y} (h : okY y) : okY (mirY y) := by
  obtain ⟨h1, h2, h3, h4, h5, h6, h7⟩ := h
  refine ⟨h1, h2, ?_, ?_, ?_, ?_, ?_⟩
  · simp only [mirY]; omega
  · simp only [mirY]; omega
  · simp only [mirY]; omega
  · simpa [mirY] using h6
  · intro p hp
    obtain ⟨q, hq, rfl⟩ := List.mem_map.mp hp
    obtain ⟨z1, z2, z3, z4, z5⟩ := h7 q hq
    unfold okP
    simp only [mirY, mirP]
    omega
theorem mir_mir (y : Y) : mirY (mirY y) = y := by
  obtain ⟨n, l, r, ld⟩ := y
  simp only [mirY, Y.mk.injEq, List.map_map]
  refine ⟨trivial, by omega, by omega, ?_⟩
  have : (mirP n ∘ mirP n) = id := by funext p; simp only [Function.comp, mirP, id]; exact Prod.ext (by dsimp only; omega) (by dsimp only; omega)
  rw [this, List.map_id]
theorem cut_to {α : Type} (xs : List α) {k : Int} (h : 0 ≤ k ∧ k < xs.length) : cut xs none (some k) = xs.take k.toNat := by
  unfold cut cutLo cutHi
  dsimp only
  rw [if_neg (by omega), List.drop_zero, Nat.sub_zero]
  congr 1
  omega
theorem cut_from {α : Type} (xs : List α) {k : Int} (h : 0 ≤ k ∧ k < xs.length) : cut xs (some (k + 1)) none = xs.drop (k.toNat + 1) := by
  unfold cut cutLo cutHi
  dsimp only
  rw [if_neg (by omega), show min (k + 1).toNat xs.length = k.toNat + 1 by omega]
  exact List.take_of_length_le (by simp)
def woY (y : Y) (k : Int) : Y := ⟨y.n, y.l, y.r, y.ld.take k.toNat ++ y.ld.drop (k.toNat + 1)⟩
theorem okY_wo {y : Y} (h : okY y) (k : Int) : okY (woY y k) := by
  obtain ⟨h1, h2, h3, h4, h5, h6, h7⟩ := h
  refine ⟨h1, h2, h3, h4, h5, ?_, ?_⟩
  · simp only [woY, List.length_append, List.length_take, List.length_drop]; omega
  · intro p hp
    simp only [woY] at hp
    rcases List.mem_append.mp hp with h | h
    · exact h7 p (List.mem_of_mem_take h)
    · exact h7 p (List.mem_of_mem_drop h)
theorem cut_y3 (y : Y) : eSlice (eVar 0) none (some (eC (.int 3))) [some (.pure (yD y))] = .ok (.pure (.tup [.int y.n, .int y.l, .int y.r])) [some (.pure (yD y))] := rfl
theorem slice_y (y : Y) : pySlice (yD y) none (some 3) = some (.pure (.tup [.int y.n, .int y.l, .int y.r])) := rfl
theorem slice_to (y : Y) {k : Int} (h : IxOk y k) : pySlice (.tup (y.ld.map prD)) none (some k) = some (.pure (.tup ((y.ld.map prD).take k.toNat))) := by
  simp only [pySlice]
  rw [cut_to _ (by simpa [IxOk] using h)]
theorem slice_from (y : Y) {k : Int} (h : IxOk y k) : pySlice (.tup (y.ld.map prD)) (some (k + 1)) none = some (.pure (.tup ((y.ld.map prD).drop (k.toNat + 1)))) := by
  simp only [pySlice]
  rw [cut_from _ (by simpa [IxOk] using h)]
theorem add_wo (y : Y) (hy : okY y) (k : Int) : pyAdd (.tup ((y.ld.map prD).take k.toNat)) (.tup ((y.ld.map prD).drop (k.toNat + 1))) = some (.pure (.tup ((woY y k).ld.map prD))) := by
  have l3 := hy.len
  simp only [pyAdd]
  rw [if_pos (by simp only [List.length_take, List.length_drop, List.length_map]; unfold zLine; omega), ← List.map_take, ← List.map_drop, ← List.map_append]
  rfl
theorem r_check_load (E : Ec) (y : Y) (hy : okY y) (k : Int) (hk : IxOk y k) : F_check_load E [.pure (yD y), .pure (.int k)] = .ok (.pure .non) [.pure (yD y), .pure (.int k)] := by
  have e : isBtw (.int k) 0 (y.ld.length - 1) = true := by unfold IxOk at hk; simp [isBtw]; omega
  simp [F_check_load, m_check_load, sSeq, sSkip, sPut, sIf, sRet, sRaise, sDo, sUnpack, sPar, eRs, puts, sSet, mbind, mok, eVar, eC, getD, e1, e2, e2v, eItems, eTup, eLst, tB, tNot, tAnd, tOr, eAnd, eOr, eNot, eIf, getI, eChain, asD, view, slotVw, frz, fix, put, eIn, eOpt, eSlice, eM, isS, isL, eFstr, eCall, eArgs, toA, argsS, argS, argIx, giveBack, runF, startF, toArg, backF, backArg, leaveR, bindT_name, bindT_tup, setAll, iD, iRange1_eq, iRange2, eAppend, isMl, isMo, pyIsi, isTy, b2, pySub', pyIxT, pyIxL, pyLen_t, pyLen_l, pyTuple, scrAt, eScrNil, eScrLen, eScrList, eScrIx, List.mapIdx_cons, List.replicate, r_check_yard E y hy, yix3, pySub, r_is_between, e]
theorem cut_to2 {α : Type} (xs : List α) {k : Int} (h : 0 ≤ k) : cut xs none (some k) = xs.take k.toNat := by
  unfold cut cutLo cutHi
  dsimp only
  rw [if_neg (by omega), List.drop_zero, Nat.sub_zero]
  rcases Nat.le_total k.toNat xs.length with q | q
  · rw [Nat.min_eq_left q]
  · rw [Nat.min_eq_right q, List.take_of_length_le (Nat.le_refl _), List.take_of_length_le q]
theorem cut_from2 {α : Type} (xs : List α) {k : Int} (h : 0 ≤ k) : cut xs (some k) none = xs.drop k.toNat := by
  unfold cut cutLo cutHi
  dsimp only
  rw [if_neg (by omega)]
  rcases Nat.le_total k.toNat xs.length with q | q
  · rw [Nat.min_eq_left q]
    exact List.take_of_length_le (by simp)
  · rw [Nat.min_eq_right q, List.drop_eq_nil_of_le (Nat.le_refl _), List.drop_eq_nil_of_le q]
    simp
theorem neB (a b : Bool) : pyNe (.bl a) (.bl b) = some (.pure (.bl (!(a == b)))) := by simp [pyNe, D.dep, b2, D.eqv]
theorem rest_none (ly : List Int) : rest2 ly none none = ly := by
  unfold rest2
  rw [List.filter_eq_self]
  intro k _
  simp [nO]
theorem wait_row {y : Y} {s : Stt} (hs : okS y s) : lk (nx y s) ([45], [45]) = some s := by
  have := rows_mk (y := y) (s := s) (a := ⟨[45], s.l, s.a, none⟩) (b := ⟨[45], s.r, s.b, none⟩) (by simp [actL, acts, moves]) (by simp [actR, acts, moves]) hs.lr
  have e : goR s ⟨[45], s.l, s.a, none⟩ ⟨[45], s.r, s.b, none⟩ = (([45], [45]), s) := by
    simp [goR, rest_none]
  rw [e] at this
  exact (lk_some (nx_keys hs)).mpr this

/-! ### the law k02 -/
theorem r_pickT {α : Type} (E : Ec) (ns rest : List Int) (c : Int) (enc : α → D) (xs : List α) (hl : rest.length = ns.length) (hc : 0 ≤ c ∧ c < 1000000) (hx : 0 < xs.length) (hx2 : xs.length < 1000000) :
    ∃ (x : α) (rest' : List Int), x ∈ xs ∧ rest'.length = ns.length ∧ F_L_pick E [.scr ns, .mob none (.lst (.int c :: rest.map .int)), .pure (.lst (xs.map enc))] = .ok (.pure (enc x)) [.scr ns, .mob none (.lst (.int (c + 1) :: rest'.map .int)), .pure (.lst (xs.map enc))] := by
  obtain ⟨k, r, l, a, b, e⟩ := r_draw E ns rest c xs.length hl hc (by omega)
  have hk : k.toNat < xs.length := by omega
  refine ⟨xs[k.toNat], r, List.getElem_mem _, l, ?_⟩
  have ix : ixOf k xs.length = some k.toNat := ix_int ⟨a, b⟩
  have g : xs[k.toNat]? = some xs[k.toNat] := by simp [hk]
  simp [F_L_pick, m_L_pick, sSeq, sSkip, sPut, sIf, sRet, sRaise, sDo, sUnpack, sPar, eRs, puts, sSet, mbind, mok, eVar, eC, getD, e1, e2, e2v, eItems, eTup, eLst, tB, tNot, tAnd, tOr, eAnd, eOr, eNot, eIf, getI, eChain, asD, view, slotVw, frz, fix, put, eIn, eOpt, eSlice, eM, isS, isL, eFstr, eCall, eArgs, toA, argsS, argS, argIx, giveBack, runF, startF, toArg, backF, backArg, leaveR, bindT_name, bindT_tup, setAll, iD, iRange1_eq, iRange2, eAppend, isMl, isMo, pyIsi, isTy, b2, pySub', pyIxT, pyIxL, pyLen_t, pyLen_l, pyTuple, scrAt, eScrNil, eScrLen, eScrList, eScrIx, List.mapIdx_cons, List.replicate, e, ix, g]

/-! ### walks -/
def Mn (P : Nat → Prop) (n : Nat) : Prop := P n ∧ ∀ m, m < n → ¬ P m
theorem Mn.uniq {P : Nat → Prop} {m n : Nat} (h : Mn P m) (k : Mn P n) : m = n := by
  rcases Nat.lt_trichotomy m n with q | q | q
  · exact absurd h.1 (k.2 m q)
  · exact q
  · exact absurd k.1 (h.2 n q)
theorem Mn.ex {P : Nat → Prop} : ∀ {n : Nat}, P n → ∃ m, m ≤ n ∧ Mn P m := by
  intro n
  induction n using Nat.strongRecOn with
  | ind n ih =>
    intro h
    by_cases g : ∃ m, m < n ∧ P m
    · obtain ⟨m, hm, hp⟩ := g
      obtain ⟨k, hk, q⟩ := ih m hm hp
      exact ⟨k, by omega, q⟩
    · exact ⟨n, Nat.le_refl _, h, fun m hm hp => g ⟨m, hm, hp⟩⟩
section
variable {α : Type}
inductive Wk (f : α → List α) : Nat → α → α → Prop
  | zero {s : α} : Wk f 0 s s
  | step {n : Nat} {s t u : α} : t ∈ f s → Wk f n t u → Wk f (n + 1) s u
theorem Wk.snoc {f : α → List α} : ∀ {n : Nat} {s t u : α}, Wk f n s t → u ∈ f t → Wk f (n + 1) s u
  | _, _, _, _, .zero, h => .step h .zero
  | _, _, _, _, .step h w, k => .step h (w.snoc k)
theorem Wk.unsnoc {f : α → List α} : ∀ {n : Nat} {s u : α}, Wk f (n + 1) s u → ∃ t, Wk f n s t ∧ u ∈ f t
  | 0, _, _, .step h .zero => ⟨_, .zero, h⟩
  | n + 1, _, _, .step h w => by
    obtain ⟨t, w', k⟩ := w.unsnoc
    exact ⟨t, .step h w', k⟩
theorem Wk.trans {f : α → List α} : ∀ {m n : Nat} {s t u : α}, Wk f m s t → Wk f n t u → Wk f (m + n) s u
  | _, n, _, _, _, .zero, k => by rw [Nat.zero_add]; exact k
  | m + 1, n, _, _, _, .step h w, k => by rw [Nat.add_right_comm]; exact .step h (w.trans k)
theorem Wk.keep {f : α → List α} {V : α → Prop} (hc : ∀ s t, V s → t ∈ f s → V t) : ∀ {n : Nat} {s t : α}, Wk f n s t → V s → V t
  | _, _, _, .zero, h => h
  | _, _, _, .step h w, k => w.keep hc (hc _ _ k h)
/-- t can come from s -/
def Rc (f : α → List α) (s t : α) : Prop := ∃ n, Wk f n s t
end
/-! ### one level more -/
section
variable {α : Type} [DecidableEq α]
def addL (k : Nat) (acc : List (α × Nat) × List α) (t : α) : List (α × Nat) × List α := if (lk acc.1 t).isSome = true then acc else (acc.1 ++ [(t, k)], acc.2 ++ [t])
structure AddOk (k : Nat) (fo : List (α × Nat)) (ts : List α) (F : List (α × Nat)) (L : List α) : Prop where
  mem : ∀ t, t ∈ L ↔ t ∈ ts ∧ lk fo t = none
  old : ∀ t d, lk fo t = some d → lk F t = some d
  new : ∀ t, lk fo t = none → lk F t = if t ∈ ts then some k else none
  keys : F.map (·.1) = fo.map (·.1) ++ L
  nd : L.Nodup
theorem addOk_nil (k : Nat) (fo : List (α × Nat)) : AddOk k fo [] fo [] := ⟨by simp, fun _ _ h => h, fun t h => by simpa using h, by simp, by simp⟩
theorem lk_app (l : List (α × Nat)) (t x : α) (k : Nat) (h : lk l t = none) : lk (l ++ [(t, k)]) x = if t = x then some k else lk l x := by rw [← pu_new h, lk_pu]
theorem addOk_step {k : Nat} {fo : List (α × Nat)} {ts : List α} {F : List (α × Nat)} {L : List α} (h : AddOk k fo ts F L) (t : α) : AddOk k fo (ts ++ [t]) (addL k (F, L) t).1 (addL k (F, L) t).2 := by
  unfold addL
  cases hf : lk F t with
  | some d =>
    simp only [Option.isSome_some, if_true]
    have ht : lk fo t = none → t ∈ ts := fun hn => by
      have := h.new t hn
      rw [hf] at this
      split at this
      · assumption
      · cases this
    refine ⟨fun x => ?_, h.old, fun x hx => ?_, h.keys, h.nd⟩
    · rw [h.mem x, List.mem_append, List.mem_singleton]
      constructor
      · exact fun z => ⟨.inl z.1, z.2⟩
      · rintro ⟨z | rfl, hn⟩
        · exact ⟨z, hn⟩
        · exact ⟨ht hn, hn⟩
    · rw [h.new x hx]
      by_cases e : x = t
      · subst e; simp [ht hx]
      · simp [e]
  | none =>
    have hfo : lk fo t = none := by
      cases hq : lk fo t with
      | none => rfl
      | some d => have := h.old t d hq; rw [hf] at this; cases this
    have hts : t ∉ ts := fun hm => by
      have := h.new t hfo
      rw [hf, if_pos hm] at this
      cases this
    simp only [Option.isSome_none, Bool.false_eq_true, if_false]
    refine ⟨fun x => ?_, fun x d hx => ?_, fun x hx => ?_, ?_, ?_⟩
    · rw [List.mem_append, List.mem_singleton, h.mem x, List.mem_append, List.mem_singleton]
      constructor
      · rintro (z | rfl)
        · exact ⟨.inl z.1, z.2⟩
        · exact ⟨.inr rfl, hfo⟩
      · rintro ⟨z | z, hn⟩
        · exact .inl ⟨z, hn⟩
        · exact .inr z
    · rw [lk_app F t x k hf, if_neg (fun e => by rw [e, hx] at hfo; cases hfo)]
      exact h.old x d hx
    · rw [lk_app F t x k hf]
      by_cases e : t = x
      · subst e; simp
      · rw [if_neg e, h.new x hx]
        simp [Ne.symm e]
    · simp [h.keys]
    · rw [List.nodup_append]
      refine ⟨h.nd, by simp, fun x hx z hz => ?_⟩
      rw [List.mem_singleton.mp hz]
      rintro rfl
      exact hts ((h.mem x).mp hx).1
theorem addOk_fold (k : Nat) (fo : List (α × Nat)) (ts : List α) : AddOk k fo ts (ts.foldl (addL k) (fo, [])).1 (ts.foldl (addL k) (fo, [])).2 := by
  suffices h : ∀ (ts pre : List α) (a : List (α × Nat) × List α), AddOk k fo pre a.1 a.2 → AddOk k fo (pre ++ ts) (ts.foldl (addL k) a).1 (ts.foldl (addL k) a).2 by
    simpa using h ts [] (fo, []) (addOk_nil k fo)
  intro ts
  induction ts with
  | nil => intro pre a h; simpa using h
  | cons t ts ih =>
    intro pre a h
    have := ih (pre ++ [t]) (addL k a t) (addOk_step h t)
    simpa using this
/-! what the levels tell -/
structure LevOk (Ds : Nat → α → Prop) (k : Nat) (fo : List (α × Nat)) (lv : List α) : Prop where
  val : ∀ t d, lk fo t = some d ↔ d ≤ k ∧ Mn (fun n => Ds n t) d
  mem : ∀ t, t ∈ lv ↔ Mn (fun n => Ds n t) k
  nd : (fo.map (·.1)).Nodup
theorem levOk_step {Ds : Nat → α → Prop} {f : α → List α} (hD : ∀ n t, Ds (n + 1) t ↔ ∃ u, Ds n u ∧ t ∈ f u) {k : Nat} {fo F : List (α × Nat)} {lv L : List α} (h : LevOk Ds k fo lv) (a : AddOk (k + 1) fo (lv.flatMap f) F L) : LevOk Ds (k + 1) F L := by
  have hn : ∀ t, lk fo t = none ↔ ∀ m, m ≤ k → ¬ Ds m t := fun t => by
    constructor
    · intro e m hm hp
      obtain ⟨j, hj, q⟩ := Mn.ex (P := fun n => Ds n t) hp
      have := (h.val t j).mpr ⟨by omega, q⟩
      rw [e] at this; cases this
    · intro e
      cases q : lk fo t with
      | none => rfl
      | some d =>
        obtain ⟨h1, h2⟩ := (h.val t d).mp q
        exact absurd h2.1 (e d h1)
  have hm : ∀ t, t ∈ L ↔ Mn (fun n => Ds n t) (k + 1) := fun t => by
    rw [a.mem t, hn t, List.mem_flatMap]
    constructor
    · rintro ⟨⟨u, hu, ht⟩, e⟩
      exact ⟨(hD k t).mpr ⟨u, ((h.mem u).mp hu).1, ht⟩, fun m hm => e m (by omega)⟩
    · rintro ⟨h1, h2⟩
      obtain ⟨u, hu, ht⟩ := (hD k t).mp h1
      refine ⟨⟨u, (h.mem u).mpr ⟨hu, fun m hm hp => h2 (m + 1) (by omega) ((hD m t).mpr ⟨u, hp, ht⟩)⟩, ht⟩, fun m hm => h2 m (by omega)⟩
  refine ⟨fun t d => ?_, hm, ?_⟩
  · cases q : lk fo t with
    | some e =>
      rw [a.old t e q]
      obtain ⟨h1, h2⟩ := (h.val t e).mp q
      constructor
      · intro z; cases z; exact ⟨by omega, h2⟩
      · rintro ⟨_, z⟩; rw [h2.uniq z]
    | none =>
      rw [a.new t q]
      have hq := (hn t).mp q
      constructor
      · intro z
        split at z
        · rename_i ht
          cases z
          exact ⟨Nat.le_refl _, (hm t).mp ((a.mem t).mpr ⟨ht, q⟩)⟩
        · cases z
      · rintro ⟨h1, h2⟩
        have : d = k + 1 := by
          rcases Nat.lt_or_ge k d with z | z
          · omega
          · exact absurd h2.1 (hq d z)
        subst this
        rw [if_pos ((a.mem t).mp ((hm t).mpr h2)).1]
  · rw [a.keys, List.nodup_append]
    refine ⟨h.nd, a.nd, fun x hx z hz e => ?_⟩
    subst e
    exact lk_none.mp ((a.mem x).mp hz).2 hx
theorem levOk_end {Ds : Nat → α → Prop} {f : α → List α} (hD : ∀ n t, Ds (n + 1) t ↔ ∃ u, Ds n u ∧ t ∈ f u) {k : Nat} {fo : List (α × Nat)} (h : LevOk Ds k fo []) : ∀ t d, lk fo t = some d ↔ Mn (fun n => Ds n t) d := by
  have up : ∀ j t, ¬ Mn (fun n => Ds n t) (k + j) := by
    intro j
    induction j with
    | zero => intro t z; exact nomatch (h.mem t).mpr z
    | succ j ih =>
      intro t z
      obtain ⟨u, hu, ht⟩ := (hD (k + j) t).mp z.1
      exact ih u ⟨hu, fun m hm hp => z.2 (m + 1) (by omega) ((hD m t).mpr ⟨u, hp, ht⟩)⟩
  intro t d
  rw [h.val t d]
  constructor
  · exact fun z => z.2
  · intro z
    refine ⟨?_, z⟩
    rcases Nat.lt_or_ge k d with q | q
    · have := up (d - k) t
      rw [show k + (d - k) = d by omega] at this
      exact absurd z this
    · exact q
end

/-! ### all states -/
def lys : List (List Int) := [[], [0], [1], [2], [0, 1], [0, 2], [1, 2], [0, 1, 2]]
def oss : List (Option Int) := [none, some 0, some 1, some 2]
def lrs : List Int := [0, 1, 2, 3, 4, 5]
def allS : List Stt := lrs.flatMap fun l => lrs.flatMap fun r => oss.flatMap fun a => oss.flatMap fun b => lys.map fun ly => ⟨l, r, a, b, ly⟩
theorem allS_len : allS.length = 4608 := by decide +kernel
theorem lys_mem : ∀ ly : List Int, ly.Pairwise (· < ·) → (∀ k ∈ ly, 0 ≤ k ∧ k < 3) → ly ∈ lys
  | [], _, _ => by simp [lys]
  | [a], _, h => by
    have := h a (by simp)
    have : a = 0 ∨ a = 1 ∨ a = 2 := by omega
    rcases this with rfl | rfl | rfl <;> simp [lys]
  | [a, b], s, h => by
    have h1 := h a (by simp)
    have h2 := h b (by simp)
    have : a < b := by simpa using s
    have : (a = 0 ∧ b = 1) ∨ (a = 0 ∧ b = 2) ∨ (a = 1 ∧ b = 2) := by omega
    rcases this with ⟨rfl, rfl⟩ | ⟨rfl, rfl⟩ | ⟨rfl, rfl⟩ <;> simp [lys]
  | a :: b :: c :: r, s, h => by
    have h1 := h a (by simp)
    have h2 := h b (by simp)
    have h3 := h c (by simp)
    simp only [List.pairwise_cons] at s
    have s1 := s.1 b (by simp)
    have s2 := s.2.1 c (by simp)
    have : a = 0 ∧ b = 1 ∧ c = 2 := by omega
    obtain ⟨rfl, rfl, rfl⟩ := this
    cases r with
    | nil => simp [lys]
    | cons d r =>
      have h4 := h d (by simp)
      have s3 := s.2.2.1 d (by simp)
      omega
theorem allS_mem {y : Y} (hy : okY y) {s : Stt} (hs : okS y s) : s ∈ allS := by
  obtain ⟨l, r, a, b, ly⟩ := s
  obtain ⟨l0, lr, rn, ix, nd, so⟩ := hs
  have n6 := hy.n6
  have l3 := hy.len
  simp only at l0 lr rn ix nd so
  have m6 : ∀ x : Int, 0 ≤ x → x < 6 → x ∈ lrs := fun x h1 h2 => by
    have : x = 0 ∨ x = 1 ∨ x = 2 ∨ x = 3 ∨ x = 4 ∨ x = 5 := by omega
    rcases this with rfl | rfl | rfl | rfl | rfl | rfl <;> simp [lrs]
  have mo : ∀ o : Option Int, (∀ k, o = some k → IxOk y k) → o ∈ oss := fun o h => by
    cases o with
    | none => simp [oss]
    | some k =>
      have := h k rfl
      unfold IxOk at this
      have : k = 0 ∨ k = 1 ∨ k = 2 := by omega
      rcases this with rfl | rfl | rfl <;> simp [oss]
  have ml : ly ∈ lys := lys_mem ly so fun k hk => by
    have := ix k (List.mem_append.mpr (.inr hk))
    unfold IxOk at this
    omega
  unfold allS
  refine List.mem_flatMap.mpr ⟨l, m6 l l0 (by omega), List.mem_flatMap.mpr ⟨r, m6 r (by omega) (by omega), List.mem_flatMap.mpr ⟨a, mo a fun k hk => ix k (by simp [carr, hk]), List.mem_flatMap.mpr ⟨b, mo b fun k hk => ix k (by simp [carr, hk]), List.mem_map.mpr ⟨ly, ml, rfl⟩⟩⟩⟩⟩
theorem few {y : Y} (hy : okY y) {l : List Stt} (hn : l.Nodup) (h : ∀ s ∈ l, okS y s) : l.length ≤ 4608 := by
  rw [← allS_len]
  exact hn.length_le_of_subset fun s hs => allS_mem hy (h s hs)
def valS (s : Stt) : Bool := decide (s.l < s.r) && decide ((carr s.a s.b ++ s.ly).Nodup)
def allV : List Stt := allS.filter valS
theorem allV_len : allV.length = 660 := by decide +kernel
theorem fewV {y : Y} (hy : okY y) {l : List Stt} (hn : l.Nodup) (h : ∀ s ∈ l, okS y s) : l.length ≤ 660 := by
  rw [← allV_len]
  refine hn.length_le_of_subset fun s hs => List.mem_filter.mpr ⟨allS_mem hy (h s hs), ?_⟩
  have := h s hs
  simp only [valS, Bool.and_eq_true, decide_eq_true_eq]
  exact ⟨this.lr, this.nd⟩
/-! ### the next states -/
def sc (y : Y) (s : Stt) : List Stt := (nx y s).map (·.2)
theorem sc_ok {y : Y} {s t : Stt} (hs : okS y s) (h : t ∈ sc y s) : okS y t := by
  obtain ⟨r, hr, rfl⟩ := List.mem_map.mp h
  exact nx_ok hs hr
theorem wk_ok {y : Y} {n : Nat} {s t : Stt} (h : Wk (sc y) n s t) (hs : okS y s) : okS y t := h.keep (V := okS y) (fun _ _ a b => sc_ok a b) hs
theorem wkS (y : Y) (s : Stt) (n : Nat) (t : Stt) : Wk (sc y) (n + 1) s t ↔ ∃ u, Wk (sc y) n s u ∧ t ∈ sc y u := ⟨fun h => h.unsnoc, fun ⟨_, h, k⟩ => h.snoc k⟩
def isDone (s : Stt) : Bool := s.a.isNone && (s.b.isNone && s.ly.isEmpty)
/-- a done state can come with n steps -/
def Dn (y : Y) (n : Nat) (s : Stt) : Prop := ∃ t, Wk (sc y) n s t ∧ isDone t = true
def natD (n : Nat) : D := .int n
section
variable {α : Type} [DecidableEq α]
theorem addL_old {k d : Nat} {a : List (α × Nat) × List α} {x t : α} (h : lk a.1 t = some d) : lk (addL k a x).1 t = some d := by
  unfold addL
  split
  · exact h
  · rename_i hn
    have hx : lk a.1 x = none := by simpa using hn
    show lk (a.1 ++ [(x, k)]) t = _
    rw [lk_app _ _ _ _ hx, if_neg (fun e => by rw [e, h] at hx; cases hx)]
    exact h
theorem addF_old {k d : Nat} {t : α} : ∀ (ts : List α) {a : List (α × Nat) × List α}, lk a.1 t = some d → lk (ts.foldl (addL k) a).1 t = some d
  | [], _, h => h
  | _ :: ts, _, h => addF_old ts (addL_old h)
theorem addL_len (k : Nat) (a : List (α × Nat) × List α) (x : α) : (addL k a x).1.length ≤ a.1.length + 1 ∧ (addL k a x).2.length ≤ a.2.length + 1 := by
  unfold addL
  split <;> simp
theorem addF_len (k : Nat) : ∀ (ts : List α) (a : List (α × Nat) × List α), (ts.foldl (addL k) a).1.length ≤ a.1.length + ts.length ∧ (ts.foldl (addL k) a).2.length ≤ a.2.length + ts.length
  | [], a => by simp
  | t :: ts, a => by
    have h1 := addL_len k a t
    have h2 := addF_len k ts (addL k a t)
    simp only [List.foldl_cons, List.length_cons]
    omega
end

/-! ### _law_levels -/
theorem nat_add1 (k : Nat) : pyAdd (natD k) (.int 1) = some (.pure (natD (k + 1))) := rfl
theorem lk_one {s t : Stt} {d : Nat} : lk [(s, 0)] t = some d ↔ s = t ∧ d = 0 := by
  unfold lk
  by_cases h : s = t
  · simp [h, eq_comm]
  · simp [h, lk]
theorem mem_lk {α β : Type} [DecidableEq α] {l : List (α × β)} {t : α} (h : t ∈ l.map (·.1)) : ∃ d, lk l t = some d := by
  cases q : lk l t with
  | some d => exact ⟨d, rfl⟩
  | none => exact absurd h (lk_none.mp q)
theorem lk_mem {α β : Type} [DecidableEq α] {l : List (α × β)} {t : α} {d : β} (h : lk l t = some d) : t ∈ l.map (·.1) := by
  apply Classical.byContradiction
  intro z
  rw [lk_none.mpr z] at h
  cases h
/-! ### the fewest steps, by the law -/
theorem empty_ints (l : List Int) : pyEq (.tup (l.map .int)) (.tup []) = some (.pure (.bl l.isEmpty)) := by
  cases l <;> simp [pyEq, D.dep, D.deps, b2, D.eqv, D.eqvs]
def doneP : D := .tup [.non, .non, .tup []]
theorem cut_st (s : Stt) : pySlice (stD s) (some 2) none = some (.pure (.tup [oD s.a, oD s.b, .tup (s.ly.map .int)])) := rfl
theorem r_is_finished (E : Ec) (s : Stt) : F_is_finished E [.pure (stD s)] = .ok (.pure (.bl (isDone s))) [.pure (stD s)] := by
  have e : pyEq (.tup [oD s.a, oD s.b, .tup (s.ly.map .int)]) (.tup [.non, .non, .tup []]) = some (.pure (.bl (isDone s))) := by
    unfold pyEq b2 isDone
    rw [if_pos (Or.inl (by simp [D.dep, D.deps]))]
    cases s.a <;> cases s.b <;> cases s.ly <;> simp [oD, D.eqv, D.eqvs]
  simp [F_is_finished, m_is_finished, sSeq, sSkip, sPut, sIf, sRet, sRaise, sDo, sUnpack, sPar, eRs, puts, sSet, mbind, mok, eVar, eC, getD, e1, e2, e2v, eItems, eTup, eLst, tB, tNot, tAnd, tOr, eAnd, eOr, eNot, eIf, getI, eChain, asD, view, slotVw, frz, fix, put, eIn, eOpt, eSlice, eM, isS, isL, eFstr, eCall, eArgs, toA, argsS, argS, argIx, giveBack, runF, startF, toArg, backF, backArg, leaveR, bindT_name, bindT_tup, setAll, iD, iRange1_eq, iRange2, eAppend, isMl, isMo, pyIsi, isTy, b2, pySub', pyIxT, pyIxL, pyLen_t, pyLen_l, pyTuple, scrAt, eScrNil, eScrLen, eScrList, eScrIx, List.mapIdx_cons, List.replicate, ↓cut_st, e]

open Classical in
noncomputable def dist (y : Y) (s : Stt) : Option Nat := if h : ∃ n, Mn (fun n => Dn y n s) n then some (Classical.choose h) else none
theorem dist_iff {y : Y} {s : Stt} {d : Nat} : dist y s = some d ↔ Mn (fun n => Dn y n s) d := by
  unfold dist
  by_cases h : ∃ n, Mn (fun n => Dn y n s) n
  · rw [dif_pos h]
    have hc := Classical.choose_spec h
    constructor
    · intro e; cases e; exact hc
    · intro e; rw [hc.uniq e]
  · rw [dif_neg h]
    exact ⟨fun e => (nomatch e), fun e => absurd ⟨d, e⟩ h⟩
theorem dist_none {y : Y} {s : Stt} : dist y s = none ↔ ∀ n, ¬ Dn y n s := by
  constructor
  · intro e n hn
    obtain ⟨m, _, q⟩ := Mn.ex (P := fun n => Dn y n s) hn
    rw [dist_iff.mpr q] at e
    cases e
  · intro h
    cases q : dist y s with
    | none => rfl
    | some d => exact absurd (dist_iff.mp q).1 (h d)
def oN : Option Nat → D
  | none => .non
  | some n => natD n
theorem intsN : ∀ l : List Nat, intsD (l.map natD) = some (l.map fun (n : Nat) => (n : Int))
  | [] => rfl
  | x :: l => by
    show (intsD (l.map natD)).map _ = _
    rw [intsN l]
    rfl
theorem minN (l : List Nat) (h : l ≠ []) : ∃ m ∈ l, (∀ n ∈ l, m ≤ n) ∧ pyMinL (.lst (l.map natD)) = some (.pure (natD m)) := by
  cases l with
  | nil => exact absurd rfl h
  | cons x r =>
    have h1 := foldl_min_mem (r.map fun (n : Nat) => (n : Int)) x
    have h2 := foldl_min_le (r.map fun (n : Nat) => (n : Int)) x
    rw [← List.map_cons (f := fun (n : Nat) => (n : Int))] at h1
    obtain ⟨m, hm, e⟩ := List.mem_map.mp h1
    refine ⟨m, hm, fun n hn => ?_, ?_⟩
    · rcases List.mem_cons.mp hn with rfl | hn
      · have := h2.1; omega
      · have := h2.2 n (List.mem_map.mpr ⟨n, hn, rfl⟩); omega
    · have e' : minI ((x :: r).map fun (n : Nat) => (n : Int)) = some (m : Int) := by
        rw [e]; rfl
      simp only [pyMinL, intsN, e']
      rfl
theorem lev_min {y : Y} {s : Stt} {fo : List (Stt × Nat)} (sp : ∀ t d, lk fo t = some d ↔ Mn (fun n => Wk (sc y) n s t) d) (nd : (fo.map (·.1)).Nodup) :
    ((fo.filter fun p => isDone p.1).map (·.2) = [] → dist y s = none) ∧ ((fo.filter fun p => isDone p.1).map (·.2) ≠ [] → ∃ m, pyMinL (.lst (((fo.filter fun p => isDone p.1).map (·.2)).map natD)) = some (.pure (natD m)) ∧ dist y s = some m) := by
  generalize hL : (fo.filter fun p => isDone p.1).map (·.2) = L
  have hmem : ∀ d, d ∈ L ↔ ∃ t, isDone t = true ∧ Mn (fun n => Wk (sc y) n s t) d := fun d => by
    rw [← hL]
    constructor
    · intro h
      obtain ⟨p, hp, rfl⟩ := List.mem_map.mp h
      obtain ⟨h1, h2⟩ := List.mem_filter.mp hp
      exact ⟨p.1, h2, (sp _ _).mp ((lk_some nd).mpr h1)⟩
    · rintro ⟨t, h1, h2⟩
      exact List.mem_map.mpr ⟨(t, d), List.mem_filter.mpr ⟨(lk_some nd).mp ((sp _ _).mpr h2), h1⟩, rfl⟩
  refine ⟨fun hE => dist_none.mpr fun n ⟨t, h1, h2⟩ => ?_, fun hE => ?_⟩
  · obtain ⟨m, _, q⟩ := Mn.ex (P := fun n => Wk (sc y) n s t) h1
    have := (hmem m).mpr ⟨t, h2, q⟩
    rw [hE] at this
    cases this
  · obtain ⟨m, hm, hle, em⟩ := minN L hE
    refine ⟨m, em, dist_iff.mpr ?_⟩
    obtain ⟨t, h1, h2⟩ := (hmem m).mp hm
    refine ⟨⟨t, h2.1, h1⟩, fun n hn ⟨u, w, hu⟩ => ?_⟩
    obtain ⟨k, hk, q⟩ := Mn.ex (P := fun n => Wk (sc y) n s u) w
    have := hle k ((hmem k).mpr ⟨u, hu, q⟩)
    omega
/-! ### distances: what can come, and from where -/
def lsD (l : List Stt) : D := .lst (l.map stD)
def unD (_ : Unit) : D := .bl true
abbrev Bf := List (Stt × List Stt)
abbrev Mt := List (Stt × Unit)
def bfL (bf : Bf) (t : Stt) : List Stt := (lk bf t).getD []
def visit (h : Stt) (a : Bf × Mt × List Stt) (t : Stt) : Bf × Mt × List Stt := (pu a.1 t (bfL a.1 t ++ [h]), if (lk a.2.1 t).isSome = true then a.2 else (a.2.1 ++ [(t, ())], a.2.2 ++ [t]))
def keysM (m : Mt) : List Stt := m.map (·.1)
theorem bfL_pu (bf : Bf) (t x : Stt) (l : List Stt) : bfL (pu bf t l) x = if t = x then l else bfL bf x := by
  unfold bfL
  rw [lk_pu]
  split <;> rfl
structure VisOk (h : Stt) (bf : Bf) (mt : Mt) (wa ts : List Stt) (a : Bf × Mt × List Stt) : Prop where
  bm : ∀ t u, u ∈ bfL a.1 t ↔ u ∈ bfL bf t ∨ (u = h ∧ t ∈ ts)
  bl : ∀ t, (bfL a.1 t).length ≤ (bfL bf t).length + ts.length
  bk : ∀ t, t ∈ a.1.map (·.1) ↔ t ∈ bf.map (·.1) ∨ t ∈ ts
  bn : (a.1.map (·.1)).Nodup
  ne : ∃ new : List Stt, keysM a.2.1 = keysM mt ++ new ∧ a.2.2 = wa ++ new ∧ new.Nodup ∧ ∀ t, t ∈ new ↔ t ∈ ts ∧ t ∉ keysM mt
theorem visOk_step {h : Stt} {bf : Bf} {mt : Mt} {wa ts : List Stt} {a : Bf × Mt × List Stt} (o : VisOk h bf mt wa ts a) (t : Stt) : VisOk h bf mt wa (ts ++ [t]) (visit h a t) := by
  obtain ⟨new, n1, n2, n3, n4⟩ := o.ne
  refine ⟨fun x u => ?_, fun x => ?_, fun x => ?_, pu_nodup _ _ o.bn, ?_⟩
  · show u ∈ bfL (pu a.1 t _) x ↔ _
    rw [bfL_pu, List.mem_append, List.mem_singleton]
    by_cases e : t = x
    · subst e
      rw [if_pos rfl, List.mem_append, List.mem_singleton, o.bm t u]
      constructor
      · rintro ((h | ⟨h, k⟩) | h)
        · exact .inl h
        · exact .inr ⟨h, .inl k⟩
        · exact .inr ⟨h, .inr rfl⟩
      · rintro (h | ⟨h, k⟩)
        · exact .inl (.inl h)
        · exact .inr h
    · rw [if_neg e, o.bm x u]
      simp [Ne.symm e]
  · show (bfL (pu a.1 t _) x).length ≤ _
    have := o.bl x
    rw [bfL_pu]
    split
    · rename_i e
      subst e
      simp only [List.length_append, List.length_singleton]
      omega
    · simp only [List.length_append, List.length_singleton]
      omega
  · show x ∈ (pu a.1 t _).map (·.1) ↔ _
    rw [pu_keys, List.mem_append, List.mem_singleton]
    split
    · rename_i ht
      rw [o.bk x]
      constructor
      · rintro (h | h)
        · exact .inl h
        · exact .inr (.inl h)
      · rintro (h | h | h)
        · exact .inl h
        · exact .inr h
        · rw [h]; exact (o.bk t).mp ht
    · rw [List.mem_append, List.mem_singleton, o.bk x]
      constructor
      · rintro ((h | h) | h)
        · exact .inl h
        · exact .inr (.inl h)
        · exact .inr (.inr h)
      · rintro (h | h | h)
        · exact .inl (.inl h)
        · exact .inl (.inr h)
        · exact .inr h
  · show ∃ new, keysM (visit h a t).2.1 = _ ∧ _
    unfold visit
    cases hq : lk a.2.1 t with
    | some q =>
      simp only [Option.isSome_some, if_true]
      refine ⟨new, n1, n2, n3, fun x => ?_⟩
      rw [n4 x, List.mem_append, List.mem_singleton]
      constructor
      · rintro ⟨h, k⟩; exact ⟨.inl h, k⟩
      · rintro ⟨h | rfl, k⟩
        · exact ⟨h, k⟩
        · have hm : x ∈ keysM a.2.1 := lk_mem hq
          rw [n1, List.mem_append] at hm
          exact ⟨((n4 x).mp (hm.resolve_left k)).1, k⟩
    | none =>
      have hm : t ∉ keysM a.2.1 := lk_none.mp hq
      rw [n1, List.mem_append, not_or] at hm
      simp only [Option.isSome_none, Bool.false_eq_true, if_false]
      refine ⟨new ++ [t], by simp [keysM] at n1 ⊢; rw [n1]; simp, by rw [n2]; simp, ?_, fun x => ?_⟩
      · rw [List.nodup_append]
        exact ⟨n3, by simp, fun x hx z hz e => hm.2 (by rw [List.mem_singleton.mp hz] at e; exact e ▸ hx)⟩
      · rw [List.mem_append, List.mem_singleton, n4 x, List.mem_append, List.mem_singleton]
        constructor
        · rintro (⟨h, k⟩ | rfl)
          · exact ⟨.inl h, k⟩
          · exact ⟨.inr rfl, hm.1⟩
        · rintro ⟨h | h, k⟩
          · exact .inl ⟨h, k⟩
          · exact .inr h
theorem visOk_fold (h : Stt) (bf : Bf) (mt : Mt) (wa ts : List Stt) (bn : (bf.map (·.1)).Nodup) : VisOk h bf mt wa ts (ts.foldl (visit h) (bf, mt, wa)) := by
  suffices g : ∀ (ts pre : List Stt) (a : Bf × Mt × List Stt), VisOk h bf mt wa pre a → VisOk h bf mt wa (pre ++ ts) (ts.foldl (visit h) a) by
    have := g ts [] (bf, mt, wa) ⟨fun t u => by simp, fun t => by simp, fun t => by simp, bn, [], by simp, by simp, by simp, by simp⟩
    simpa using this
  intro ts
  induction ts with
  | nil => intro pre a h; simpa using h
  | cons t ts ih =>
    intro pre a h
    have := ih (pre ++ [t]) _ (visOk_step h t)
    simpa using this
structure VsInv (y : Y) (s : Stt) (bf : Bf) (mt : Mt) (wa : List Stt) : Prop where
  mn : (keysM mt).Nodup
  wn : wa.Nodup
  wm : ∀ t ∈ wa, t ∈ keysM mt
  rc : ∀ t ∈ keysM mt, Rc (sc y) s t
  s0 : s ∈ keysM mt
  out : ∀ u ∈ keysM mt, u ∉ wa → ∀ t ∈ sc y u, t ∈ keysM mt ∧ u ∈ bfL bf t
  bk : ∀ t u, u ∈ bfL bf t → u ∈ keysM mt ∧ u ∉ wa ∧ t ∈ sc y u
  bl : ∀ t, (bfL bf t).length ≤ 36 * (mt.length - wa.length)
  bn : (bf.map (·.1)).Nodup
  bc : ∀ t ∈ bf.map (·.1), Rc (sc y) s t
theorem Rc.step {α : Type} {f : α → List α} {s t u : α} (h : Rc f s t) (k : u ∈ f t) : Rc f s u := let ⟨n, w⟩ := h; ⟨n + 1, w.snoc k⟩
theorem vs_step {y : Y} (hy : okY y) {s : Stt} (hs : okS y s) {bf : Bf} {mt : Mt} {w0 : List Stt} {h : Stt} (v : VsInv y s bf mt (w0 ++ [h])) :
    VsInv y s ((sc y h).foldl (visit h) (bf, mt, w0)).1 ((sc y h).foldl (visit h) (bf, mt, w0)).2.1 ((sc y h).foldl (visit h) (bf, mt, w0)).2.2 ∧
    ((sc y h).foldl (visit h) (bf, mt, w0)).2.1.length + w0.length = mt.length + ((sc y h).foldl (visit h) (bf, mt, w0)).2.2.length ∧ w0.length ≤ ((sc y h).foldl (visit h) (bf, mt, w0)).2.2.length := by
  have o := visOk_fold h bf mt w0 (sc y h) v.bn
  generalize (sc y h).foldl (visit h) (bf, mt, w0) = a at o
  obtain ⟨new, n1, n2, n3, n4⟩ := o.ne
  have hm : h ∈ keysM mt := v.wm h (by simp)
  have hr := v.rc h hm
  have hok : okS y h := let ⟨n, w⟩ := hr; wk_ok w hs
  have wn := v.wn
  rw [List.nodup_append] at wn
  have hw0 : h ∉ w0 := fun z => wn.2.2 h z h (by simp) rfl
  have lm : a.2.1.length = mt.length + new.length := by have := congrArg List.length n1; simpa [keysM] using this
  have lw : a.2.2.length = w0.length + new.length := by rw [n2]; simp
  have hl : (sc y h).length ≤ 36 := by have := nx_len hy hok; simpa [sc] using this
  have wl : w0.length + 1 ≤ mt.length := by
    have := v.wn.length_le_of_subset (fun t ht => v.wm t ht)
    simpa [keysM] using this
  refine ⟨⟨?_, ?_, ?_, ?_, ?_, ?_, ?_, ?_, o.bn, ?_⟩, by omega, by omega⟩
  · rw [n1, List.nodup_append]
    exact ⟨v.mn, n3, fun x hx z hz e => ((n4 z).mp hz).2 (e ▸ hx)⟩
  · rw [n2, List.nodup_append]
    exact ⟨wn.1, n3, fun x hx z hz e => ((n4 z).mp hz).2 (e ▸ v.wm x (by simp [hx]))⟩
  · intro t ht
    rw [n2, List.mem_append] at ht
    rw [n1, List.mem_append]
    exact ht.imp (fun z => v.wm t (by simp [z])) id
  · intro t ht
    rw [n1, List.mem_append] at ht
    rcases ht with ht | ht
    · exact v.rc t ht
    · exact hr.step ((n4 t).mp ht).1
  · rw [n1, List.mem_append]; exact .inl v.s0
  · intro u hu hnu t ht
    rw [n2, List.mem_append, not_or] at hnu
    rw [n1, List.mem_append] at hu ⊢
    have hu := hu.resolve_right hnu.2
    by_cases e : u = h
    · subst e
      refine ⟨?_, (o.bm t u).mpr (.inr ⟨rfl, ht⟩)⟩
      by_cases q : t ∈ keysM mt
      · exact .inl q
      · exact .inr ((n4 t).mpr ⟨ht, q⟩)
    · obtain ⟨k1, k2⟩ := v.out u hu (by simp [hnu.1, e]) t ht
      exact ⟨.inl k1, (o.bm t u).mpr (.inl k2)⟩
  · intro t u hu
    rw [n1, n2, List.mem_append, List.mem_append, not_or]
    rcases (o.bm t u).mp hu with hu | ⟨rfl, ht⟩
    · obtain ⟨k1, k2, k3⟩ := v.bk t u hu
      rw [List.mem_append, not_or] at k2
      exact ⟨.inl k1, ⟨k2.1, fun z => ((n4 u).mp z).2 k1⟩, k3⟩
    · exact ⟨.inl hm, ⟨hw0, fun z => ((n4 u).mp z).2 hm⟩, ht⟩
  · intro t
    have b1 := o.bl t
    have b2 := v.bl t
    simp only [List.length_append, List.length_singleton] at b2
    omega
  · intro t ht
    rcases (o.bk t).mp ht with h | h
    · exact v.bc t h
    · exact hr.step h
theorem vs_end {y : Y} {s : Stt} {bf : Bf} {mt : Mt} (v : VsInv y s bf mt []) : (∀ t, t ∈ keysM mt ↔ Rc (sc y) s t) ∧ ∀ t u, u ∈ bfL bf t ↔ Rc (sc y) s u ∧ t ∈ sc y u := by
  have h1 : ∀ t, t ∈ keysM mt ↔ Rc (sc y) s t := fun t => by
    refine ⟨v.rc t, fun ⟨n, w⟩ => ?_⟩
    exact w.keep (V := fun t => t ∈ keysM mt) (fun a b ha hb => (v.out a ha (by simp) b hb).1) v.s0
  refine ⟨h1, fun t u => ⟨fun h => ?_, fun ⟨h, k⟩ => (v.out u ((h1 u).mpr h) (by simp) t k).2⟩⟩
  obtain ⟨k1, _, k3⟩ := v.bk t u h
  exact ⟨v.rc u k1, k3⟩

theorem getD_ls (bf : Bf) (t : Stt) : ((lk bf t).map lsD).getD (.lst []) = lsD (bfL bf t) := by
  unfold bfL
  cases lk bf t <;> rfl
theorem add_ls (l : List Stt) (h : Stt) (hz : l.length < 16000000) : pyAdd (lsD l) (.lst [stD h]) = some (.own (.lst (l.map stD ++ [stD h]))) := by
  show (if _ then _ else _) = _
  rw [if_pos (by simp [zLine]; omega)]
theorem dPut_ls (bf : Bf) (t h : Stt) (l : List Stt) : dPut (dE stD lsD bf) (stD t) (.lst (l.map stD ++ [stD h])) = dE stD lsD (pu bf t (l ++ [h])) := by
  rw [← dPut_E encS' lsD t (l ++ [h]) bf]
  simp [lsD]
theorem dPut_un (mt : Mt) (t : Stt) : dPut (dE stD unD mt) (stD t) (.bl true) = dE stD unD (pu mt t ()) := dPut_E encS' unD t () mt
theorem dis_in (E : Ec) (y : Y) (s : Stt) (bf : Bf) (mt : Mt) (wa : List Stt) (h t : Stt) (fo : List (Stt × Nat)) (q7 q9 q10 q11 q12 : Option S) (hb : bf.length < 1000000) (hm : mt.length < 1000000) (hw : wa.length < 1000000) (hl : (bfL bf t).length < 10000000) :
    b0_distances E [some (.pure (yD y)), some (.pure (stD s)), some (.mob none (.dct (dE stD lsD bf))), some (.mob none (.lst (wa.map stD))), some (.mob none (.dct (dE stD natD fo))), some (.mob none (.dct (dE stD unD mt))), some (.pure (stD (h))), q7, some (.pure (stD (t))), q9, q10, q11, q12] = .ok .next [some (.pure (yD y)), some (.pure (stD s)), some (.mob none (.dct (dE stD lsD (visit h (bf, mt, wa) t).1))), some (.mob none (.lst ((visit h (bf, mt, wa) t).2.2.map stD))), some (.mob none (.dct (dE stD natD fo))), some (.mob none (.dct (dE stD unD (visit h (bf, mt, wa) t).2.1))), some (.pure (stD (h))), q7, some (.pure (stD (t))), q9, q10, q11, q12] := by
  have z1 : (dE stD lsD bf).length < 16777216 := by simp [dE]; omega
  have z2 : (dE stD unD mt).length < 16777216 := by simp [dE]; omega
  have z3 : wa.length < 16777216 := by omega
  have al := add_ls (bfL bf t) h (by omega)
  unfold visit
  cases hk : lk mt t with
  | some u =>
    simp [b0_distances, sSeq, sSkip, sPut, sIf, sRet, sRaise, sDo, sUnpack, sPar, eRs, puts, sSet, mbind, mok, eVar, eC, getD, e1, e2, e2v, eItems, eTup, eLst, tB, tNot, tAnd, tOr, eAnd, eOr, eNot, eIf, getI, eChain, asD, view, slotVw, frz, fix, put, eIn, eOpt, eSlice, eM, isS, isL, eFstr, eCall, eArgs, toA, argsS, argS, argIx, giveBack, runF, startF, toArg, backF, backArg, leaveR, bindT_name, bindT_tup, setAll, iD, iRange1_eq, iRange2, eAppend, isMl, isMo, pyIsi, isTy, b2, pySub', pyIxT, pyIxL, pyLen_t, pyLen_l, pyTuple, scrAt, eScrNil, eScrLen, eScrList, eScrIx, List.mapIdx_cons, List.replicate, eGet2, isDct, asKv, keyFor, encS'.ok, dGet_E encS', getD_ls, ↓al, dPut_ls, zLine, z1, pyIn, hk]
  | none =>
    have pn := pu_new (v := ()) hk
    simp [b0_distances, sSeq, sSkip, sPut, sIf, sRet, sRaise, sDo, sUnpack, sPar, eRs, puts, sSet, mbind, mok, eVar, eC, getD, e1, e2, e2v, eItems, eTup, eLst, tB, tNot, tAnd, tOr, eAnd, eOr, eNot, eIf, getI, eChain, asD, view, slotVw, frz, fix, put, eIn, eOpt, eSlice, eM, isS, isL, eFstr, eCall, eArgs, toA, argsS, argS, argIx, giveBack, runF, startF, toArg, backF, backArg, leaveR, bindT_name, bindT_tup, setAll, iD, iRange1_eq, iRange2, eAppend, isMl, isMo, pyIsi, isTy, b2, pySub', pyIxT, pyIxL, pyLen_t, pyLen_l, pyTuple, scrAt, eScrNil, eScrLen, eScrList, eScrIx, List.mapIdx_cons, List.replicate, eGet2, isDct, asKv, keyFor, encS'.ok, dGet_E encS', getD_ls, ↓al, dPut_ls, zLine, z1, z2, z3, pyIn, hk, dPut_un, pn]
theorem visF_len (h : Stt) : ∀ (ts : List Stt) (a : Bf × Mt × List Stt), (ts.foldl (visit h) a).1.length ≤ a.1.length + ts.length ∧ (ts.foldl (visit h) a).2.1.length ≤ a.2.1.length + ts.length ∧ (ts.foldl (visit h) a).2.2.length ≤ a.2.2.length + ts.length ∧ ∀ t, (bfL (ts.foldl (visit h) a).1 t).length ≤ (bfL a.1 t).length + ts.length
  | [], a => by simp
  | x :: ts, a => by
    obtain ⟨i1, i2, i3, i4⟩ := visF_len h ts (visit h a x)
    have h1 : (visit h a x).1.length ≤ a.1.length + 1 := by
      have := congrArg List.length (pu_keys a.1 x (bfL a.1 x ++ [h]))
      simp only [List.length_map] at this
      show (pu a.1 x _).length ≤ _
      rw [this]
      split <;> simp
    have h2 : (visit h a x).2.1.length ≤ a.2.1.length + 1 ∧ (visit h a x).2.2.length ≤ a.2.2.length + 1 := by
      unfold visit
      dsimp only
      split <;> simp
    have h3 : ∀ t, (bfL (visit h a x).1 t).length ≤ (bfL a.1 t).length + 1 := fun t => by
      show (bfL (pu a.1 x _) t).length ≤ _
      rw [bfL_pu]
      split
      · rename_i e; subst e; simp
      · omega
    simp only [List.foldl_cons, List.length_cons]
    refine ⟨by omega, by omega, by omega, fun t => ?_⟩
    have := i4 t
    have := h3 t
    omega
theorem dis_w1 (E : Ec) (y : Y) (hy : okY y) (s : Stt) (bf : Bf) (mt : Mt) (w0 : List Stt) (h : Stt) (hh : okS y h) (fo : List (Stt × Nat)) (q6 q7 q8 q9 q10 q11 q12 : Option S) (hb : bf.length < 100000) (hm : mt.length < 100000) (hw : w0.length < 100000) (hl : ∀ t, (bfL bf t).length < 1000000) :
    ∃ w6 w7 w8, w2_distances E [some (.pure (yD y)), some (.pure (stD s)), some (.mob none (.dct (dE stD lsD bf))), some (.mob none (.lst ((w0 ++ [h]).map stD))), some (.mob none (.dct (dE stD natD fo))), some (.mob none (.dct (dE stD unD mt))), q6, q7, q8, q9, q10, q11, q12] = .ok .next [some (.pure (yD y)), some (.pure (stD s)), some (.mob none (.dct (dE stD lsD ((sc y h).foldl (visit h) (bf, mt, w0)).1))), some (.mob none (.lst (((sc y h).foldl (visit h) (bf, mt, w0)).2.2.map stD))), some (.mob none (.dct (dE stD natD fo))), some (.mob none (.dct (dE stD unD ((sc y h).foldl (visit h) (bf, mt, w0)).2.1))), w6, w7, w8, q9, q10, q11, q12] := by
  have nl := nx_len hy hh
  obtain ⟨σ', h1, w7, w8, h2⟩ := goFor_pre (tg := .tup [7, 8]) (body := b0_distances E) rowD (fun pre σ => ∃ w7 w8, σ = [some (.pure (yD y)), some (.pure (stD s)), some (.mob none (.dct (dE stD lsD ((pre.map (·.2)).foldl (visit h) (bf, mt, w0)).1))), some (.mob none (.lst (((pre.map (·.2)).foldl (visit h) (bf, mt, w0)).2.2.map stD))), some (.mob none (.dct (dE stD natD fo))), some (.mob none (.dct (dE stD unD ((pre.map (·.2)).foldl (visit h) (bf, mt, w0)).2.1))), some (.pure (stD (h))), w7, w8, q9, q10, q11, q12]) (nx y h) (σ := [some (.pure (yD y)), some (.pure (stD s)), some (.mob none (.dct (dE stD lsD bf))), some (.mob none (.lst (w0.map stD))), some (.mob none (.dct (dE stD natD fo))), some (.mob none (.dct (dE stD unD mt))), some (.pure (stD (h))), q7, q8, q9, q10, q11, q12]) ⟨q7, q8, rfl⟩ (by
      rintro pre r post e σ ⟨w7, w8, rfl⟩
      have hp : pre.length ≤ 36 := by
        have : (nx y h).length = pre.length + (post.length + 1) := by rw [e]; simp
        omega
      obtain ⟨l1, l2, l3, l4⟩ := visF_len h (pre.map (·.2)) (bf, mt, w0)
      simp only [List.length_map] at l1 l2 l3 l4
      have l4 := l4 r.2
      have := hl r.2
      have g := dis_in E y s ((pre.map (·.2)).foldl (visit h) (bf, mt, w0)).1 ((pre.map (·.2)).foldl (visit h) (bf, mt, w0)).2.1 ((pre.map (·.2)).foldl (visit h) (bf, mt, w0)).2.2 h r.2 fo (some (.pure (pkD r.1))) q9 q10 q11 q12 (by omega) (by omega) (by omega) (by omega)
      refine ⟨_, _, rfl, .inl g, some (.pure (pkD r.1)), some (.pure (stD (r.2))), ?_⟩
      rw [List.map_append, List.foldl_append]
      rfl)
  subst h2
  refine ⟨some (.pure (stD (h))), w7, w8, ?_⟩
  rw [show (nx y h).map (fun x => x.2) = sc y h from rfl] at h1
  rw [← h1]
  simp [w2_distances, sSeq, sSkip, sPut, sIf, sRet, sRaise, sDo, sUnpack, sPar, eRs, puts, sSet, mbind, mok, eVar, eC, getD, e1, e2, e2v, eItems, eTup, eLst, tB, tNot, tAnd, tOr, eAnd, eOr, eNot, eIf, getI, eChain, asD, view, slotVw, frz, fix, put, eIn, eOpt, eSlice, eM, isS, isL, eFstr, eCall, eArgs, toA, argsS, argS, argIx, giveBack, runF, startF, toArg, backF, backArg, leaveR, bindT_name, bindT_tup, setAll, iD, iRange1_eq, iRange2, eAppend, isMl, isMo, pyIsi, isTy, b2, pySub', pyIxT, pyIxL, pyLen_t, pyLen_l, pyTuple, scrAt, eScrNil, eScrLen, eScrList, eScrIx, List.mapIdx_cons, List.replicate, ePop, sFor, r_nexts E y hy h hh]
theorem dis_one (E : Ec) (y : Y) (hy : okY y) (s : Stt) (hs : okS y s) (q6 q7 q8 q9 q10 q11 q12 : Option S) :
    ∃ (bf : Bf) (mt : Mt) (w3 w6 w7 w8 : Option S), (keysM mt).Nodup ∧ mt.length ≤ 4608 ∧ (∀ t, t ∈ keysM mt ↔ Rc (sc y) s t) ∧ (∀ t u, u ∈ bfL bf t ↔ Rc (sc y) s u ∧ t ∈ sc y u) ∧
      sWhile (c1_distances E) (w2_distances E) fuel [some (.pure (yD y)), some (.pure (stD s)), some (.mob none (.dct (dE stD lsD []))), some (.mob none (.lst ([stD s]))), some (.mob none (.dct (dE stD natD []))), some (.mob none (.dct (dE stD unD [(s, ())]))), q6, q7, q8, q9, q10, q11, q12] = .ok .next [some (.pure (yD y)), some (.pure (stD s)), some (.mob none (.dct (dE stD lsD bf))), w3, some (.mob none (.dct (dE stD natD []))), some (.mob none (.dct (dE stD unD mt))), w6, w7, w8, q9, q10, q11, q12] := by
  have key : ∀ {bf : Bf} {mt : Mt} {wa : List Stt}, VsInv y s bf mt wa → mt.length ≤ 4608 ∧ bf.length ≤ 4608 ∧ wa.length ≤ mt.length := fun v => by
    refine ⟨?_, ?_, ?_⟩
    · have := few hy v.mn fun t ht => let ⟨n, w⟩ := v.rc t ht; wk_ok w hs
      simpa [keysM] using this
    · have := few hy v.bn fun t ht => let ⟨n, w⟩ := v.bc t ht; wk_ok w hs
      simpa using this
    · have := v.wn.length_le_of_subset (fun t ht => v.wm t ht)
      simpa [keysM] using this
  have wh := sWhile_inv (c := c1_distances E) (body := w2_distances E) (fun m σ => ∃ (bf : Bf) (mt : Mt) (wa : List Stt) (q6 q7 q8 : Option S), VsInv y s bf mt wa ∧ m = 2 * (4608 - mt.length) + wa.length ∧ σ = [some (.pure (yD y)), some (.pure (stD s)), some (.mob none (.dct (dE stD lsD bf))), some (.mob none (.lst (wa.map stD))), some (.mob none (.dct (dE stD natD []))), some (.mob none (.dct (dE stD unD mt))), q6, q7, q8, q9, q10, q11, q12])
    (fun o => ∃ (bf : Bf) (mt : Mt) (w3 w6 w7 w8 : Option S), (keysM mt).Nodup ∧ mt.length ≤ 4608 ∧ (∀ t, t ∈ keysM mt ↔ Rc (sc y) s t) ∧ (∀ t u, u ∈ bfL bf t ↔ Rc (sc y) s u ∧ t ∈ sc y u) ∧ o = .ok .next [some (.pure (yD y)), some (.pure (stD s)), some (.mob none (.dct (dE stD lsD bf))), w3, some (.mob none (.dct (dE stD natD []))), some (.mob none (.dct (dE stD unD mt))), w6, w7, w8, q9, q10, q11, q12]) (by
      rintro m σ ⟨bf, mt, wa, q6, q7, q8, v, rfl, rfl⟩
      obtain ⟨k1, k2, k3⟩ := key v
      have ct : c1_distances E [some (.pure (yD y)), some (.pure (stD s)), some (.mob none (.dct (dE stD lsD bf))), some (.mob none (.lst (wa.map stD))), some (.mob none (.dct (dE stD natD []))), some (.mob none (.dct (dE stD unD mt))), q6, q7, q8, q9, q10, q11, q12] = .ok (!(wa.map stD).isEmpty) [some (.pure (yD y)), some (.pure (stD s)), some (.mob none (.dct (dE stD lsD bf))), some (.mob none (.lst (wa.map stD))), some (.mob none (.dct (dE stD natD []))), some (.mob none (.dct (dE stD unD mt))), q6, q7, q8, q9, q10, q11, q12] := by simp [c1_distances, sSeq, sSkip, sPut, sIf, sRet, sRaise, sDo, sUnpack, sPar, eRs, puts, sSet, mbind, mok, eVar, eC, getD, e1, e2, e2v, eItems, eTup, eLst, tB, tNot, tAnd, tOr, eAnd, eOr, eNot, eIf, getI, eChain, asD, view, slotVw, frz, fix, put, eIn, eOpt, eSlice, eM, isS, isL, eFstr, eCall, eArgs, toA, argsS, argS, argIx, giveBack, runF, startF, toArg, backF, backArg, leaveR, bindT_name, bindT_tup, setAll, iD, iRange1_eq, iRange2, eAppend, isMl, isMo, pyIsi, isTy, b2, pySub', pyIxT, pyIxL, pyLen_t, pyLen_l, pyTuple, scrAt, eScrNil, eScrLen, eScrList, eScrIx, List.mapIdx_cons, List.replicate, ne_nil]
      refine ⟨_, _, ct, ?_⟩
      rcases List.eq_nil_or_concat wa with rfl | ⟨w0, h, e⟩
      · obtain ⟨e1, e2⟩ := vs_end v
        exact .inl ⟨rfl, bf, mt, _, q6, q7, q8, v.mn, k1, e1, e2, rfl⟩
      · rw [List.concat_eq_append] at e
        subst e
        refine .inr ⟨by simp, .inl ?_⟩
        have hh : okS y h := let ⟨n, w⟩ := v.rc h (v.wm h (by simp)); wk_ok w hs
        simp only [List.length_append, List.length_singleton] at k3
        obtain ⟨w6, w7, w8, g⟩ := dis_w1 E y hy s bf mt w0 h hh [] q6 q7 q8 q9 q10 q11 q12 (by omega) (by omega) (by omega) (fun t => by have := v.bl t; omega)
        obtain ⟨v', lz, lz2⟩ := vs_step hy hs v
        obtain ⟨j1, j2, j3⟩ := key v'
        refine ⟨_, _, g, ?_, _, _, _, _, _, _, v', rfl, rfl⟩
        simp only [List.length_append, List.length_singleton]
        omega)
  have v0 : VsInv y s [] [(s, ())] [s] := by
    refine ⟨by simp [keysM], by simp, by simp [keysM], ?_, by simp [keysM], ?_, ?_, by simp [bfL, lk], by simp, by simp⟩
    · intro t ht
      simp [keysM] at ht
      subst ht
      exact ⟨0, .zero⟩
    · intro u hu hn
      simp [keysM] at hu hn
      exact absurd hu hn
    · intro t u hu
      simp [bfL, lk] at hu
  exact (wh fuel _ _ (by unfold fuel; simp) ⟨[], [(s, ())], [s], q6, q7, q8, v0, rfl, rfl⟩).imp fun bf h => h

theorem ds2_in (E : Ec) (y : Y) (s : Stt) (k : Nat) (bf : Bf) (fo : List (Stt × Nat)) (la : List Stt) (q3 q5 q6 q7 q8 q9 : Option S) (one t : Stt) (hk : lk fo one = some k) (hz : fo.length < 1000000) (hl : la.length < 1000000) :
    b6_distances E [some (.pure (yD y)), some (.pure (stD s)), some (.mob none (.dct (dE stD lsD (bf)))), q3, some (.mob none (.dct (dE stD natD (fo)))), q5, q6, q7, q8, q9, some (.pure (stD (one))), some (.mob none (.lst (la.map stD))), some (.pure (stD (t)))] = .ok .next [some (.pure (yD y)), some (.pure (stD s)), some (.mob none (.dct (dE stD lsD (bf)))), q3, some (.mob none (.dct (dE stD natD ((addL (k + 1) (fo, la) t).1)))), q5, q6, q7, q8, q9, some (.pure (stD (one))), some (.mob none (.lst ((addL (k + 1) (fo, la) t).2.map stD))), some (.pure (stD (t)))] := by
  unfold addL
  have z1 : (dE stD natD fo).length < 16777216 := by simp [dE]; omega
  have z2 : la.length < 16777216 := by omega
  cases h : lk fo t with
  | some d => simp [b6_distances, sSeq, sSkip, sPut, sIf, sRet, sRaise, sDo, sUnpack, sPar, eRs, puts, sSet, mbind, mok, eVar, eC, getD, e1, e2, e2v, eItems, eTup, eLst, tB, tNot, tAnd, tOr, eAnd, eOr, eNot, eIf, getI, eChain, asD, view, slotVw, frz, fix, put, eIn, eOpt, eSlice, eM, isS, isL, eFstr, eCall, eArgs, toA, argsS, argS, argIx, giveBack, runF, startF, toArg, backF, backArg, leaveR, bindT_name, bindT_tup, setAll, iD, iRange1_eq, iRange2, eAppend, isMl, isMo, pyIsi, isTy, b2, pySub', pyIxT, pyIxL, pyLen_t, pyLen_l, pyTuple, scrAt, eScrNil, eScrLen, eScrList, eScrIx, List.mapIdx_cons, List.replicate, pyIn, keyFor, encS'.ok, dGet_E encS', h]
  | none =>
    have pn := pu_new (v := k + 1) h
    simp [b6_distances, sSeq, sSkip, sPut, sIf, sRet, sRaise, sDo, sUnpack, sPar, eRs, puts, sSet, mbind, mok, eVar, eC, getD, e1, e2, e2v, eItems, eTup, eLst, tB, tNot, tAnd, tOr, eAnd, eOr, eNot, eIf, getI, eChain, asD, view, slotVw, frz, fix, put, eIn, eOpt, eSlice, eM, isS, isL, eFstr, eCall, eArgs, toA, argsS, argS, argIx, giveBack, runF, startF, toArg, backF, backArg, leaveR, bindT_name, bindT_tup, setAll, iD, iRange1_eq, iRange2, eAppend, isMl, isMo, pyIsi, isTy, b2, pySub', pyIxT, pyIxL, pyLen_t, pyLen_l, pyTuple, scrAt, eScrNil, eScrLen, eScrList, eScrIx, List.mapIdx_cons, List.replicate, pyIn, keyFor, encS'.ok, dGet_E encS', h, hk, ↓nat_add1, zLine, z1, z2, dPut_E encS', pn]
theorem few_add {y : Y} (hy : okY y) {k : Nat} {fo : List (Stt × Nat)} {ts : List Stt} (h : ∀ t ∈ ts, okS y t) : (ts.foldl (addL k) (fo, [])).1.length ≤ fo.length + 4608 ∧ (ts.foldl (addL k) (fo, [])).2.length ≤ 4608 := by
  have ao := addOk_fold k fo ts
  have l2 := few hy ao.nd fun t ht => h t ((ao.mem t).mp ht).1
  have l1 := congrArg List.length ao.keys
  simp only [List.length_map, List.length_append] at l1
  omega
theorem ds2_mid (E : Ec) (y : Y) (hy : okY y) (s : Stt) (k : Nat) (bf : Bf) (fo : List (Stt × Nat)) (ts : List Stt) (q3 q5 q6 q7 q8 q9 q12 : Option S) (one : Stt) (hts : ∀ t ∈ ts ++ bfL bf one, okS y t) (hk : lk fo one = some k) (hz : fo.length < 10000) :
    ∃ w12, b7_distances E [some (.pure (yD y)), some (.pure (stD s)), some (.mob none (.dct (dE stD lsD (bf)))), q3, some (.mob none (.dct (dE stD natD ((ts.foldl (addL (k + 1)) (fo, [])).1)))), q5, q6, q7, q8, q9, some (.pure (stD (one))), some (.mob none (.lst ((ts.foldl (addL (k + 1)) (fo, [])).2.map stD))), q12] = .ok .next [some (.pure (yD y)), some (.pure (stD s)), some (.mob none (.dct (dE stD lsD (bf)))), q3, some (.mob none (.dct (dE stD natD (((ts ++ bfL bf one).foldl (addL (k + 1)) (fo, [])).1)))), q5, q6, q7, q8, q9, some (.pure (stD (one))), some (.mob none (.lst (((ts ++ bfL bf one).foldl (addL (k + 1)) (fo, [])).2.map stD))), w12] := by
  obtain ⟨σ', h1, w12, h2⟩ := goFor_pre (tg := .name 12) (body := b6_distances E) stD (fun pre σ => ∃ w12, σ = [some (.pure (yD y)), some (.pure (stD s)), some (.mob none (.dct (dE stD lsD (bf)))), q3, some (.mob none (.dct (dE stD natD (((ts ++ pre).foldl (addL (k + 1)) (fo, [])).1)))), q5, q6, q7, q8, q9, some (.pure (stD (one))), some (.mob none (.lst (((ts ++ pre).foldl (addL (k + 1)) (fo, [])).2.map stD))), w12]) (bfL bf one) (σ := [some (.pure (yD y)), some (.pure (stD s)), some (.mob none (.dct (dE stD lsD (bf)))), q3, some (.mob none (.dct (dE stD natD ((ts.foldl (addL (k + 1)) (fo, [])).1)))), q5, q6, q7, q8, q9, some (.pure (stD (one))), some (.mob none (.lst ((ts.foldl (addL (k + 1)) (fo, [])).2.map stD))), q12]) ⟨q12, by rw [List.append_nil]⟩ (by
      rintro pre t post e σ ⟨w12, rfl⟩
      obtain ⟨l1, l2⟩ := few_add hy (k := k + 1) (fo := fo) (ts := ts ++ pre) fun x hx => hts x (by
        rw [e]
        rcases List.mem_append.mp hx with h | h
        · simp [h]
        · simp [h])
      have h := ds2_in E y s k bf ((ts ++ pre).foldl (addL (k + 1)) (fo, [])).1 ((ts ++ pre).foldl (addL (k + 1)) (fo, [])).2 q3 q5 q6 q7 q8 q9 one t (addF_old _ hk) (by omega) (by omega)
      refine ⟨_, _, rfl, .inl h, some (.pure (stD (t))), ?_⟩
      rw [← List.append_assoc, List.foldl_append (l' := [t])]
      rfl)
  subst h2
  refine ⟨w12, ?_⟩
  rw [← h1]
  simp [b7_distances, sSeq, sSkip, sPut, sIf, sRet, sRaise, sDo, sUnpack, sPar, eRs, puts, sSet, mbind, mok, eVar, eC, getD, e1, e2, e2v, eItems, eTup, eLst, tB, tNot, tAnd, tOr, eAnd, eOr, eNot, eIf, getI, eChain, asD, view, slotVw, frz, fix, put, eIn, eOpt, eSlice, eM, isS, isL, eFstr, eCall, eArgs, toA, argsS, argS, argIx, giveBack, runF, startF, toArg, backF, backArg, leaveR, bindT_name, bindT_tup, setAll, iD, iRange1_eq, iRange2, eAppend, isMl, isMo, pyIsi, isTy, b2, pySub', pyIxT, pyIxL, pyLen_t, pyLen_l, pyTuple, scrAt, eScrNil, eScrLen, eScrList, eScrIx, List.mapIdx_cons, List.replicate, sFor, eGet2, isDct, asKv, keyFor, encS'.ok, dGet_E encS', getD_ls]
  simp [lsD, mok]
theorem ds2_out (E : Ec) (y : Y) (hy : okY y) (s : Stt) (k : Nat) (bf : Bf) (fo : List (Stt × Nat)) (lv : List Stt) (q3 q5 q6 q7 q8 q10 q11 q12 : Option S) (hlv : ∀ t ∈ lv, lk fo t = some k) (hb : ∀ t u, u ∈ bfL bf t → okS y u) (hz : fo.length < 10000) :
    ∃ w10 w12, w9_distances E [some (.pure (yD y)), some (.pure (stD s)), some (.mob none (.dct (dE stD lsD (bf)))), q3, some (.mob none (.dct (dE stD natD (fo)))), q5, q6, q7, q8, some (.pure (.lst (lv.map stD))), q10, q11, q12] = .ok .next [some (.pure (yD y)), some (.pure (stD s)), some (.mob none (.dct (dE stD lsD (bf)))), q3, some (.mob none (.dct (dE stD natD (((lv.flatMap (bfL bf)).foldl (addL (k + 1)) (fo, [])).1)))), q5, q6, q7, q8, some (.pure (.lst (((lv.flatMap (bfL bf)).foldl (addL (k + 1)) (fo, [])).2.map stD))), w10, some (.pure (.lst (((lv.flatMap (bfL bf)).foldl (addL (k + 1)) (fo, [])).2.map stD))), w12] := by
  obtain ⟨σ', h1, w10, w12, h2⟩ := goFor_pre (tg := .name 10) (body := b7_distances E) stD (fun pre σ => ∃ w10 w12, σ = [some (.pure (yD y)), some (.pure (stD s)), some (.mob none (.dct (dE stD lsD (bf)))), q3, some (.mob none (.dct (dE stD natD (((pre.flatMap (bfL bf)).foldl (addL (k + 1)) (fo, [])).1)))), q5, q6, q7, q8, some (.pure (.lst (lv.map stD))), w10, some (.mob none (.lst (((pre.flatMap (bfL bf)).foldl (addL (k + 1)) (fo, [])).2.map stD))), w12]) lv (σ := [some (.pure (yD y)), some (.pure (stD s)), some (.mob none (.dct (dE stD lsD (bf)))), q3, some (.mob none (.dct (dE stD natD (fo)))), q5, q6, q7, q8, some (.pure (.lst (lv.map stD))), q10, some (.mob none (.lst ([]))), q12]) ⟨q10, q12, rfl⟩ (by
      rintro pre one post e σ ⟨w10, w12, rfl⟩
      have hm : one ∈ lv := by rw [e]; simp
      obtain ⟨v12, h⟩ := ds2_mid E y hy s k bf fo (pre.flatMap (bfL bf)) q3 q5 q6 q7 q8 (some (.pure (.lst (lv.map stD)))) w12 one (fun t ht => by
        rcases List.mem_append.mp ht with h | h
        · obtain ⟨u, _, hu⟩ := List.mem_flatMap.mp h
          exact hb u t hu
        · exact hb one t h) (hlv one hm) hz
      refine ⟨_, _, rfl, .inl h, some (.pure (stD (one))), v12, ?_⟩
      rw [List.flatMap_append, List.flatMap_singleton])
  subst h2
  refine ⟨w10, w12, ?_⟩
  simp [w9_distances, sSeq, sSkip, sPut, sIf, sRet, sRaise, sDo, sUnpack, sPar, eRs, puts, sSet, mbind, mok, eVar, eC, getD, e1, e2, e2v, eItems, eTup, eLst, tB, tNot, tAnd, tOr, eAnd, eOr, eNot, eIf, getI, eChain, asD, view, slotVw, frz, fix, put, eIn, eOpt, eSlice, eM, isS, isL, eFstr, eCall, eArgs, toA, argsS, argS, argIx, giveBack, runF, startF, toArg, backF, backArg, leaveR, bindT_name, bindT_tup, setAll, iD, iRange1_eq, iRange2, eAppend, isMl, isMo, pyIsi, isTy, b2, pySub', pyIxT, pyIxL, pyLen_t, pyLen_l, pyTuple, scrAt, eScrNil, eScrLen, eScrList, eScrIx, List.mapIdx_cons, List.replicate, sFor, h1]
theorem ds2_zero (E : Ec) (y : Y) (s : Stt) (bf : Bf) (lv : List Stt) (hn : lv.Nodup) (hl : lv.length ≤ 4608) (q3 q5 q6 q7 q8 q9 q10 q11 q12 : Option S) :
    ∃ w10, goFor (.name 10) (b5_distances E) (lv.map stD) [some (.pure (yD y)), some (.pure (stD s)), some (.mob none (.dct (dE stD lsD (bf)))), q3, some (.mob none (.dct (dE stD natD ([])))), q5, q6, q7, q8, q9, q10, q11, q12] = .ok .next [some (.pure (yD y)), some (.pure (stD s)), some (.mob none (.dct (dE stD lsD (bf)))), q3, some (.mob none (.dct (dE stD natD (lv.map fun t => (t, 0))))), q5, q6, q7, q8, q9, w10, q11, q12] := by
  obtain ⟨σ', h1, w10, h2⟩ := goFor_pre (tg := .name 10) (body := b5_distances E) stD (fun pre σ => ∃ w10, σ = [some (.pure (yD y)), some (.pure (stD s)), some (.mob none (.dct (dE stD lsD (bf)))), q3, some (.mob none (.dct (dE stD natD (pre.map fun t => (t, 0))))), q5, q6, q7, q8, q9, w10, q11, q12]) lv (σ := [some (.pure (yD y)), some (.pure (stD s)), some (.mob none (.dct (dE stD lsD (bf)))), q3, some (.mob none (.dct (dE stD natD ([])))), q5, q6, q7, q8, q9, q10, q11, q12]) ⟨q10, rfl⟩ (by
      rintro pre one post e σ ⟨w10, rfl⟩
      have hp : pre.length ≤ lv.length := by rw [e]; simp
      have hk : lk (pre.map fun t => (t, 0)) one = none := lk_none.mpr (by
        rw [e, List.nodup_append] at hn
        intro h
        simp only [List.map_map] at h
        obtain ⟨x, hx, ex⟩ := List.mem_map.mp h
        exact hn.2.2 x hx one (by simp) ex)
      have pn := pu_new (v := 0) hk
      have z1 : (dE stD natD (pre.map fun t => (t, 0))).length < 16777216 := by simp [dE]; omega
      have dz : dPut (dE stD natD (pre.map fun t => (t, 0))) (stD one) (.int 0) = dE stD natD (pu (pre.map fun t => (t, 0)) one 0) := dPut_E encS' natD one 0 _
      refine ⟨_, [some (.pure (yD y)), some (.pure (stD s)), some (.mob none (.dct (dE stD lsD (bf)))), q3, some (.mob none (.dct (dE stD natD ((pre ++ [one]).map fun t => (t, 0))))), q5, q6, q7, q8, q9, some (.pure (stD (one))), q11, q12], rfl, .inl ?_, some (.pure (stD (one))), rfl⟩
      simp [b5_distances, sSeq, sSkip, sPut, sIf, sRet, sRaise, sDo, sUnpack, sPar, eRs, puts, sSet, mbind, mok, eVar, eC, getD, e1, e2, e2v, eItems, eTup, eLst, tB, tNot, tAnd, tOr, eAnd, eOr, eNot, eIf, getI, eChain, asD, view, slotVw, frz, fix, put, eIn, eOpt, eSlice, eM, isS, isL, eFstr, eCall, eArgs, toA, argsS, argS, argIx, giveBack, runF, startF, toArg, backF, backArg, leaveR, bindT_name, bindT_tup, setAll, iD, iRange1_eq, iRange2, eAppend, isMl, isMo, pyIsi, isTy, b2, pySub', pyIxT, pyIxL, pyLen_t, pyLen_l, pyTuple, scrAt, eScrNil, eScrLen, eScrList, eScrIx, List.mapIdx_cons, List.replicate, encS'.ok, zLine, z1, dz, pn])
  subst h2
  exact ⟨w10, h1⟩
theorem r_distances (E : Ec) (y : Y) (hy : okY y) (s : Stt) (hs : okS y s) : ∃ fo : List (Stt × Nat), (∀ t d, lk fo t = some d ↔ Rc (sc y) s t ∧ dist y t = some d) ∧ (fo.map (·.1)).Nodup ∧ fo.length ≤ 4608 ∧
    F_distances E [.pure (yD y), .pure (stD s)] = .ok (.own (.dct (dE stD natD fo))) [.pure (yD y), .pure (stD s)] := by
  obtain ⟨bf, mt, w3, w6, w7, w8, mn, ml, hm, hb, g1⟩ := dis_one E y hy s hs none none none none none none none
  have rok : ∀ t, Rc (sc y) s t → okS y t := fun t ⟨n, w⟩ => wk_ok w hs
  have cm := comp_fT (vs := [10]) (tg := .name 10) (t := t3_distances E) (e := x4_distances E) (σ := [some (.pure (yD y)), some (.pure (stD s)), some (.mob none (.dct (dE stD lsD (bf)))), w3, some (.mob none (.dct (dE stD natD ([])))), some (.fdc (.dct (dE stD unD mt))), w6, w7, w8, none, none, none, none]) stD stD isDone (keysM mt) [] (fun t ht => by
    refine ⟨_, [some (.pure (yD y)), some (.pure (stD s)), some (.mob none (.dct (dE stD lsD (bf)))), w3, some (.mob none (.dct (dE stD natD ([])))), some (.fdc (.dct (dE stD unD mt))), w6, w7, w8, none, some (.pure (stD (t))), none, none], rfl, ?_, fun _ => ⟨[some (.pure (yD y)), some (.pure (stD s)), some (.mob none (.dct (dE stD lsD (bf)))), w3, some (.mob none (.dct (dE stD natD ([])))), some (.fdc (.dct (dE stD unD mt))), w6, w7, w8, none, some (.pure (stD (t))), none, none], ?_, rfl⟩, fun _ => rfl⟩
    · simp [t3_distances, sSeq, sSkip, sPut, sIf, sRet, sRaise, sDo, sUnpack, sPar, eRs, puts, sSet, mbind, mok, eVar, eC, getD, e1, e2, e2v, eItems, eTup, eLst, tB, tNot, tAnd, tOr, eAnd, eOr, eNot, eIf, getI, eChain, asD, view, slotVw, frz, fix, put, eIn, eOpt, eSlice, eM, isS, isL, eFstr, eCall, eArgs, toA, argsS, argS, argIx, giveBack, runF, startF, toArg, backF, backArg, leaveR, bindT_name, bindT_tup, setAll, iD, iRange1_eq, iRange2, eAppend, isMl, isMo, pyIsi, isTy, b2, pySub', pyIxT, pyIxL, pyLen_t, pyLen_l, pyTuple, scrAt, eScrNil, eScrLen, eScrList, eScrIx, List.mapIdx_cons, List.replicate, r_is_finished]
    · simp [x4_distances, sSeq, sSkip, sPut, sIf, sRet, sRaise, sDo, sUnpack, sPar, eRs, puts, sSet, mbind, mok, eVar, eC, getD, e1, e2, e2v, eItems, eTup, eLst, tB, tNot, tAnd, tOr, eAnd, eOr, eNot, eIf, getI, eChain, asD, view, slotVw, frz, fix, put, eIn, eOpt, eSlice, eM, isS, isL, eFstr, eCall, eArgs, toA, argsS, argS, argIx, giveBack, runF, startF, toArg, backF, backArg, leaveR, bindT_name, bindT_tup, setAll, iD, iRange1_eq, iRange2, eAppend, isMl, isMo, pyIsi, isTy, b2, pySub', pyIxT, pyIxL, pyLen_t, pyLen_l, pyTuple, scrAt, eScrNil, eScrLen, eScrList, eScrIx, List.mapIdx_cons, List.replicate]) (by simp [zLine, keysM]; omega)
  rw [List.nil_append] at cm
  generalize hlv : (keysM mt).filter isDone = lv at cm
  have lvn : lv.Nodup := by rw [← hlv]; exact mn.filter _
  have lvm : ∀ t, t ∈ lv ↔ Rc (sc y) s t ∧ isDone t = true := fun t => by rw [← hlv, List.mem_filter, hm t]
  have lvl : lv.length ≤ 4608 := few hy lvn fun t ht => rok t ((lvm t).mp ht).1
  obtain ⟨w10, g2⟩ := ds2_zero E y s bf lv lvn lvl w3 (some (.fdc (.dct (dE stD unD mt)))) w6 w7 w8 (some (.pure (.lst (lv.map stD)))) none none none
  have hD : ∀ n t, (Rc (sc y) s t ∧ Dn y (n + 1) t) ↔ ∃ u, (Rc (sc y) s u ∧ Dn y n u) ∧ t ∈ bfL bf u := fun n t => by
    constructor
    · rintro ⟨hr, x, w, hx⟩
      cases w with
      | step h w' => exact ⟨_, ⟨hr.step h, x, w', hx⟩, (hb _ _).mpr ⟨hr, h⟩⟩
    · rintro ⟨u, ⟨hr, x, w, hx⟩, ht⟩
      obtain ⟨k1, k2⟩ := (hb _ _).mp ht
      exact ⟨k1, x, .step k2 w, hx⟩
  have key : ∀ {k : Nat} {fo : List (Stt × Nat)} {lv : List Stt}, LevOk (fun n t => Rc (sc y) s t ∧ Dn y n t) k fo lv → fo.length ≤ 4608 ∧ ∀ t ∈ lv, lk fo t = some k := fun h => by
    refine ⟨?_, fun t ht => ?_⟩
    · have := few hy h.nd (fun t ht => by
        obtain ⟨d, hd⟩ := mem_lk ht
        exact rok t ((h.val t d).mp hd).2.1.1)
      simpa using this
    · have q := (h.mem t).mp ht
      exact (h.val t _).mpr ⟨Nat.le_refl _, q⟩
  have mnD : ∀ t d, Mn (fun n => Rc (sc y) s t ∧ Dn y n t) d ↔ Rc (sc y) s t ∧ dist y t = some d := fun t d => by
    rw [dist_iff]
    constructor
    · rintro ⟨⟨h1, h2⟩, h3⟩; exact ⟨h1, h2, fun m hm z => h3 m hm ⟨h1, z⟩⟩
    · rintro ⟨h1, h2, h3⟩; exact ⟨⟨h1, h2⟩, fun m hm z => h3 m hm z.2⟩
  have init : LevOk (fun n t => Rc (sc y) s t ∧ Dn y n t) 0 (lv.map fun t => (t, 0)) lv := by
    have h0 : ∀ t, Mn (fun n => Rc (sc y) s t ∧ Dn y n t) 0 ↔ t ∈ lv := fun t => by
      rw [lvm t]
      constructor
      · rintro ⟨⟨h1, x, w, hx⟩, _⟩
        cases w
        exact ⟨h1, hx⟩
      · rintro ⟨h1, h2⟩; exact ⟨⟨h1, t, .zero, h2⟩, fun m hm => absurd hm (by omega)⟩
    have kn : ((lv.map fun t => (t, 0)).map (·.1)) = lv := by rw [List.map_map]; exact List.map_id lv
    refine ⟨fun t d => ?_, fun t => (h0 t).symm, by rw [kn]; exact lvn⟩
    rw [lk_some (by rw [kn]; exact lvn)]
    constructor
    · intro h
      obtain ⟨x, hx, ex⟩ := List.mem_map.mp h
      cases ex
      exact ⟨Nat.le_refl _, (h0 _).mpr hx⟩
    · rintro ⟨hd, h⟩
      have : d = 0 := by omega
      subst this
      exact List.mem_map.mpr ⟨t, (h0 t).mp h, rfl⟩
  have wh := sWhile_inv (c := c8_distances E) (body := w9_distances E) (fun m σ => ∃ (k : Nat) (fo : List (Stt × Nat)) (lv : List Stt) (q10 q11 q12 : Option S), LevOk (fun n t => Rc (sc y) s t ∧ Dn y n t) k fo lv ∧ m = 2 * (4608 - fo.length) + (if lv = [] then 0 else 1) ∧ σ = [some (.pure (yD y)), some (.pure (stD s)), some (.mob none (.dct (dE stD lsD (bf)))), w3, some (.mob none (.dct (dE stD natD (fo)))), some (.fdc (.dct (dE stD unD mt))), w6, w7, w8, some (.pure (.lst (lv.map stD))), q10, q11, q12])
    (fun o => ∃ (fo : List (Stt × Nat)) (q9 q10 q11 q12 : Option S), (∀ t d, lk fo t = some d ↔ Rc (sc y) s t ∧ dist y t = some d) ∧ (fo.map (·.1)).Nodup ∧ fo.length ≤ 4608 ∧ o = .ok .next [some (.pure (yD y)), some (.pure (stD s)), some (.mob none (.dct (dE stD lsD (bf)))), w3, some (.mob none (.dct (dE stD natD (fo)))), some (.fdc (.dct (dE stD unD mt))), w6, w7, w8, q9, q10, q11, q12]) (by
      rintro m σ ⟨k, fo, lv, q10, q11, q12, lo, rfl, rfl⟩
      obtain ⟨fl, hlv⟩ := key lo
      have ct : c8_distances E [some (.pure (yD y)), some (.pure (stD s)), some (.mob none (.dct (dE stD lsD (bf)))), w3, some (.mob none (.dct (dE stD natD (fo)))), some (.fdc (.dct (dE stD unD mt))), w6, w7, w8, some (.pure (.lst (lv.map stD))), q10, q11, q12] = .ok (!(lv.map stD).isEmpty) [some (.pure (yD y)), some (.pure (stD s)), some (.mob none (.dct (dE stD lsD (bf)))), w3, some (.mob none (.dct (dE stD natD (fo)))), some (.fdc (.dct (dE stD unD mt))), w6, w7, w8, some (.pure (.lst (lv.map stD))), q10, q11, q12] := by simp [c8_distances, sSeq, sSkip, sPut, sIf, sRet, sRaise, sDo, sUnpack, sPar, eRs, puts, sSet, mbind, mok, eVar, eC, getD, e1, e2, e2v, eItems, eTup, eLst, tB, tNot, tAnd, tOr, eAnd, eOr, eNot, eIf, getI, eChain, asD, view, slotVw, frz, fix, put, eIn, eOpt, eSlice, eM, isS, isL, eFstr, eCall, eArgs, toA, argsS, argS, argIx, giveBack, runF, startF, toArg, backF, backArg, leaveR, bindT_name, bindT_tup, setAll, iD, iRange1_eq, iRange2, eAppend, isMl, isMo, pyIsi, isTy, b2, pySub', pyIxT, pyIxL, pyLen_t, pyLen_l, pyTuple, scrAt, eScrNil, eScrLen, eScrList, eScrIx, List.mapIdx_cons, List.replicate, ne_nil]
      refine ⟨_, _, ct, ?_⟩
      by_cases hl : lv = []
      · subst hl
        exact .inl ⟨rfl, fo, _, q10, q11, q12, fun t d => (levOk_end hD lo t d).trans (mnD t d), lo.nd, fl, rfl⟩
      · refine .inr ⟨by simpa using hl, .inl ?_⟩
        obtain ⟨v10, v12, h⟩ := ds2_out E y hy s k bf fo lv w3 (some (.fdc (.dct (dE stD unD mt)))) w6 w7 w8 q10 q11 q12 hlv (fun t u hu => rok u ((hb t u).mp hu).1) (by omega)
        have ao := addOk_fold (k + 1) fo (lv.flatMap (bfL bf))
        have lo' := levOk_step hD lo ao
        have fl' := (key lo').1
        have kl : ((lv.flatMap (bfL bf)).foldl (addL (k + 1)) (fo, [])).1.length = fo.length + ((lv.flatMap (bfL bf)).foldl (addL (k + 1)) (fo, [])).2.length := by
          have := congrArg List.length ao.keys
          simpa using this
        refine ⟨_, _, h, ?_, k + 1, _, _, _, _, _, lo', rfl, rfl⟩
        rw [if_neg hl]
        split
        · omega
        · rename_i hne
          have := List.length_pos_iff.mpr hne
          omega)
  obtain ⟨fo, q9, q10, q11, q12, sp, nd, fl, g3⟩ := wh fuel _ _ (by unfold fuel; split <;> omega) ⟨0, _, lv, w10, none, none, init, rfl, rfl⟩
  refine ⟨fo, sp, nd, fl, ?_⟩
  have k0 : (dE stD unD mt).map (·.1) = (keysM mt).map stD := by simp [dE, keysM]
  simp only [show dE stD lsD [] = [] from rfl, show dE stD natD [] = [] from rfl, show dE stD unD [(s, ())] = [(stD s, .bl true)] from rfl] at g1 g2 cm
  simp [F_distances, m_distances, sSeq, sSkip, sPut, sIf, sRet, sRaise, sDo, sUnpack, sPar, eRs, puts, sSet, mbind, mok, eVar, eC, getD, e1, e2, e2v, eItems, eTup, eLst, tB, tNot, tAnd, tOr, eAnd, eOr, eNot, eIf, getI, eChain, asD, view, slotVw, frz, fix, put, eIn, eOpt, eSlice, eM, isS, isL, eFstr, eCall, eArgs, toA, argsS, argS, argIx, giveBack, runF, startF, toArg, backF, backArg, leaveR, bindT_name, bindT_tup, setAll, iD, iRange1_eq, iRange2, eAppend, isMl, isMo, pyIsi, isTy, b2, pySub', pyIxT, pyIxL, pyLen_t, pyLen_l, pyTuple, scrAt, eScrNil, eScrLen, eScrList, eScrIx, List.mapIdx_cons, List.replicate, eDict0, eDict1, encS'.ok, g1, eComp, wipeS, iKeys, k0, cm, sFor, g2, g3]

/-! ### the fewest steps -/
theorem getD_oN (o : Option Nat) : (o.map natD).getD .non = oN o := by cases o <;> rfl
theorem Rc.refl {α : Type} {f : α → List α} {s : α} : Rc f s s := ⟨0, .zero⟩
/-- a table of distances -/
def TabOk (y : Y) (s : Stt) (top : Nat) (fo : List (Stt × Nat)) : Prop := ∀ t d, d ≤ top → (lk fo t = some d ↔ Rc (sc y) s t ∧ dist y t = some d)
theorem tab_eq {y : Y} {s t : Stt} {fo : List (Stt × Nat)} (sp : ∀ t d, lk fo t = some d ↔ Rc (sc y) s t ∧ dist y t = some d) (h : Rc (sc y) s t) : lk fo t = dist y t := by
  cases q : dist y t with
  | some d => exact (sp t d).mpr ⟨h, q⟩
  | none =>
    cases z : lk fo t with
    | none => rfl
    | some d => rw [((sp t d).mp z).2] at q; cases q
/-! ### along a shortest way -/
theorem dist_zero {y : Y} {s : Stt} : dist y s = some 0 ↔ isDone s = true := by
  rw [dist_iff]
  constructor
  · rintro ⟨⟨t, w, h⟩, _⟩; cases w; exact h
  · intro h; exact ⟨⟨s, .zero, h⟩, fun m hm => absurd hm (by omega)⟩
theorem dist_le {y : Y} {s u : Stt} {n : Nat} (hu : u ∈ sc y s) (h : dist y u = some n) : ∃ m, m ≤ n + 1 ∧ dist y s = some m := by
  obtain ⟨t, w, ht⟩ := (dist_iff.mp h).1
  obtain ⟨m, hm, q⟩ := Mn.ex (P := fun n => Dn y n s) ⟨t, .step hu w, ht⟩
  exact ⟨m, hm, dist_iff.mpr q⟩
theorem dist_step {y : Y} {s : Stt} {n : Nat} (h : dist y s = some (n + 1)) : ∃ r ∈ nx y s, dist y r.2 = some n := by
  obtain ⟨⟨t, w, ht⟩, hmin⟩ := dist_iff.mp h
  cases w with
  | step hu w' =>
    obtain ⟨r, hr, e⟩ := List.mem_map.mp hu
    subst e
    refine ⟨r, hr, dist_iff.mpr ⟨⟨t, w', ht⟩, fun m hm ⟨x, v, hx⟩ => hmin (m + 1) (by omega) ⟨x, .step hu v, hx⟩⟩⟩
theorem dist_path {y : Y} : ∀ (d : Nat) (s : Stt), okS y s → dist y s = some d → ∃ l : List Stt, l.length = d + 1 ∧ l.Nodup ∧ ∀ t ∈ l, okS y t ∧ ∃ k, k ≤ d ∧ dist y t = some k
  | 0, s, hs, h => ⟨[s], rfl, by simp, fun t ht => by rw [List.mem_singleton.mp ht]; exact ⟨hs, 0, Nat.le_refl _, h⟩⟩
  | d + 1, s, hs, h => by
    obtain ⟨r, hr, hd⟩ := dist_step h
    obtain ⟨l, h1, h2, h3⟩ := dist_path d r.2 (nx_ok hs hr) hd
    refine ⟨s :: l, by simp [h1], ?_, fun t ht => ?_⟩
    · rw [List.nodup_cons]
      refine ⟨fun hm => ?_, h2⟩
      obtain ⟨_, k, hk, e⟩ := h3 s hm
      rw [h] at e
      cases e
      omega
    · rcases List.mem_cons.mp ht with rfl | ht
      · exact ⟨hs, d + 1, Nat.le_refl _, h⟩
      · obtain ⟨a, k, hk, e⟩ := h3 t ht
        exact ⟨a, k, by omega, e⟩
theorem dist_few {y : Y} (hy : okY y) {s : Stt} (hs : okS y s) {d : Nat} (h : dist y s = some d) : d < 660 := by
  obtain ⟨l, h1, h2, h3⟩ := dist_path d s hs h
  have := fewV hy h2 fun t ht => (h3 t ht).1
  omega
/-! ### good_nexts -/
theorem nat_sub1 (n : Nat) : pySub (natD (n + 1)) (.int 1) = some (.pure (natD n)) := by
  show some (R.pure (.int ((n + 1 : Nat) - 1))) = some (R.pure (.int n))
  congr 3
  omega
theorem eq_oN (o : Option Nat) (n : Nat) : pyEq (oN o) (natD n) = some (.pure (.bl (decide (o = some n)))) := by
  cases o with
  | none => simp [oN, natD, pyEq, D.dep, b2, D.eqv]
  | some m =>
    simp only [oN, natD, pyEq, D.dep, b2, D.eqv]
    simp
    rw [Bool.eq_iff_iff]
    simp
    omega
theorem eq_nat0 (n : Nat) : pyEq (natD n) (.int 0) = some (.pure (.bl (decide (n = 0)))) := by
  have := eq_oN (some n) 0
  simpa [oN, natD] using this
/-! ### the first plan -/
noncomputable def plF (y : Y) : Nat → Stt → List Pk
  | 0, _ => []
  | n + 1, s => match (nx y s).filter fun r => decide (dist y r.2 = some n) with
    | [] => []
    | r :: _ => r.1 :: plF y n r.2
theorem good_first {y : Y} {s0 s : Stt} {top n : Nat} {fo : List (Stt × Nat)} (sp : TabOk y s0 top fo) (hr : Rc (sc y) s0 s) (hn : n ≤ top) (h : dist y s = some (n + 1)) :
    ∃ r l, (nx y s).filter (fun r => decide (lk fo r.2 = some n)) = r :: l ∧ r ∈ nx y s ∧ dist y r.2 = some n ∧ plF y (n + 1) s = r.1 :: plF y n r.2 := by
  have e : (nx y s).filter (fun r => decide (lk fo r.2 = some n)) = (nx y s).filter fun r => decide (dist y r.2 = some n) := List.filter_congr fun r h => by
    have := sp r.2 n hn
    have hr2 : Rc (sc y) s0 r.2 := hr.step (List.mem_map.mpr ⟨r, h, rfl⟩)
    rw [Bool.eq_iff_iff]
    simp only [decide_eq_true_eq]
    rw [this]
    exact ⟨fun z => z.2, fun z => ⟨hr2, z⟩⟩
  rw [e]
  cases q : (nx y s).filter fun r => decide (dist y r.2 = some n) with
  | nil =>
    obtain ⟨r, hr, hd⟩ := dist_step h
    have : r ∈ (nx y s).filter fun r => decide (dist y r.2 = some n) := List.mem_filter.mpr ⟨hr, by simpa using hd⟩
    rw [q] at this
    cases this
  | cons r l =>
    have hm : r ∈ (nx y s).filter fun r => decide (dist y r.2 = some n) := by rw [q]; simp
    obtain ⟨h1, h2⟩ := List.mem_filter.mp hm
    refine ⟨r, l, rfl, h1, by simpa using h2, ?_⟩
    rw [plF, q]
theorem plF_len {y : Y} : ∀ (n : Nat) (s : Stt), dist y s = some n → (plF y n s).length = n
  | 0, _, _ => rfl
  | n + 1, s, h => by
    rw [plF]
    cases q : (nx y s).filter fun r => decide (dist y r.2 = some n) with
    | nil =>
      obtain ⟨r, hr, hd⟩ := dist_step h
      have : r ∈ (nx y s).filter fun r => decide (dist y r.2 = some n) := List.mem_filter.mpr ⟨hr, by simpa using hd⟩
      rw [q] at this
      cases this
    | cons r l =>
      have hm : r ∈ (nx y s).filter fun r => decide (dist y r.2 = some n) := by rw [q]; simp
      have h2 := (List.mem_filter.mp hm).2
      simp [plF_len n r.2 (by simpa using h2)]
def pksD (l : List Pk) : D := .tup (l.map pkD)
noncomputable def planD (y : Y) : D := match dist y (begS y) with
  | none => .non
  | some d => pksD (plF y d (begS y))
theorem gt_nat (n : Nat) : pyGt (natD n) (.int 0) = some (.pure (.bl (decide (0 < n)))) := by
  show some (R.pure (.bl (decide ((0 : Int) < n)))) = _
  congr 3
  rw [Bool.eq_iff_iff]
  simp
theorem dPut_nat (l : List (Stt × Nat)) (t : Stt) (n : Nat) : dPut (dE stD natD l) (stD t) (natD n) = dE stD natD (pu l t n) := dPut_E encS' natD t n l
theorem not_done {y : Y} {s : Stt} {n : Nat} (h : dist y s = some (n + 1)) : isDone s = false := by
  cases q : isDone s with
  | false => rfl
  | true => rw [dist_zero.mpr q] at h; cases h

theorem r_fewest_of (E : Ec) (y : Y) (hy : okY y) : F_fewest_of E [.pure (yD y)] = .ok (.pure (oN (dist y (begS y)))) [.pure (yD y)] := by
  obtain ⟨fo, sp, nd, fl, e⟩ := r_distances E y hy (begS y) (okS_beg hy)
  have te := tab_eq sp (t := begS y) Rc.refl
  simp [F_fewest_of, m_fewest_of, sSeq, sSkip, sPut, sIf, sRet, sRaise, sDo, sUnpack, sPar, eRs, puts, sSet, mbind, mok, eVar, eC, getD, e1, e2, e2v, eItems, eTup, eLst, tB, tNot, tAnd, tOr, eAnd, eOr, eNot, eIf, getI, eChain, asD, view, slotVw, frz, fix, put, eIn, eOpt, eSlice, eM, isS, isL, eFstr, eCall, eArgs, toA, argsS, argS, argIx, giveBack, runF, startF, toArg, backF, backArg, leaveR, bindT_name, bindT_tup, setAll, iD, iRange1_eq, iRange2, eAppend, isMl, isMo, pyIsi, isTy, b2, pySub', pyIxT, pyIxL, pyLen_t, pyLen_l, pyTuple, scrAt, eScrNil, eScrLen, eScrList, eScrIx, List.mapIdx_cons, List.replicate, r_begin E y hy, e, eGet1, isDct, asKv, keyFor, encS'.ok, dGet_E encS', te, getD_oN]

theorem r_fewest (E : Ec) (y : Y) (hy : okY y) : F_fewest E [.pure (yD y)] = .ok (.pure (oN (dist y (begS y)))) [.pure (yD y)] := by
  simp [F_fewest, m_fewest, sSeq, sSkip, sPut, sIf, sRet, sRaise, sDo, sUnpack, sPar, eRs, puts, sSet, mbind, mok, eVar, eC, getD, e1, e2, e2v, eItems, eTup, eLst, tB, tNot, tAnd, tOr, eAnd, eOr, eNot, eIf, getI, eChain, asD, view, slotVw, frz, fix, put, eIn, eOpt, eSlice, eM, isS, isL, eFstr, eCall, eArgs, toA, argsS, argS, argIx, giveBack, runF, startF, toArg, backF, backArg, leaveR, bindT_name, bindT_tup, setAll, iD, iRange1_eq, iRange2, eAppend, isMl, isMo, pyIsi, isTy, b2, pySub', pyIxT, pyIxL, pyLen_t, pyLen_l, pyTuple, scrAt, eScrNil, eScrLen, eScrList, eScrIx, List.mapIdx_cons, List.replicate, r_check_yard E y hy, r_fewest_of E y hy]

/-! ### _law_first -/
theorem eq_nat (m n : Nat) : pyEq (natD m) (natD n) = some (.pure (.bl (decide (m = n)))) := by
  have := eq_oN (some m) n
  simpa [oN] using this
theorem tab_step {y : Y} {s : Stt} {n : Nat} {ks : List Stt} (hks : ∀ t, t ∈ ks ↔ Rc (sc y) s t) {ba : List (Stt × Nat)} (pre : List Stt) (t : Stt) (ht : Rc (sc y) s t)
    (hb : ∀ x d, lk ba x = some d ↔ Rc (sc y) s x ∧ dist y x = some d ∧ (d ≤ n ∨ (d = n + 1 ∧ x ∈ pre))) :
    ∀ x d, lk (if lk ba t = none ∧ (∃ u ∈ sc y t, lk ba u = some n) then pu ba t (n + 1) else ba) x = some d ↔ Rc (sc y) s x ∧ dist y x = some d ∧ (d ≤ n ∨ (d = n + 1 ∧ x ∈ pre ++ [t])) := by
  have hu : (∃ u ∈ sc y t, lk ba u = some n) ↔ ∃ u ∈ sc y t, dist y u = some n := by
    constructor
    · rintro ⟨u, h1, h2⟩; exact ⟨u, h1, ((hb u n).mp h2).2.1⟩
    · rintro ⟨u, h1, h2⟩; exact ⟨u, h1, (hb u n).mpr ⟨ht.step h1, h2, .inl (Nat.le_refl _)⟩⟩
  intro x d
  by_cases c : lk ba t = none ∧ (∃ u ∈ sc y t, lk ba u = some n)
  · rw [if_pos c, lk_pu]
    obtain ⟨c1, c2⟩ := c
    obtain ⟨u, u1, u2⟩ := hu.mp c2
    obtain ⟨m, hm, hd⟩ := dist_le u1 u2
    have hdt : dist y t = some (n + 1) := by
      rcases Nat.lt_or_ge n m with q | q
      · rw [show n + 1 = m by omega]; exact hd
      · have := (hb t m).mpr ⟨ht, hd, .inl q⟩
        rw [c1] at this; cases this
    by_cases e : t = x
    · subst e
      rw [if_pos rfl]
      constructor
      · intro z; cases z; exact ⟨ht, hdt, .inr ⟨rfl, by simp⟩⟩
      · rintro ⟨_, z, _⟩; rw [hdt] at z; exact z
    · rw [if_neg e, hb x d]
      simp [Ne.symm e]
  · rw [if_neg c, hb x d]
    constructor
    · rintro ⟨h1, h2, h3⟩
      exact ⟨h1, h2, h3.imp id fun z => ⟨z.1, by simp [z.2]⟩⟩
    · rintro ⟨h1, h2, h3⟩
      refine ⟨h1, h2, ?_⟩
      rcases h3 with h3 | ⟨h3, h4⟩
      · exact .inl h3
      · rcases List.mem_append.mp h4 with h4 | h4
        · exact .inr ⟨h3, h4⟩
        · rw [List.mem_singleton] at h4
          subst h4
          subst h3
          obtain ⟨r, hr, hd⟩ := dist_step h2
          have := hu.mpr ⟨r.2, List.mem_map.mpr ⟨r, hr, rfl⟩, hd⟩
          refine .inr ⟨rfl, Classical.byContradiction fun hp => c ⟨?_, this⟩⟩
          cases q : lk ba x with
          | none => rfl
          | some k =>
            obtain ⟨_, k1, k2⟩ := (hb x k).mp q
            rw [h2] at k1
            cases k1
            rcases k2 with k2 | k2
            · omega
            · exact absurd k2.2 hp
theorem range_split {d x : Nat} {pre post : List Nat} (h : List.range d = pre ++ x :: post) : x = pre.length ∧ pre.length < d := by
  have l := congrArg List.length h
  simp only [List.length_range, List.length_append, List.length_cons] at l
  have g := congrArg (fun l => l[pre.length]?) h
  simp only [List.getElem?_range (show pre.length < d by omega), List.getElem?_append_right (Nat.le_refl _), Nat.sub_self, List.getElem?_cons_zero, Option.some.injEq] at g
  exact ⟨g.symm, by omega⟩
theorem zs_nat (d : Nat) : (zs d).map D.int = (List.range d).map natD := by simp [zs, natD]
/-! ### is it a plan -/
def asPk : D → Option Pk
  | .tup [.str a, .str b] => some (a, b)
  | _ => none
theorem asPk_pk (p : Pk) : asPk (pkD p) = some p := rfl
def leadsD (y : Y) : Stt → List D → Bool
  | s, [] => isDone s
  | s, d :: ds => if isDone s = true then false else match asPk d with
    | some p => match lk (nx y s) p with
      | some t => leadsD y t ds
      | none => false
    | none => false
/-- one step: the state after it -/
def goD (y : Y) (s : Stt) (d : D) : Option Stt := if isDone s = true then none else match asPk d with
  | some p => lk (nx y s) p
  | none => none
theorem leadsD_cons (y : Y) (s : Stt) (d : D) (ds : List D) : leadsD y s (d :: ds) = match goD y s d with
    | some t => leadsD y t ds
    | none => false := by
  rw [leadsD]
  unfold goD
  split
  · rfl
  · cases asPk d with
    | none => rfl
    | some p => rfl
def okD (d : D) : Prop := d = .non ∨ d = .tup [] ∨ ∃ p, d = pkD p
theorem goD_ok {y : Y} {s t : Stt} (hs : okS y s) {d : D} (h : goD y s d = some t) : okS y t := by
  unfold goD at h
  split at h
  · cases h
  · cases ha : asPk d with
    | none => rw [ha] at h; cases h
    | some p =>
      rw [ha] at h
      exact nx_ok hs ((lk_some (nx_keys hs)).mp h)
theorem dPut_row (l : List Rw) (r : Rw) : dPut (dE pkD stD l) (pkD r.1) (stD r.2) = dE pkD stD (pu l r.1 r.2) := dPut_E encP' stD r.1 r.2 l
theorem dGet_nil {l : List Rw} : dGet (dE pkD stD l) (.tup []) = none := by
  induction l with
  | nil => rfl
  | cons r l ih =>
    show (if (pkD r.1).eqv (.tup []) = true then _ else _) = _
    rw [if_neg (by simp [pkD, D.eqv, D.eqvs])]
    exact ih
/-! _law_leads -/
theorem okD_pks (ps : List Pk) : ∀ d ∈ ps.map pkD, okD d := fun d hd => by
  obtain ⟨p, _, rfl⟩ := List.mem_map.mp hd
  exact .inr (.inr ⟨p, rfl⟩)

/-! ### plans and their parts -/
theorem leads_plF {y : Y} : ∀ (n : Nat) (s : Stt), okS y s → dist y s = some n → leadsD y s ((plF y n s).map pkD) = true
  | 0, s, _, h => dist_zero.mp h
  | n + 1, s, hs, h => by
    have tb : TabOk y s (n + 1) [] → True := fun _ => trivial
    rw [plF]
    cases q : (nx y s).filter fun r => decide (dist y r.2 = some n) with
    | nil =>
      obtain ⟨r, hr, hd⟩ := dist_step h
      have : r ∈ (nx y s).filter fun r => decide (dist y r.2 = some n) := List.mem_filter.mpr ⟨hr, by simpa using hd⟩
      rw [q] at this
      cases this
    | cons r l =>
      have hm : r ∈ (nx y s).filter fun r => decide (dist y r.2 = some n) := by rw [q]; simp
      obtain ⟨h1, h2⟩ := List.mem_filter.mp hm
      have hl : lk (nx y s) r.1 = some r.2 := (lk_some (nx_keys hs)).mpr h1
      rw [List.map_cons, leadsD_cons]
      unfold goD
      rw [not_done h, asPk_pk]
      simp only [Bool.false_eq_true, if_false, hl]
      exact leads_plF n r.2 (nx_ok hs h1) (by simpa using h2)
theorem leads_more {y : Y} (d : D) (ds' : List D) : ∀ (ds : List D) (s : Stt), leadsD y s ds = true → leadsD y s (ds ++ d :: ds') = false
  | [], s, h => by
    have h : isDone s = true := h
    rw [List.nil_append, leadsD_cons]
    unfold goD
    rw [if_pos h]
  | e :: ds, s, h => by
    rw [leadsD_cons] at h
    rw [List.cons_append, leadsD_cons]
    cases q : goD y s e with
    | none => rfl
    | some t =>
      rw [q] at h
      exact leads_more d ds' ds t h
theorem leads_wait {y : Y} {s : Stt} (hs : okS y s) (ds : List D) : leadsD y s (pkD ([45], [45]) :: ds) = if isDone s = true then false else leadsD y s ds := by
  rw [leadsD_cons]
  unfold goD
  rw [asPk_pk]
  simp only [wait_row hs]
  cases isDone s <;> simp
theorem slice_pto (ps : List Pk) {k : Int} (h : 0 ≤ k) : pySlice (pksD ps) none (some k) = some (.pure (pksD (ps.take k.toNat))) := by
  show some (R.pure (.tup (cut (ps.map pkD) none (some k)))) = _
  rw [cut_to2 _ h, ← List.map_take]
  rfl
theorem slice_pfrom (ps : List Pk) {k : Int} (h : 0 ≤ k) : pySlice (pksD ps) (some k) none = some (.pure (pksD (ps.drop k.toNat))) := by
  show some (R.pure (.tup (cut (ps.map pkD) (some k) none))) = _
  rw [cut_from2 _ h, ← List.map_drop]
  rfl
theorem add_pks (a b : List Pk) (h : a.length + b.length < 100000) : pyAdd (pksD a) (pksD b) = some (.pure (pksD (a ++ b))) := by
  show (if _ then _ else _) = _
  rw [if_pos (by simp [zLine]; omega)]
  simp [pksD]
theorem len_pks (a : List Pk) : pyLen (pksD a) = some (.pure (.int a.length)) := by
  show some (R.pure (.int ((a.map pkD).length : Nat))) = _
  rw [List.length_map]
theorem dep_pks (a : List Pk) : (pksD a).dep ≤ 2 := by
  have := deps_map_le pkD 1 (fun r => by simp [pkD, D.dep, D.deps]) a
  simp only [pksD, D.dep]
  omega

/-! ### counting -/
def sumW (w : Stt → Nat) (l : List (Stt × Nat)) : Nat := (l.map fun p => p.2 * w p.1).sum
def inc (c : Nat) (l : List (Stt × Nat)) (t : Stt) : List (Stt × Nat) := pu l t ((lk l t).getD 0 + c)
theorem sumW_inc (w : Stt → Nat) (c : Nat) (t : Stt) : ∀ l : List (Stt × Nat), sumW w (inc c l t) = sumW w l + c * w t
  | [] => by simp [sumW, inc, pu, lk]
  | (k, v) :: r => by
    have ih := sumW_inc w c t r
    unfold sumW inc at *
    by_cases h : k = t
    · subst h
      simp only [lk, pu, if_true, Option.getD_some, List.map_cons, List.sum_cons, Nat.add_mul]
      omega
    · simp only [lk, pu, if_neg h, List.map_cons, List.sum_cons, ih]
      omega
theorem sumW_incF (w : Stt → Nat) (c : Nat) : ∀ (ts : List Stt) (l : List (Stt × Nat)), sumW w (ts.foldl (inc c) l) = sumW w l + c * (ts.map w).sum
  | [], l => by simp
  | t :: ts, l => by
    rw [List.foldl_cons, sumW_incF w c ts, sumW_inc, List.map_cons, List.sum_cons, Nat.mul_add]
    omega
theorem inc_keys {c : Nat} {l : List (Stt × Nat)} {t x : Stt} : x ∈ (inc c l t).map (·.1) ↔ x ∈ l.map (·.1) ∨ x = t := by
  unfold inc
  rw [pu_keys]
  split
  · rename_i h
    constructor
    · exact .inl
    · rintro (h' | rfl)
      · exact h'
      · exact h
  · simp
theorem inc_nodup {c : Nat} {l : List (Stt × Nat)} {t : Stt} (h : (l.map (·.1)).Nodup) : ((inc c l t).map (·.1)).Nodup := pu_nodup _ _ h
theorem incF_keys {c : Nat} : ∀ (ts : List Stt) {l : List (Stt × Nat)} {x : Stt}, x ∈ (ts.foldl (inc c) l).map (·.1) ↔ x ∈ l.map (·.1) ∨ x ∈ ts
  | [], l, x => by simp
  | t :: ts, l, x => by
    rw [List.foldl_cons, incF_keys ts, inc_keys]
    simp [or_assoc]
theorem incF_nodup {c : Nat} : ∀ (ts : List Stt) {l : List (Stt × Nat)}, (l.map (·.1)).Nodup → ((ts.foldl (inc c) l).map (·.1)).Nodup
  | [], _, h => h
  | _ :: ts, _, h => incF_nodup ts (inc_nodup h)
/-- ways of so many steps to a done state, by the first that is done -/
def cw (y : Y) : Nat → Stt → Nat
  | 0, s => if isDone s = true then 1 else 0
  | n + 1, s => if isDone s = true then 0 else ((sc y s).map (cw y n)).sum
/-- the same along states from which ever fewer steps are left -/
noncomputable def gw (y : Y) : Nat → Stt → Nat
  | 0, _ => 1
  | n + 1, s => ((((nx y s).filter fun r => decide (dist y r.2 = some n)).map (·.2)).map (gw y n)).sum
theorem sum_pos {l : List Nat} (h : l.sum ≠ 0) : ∃ x ∈ l, x ≠ 0 := by
  induction l with
  | nil => simp at h
  | cons a l ih =>
    by_cases ha : a = 0
    · subst ha
      rw [List.sum_cons, Nat.zero_add] at h
      obtain ⟨x, hx, h0⟩ := ih h
      exact ⟨x, List.mem_cons_of_mem _ hx, h0⟩
    · exact ⟨a, List.mem_cons_self, ha⟩
theorem cw_dn {y : Y} : ∀ (n : Nat) (s : Stt), cw y n s ≠ 0 → Dn y n s
  | 0, s, h => by
    unfold cw at h
    split at h
    · exact ⟨s, .zero, by assumption⟩
    · exact absurd rfl h
  | n + 1, s, h => by
    unfold cw at h
    split at h
    · exact absurd rfl h
    · obtain ⟨x, hx, h0⟩ := sum_pos h
      obtain ⟨t, ht, rfl⟩ := List.mem_map.mp hx
      obtain ⟨u, w, hu⟩ := cw_dn n t h0
      exact ⟨u, .step ht w, hu⟩
theorem sum_filter (f : Rw → Nat) (p : Rw → Bool) : ∀ l : List Rw, (∀ r ∈ l, p r = false → f r = 0) → (l.map f).sum = ((l.filter p).map f).sum
  | [], _ => rfl
  | r :: l, h => by
    have ih := sum_filter f p l fun x hx => h x (List.mem_cons_of_mem _ hx)
    rw [List.map_cons, List.sum_cons, ih, List.filter_cons]
    cases hp : p r with
    | true => simp
    | false =>
      have := h r List.mem_cons_self hp
      simp [this]
theorem cw_gw {y : Y} : ∀ (n : Nat) (s : Stt), dist y s = some n → cw y n s = gw y n s
  | 0, s, h => by simp [cw, gw, dist_zero.mp h]
  | n + 1, s, h => by
    unfold cw gw
    rw [not_done h]
    simp only [Bool.false_eq_true, if_false]
    have key : ∀ r ∈ nx y s, cw y n r.2 ≠ 0 → dist y r.2 = some n := fun r hr h0 => by
      have hd := cw_dn n r.2 h0
      obtain ⟨m, hm, q⟩ := Mn.ex (P := fun n => Dn y n r.2) hd
      have hq := dist_iff.mpr q
      obtain ⟨k, hk, e⟩ := dist_le (List.mem_map.mpr ⟨r, hr, rfl⟩ : r.2 ∈ sc y s) hq
      rw [h] at e
      cases e
      rw [show n = m by omega]
      exact hq
    unfold sc
    rw [List.map_map, List.map_map, sum_filter _ (fun r => decide (dist y r.2 = some n)) (nx y s) fun r hr hp => Classical.byContradiction fun h0 => by
      have := key r hr h0
      simp [this] at hp]
    congr 1
    refine List.map_congr_left fun r hr => ?_
    exact cw_gw n r.2 (by simpa using (List.mem_filter.mp hr).2)
theorem gw_pos {y : Y} : ∀ (n : Nat) (s : Stt), dist y s = some n → 0 < gw y n s
  | 0, _, _ => by simp [gw]
  | n + 1, s, h => by
    obtain ⟨r, hr, hd⟩ := dist_step h
    have ih := gw_pos n r.2 hd
    unfold gw
    have hm : gw y n r.2 ∈ (((nx y s).filter fun r => decide (dist y r.2 = some n)).map (·.2)).map (gw y n) := List.mem_map.mpr ⟨r.2, List.mem_map.mpr ⟨r, List.mem_filter.mpr ⟨hr, by simpa using hd⟩, rfl⟩, rfl⟩
    have : ∀ (l : List Nat) (x : Nat), x ∈ l → x ≤ l.sum := fun l => by
      induction l with
      | nil => intro x hx; cases hx
      | cons a l ih =>
        intro x hx
        rw [List.sum_cons]
        rcases List.mem_cons.mp hx with rfl | hx
        · omega
        · have := ih x hx; omega
    have := this _ _ hm
    omega
theorem nat_add (a b : Nat) : pyAdd (natD a) (natD b) = some (.pure (natD (a + b))) := by
  show some (R.pure (.int ((a : Int) + (b : Int)))) = some (R.pure (.int ((a + b : Nat) : Int)))
  congr 3
theorem getD_nat0 (l : List (Stt × Nat)) (t : Stt) : ((lk l t).map natD).getD (.int 0) = natD ((lk l t).getD 0) := by cases lk l t <;> rfl
theorem dPut_inc (l : List (Stt × Nat)) (t : Stt) (c : Nat) : dPut (dE stD natD l) (stD t) (natD ((lk l t).getD 0 + c)) = dE stD natD (inc c l t) := dPut_nat l t _

/-- the states that stand at n steps from the end -/
structure AtN (y : Y) (s : Stt) (n : Nat) (l : List (Stt × Nat)) : Prop where
  nd : (l.map (·.1)).Nodup
  at_ : ∀ t ∈ l.map (·.1), Rc (sc y) s t ∧ dist y t = some n
theorem AtN.few {y : Y} (hy : okY y) {s : Stt} (hs : okS y s) {n : Nat} {l : List (Stt × Nat)} (h : AtN y s n l) : l.length ≤ 4608 := by
  have := DL.few hy h.nd fun t ht => let ⟨n, w⟩ := (h.at_ t ht).1; wk_ok w hs
  simpa using this
theorem isE_dE (l : List (Stt × Nat)) : (dE stD natD l).isEmpty = l.isEmpty := by cases l <;> rfl
def cntN (y : Y) (o : Option Nat) (g : Nat → Nat) : Nat := match o with
  | some d => g d
  | none => 0
/-! ### the mirror -/
def mirT (t : Tx) : Tx := if t = [60] then [62] else if t = [62] then [60] else t
def mirA (n : Int) (a : Ac) : Ac := ⟨mirT a.nm, n - 1 - a.pl, a.ca, a.li⟩
def mirS (n : Int) (s : Stt) : Stt := ⟨n - 1 - s.r, n - 1 - s.l, s.b, s.a, s.ly⟩
def mirR (n : Int) (r : Rw) : Rw := ((mirT r.1.2, mirT r.1.1), mirS n r.2)
theorem mirT_mirT (t : Tx) : mirT (mirT t) = t := by
  unfold mirT
  by_cases h : t = [60]
  · subst h; rfl
  · by_cases h2 : t = [62]
    · subst h2; rfl
    · simp [h, h2]
theorem mirS_mirS (n : Int) (s : Stt) : mirS n (mirS n s) = s := by
  obtain ⟨l, r, a, b, ly⟩ := s
  simp only [mirS, Stt.mk.injEq]
  exact ⟨by omega, by omega, trivial, trivial, trivial⟩
theorem ix_mir {y : Y} {k : Int} (hk : IxOk y k) : IxOk (mirY y) k := by
  unfold IxOk at hk ⊢
  simpa [mirY] using hk
theorem ld_mir {y : Y} {k : Int} (hk : IxOk y k) : ldAt (mirY y) k = mirP y.n (ldAt y k) := by
  unfold IxOk at hk
  have hl : k.toNat < y.ld.length := by omega
  simp [ldAt, mirY, hl]
theorem acts_mir {y : Y} {p : Int} {c : Option Int} {ly : List Int} {a : Ac} (hc : ∀ k, c = some k → IxOk y k) (hl : ∀ k ∈ ly, IxOk y k) (h : a ∈ acts y p c ly) : mirA y.n a ∈ acts (mirY y) (y.n - 1 - p) c ly := by
  unfold acts at h ⊢
  rcases List.mem_append.mp h with h | h
  · apply List.mem_append_left
    unfold moves at h ⊢
    simp only [List.mem_append, List.mem_singleton] at h ⊢
    rcases h with (rfl | h) | h
    · exact .inl (.inl rfl)
    · split at h
      · rw [List.mem_singleton.mp h]
        refine .inr ?_
        rw [if_pos (show y.n - 1 - p < (mirY y).n - 1 by simp only [mirY]; omega), List.mem_singleton]
        simp only [mirA, mirT, Ac.mk.injEq]
        exact ⟨by simp, by omega, trivial, trivial⟩
      · cases h
    · split at h
      · rw [List.mem_singleton.mp h]
        refine .inl (.inr ?_)
        rw [if_pos (show 0 < y.n - 1 - p by omega), List.mem_singleton]
        simp only [mirA, mirT, Ac.mk.injEq]
        exact ⟨by simp, by omega, trivial, trivial⟩
      · cases h
  · apply List.mem_append_right
    cases c with
    | none =>
      simp only [lifts, List.mem_map, List.mem_filter] at h ⊢
      obtain ⟨k, ⟨hk, e⟩, rfl⟩ := h
      refine ⟨k, ⟨hk, ?_⟩, ?_⟩
      · rw [ld_mir (hl k hk)]
        simp only [mirP, beq_iff_eq] at e ⊢
        omega
      · simp [mirA, mirT]
    | some k =>
      simp only at h ⊢
      split at h
      · rename_i e
        rw [List.mem_singleton.mp h, ld_mir (hc k rfl), if_pos (by simp only [mirP, beq_iff_eq] at e ⊢; omega)]
        simp [mirA, mirT]
      · cases h
theorem rest2_comm (ly : List Int) (a b : Option Int) : rest2 ly a b = rest2 ly b a := by
  unfold rest2
  congr 1
  funext k
  exact Bool.and_comm _ _
theorem okS.ca {y : Y} {s : Stt} (hs : okS y s) : ∀ k, s.a = some k → IxOk y k := fun k h => hs.ix k (by simp [carr, h])
theorem okS.cb {y : Y} {s : Stt} (hs : okS y s) : ∀ k, s.b = some k → IxOk y k := fun k h => hs.ix k (by simp [carr, h])
theorem okS.cl {y : Y} {s : Stt} (hs : okS y s) : ∀ k ∈ s.ly, IxOk y k := fun k h => hs.ix k (by simp [h])
theorem okS_mir {y : Y} {s : Stt} (hs : okS y s) : okS (mirY y) (mirS y.n s) := by
  obtain ⟨h1, h2, h3, h4, h5, h6⟩ := hs
  have pe : (carr s.b s.a ++ s.ly).Perm (carr s.a s.b ++ s.ly) := by
    unfold carr
    exact List.Perm.append_right _ List.perm_append_comm
  refine ⟨by simp only [mirS]; omega, by simp only [mirS]; omega, by simp only [mirS, mirY]; omega, fun k hk => ix_mir (h4 k (pe.mem_iff.mp hk)), pe.nodup_iff.mpr h5, h6⟩
theorem row_mem {y : Y} {s : Stt} {a b : Ac} (ha : a ∈ actL y s) (hb : b ∈ actR y s) (h : a.pl < b.pl) : goR s a b ∈ nx y s := by
  rw [nx_mem]
  unfold rows0 rowsA rowsB
  exact List.mem_flatMap.mpr ⟨a, ha, List.mem_map.mpr ⟨b, List.mem_filter.mpr ⟨hb, by simpa using h⟩, rfl⟩⟩
theorem nx_mir {y : Y} {s : Stt} (hs : okS y s) {r : Rw} (h : r ∈ nx y s) : mirR y.n r ∈ nx (mirY y) (mirS y.n s) := by
  obtain ⟨a, ha, b, hb, lt, rfl⟩ := rows_are h
  have h1 := acts_mir hs.ca hs.cl ha
  have h2 := acts_mir hs.cb hs.cl hb
  have := row_mem (y := mirY y) (s := mirS y.n s) h2 h1 (by simp only [mirA]; omega)
  have e : goR (mirS y.n s) (mirA y.n b) (mirA y.n a) = mirR y.n (goR s a b) := by
    simp only [goR, mirR, mirS, mirA]
    rw [rest2_comm]
  rwa [e] at this
theorem sc_mir {y : Y} {s t : Stt} (hs : okS y s) (h : t ∈ sc y s) : mirS y.n t ∈ sc (mirY y) (mirS y.n s) := by
  obtain ⟨r, hr, rfl⟩ := List.mem_map.mp h
  exact List.mem_map.mpr ⟨_, nx_mir hs hr, rfl⟩
theorem wk_mir {y : Y} : ∀ {n : Nat} {s t : Stt}, okS y s → Wk (sc y) n s t → Wk (sc (mirY y)) n (mirS y.n s) (mirS y.n t)
  | _, _, _, _, .zero => .zero
  | _, _, _, hs, .step h w => .step (sc_mir hs h) (wk_mir (sc_ok hs h) w)
theorem done_mir (n : Int) (s : Stt) : isDone (mirS n s) = isDone s := by
  simp only [isDone, mirS]
  cases s.a.isNone <;> cases s.b.isNone <;> rfl
theorem dn_mir1 {y : Y} {n : Nat} {s : Stt} (hs : okS y s) (h : Dn y n s) : Dn (mirY y) n (mirS y.n s) := by
  obtain ⟨t, w, d⟩ := h
  exact ⟨_, wk_mir hs w, by rw [done_mir]; exact d⟩
theorem dn_mir {y : Y} {n : Nat} {s : Stt} (hs : okS y s) : Dn (mirY y) n (mirS y.n s) ↔ Dn y n s := by
  refine ⟨fun h => ?_, dn_mir1 hs⟩
  have := dn_mir1 (okS_mir hs) h
  rwa [mir_mir, show (mirY y).n = y.n from rfl, mirS_mirS] at this
theorem dist_mir {y : Y} {s : Stt} (hs : okS y s) : dist (mirY y) (mirS y.n s) = dist y s := by
  apply Option.ext
  intro d
  rw [dist_iff, dist_iff]
  unfold Mn
  simp only [dn_mir hs]
theorem beg_mir (y : Y) : begS (mirY y) = mirS y.n (begS y) := by simp [begS, mirS, mirY]
theorem dist_beg_mir {y : Y} (hy : okY y) : dist (mirY y) (begS (mirY y)) = dist y (begS y) := by rw [beg_mir, dist_mir (okS_beg hy)]

/-! ### moving the cranes; which yards have a plan -/
theorem sc_act {y : Y} {s : Stt} {a b : Ac} (ha : a ∈ actL y s) (hb : b ∈ actR y s) (h : a.pl < b.pl) : (goR s a b).2 ∈ sc y s := List.mem_map.mpr ⟨_, row_mem ha hb h, rfl⟩
theorem act_move (y : Y) (p : Int) (c : Option Int) (ly : List Int) {q : Int} (hq : 0 ≤ q ∧ q < y.n) (hd : (p - q).natAbs ≤ 1) : ∃ t, ⟨t, q, c, none⟩ ∈ acts y p c ly := by
  have : q = p ∨ q = p - 1 ∨ q = p + 1 := by omega
  unfold acts moves
  rcases this with rfl | rfl | rfl
  · exact ⟨[45], by simp⟩
  · exact ⟨[60], by rw [if_pos (show 0 < p by omega)]; simp⟩
  · exact ⟨[62], by rw [if_pos (show p < y.n - 1 by omega)]; simp⟩
theorem rest2_none (ly : List Int) : rest2 ly none none = ly := by
  unfold rest2
  rw [List.filter_eq_self]
  intro k _
  simp [nO]
theorem go_to {y : Y} : ∀ (d : Nat) (s : Stt), okS y s → ∀ l r : Int, 0 ≤ l → l < r → r < y.n → (s.l - l).natAbs ≤ d → (s.r - r).natAbs ≤ d → Wk (sc y) d s ⟨l, r, s.a, s.b, s.ly⟩
  | 0, s, hs, l, r, h0, h1, h2, k1, k2 => by
    have e1' : s.l = l := by omega
    have e2' : s.r = r := by omega
    subst e1' e2'
    exact .zero
  | d + 1, s, hs, l, r, h0, h1, h2, k1, k2 => by
    have q0 := hs.l0
    have q1 := hs.lr
    have q2 := hs.rn
    obtain ⟨l1, hl1, hl2⟩ : ∃ l1 : Int, (l1 = s.l ∧ l = s.l ∨ l1 = s.l + 1 ∧ s.l < l ∨ l1 = s.l - 1 ∧ l < s.l) ∧ (l1 - l).natAbs ≤ d := by
      rcases Int.lt_trichotomy s.l l with h | h | h
      · exact ⟨s.l + 1, .inr (.inl ⟨rfl, h⟩), by omega⟩
      · exact ⟨s.l, .inl ⟨rfl, h.symm⟩, by omega⟩
      · exact ⟨s.l - 1, .inr (.inr ⟨rfl, h⟩), by omega⟩
    obtain ⟨r1, hr1, hr2⟩ : ∃ r1 : Int, (r1 = s.r ∧ r = s.r ∨ r1 = s.r + 1 ∧ s.r < r ∨ r1 = s.r - 1 ∧ r < s.r) ∧ (r1 - r).natAbs ≤ d := by
      rcases Int.lt_trichotomy s.r r with h | h | h
      · exact ⟨s.r + 1, .inr (.inl ⟨rfl, h⟩), by omega⟩
      · exact ⟨s.r, .inl ⟨rfl, h.symm⟩, by omega⟩
      · exact ⟨s.r - 1, .inr (.inr ⟨rfl, h⟩), by omega⟩
    obtain ⟨t1, a1⟩ := act_move y s.l s.a s.ly (q := l1) (by omega) (by omega)
    obtain ⟨t2, a2⟩ := act_move y s.r s.b s.ly (q := r1) (by omega) (by omega)
    have m := sc_act (s := s) a1 a2 (by dsimp only; omega)
    have ok := sc_ok hs m
    have w := go_to d _ ok l r h0 h1 h2 hl2 hr2
    simp only [goR, rest2_none] at w m
    exact .step m w

theorem bring_l {y : Y} {s : Stt} (hs : okS y s) (ha : s.a = none) {k : Int} (hk : k ∈ s.ly) {r1 r2 : Int} {d1 d2 : Nat} (hp : 0 ≤ (ldAt y k).1 ∧ (ldAt y k).1 < r1 ∧ r1 < y.n) (hq : 0 ≤ (ldAt y k).2 ∧ (ldAt y k).2 < r2 ∧ r2 < y.n)
    (h1 : (s.l - (ldAt y k).1).natAbs ≤ d1) (h2 : (s.r - r1).natAbs ≤ d1) (h3 : ((ldAt y k).1 - (ldAt y k).2).natAbs ≤ d2) (h4 : (r1 - r2).natAbs ≤ d2) :
    Wk (sc y) (d1 + 1 + d2 + 1) s ⟨(ldAt y k).2, r2, none, s.b, rest2 s.ly (some k) none⟩ := by
  have w1 := go_to d1 s hs (ldAt y k).1 r1 hp.1 hp.2.1 hp.2.2 h1 h2
  have o1 := wk_ok w1 hs
  rw [ha] at w1 o1
  have m1 : (⟨(ldAt y k).1, r1, some k, s.b, rest2 s.ly (some k) none⟩ : Stt) ∈ sc y ⟨(ldAt y k).1, r1, none, s.b, s.ly⟩ := by
    have a1 : (⟨94 :: fig k, (ldAt y k).1, some k, some k⟩ : Ac) ∈ acts y (ldAt y k).1 none s.ly := by
      unfold acts lifts
      simp only [List.mem_append, List.mem_map, List.mem_filter]
      exact .inr ⟨k, ⟨hk, by simp⟩, rfl⟩
    obtain ⟨t2, a2⟩ := act_move y r1 s.b s.ly (q := r1) (by omega) (by omega)
    exact sc_act (s := ⟨(ldAt y k).1, r1, none, s.b, s.ly⟩) a1 a2 hp.2.1
  have o2 := sc_ok o1 m1
  have w2 := go_to d2 _ o2 (ldAt y k).2 r2 hq.1 hq.2.1 hq.2.2 h3 h4
  have m2 : (⟨(ldAt y k).2, r2, none, s.b, rest2 s.ly (some k) none⟩ : Stt) ∈ sc y ⟨(ldAt y k).2, r2, some k, s.b, rest2 s.ly (some k) none⟩ := by
    have a1 : (⟨[118], (ldAt y k).2, none, none⟩ : Ac) ∈ acts y (ldAt y k).2 (some k) (rest2 s.ly (some k) none) := by
      unfold acts
      simp
    obtain ⟨t2, a2⟩ := act_move y r2 s.b (rest2 s.ly (some k) none) (q := r2) (by omega) (by omega)
    have := sc_act (s := ⟨(ldAt y k).2, r2, some k, s.b, rest2 s.ly (some k) none⟩) a1 a2 hq.2.1
    simp only [goR] at this
    rwa [rest2_none] at this
  exact (((w1.snoc m1).trans w2).snoc m2)
theorem bring_r {y : Y} {s : Stt} (hs : okS y s) (hb : s.b = none) {k : Int} (hk : k ∈ s.ly) {l1 l2 : Int} {d1 d2 : Nat} (hp : 0 ≤ l1 ∧ l1 < (ldAt y k).1 ∧ (ldAt y k).1 < y.n) (hq : 0 ≤ l2 ∧ l2 < (ldAt y k).2 ∧ (ldAt y k).2 < y.n)
    (h1 : (s.r - (ldAt y k).1).natAbs ≤ d1) (h2 : (s.l - l1).natAbs ≤ d1) (h3 : ((ldAt y k).1 - (ldAt y k).2).natAbs ≤ d2) (h4 : (l1 - l2).natAbs ≤ d2) :
    Wk (sc y) (d1 + 1 + d2 + 1) s ⟨l2, (ldAt y k).2, s.a, none, rest2 s.ly (some k) none⟩ := by
  have hx := hs.cl k hk
  have hk' : k ∈ (mirS y.n s).ly := hk
  have := bring_l (okS_mir hs) (s := mirS y.n s) hb hk' (r1 := y.n - 1 - l1) (r2 := y.n - 1 - l2) (d1 := d1) (d2 := d2)
  rw [ld_mir hx] at this
  simp only [mirP, mirS, mirY] at this
  have w := this (by omega) (by omega) (by omega) (by omega) (by omega) (by omega)
  have w := wk_mir (okS_mir hs) w
  rw [mir_mir] at w
  simp only [mirS, mirY] at w
  rw [show y.n - 1 - (y.n - 1 - s.r) = s.r by omega, show y.n - 1 - (y.n - 1 - s.l) = s.l by omega, show y.n - 1 - (y.n - 1 - l2) = l2 by omega, show y.n - 1 - (y.n - 1 - (ldAt y k).2) = (ldAt y k).2 by omega] at w
  exact w
/-- a load that leads from one end to the other -/
def hop (y : Y) (k : Int) : Prop := ldAt y k = (0, y.n - 1) ∨ ldAt y k = (y.n - 1, 0)
theorem rest2_len {ly : List Int} {k : Int} (hk : k ∈ ly) : (rest2 ly (some k) none).length + 1 ≤ ly.length := by
  unfold rest2
  induction ly with
  | nil => cases hk
  | cons x ly ih =>
    rw [List.filter_cons]
    by_cases e : x = k
    · subst e
      rw [if_neg (by simp [nO])]
      have := List.length_filter_le (fun z => nO z (some x) && nO z none) ly
      simp only [List.length_cons]
      omega
    · have := ih ((List.mem_cons.mp hk).resolve_left (Ne.symm e))
      rw [if_pos (by simp [nO, e])]
      simp only [List.length_cons]
      omega
theorem rest2_sub {ly : List Int} {a b : Option Int} {k : Int} (h : k ∈ rest2 ly a b) : k ∈ ly := (List.mem_filter.mp h).1
theorem ldk_ok {y : Y} (hy : okY y) {k : Int} (hk : IxOk y k) : okP y.n (ldAt y k) := by
  unfold IxOk at hk
  have hl : k.toNat < y.ld.length := by omega
  have : ldAt y k = y.ld[k.toNat] := by simp [ldAt, hl]
  rw [this]
  exact hy.ld _ (List.getElem_mem _)
/-- one load after the other: each within 12 ticks -/
theorem feas {y : Y} (hy : okY y) : ∀ (m : Nat) (s : Stt), okS y s → s.a = none → s.b = none → s.ly.length ≤ m → (∀ k ∈ s.ly, ¬ hop y k) → ∃ n, n ≤ 12 * m ∧ Dn y n s := by
  intro m
  induction m with
  | zero =>
    intro s hs ha hb hl _
    have : s.ly = [] := by cases h : s.ly with
      | nil => rfl
      | cons _ _ => rw [h] at hl; simp at hl
    exact ⟨0, by omega, s, .zero, by simp [isDone, ha, hb, this]⟩
  | succ m ih =>
    intro s hs ha hb hl hn
    cases hly : s.ly with
    | nil => exact ⟨0, by omega, s, .zero, by simp [isDone, ha, hb, hly]⟩
    | cons k rest =>
      have hk : k ∈ s.ly := by rw [hly]; simp
      have n6 := hy.n6
      have q0 := hs.l0
      have q1 := hs.lr
      have q2 := hs.rn
      have lo := ldk_ok hy (hs.cl k hk)
      have nh := hn k hk
      unfold hop at nh
      unfold okP at lo
      have rl := rest2_len hk
      generalize hpq : ldAt y k = pq at *
      obtain ⟨p, q⟩ := pq
      simp only [Prod.mk.injEq] at nh lo
      have fin : ∀ t : Stt, Wk (sc y) (5 + 1 + 5 + 1) s t → t.a = none → t.b = none → t.ly = rest2 s.ly (some k) none → ∃ n, n ≤ 12 * (m + 1) ∧ Dn y n s := by
        intro t w h1 h2 h3
        obtain ⟨n, hn', u, w', d⟩ := ih t (wk_ok w hs) h1 h2 (by rw [h3]; omega) (fun j hj => hn j (rest2_sub (by rw [h3] at hj; exact hj)))
        exact ⟨5 + 1 + 5 + 1 + n, by omega, u, w.trans w', d⟩
      by_cases hc : p < y.n - 1 ∧ q < y.n - 1
      · have w := bring_l hs ha hk (r1 := y.n - 1) (r2 := y.n - 1) (d1 := 5) (d2 := 5)
        rw [hpq] at w
        simp only at w
        exact fin _ (w (by omega) (by omega) (by omega) (by omega) (by omega) (by omega)) rfl hb rfl
      · have w := bring_r hs hb hk (l1 := 0) (l2 := 0) (d1 := 5) (d2 := 5)
        rw [hpq] at w
        simp only at w
        exact fin _ (w (by omega) (by omega) (by omega) (by omega) (by omega) (by omega)) ha rfl rfl

theorem hop_l {y : Y} {s t : Stt} {k : Int} (hs : okS y s) (hk : ldAt y k = (0, y.n - 1)) (h : k ∈ s.ly ∨ s.a = some k) (ht : t ∈ sc y s) : k ∈ t.ly ∨ t.a = some k := by
  obtain ⟨r, hr, rfl⟩ := List.mem_map.mp ht
  obtain ⟨a, ha, b, hb, lt, rfl⟩ := rows_are hr
  have q0 := hs.l0
  have q1 := hs.lr
  have q2 := hs.rn
  obtain ⟨_, _, a2⟩ := acts_are (y := y) ⟨by omega, by omega⟩ ha
  obtain ⟨_, _, b2⟩ := acts_are (y := y) ⟨by omega, by omega⟩ hb
  simp only [goR]
  rcases h with h | h
  · by_cases e : a.li = some k
    · right
      rcases a2 with ⟨_, z, _⟩ | ⟨j, _, z, z2, _⟩ | ⟨j, _, _, z, _⟩
      · rw [z] at e; cases e
      · rw [z2] at e; cases e; exact z
      · rw [z] at e; cases e
    · left
      refine List.mem_filter.mpr ⟨h, ?_⟩
      have e2 : b.li ≠ some k := by
        rcases b2 with ⟨_, z, _⟩ | ⟨j, _, z, z2, _, z3, _⟩ | ⟨j, _, _, z, _⟩
        · rw [z]; intro x; cases x
        · rw [z2]; intro x; cases x
          rw [hk] at z3
          simp only at z3
          omega
        · rw [z]; intro x; cases x
      simp only [nO, Bool.and_eq_true, decide_eq_true_eq]
      exact ⟨fun x => e x.symm, fun x => e2 x.symm⟩
  · right
    rcases a2 with ⟨z, _⟩ | ⟨j, z, _⟩ | ⟨j, z, _, _, z2, _⟩
    · rw [z, h]
    · rw [h] at z; cases z
    · rw [h] at z; cases z
      rw [hk] at z2
      simp only at z2
      omega
theorem hop_wk {y : Y} {k : Int} (hk : ldAt y k = (0, y.n - 1)) : ∀ {n : Nat} {s t : Stt}, okS y s → Wk (sc y) n s t → (k ∈ s.ly ∨ s.a = some k) → k ∈ t.ly ∨ t.a = some k
  | _, _, _, _, .zero, h => h
  | _, _, _, hs, .step m w, h => hop_wk hk (sc_ok hs m) w (hop_l hs hk h m)
theorem hop_no1 {y : Y} {k : Int} (hk : ldAt y k = (0, y.n - 1)) {s : Stt} (hs : okS y s) (h : k ∈ s.ly) (n : Nat) : ¬ Dn y n s := by
  rintro ⟨t, w, d⟩
  have := hop_wk hk hs w (.inl h)
  simp only [isDone, Bool.and_eq_true, Option.isNone_iff_eq_none, List.isEmpty_iff] at d
  rw [d.1, d.2.2] at this
  rcases this with h | h <;> cases h
theorem hop_no {y : Y} {k : Int} {s : Stt} (hs : okS y s) (h : k ∈ s.ly) (hk : hop y k) (n : Nat) : ¬ Dn y n s := by
  rcases hk with hk | hk
  · exact hop_no1 hk hs h n
  · intro d
    refine hop_no1 (y := mirY y) (k := k) ?_ (okS_mir hs) h n (dn_mir1 hs d)
    rw [ld_mir (hs.cl k h), hk]
    simp only [mirP, mirY]
    congr 1 <;> omega
theorem dist_hop {y : Y} (hy : okY y) {s : Stt} (hs : okS y s) (ha : s.a = none) (hb : s.b = none) : dist y s = none ↔ ∃ k ∈ s.ly, hop y k := by
  constructor
  · intro h
    refine Classical.byContradiction fun hn => ?_
    obtain ⟨n, _, d⟩ := feas hy _ s hs ha hb (Nat.le_refl _) (fun k hk hh => hn ⟨k, hk, hh⟩)
    exact dist_none.mp h n d
  · rintro ⟨k, hk, hh⟩
    exact dist_none.mpr fun n => hop_no hs hk hh n
theorem dist_ub {y : Y} (hy : okY y) {s : Stt} (hs : okS y s) (ha : s.a = none) (hb : s.b = none) {d : Nat} (h : dist y s = some d) : d ≤ 12 * s.ly.length := by
  obtain ⟨n, h1, h2⟩ := feas hy _ s hs ha hb (Nat.le_refl _) (fun k hk hh => by
    rw [(dist_hop hy hs ha hb).mpr ⟨k, hk, hh⟩] at h
    cases h)
  have := (dist_iff.mp h).2 n
  exact Nat.le_of_not_lt fun z => absurd h2 ((dist_iff.mp h).2 n (by omega))
theorem beg_hop {y : Y} (hy : okY y) : dist y (begS y) = none ↔ ∃ k, IxOk y k ∧ hop y k := by
  rw [dist_hop hy (okS_beg hy) rfl rfl]
  constructor
  · rintro ⟨k, h1, h2⟩
    exact ⟨k, zs_mem.mp h1, h2⟩
  · rintro ⟨k, h1, h2⟩
    exact ⟨k, zs_mem.mpr h1, h2⟩

def lab (k j : Int) : Int := if k < j then j - 1 else j
theorem ld_wo {y : Y} {k j : Int} (hk : IxOk y k) (hj : IxOk y j) (hne : j ≠ k) : ldAt (woY y k) (lab k j) = ldAt y j := by
  unfold IxOk at hk hj
  unfold ldAt woY lab
  dsimp only
  simp only [List.getD_eq_getElem?_getD]
  congr 1
  by_cases h : k < j
  · rw [if_pos h, List.getElem?_append_right (by simp; omega), List.getElem?_drop]
    congr 1
    simp
    omega
  · rw [if_neg h, List.getElem?_append_left (by simp; omega), List.getElem?_take_of_lt (by omega)]
theorem lab_zs (n : Nat) (h : n ≤ 3) (k : Int) (hk : 0 ≤ k ∧ k < n) : ((zs n).filter (· != k)).map (lab k) = zs (n - 1) := by
  have hk' : k ∈ zs n := zs_mem.mpr hk
  revert k
  match n, h with
  | 0, _ => exact fun k hk _ => absurd hk (by omega)
  | 1, _ => 
    intro k hk hk'
    have : k = 0 := by omega
    subst this
    rfl
  | 2, _ =>
    intro k hk hk'
    have : k = 0 ∨ k = 1 := by omega
    rcases this with rfl | rfl <;> rfl
  | 3, _ =>
    intro k hk hk'
    have : k = 0 ∨ k = 1 ∨ k = 2 := by omega
    rcases this with rfl | rfl | rfl <;> rfl

/-! ### a wider yard -/
def widY (y : Y) : Y := ⟨y.n + 1, y.l, y.r, y.ld⟩
theorem acts_wid {y : Y} {p : Int} {c : Option Int} {ly : List Int} {a : Ac} (h : a ∈ acts y p c ly) : a ∈ acts (widY y) p c ly := by
  unfold acts at h ⊢
  rcases List.mem_append.mp h with h | h
  · apply List.mem_append_left
    unfold moves at h ⊢
    simp only [List.mem_append, List.mem_singleton] at h ⊢
    rcases h with (h | h) | h
    · exact .inl (.inl h)
    · exact .inl (.inr h)
    · split at h
      · refine .inr ?_
        rw [if_pos (show p < (widY y).n - 1 by simp only [widY]; omega)]
        exact h
      · cases h
  · exact List.mem_append_right _ h
theorem nx_wid {y : Y} {s : Stt} {r : Rw} (h : r ∈ nx y s) : r ∈ nx (widY y) s := by
  obtain ⟨a, ha, b, hb, lt, rfl⟩ := rows_are h
  exact row_mem (y := widY y) (acts_wid ha) (acts_wid hb) lt
theorem sc_wid {y : Y} {s t : Stt} (h : t ∈ sc y s) : t ∈ sc (widY y) s := by
  obtain ⟨r, hr, rfl⟩ := List.mem_map.mp h
  exact List.mem_map.mpr ⟨_, nx_wid hr, rfl⟩
theorem wk_wid {y : Y} : ∀ {n : Nat} {s t : Stt}, Wk (sc y) n s t → Wk (sc (widY y)) n s t
  | _, _, _, .zero => .zero
  | _, _, _, .step h w => .step (sc_wid h) (wk_wid w)
theorem okY_wid {y : Y} (hy : okY y) (hn : y.n ≤ 5) : okY (widY y) := by
  have h1 := hy.n2
  have h2 := hy.l0
  have h3 := hy.lr
  have h4 := hy.rn
  have h5 := hy.len
  refine ⟨by simp only [widY]; omega, by simp only [widY]; omega, h2, h3, by simp only [widY]; omega, h5, fun p hp => ?_⟩
  have := hy.ld p hp
  unfold okP at this ⊢
  simp only [widY]
  omega
theorem okS_wid {y : Y} {s : Stt} (hs : okS y s) : okS (widY y) s := by
  obtain ⟨h1, h2, h3, h4, h5, h6⟩ := hs
  exact ⟨h1, h2, by simp only [widY]; omega, h4, h5, h6⟩
theorem dn_dist {y z : Y} {s t : Stt} (h : ∀ n, Dn y n s → Dn z n t) {d : Nat} (hd : dist y s = some d) : ∃ m, m ≤ d ∧ dist z t = some m := by
  obtain ⟨m, h1, h2⟩ := Mn.ex (P := fun n => Dn z n t) (h d (dist_iff.mp hd).1)
  exact ⟨m, h1, dist_iff.mpr h2⟩
theorem dist_wid {y : Y} {d : Nat} (hd : dist y (begS y) = some d) : ∃ m, m ≤ d ∧ dist (widY y) (begS (widY y)) = some m :=
  dn_dist (y := y) (z := widY y) (s := begS y) (t := begS y) (fun _ ⟨t, w, e⟩ => ⟨t, wk_wid w, e⟩) hd
def movY (y : Y) : Y := ⟨y.n + 1, y.l + 1, y.r + 1, y.ld.map fun p => (p.1 + 1, p.2 + 1)⟩
theorem movY_is (y : Y) : movY y = mirY (widY (mirY y)) := by
  simp only [movY, mirY, widY, mirP, List.map_map, Y.mk.injEq]
  refine ⟨trivial, by omega, by omega, List.map_congr_left fun p _ => ?_⟩
  apply Prod.ext
  · show p.1 + 1 = y.n + 1 - 1 - (y.n - 1 - p.1)
    omega
  · show p.2 + 1 = y.n + 1 - 1 - (y.n - 1 - p.2)
    omega
theorem okY_mov {y : Y} (hy : okY y) (hn : y.n ≤ 5) : okY (movY y) := by
  rw [movY_is]
  exact okY_mir (okY_wid (okY_mir hy) hn)
theorem dist_mov {y : Y} (hy : okY y) (hn : y.n ≤ 5) {d : Nat} (hd : dist y (begS y) = some d) : ∃ m, m ≤ d ∧ dist (movY y) (begS (movY y)) = some m := by
  rw [movY_is, dist_beg_mir (okY_wid (okY_mir hy) hn)]
  exact dist_wid (by rw [dist_beg_mir hy]; exact hd)
theorem leads_wid {y : Y} : ∀ (ds : List D) (s : Stt), okS y s → leadsD y s ds = true → leadsD (widY y) s ds = true
  | [], s, _, h => h
  | d :: ds, s, hs, h => by
    rw [leadsD_cons] at h ⊢
    cases q : goD y s d with
    | none => rw [q] at h; cases h
    | some t =>
      rw [q] at h
      have : goD (widY y) s d = some t := by
        unfold goD at q ⊢
        split at q
        · cases q
        · rename_i nd
          rw [if_neg nd]
          cases hp : asPk d with
          | none => rw [hp] at q; cases q
          | some p =>
            rw [hp] at q
            exact (lk_some (nx_keys (okS_wid hs))).mpr (nx_wid ((lk_some (nx_keys hs)).mp q))
      rw [this]
      exact leads_wid ds t (goD_ok hs q) h

/-! ### one load left out -/
def prjO (k : Int) (c : Option Int) : Option Int := c.bind fun j => if j = k then none else some (lab k j)
def prjL (k : Int) (ly : List Int) : List Int := (ly.filter (· != k)).map (lab k)
def prj (k : Int) (s : Stt) : Stt := ⟨s.l, s.r, prjO k s.a, prjO k s.b, prjL k s.ly⟩
/-- the act's new name, by what is carried before and after -/
def drT (k : Int) (c c' : Option Int) (t : Tx) : Tx := match c, c' with
  | none, some j => if j = k then [45] else 94 :: fig (lab k j)
  | some j, none => if j = k then [45] else [118]
  | _, _ => t
def prjA (k : Int) (c : Option Int) (a : Ac) : Ac := ⟨drT k c a.ca a.nm, a.pl, prjO k a.ca, prjO k a.li⟩
theorem lab_inj {k i j : Int} (hi : i ≠ k) (hj : j ≠ k) (h : lab k i = lab k j) : i = j := by
  unfold lab at h
  split at h <;> split at h <;> omega
theorem drT_same (k : Int) (c : Option Int) (t : Tx) : drT k c c t = t := by cases c <;> rfl
theorem prjO_ne {k j : Int} (h : j ≠ k) : prjO k (some j) = some (lab k j) := by simp [prjO, h]
theorem prjO_k (k : Int) : prjO k (some k) = none := by simp [prjO]
theorem moves_mem {y z : Y} (hn : y.n = z.n) {p : Int} {c c' : Option Int} {a : Ac} (h : a ∈ moves y p c) : (⟨a.nm, a.pl, c', none⟩ : Ac) ∈ moves z p c' := by
  unfold moves at h ⊢
  simp only [List.mem_append, List.mem_singleton] at h ⊢
  rw [hn] at h
  rcases h with (rfl | h) | h
  · exact .inl (.inl rfl)
  · split at h
    · rename_i g
      rw [List.mem_singleton.mp h, if_pos g]
      exact .inl (.inr (by simp))
    · cases h
  · split at h
    · rename_i g
      rw [List.mem_singleton.mp h, if_pos g]
      exact .inr (by simp)
    · cases h
theorem move_are {y : Y} {p : Int} {c : Option Int} {a : Ac} (h : a ∈ moves y p c) : a.ca = c ∧ a.li = none := by
  unfold moves at h
  simp only [List.mem_append, List.mem_singleton] at h
  rcases h with (rfl | h) | h
  · exact ⟨rfl, rfl⟩
  · split at h
    · rw [List.mem_singleton.mp h]; exact ⟨rfl, rfl⟩
    · cases h
  · split at h
    · rw [List.mem_singleton.mp h]; exact ⟨rfl, rfl⟩
    · cases h
theorem stay_mem (y : Y) (p : Int) (c : Option Int) (ly : List Int) : (⟨[45], p, c, none⟩ : Ac) ∈ acts y p c ly := by
  unfold acts moves
  simp
theorem acts_prj {y : Y} {k : Int} (hk : IxOk y k) {p : Int} {c : Option Int} {ly : List Int} {a : Ac} (hc : ∀ j, c = some j → IxOk y j) (hl : ∀ j ∈ ly, IxOk y j) (h : a ∈ acts y p c ly) : prjA k c a ∈ acts (woY y k) p (prjO k c) (prjL k ly) := by
  unfold acts at h
  rcases List.mem_append.mp h with h | h
  · obtain ⟨e1', e2'⟩ := move_are h
    have := moves_mem (z := woY y k) rfl (c' := prjO k c) h
    unfold prjA
    rw [e1', e2', drT_same]
    exact List.mem_append_left _ this
  · cases c with
    | none =>
      simp only [lifts, List.mem_map, List.mem_filter] at h
      obtain ⟨j, ⟨hj, e⟩, rfl⟩ := h
      by_cases q : j = k
      · subst q
        simp only [prjA, drT, if_true, prjO_k]
        exact stay_mem _ _ _ _
      · simp only [prjA, drT, if_neg q, prjO_ne q]
        apply List.mem_append_right
        simp only [lifts, List.mem_map, List.mem_filter, show prjO k none = none from rfl]
        refine ⟨lab k j, ⟨List.mem_map.mpr ⟨j, List.mem_filter.mpr ⟨hj, by simpa using q⟩, rfl⟩, ?_⟩, rfl⟩
        rw [ld_wo hk (hl j hj) q]
        exact e
    | some j =>
      simp only at h
      split at h
      · rename_i e
        rw [List.mem_singleton.mp h]
        by_cases q : j = k
        · subst q
          simp only [prjA, drT, if_true, prjO_k]
          exact stay_mem _ _ _ _
        · simp only [prjA, drT, if_neg q, prjO_ne q]
          apply List.mem_append_right
          simp only [ld_wo hk (hc j rfl) q]
          rw [if_pos e]
          exact List.mem_singleton.mpr rfl
      · cases h
theorem nO_prj {k j : Int} (hj : j ≠ k) (c : Option Int) : nO (lab k j) (prjO k c) = nO j c := by
  rw [Bool.eq_iff_iff]
  cases c with
  | none => simp [nO, prjO]
  | some i =>
    by_cases q : i = k
    · subst q
      rw [prjO_k]
      simp [nO, hj]
    · rw [prjO_ne q]
      simp only [nO, decide_eq_true_eq, ne_eq, Option.some.injEq]
      exact ⟨fun h e => h (by rw [e]), fun h e => h (lab_inj hj q e)⟩
theorem rest_prj (k : Int) (ly : List Int) (a b : Option Int) : prjL k (rest2 ly a b) = rest2 (prjL k ly) (prjO k a) (prjO k b) := by
  unfold prjL rest2
  induction ly with
  | nil => rfl
  | cons j ly ih =>
    by_cases q : j = k
    · subst q
      have e : ((j :: ly).filter (· != j)) = ly.filter (· != j) := by simp
      rw [e, ← ih, List.filter_cons]
      split
      · rw [List.filter_cons, if_neg (by simp)]
      · rfl
    · have e : ((j :: ly).filter (· != k)) = j :: ly.filter (· != k) := by simp [q]
      rw [e, List.map_cons, List.filter_cons, List.filter_cons, nO_prj q, nO_prj q]
      split
      · rw [List.filter_cons, if_pos (by simpa using q), List.map_cons, ih]
      · exact ih
def prjR (k : Int) (s : Stt) (r : Rw) : Rw := ((drT k s.a r.2.a r.1.1, drT k s.b r.2.b r.1.2), prj k r.2)
theorem nx_prj {y : Y} {k : Int} (hk : IxOk y k) {s : Stt} (hs : okS y s) {r : Rw} (h : r ∈ nx y s) : prjR k s r ∈ nx (woY y k) (prj k s) := by
  obtain ⟨a, ha, b, hb, lt, rfl⟩ := rows_are h
  have h1 := acts_prj hk hs.ca hs.cl ha
  have h2 := acts_prj hk hs.cb hs.cl hb
  have := row_mem (y := woY y k) (s := prj k s) h1 h2 lt
  have e : goR (prj k s) (prjA k s.a a) (prjA k s.b b) = prjR k s (goR s a b) := by
    simp only [goR, prjR, prj, prjA, rest_prj]
  rwa [e] at this
theorem wk_prj {y : Y} {k : Int} (hk : IxOk y k) : ∀ {n : Nat} {s t : Stt}, okS y s → Wk (sc y) n s t → Wk (sc (woY y k)) n (prj k s) (prj k t)
  | _, _, _, _, .zero => .zero
  | _, _, _, hs, .step h w => by
    obtain ⟨r, hr, rfl⟩ := List.mem_map.mp h
    exact .step (List.mem_map.mpr ⟨_, nx_prj hk hs hr, rfl⟩) (wk_prj hk (nx_ok hs hr) w)
theorem done_prj {k : Int} {s : Stt} (h : isDone s = true) : isDone (prj k s) = true := by
  simp only [isDone, Bool.and_eq_true, Option.isNone_iff_eq_none, List.isEmpty_iff] at h ⊢
  simp [prj, h.1, h.2.1, h.2.2, prjO, prjL]
theorem len_wo {y : Y} {k : Int} (hk : IxOk y k) : (woY y k).ld.length = y.ld.length - 1 := by
  unfold IxOk at hk
  simp [woY]
  omega
theorem beg_prj {y : Y} (hy : okY y) {k : Int} (hk : IxOk y k) : prj k (begS y) = begS (woY y k) := by
  have := lab_zs y.ld.length (by have := hy.len; omega) k hk
  simp only [prj, begS, prjL, this, len_wo hk]
  rfl
theorem dist_wo {y : Y} (hy : okY y) {k : Int} (hk : IxOk y k) {d : Nat} (hd : dist y (begS y) = some d) : ∃ m, m ≤ d ∧ dist (woY y k) (begS (woY y k)) = some m := by
  rw [← beg_prj hy hk]
  exact dn_dist (y := y) (z := woY y k) (fun _ ⟨t, w, e⟩ => ⟨_, wk_prj hk (okS_beg hy) w, done_prj e⟩) hd
theorem okS_wk_prj {y : Y} (hy : okY y) {k : Int} (hk : IxOk y k) {n : Nat} {s : Stt} (h : Wk (sc y) n (begS y) s) : okS (woY y k) (prj k s) := by
  have := wk_prj hk (okS_beg hy) h
  rw [beg_prj hy hk] at this
  exact wk_ok this (okS_beg (okY_wo hy k))
/-- the plan with the load's acts taken out -/
def drP (y : Y) (k : Int) : Stt → List Pk → List Pk
  | _, [] => []
  | s, p :: ps => match lk (nx y s) p with
    | some t => (drT k s.a t.a p.1, drT k s.b t.b p.2) :: drP y k t ps
    | none => []
theorem dr_some {y : Y} (hy : okY y) {k : Int} (hk : IxOk y k) : ∀ (ps : List Pk) (n : Nat) (s : Stt), Wk (sc y) n (begS y) s → leadsD y s (ps.map pkD) = true → ∃ m, m ≤ (drP y k s ps).length ∧ leadsD (woY y k) (prj k s) (((drP y k s ps).take m).map pkD) = true
  | [], n, s, w, h => ⟨0, Nat.zero_le _, done_prj h⟩
  | p :: ps, n, s, w, h => by
    have hs := wk_ok w (okS_beg hy)
    rw [List.map_cons, leadsD_cons] at h
    unfold goD at h
    rw [asPk_pk] at h
    cases hd : isDone (prj k s) with
    | true => exact ⟨0, Nat.zero_le _, hd⟩
    | false =>
      have nd : ¬ isDone s = true := fun e => by rw [done_prj e] at hd; cases hd
      rw [if_neg nd] at h
      simp only at h
      cases q : lk (nx y s) p with
      | none => rw [q] at h; cases h
      | some t =>
        rw [q] at h
        have hr := (lk_some (nx_keys hs)).mp q
        obtain ⟨m, h1, h2⟩ := dr_some hy hk ps (n + 1) t (w.snoc (List.mem_map.mpr ⟨_, hr, rfl⟩)) h
        refine ⟨m + 1, ?_, ?_⟩
        · simp only [drP, q, List.length_cons]
          omega
        · have hp := nx_prj hk hs hr
          have lp := (lk_some (nx_keys (okS_wk_prj hy hk w))).mpr hp
          simp only [prjR] at lp
          simp only [drP, q, List.take_succ_cons, List.map_cons, leadsD_cons]
          unfold goD
          rw [asPk_pk, if_neg (by rw [hd]; simp)]
          simp only [lp]
          exact h2
theorem one_good (y : Y) (s : Stt) (Q : List Pk) (m : Nat) (hm : m ≤ Q.length) (h : leadsD y s ((Q.take m).map pkD) = true) (j : Nat) (hj : j ≤ Q.length) : leadsD y s ((Q.take j).map pkD) = decide (j = m) := by
  have key : ∀ a b, a < b → b ≤ Q.length → leadsD y s ((Q.take a).map pkD) = true → leadsD y s ((Q.take b).map pkD) = false := by
    intro a b hab hb ha
    have e : Q.take b = Q.take a ++ (Q.drop a).take (b - a) := by
      rw [show b = a + (b - a) by omega, List.take_add]
      simp
    rw [e, List.map_append]
    cases q : (Q.drop a).take (b - a) with
    | nil =>
      have := congrArg List.length q
      simp at this
      omega
    | cons p l => exact leads_more _ _ _ _ ha
  rcases Nat.lt_trichotomy j m with q | q | q
  · rw [show decide (j = m) = false by simp; omega]
    cases e : leadsD y s ((Q.take j).map pkD) with
    | false => rfl
    | true => rw [key j m q hm e] at h; cases h
  · subst q; rw [h]; simp
  · rw [key m j q hj h]; simp; omega
theorem filter_one (m : Nat) : ∀ n, m < n → (List.range n).filter (fun j => decide (j = m)) = [m]
  | 0, h => by omega
  | n + 1, h => by
    rw [List.range_succ, List.filter_append]
    by_cases q : m < n
    · rw [filter_one m n q, List.filter_cons, if_neg (by simp; omega)]
      rfl
    · have e : m = n := by omega
      subst e
      rw [List.filter_eq_nil_iff.mpr (fun a ha => by simp at ha ⊢; omega)]
      simp

/-! ### _law_dropped -/
def newH (c c' h : Option Int) : Option Int := match c, c' with
  | none, some j => some j
  | _, _ => h
/-- what an act does -/
def AcK (y : Y) (c c' : Option Int) (t : Tx) : Prop := (c' = c ∧ (t = [45] ∨ t = [60] ∨ t = [62])) ∨ (∃ j, c = none ∧ c' = some j ∧ IxOk y j ∧ t = 94 :: fig j) ∨ (∃ j, c = some j ∧ c' = none ∧ t = [118])
theorem acK {y : Y} {p : Int} {c : Option Int} {ly : List Int} {a : Ac} (hp : 0 ≤ p ∧ p < y.n) (hl : ∀ j ∈ ly, IxOk y j) (h : a ∈ acts y p c ly) : AcK y c a.ca a.nm := by
  obtain ⟨_, _, h⟩ := acts_are hp h
  rcases h with ⟨h1, _, h2⟩ | ⟨j, h1, h2, _, h3, _, _, h4⟩ | ⟨j, h1, h2, _, _, _, h3⟩
  · refine .inl ⟨h1, ?_⟩
    rcases h2 with h | h | h
    · exact .inl h.1
    · exact .inr (.inl h.1)
    · exact .inr (.inr h.1)
  · exact .inr (.inl ⟨j, h1, h2, hl j h3, h4⟩)
  · exact .inr (.inr ⟨j, h1, h2, h3⟩)
theorem row_acK {y : Y} {s : Stt} (hs : okS y s) {r : Rw} (h : r ∈ nx y s) : AcK y s.a r.2.a r.1.1 ∧ AcK y s.b r.2.b r.1.2 := by
  obtain ⟨a, ha, b, hb, lt, rfl⟩ := rows_are h
  exact ⟨acK hs.pl.1 hs.cl ha, acK hs.pl.2 hs.cl hb⟩
theorem three {y : Y} (hy : okY y) {j : Int} (h : IxOk y j) : j = 0 ∨ j = 1 ∨ j = 2 := by
  unfold IxOk at h
  have := hy.len
  omega
theorem newH_ok {y : Y} {c c' h : Option Int} {t : Tx} (ak : AcK y c c' t) (hh : ∀ j, c = some j → h = some j ∧ IxOk y j) : ∀ j, c' = some j → newH c c' h = some j ∧ IxOk y j := by
  intro i hi
  subst hi
  rcases ak with ⟨h1, _⟩ | ⟨j, rfl, h1, hj, rfl⟩ | ⟨j, rfl, h1, rfl⟩
  · subst h1
    exact hh i rfl
  · cases h1
    exact ⟨rfl, hj⟩
  · cases h1
/-! ### hopeless loads -/
def hopB (y : Y) (k : Int) : Bool := decide (ldAt y k = (0, y.n - 1)) || decide (ldAt y k = (y.n - 1, 0))
theorem hopB_iff {y : Y} {k : Int} : hopB y k = true ↔ hop y k := by simp [hopB, hop]
def hpL (y : Y) : List Int := (zs y.ld.length).filter (hopB y)
theorem sort2 (a b : Int) : sortI [a, b] = if b < a then [b, a] else [a, b] := by
  simp only [sortI, insI]
  split <;> split <;> first | rfl | omega
theorem sortT_pr (p : Int × Int) : pySortT (prD p) = some (.own (.lst ((sortI [p.1, p.2]).map .int))) := rfl
theorem hop_eq {y : Y} (hy : okY y) {k : Int} (hk : IxOk y k) : decide (sortI [(ldAt y k).1, (ldAt y k).2] = [0, y.n - 1]) = hopB y k := by
  have := ldk_ok hy hk
  unfold okP at this
  have n2 := hy.n2
  rw [sort2]
  unfold hopB
  obtain ⟨a, b⟩ := ldAt y k
  simp only [Prod.mk.injEq] at this ⊢
  rw [Bool.eq_iff_iff]
  simp only [Bool.or_eq_true, decide_eq_true_eq]
  split
  · simp only [List.cons.injEq, and_true]; omega
  · simp only [List.cons.injEq, and_true]; omega
def enK (y : Y) (k : Int) : D := .tup [.int k, prD (ldAt y k)]
theorem num_y (y : Y) : numD (y.ld.map prD) = (zs y.ld.length).map (enK y) := by
  apply List.ext_getElem?
  intro i
  unfold numD zs
  rw [List.getElem?_mapIdx, List.getElem?_map, List.getElem?_map, List.getElem?_map]
  by_cases h : i < y.ld.length
  · rw [List.getElem?_range h, List.getElem?_eq_getElem h]
    simp [enK, ldAt, h]
  · rw [List.getElem?_eq_none (by omega), List.getElem?_eq_none (by simp; omega)]
    rfl
theorem bind_en (i j : Nat) (y : Y) (k : Int) (σ : Sl) : bindT (.tup [i, j]) (enK y k) σ = some (setAll [i, j] [.int k, prD (ldAt y k)] σ) := rfl
theorem eq_lints2 (a : List Int) (x z : Int) : pyEq (.lst (a.map .int)) (.lst [.int x, .int z]) = some (.pure (.bl (decide (a = [x, z])))) := eq_lints a [x, z]
theorem r_found_hopeless (E : Ec) (y : Y) (hy : okY y) : F_found_hopeless E [.pure (yD y)] = .ok (.own (.lst ((hpL y).map .int))) [.pure (yD y)] := by
  have l3 := hy.len
  have cm := comp_fT (vs := [2, 3]) (tg := .tup [2, 3]) (t := t0_found_hopeless E) (e := x1_found_hopeless E) (σ := [some (.pure (yD y)), some (.mob none (.lst [.int 0, .int (y.n - 1)])), none, none]) (enK y) D.int (hopB y) (zs y.ld.length) [] (fun k hk => by
    have ik := zs_mem.mp hk
    refine ⟨_, [some (.pure (yD y)), some (.mob none (.lst [.int 0, .int (y.n - 1)])), some (.pure (.int k)), some (.pure (prD (ldAt y k)))], bind_en _ _ _ _ _, ?_, fun _ => ⟨[some (.pure (yD y)), some (.mob none (.lst [.int 0, .int (y.n - 1)])), some (.pure (.int k)), some (.pure (prD (ldAt y k)))], rfl, rfl⟩, fun _ => rfl⟩
    have e := hop_eq hy ik
    simp [t0_found_hopeless, sSeq, sSkip, sPut, sIf, sRet, sRaise, sDo, sUnpack, sPar, eRs, puts, sSet, mbind, mok, eVar, eC, getD, e1, e2, e2v, eItems, eTup, eLst, tB, tNot, tAnd, tOr, eAnd, eOr, eNot, eIf, getI, eChain, asD, view, slotVw, frz, fix, put, eIn, eOpt, eSlice, eM, isS, isL, eFstr, eCall, eArgs, toA, argsS, argS, argIx, giveBack, runF, startF, toArg, backF, backArg, leaveR, bindT_name, bindT_tup, setAll, iD, iRange1_eq, iRange2, eAppend, isMl, isMo, pyIsi, isTy, b2, pySub', pyIxT, pyIxL, pyLen_t, pyLen_l, pyTuple, scrAt, eScrNil, eScrLen, eScrList, eScrIx, List.mapIdx_cons, List.replicate, ↓sortT_pr, ↓eq_lints2, e]) (by simp [zLine, zs_len]; omega)
  rw [List.nil_append, ← num_y] at cm
  have s1 : pySub (.int y.n) (.int 1) = some (.pure (.int (y.n - 1))) := rfl
  simp [F_found_hopeless, m_found_hopeless, sSeq, sSkip, sPut, sIf, sRet, sRaise, sDo, sUnpack, sPar, eRs, puts, sSet, mbind, mok, eVar, eC, getD, e1, e2, e2v, eItems, eTup, eLst, tB, tNot, tAnd, tOr, eAnd, eOr, eNot, eIf, getI, eChain, asD, view, slotVw, frz, fix, put, eIn, eOpt, eSlice, eM, isS, isL, eFstr, eCall, eArgs, toA, argsS, argS, argIx, giveBack, runF, startF, toArg, backF, backArg, leaveR, bindT_name, bindT_tup, setAll, iD, iRange1_eq, iRange2, eAppend, isMl, isMo, pyIsi, isTy, b2, pySub', pyIxT, pyIxL, pyLen_t, pyLen_l, pyTuple, scrAt, eScrNil, eScrLen, eScrList, eScrIx, List.mapIdx_cons, List.replicate, yix0, yix3, s1, iEnum, eComp, wipeS, cm, hpL]
theorem r_hopeless (E : Ec) (y : Y) (hy : okY y) : F_hopeless E [.pure (yD y)] = .ok (.pure (.tup ((hpL y).map .int))) [.pure (yD y)] := by
  simp [F_hopeless, m_hopeless, sSeq, sSkip, sPut, sIf, sRet, sRaise, sDo, sUnpack, sPar, eRs, puts, sSet, mbind, mok, eVar, eC, getD, e1, e2, e2v, eItems, eTup, eLst, tB, tNot, tAnd, tOr, eAnd, eOr, eNot, eIf, getI, eChain, asD, view, slotVw, frz, fix, put, eIn, eOpt, eSlice, eM, isS, isL, eFstr, eCall, eArgs, toA, argsS, argS, argIx, giveBack, runF, startF, toArg, backF, backArg, leaveR, bindT_name, bindT_tup, setAll, iD, iRange1_eq, iRange2, eAppend, isMl, isMo, pyIsi, isTy, b2, pySub', pyIxT, pyIxL, pyLen_t, pyLen_l, pyTuple, scrAt, eScrNil, eScrLen, eScrList, eScrIx, List.mapIdx_cons, List.replicate, r_check_yard E y hy, r_found_hopeless E y hy]
theorem hpL_nil {y : Y} (hy : okY y) : hpL y = [] ↔ dist y (begS y) ≠ none := by
  unfold hpL
  rw [List.filter_eq_nil_iff, ne_eq, beg_hop hy]
  constructor
  · rintro h ⟨k, h1, h2⟩
    exact h k (zs_mem.mpr h1) (hopB_iff.mpr h2)
  · intro h k hk hh
    exact h ⟨k, zs_mem.mp hk, hopB_iff.mp hh⟩
theorem in_tints (k : Int) (ly : List Int) : pyIn (.d (.tup (ly.map .int))) (.int k) = some (decide (k ∈ ly)) := by
  simp only [pyIn]
  rw [if_pos (by simp [D.dep]), in_ints]

theorem btw_int (E : Ec) (t lo hi : Int) (h : lo ≤ t ∧ t ≤ hi) : F_is_between E [.pure (.int t), .pure (.int lo), .pure (.int hi)] = .ok (.pure (.bl true)) [.pure (.int t), .pure (.int lo), .pure (.int hi)] := by
  rw [r_is_between]
  simp [isBtw, h.1, h.2]
theorem maxN (l : List Nat) (h : l ≠ []) : ∃ m ∈ l, (∀ n ∈ l, n ≤ m) ∧ pyMaxL (.lst (l.map natD)) = some (.pure (natD m)) := by
  cases l with
  | nil => exact absurd rfl h
  | cons x r =>
    have h1 := foldl_max_mem (r.map fun (n : Nat) => (n : Int)) x
    have h2 := foldl_max_ge (r.map fun (n : Nat) => (n : Int)) x
    rw [← List.map_cons (f := fun (n : Nat) => (n : Int))] at h1
    obtain ⟨m, hm, e⟩ := List.mem_map.mp h1
    refine ⟨m, hm, fun n hn => ?_, ?_⟩
    · rcases List.mem_cons.mp hn with rfl | hn
      · have := h2.1; omega
      · have := h2.2 n (List.mem_map.mpr ⟨n, hn, rfl⟩); omega
    · have e' : maxI ((x :: r).map fun (n : Nat) => (n : Int)) = some (m : Int) := by
        rw [e]; rfl
      simp only [pyMaxL, intsN, e']
      rfl
theorem gt_nat2 (m d : Nat) (h : m ≤ d) : pyGt (natD m) (natD d) = some (.pure (.bl false)) := by
  show some (R.pure (.bl (decide ((d : Int) < (m : Int))))) = _
  congr 3
  simp
  omega
theorem isN_non : isN .non = true := rfl
theorem dep_oN (o : Option Nat) : (oN o).dep = 0 := by cases o <;> simp [oN, natD, D.dep]
theorem isN_oN (o : Option Nat) : isN (oN o) = o.isNone := by cases o <;> rfl
theorem lt_nat2 (d m : Nat) (h : m ≤ d) : pyLt (natD d) (natD m) = some (.pure (.bl false)) := by
  show some (R.pure (.bl (decide ((d : Int) < (m : Int))))) = _
  congr 3
  simp
  omega

/-! ### levels with an early end, whatever the slots -/
theorem for_gen {α β : Type} {tg : Tg} {b : M Flow} (enc : α → D) (Q : β → Sl → Prop) (T : α → Bool) (u : β → α → β) (res : R) (Fin : Sl → Prop) (xs : List α) (acc : β) (σ : Sl) (h0 : Q acc σ)
    (step : ∀ pre x post, xs = pre ++ x :: post → ∀ σ, Q (pre.foldl u acc) σ → ∃ σ1, bindT tg (enc x) σ = some σ1 ∧ (T x = true → ∃ σ2, b σ1 = .ok (.ret res) σ2 ∧ Fin σ2) ∧ (T x = false → ∃ σ2, b σ1 = .ok .next σ2 ∧ Q (u (pre.foldl u acc) x) σ2)) :
    ((∃ x ∈ xs, T x = true) → ∃ σ2, goFor tg b (xs.map enc) σ = .ok (.ret res) σ2 ∧ Fin σ2) ∧ ((∀ x ∈ xs, T x = false) → ∃ σ2, goFor tg b (xs.map enc) σ = .ok .next σ2 ∧ Q (xs.foldl u acc) σ2) := by
  constructor
  · rintro ⟨x, hx, tx⟩
    refine goFor_ret (tg := tg) (body := b) enc (fun pre σ => (∀ z ∈ pre, T z = false) ∧ Q (pre.foldl u acc) σ) (fun o => ∃ σ2, o = .ok (.ret res) σ2 ∧ Fin σ2) xs ⟨by simp, h0⟩ (fun σ hp => by rw [hp.1 x hx] at tx; cases tx) ?_
    rintro pre z post e σ ⟨hp, hq⟩
    obtain ⟨σ1, h1, h2, h3⟩ := step pre z post e σ hq
    cases hz : T z with
    | true =>
      obtain ⟨σ2, h4, h5⟩ := h2 hz
      exact ⟨σ1, σ2, h1, .inr ⟨res, h4, σ2, rfl, h5⟩⟩
    | false =>
      obtain ⟨σ2, h4, h5⟩ := h3 hz
      refine ⟨σ1, σ2, h1, .inl ⟨h4, fun w hw => ?_, by rw [List.foldl_append]; exact h5⟩⟩
      rcases List.mem_append.mp hw with hw | hw
      · exact hp w hw
      · rw [List.mem_singleton.mp hw]; exact hz
  · intro hall
    obtain ⟨σ', h1, h2⟩ := goFor_pre (tg := tg) (body := b) enc (fun pre σ => Q (pre.foldl u acc) σ) xs h0 (by
      intro pre z post e σ hq
      obtain ⟨σ1, h1, h2, h3⟩ := step pre z post e σ hq
      obtain ⟨σ2, h4, h5⟩ := h3 (hall z (by rw [e]; simp))
      exact ⟨σ1, σ2, h1, .inl h4, by rw [List.foldl_append]; exact h5⟩)
    exact ⟨σ', h1, h2⟩
abbrev Fl := List (Stt × Nat) × List Stt
def addG (k : Nat) (g : Rw → Bool) (a : Fl) (r : Rw) : Fl := if g r = true then addL k a r.2 else a
theorem addG_fold (k : Nat) (g : Rw → Bool) : ∀ (rs : List Rw) (a : Fl), rs.foldl (addG k g) a = ((rs.filter g).map (·.2)).foldl (addL k) a
  | [], a => rfl
  | r :: rs, a => by
    rw [List.foldl_cons, addG_fold k g rs, List.filter_cons]
    unfold addG
    split <;> rfl
theorem flat_fold {α β γ : Type} (f : α → List β) (u : γ → β → γ) : ∀ (l : List α) (a : γ), l.foldl (fun a x => (f x).foldl u a) a = (l.flatMap f).foldl u a
  | [], a => rfl
  | x :: l, a => by rw [List.foldl_cons, flat_fold f u l, List.flatMap_cons, List.foldl_append]
/-- where a walk can be after n steps, each of its own time -/
def Tm (f : Nat → Stt → List Stt) (s0 : Stt) : Nat → Stt → Prop
  | 0, t => t = s0
  | n + 1, t => ∃ u, Tm f s0 n u ∧ t ∈ f n u
theorem tm_init (f : Nat → Stt → List Stt) (s : Stt) : LevOk (Tm f s) 0 [(s, 0)] [s] := by
  have z : ∀ t d, Mn (fun n => Tm f s n t) d → d ≤ 0 → s = t ∧ d = 0 := by
    intro t d h hd
    have hd : d = 0 := by omega
    subst hd
    exact ⟨h.1.symm, rfl⟩
  refine ⟨fun t d => ?_, fun t => ?_, by simp⟩
  · rw [lk_one]
    constructor
    · rintro ⟨rfl, rfl⟩; exact ⟨Nat.le_refl _, rfl, fun m hm => absurd hm (by omega)⟩
    · rintro ⟨hd, hm⟩
      exact z t d hm hd
  · rw [List.mem_singleton]
    constructor
    · rintro rfl; exact ⟨rfl, fun m hm => absurd hm (by omega)⟩
    · intro h
      exact (z t 0 h (Nat.le_refl _)).1.symm
theorem mono_le {f : Nat → Stt → List Stt} (mono : ∀ n u t, t ∈ f (n + 1) u → t ∈ f n u) {u t : Stt} : ∀ {m n : Nat}, m ≤ n → t ∈ f n u → t ∈ f m u := by
  intro m n h
  induction h with
  | refl => exact id
  | step _ ih => exact fun h => ih (mono _ _ _ h)
theorem tm_step {f : Nat → Stt → List Stt} {s0 : Stt} (mono : ∀ n u t, t ∈ f (n + 1) u → t ∈ f n u) {k : Nat} {fo F : List (Stt × Nat)} {lv L : List Stt} (h : LevOk (Tm f s0) k fo lv) (a : AddOk (k + 1) fo (lv.flatMap (f k)) F L) : LevOk (Tm f s0) (k + 1) F L := by
  have hn : ∀ t, lk fo t = none ↔ ∀ m, m ≤ k → ¬ Tm f s0 m t := fun t => by
    constructor
    · intro e m hm hp
      obtain ⟨j, hj, q⟩ := Mn.ex (P := fun n => Tm f s0 n t) hp
      have := (h.val t j).mpr ⟨by omega, q⟩
      rw [e] at this; cases this
    · intro e
      cases q : lk fo t with
      | none => rfl
      | some d =>
        obtain ⟨h1, h2⟩ := (h.val t d).mp q
        exact absurd h2.1 (e d h1)
  have hm : ∀ t, t ∈ L ↔ Mn (fun n => Tm f s0 n t) (k + 1) := fun t => by
    rw [a.mem t, hn t, List.mem_flatMap]
    constructor
    · rintro ⟨⟨u, hu, ht⟩, e⟩
      exact ⟨⟨u, ((h.mem u).mp hu).1, ht⟩, fun m hm => e m (by omega)⟩
    · rintro ⟨h1, h2⟩
      obtain ⟨u, hu, ht⟩ := h1
      refine ⟨⟨u, (h.mem u).mpr ⟨hu, fun m hm hp => h2 (m + 1) (by omega) ⟨u, hp, mono_le mono (by omega) ht⟩⟩, ht⟩, fun m hm => h2 m (by omega)⟩
  refine ⟨fun t d => ?_, hm, ?_⟩
  · cases q : lk fo t with
    | some e =>
      rw [a.old t e q]
      obtain ⟨h1, h2⟩ := (h.val t e).mp q
      constructor
      · intro z; cases z; exact ⟨by omega, h2⟩
      · rintro ⟨_, z⟩; rw [h2.uniq z]
    | none =>
      rw [a.new t q]
      have hq := (hn t).mp q
      constructor
      · intro z
        split at z
        · rename_i ht
          cases z
          exact ⟨Nat.le_refl _, (hm t).mp ((a.mem t).mpr ⟨ht, q⟩)⟩
        · cases z
      · rintro ⟨h1, h2⟩
        have : d = k + 1 := by
          rcases Nat.lt_or_ge k d with z | z
          · omega
          · exact absurd h2.1 (hq d z)
        subst this
        rw [if_pos ((a.mem t).mp ((hm t).mpr h2)).1]
  · rw [a.keys, List.nodup_append]
    refine ⟨h.nd, a.nd, fun x hx z hz e => ?_⟩
    subst e
    exact lk_none.mp ((a.mem x).mp hz).2 hx
theorem tm_end {f : Nat → Stt → List Stt} {s0 : Stt} (mono : ∀ n u t, t ∈ f (n + 1) u → t ∈ f n u) {k : Nat} {fo : List (Stt × Nat)} (h : LevOk (Tm f s0) k fo []) : ∀ j t, ¬ Mn (fun n => Tm f s0 n t) (k + j) := by
  intro j
  induction j with
  | zero => intro t z; exact nomatch (h.mem t).mpr z
  | succ j ih =>
    intro t z
    obtain ⟨u, hu, ht⟩ := z.1
    exact ih u ⟨hu, fun m hm hp => z.2 (m + 1) (by omega) ⟨u, hp, mono_le (m := m) (n := k + j) mono (Nat.le_of_lt hm) ht⟩⟩
theorem bfs_gen {y : Y} (hy : okY y) {c : M Bool} {body : M Flow} (P : Nat → List (Stt × Nat) → List Stt → Sl → Prop) (f : Nat → Stt → List Stt) (S : Stt → Bool) (res : Nat → R) (Fin : Sl → Prop) (s0 : Stt) (hs0 : okS y s0)
    (hf : ∀ n u t, okS y u → t ∈ f n u → okS y t) (mono : ∀ n u t, t ∈ f (n + 1) u → t ∈ f n u)
    (hc : ∀ k fo lv σ, P k fo lv σ → c σ = .ok (!lv.isEmpty) σ)
    (hb : ∀ k fo lv σ, P k fo lv σ → (∀ t ∈ lv, okS y t) → lv.length ≤ 4608 → fo.length ≤ 4608 → k ≤ 5000 → ((∃ t ∈ lv, S t = true) → ∃ σ', body σ = .ok (.ret (res k)) σ' ∧ Fin σ') ∧
      ((∀ t ∈ lv, S t = false) → ∃ σ', body σ = .ok .next σ' ∧ P (k + 1) ((lv.flatMap (f k)).foldl (addL (k + 1)) (fo, [])).1 ((lv.flatMap (f k)).foldl (addL (k + 1)) (fo, [])).2 σ'))
    (σ : Sl) (h0 : P 0 [(s0, 0)] [s0] σ) :
    (∀ m, Mn (fun n => ∃ t, Tm f s0 n t ∧ S t = true) m → ∃ σ', sWhile c body fuel σ = .ok (.ret (res m)) σ' ∧ Fin σ') ∧
      ((∀ n t, Tm f s0 n t → S t = false) → ∃ k fo σ', P k fo [] σ' ∧ sWhile c body fuel σ = .ok .next σ') := by
  have ok : ∀ n t, Tm f s0 n t → okS y t := by
    intro n
    induction n with
    | zero => intro t h; rw [show t = s0 from h]; exact hs0
    | succ n ih =>
      rintro t ⟨u, hu, ht⟩
      exact hf n u t (ih u hu) ht
  have key : ∀ {k : Nat} {fo : List (Stt × Nat)} {lv : List Stt}, LevOk (Tm f s0) k fo lv → fo.length ≤ 4608 ∧ ∀ t ∈ lv, okS y t := fun h => by
    refine ⟨?_, fun t ht => ok _ t ((h.mem t).mp ht).1⟩
    have := few hy h.nd (fun t ht => by
      obtain ⟨d, hd⟩ := mem_lk ht
      exact ok _ t ((h.val t d).mp hd).2.1)
    simpa using this
  have wh := sWhile_inv (c := c) (body := body) (fun μ σ => ∃ (k : Nat) (fo : List (Stt × Nat)) (lv : List Stt), LevOk (Tm f s0) k fo lv ∧ lv.Nodup ∧ P k fo lv σ ∧ (∀ n t, n < k → Tm f s0 n t → S t = false) ∧ μ = (4608 - fo.length) + (if lv = [] then 0 else 1) ∧ k + (if lv = [] then 0 else 1) ≤ fo.length)
    (fun o => (∃ m σ', Mn (fun n => ∃ t, Tm f s0 n t ∧ S t = true) m ∧ o = .ok (.ret (res m)) σ' ∧ Fin σ') ∨ ((∀ n t, Tm f s0 n t → S t = false) ∧ ∃ k fo σ', P k fo [] σ' ∧ o = .ok .next σ')) (by
      rintro μ σ ⟨k, fo, lv, lo, lnd, hp, hno, rfl, hkl⟩
      obtain ⟨fl, hlv⟩ := key lo
      have ll := few hy lnd hlv
      refine ⟨_, _, hc k fo lv σ hp, ?_⟩
      by_cases hl : lv = []
      · subst hl
        refine .inl ⟨rfl, .inr ⟨fun n t ht => ?_, k, fo, σ, hp, rfl⟩⟩
        cases hS : S t with
        | false => rfl
        | true =>
          obtain ⟨j, hj, q⟩ := Mn.ex (P := fun n => Tm f s0 n t) ht
          rcases Nat.lt_or_ge j k with z | z
          · rw [hno j t z q.1] at hS; cases hS
          · have := tm_end mono lo (j - k) t
            rw [show k + (j - k) = j by omega] at this
            exact absurd q this
      · refine .inr ⟨by simpa using hl, ?_⟩
        rw [if_neg hl] at hkl
        obtain ⟨b1, b2⟩ := hb k fo lv σ hp hlv ll fl (by omega)
        by_cases hS : ∃ t ∈ lv, S t = true
        · obtain ⟨σ', h1, h2⟩ := b1 hS
          obtain ⟨t, ht, hSt⟩ := hS
          exact .inr ⟨res k, σ', h1, .inl ⟨k, σ', ⟨⟨t, ((lo.mem t).mp ht).1, hSt⟩, fun j hj ⟨u, hu, hSu⟩ => by rw [hno j u hj hu] at hSu; cases hSu⟩, rfl, h2⟩⟩
        · have hS' : ∀ t ∈ lv, S t = false := fun t ht => by
            cases q : S t with
            | false => rfl
            | true => exact absurd ⟨t, ht, q⟩ hS
          obtain ⟨σ', h1, h2⟩ := b2 hS'
          have ao := addOk_fold (k + 1) fo (lv.flatMap (f k))
          have lo' := tm_step mono lo ao
          have fl' := (key lo').1
          have kl : ((lv.flatMap (f k)).foldl (addL (k + 1)) (fo, [])).1.length = fo.length + ((lv.flatMap (f k)).foldl (addL (k + 1)) (fo, [])).2.length := by
            have := congrArg List.length ao.keys
            simpa using this
          refine .inl ⟨σ', _, h1, ?_, k + 1, _, _, lo', ao.nd, h2, fun n t hn ht => ?_, rfl, ?_⟩
          · rw [if_neg hl]
            split
            · omega
            · rename_i hne
              have := List.length_pos_iff.mpr hne
              omega
          · rcases Nat.lt_or_ge n k with z | z
            · exact hno n t z ht
            · have hnk : n = k := by omega
              subst hnk
              obtain ⟨j, hj, q⟩ := Mn.ex (P := fun n => Tm f s0 n t) ht
              rcases Nat.lt_or_ge j n with z | z
              · exact hno j t z q.1
              · have : j = n := by omega
                subst this
                exact hS' t ((lo.mem t).mpr q)
          · split
            · omega
            · rename_i hne
              have := List.length_pos_iff.mpr hne
              omega)
  have r := wh fuel _ σ (by unfold fuel; simp) ⟨0, [(s0, 0)], [s0], tm_init f s0, by simp, h0, fun n t hn => absurd hn (by omega), rfl, by simp⟩
  constructor
  · intro m hm
    rcases r with ⟨m', σ', h1, h2, h3⟩ | ⟨h1, _⟩
    · rw [hm.uniq h1]
      exact ⟨σ', h2, h3⟩
    · obtain ⟨t, ht, hS⟩ := hm.1
      rw [h1 m t ht] at hS
      cases hS
  · intro hno
    rcases r with ⟨m', σ', h1, h2, h3⟩ | ⟨_, h2⟩
    · obtain ⟨t, ht, hS⟩ := h1.1
      rw [hno m' t ht] at hS
      cases hS
    · exact h2

/-! ### loads set down, earliest -/
open Classical in
noncomputable def fst (P : Nat → Prop) : Option Nat := if h : ∃ n, Mn P n then some (Classical.choose h) else none
theorem fst_iff {P : Nat → Prop} {d : Nat} : fst P = some d ↔ Mn P d := by
  unfold fst
  split
  · rename_i h
    have := Classical.choose_spec h
    constructor
    · intro e; cases e; exact this
    · intro m; rw [this.uniq m]
  · rename_i h
    constructor
    · intro e; cases e
    · intro m; exact absurd ⟨d, m⟩ h
theorem fst_none {P : Nat → Prop} : fst P = none ↔ ∀ n, ¬ P n := by
  constructor
  · intro h n hp
    obtain ⟨m, _, q⟩ := Mn.ex hp
    rw [fst_iff.mpr q] at h
    cases h
  · intro h
    cases q : fst P with
    | none => rfl
    | some d => exact absurd (fst_iff.mp q).1 (h d)
def trS (_ : Nat) : D := .bl true
theorem dPut_trS (l : List (Stt × Nat)) (t : Stt) (n : Nat) : dPut (dE stD trS l) (stD t) (.bl true) = dE stD trS (pu l t n) := dPut_E encS' trS t n l
def sd1 (c c' : Option Int) : List Int := match c, c' with
  | some k, none => [k]
  | _, _ => []
def sdn (s t : Stt) : List Int := sd1 s.a t.a ++ sd1 s.b t.b
theorem r_set_down (E : Ec) (s t : Stt) : F_set_down E [.pure (stD s), .pure (stD t)] = .ok (.own (.lst ((sdn s t).map .int))) [.pure (stD s), .pure (stD t)] := by
  have e : ∀ (q0 q1 : Option S) (a b c d : Option Int), goComp [3, 4] (.tup [3, 4]) (t0_set_down E) (x1_set_down E) [.tup [oD a, oD c], .tup [oD b, oD d]] [] [q0, q1, some (.pure (.lst [.tup [oD a, oD c], .tup [oD b, oD d]])), none, none] = .ok ((sd1 a c ++ sd1 b d).map .int) [q0, q1, some (.pure (.lst [.tup [oD a, oD c], .tup [oD b, oD d]])), none, none] := by
    intro q0 q1 a b c d
    cases a <;> cases b <;> cases c <;> cases d <;> rfl
  have e := e (some (.pure (stD s))) (some (.pure (stD t))) s.a s.b t.a t.b
  simp [F_set_down, m_set_down, sSeq, sSkip, sPut, sIf, sRet, sRaise, sDo, sUnpack, sPar, eRs, puts, sSet, mbind, mok, eVar, eC, getD, e1, e2, e2v, eItems, eTup, eLst, tB, tNot, tAnd, tOr, eAnd, eOr, eNot, eIf, getI, eChain, asD, view, slotVw, frz, fix, put, eIn, eOpt, eSlice, eM, isS, isL, eFstr, eCall, eArgs, toA, argsS, argS, argIx, giveBack, runF, startF, toArg, backF, backArg, leaveR, bindT_name, bindT_tup, setAll, iD, iRange1_eq, iRange2, eAppend, isMl, isMo, pyIsi, isTy, b2, pySub', pyIxT, pyIxL, pyLen_t, pyLen_l, pyTuple, scrAt, eScrNil, eScrLen, eScrList, eScrIx, List.mapIdx_cons, List.replicate, sx2, sx3, eComp, wipeS, e, sdn]
theorem in_lints (k : Int) (ly : List Int) : pyIn (.d (.lst (ly.map .int))) (.int k) = some (decide (k ∈ ly)) := by
  simp only [pyIn]
  rw [if_pos (by simp [D.dep]), in_ints]
theorem er_in (E : Ec) (y : Y) (k : Int) (n : Nat) (fo : List (Stt × Nat)) (la : List Stt) (s : Stt) (r : Rw) (q3 q7 : Option S) (hz : fo.length < 1000000) (hl : la.length < 1000000) :
    (decide (k ∈ sdn s r.2) = true → b0_earliest E [some (.pure (yD y)), some (.pure (.int k)), some (.mob none (.dct (dE stD trS fo))), q3, some (.pure (natD (n))), some (.mob none (.lst (la.map stD))), some (.pure (stD (s))), q7, some (.pure (stD (r.2)))] = .ok (.ret (.pure (natD n))) [some (.pure (yD y)), some (.pure (.int k)), some (.mob none (.dct (dE stD trS fo))), q3, some (.pure (natD (n))), some (.mob none (.lst (la.map stD))), some (.pure (stD (s))), q7, some (.pure (stD (r.2)))]) ∧
    (decide (k ∈ sdn s r.2) = false → b0_earliest E [some (.pure (yD y)), some (.pure (.int k)), some (.mob none (.dct (dE stD trS fo))), q3, some (.pure (natD (n))), some (.mob none (.lst (la.map stD))), some (.pure (stD (s))), q7, some (.pure (stD (r.2)))] = .ok .next [some (.pure (yD y)), some (.pure (.int k)), some (.mob none (.dct (dE stD trS (addL n (fo, la) r.2).1))), q3, some (.pure (natD (n))), some (.mob none (.lst ((addL n (fo, la) r.2).2.map stD))), some (.pure (stD (s))), q7, some (.pure (stD (r.2)))]) := by
  have sd := r_set_down E s r.2
  have il := in_lints k (sdn s r.2)
  have z1 : (dE stD trS fo).length < 16777216 := by simp [dE]; omega
  have z2 : la.length < 16777216 := by omega
  constructor
  · intro h
    rw [h] at il
    simp [b0_earliest, sSeq, sSkip, sPut, sIf, sRet, sRaise, sDo, sUnpack, sPar, eRs, puts, sSet, mbind, mok, eVar, eC, getD, e1, e2, e2v, eItems, eTup, eLst, tB, tNot, tAnd, tOr, eAnd, eOr, eNot, eIf, getI, eChain, asD, view, slotVw, frz, fix, put, eIn, eOpt, eSlice, eM, isS, isL, eFstr, eCall, eArgs, toA, argsS, argS, argIx, giveBack, runF, startF, toArg, backF, backArg, leaveR, bindT_name, bindT_tup, setAll, iD, iRange1_eq, iRange2, eAppend, isMl, isMo, pyIsi, isTy, b2, pySub', pyIxT, pyIxL, pyLen_t, pyLen_l, pyTuple, scrAt, eScrNil, eScrLen, eScrList, eScrIx, List.mapIdx_cons, List.replicate, sd, il]
  · intro h
    rw [h] at il
    unfold addL
    cases hq : lk fo r.2 with
    | some d => simp [b0_earliest, sSeq, sSkip, sPut, sIf, sRet, sRaise, sDo, sUnpack, sPar, eRs, puts, sSet, mbind, mok, eVar, eC, getD, e1, e2, e2v, eItems, eTup, eLst, tB, tNot, tAnd, tOr, eAnd, eOr, eNot, eIf, getI, eChain, asD, view, slotVw, frz, fix, put, eIn, eOpt, eSlice, eM, isS, isL, eFstr, eCall, eArgs, toA, argsS, argS, argIx, giveBack, runF, startF, toArg, backF, backArg, leaveR, bindT_name, bindT_tup, setAll, iD, iRange1_eq, iRange2, eAppend, isMl, isMo, pyIsi, isTy, b2, pySub', pyIxT, pyIxL, pyLen_t, pyLen_l, pyTuple, scrAt, eScrNil, eScrLen, eScrList, eScrIx, List.mapIdx_cons, List.replicate, sd, il, keyFor, encS'.ok, dGet_E encS', hq, show pyIn (.kv (.dct (dE stD trS fo))) (stD r.2) = some true by simp [pyIn, keyFor, encS'.ok, dGet_E encS', hq]]
    | none =>
      have pn := pu_new (v := n) hq
      have dp := dPut_trS fo r.2 n
      rw [pn] at dp
      simp [b0_earliest, sSeq, sSkip, sPut, sIf, sRet, sRaise, sDo, sUnpack, sPar, eRs, puts, sSet, mbind, mok, eVar, eC, getD, e1, e2, e2v, eItems, eTup, eLst, tB, tNot, tAnd, tOr, eAnd, eOr, eNot, eIf, getI, eChain, asD, view, slotVw, frz, fix, put, eIn, eOpt, eSlice, eM, isS, isL, eFstr, eCall, eArgs, toA, argsS, argS, argIx, giveBack, runF, startF, toArg, backF, backArg, leaveR, bindT_name, bindT_tup, setAll, iD, iRange1_eq, iRange2, eAppend, isMl, isMo, pyIsi, isTy, b2, pySub', pyIxT, pyIxL, pyLen_t, pyLen_l, pyTuple, scrAt, eScrNil, eScrLen, eScrList, eScrIx, List.mapIdx_cons, List.replicate, sd, il, encS'.ok, show pyIn (.kv (.dct (dE stD trS fo))) (stD r.2) = some false by simp [pyIn, keyFor, encS'.ok, dGet_E encS', hq], zLine, z1, z2, dp]

def erS (y : Y) (k : Int) (t : Stt) : Bool := (nx y t).any fun r => decide (k ∈ sdn t r.2)
noncomputable def er (y : Y) (k : Int) : Option Nat := (fst fun n => ∃ t, Tm (fun _ => sc y) (begS y) n t ∧ erS y k t = true).map (· + 1)
theorem any_iff {α : Type} {p : α → Bool} {l : List α} : (l.any p = true ↔ ∃ x ∈ l, p x = true) ∧ (l.any p = false ↔ ∀ x ∈ l, p x = false) := by simp
theorem addG_all (k : Nat) (rs : List Rw) (a : Fl) : rs.foldl (fun a r => addL k a r.2) a = (rs.map (·.2)).foldl (addL k) a := by rw [List.foldl_map]
theorem er_mid (E : Ec) (y : Y) (hy : okY y) (k : Int) (n : Nat) (fo : List (Stt × Nat)) (la : List Stt) (s : Stt) (hs : okS y s) (q3 q7 q8 : Option S) (hz : fo.length < 900000) (hl : la.length < 900000) :
    (erS y k s = true → ∃ σ2, b1_earliest E [some (.pure (yD y)), some (.pure (.int k)), some (.mob none (.dct (dE stD trS fo))), q3, some (.pure (natD (n))), some (.mob none (.lst (la.map stD))), some (.pure (stD (s))), q7, q8] = .ok (.ret (.pure (natD n))) σ2 ∧ σ2[0]? = some (some (.pure (yD y))) ∧ σ2[1]? = some (some (.pure (.int k)))) ∧
    (erS y k s = false → ∃ w7 w8, b1_earliest E [some (.pure (yD y)), some (.pure (.int k)), some (.mob none (.dct (dE stD trS fo))), q3, some (.pure (natD (n))), some (.mob none (.lst (la.map stD))), some (.pure (stD (s))), q7, q8] = .ok .next [some (.pure (yD y)), some (.pure (.int k)), some (.mob none (.dct (dE stD trS ((sc y s).foldl (addL n) (fo, la)).1))), q3, some (.pure (natD (n))), some (.mob none (.lst (((sc y s).foldl (addL n) (fo, la)).2.map stD))), some (.pure (stD (s))), w7, w8]) := by
  have nl := nx_len hy hs
  have nx := r_nexts E y hy s hs
  obtain ⟨h1, h2⟩ := for_gen (tg := .tup [7, 8]) (b := b0_earliest E) rowD (fun (a : Fl) σ => ∃ w7 w8, σ = [some (.pure (yD y)), some (.pure (.int k)), some (.mob none (.dct (dE stD trS a.1))), q3, some (.pure (natD (n))), some (.mob none (.lst (a.2.map stD))), some (.pure (stD (s))), w7, w8]) (fun r => decide (k ∈ sdn s r.2)) (fun a r => addL n a r.2) (.pure (natD n)) (fun σ2 => σ2[0]? = some (some (.pure (yD y))) ∧ σ2[1]? = some (some (.pure (.int k)))) (DL.nx y s) (fo, la) [some (.pure (yD y)), some (.pure (.int k)), some (.mob none (.dct (dE stD trS fo))), q3, some (.pure (natD (n))), some (.mob none (.lst (la.map stD))), some (.pure (stD (s))), q7, q8] ⟨q7, q8, rfl⟩ (by
    rintro pre r post e σ ⟨w7, w8, rfl⟩
    have hp : pre.length ≤ 36 := by
      have : (DL.nx y s).length = pre.length + (post.length + 1) := by rw [e]; simp
      omega
    have fl := addF_len n (pre.map (·.2)) (fo, la)
    rw [← addG_all] at fl
    simp only [List.length_map] at fl
    obtain ⟨i1, i2⟩ := er_in E y k n (pre.foldl (fun a r => addL n a r.2) (fo, la)).1 (pre.foldl (fun a r => addL n a r.2) (fo, la)).2 s r q3 (some (.pure (pkD r.1))) (by omega) (by omega)
    exact ⟨_, bind_row _ _ _ _, fun h => ⟨_, i1 h, rfl, rfl⟩, fun h => ⟨_, i2 h, _, _, rfl⟩⟩)
  constructor
  · intro h
    obtain ⟨σ2, h3, h4⟩ := h1 (any_iff.1.mp h)
    exact ⟨σ2, by simp [b1_earliest, sSeq, sSkip, sPut, sIf, sRet, sRaise, sDo, sUnpack, sPar, eRs, puts, sSet, mbind, mok, eVar, eC, getD, e1, e2, e2v, eItems, eTup, eLst, tB, tNot, tAnd, tOr, eAnd, eOr, eNot, eIf, getI, eChain, asD, view, slotVw, frz, fix, put, eIn, eOpt, eSlice, eM, isS, isL, eFstr, eCall, eArgs, toA, argsS, argS, argIx, giveBack, runF, startF, toArg, backF, backArg, leaveR, bindT_name, bindT_tup, setAll, iD, iRange1_eq, iRange2, eAppend, isMl, isMo, pyIsi, isTy, b2, pySub', pyIxT, pyIxL, pyLen_t, pyLen_l, pyTuple, scrAt, eScrNil, eScrLen, eScrList, eScrIx, List.mapIdx_cons, List.replicate, sFor, nx, h3], h4⟩
  · intro h
    obtain ⟨σ2, h3, w7, w8, rfl⟩ := h2 (any_iff.2.mp h)
    refine ⟨w7, w8, ?_⟩
    rw [addG_all, show (DL.nx y s).map (·.2) = sc y s from rfl] at h3
    simp [b1_earliest, sSeq, sSkip, sPut, sIf, sRet, sRaise, sDo, sUnpack, sPar, eRs, puts, sSet, mbind, mok, eVar, eC, getD, e1, e2, e2v, eItems, eTup, eLst, tB, tNot, tAnd, tOr, eAnd, eOr, eNot, eIf, getI, eChain, asD, view, slotVw, frz, fix, put, eIn, eOpt, eSlice, eM, isS, isL, eFstr, eCall, eArgs, toA, argsS, argS, argIx, giveBack, runF, startF, toArg, backF, backArg, leaveR, bindT_name, bindT_tup, setAll, iD, iRange1_eq, iRange2, eAppend, isMl, isMo, pyIsi, isTy, b2, pySub', pyIxT, pyIxL, pyLen_t, pyLen_l, pyTuple, scrAt, eScrNil, eScrLen, eScrList, eScrIx, List.mapIdx_cons, List.replicate, sFor, nx, h3]
theorem sc_len {y : Y} (hy : okY y) {s : Stt} (hs : okS y s) : (sc y s).length ≤ 36 := by
  have := nx_len hy hs
  simpa [sc] using this
theorem flat_sc_len {y : Y} (f : Stt → List Stt) : ∀ l : List Stt, (∀ t ∈ l, (f t).length ≤ 36) → (l.flatMap f).length ≤ 36 * l.length
  | [], _ => by simp
  | t :: l, h => by
    have h1 := h t List.mem_cons_self
    have h2 := flat_sc_len (y := y) f l fun x hx => h x (List.mem_cons_of_mem _ hx)
    simp only [List.flatMap_cons, List.length_append, List.length_cons]
    omega
theorem er_lev (E : Ec) (y : Y) (hy : okY y) (k : Int) (n : Nat) (fo : List (Stt × Nat)) (lv : List Stt) (q3 q4 q5 q6 q7 q8 : Option S) (hq : q3 = some (.mob none (.lst (lv.map stD))) ∨ q3 = some (.pure (.lst (lv.map stD)))) (hlv : ∀ t ∈ lv, okS y t) (hl : lv.length ≤ 4608) (hz : fo.length ≤ 4608) :
    ((∃ t ∈ lv, erS y k t = true) → ∃ σ', w3_earliest E [some (.pure (yD y)), some (.pure (.int k)), some (.mob none (.dct (dE stD trS fo))), q3, some (.pure (natD (n))), q5, q6, q7, q8] = .ok (.ret (.pure (natD (n + 1)))) σ' ∧ σ'[0]? = some (some (.pure (yD y))) ∧ σ'[1]? = some (some (.pure (.int k)))) ∧
    ((∀ t ∈ lv, erS y k t = false) → ∃ w5 w6 w7 w8, w3_earliest E [some (.pure (yD y)), some (.pure (.int k)), some (.mob none (.dct (dE stD trS fo))), q3, some (.pure (natD (n))), q5, q6, q7, q8] = .ok .next [some (.pure (yD y)), some (.pure (.int k)), some (.mob none (.dct (dE stD trS ((lv.flatMap (sc y)).foldl (addL (n + 1)) (fo, [])).1))), some (.pure (.lst (((lv.flatMap (sc y)).foldl (addL (n + 1)) (fo, [])).2.map stD))), some (.pure (natD (n + 1))), w5, w6, w7, w8]) := by
  have na := nat_add1 n
  obtain ⟨h1, h2⟩ := for_gen (tg := .name 6) (b := b1_earliest E) stD (fun (a : Fl) σ => ∃ w6 w7 w8, σ = [some (.pure (yD y)), some (.pure (.int k)), some (.mob none (.dct (dE stD trS a.1))), some (.pure (.lst (lv.map stD))), some (.pure (natD (n + 1))), some (.mob none (.lst (a.2.map stD))), w6, w7, w8]) (erS y k) (fun a t => (sc y t).foldl (addL (n + 1)) a) (.pure (natD (n + 1))) (fun σ2 => σ2[0]? = some (some (.pure (yD y))) ∧ σ2[1]? = some (some (.pure (.int k)))) lv (fo, []) [some (.pure (yD y)), some (.pure (.int k)), some (.mob none (.dct (dE stD trS fo))), some (.pure (.lst (lv.map stD))), some (.pure (natD (n + 1))), some (.mob none (.lst ([]))), q6, q7, q8] ⟨q6, q7, q8, rfl⟩ (by
    rintro pre t post e σ ⟨w6, w7, w8, rfl⟩
    have hp : pre.length ≤ lv.length := by rw [e]; simp
    have fl := addF_len (n + 1) (pre.flatMap (sc y)) (fo, [])
    rw [← flat_fold] at fl
    have bl := flat_sc_len (y := y) (sc y) pre fun x hx => sc_len hy (hlv x (by rw [e]; simp [hx]))
    simp only [List.length_nil] at fl
    obtain ⟨i1, i2⟩ := er_mid E y hy k (n + 1) (pre.foldl (fun a t => (sc y t).foldl (addL (n + 1)) a) (fo, [])).1 (pre.foldl (fun a t => (sc y t).foldl (addL (n + 1)) a) (fo, [])).2 t (hlv t (by rw [e]; simp)) (some (.pure (.lst (lv.map stD)))) w7 w8 (by omega) (by omega)
    refine ⟨_, rfl, fun h => i1 h, fun h => ?_⟩
    obtain ⟨v7, v8, h3⟩ := i2 h
    exact ⟨_, h3, _, _, _, rfl⟩)
  constructor
  · intro h
    obtain ⟨σ2, h3, h4⟩ := h1 h
    refine ⟨σ2, ?_, h4⟩
    rcases hq with rfl | rfl <;> simp [w3_earliest, sSeq, sSkip, sPut, sIf, sRet, sRaise, sDo, sUnpack, sPar, eRs, puts, sSet, mbind, mok, eVar, eC, getD, e1, e2, e2v, eItems, eTup, eLst, tB, tNot, tAnd, tOr, eAnd, eOr, eNot, eIf, getI, eChain, asD, view, slotVw, frz, fix, put, eIn, eOpt, eSlice, eM, isS, isL, eFstr, eCall, eArgs, toA, argsS, argS, argIx, giveBack, runF, startF, toArg, backF, backArg, leaveR, bindT_name, bindT_tup, setAll, iD, iRange1_eq, iRange2, eAppend, isMl, isMo, pyIsi, isTy, b2, pySub', pyIxT, pyIxL, pyLen_t, pyLen_l, pyTuple, scrAt, eScrNil, eScrLen, eScrList, eScrIx, List.mapIdx_cons, List.replicate, sFor, ↓na, h3]
  · intro h
    obtain ⟨σ2, h3, w6, w7, w8, rfl⟩ := h2 h
    rw [flat_fold] at h3
    refine ⟨some (.pure (.lst (((lv.flatMap (sc y)).foldl (addL (n + 1)) (fo, [])).2.map stD))), w6, w7, w8, ?_⟩
    rcases hq with rfl | rfl <;> simp [w3_earliest, sSeq, sSkip, sPut, sIf, sRet, sRaise, sDo, sUnpack, sPar, eRs, puts, sSet, mbind, mok, eVar, eC, getD, e1, e2, e2v, eItems, eTup, eLst, tB, tNot, tAnd, tOr, eAnd, eOr, eNot, eIf, getI, eChain, asD, view, slotVw, frz, fix, put, eIn, eOpt, eSlice, eM, isS, isL, eFstr, eCall, eArgs, toA, argsS, argS, argIx, giveBack, runF, startF, toArg, backF, backArg, leaveR, bindT_name, bindT_tup, setAll, iD, iRange1_eq, iRange2, eAppend, isMl, isMo, pyIsi, isTy, b2, pySub', pyIxT, pyIxL, pyLen_t, pyLen_l, pyTuple, scrAt, eScrNil, eScrLen, eScrList, eScrIx, List.mapIdx_cons, List.replicate, sFor, ↓na, h3]
theorem r_earliest (E : Ec) (y : Y) (hy : okY y) (k : Int) (hk : IxOk y k) : F_earliest E [.pure (yD y), .pure (.int k)] = .ok (.pure (oN (er y k))) [.pure (yD y), .pure (.int k)] := by
  obtain ⟨h1, h2⟩ := bfs_gen hy (c := c2_earliest E) (body := w3_earliest E) (fun n fo lv σ => ∃ q3 q5 q6 q7 q8 : Option S, (q3 = some (.mob none (.lst (lv.map stD))) ∨ q3 = some (.pure (.lst (lv.map stD)))) ∧ σ = [some (.pure (yD y)), some (.pure (.int k)), some (.mob none (.dct (dE stD trS fo))), q3, some (.pure (natD (n))), q5, q6, q7, q8]) (fun _ => sc y) (erS y k) (fun n => .pure (natD (n + 1))) (fun σ2 => σ2[0]? = some (some (.pure (yD y))) ∧ σ2[1]? = some (some (.pure (.int k)))) (begS y) (okS_beg hy)
    (fun _ _ _ hu ht => sc_ok hu ht) (fun _ _ _ h => h) (by
      rintro n fo lv σ ⟨q3, q5, q6, q7, q8, hq, rfl⟩
      rcases hq with rfl | rfl <;> simp [c2_earliest, sSeq, sSkip, sPut, sIf, sRet, sRaise, sDo, sUnpack, sPar, eRs, puts, sSet, mbind, mok, eVar, eC, getD, e1, e2, e2v, eItems, eTup, eLst, tB, tNot, tAnd, tOr, eAnd, eOr, eNot, eIf, getI, eChain, asD, view, slotVw, frz, fix, put, eIn, eOpt, eSlice, eM, isS, isL, eFstr, eCall, eArgs, toA, argsS, argS, argIx, giveBack, runF, startF, toArg, backF, backArg, leaveR, bindT_name, bindT_tup, setAll, iD, iRange1_eq, iRange2, eAppend, isMl, isMo, pyIsi, isTy, b2, pySub', pyIxT, pyIxL, pyLen_t, pyLen_l, pyTuple, scrAt, eScrNil, eScrLen, eScrList, eScrIx, List.mapIdx_cons, List.replicate, ne_nil]) (by
      rintro n fo lv σ ⟨q3, q5, q6, q7, q8, hq, rfl⟩ hlv hl hz _
      obtain ⟨i1, i2⟩ := er_lev E y hy k n fo lv q3 none q5 q6 q7 q8 hq hlv hl hz
      refine ⟨i1, fun h => ?_⟩
      obtain ⟨w5, w6, w7, w8, h3⟩ := i2 h
      exact ⟨_, h3, _, _, _, _, _, .inr rfl, rfl⟩)
    [some (.pure (yD y)), some (.pure (.int k)), some (.mob none (.dct (dE stD trS [(begS y, 0)]))), some (.mob none (.lst ([stD (begS y)]))), some (.pure (natD (0))), none, none, none, none] ⟨_, _, _, _, _, .inl rfl, rfl⟩
  have cl := r_check_load E y hy k hk
  have bg := r_begin E y hy
  have e0 : dE stD trS [(begS y, 0)] = [(stD (begS y), .bl true)] := rfl
  have n0 : natD 0 = .int 0 := rfl
  rw [e0, n0] at h1 h2
  cases hq : fst fun n => ∃ t, Tm (fun _ => sc y) (begS y) n t ∧ erS y k t = true with
  | none =>
    obtain ⟨n, fo, σ', ⟨q3, q5, q6, q7, q8, _, rfl⟩, h⟩ := h2 fun n t ht => by
      cases z : erS y k t with
      | false => rfl
      | true => exact absurd ⟨t, ht, z⟩ (fst_none.mp hq n)
    have e : er y k = none := by unfold er; rw [hq]; rfl
    rw [e]
    simp [F_earliest, m_earliest, sSeq, sSkip, sPut, sIf, sRet, sRaise, sDo, sUnpack, sPar, eRs, puts, sSet, mbind, mok, eVar, eC, getD, e1, e2, e2v, eItems, eTup, eLst, tB, tNot, tAnd, tOr, eAnd, eOr, eNot, eIf, getI, eChain, asD, view, slotVw, frz, fix, put, eIn, eOpt, eSlice, eM, isS, isL, eFstr, eCall, eArgs, toA, argsS, argS, argIx, giveBack, runF, startF, toArg, backF, backArg, leaveR, bindT_name, bindT_tup, setAll, iD, iRange1_eq, iRange2, eAppend, isMl, isMo, pyIsi, isTy, b2, pySub', pyIxT, pyIxL, pyLen_t, pyLen_l, pyTuple, scrAt, eScrNil, eScrLen, eScrList, eScrIx, List.mapIdx_cons, List.replicate, cl, bg, eDict1, encS'.ok, h, oN]
  | some m =>
    obtain ⟨σ', h, f0, f1⟩ := h1 m (fst_iff.mp hq)
    have e : er y k = some (m + 1) := by unfold er; rw [hq]; rfl
    rw [e]
    simp [F_earliest, m_earliest, sSeq, sSkip, sPut, sIf, sRet, sRaise, sDo, sUnpack, sPar, eRs, puts, sSet, mbind, mok, eVar, eC, getD, e1, e2, e2v, eItems, eTup, eLst, tB, tNot, tAnd, tOr, eAnd, eOr, eNot, eIf, getI, eChain, asD, view, slotVw, frz, fix, put, eIn, eOpt, eSlice, eM, isS, isL, eFstr, eCall, eArgs, toA, argsS, argS, argIx, giveBack, runF, startF, toArg, backF, backArg, leaveR, bindT_name, bindT_tup, setAll, iD, iRange1_eq, iRange2, eAppend, isMl, isMo, pyIsi, isTy, b2, pySub', pyIxT, pyIxL, pyLen_t, pyLen_l, pyTuple, scrAt, eScrNil, eScrLen, eScrList, eScrIx, List.mapIdx_cons, List.replicate, cl, bg, eDict1, encS'.ok, h, f0, f1]
    rfl

/-! ### dues -/
def DuA (q : S) (ds : List Int) : Prop := q = .pure (.tup (ds.map .int)) ∨ q = .pure (.lst (ds.map .int)) ∨ q = .mob (some 1) (.lst (ds.map .int))
def dueOf (ds : List Int) (k : Int) : Int := ds.getD k.toNat 0
def dGood (ds : List Int) (n : Nat) (k : Int) : Bool := decide ((n : Int) ≤ dueOf ds k)
def gdR (ds : List Int) (n : Nat) (s : Stt) (r : Rw) : Bool := (sdn s r.2).all (dGood ds n)
def fdu (y : Y) (ds : List Int) (n : Nat) (u : Stt) : List Stt := ((nx y u).filter (gdR ds (n + 1) u)).map (·.2)
theorem fdu_sub {y : Y} {ds : List Int} {n : Nat} {u t : Stt} (h : t ∈ fdu y ds n u) : t ∈ sc y u := by
  obtain ⟨r, hr, rfl⟩ := List.mem_map.mp h
  exact List.mem_map.mpr ⟨r, (List.mem_filter.mp hr).1, rfl⟩
theorem fdu_mono {y : Y} {ds : List Int} (n : Nat) (u t : Stt) (h : t ∈ fdu y ds (n + 1) u) : t ∈ fdu y ds n u := by
  obtain ⟨r, hr, rfl⟩ := List.mem_map.mp h
  obtain ⟨h1, h2⟩ := List.mem_filter.mp hr
  refine List.mem_map.mpr ⟨r, List.mem_filter.mpr ⟨h1, ?_⟩, rfl⟩
  unfold gdR at h2 ⊢
  rw [List.all_eq_true] at h2 ⊢
  intro k hk
  have := h2 k hk
  unfold dGood at this ⊢
  simp only [decide_eq_true_eq] at this ⊢
  omega
def Meets0 (y : Y) (ds : List Int) : Prop := ∃ n t, Tm (fdu y ds) (begS y) n t ∧ isDone t = true
open Classical in
noncomputable def mts (y : Y) (ds : List Int) : Bool := decide (Meets0 y ds)
theorem sdn_ix {y : Y} {s t : Stt} (hs : okS y s) {k : Int} (h : k ∈ sdn s t) : IxOk y k := by
  unfold sdn at h
  rcases List.mem_append.mp h with h | h
  · unfold sd1 at h
    split at h
    · rename_i j e _
      rw [List.mem_singleton.mp h]
      exact hs.ca j e
    · cases h
  · unfold sd1 at h
    split at h
    · rename_i j e _
      rw [List.mem_singleton.mp h]
      exact hs.cb j e
    · cases h
theorem bools_bl : ∀ l : List Bool, boolsD (l.map .bl) = some l
  | [] => rfl
  | b :: l => by simp [boolsD, bools_bl l]
theorem dm_in (E : Ec) (y : Y) (dq : S) (ds : List Int) (hd : DuA dq ds) (hdl : ds.length = y.ld.length) (n : Nat) (fo : List (Stt × Nat)) (la : List Stt) (s : Stt) (hs : okS y s) (r : Rw) (q3 q7 q9 : Option S) (hz : fo.length < 1000000) (hl : la.length < 1000000) :
    ∃ w9, b1_does_meet E [some (.pure (yD y)), some dq, some (.mob none (.dct (dE stD trS fo))), q3, some (.pure (natD (n))), some (.mob none (.lst (la.map stD))), some (.pure (stD (s))), q7, some (.pure (stD (r.2))), q9, none] = .ok .next [some (.pure (yD y)), some dq, some (.mob none (.dct (dE stD trS (addG n (gdR ds n s) (fo, la) r).1))), q3, some (.pure (natD (n))), some (.mob none (.lst ((addG n (gdR ds n s) (fo, la) r).2.map stD))), some (.pure (stD (s))), q7, some (.pure (stD (r.2))), w9, none] := by
  have sd := r_set_down E s r.2
  have z1 : (dE stD trS fo).length < 16777216 := by simp [dE]; omega
  have z2 : la.length < 16777216 := by omega
  have cm := comp_mT (vs := [10]) (tg := .name 10) (e := x0_does_meet E) (σ := [some (.pure (yD y)), some dq, some (.mob none (.dct (dE stD trS fo))), q3, some (.pure (natD (n))), some (.mob none (.lst (la.map stD))), some (.pure (stD (s))), q7, some (.pure (stD (r.2))), q9, none]) D.int (fun k => .bl (dGood ds n k)) (sdn s r.2) (fun k hk => by
    have ik := sdn_ix hs hk
    unfold IxOk at ik
    have ix : ixOf k ds.length = some k.toNat := ix_int (by omega)
    have hkl : k.toNat < ds.length := by omega
    have gt : (ds.map D.int)[k.toNat]? = some (.int (dueOf ds k)) := by simp [dueOf, hkl]
    have ge : pyGe (.int (dueOf ds k)) (natD n) = some (.pure (.bl (dGood ds n k))) := rfl
    refine ⟨_, [some (.pure (yD y)), some dq, some (.mob none (.dct (dE stD trS fo))), q3, some (.pure (natD (n))), some (.mob none (.lst (la.map stD))), some (.pure (stD (s))), q7, some (.pure (stD (r.2))), q9, some (.pure (.int k))], rfl, ?_, rfl⟩
    have h1 : k.toNat < ds.length := hkl
    rcases hd with rfl | rfl | rfl <;> simp [x0_does_meet, sSeq, sSkip, sPut, sIf, sRet, sRaise, sDo, sUnpack, sPar, eRs, puts, sSet, mbind, mok, eVar, eC, getD, e1, e2, e2v, eItems, eTup, eLst, tB, tNot, tAnd, tOr, eAnd, eOr, eNot, eIf, getI, eChain, asD, view, slotVw, frz, fix, put, eIn, eOpt, eSlice, eM, isS, isL, eFstr, eCall, eArgs, toA, argsS, argS, argIx, giveBack, runF, startF, toArg, backF, backArg, leaveR, bindT_name, bindT_tup, setAll, iD, iRange1_eq, iRange2, eAppend, isMl, isMo, pyIsi, isTy, b2, pySub', pyIxT, pyIxL, pyLen_t, pyLen_l, pyTuple, scrAt, eScrNil, eScrLen, eScrList, eScrIx, List.mapIdx_cons, List.replicate, ix, hkl, ← List.getD_eq_getElem?_getD, show ds[k.toNat] = dueOf ds k by simp [dueOf, hkl], ↓ge]) (by
      have : (sdn s r.2).length ≤ 2 := by
        unfold sdn sd1
        rw [List.length_append]
        split <;> split <;> simp
      simp [zLine]
      omega)
  have al : pyAll (.lst ((sdn s r.2).map fun k => .bl (dGood ds n k))) = some (.pure (.bl (gdR ds n s r))) := by
    have : (sdn s r.2).map (fun k => D.bl (dGood ds n k)) = ((sdn s r.2).map (dGood ds n)).map D.bl := by simp
    rw [this]
    simp only [pyAll, bools_bl]
    simp [gdR, List.all_map]
  refine ⟨some (.pure (.bl (gdR ds n s r))), ?_⟩
  unfold addG
  cases hg : gdR ds n s r with
  | false =>
    rw [hg] at al
    simp [b1_does_meet, sSeq, sSkip, sPut, sIf, sRet, sRaise, sDo, sUnpack, sPar, eRs, puts, sSet, mbind, mok, eVar, eC, getD, e1, e2, e2v, eItems, eTup, eLst, tB, tNot, tAnd, tOr, eAnd, eOr, eNot, eIf, getI, eChain, asD, view, slotVw, frz, fix, put, eIn, eOpt, eSlice, eM, isS, isL, eFstr, eCall, eArgs, toA, argsS, argS, argIx, giveBack, runF, startF, toArg, backF, backArg, leaveR, bindT_name, bindT_tup, setAll, iD, iRange1_eq, iRange2, eAppend, isMl, isMo, pyIsi, isTy, b2, pySub', pyIxT, pyIxL, pyLen_t, pyLen_l, pyTuple, scrAt, eScrNil, eScrLen, eScrList, eScrIx, List.mapIdx_cons, List.replicate, sd, eComp, wipeS, cm, al]
  | true =>
    rw [hg] at al
    simp only [if_true]
    unfold addL
    cases hq : lk fo r.2 with
    | some d => simp [b1_does_meet, sSeq, sSkip, sPut, sIf, sRet, sRaise, sDo, sUnpack, sPar, eRs, puts, sSet, mbind, mok, eVar, eC, getD, e1, e2, e2v, eItems, eTup, eLst, tB, tNot, tAnd, tOr, eAnd, eOr, eNot, eIf, getI, eChain, asD, view, slotVw, frz, fix, put, eIn, eOpt, eSlice, eM, isS, isL, eFstr, eCall, eArgs, toA, argsS, argS, argIx, giveBack, runF, startF, toArg, backF, backArg, leaveR, bindT_name, bindT_tup, setAll, iD, iRange1_eq, iRange2, eAppend, isMl, isMo, pyIsi, isTy, b2, pySub', pyIxT, pyIxL, pyLen_t, pyLen_l, pyTuple, scrAt, eScrNil, eScrLen, eScrList, eScrIx, List.mapIdx_cons, List.replicate, sd, eComp, wipeS, cm, al, show pyIn (.kv (.dct (dE stD trS fo))) (stD r.2) = some true by simp [pyIn, keyFor, encS'.ok, dGet_E encS', hq]]
    | none =>
      have pn := pu_new (v := n) hq
      have dp := dPut_trS fo r.2 n
      rw [pn] at dp
      simp [b1_does_meet, sSeq, sSkip, sPut, sIf, sRet, sRaise, sDo, sUnpack, sPar, eRs, puts, sSet, mbind, mok, eVar, eC, getD, e1, e2, e2v, eItems, eTup, eLst, tB, tNot, tAnd, tOr, eAnd, eOr, eNot, eIf, getI, eChain, asD, view, slotVw, frz, fix, put, eIn, eOpt, eSlice, eM, isS, isL, eFstr, eCall, eArgs, toA, argsS, argS, argIx, giveBack, runF, startF, toArg, backF, backArg, leaveR, bindT_name, bindT_tup, setAll, iD, iRange1_eq, iRange2, eAppend, isMl, isMo, pyIsi, isTy, b2, pySub', pyIxT, pyIxL, pyLen_t, pyLen_l, pyTuple, scrAt, eScrNil, eScrLen, eScrList, eScrIx, List.mapIdx_cons, List.replicate, sd, eComp, wipeS, cm, al, encS'.ok, show pyIn (.kv (.dct (dE stD trS fo))) (stD r.2) = some false by simp [pyIn, keyFor, encS'.ok, dGet_E encS', hq], zLine, z1, z2, dp]
theorem dm_mid (E : Ec) (y : Y) (hy : okY y) (dq : S) (ds : List Int) (hd : DuA dq ds) (hdl : ds.length = y.ld.length) (n : Nat) (fo : List (Stt × Nat)) (la : List Stt) (s : Stt) (hs : okS y s) (q3 q7 q8 q9 : Option S) (hz : fo.length < 900000) (hl : la.length < 900000) :
    (isDone s = true → ∃ σ2, b2_does_meet E [some (.pure (yD y)), some dq, some (.mob none (.dct (dE stD trS fo))), q3, some (.pure (natD (n))), some (.mob none (.lst (la.map stD))), some (.pure (stD (s))), q7, q8, q9, none] = .ok (.ret (.pure (.bl true))) σ2 ∧ σ2[0]? = some (some (.pure (yD y))) ∧ σ2[1]? = some (some dq)) ∧
    (isDone s = false → ∃ w7 w8 w9, b2_does_meet E [some (.pure (yD y)), some dq, some (.mob none (.dct (dE stD trS fo))), q3, some (.pure (natD (n))), some (.mob none (.lst (la.map stD))), some (.pure (stD (s))), q7, q8, q9, none] = .ok .next [some (.pure (yD y)), some dq, some (.mob none (.dct (dE stD trS ((((nx y s).filter (gdR ds n s)).map (·.2)).foldl (addL n) (fo, la)).1))), q3, some (.pure (natD (n))), some (.mob none (.lst (((((nx y s).filter (gdR ds n s)).map (·.2)).foldl (addL n) (fo, la)).2.map stD))), some (.pure (stD (s))), w7, w8, w9, none]) := by
  have fi := r_is_finished E s
  have nl := nx_len hy hs
  have nx := r_nexts E y hy s hs
  constructor
  · intro h
    rw [h] at fi
    exact ⟨_, by simp [b2_does_meet, sSeq, sSkip, sPut, sIf, sRet, sRaise, sDo, sUnpack, sPar, eRs, puts, sSet, mbind, mok, eVar, eC, getD, e1, e2, e2v, eItems, eTup, eLst, tB, tNot, tAnd, tOr, eAnd, eOr, eNot, eIf, getI, eChain, asD, view, slotVw, frz, fix, put, eIn, eOpt, eSlice, eM, isS, isL, eFstr, eCall, eArgs, toA, argsS, argS, argIx, giveBack, runF, startF, toArg, backF, backArg, leaveR, bindT_name, bindT_tup, setAll, iD, iRange1_eq, iRange2, eAppend, isMl, isMo, pyIsi, isTy, b2, pySub', pyIxT, pyIxL, pyLen_t, pyLen_l, pyTuple, scrAt, eScrNil, eScrLen, eScrList, eScrIx, List.mapIdx_cons, List.replicate, fi]; rfl, rfl, rfl⟩
  · intro h
    rw [h] at fi
    obtain ⟨_, h2⟩ := for_gen (tg := .tup [7, 8]) (b := b1_does_meet E) rowD (fun (a : Fl) σ => ∃ w7 w8 w9, σ = [some (.pure (yD y)), some dq, some (.mob none (.dct (dE stD trS a.1))), q3, some (.pure (natD (n))), some (.mob none (.lst (a.2.map stD))), some (.pure (stD (s))), w7, w8, w9, none]) (fun _ => false) (addG n (gdR ds n s)) (.pure .non) (fun _ => True) (DL.nx y s) (fo, la) [some (.pure (yD y)), some dq, some (.mob none (.dct (dE stD trS fo))), q3, some (.pure (natD (n))), some (.mob none (.lst (la.map stD))), some (.pure (stD (s))), q7, q8, q9, none] ⟨q7, q8, q9, rfl⟩ (by
      rintro pre r post e σ ⟨w7, w8, w9, rfl⟩
      have hp : pre.length ≤ 36 := by
        have : (DL.nx y s).length = pre.length + (post.length + 1) := by rw [e]; simp
        omega
      have fl := addF_len n ((pre.filter (gdR ds n s)).map (·.2)) (fo, la)
      rw [← addG_fold] at fl
      simp only [List.length_map] at fl
      have ff := List.length_filter_le (gdR ds n s) pre
      obtain ⟨v9, i2⟩ := dm_in E y dq ds hd hdl n (pre.foldl (addG n (gdR ds n s)) (fo, la)).1 (pre.foldl (addG n (gdR ds n s)) (fo, la)).2 s hs r q3 (some (.pure (pkD r.1))) w9 (by omega) (by omega)
      exact ⟨_, bind_row _ _ _ _, fun h => by simp at h, fun _ => ⟨_, i2, _, _, _, rfl⟩⟩)
    obtain ⟨σ2, h3, w7, w8, w9, rfl⟩ := h2 (by simp)
    rw [addG_fold] at h3
    exact ⟨w7, w8, w9, by simp [b2_does_meet, sSeq, sSkip, sPut, sIf, sRet, sRaise, sDo, sUnpack, sPar, eRs, puts, sSet, mbind, mok, eVar, eC, getD, e1, e2, e2v, eItems, eTup, eLst, tB, tNot, tAnd, tOr, eAnd, eOr, eNot, eIf, getI, eChain, asD, view, slotVw, frz, fix, put, eIn, eOpt, eSlice, eM, isS, isL, eFstr, eCall, eArgs, toA, argsS, argS, argIx, giveBack, runF, startF, toArg, backF, backArg, leaveR, bindT_name, bindT_tup, setAll, iD, iRange1_eq, iRange2, eAppend, isMl, isMo, pyIsi, isTy, b2, pySub', pyIxT, pyIxL, pyLen_t, pyLen_l, pyTuple, scrAt, eScrNil, eScrLen, eScrList, eScrIx, List.mapIdx_cons, List.replicate, fi, sFor, nx, h3]⟩
theorem dm_lev (E : Ec) (y : Y) (hy : okY y) (dq : S) (ds : List Int) (hd : DuA dq ds) (hdl : ds.length = y.ld.length) (n : Nat) (fo : List (Stt × Nat)) (lv : List Stt) (q3 q5 q6 q7 q8 q9 : Option S) (hq : q3 = some (.mob none (.lst (lv.map stD))) ∨ q3 = some (.pure (.lst (lv.map stD)))) (hlv : ∀ t ∈ lv, okS y t) (hl : lv.length ≤ 4608) (hz : fo.length ≤ 4608) :
    ((∃ t ∈ lv, isDone t = true) → ∃ σ', w4_does_meet E [some (.pure (yD y)), some dq, some (.mob none (.dct (dE stD trS fo))), q3, some (.pure (natD (n))), q5, q6, q7, q8, q9, none] = .ok (.ret (.pure (.bl true))) σ' ∧ σ'[0]? = some (some (.pure (yD y))) ∧ σ'[1]? = some (some dq)) ∧
    ((∀ t ∈ lv, isDone t = false) → ∃ w5 w6 w7 w8 w9, w4_does_meet E [some (.pure (yD y)), some dq, some (.mob none (.dct (dE stD trS fo))), q3, some (.pure (natD (n))), q5, q6, q7, q8, q9, none] = .ok .next [some (.pure (yD y)), some dq, some (.mob none (.dct (dE stD trS ((lv.flatMap (fdu y ds n)).foldl (addL (n + 1)) (fo, [])).1))), some (.pure (.lst (((lv.flatMap (fdu y ds n)).foldl (addL (n + 1)) (fo, [])).2.map stD))), some (.pure (natD (n + 1))), w5, w6, w7, w8, w9, none]) := by
  have na := nat_add1 n
  obtain ⟨h1, h2⟩ := for_gen (tg := .name 6) (b := b2_does_meet E) stD (fun (a : Fl) σ => ∃ w6 w7 w8 w9, σ = [some (.pure (yD y)), some dq, some (.mob none (.dct (dE stD trS a.1))), some (.pure (.lst (lv.map stD))), some (.pure (natD (n + 1))), some (.mob none (.lst (a.2.map stD))), w6, w7, w8, w9, none]) isDone (fun a t => (fdu y ds n t).foldl (addL (n + 1)) a) (.pure (.bl true)) (fun σ2 => σ2[0]? = some (some (.pure (yD y))) ∧ σ2[1]? = some (some dq)) lv (fo, []) [some (.pure (yD y)), some dq, some (.mob none (.dct (dE stD trS fo))), some (.pure (.lst (lv.map stD))), some (.pure (natD (n + 1))), some (.mob none (.lst ([]))), q6, q7, q8, q9, none] ⟨q6, q7, q8, q9, rfl⟩ (by
    rintro pre t post e σ ⟨w6, w7, w8, w9, rfl⟩
    have hp : pre.length ≤ lv.length := by rw [e]; simp
    have fl := addF_len (n + 1) (pre.flatMap (fdu y ds n)) (fo, [])
    rw [← flat_fold] at fl
    have bl := flat_sc_len (y := y) (fdu y ds n) pre fun x hx => by
      have := nx_len hy (hlv x (by rw [e]; simp [hx]))
      have ff := List.length_filter_le (gdR ds (n + 1) x) (nx y x)
      simp only [fdu, List.length_map]
      omega
    simp only [List.length_nil] at fl
    obtain ⟨i1, i2⟩ := dm_mid E y hy dq ds hd hdl (n + 1) (pre.foldl (fun a t => (fdu y ds n t).foldl (addL (n + 1)) a) (fo, [])).1 (pre.foldl (fun a t => (fdu y ds n t).foldl (addL (n + 1)) a) (fo, [])).2 t (hlv t (by rw [e]; simp)) (some (.pure (.lst (lv.map stD)))) w7 w8 w9 (by omega) (by omega)
    refine ⟨_, rfl, fun h => i1 h, fun h => ?_⟩
    obtain ⟨v7, v8, v9, h3⟩ := i2 h
    exact ⟨_, h3, _, _, _, _, rfl⟩)
  constructor
  · intro h
    obtain ⟨σ2, h3, h4⟩ := h1 h
    refine ⟨σ2, ?_, h4⟩
    rcases hq with rfl | rfl <;> simp [w4_does_meet, sSeq, sSkip, sPut, sIf, sRet, sRaise, sDo, sUnpack, sPar, eRs, puts, sSet, mbind, mok, eVar, eC, getD, e1, e2, e2v, eItems, eTup, eLst, tB, tNot, tAnd, tOr, eAnd, eOr, eNot, eIf, getI, eChain, asD, view, slotVw, frz, fix, put, eIn, eOpt, eSlice, eM, isS, isL, eFstr, eCall, eArgs, toA, argsS, argS, argIx, giveBack, runF, startF, toArg, backF, backArg, leaveR, bindT_name, bindT_tup, setAll, iD, iRange1_eq, iRange2, eAppend, isMl, isMo, pyIsi, isTy, b2, pySub', pyIxT, pyIxL, pyLen_t, pyLen_l, pyTuple, scrAt, eScrNil, eScrLen, eScrList, eScrIx, List.mapIdx_cons, List.replicate, sFor, ↓na, h3]
  · intro h
    obtain ⟨σ2, h3, w6, w7, w8, w9, rfl⟩ := h2 h
    rw [flat_fold] at h3
    refine ⟨some (.pure (.lst (((lv.flatMap (fdu y ds n)).foldl (addL (n + 1)) (fo, [])).2.map stD))), w6, w7, w8, w9, ?_⟩
    rcases hq with rfl | rfl <;> simp [w4_does_meet, sSeq, sSkip, sPut, sIf, sRet, sRaise, sDo, sUnpack, sPar, eRs, puts, sSet, mbind, mok, eVar, eC, getD, e1, e2, e2v, eItems, eTup, eLst, tB, tNot, tAnd, tOr, eAnd, eOr, eNot, eIf, getI, eChain, asD, view, slotVw, frz, fix, put, eIn, eOpt, eSlice, eM, isS, isL, eFstr, eCall, eArgs, toA, argsS, argS, argIx, giveBack, runF, startF, toArg, backF, backArg, leaveR, bindT_name, bindT_tup, setAll, iD, iRange1_eq, iRange2, eAppend, isMl, isMo, pyIsi, isTy, b2, pySub', pyIxT, pyIxL, pyLen_t, pyLen_l, pyTuple, scrAt, eScrNil, eScrLen, eScrList, eScrIx, List.mapIdx_cons, List.replicate, sFor, ↓na, h3]
theorem dm_core (E : Ec) (y : Y) (hy : okY y) (dq : S) (ds : List Int) (hd : DuA dq ds) (hdl : ds.length = y.ld.length) : (mts y ds = true ∧ ∃ σ', sWhile (c3_does_meet E) (w4_does_meet E) fuel [some (.pure (yD y)), some dq, some (.mob none (.dct [(stD (begS y), .bl true)])), some (.mob none (.lst [stD (begS y)])), some (.pure (.int 0)), none, none, none, none, none, none] = .ok (.ret (.pure (.bl true))) σ' ∧ σ'[0]? = some (some (.pure (yD y))) ∧ σ'[1]? = some (some dq)) ∨
    (mts y ds = false ∧ ∃ σ', sWhile (c3_does_meet E) (w4_does_meet E) fuel [some (.pure (yD y)), some dq, some (.mob none (.dct [(stD (begS y), .bl true)])), some (.mob none (.lst [stD (begS y)])), some (.pure (.int 0)), none, none, none, none, none, none] = .ok .next σ' ∧ σ'[0]? = some (some (.pure (yD y))) ∧ σ'[1]? = some (some dq)) := by
  obtain ⟨h1, h2⟩ := bfs_gen hy (c := c3_does_meet E) (body := w4_does_meet E) (fun n fo lv σ => ∃ q3 q5 q6 q7 q8 q9 : Option S, (q3 = some (.mob none (.lst (lv.map stD))) ∨ q3 = some (.pure (.lst (lv.map stD)))) ∧ σ = [some (.pure (yD y)), some dq, some (.mob none (.dct (dE stD trS fo))), q3, some (.pure (natD (n))), q5, q6, q7, q8, q9, none]) (fdu y ds) isDone (fun n => .pure (.bl true)) (fun σ2 => σ2[0]? = some (some (.pure (yD y))) ∧ σ2[1]? = some (some dq)) (begS y) (okS_beg hy)
    (fun _ _ _ hu ht => sc_ok hu (fdu_sub ht)) fdu_mono (by
      rintro n fo lv σ ⟨q3, q5, q6, q7, q8, q9, hq, rfl⟩
      rcases hq with rfl | rfl <;> simp [c3_does_meet, sSeq, sSkip, sPut, sIf, sRet, sRaise, sDo, sUnpack, sPar, eRs, puts, sSet, mbind, mok, eVar, eC, getD, e1, e2, e2v, eItems, eTup, eLst, tB, tNot, tAnd, tOr, eAnd, eOr, eNot, eIf, getI, eChain, asD, view, slotVw, frz, fix, put, eIn, eOpt, eSlice, eM, isS, isL, eFstr, eCall, eArgs, toA, argsS, argS, argIx, giveBack, runF, startF, toArg, backF, backArg, leaveR, bindT_name, bindT_tup, setAll, iD, iRange1_eq, iRange2, eAppend, isMl, isMo, pyIsi, isTy, b2, pySub', pyIxT, pyIxL, pyLen_t, pyLen_l, pyTuple, scrAt, eScrNil, eScrLen, eScrList, eScrIx, List.mapIdx_cons, List.replicate, ne_nil]) (by
      rintro n fo lv σ ⟨q3, q5, q6, q7, q8, q9, hq, rfl⟩ hlv hl hz _
      obtain ⟨i1, i2⟩ := dm_lev E y hy dq ds hd hdl n fo lv q3 q5 q6 q7 q8 q9 hq hlv hl hz
      refine ⟨i1, fun h => ?_⟩
      obtain ⟨w5, w6, w7, w8, w9, h3⟩ := i2 h
      exact ⟨_, h3, _, _, _, _, _, _, .inr rfl, rfl⟩)
    [some (.pure (yD y)), some dq, some (.mob none (.dct (dE stD trS [(begS y, 0)]))), some (.mob none (.lst ([stD (begS y)]))), some (.pure (natD (0))), none, none, none, none, none, none] ⟨_, _, _, _, _, _, .inl rfl, rfl⟩
  have e0 : dE stD trS [(begS y, 0)] = [(stD (begS y), .bl true)] := rfl
  have n0 : natD 0 = .int 0 := rfl
  rw [e0, n0] at h1 h2
  by_cases hm : Meets0 y ds
  · obtain ⟨n, t, ht, hdn⟩ := hm
    obtain ⟨m, _, hmn⟩ := Mn.ex (P := fun n => ∃ t, Tm (fdu y ds) (begS y) n t ∧ isDone t = true) ⟨t, ht, hdn⟩
    obtain ⟨σ', h, f0, f1⟩ := h1 m hmn
    have e : mts y ds = true := by unfold mts; simp; exact ⟨n, t, ht, hdn⟩
    exact .inl ⟨e, σ', h, f0, f1⟩
  · obtain ⟨n, fo, σ', ⟨q3, q5, q6, q7, q8, q9, _, rfl⟩, h⟩ := h2 fun n t ht => by
      cases z : isDone t with
      | false => rfl
      | true => exact absurd ⟨n, t, ht, z⟩ hm
    have e : mts y ds = false := by unfold mts; simp [hm]
    exact .inr ⟨e, _, h, rfl, rfl⟩
theorem r_does_meet (E : Ec) (y : Y) (hy : okY y) (d : D) (ds : List Int) (hd : d = .tup (ds.map .int) ∨ d = .lst (ds.map .int)) (hdl : ds.length = y.ld.length) : F_does_meet E [.pure (yD y), .pure d] = .ok (.pure (.bl (mts y ds))) [.pure (yD y), .pure d] := by
  have bg := r_begin E y hy
  rcases dm_core E y hy (.pure d) ds (by
    rcases hd with rfl | rfl
    · exact .inl rfl
    · exact .inr (.inl rfl)) hdl with ⟨e, σ', h, f0, f1⟩ | ⟨e, σ', h, f0, f1⟩
  · rw [e]
    simp [F_does_meet, m_does_meet, sSeq, sSkip, sPut, sIf, sRet, sRaise, sDo, sUnpack, sPar, eRs, puts, sSet, mbind, mok, eVar, eC, getD, e1, e2, e2v, eItems, eTup, eLst, tB, tNot, tAnd, tOr, eAnd, eOr, eNot, eIf, getI, eChain, asD, view, slotVw, frz, fix, put, eIn, eOpt, eSlice, eM, isS, isL, eFstr, eCall, eArgs, toA, argsS, argS, argIx, giveBack, runF, startF, toArg, backF, backArg, leaveR, bindT_name, bindT_tup, setAll, iD, iRange1_eq, iRange2, eAppend, isMl, isMo, pyIsi, isTy, b2, pySub', pyIxT, pyIxL, pyLen_t, pyLen_l, pyTuple, scrAt, eScrNil, eScrLen, eScrList, eScrIx, List.mapIdx_cons, List.replicate, bg, eDict1, encS'.ok, h, f0, f1]
  · rw [e]
    simp [F_does_meet, m_does_meet, sSeq, sSkip, sPut, sIf, sRet, sRaise, sDo, sUnpack, sPar, eRs, puts, sSet, mbind, mok, eVar, eC, getD, e1, e2, e2v, eItems, eTup, eLst, tB, tNot, tAnd, tOr, eAnd, eOr, eNot, eIf, getI, eChain, asD, view, slotVw, frz, fix, put, eIn, eOpt, eSlice, eM, isS, isL, eFstr, eCall, eArgs, toA, argsS, argS, argIx, giveBack, runF, startF, toArg, backF, backArg, leaveR, bindT_name, bindT_tup, setAll, iD, iRange1_eq, iRange2, eAppend, isMl, isMo, pyIsi, isTy, b2, pySub', pyIxT, pyIxL, pyLen_t, pyLen_l, pyTuple, scrAt, eScrNil, eScrLen, eScrList, eScrIx, List.mapIdx_cons, List.replicate, bg, eDict1, encS'.ok, h, f0, f1]
theorem r_does_meetM (E : Ec) (y : Y) (hy : okY y) (ds : List Int) (hdl : ds.length = y.ld.length) : F_does_meet E [.pure (yD y), .mob none (.lst (ds.map .int))] = .ok (.pure (.bl (mts y ds))) [.pure (yD y), .mob none (.lst (ds.map .int))] := by
  have bg := r_begin E y hy
  rcases dm_core E y hy (.mob (some 1) (.lst (ds.map .int))) ds (.inr (.inr rfl)) hdl with ⟨e, σ', h, f0, f1⟩ | ⟨e, σ', h, f0, f1⟩
  · rw [e]
    simp [F_does_meet, m_does_meet, sSeq, sSkip, sPut, sIf, sRet, sRaise, sDo, sUnpack, sPar, eRs, puts, sSet, mbind, mok, eVar, eC, getD, e1, e2, e2v, eItems, eTup, eLst, tB, tNot, tAnd, tOr, eAnd, eOr, eNot, eIf, getI, eChain, asD, view, slotVw, frz, fix, put, eIn, eOpt, eSlice, eM, isS, isL, eFstr, eCall, eArgs, toA, argsS, argS, argIx, giveBack, runF, startF, toArg, backF, backArg, leaveR, bindT_name, bindT_tup, setAll, iD, iRange1_eq, iRange2, eAppend, isMl, isMo, pyIsi, isTy, b2, pySub', pyIxT, pyIxL, pyLen_t, pyLen_l, pyTuple, scrAt, eScrNil, eScrLen, eScrList, eScrIx, List.mapIdx_cons, List.replicate, bg, eDict1, encS'.ok, h, f0, f1]
  · rw [e]
    simp [F_does_meet, m_does_meet, sSeq, sSkip, sPut, sIf, sRet, sRaise, sDo, sUnpack, sPar, eRs, puts, sSet, mbind, mok, eVar, eC, getD, e1, e2, e2v, eItems, eTup, eLst, tB, tNot, tAnd, tOr, eAnd, eOr, eNot, eIf, getI, eChain, asD, view, slotVw, frz, fix, put, eIn, eOpt, eSlice, eM, isS, isL, eFstr, eCall, eArgs, toA, argsS, argS, argIx, giveBack, runF, startF, toArg, backF, backArg, leaveR, bindT_name, bindT_tup, setAll, iD, iRange1_eq, iRange2, eAppend, isMl, isMo, pyIsi, isTy, b2, pySub', pyIxT, pyIxL, pyLen_t, pyLen_l, pyTuple, scrAt, eScrNil, eScrLen, eScrList, eScrIx, List.mapIdx_cons, List.replicate, bg, eDict1, encS'.ok, h, f0, f1]

/-! ### can_meet, least_dues -/
theorem tm_mono {f g : Nat → Stt → List Stt} (h : ∀ n u t, t ∈ f n u → t ∈ g n u) {s0 : Stt} : ∀ {n : Nat} {t : Stt}, Tm f s0 n t → Tm g s0 n t
  | 0, _, e => e
  | n + 1, t, ⟨u, hu, ht⟩ => ⟨u, tm_mono h hu, h n u t ht⟩
theorem mts_iff {y : Y} {ds : List Int} : mts y ds = true ↔ Meets0 y ds := by unfold mts; simp
theorem mts_mono {y : Y} {ds es : List Int} (h : ∀ k, dueOf ds k ≤ dueOf es k) (hm : mts y ds = true) : mts y es = true := by
  rw [mts_iff] at hm ⊢
  obtain ⟨n, t, w, d⟩ := hm
  refine ⟨n, t, tm_mono (fun n u t ht => ?_) w, d⟩
  obtain ⟨r, hr, rfl⟩ := List.mem_map.mp ht
  obtain ⟨h1, h2⟩ := List.mem_filter.mp hr
  refine List.mem_map.mpr ⟨r, List.mem_filter.mpr ⟨h1, ?_⟩, rfl⟩
  unfold gdR at h2 ⊢
  rw [List.all_eq_true] at h2 ⊢
  intro k hk
  have := h2 k hk
  have hh := h k
  unfold dGood at this ⊢
  simp only [decide_eq_true_eq] at this ⊢
  omega
theorem due_set {ds : List Int} {i : Nat} {v w : Int} (h : v ≤ w) (k : Int) : dueOf (ds.set i v) k ≤ dueOf (ds.set i w) k := by
  unfold dueOf
  simp only [List.getD_eq_getElem?_getD, List.getElem?_set]
  by_cases e : i = k.toNat
  · rw [if_pos e, if_pos e]
    by_cases e2 : i < ds.length
    · simp [e2, h]
    · simp [e2]
  · rw [if_neg e, if_neg e]
    exact Int.le_refl _
theorem r_can_meet (E : Ec) (y : Y) (hy : okY y) (ds : List Int) (hdl : ds.length = y.ld.length) (hb : ∀ d ∈ ds, 0 ≤ d ∧ d ≤ 99) : F_can_meet E [.pure (yD y), .pure (.tup (ds.map .int))] = .ok (.pure (.bl (mts y ds))) [.pure (yD y), .pure (.tup (ds.map .int))] := by
  have l3 := hy.len
  have dm := r_does_meet E y hy (.tup (ds.map .int)) ds (.inl rfl) hdl
  have cm := comp_mT (vs := [2]) (tg := .name 2) (e := x0_can_meet E) (σ := [some (.pure (yD y)), some (.pure (.tup (ds.map .int))), none]) D.int (fun _ => .bl true) ds (fun d hd => by
    refine ⟨_, [some (.pure (yD y)), some (.pure (.tup (ds.map .int))), some (.pure (.int d))], rfl, ?_, rfl⟩
    have bt := btw_int E d 0 99 (hb d hd)
    simp [x0_can_meet, sSeq, sSkip, sPut, sIf, sRet, sRaise, sDo, sUnpack, sPar, eRs, puts, sSet, mbind, mok, eVar, eC, getD, e1, e2, e2v, eItems, eTup, eLst, tB, tNot, tAnd, tOr, eAnd, eOr, eNot, eIf, getI, eChain, asD, view, slotVw, frz, fix, put, eIn, eOpt, eSlice, eM, isS, isL, eFstr, eCall, eArgs, toA, argsS, argS, argIx, giveBack, runF, startF, toArg, backF, backArg, leaveR, bindT_name, bindT_tup, setAll, iD, iRange1_eq, iRange2, eAppend, isMl, isMo, pyIsi, isTy, b2, pySub', pyIxT, pyIxL, pyLen_t, pyLen_l, pyTuple, scrAt, eScrNil, eScrLen, eScrList, eScrIx, List.mapIdx_cons, List.replicate, bt]) (by simp [zLine]; omega)
  have al : pyAll (.lst (ds.map fun _ => .bl true)) = some (.pure (.bl true)) := by
    have : ds.map (fun _ => D.bl true) = (ds.map fun _ => true).map D.bl := by simp
    rw [this]
    simp only [pyAll, bools_bl]
    simp [List.all_map]
  have nl : pyNe (.int (ds.length : Int)) (.int (y.ld.length : Int)) = some (.pure (.bl false)) := by
    rw [hdl]
    exact neRefl (by simp [D.dep])
  simp [F_can_meet, m_can_meet, sSeq, sSkip, sPut, sIf, sRet, sRaise, sDo, sUnpack, sPar, eRs, puts, sSet, mbind, mok, eVar, eC, getD, e1, e2, e2v, eItems, eTup, eLst, tB, tNot, tAnd, tOr, eAnd, eOr, eNot, eIf, getI, eChain, asD, view, slotVw, frz, fix, put, eIn, eOpt, eSlice, eM, isS, isL, eFstr, eCall, eArgs, toA, argsS, argS, argIx, giveBack, runF, startF, toArg, backF, backArg, leaveR, bindT_name, bindT_tup, setAll, iD, iRange1_eq, iRange2, eAppend, isMl, isMo, pyIsi, isTy, b2, pySub', pyIxT, pyIxL, pyLen_t, pyLen_l, pyTuple, scrAt, eScrNil, eScrLen, eScrList, eScrIx, List.mapIdx_cons, List.replicate, r_check_yard E y hy, yix3, nl, eComp, wipeS, cm, al, dm]
noncomputable def ldV (y : Y) (ds : List Int) (i : Nat) : Nat := (fst fun v => mts y (ds.set i (v : Int)) = true).getD 0
theorem ldV_is {y : Y} {ds : List Int} {i v : Nat} (h1 : mts y (ds.set i (v : Int)) = true) (h2 : ∀ u : Nat, u < v → mts y (ds.set i (u : Int)) = false) : ldV y ds i = v := by
  unfold ldV
  rw [fst_iff.mpr (show Mn (fun v => mts y (ds.set i (v : Int)) = true) v from ⟨h1, fun m hm e => (Bool.eq_false_iff.mp (h2 m hm)) e⟩)]
  rfl
theorem set_cut (ds : List Int) (i : Nat) (v : Int) (h : i < ds.length) : ds.take i ++ v :: ds.drop (i + 1) = ds.set i v := by
  rw [List.set_eq_take_append_cons_drop, if_pos h]
def iL (ds : List Int) : List D := ds.map .int
theorem iL_len (ds : List Int) : (iL ds).length = ds.length := by simp [iL]
theorem ld_while (E : Ec) (y : Y) (hy : okY y) (ds : List Int) (hdl : ds.length = y.ld.length) (i : Nat) (hi : i < ds.length) (hb : 0 ≤ dueOf ds i ∧ dueOf ds i ≤ 99) (hm : mts y ds = true) (q4 : Option S) :
    ∃ w3 w4, sWhile (c0_least_dues E) (w1_least_dues E) fuel [some (.pure (yD y)), some (.mob none (.lst (iL ds))), some (.pure (natD i)), some (.pure (.int 0)), q4] = .ok .next [some (.pure (yD y)), some (.mob none (.lst (iL (ds.set i (ldV y ds i : Int))))), some (.pure (natD i)), w3, w4] ∧ mts y (ds.set i (ldV y ds i : Int)) = true ∧ (ldV y ds i : Int) ≤ dueOf ds i := by
  have l3 := hy.len
  have d0 : ds.set i (dueOf ds i) = ds := by
    unfold dueOf
    apply List.ext_getElem?
    intro j
    rw [List.getElem?_set]
    by_cases e : i = j
    · subst e
      simp [hi]
    · rw [if_neg e]
  refine sWhile_inv (c := c0_least_dues E) (body := w1_least_dues E) (fun μ σ => ∃ (lo hh : Int) (w4 : Option S), 0 ≤ lo ∧ lo ≤ hh ∧ hh ≤ dueOf ds i ∧ μ = (hh - lo).toNat ∧ mts y (ds.set i hh) = true ∧ (∀ u : Int, 0 ≤ u → u < lo → mts y (ds.set i u) = false) ∧ σ = [some (.pure (yD y)), some (.mob none (.lst (iL (ds.set i hh)))), some (.pure (natD i)), some (.pure (.int lo)), w4])
    (fun o => ∃ w3 w4, o = .ok .next [some (.pure (yD y)), some (.mob none (.lst (iL (ds.set i (ldV y ds i : Int))))), some (.pure (natD i)), w3, w4] ∧ mts y (ds.set i (ldV y ds i : Int)) = true ∧ (ldV y ds i : Int) ≤ dueOf ds i) ?_ fuel (dueOf ds i).toNat _ (by unfold fuel; omega) ?_
  · rintro μ σ ⟨lo, hh, w4, h0, h1, h1', rfl, h2, h3, rfl⟩
    have hl : (ds.set i hh).length = ds.length := List.length_set
    have ix : ixOf (i : Int) (ds.set i hh).length = some i := by rw [hl]; exact ix_nat hi
    have gt : (iL (ds.set i hh))[i]? = some (.int hh) := by simp [iL, hi]
    have ixg : pyIx (.lst (iL (ds.set i hh))) (natD i) = some (.int hh) := by
      show (match ixOf (i : Int) (iL (ds.set i hh)).length with | some k => (iL (ds.set i hh))[k]? | none => none) = _
      rw [iL_len, ix]
      exact gt
    have sb : pySub (.int hh) (.int lo) = some (.pure (.int (hh - lo))) := rfl
    have gtt : pyGt (.int (hh - lo)) (.int 0) = some (.pure (.bl (decide (0 < hh - lo)))) := rfl
    refine ⟨decide (0 < hh - lo), [some (.pure (yD y)), some (.mob none (.lst (iL (ds.set i hh)))), some (.pure (natD i)), some (.pure (.int lo)), w4], ?_, ?_⟩
    · simp [c0_least_dues, sSeq, sSkip, sPut, sIf, sRet, sRaise, sDo, sUnpack, sPar, eRs, puts, sSet, mbind, mok, eVar, eC, getD, e1, e2, e2v, eItems, eTup, eLst, tB, tNot, tAnd, tOr, eAnd, eOr, eNot, eIf, getI, eChain, asD, view, slotVw, frz, fix, put, eIn, eOpt, eSlice, eM, isS, isL, eFstr, eCall, eArgs, toA, argsS, argS, argIx, giveBack, runF, startF, toArg, backF, backArg, leaveR, bindT_name, bindT_tup, setAll, iD, iRange1_eq, iRange2, eAppend, isMl, isMo, pyIsi, isTy, b2, pySub', pyIxT, pyIxL, pyLen_t, pyLen_l, pyTuple, scrAt, eScrNil, eScrLen, eScrList, eScrIx, List.mapIdx_cons, List.replicate, ↓ixg, sb, gtt]
    · by_cases hlt : 0 < hh - lo
      · right
        refine ⟨by simp; omega, .inl ?_⟩
        have md : (lo + hh) / 2 < hh ∧ lo ≤ (lo + hh) / 2 := by omega
        generalize hmid : (lo + hh) / 2 = mid at md
        have ad : pyAdd (.int lo) (.int hh) = some (.pure (.int (lo + hh))) := rfl
        have dv : pyFdiv (.int (lo + hh)) (.int 2) = some (.pure (.int mid)) := by rw [← hmid]; rfl
        have s1 : pySlice (.lst (iL (ds.set i hh))) none (some (i : Int)) = some (.own (.lst (iL (ds.take i)))) := by
          show some (R.own (.lst (cut (iL (ds.set i hh)) none (some (i : Int))))) = _
          rw [cut_to2 _ (by omega)]
          unfold iL
          rw [← List.map_take, show ((i : Int)).toNat = i by omega, List.take_set_of_le (Nat.le_refl _)]
        have s2 : pySlice (.lst (iL (ds.set i hh))) (some ((i : Int) + 1)) none = some (.own (.lst (iL (ds.drop (i + 1))))) := by
          show some (R.own (.lst (cut (iL (ds.set i hh)) (some ((i : Int) + 1)) none))) = _
          rw [cut_from2 _ (by omega)]
          unfold iL
          rw [← List.map_drop, show ((i : Int) + 1).toNat = i + 1 by omega, List.drop_set_of_lt (by omega)]
        have i1 : pyAdd (natD i) (.int 1) = some (.pure (.int ((i : Int) + 1))) := rfl
        have a1 : pyAdd (.lst (iL (ds.take i))) (.lst [.int mid]) = some (.own (.lst (iL (ds.take i ++ [mid])))) := by
          show (if _ then _ else _) = _
          rw [if_pos (by simp [zLine, iL_len]; omega)]
          simp [iL]
        have a2 : pyAdd (.lst (iL (ds.take i ++ [mid]))) (.lst (iL (ds.drop (i + 1)))) = some (.own (.lst (iL (ds.set i mid)))) := by
          show (if _ then _ else _) = _
          rw [if_pos (by simp [zLine, iL_len]; omega)]
          unfold iL
          rw [← List.map_append, List.append_assoc, List.singleton_append, set_cut ds i mid hi]
        have dm := r_does_meet E y hy (.lst (iL (ds.set i mid))) (ds.set i mid) (.inr rfl) (by rw [List.length_set]; exact hdl)
        have fz : ∀ σ : Sl, True := fun _ => trivial
        cases hq : mts y (ds.set i mid) with
        | true =>
          rw [hq] at dm
          have ss : (ds.set i hh).set i mid = ds.set i mid := List.set_set ..
          refine ⟨[some (.pure (yD y)), some (.mob none (.lst (iL (ds.set i mid)))), some (.pure (natD i)), some (.pure (.int lo)), some (.pure (.int mid))], (mid - lo).toNat, ?_, by omega, lo, mid, _, h0, by omega, by omega, rfl, hq, h3, rfl⟩
          have ix2 : ixOf (i : Int) (iL (ds.set i hh)).length = some i := by rw [iL_len]; exact ix
          have st : (iL (ds.set i hh)).set i (.int mid) = iL (ds.set i mid) := by unfold iL; rw [← List.map_set, ss]
          simp only [natD] at *
          simp [w1_least_dues, sSeq, sSkip, sPut, sIf, sRet, sRaise, sDo, sUnpack, sPar, eRs, puts, sSet, mbind, mok, eVar, eC, getD, e1, e2, e2v, eItems, eTup, eLst, tB, tNot, tAnd, tOr, eAnd, eOr, eNot, eIf, getI, eChain, asD, view, slotVw, frz, fix, put, eIn, eOpt, eSlice, eM, isS, isL, eFstr, eCall, eArgs, toA, argsS, argS, argIx, giveBack, runF, startF, toArg, backF, backArg, leaveR, bindT_name, bindT_tup, setAll, iD, iRange1_eq, iRange2, eAppend, isMl, isMo, pyIsi, isTy, b2, pySub', pyIxT, pyIxL, pyLen_t, pyLen_l, pyTuple, scrAt, eScrNil, eScrLen, eScrList, eScrIx, List.mapIdx_cons, List.replicate, ↓ixg, ↓ad, ↓dv, ↓s1, ↓s2, ↓i1, ↓a1, ↓a2, dm, ix2, ↓st]
        | false =>
          rw [hq] at dm
          refine ⟨[some (.pure (yD y)), some (.mob none (.lst (iL (ds.set i hh)))), some (.pure (natD i)), some (.pure (.int (mid + 1))), some (.pure (.int mid))], (hh - (mid + 1)).toNat, ?_, by omega, mid + 1, hh, _, by omega, by omega, by omega, rfl, h2, fun u hu0 hu => ?_, rfl⟩
          · have m1 : pyAdd (.int mid) (.int 1) = some (.pure (.int (mid + 1))) := rfl
            simp only [natD] at *
            simp [w1_least_dues, sSeq, sSkip, sPut, sIf, sRet, sRaise, sDo, sUnpack, sPar, eRs, puts, sSet, mbind, mok, eVar, eC, getD, e1, e2, e2v, eItems, eTup, eLst, tB, tNot, tAnd, tOr, eAnd, eOr, eNot, eIf, getI, eChain, asD, view, slotVw, frz, fix, put, eIn, eOpt, eSlice, eM, isS, isL, eFstr, eCall, eArgs, toA, argsS, argS, argIx, giveBack, runF, startF, toArg, backF, backArg, leaveR, bindT_name, bindT_tup, setAll, iD, iRange1_eq, iRange2, eAppend, isMl, isMo, pyIsi, isTy, b2, pySub', pyIxT, pyIxL, pyLen_t, pyLen_l, pyTuple, scrAt, eScrNil, eScrLen, eScrList, eScrIx, List.mapIdx_cons, List.replicate, ↓ixg, ↓ad, ↓dv, ↓s1, ↓s2, ↓i1, ↓a1, ↓a2, dm, ↓m1]
          · cases hz : mts y (ds.set i u) with
            | false => rfl
            | true =>
              rw [mts_mono (due_set (by omega)) hz] at hq
              cases hq
      · left
        refine ⟨by simp; omega, ?_⟩
        have e : lo = hh := by omega
        subst e
        have hv : ldV y ds i = lo.toNat := ldV_is (by rw [show ((lo.toNat : Nat) : Int) = lo by omega]; exact h2) fun u hu => h3 u (by omega) (by omega)
        have hvi : (ldV y ds i : Int) = lo := by omega
        rw [hvi]
        exact ⟨_, _, rfl, h2, h1'⟩
  · exact ⟨0, dueOf ds i, q4, by omega, by omega, by omega, by omega, by rw [d0]; exact hm, fun u h1 h2 => by omega, by rw [d0]⟩

structure DsOk (y : Y) (ds : List Int) : Prop where
  len : ds.length = y.ld.length
  bd : ∀ d ∈ ds, 0 ≤ d ∧ d ≤ 99
  mt : mts y ds = true
noncomputable def ldStep (y : Y) (ds : List Int) (i : Nat) : List Int := ds.set i (ldV y ds i : Int)
noncomputable def ldu (y : Y) : Option (List Int) := if mts y (List.replicate y.ld.length 99) = true then some ((List.range y.ld.length).foldl (ldStep y) (List.replicate y.ld.length 99)) else none
def oT : Option (List Int) → D
  | none => .non
  | some ds => .tup (ds.map .int)
theorem DsOk.due {y : Y} {ds : List Int} (h : DsOk y ds) {i : Nat} (hi : i < ds.length) : 0 ≤ dueOf ds i ∧ dueOf ds i ≤ 99 := by
  have : dueOf ds i = ds[i] := by simp [dueOf, hi]
  rw [this]
  exact h.bd _ (List.getElem_mem _)
theorem due_self {ds : List Int} {i : Nat} (hi : i < ds.length) : ds.set i (dueOf ds i) = ds := by
  unfold dueOf
  apply List.ext_getElem?
  intro j
  rw [List.getElem?_set]
  by_cases e : i = j
  · subst e
    simp [hi]
  · rw [if_neg e]
theorem ldV_ok {y : Y} {ds : List Int} (h : DsOk y ds) {i : Nat} (hi : i < ds.length) : mts y (ds.set i (ldV y ds i : Int)) = true ∧ (ldV y ds i : Int) ≤ dueOf ds i ∧ ∀ u : Nat, u < ldV y ds i → mts y (ds.set i (u : Int)) = false := by
  have hb := h.due hi
  have hx : mts y (ds.set i (((dueOf ds i).toNat : Nat) : Int)) = true := by
    rw [show (((dueOf ds i).toNat : Nat) : Int) = dueOf ds i by omega, due_self hi]
    exact h.mt
  obtain ⟨m, hm, q⟩ := Mn.ex (P := fun v : Nat => mts y (ds.set i (v : Int)) = true) hx
  have e : ldV y ds i = m := ldV_is q.1 fun u hu => Bool.eq_false_iff.mpr (q.2 u hu)
  rw [e]
  exact ⟨q.1, by omega, fun u hu => Bool.eq_false_iff.mpr (q.2 u hu)⟩
theorem DsOk.step {y : Y} {ds : List Int} (h : DsOk y ds) {i : Nat} (hi : i < ds.length) : DsOk y (ldStep y ds i) := by
  obtain ⟨h1, h2, _⟩ := ldV_ok h hi
  have hb := h.due hi
  refine ⟨by unfold ldStep; rw [List.length_set]; exact h.len, fun d hd => ?_, h1⟩
  rcases List.mem_or_eq_of_mem_set hd with hd | hd
  · exact h.bd d hd
  · omega
theorem ld_fold {y : Y} {ds : List Int} (h : DsOk y ds) : ∀ n, n ≤ ds.length → DsOk y ((List.range n).foldl (ldStep y) ds)
  | 0, _ => h
  | n + 1, hn => by
    rw [List.range_succ, List.foldl_append]
    have ih := ld_fold h n (by omega)
    exact ih.step (by rw [ih.len, ← h.len]; omega)
theorem rep_flat (n : Nat) : (List.replicate n [D.int 99]).flatten = iL (List.replicate n 99) := by
  induction n with
  | zero => rfl
  | succ n ih => rw [List.replicate_succ, List.flatten_cons, ih, List.replicate_succ]; rfl
theorem mul_99 (n : Nat) (h : n ≤ 3) : pyMul (.lst [.int 99]) (.int (n : Int)) = some (.own (.lst (iL (List.replicate n 99)))) := by
  have hs : small63 (n : Int) = true := by unfold small63; simp; omega
  have hz : [D.int 99].length * ((n : Int)).toNat ≤ zLine := by
    rw [Int.toNat_natCast, List.length_singleton]
    unfold zLine
    omega
  simp only [pyMul]
  rw [if_pos ⟨hs, hz⟩, Int.toNat_natCast, rep_flat]
theorem ld_for (E : Ec) (y : Y) (hy : okY y) (ok0 : DsOk y (List.replicate y.ld.length 99)) : ∃ w2 w3 w4 : Option S, goFor (.name 2) (b2_least_dues E) ((List.range y.ld.length).map natD) [some (.pure (yD y)), some (.mob none (.lst (iL (List.replicate y.ld.length 99)))), none, none, none] = .ok .next [some (.pure (yD y)), some (.mob none (.lst (iL ((List.range y.ld.length).foldl (ldStep y) (List.replicate y.ld.length 99))))), w2, w3, w4] := by
  obtain ⟨σ', h1, w2, w3, w4, rfl⟩ := goFor_pre (tg := .name 2) (body := b2_least_dues E) natD (fun pre σ => ∃ w2 w3 w4 : Option S, σ = [some (.pure (yD y)), some (.mob none (.lst (iL (pre.foldl (ldStep y) (List.replicate y.ld.length 99))))), w2, w3, w4]) (List.range y.ld.length) (σ := [some (.pure (yD y)), some (.mob none (.lst (iL (List.replicate y.ld.length 99)))), none, none, none]) ⟨none, none, none, rfl⟩ (by
    rintro pre i post e σ ⟨w2, w3, w4, rfl⟩
    obtain ⟨rfl, hlt⟩ := range_split e
    have hpre : pre = List.range pre.length := by
      have := congrArg (List.take pre.length) e
      rw [List.take_left' rfl, List.take_range, Nat.min_eq_left (by omega)] at this
      exact this.symm
    have ok := ld_fold ok0 pre.length (by simp; omega)
    rw [← hpre] at ok
    have hi : pre.length < (pre.foldl (ldStep y) (List.replicate y.ld.length 99)).length := by rw [ok.len]; exact hlt
    obtain ⟨v3, v4, h, _, _⟩ := ld_while E y hy _ ok.len pre.length hi (ok.due hi) ok.mt w4
    refine ⟨_, _, rfl, .inl (show b2_least_dues E _ = .ok .next [some (.pure (yD y)), some (.mob none (.lst (iL ((pre.foldl (ldStep y) (List.replicate y.ld.length 99)).set pre.length (ldV y (pre.foldl (ldStep y) (List.replicate y.ld.length 99)) pre.length : Int))))), some (.pure (natD pre.length)), v3, v4] from ?_), some (.pure (natD pre.length)), v3, v4, ?_⟩
    · simp [b2_least_dues, sSeq, sSkip, sPut, sIf, sRet, sRaise, sDo, sUnpack, sPar, eRs, puts, sSet, mbind, mok, eVar, eC, getD, e1, e2, e2v, eItems, eTup, eLst, tB, tNot, tAnd, tOr, eAnd, eOr, eNot, eIf, getI, eChain, asD, view, slotVw, frz, fix, put, eIn, eOpt, eSlice, eM, isS, isL, eFstr, eCall, eArgs, toA, argsS, argS, argIx, giveBack, runF, startF, toArg, backF, backArg, leaveR, bindT_name, bindT_tup, setAll, iD, iRange1_eq, iRange2, eAppend, isMl, isMo, pyIsi, isTy, b2, pySub', pyIxT, pyIxL, pyLen_t, pyLen_l, pyTuple, scrAt, eScrNil, eScrLen, eScrList, eScrIx, List.mapIdx_cons, List.replicate, h]
    · rw [List.foldl_append]
      rfl)
  exact ⟨w2, w3, w4, h1⟩
theorem e2_ok {f : D → D → Option R} {a b : M R} {σ σ1 σ2 : Sl} {ra rb z : R} {x y : D} (ha : a σ = .ok ra σ1) (hb : b σ1 = .ok rb σ2) (hx : asD ra σ2 = some x) (hy : asD rb σ2 = some y) (hf : f x y = some z) : e2 f a b σ = .ok z σ2 := by
  simp only [e2, mbind, ha, hb, hx, hy, hf]
theorem st_99 (y : Y) (l3 : y.ld.length ≤ 3) (σ : Sl) (h : σ[0]? = some (some (.pure (yD y)))) : e2 pyMul (eLst [eC (.int 99)]) (e1 pyLen (e2v pySub' (eVar 0) (eC (.int 3)))) σ = .ok (.own (.lst (iL (List.replicate y.ld.length 99)))) σ :=
  e2_ok (ra := .own (.lst [.int 99])) (rb := .pure (.int (y.ld.length : Int))) (x := .lst [.int 99]) (y := .int (y.ld.length : Int)) rfl (by simp [sSeq, sSkip, sPut, sIf, sRet, sRaise, sDo, sUnpack, sPar, eRs, puts, sSet, mbind, mok, eVar, eC, getD, e1, e2, e2v, eItems, eTup, eLst, tB, tNot, tAnd, tOr, eAnd, eOr, eNot, eIf, getI, eChain, asD, view, slotVw, frz, fix, put, eIn, eOpt, eSlice, eM, isS, isL, eFstr, eCall, eArgs, toA, argsS, argS, argIx, giveBack, runF, startF, toArg, backF, backArg, leaveR, bindT_name, bindT_tup, setAll, iD, iRange1_eq, iRange2, eAppend, isMl, isMo, pyIsi, isTy, b2, pySub', pyIxT, pyIxL, pyLen_t, pyLen_l, pyTuple, scrAt, eScrNil, eScrLen, eScrList, eScrIx, List.mapIdx_cons, List.replicate, h, yix3]) rfl rfl (mul_99 y.ld.length l3)
theorem seq_next {a b : M Flow} {σ σ1 : Sl} (h : a σ = .ok .next σ1) : sSeq a b σ = b σ1 := by simp only [sSeq, mbind, h]
theorem put_own {e : M R} {i : Nat} {σ σ1 : Sl} {ob : Ob} (h : e σ = .ok (.own ob) σ1) : sPut i e σ = .ok .next (σ1.set i (some (.mob none ob))) := by simp only [sPut, mbind, h, fix, mok, put]
def ldRest (E : Ec) : M Flow := sSeq (sIf (tNot (tB (eCall (F_does_meet E) [(.ref, eVar 0), (.ref, eVar 1)]))) (sRet (eC .non)) (sSkip)) (sSeq (sFor (.name 2) (iRange1 (e1 pyLen (eVar 1))) (b2_least_dues E)) (sRet (e1 pyTuple (eVar 1))))
theorem ld_start (E : Ec) (y : Y) (hy : okY y) : m_least_dues E [some (.pure (yD y)), none, none, none, none] = ldRest E [some (.pure (yD y)), some (.mob none (.lst (iL (List.replicate y.ld.length 99)))), none, none, none] := by
  have ha : (sDo (eCall (F_check_yard E) [(.ref, eVar 0)])) [some (.pure (yD y)), none, none, none, none] = .ok .next [some (.pure (yD y)), none, none, none, none] := by simp [sSeq, sSkip, sPut, sIf, sRet, sRaise, sDo, sUnpack, sPar, eRs, puts, sSet, mbind, mok, eVar, eC, getD, e1, e2, e2v, eItems, eTup, eLst, tB, tNot, tAnd, tOr, eAnd, eOr, eNot, eIf, getI, eChain, asD, view, slotVw, frz, fix, put, eIn, eOpt, eSlice, eM, isS, isL, eFstr, eCall, eArgs, toA, argsS, argS, argIx, giveBack, runF, startF, toArg, backF, backArg, leaveR, bindT_name, bindT_tup, setAll, iD, iRange1_eq, iRange2, eAppend, isMl, isMo, pyIsi, isTy, b2, pySub', pyIxT, pyIxL, pyLen_t, pyLen_l, pyTuple, scrAt, eScrNil, eScrLen, eScrList, eScrIx, List.mapIdx_cons, List.replicate, r_check_yard E y hy]
  have hb := put_own (i := 1) (st_99 y hy.len [some (.pure (yD y)), none, none, none, none] rfl)
  unfold m_least_dues
  rw [seq_next ha, seq_next hb]
  rfl
theorem oT_some (ds : List Int) : oT (some ds) = .tup (iL ds) := rfl
theorem r_least_dues (E : Ec) (y : Y) (hy : okY y) : F_least_dues E [.pure (yD y)] = .ok (.pure (oT (ldu y))) [.pure (yD y)] := by
  have l3 := hy.len
  have ml := ld_start E y hy
  have dm := r_does_meetM E y hy (List.replicate y.ld.length 99) (by simp)
  have dm : F_does_meet E [.pure (yD y), .mob none (.lst (iL (List.replicate y.ld.length 99)))] = .ok (.pure (.bl (mts y (List.replicate y.ld.length 99)))) [.pure (yD y), .mob none (.lst (iL (List.replicate y.ld.length 99)))] := dm
  unfold ldu
  cases hm : mts y (List.replicate y.ld.length 99) with
  | false =>
    rw [hm] at dm
    simp [F_least_dues, sSeq, sSkip, sPut, sIf, sRet, sRaise, sDo, sUnpack, sPar, eRs, puts, sSet, mbind, mok, eVar, eC, getD, e1, e2, e2v, eItems, eTup, eLst, tB, tNot, tAnd, tOr, eAnd, eOr, eNot, eIf, getI, eChain, asD, view, slotVw, frz, fix, put, eIn, eOpt, eSlice, eM, isS, isL, eFstr, eCall, eArgs, toA, argsS, argS, argIx, giveBack, runF, startF, toArg, backF, backArg, leaveR, bindT_name, bindT_tup, setAll, iD, iRange1_eq, iRange2, eAppend, isMl, isMo, pyIsi, isTy, b2, pySub', pyIxT, pyIxL, pyLen_t, pyLen_l, pyTuple, scrAt, eScrNil, eScrLen, eScrList, eScrIx, List.mapIdx_cons, List.replicate, ml, ldRest, dm, oT]
  | true =>
    rw [hm] at dm
    have ok0 : DsOk y (List.replicate y.ld.length 99) := ⟨by simp, fun d hd => by rw [List.eq_of_mem_replicate hd]; omega, hm⟩
    have hr := rg_nat y.ld.length (by omega)
    rw [zs_nat] at hr
    obtain ⟨w2, w3, w4, h1⟩ := ld_for E y hy ok0
    have ln : (iL (List.replicate y.ld.length 99)).length = y.ld.length := by simp [iL_len]
    simp only [if_true]
    rw [oT_some]
    simp [F_least_dues, sSeq, sSkip, sPut, sIf, sRet, sRaise, sDo, sUnpack, sPar, eRs, puts, sSet, mbind, mok, eVar, eC, getD, e1, e2, e2v, eItems, eTup, eLst, tB, tNot, tAnd, tOr, eAnd, eOr, eNot, eIf, getI, eChain, asD, view, slotVw, frz, fix, put, eIn, eOpt, eSlice, eM, isS, isL, eFstr, eCall, eArgs, toA, argsS, argS, argIx, giveBack, runF, startF, toArg, backF, backArg, leaveR, bindT_name, bindT_tup, setAll, iD, iRange1_eq, iRange2, eAppend, isMl, isMo, pyIsi, isTy, b2, pySub', pyIxT, pyIxL, pyLen_t, pyLen_l, pyTuple, scrAt, eScrNil, eScrLen, eScrList, eScrIx, List.mapIdx_cons, List.replicate, ml, ldRest, dm, ln, hr, sFor, h1]

/-! ### one load by itself -/
def oneY (y : Y) (k : Int) : Y := ⟨y.n, y.l, y.r, [ldAt y k]⟩
theorem okY_one {y : Y} (hy : okY y) {k : Int} (hk : IxOk y k) : okY (oneY y k) := ⟨hy.n2, hy.n6, hy.l0, hy.lr, hy.rn, by simp [oneY], fun p hp => by
  have : p = ldAt y k := by simpa [oneY] using hp
  rw [this]
  exact ldk_ok hy hk⟩
theorem one_ld (y : Y) (k : Int) : ldAt (oneY y k) 0 = ldAt y k := rfl
theorem ix_one {y : Y} {k j : Int} (h : IxOk (oneY y k) j) : j = 0 := by
  unfold IxOk oneY at h
  simp at h
  omega
/-- the load k alone -/
def pr1 (k : Int) (c : Option Int) : Option Int := if c = some k then some 0 else none
def pr1L (k : Int) (ly : List Int) : List Int := if k ∈ ly then [0] else []
def prS (k : Int) (s : Stt) : Stt := ⟨s.l, s.r, pr1 k s.a, pr1 k s.b, pr1L k s.ly⟩
theorem acts_pr {y : Y} {k p : Int} {c : Option Int} {ly : List Int} {a : Ac} (h : a ∈ acts y p c ly) : ∃ t, (⟨t, a.pl, pr1 k a.ca, pr1 k a.li⟩ : Ac) ∈ acts (oneY y k) p (pr1 k c) (pr1L k ly) := by
  unfold acts at h
  rcases List.mem_append.mp h with h | h
  · obtain ⟨e1', e2'⟩ := move_are h
    have := moves_mem (z := oneY y k) rfl (c' := pr1 k c) h
    rw [e1', e2']
    exact ⟨a.nm, List.mem_append_left _ this⟩
  · cases c with
    | none =>
      simp only [lifts, List.mem_map, List.mem_filter] at h
      obtain ⟨j, ⟨hj, e⟩, rfl⟩ := h
      by_cases q : j = k
      · subst q
        refine ⟨94 :: fig 0, List.mem_append_right _ ?_⟩
        have hp : pr1L j ly = [0] := if_pos hj
        simp only [pr1, if_true, reduceCtorEq, if_false, lifts, hp, List.mem_map, List.mem_filter]
        exact ⟨0, ⟨List.mem_singleton.mpr rfl, by rw [one_ld]; exact e⟩, rfl⟩
      · refine ⟨[45], ?_⟩
        have e1 : pr1 k (some j) = none := by simp [pr1, q]
        have e2 : pr1 k none = none := by simp [pr1]
        simp only [e1, e2]
        exact stay_mem _ _ _ _
    | some j =>
      simp only at h
      split at h
      · rename_i e
        rw [List.mem_singleton.mp h]
        have e2 : pr1 k none = none := by simp [pr1]
        by_cases q : j = k
        · subst q
          refine ⟨[118], List.mem_append_right _ ?_⟩
          have e1 : pr1 j (some j) = some 0 := by simp [pr1]
          simp only [e1, e2]
          rw [if_pos (show ((ldAt (oneY y j) 0).2 == p) = true from e)]
          exact List.mem_singleton.mpr rfl
        · refine ⟨[45], ?_⟩
          have e1 : pr1 k (some j) = none := by simp [pr1, q]
          simp only [e1, e2]
          exact stay_mem _ _ _ _
      · cases h
theorem rest_pr (k : Int) (ly : List Int) (a b : Option Int) : pr1L k (rest2 ly a b) = rest2 (pr1L k ly) (pr1 k a) (pr1 k b) := by
  unfold pr1L
  by_cases h : k ∈ ly
  · rw [if_pos h]
    by_cases ha : a = some k
    · have : k ∉ rest2 ly a b := by rw [rest2_mem]; intro z; exact z.2.1 ha.symm
      rw [if_neg this, ha]
      simp [rest2, nO, pr1]
    · by_cases hb : b = some k
      · have : k ∉ rest2 ly a b := by rw [rest2_mem]; intro z; exact z.2.2 hb.symm
        rw [if_neg this, hb]
        simp [rest2, nO, pr1]
      · have : k ∈ rest2 ly a b := by rw [rest2_mem]; exact ⟨h, fun e => ha e.symm, fun e => hb e.symm⟩
        rw [if_pos this]
        simp [rest2, nO, pr1, ha, hb]
  · have : k ∉ rest2 ly a b := by rw [rest2_mem]; intro z; exact h z.1
    rw [if_neg h, if_neg this]
    rfl
theorem sc_pr {y : Y} {k : Int} {s t : Stt} (h : t ∈ sc y s) : prS k t ∈ sc (oneY y k) (prS k s) := by
  obtain ⟨r, hr, rfl⟩ := List.mem_map.mp h
  obtain ⟨a, ha, b, hb, lt, rfl⟩ := rows_are hr
  obtain ⟨t1, h1⟩ := acts_pr (k := k) ha
  obtain ⟨t2, h2⟩ := acts_pr (k := k) hb
  have := sc_act (y := oneY y k) (s := prS k s) h1 h2 lt
  have e : (goR (prS k s) ⟨t1, a.pl, pr1 k a.ca, pr1 k a.li⟩ ⟨t2, b.pl, pr1 k b.ca, pr1 k b.li⟩).2 = prS k (goR s a b).2 := by
    simp only [goR, prS, rest_pr]
  rwa [e] at this
theorem wk_pr {y : Y} {k : Int} : ∀ {n : Nat} {s t : Stt}, Wk (sc y) n s t → Wk (sc (oneY y k)) n (prS k s) (prS k t)
  | _, _, _, .zero => .zero
  | _, _, _, .step h w => .step (sc_pr h) (wk_pr w)
theorem beg_pr {y : Y} {k : Int} (hk : IxOk y k) : prS k (begS y) = begS (oneY y k) := by
  have : pr1L k (zs y.ld.length) = [0] := if_pos (zs_mem.mpr hk)
  simp only [prS, begS, this]
  rfl
/-- the load 0 of the single yard as the load k -/
def emO (k : Int) (c : Option Int) : Option Int := c.map fun _ => k
def emL (n : Nat) (k : Int) (ly : List Int) : List Int := (zs n).filter fun j => decide (j ≠ k ∨ ly ≠ [])
def emS (y : Y) (k : Int) (s : Stt) : Stt := ⟨s.l, s.r, emO k s.a, emO k s.b, emL y.ld.length k s.ly⟩
theorem emL_mem {n : Nat} {k : Int} (hk : 0 ≤ k ∧ k < n) {ly : List Int} : k ∈ emL n k ly ↔ ly ≠ [] := by
  unfold emL
  rw [List.mem_filter, zs_mem]
  simp [hk]
theorem acts_em {y : Y} {k p : Int} (hk : IxOk y k) {c : Option Int} {ly : List Int} {a : Ac} (hc : ∀ j, c = some j → j = 0) (hl : ∀ j ∈ ly, j = 0) (h : a ∈ acts (oneY y k) p c ly) : ∃ t, (⟨t, a.pl, emO k a.ca, emO k a.li⟩ : Ac) ∈ acts y p (emO k c) (emL y.ld.length k ly) := by
  unfold acts at h
  rcases List.mem_append.mp h with h | h
  · obtain ⟨e1', e2'⟩ := move_are h
    have := moves_mem (z := y) rfl (c' := emO k c) h
    rw [e1', e2']
    exact ⟨a.nm, List.mem_append_left _ this⟩
  · cases c with
    | none =>
      simp only [lifts, List.mem_map, List.mem_filter] at h
      obtain ⟨j, ⟨hj, e⟩, rfl⟩ := h
      have j0 := hl j hj
      subst j0
      refine ⟨94 :: fig k, List.mem_append_right _ ?_⟩
      simp only [emO, Option.map_none, Option.map_some, lifts, List.mem_map, List.mem_filter]
      exact ⟨k, ⟨(emL_mem hk).mpr (List.ne_nil_of_mem hj), by rw [one_ld] at e; exact e⟩, rfl⟩
    | some j =>
      have j0 := hc j rfl
      subst j0
      simp only at h
      split at h
      · rename_i e
        rw [List.mem_singleton.mp h]
        refine ⟨[118], List.mem_append_right _ ?_⟩
        simp only [emO, Option.map_none, Option.map_some]
        rw [if_pos (show ((ldAt y k).2 == p) = true from e)]
        exact List.mem_singleton.mpr rfl
      · cases h
theorem rest_em {n : Nat} {k : Int} {ly : List Int} (hl : ly = [] ∨ ly = [0]) {a b : Option Int} (ha : ∀ j, a = some j → j = 0 ∧ ly ≠ []) (hb : ∀ j, b = some j → j = 0 ∧ ly ≠ []) : emL n k (rest2 ly a b) = rest2 (emL n k ly) (emO k a) (emO k b) := by
  unfold emL
  rcases hl with rfl | rfl
  · have ea : a = none := by cases a with
      | none => rfl
      | some j => exact absurd rfl (ha j rfl).2
    have eb : b = none := by cases b with
      | none => rfl
      | some j => exact absurd rfl (hb j rfl).2
    subst ea eb
    rw [show emO k none = none from rfl, rest2_none, rest2_none]
  · have cs : ∀ c : Option Int, (∀ j, c = some j → j = 0 ∧ ([0] : List Int) ≠ []) → c = none ∨ c = some 0 := by
      intro c h
      cases c with
      | none => exact .inl rfl
      | some j => rw [(h j rfl).1]; exact .inr rfl
    have two : ∀ c d : Option Int, (c = some 0 ∨ d = some 0) → (c = none ∨ c = some 0) → (d = none ∨ d = some 0) → rest2 [0] c d = [] ∧ rest2 ((zs n).filter fun j => decide (j ≠ k ∨ ([0] : List Int) ≠ [])) (emO k c) (emO k d) = (zs n).filter fun j => decide (j ≠ k ∨ ([] : List Int) ≠ []) := by
      intro c d h1 h2 h3
      have e1 : (zs n).filter (fun j => decide (j ≠ k ∨ ([0] : List Int) ≠ [])) = zs n := by
        rw [List.filter_eq_self]
        intro j _
        simp
      rw [e1]
      rcases h2 with rfl | rfl <;> rcases h3 with rfl | rfl
      · rcases h1 with h | h <;> cases h
      · refine ⟨by simp [rest2, nO], ?_⟩
        unfold rest2
        apply List.filter_congr
        intro j _
        simp [nO, emO]
      · refine ⟨by simp [rest2, nO], ?_⟩
        unfold rest2
        apply List.filter_congr
        intro j _
        simp [nO, emO]
      · refine ⟨by simp [rest2, nO], ?_⟩
        unfold rest2
        apply List.filter_congr
        intro j _
        simp [nO, emO]
    rcases cs a ha with rfl | rfl
    · rcases cs b hb with rfl | rfl
      · rw [show emO k none = none from rfl, rest2_none, rest2_none]
      · obtain ⟨h1, h2⟩ := two none (some 0) (.inr rfl) (.inl rfl) (.inr rfl)
        rw [h1, h2]
    · obtain ⟨h1, h2⟩ := two (some 0) b (.inl rfl) (.inr rfl) (cs b hb)
      rw [h1, h2]

/-! ### earliest is the single yard's fewest -/
theorem one_ly {y : Y} {k : Int} {s : Stt} (hs : okS (oneY y k) s) : s.ly = [] ∨ s.ly = [0] := by
  have h0 : ∀ j ∈ s.ly, j = 0 := fun j hj => ix_one (hs.cl j hj)
  have so := hs.so
  cases h : s.ly with
  | nil => exact .inl rfl
  | cons a l =>
    rw [h] at h0 so
    have ha := h0 a List.mem_cons_self
    cases l with
    | nil => rw [ha]; exact .inr rfl
    | cons b l =>
      have hb := h0 b (by simp)
      have := (List.pairwise_cons.mp so).1 b (by simp)
      omega
theorem sc_em {y : Y} {k : Int} (hk : IxOk y k) {s t : Stt} (hs : okS (oneY y k) s) (h : t ∈ sc (oneY y k) s) : emS y k t ∈ sc y (emS y k s) := by
  obtain ⟨r, hr, rfl⟩ := List.mem_map.mp h
  obtain ⟨a, ha, b, hb, lt, rfl⟩ := rows_are hr
  have hl : ∀ j ∈ s.ly, j = 0 := fun j hj => ix_one (hs.cl j hj)
  obtain ⟨t1, h1⟩ := acts_em hk (fun j e => ix_one (hs.ca j e)) hl ha
  obtain ⟨t2, h2⟩ := acts_em hk (fun j e => ix_one (hs.cb j e)) hl hb
  have := sc_act (y := y) (s := emS y k s) h1 h2 lt
  have li : ∀ (p : Int) (c : Option Int) (x : Ac), (0 ≤ p ∧ p < (oneY y k).n) → x ∈ acts (oneY y k) p c s.ly → ∀ j, x.li = some j → j = 0 ∧ s.ly ≠ [] := by
    intro p c x hp hx j e
    rcases acts1 hp hx with ⟨_, z⟩ | ⟨i, _, _, z, hm⟩ | ⟨i, _, _, z⟩
    · rw [z] at e; cases e
    · rw [z] at e; cases e; exact ⟨hl j hm, List.ne_nil_of_mem hm⟩
    · rw [z] at e; cases e
  have e : (goR (emS y k s) ⟨t1, a.pl, emO k a.ca, emO k a.li⟩ ⟨t2, b.pl, emO k b.ca, emO k b.li⟩).2 = emS y k (goR s a b).2 := by
    simp only [goR, emS]
    rw [rest_em (one_ly hs) (li _ _ a hs.pl.1 ha) (li _ _ b hs.pl.2 hb)]
  rwa [e] at this
theorem wk_em {y : Y} {k : Int} (hk : IxOk y k) : ∀ {n : Nat} {s t : Stt}, okS (oneY y k) s → Wk (sc (oneY y k)) n s t → Wk (sc y) n (emS y k s) (emS y k t)
  | _, _, _, _, .zero => .zero
  | _, _, _, hs, .step h w => .step (sc_em hk hs h) (wk_em hk (sc_ok hs h) w)
theorem beg_em (y : Y) (k : Int) : emS y k (begS (oneY y k)) = begS y := by
  have : emL y.ld.length k (zs (oneY y k).ld.length) = zs y.ld.length := by
    unfold emL
    rw [List.filter_eq_self]
    intro j _
    simp [oneY, zs]
  simp only [emS, begS, this]
  rfl
/-- the load is lying or carried -/
def Pre (k : Int) (s : Stt) : Prop := s.a = some k ∨ s.b = some k ∨ k ∈ s.ly
theorem pre_step {y : Y} {s t : Stt} (hs : okS y s) {k : Int} (h : Pre k s) (ht : t ∈ sc y s) : Pre k t ∨ k ∈ sdn s t := by
  obtain ⟨r, hr, rfl⟩ := List.mem_map.mp ht
  obtain ⟨a, ha, b, hb, lt, rfl⟩ := rows_are hr
  have A := acts1 hs.pl.1 ha
  have B := acts1 hs.pl.2 hb
  simp only [goR]
  rcases h with h | h | h
  · rcases A with ⟨z, _⟩ | ⟨j, z, _⟩ | ⟨j, z, z2, _⟩
    · left; left; dsimp only; rw [z, h]
    · rw [h] at z; cases z
    · right
      unfold sdn sd1
      rw [h] at z
      cases z
      simp [h, z2]
  · rcases B with ⟨z, _⟩ | ⟨j, z, _⟩ | ⟨j, z, z2, _⟩
    · left; right; left; dsimp only; rw [z, h]
    · rw [h] at z; cases z
    · right
      unfold sdn sd1
      rw [h] at z
      cases z
      simp [h, z2]
  · left
    by_cases e1 : a.li = some k
    · left
      rcases A with ⟨_, z⟩ | ⟨j, _, z, z2, _⟩ | ⟨j, _, _, z⟩
      · rw [z] at e1; cases e1
      · rw [z2] at e1; cases e1; exact z
      · rw [z] at e1; cases e1
    · by_cases e2 : b.li = some k
      · right; left
        rcases B with ⟨_, z⟩ | ⟨j, _, z, z2, _⟩ | ⟨j, _, _, z⟩
        · rw [z] at e2; cases e2
        · rw [z2] at e2; cases e2; exact z
        · rw [z] at e2; cases e2
      · right; right
        exact rest2_mem.mpr ⟨h, fun e => e1 e.symm, fun e => e2 e.symm⟩
/-- once gone, gone for good -/
theorem gone_step {y : Y} {s t : Stt} (hs : okS y s) {k : Int} (h : ¬ Pre k s) (ht : t ∈ sc y s) : ¬ Pre k t ∧ k ∉ sdn s t := by
  obtain ⟨r, hr, rfl⟩ := List.mem_map.mp ht
  obtain ⟨a, ha, b, hb, lt, rfl⟩ := rows_are hr
  have A := acts1 hs.pl.1 ha
  have B := acts1 hs.pl.2 hb
  have na : s.a ≠ some k := fun e => h (.inl e)
  have nb : s.b ≠ some k := fun e => h (.inr (.inl e))
  have nl : k ∉ s.ly := fun e => h (.inr (.inr e))
  simp only [goR]
  constructor
  · rintro (e | e | e)
    · dsimp only at e
      rcases A with ⟨z, _⟩ | ⟨j, _, z, _, hm⟩ | ⟨j, _, z, _⟩
      · rw [z] at e; exact na e
      · rw [z] at e; cases e; exact nl hm
      · rw [z] at e; cases e
    · dsimp only at e
      rcases B with ⟨z, _⟩ | ⟨j, _, z, _, hm⟩ | ⟨j, _, z, _⟩
      · rw [z] at e; exact nb e
      · rw [z] at e; cases e; exact nl hm
      · rw [z] at e; cases e
    · exact nl (rest2_mem.mp e).1
  · intro e
    unfold sdn at e
    rcases List.mem_append.mp e with e | e
    · unfold sd1 at e
      split at e
      · rename_i j q _
        rw [List.mem_singleton.mp e] at na
        exact na q
      · cases e
    · unfold sd1 at e
      split at e
      · rename_i j q _
        rw [List.mem_singleton.mp e] at nb
        exact nb q
      · cases e
theorem nd_three {s : Stt} {y : Y} (hs : okS y s) {k : Int} : ¬ (s.a = some k ∧ s.b = some k) ∧ ¬ (s.a = some k ∧ k ∈ s.ly) ∧ ¬ (s.b = some k ∧ k ∈ s.ly) := by
  have nd := hs.nd
  refine ⟨fun ⟨h1, h2⟩ => ?_, fun ⟨h1, h2⟩ => ?_, fun ⟨h1, h2⟩ => ?_⟩
  · rw [h1, h2] at nd
    simp [carr] at nd
  · rw [h1] at nd
    simp only [carr, Option.toList_some, List.singleton_append, List.cons_append, List.nodup_cons, List.mem_append] at nd
    exact nd.1 (.inr h2)
  · rw [h1] at nd
    have := (List.nodup_append.mp nd).2.2 k (by simp [carr]) k h2
    exact this rfl
theorem down_gone {y : Y} {s t : Stt} (hs : okS y s) {k : Int} (ht : t ∈ sc y s) (h : k ∈ sdn s t) : ¬ Pre k t := by
  obtain ⟨r, hr, rfl⟩ := List.mem_map.mp ht
  obtain ⟨a, ha, b, hb, lt, rfl⟩ := rows_are hr
  have A := acts1 hs.pl.1 ha
  have B := acts1 hs.pl.2 hb
  obtain ⟨n1, n2, n3⟩ := nd_three hs (k := k)
  unfold sdn at h
  simp only [goR] at h ⊢
  rcases List.mem_append.mp h with h | h
  · unfold sd1 at h
    split at h
    · rename_i j q1 q2
      have e := List.mem_singleton.mp h
      subst e
      rintro (e | e | e)
      · dsimp only at e q2; rw [q2] at e; cases e
      · dsimp only at e
        rcases B with ⟨z, _⟩ | ⟨i, _, z, _, hm⟩ | ⟨i, _, z, _⟩
        · rw [z] at e; exact n1 ⟨q1, e⟩
        · rw [z] at e; cases e; exact n2 ⟨q1, hm⟩
        · rw [z] at e; cases e
      · exact n2 ⟨q1, (rest2_mem.mp e).1⟩
    · cases h
  · unfold sd1 at h
    split at h
    · rename_i j q1 q2
      have e := List.mem_singleton.mp h
      subst e
      rintro (e | e | e)
      · dsimp only at e
        rcases A with ⟨z, _⟩ | ⟨i, _, z, _, hm⟩ | ⟨i, _, z, _⟩
        · rw [z] at e; exact n1 ⟨e, q1⟩
        · rw [z] at e; cases e; exact n3 ⟨q1, hm⟩
        · rw [z] at e; cases e
      · dsimp only at e q2; rw [q2] at e; cases e
      · exact n3 ⟨q1, (rest2_mem.mp e).1⟩
    · cases h
theorem tm_wk {y : Y} {f : Nat → Stt → List Stt} (hf : ∀ n u t, t ∈ f n u → t ∈ sc y u) {s0 : Stt} : ∀ {n : Nat} {t : Stt}, Tm f s0 n t → Wk (sc y) n s0 t
  | 0, t, e => by rw [show t = s0 from e]; exact .zero
  | n + 1, t, ⟨u, hu, ht⟩ => (tm_wk hf hu).snoc (hf n u t ht)
theorem wk_tm {y : Y} {s0 : Stt} : ∀ {n : Nat} {t : Stt}, Wk (sc y) n s0 t → Tm (fun _ => sc y) s0 n t
  | 0, t, w => by cases w; rfl
  | n + 1, t, w => by
    obtain ⟨u, hu, ht⟩ := w.unsnoc
    exact ⟨u, wk_tm hu, ht⟩
/-- a load that is gone was set down -/
theorem tm_down {y : Y} {f : Nat → Stt → List Stt} (hf : ∀ n u t, t ∈ f n u → t ∈ sc y u) {s0 : Stt} (hs : okS y s0) {k : Int} (hk : Pre k s0) : ∀ {n : Nat} {t : Stt}, Tm f s0 n t → Pre k t ∨ ∃ i u v, i < n ∧ Tm f s0 i u ∧ v ∈ f i u ∧ k ∈ sdn u v
  | 0, t, e => by rw [show t = s0 from e]; exact .inl hk
  | n + 1, t, ⟨u, hu, ht⟩ => by
    rcases tm_down hf hs hk hu with h | ⟨i, u', v, h1, h2, h3, h4⟩
    · have ok := wk_ok (tm_wk hf hu) hs
      rcases pre_step ok h (hf n u t ht) with h | h
      · exact .inl h
      · exact .inr ⟨n, u, t, by omega, hu, ht, h⟩
    · exact .inr ⟨i, u', v, by omega, h2, h3, h4⟩
theorem pre_beg {y : Y} {k : Int} (hk : IxOk y k) : Pre k (begS y) := .inr (.inr (zs_mem.mpr hk))
theorem done_gone {s : Stt} (h : isDone s = true) (k : Int) : ¬ Pre k s := by
  simp only [isDone, Bool.and_eq_true, Option.isNone_iff_eq_none, List.isEmpty_iff] at h
  rintro (e | e | e)
  · rw [h.1] at e; cases e
  · rw [h.2.1] at e; cases e
  · rw [h.2.2] at e; cases e
theorem er_le {y : Y} {k : Int} {i : Nat} {u v : Stt} (hu : Tm (fun _ => sc y) (begS y) i u) (hv : v ∈ sc y u) (h : k ∈ sdn u v) : ∃ e, e ≤ i + 1 ∧ er y k = some e := by
  obtain ⟨r, hr, rfl⟩ := List.mem_map.mp hv
  have hs : erS y k u = true := any_iff.1.mpr ⟨r, hr, by simpa using h⟩
  obtain ⟨m, hm, q⟩ := Mn.ex (P := fun n => ∃ t, Tm (fun _ => sc y) (begS y) n t ∧ erS y k t = true) ⟨u, hu, hs⟩
  exact ⟨m + 1, by omega, by unfold er; rw [fst_iff.mpr q]; rfl⟩
theorem er_walk {y : Y} (hy : okY y) {k : Int} (hk : IxOk y k) {n : Nat} {t : Stt} (w : Wk (sc y) n (begS y) t) (h : ¬ Pre k t) : ∃ e, e ≤ n ∧ er y k = some e := by
  rcases tm_down (y := y) (fun _ _ _ h => h) (okS_beg hy) (pre_beg hk) (wk_tm w) with h' | ⟨i, u, v, h1, h2, h3, h4⟩
  · exact absurd h' h
  · obtain ⟨e, h5, h6⟩ := er_le h2 h3 h4
    exact ⟨e, by omega, h6⟩
theorem er_get {y : Y} {k : Int} {e : Nat} (h : er y k = some e) : ∃ n u v, e = n + 1 ∧ Wk (sc y) n (begS y) u ∧ v ∈ sc y u ∧ k ∈ sdn u v := by
  unfold er at h
  cases q : fst fun n => ∃ t, Tm (fun _ => sc y) (begS y) n t ∧ erS y k t = true with
  | none => rw [q] at h; cases h
  | some m =>
    rw [q] at h
    cases h
    obtain ⟨u, hu, hs⟩ := (fst_iff.mp q).1
    obtain ⟨r, hr, hd⟩ := any_iff.1.mp hs
    exact ⟨m, u, r.2, rfl, tm_wk (fun _ _ _ h => h) hu, List.mem_map.mpr ⟨r, hr, rfl⟩, by simpa using hd⟩
theorem gone_pr {k : Int} {t : Stt} (h : ¬ Pre k t) : isDone (prS k t) = true := by
  have na : t.a ≠ some k := fun e => h (.inl e)
  have nb : t.b ≠ some k := fun e => h (.inr (.inl e))
  have nl : k ∉ t.ly := fun e => h (.inr (.inr e))
  simp [isDone, prS, pr1, pr1L, na, nb, nl]
theorem er_one {y : Y} (hy : okY y) {k : Int} (hk : IxOk y k) : er y k = dist (oneY y k) (begS (oneY y k)) := by
  have h1 : ∀ e, er y k = some e → ∃ d, d ≤ e ∧ dist (oneY y k) (begS (oneY y k)) = some d := by
    intro e he
    obtain ⟨n, u, v, rfl, w, hv, hd⟩ := er_get he
    have w' := wk_pr (k := k) (w.snoc hv)
    rw [beg_pr hk] at w'
    have dn : Dn (oneY y k) (n + 1) (begS (oneY y k)) := ⟨_, w', gone_pr (down_gone (wk_ok w (okS_beg hy)) hv hd)⟩
    obtain ⟨m, h1, h2⟩ := Mn.ex (P := fun n => Dn (oneY y k) n (begS (oneY y k))) dn
    exact ⟨m, h1, dist_iff.mpr h2⟩
  have h2 : ∀ d, dist (oneY y k) (begS (oneY y k)) = some d → ∃ e, e ≤ d ∧ er y k = some e := by
    intro d hd
    obtain ⟨t, w, dn⟩ := (dist_iff.mp hd).1
    have w' := wk_em hk (okS_beg (okY_one hy hk)) w
    rw [beg_em] at w'
    refine er_walk hy hk w' ?_
    simp only [isDone, Bool.and_eq_true, Option.isNone_iff_eq_none, List.isEmpty_iff] at dn
    rintro (e | e | e)
    · simp [emS, emO, dn.1] at e
    · simp [emS, emO, dn.2.1] at e
    · exact (emL_mem hk).mp e dn.2.2
  cases q : er y k with
  | none =>
    cases q2 : dist (oneY y k) (begS (oneY y k)) with
    | none => rfl
    | some d =>
      obtain ⟨e, _, h⟩ := h2 d q2
      rw [q] at h
      cases h
  | some e =>
    obtain ⟨d, hd, h⟩ := h1 e q
    obtain ⟨e', he', h'⟩ := h2 d h
    rw [q] at h'
    cases h'
    rw [h]
    congr 1
    omega

/-! ### what dues can be met -/
theorem fdu_mem {y : Y} {ds : List Int} {m : Nat} {s t : Stt} (h : t ∈ sc y s) (hd : ∀ j ∈ sdn s t, ((m + 1 : Nat) : Int) ≤ dueOf ds j) : t ∈ fdu y ds m s := by
  obtain ⟨r, hr, rfl⟩ := List.mem_map.mp h
  refine List.mem_map.mpr ⟨r, List.mem_filter.mpr ⟨hr, ?_⟩, rfl⟩
  unfold gdR
  rw [List.all_eq_true]
  intro j hj
  unfold dGood
  simpa using hd j hj
theorem fdu_due {y : Y} {ds : List Int} {m : Nat} {s t : Stt} (h : t ∈ fdu y ds m s) : ∀ j ∈ sdn s t, ((m + 1 : Nat) : Int) ≤ dueOf ds j := by
  obtain ⟨r, hr, rfl⟩ := List.mem_map.mp h
  obtain ⟨_, h2⟩ := List.mem_filter.mp hr
  unfold gdR at h2
  rw [List.all_eq_true] at h2
  intro j hj
  have := h2 j hj
  unfold dGood at this
  simpa using this
theorem tm_ext {y : Y} {ds : List Int} {s0 : Stt} (M : Nat) (V : Stt → Prop) (hV : ∀ u v, V u → v ∈ sc y u → V v ∧ ∀ j ∈ sdn u v, (M : Int) ≤ dueOf ds j) {n m : Nat} {s t : Stt} (hm : Tm (fdu y ds) s0 m s) (hv : V s) (hle : m + n ≤ M) (w : Wk (sc y) n s t) : Tm (fdu y ds) s0 (m + n) t ∧ V t := by
  induction w generalizing m with
  | zero => exact ⟨hm, hv⟩
  | @step n s s1 t h w ih =>
    obtain ⟨h1, h2⟩ := hV s s1 hv h
    have t1 : Tm (fdu y ds) s0 (m + 1) s1 := ⟨s, hm, fdu_mem h fun j hj => by have := h2 j hj; omega⟩
    have := ih t1 h1 (by omega)
    rw [show m + (n + 1) = m + 1 + n by omega]
    exact this
theorem mts_er {y : Y} (hy : okY y) {ds : List Int} (h : mts y ds = true) {k : Int} (hk : IxOk y k) : ∃ e, er y k = some e ∧ (e : Int) ≤ dueOf ds k := by
  obtain ⟨n, t, w, d⟩ := mts_iff.mp h
  rcases tm_down (y := y) (fun _ _ _ h => fdu_sub h) (okS_beg hy) (pre_beg hk) w with h' | ⟨i, u, v, h1, h2, h3, h4⟩
  · exact absurd h' (done_gone d k)
  · obtain ⟨e, h5, h6⟩ := er_le (tm_mono (fun _ _ _ h => fdu_sub h) h2) (fdu_sub h3) h4
    have := fdu_due h3 k h4
    exact ⟨e, h6, by omega⟩
theorem mts_dist {y : Y} {ds : List Int} (h : mts y ds = true) : ∃ d, dist y (begS y) = some d := by
  obtain ⟨n, t, w, d⟩ := mts_iff.mp h
  obtain ⟨m, _, q⟩ := Mn.ex (P := fun n => Dn y n (begS y)) ⟨t, tm_wk (fun _ _ _ h => fdu_sub h) w, d⟩
  exact ⟨m, dist_iff.mpr q⟩
theorem done_back {y : Y} {s t : Stt} (hs : okS y s) (ht : t ∈ sc y s) (h : isDone t = true) (hd : ∀ k, k ∉ sdn s t) : isDone s = true := by
  have hg : ∀ k, ¬ Pre k s := fun k hk => by
    rcases pre_step hs hk ht with z | z
    · exact done_gone h k z
    · exact hd k z
  simp only [isDone, Bool.and_eq_true, Option.isNone_iff_eq_none, List.isEmpty_iff]
  refine ⟨?_, ?_, ?_⟩
  · cases e : s.a with
    | none => rfl
    | some k => exact absurd (.inl e) (hg k)
  · cases e : s.b with
    | none => rfl
    | some k => exact absurd (.inr (.inl e)) (hg k)
  · cases e : s.ly with
    | nil => rfl
    | cons k l => exact absurd (.inr (.inr (by rw [e]; simp))) (hg k)
theorem mts_short {y : Y} (hy : okY y) {ds : List Int} {m : Nat} (hb : ∀ k, IxOk y k → dueOf ds k ≤ m) (h : mts y ds = true) : ∃ d, d ≤ m ∧ dist y (begS y) = some d := by
  obtain ⟨n, t, w, d⟩ := mts_iff.mp h
  have key : ∀ (n : Nat) (t : Stt), Tm (fdu y ds) (begS y) n t → isDone t = true → ∃ j, j ≤ m ∧ Dn y j (begS y) := by
    intro n
    induction n with
    | zero =>
      intro t w d
      exact ⟨0, by omega, t, tm_wk (fun _ _ _ h => fdu_sub h) w, d⟩
    | succ n ih =>
      intro t w d
      rcases Nat.lt_or_ge m (n + 1) with z | z
      · obtain ⟨u, hu, ht⟩ := w
        have ok := wk_ok (tm_wk (fun _ _ _ h => fdu_sub h) hu) (okS_beg hy)
        refine ih u hu (done_back ok (fdu_sub ht) d fun k hk => ?_)
        have h1 := fdu_due ht k hk
        have h2 := hb k (sdn_ix ok hk)
        omega
      · exact ⟨n + 1, z, t, tm_wk (fun _ _ _ h => fdu_sub h) w, d⟩
  obtain ⟨j, hj, dn⟩ := key n t w d
  obtain ⟨q, h1, h2⟩ := Mn.ex (P := fun n => Dn y n (begS y)) dn
  exact ⟨q, by omega, dist_iff.mpr h2⟩
theorem mts_plan {y : Y} (hy : okY y) {ds : List Int} {d : Nat} (hd : dist y (begS y) = some d) (hb : ∀ k, IxOk y k → (d : Int) ≤ dueOf ds k) : mts y ds = true := by
  obtain ⟨t, w, dn⟩ := (dist_iff.mp hd).1
  have := (tm_ext (y := y) (ds := ds) (s0 := begS y) d (okS y) (fun u v hu hv => ⟨sc_ok hu hv, fun j hj => hb j (sdn_ix hu hj)⟩) (m := 0) (show Tm (fdu y ds) (begS y) 0 (begS y) from rfl) (okS_beg hy) (by omega) w).1
  exact mts_iff.mpr ⟨_, t, this, dn⟩
theorem er_few {y : Y} (hy : okY y) {k : Int} (hk : IxOk y k) {e : Nat} (h : er y k = some e) : e ≤ 12 := by
  rw [er_one hy hk] at h
  have := dist_ub (okY_one hy hk) (okS_beg (okY_one hy hk)) rfl rfl h
  simpa [begS, oneY, zs_len] using this
theorem er_pos {y : Y} {k : Int} {e : Nat} (h : er y k = some e) : 1 ≤ e := by
  obtain ⟨n, _, _, rfl, _⟩ := er_get h
  omega
theorem mts_first {y : Y} (hy : okY y) {ds : List Int} {k : Int} (hk : IxOk y k) {e : Nat} (he : er y k = some e) (hn : dist y (begS y) ≠ none) (h1 : (e : Int) ≤ dueOf ds k) (h2 : ∀ j, IxOk y j → j ≠ k → 99 ≤ dueOf ds j) : mts y ds = true := by
  have he' := he
  rw [er_one hy hk] at he'
  have e12 := er_few hy hk he
  obtain ⟨t, w, dn⟩ := (dist_iff.mp he').1
  have w' := wk_em hk (okS_beg (okY_one hy hk)) w
  rw [beg_em] at w'
  have p1 := (tm_ext (y := y) (ds := ds) (s0 := begS y) e (okS y) (fun u v hu hv => ⟨sc_ok hu hv, fun j hj => by
    by_cases q : j = k
    · rw [q]; exact h1
    · have := h2 j (sdn_ix hu hj) q
      omega⟩) (m := 0) (show Tm (fdu y ds) (begS y) 0 (begS y) from rfl) (okS_beg hy) (by omega) w').1
  rw [Nat.zero_add] at p1
  have okT := wk_ok w' (okS_beg hy)
  simp only [isDone, Bool.and_eq_true, Option.isNone_iff_eq_none, List.isEmpty_iff] at dn
  have ea : (emS y k t).a = none := by simp [emS, emO, dn.1]
  have eb : (emS y k t).b = none := by simp [emS, emO, dn.2.1]
  have gk : ¬ Pre k (emS y k t) := by
    rintro (z | z | z)
    · rw [ea] at z; cases z
    · rw [eb] at z; cases z
    · exact (emL_mem hk).mp z dn.2.2
  have l3 := okT.ly3 hy
  obtain ⟨n, hn3, u, w2, du⟩ := feas hy 3 _ okT ea eb l3 (fun j hj hh => hn ((beg_hop hy).mpr ⟨j, okT.cl j hj, hh⟩))
  have p2 := (tm_ext (y := y) (ds := ds) (s0 := begS y) 99 (fun s => okS y s ∧ ¬ Pre k s) (fun u v hu hv => ⟨⟨sc_ok hu.1 hv, (gone_step hu.1 hu.2 hv).1⟩, fun j hj => by
    have q : j ≠ k := fun q => (gone_step hu.1 hu.2 hv).2 (by rw [← q]; exact hj)
    exact h2 j (sdn_ix hu.1 hj) q⟩) p1 ⟨okT, gk⟩ (by omega) w2).1
  exact mts_iff.mpr ⟨_, u, p2, du⟩
theorem hop_one {y : Y} {k : Int} : hop (oneY y k) 0 ↔ hop y k := Iff.rfl
theorem er_hop {y : Y} (hy : okY y) {k : Int} (hk : IxOk y k) : er y k = none ↔ hop y k := by
  rw [er_one hy hk, beg_hop (okY_one hy hk)]
  constructor
  · rintro ⟨j, h1, h2⟩
    rw [ix_one h1] at h2
    exact h2
  · intro h
    exact ⟨0, by unfold IxOk oneY; simp, h⟩
theorem er_dist {y : Y} (hy : okY y) {k : Int} (hk : IxOk y k) {d : Nat} (hd : dist y (begS y) = some d) : ∃ e, e ≤ d ∧ er y k = some e := by
  obtain ⟨t, w, dn⟩ := (dist_iff.mp hd).1
  exact er_walk hy hk w (done_gone dn k)

/-! ### the least dues -/
theorem hop_hpL {y : Y} {k : Int} (hk : IxOk y k) : k ∈ hpL y ↔ hop y k := by
  unfold hpL
  rw [List.mem_filter, zs_mem, hopB_iff]
  exact ⟨fun h => h.2, fun h => ⟨hk, h⟩⟩
theorem due_rep {n : Nat} {v : Int} {k : Int} (h : 0 ≤ k ∧ k < n) : dueOf (List.replicate n v) k = v := by
  unfold dueOf
  have : k.toNat < n := by omega
  simp [this]
theorem due_set_eq {ds : List Int} {i : Nat} (h : i < ds.length) (v : Int) : dueOf (ds.set i v) (i : Int) = v := by
  unfold dueOf
  simp [h]
theorem due_set_ne {ds : List Int} {i : Nat} {k : Int} (hk : 0 ≤ k) (h : k ≠ i) (v : Int) : dueOf (ds.set i v) k = dueOf ds k := by
  unfold dueOf
  rw [List.getD_eq_getElem?_getD, List.getD_eq_getElem?_getD, List.getElem?_set_ne (by omega)]
theorem mts_99 {y : Y} (hy : okY y) : mts y (List.replicate y.ld.length 99) = true ↔ dist y (begS y) ≠ none := by
  constructor
  · intro h
    obtain ⟨d, hd⟩ := mts_dist h
    rw [hd]
    simp
  · intro h
    cases q : dist y (begS y) with
    | none => exact absurd q h
    | some d =>
      refine mts_plan hy q fun k hk => ?_
      rw [due_rep hk]
      have := dist_ub hy (okS_beg hy) rfl rfl q
      have l3 := hy.len
      simp only [begS, zs_len] at this
      omega
theorem ldu_none {y : Y} (hy : okY y) : ldu y = none ↔ dist y (begS y) = none := by
  unfold ldu
  by_cases h : mts y (List.replicate y.ld.length 99) = true
  · rw [if_pos h]
    have := (mts_99 hy).mp h
    simp [this]
  · rw [if_neg h]
    simp only [true_iff]
    cases q : dist y (begS y) with
    | none => rfl
    | some d => exact absurd ((mts_99 hy).mpr (by rw [q]; simp)) h
theorem ok_99 {y : Y} (h : mts y (List.replicate y.ld.length 99) = true) : DsOk y (List.replicate y.ld.length 99) := ⟨by simp, fun d hd => by rw [List.eq_of_mem_replicate hd]; omega, h⟩
/-- the dues after i loads -/
noncomputable def ldi (y : Y) (i : Nat) : List Int := (List.range i).foldl (ldStep y) (List.replicate y.ld.length 99)
theorem ldi_succ (y : Y) (i : Nat) : ldi y (i + 1) = (ldi y i).set i (ldV y (ldi y i) i : Int) := by
  unfold ldi
  rw [List.range_succ, List.foldl_append]
  rfl
theorem ldi_len (y : Y) : ∀ i, (ldi y i).length = y.ld.length
  | 0 => by simp [ldi]
  | i + 1 => by rw [ldi_succ, List.length_set]; exact ldi_len y i
theorem ldi_late {y : Y} {k : Int} (hk : IxOk y k) : ∀ i : Nat, (i : Int) ≤ k → dueOf (ldi y i) k = 99
  | 0, _ => due_rep hk
  | i + 1, h => by
    rw [ldi_succ, due_set_ne hk.1 (by omega)]
    exact ldi_late hk i (by omega)
theorem ldi_early {y : Y} {k : Nat} : ∀ i : Nat, k < i → i ≤ y.ld.length → dueOf (ldi y i) (k : Int) = ldV y (ldi y k) k
  | 0, h, _ => by omega
  | i + 1, h, hl => by
    by_cases e : k = i
    · subst e
      rw [ldi_succ, due_set_eq (by rw [ldi_len]; omega)]
    · rw [ldi_succ, due_set_ne (by omega) (by omega)]
      exact ldi_early i (by omega) (by omega)
theorem ldu_some {y : Y} (hy : okY y) {d : Nat} (hd : dist y (begS y) = some d) : ldu y = some (ldi y y.ld.length) ∧ ∀ i, i ≤ y.ld.length → DsOk y (ldi y i) := by
  have h := (mts_99 hy).mpr (by rw [hd]; simp)
  refine ⟨by unfold ldu; rw [if_pos h]; rfl, fun i hi => ?_⟩
  have := ld_fold (ok_99 h) i (by simpa using hi)
  exact this
theorem ldi_first {y : Y} (hy : okY y) {d e : Nat} (hd : dist y (begS y) = some d) (hk : IxOk y 0) (he : er y 0 = some e) : dueOf (ldi y y.ld.length) 0 = e := by
  have hl : 0 < y.ld.length := by unfold IxOk at hk; omega
  have h := (mts_99 hy).mpr (by rw [hd]; simp)
  have h1 := ldi_early (y := y) (k := 0) y.ld.length hl (Nat.le_refl _)
  have h0 : ldi y 0 = List.replicate y.ld.length 99 := rfl
  have hr : 0 < (List.replicate y.ld.length (99 : Int)).length := by simpa using hl
  have hv : ldV y (ldi y 0) 0 = e := by
    rw [h0]
    refine ldV_is ?_ fun u hu => ?_
    · refine mts_first hy hk he (by rw [hd]; simp) ?_ fun j hj hne => ?_
      · have := due_set_eq (ds := List.replicate y.ld.length 99) (i := 0) hr (e : Int)
        simp only [Int.natCast_zero] at this
        rw [this]
        omega
      · rw [due_set_ne hj.1 (by omega), due_rep hj]
        omega
    · cases q : mts y ((List.replicate y.ld.length (99 : Int)).set 0 (u : Int)) with
      | false => rfl
      | true =>
        obtain ⟨e', h2, h3⟩ := mts_er hy q hk
        rw [he] at h2
        cases h2
        have := due_set_eq (ds := List.replicate y.ld.length 99) (i := 0) hr (u : Int)
        simp only [Int.natCast_zero] at this
        rw [this] at h3
        omega
  rw [hv] at h1
  exact h1

noncomputable def erD (y : Y) (k : Int) : D := oN (er y k)
theorem v_one (E : Ec) (y : Y) (hy : okY y) (k : Int) (hk : IxOk y k) (rs : List Int) (hz : rs.length < 1000) (ns : List Int) (c1 : Int) (r1 : List Int) (q10 q11 q12 : Option S) :
    b0_law E [some (.scr ns), some (.mob none (.lst (.int c1 :: r1.map .int))), some (.pure (yD y)), some (.pure (.int y.n)), some (.pure (.int y.l)), some (.pure (.int y.r)), some (.pure (.tup (y.ld.map prD))), some (.pure (oN (dist y (begS y)))), some (.mob none (.lst (rs.map (erD y)))), some (.pure (.int k)), q10, q11, q12] = .ok .next [some (.scr ns), some (.mob none (.lst (.int c1 :: r1.map .int))), some (.pure (yD y)), some (.pure (.int y.n)), some (.pure (.int y.l)), some (.pure (.int y.r)), some (.pure (.tup (y.ld.map prD))), some (.pure (oN (dist y (begS y)))), some (.mob none (.lst ((rs ++ [k]).map (erD y)))), some (.pure (.int k)), some (.pure (erD y k)), q11, q12] := by
  obtain ⟨g1, g2⟩ := ld_get hk
  have fw := r_fewest E (oneY y k) (okY_one hy hk)
  rw [← er_one hy hk] at fw
  have fw : F_fewest E [.pure (yD (oneY y k))] = .ok (.pure (erD y k)) [.pure (yD (oneY y k))] := fw
  have ey : D.tup [.int y.n, .int y.l, .int y.r, .tup [prD (ldAt y k)]] = yD (oneY y k) := rfl
  have ixk : pyIx (.tup (y.ld.map prD)) (.int k) = some (prD (ldAt y k)) := by
    show (match ixOf k (y.ld.map prD).length with | some k => (y.ld.map prD)[k]? | none => none) = _
    rw [g1]
    exact g2
  have ea := r_earliest E y hy k hk
  have ea : F_earliest E [.pure (yD y), .pure (.int k)] = .ok (.pure (erD y k)) [.pure (yD y), .pure (.int k)] := ea
  have nr : pyNe (erD y k) (erD y k) = some (.pure (.bl false)) := neRefl (by unfold erD; rw [dep_oN]; omega)
  have hp := r_hopeless E y hy
  have it := in_tints k (hpL y)
  have hb : decide (k ∈ hpL y) = isN (erD y k) := by
    unfold erD
    rw [isN_oN, Bool.eq_iff_iff]
    simp only [decide_eq_true_eq, Option.isNone_iff_eq_none]
    rw [hop_hpL hk, er_hop hy hk]
  rw [hb] at it
  have hz2 : rs.length < 16777216 := by omega
  have ne2 := neB (isN (erD y k)) (isN (erD y k))
  simp only [beq_self_eq_true, Bool.not_true] at ne2
  simp [b0_law, sSeq, sSkip, sPut, sIf, sRet, sRaise, sDo, sUnpack, sPar, eRs, puts, sSet, mbind, mok, eVar, eC, getD, e1, e2, e2v, eItems, eTup, eLst, tB, tNot, tAnd, tOr, eAnd, eOr, eNot, eIf, getI, eChain, asD, view, slotVw, frz, fix, put, eIn, eOpt, eSlice, eM, isS, isL, eFstr, eCall, eArgs, toA, argsS, argS, argIx, giveBack, runF, startF, toArg, backF, backArg, leaveR, bindT_name, bindT_tup, setAll, iD, iRange1_eq, iRange2, eAppend, isMl, isMo, pyIsi, isTy, b2, pySub', pyIxT, pyIxL, pyLen_t, pyLen_l, pyTuple, scrAt, eScrNil, eScrLen, eScrList, eScrIx, List.mapIdx_cons, List.replicate, ↓ixk, ↓ey, fw, ea, nr, pyIsN, hp, it, ne2, zLine, hz2]
theorem v_loop (E : Ec) (y : Y) (hy : okY y) (ns : List Int) (c1 : Int) (r1 : List Int) :
    ∃ w9 w10, goFor (.name 9) (b0_law E) ((zs y.ld.length).map .int) [some (.scr ns), some (.mob none (.lst (.int c1 :: r1.map .int))), some (.pure (yD y)), some (.pure (.int y.n)), some (.pure (.int y.l)), some (.pure (.int y.r)), some (.pure (.tup (y.ld.map prD))), some (.pure (oN (dist y (begS y)))), some (.mob none (.lst [])), none, none, none, none] = .ok .next [some (.scr ns), some (.mob none (.lst (.int c1 :: r1.map .int))), some (.pure (yD y)), some (.pure (.int y.n)), some (.pure (.int y.l)), some (.pure (.int y.r)), some (.pure (.tup (y.ld.map prD))), some (.pure (oN (dist y (begS y)))), some (.mob none (.lst ((zs y.ld.length).map (erD y)))), w9, w10, none, none] := by
  have l3 := hy.len
  obtain ⟨σ', h1, w9, w10, rfl⟩ := goFor_pre (tg := .name 9) (body := b0_law E) D.int (fun pre σ => ∃ w9 w10 : Option S, σ = [some (.scr ns), some (.mob none (.lst (.int c1 :: r1.map .int))), some (.pure (yD y)), some (.pure (.int y.n)), some (.pure (.int y.l)), some (.pure (.int y.r)), some (.pure (.tup (y.ld.map prD))), some (.pure (oN (dist y (begS y)))), some (.mob none (.lst (pre.map (erD y)))), w9, w10, none, none]) (zs y.ld.length) (σ := [some (.scr ns), some (.mob none (.lst (.int c1 :: r1.map .int))), some (.pure (yD y)), some (.pure (.int y.n)), some (.pure (.int y.l)), some (.pure (.int y.r)), some (.pure (.tup (y.ld.map prD))), some (.pure (oN (dist y (begS y)))), some (.mob none (.lst [])), none, none, none, none]) ⟨none, none, rfl⟩ (by
    rintro pre k post e σ ⟨w9, w10, rfl⟩
    have hk : IxOk y k := zs_mem.mp (by rw [e]; simp)
    have hp : pre.length < 1000 := by
      have : (zs y.ld.length).length = pre.length + (post.length + 1) := by rw [e]; simp
      rw [zs_len] at this
      omega
    exact ⟨_, _, rfl, .inl (v_one E y hy k hk pre hp ns c1 r1 w10 none none), _, _, rfl⟩)
  exact ⟨w9, w10, h1⟩
theorem non_in {y : Y} (hy : okY y) : pyIn (.d (.lst ((zs y.ld.length).map (erD y)))) .non = some (decide (dist y (begS y) = none)) := by
  simp only [pyIn]
  rw [if_pos (by simp [D.dep])]
  congr 1
  rw [Bool.eq_iff_iff, List.any_map, List.any_eq_true]
  simp only [decide_eq_true_eq, Function.comp]
  rw [beg_hop hy]
  have en : ∀ k, (erD y k).eqv .non = true ↔ er y k = none := by
    intro k
    unfold erD
    cases er y k with
    | none => simp [oN, D.eqv]
    | some d => simp [oN, natD, D.eqv]
  constructor
  · rintro ⟨k, h1, h2⟩
    have hk : IxOk y k := zs_mem.mp h1
    exact ⟨k, hk, (er_hop hy hk).mp ((en k).mp h2)⟩
  · rintro ⟨k, h1, h2⟩
    exact ⟨k, zs_mem.mpr h1, (en k).mpr ((er_hop hy h1).mpr h2)⟩
theorem mulT_rep (v : Int) (n : Nat) (h : n ≤ 3) : pyMulT (.tup [.int v]) (.int (n : Int)) = some (.pure (.tup ((List.replicate n v).map .int))) := by
  have : n = 0 ∨ n = 1 ∨ n = 2 ∨ n = 3 := by omega
  rcases this with rfl | rfl | rfl | rfl
  · simp [pyMulT]
  · simp [pyMulT]
  · simp [pyMulT, pyMul]
  · simp [pyMulT, pyMul]

theorem st_99b (y : Y) (l3 : y.ld.length ≤ 3) (σ : Sl) (h : σ[6]? = some (some (.pure (.tup (y.ld.map prD))))) : e2 pyMul (eLst [eC (.int 99)]) (e1 pyLen (eVar 6)) σ = .ok (.own (.lst (iL (List.replicate y.ld.length 99)))) σ :=
  e2_ok (ra := .own (.lst [.int 99])) (rb := .pure (.int (y.ld.length : Int))) (x := .lst [.int 99]) (y := .int (y.ld.length : Int)) rfl (by simp [sSeq, sSkip, sPut, sIf, sRet, sRaise, sDo, sUnpack, sPar, eRs, puts, sSet, mbind, mok, eVar, eC, getD, e1, e2, e2v, eItems, eTup, eLst, tB, tNot, tAnd, tOr, eAnd, eOr, eNot, eIf, getI, eChain, asD, view, slotVw, frz, fix, put, eIn, eOpt, eSlice, eM, isS, isL, eFstr, eCall, eArgs, toA, argsS, argS, argIx, giveBack, runF, startF, toArg, backF, backArg, leaveR, bindT_name, bindT_tup, setAll, iD, iRange1_eq, iRange2, eAppend, isMl, isMo, pyIsi, isTy, b2, pySub', pyIxT, pyIxL, pyLen_t, pyLen_l, pyTuple, scrAt, eScrNil, eScrLen, eScrList, eScrIx, List.mapIdx_cons, List.replicate, h]) rfl rfl (mul_99 y.ld.length l3)
theorem ix_rows {y : Y} {k : Int} (hk : IxOk y k) : pyIx (.lst ((zs y.ld.length).map (erD y))) (.int k) = some (erD y k) := by
  unfold IxOk at hk
  have hl : k.toNat < y.ld.length := by omega
  show (match ixOf k ((zs y.ld.length).map (erD y)).length with | some k => ((zs y.ld.length).map (erD y))[k]? | none => none) = _
  rw [List.length_map, zs_len, ix_int (by omega)]
  dsimp only
  rw [List.getElem?_map]
  unfold zs
  rw [List.getElem?_map, List.getElem?_range hl]
  simp only [Option.map_some]
  rw [show ((k.toNat : Nat) : Int) = k by omega]
theorem ix_iL {ds : List Int} {k : Int} (hk : 0 ≤ k ∧ k < ds.length) : pyIx (.tup (iL ds)) (.int k) = some (.int (dueOf ds k)) := by
  have hl : k.toNat < ds.length := by omega
  show (match ixOf k (iL ds).length with | some k => (iL ds)[k]? | none => none) = _
  rw [iL_len, ix_int (by omega)]
  dsimp only
  simp [iL, dueOf, hl]
theorem v_two (E : Ec) (y : Y) (hy : okY y) (d : Nat) (hd : dist y (begS y) = some d) (k : Int) (hk : IxOk y k) (ns : List Int) (c1 : Int) (r1 : List Int) (q10 q12 : Option S) :
    ∃ w12, b2_law E [some (.scr ns), some (.mob none (.lst (.int c1 :: r1.map .int))), some (.pure (yD y)), some (.pure (.int y.n)), some (.pure (.int y.l)), some (.pure (.int y.r)), some (.pure (.tup (y.ld.map prD))), some (.pure (oN (dist y (begS y)))), some (.mob none (.lst ((zs y.ld.length).map (erD y)))), some (.pure (.int k)), q10, some (.pure (.tup (iL (ldi y y.ld.length)))), q12] = .ok .next [some (.scr ns), some (.mob none (.lst (.int c1 :: r1.map .int))), some (.pure (yD y)), some (.pure (.int y.n)), some (.pure (.int y.l)), some (.pure (.int y.r)), some (.pure (.tup (y.ld.map prD))), some (.pure (oN (dist y (begS y)))), some (.mob none (.lst ((zs y.ld.length).map (erD y)))), some (.pure (.int k)), q10, some (.pure (.tup (iL (ldi y y.ld.length)))), w12] := by
  have l3 := hy.len
  have hk' := hk
  unfold IxOk at hk'
  obtain ⟨e, he, hee⟩ := er_dist hy hk hd
  have e12 := er_few hy hk hee
  have e1' := er_pos hee
  obtain ⟨_, dok⟩ := ldu_some hy hd
  have dn := dok y.ld.length (Nat.le_refl _)
  have nn : dist y (begS y) ≠ none := by rw [hd]; simp
  have ix := ix_rows hk
  have eE : erD y k = natD e := by unfold erD; rw [hee]; rfl
  rw [eE] at ix
  have hL : (List.replicate y.ld.length (99 : Int)).length = y.ld.length := by simp
  have kk : ((k.toNat : Nat) : Int) = k := by omega
  have hkl : k.toNat < (List.replicate y.ld.length (99 : Int)).length := by rw [hL]; omega
  have s1 : (iL (List.replicate y.ld.length 99)).set k.toNat (natD e) = iL ((List.replicate y.ld.length 99).set k.toNat (e : Int)) := by
    unfold iL
    rw [List.map_set]
    rfl
  have s2 : (iL ((List.replicate y.ld.length 99).set k.toNat (e : Int))).set k.toNat (.int ((e : Int) - 1)) = iL ((List.replicate y.ld.length 99).set k.toNat ((e : Int) - 1)) := by
    unfold iL
    rw [← List.map_set, List.set_set]
  have m1 : mts y ((List.replicate y.ld.length 99).set k.toNat (e : Int)) = true := by
    refine mts_first hy hk hee nn ?_ fun j hj hne => ?_
    · have := due_set_eq hkl (e : Int)
      rw [kk] at this
      rw [this]
      omega
    · rw [due_set_ne hj.1 (by omega), due_rep hj]
      omega
  have m2 : mts y ((List.replicate y.ld.length 99).set k.toNat ((e : Int) - 1)) = false := by
    cases q : mts y ((List.replicate y.ld.length 99).set k.toNat ((e : Int) - 1)) with
    | false => rfl
    | true =>
      obtain ⟨e', h1, h2⟩ := mts_er hy q hk
      rw [hee] at h1
      cases h1
      have := due_set_eq hkl ((e : Int) - 1)
      rw [kk] at this
      rw [this] at h2
      omega
  have bd : ∀ v : Int, 0 ≤ v ∧ v ≤ 99 → ∀ x ∈ (List.replicate y.ld.length (99 : Int)).set k.toNat v, 0 ≤ x ∧ x ≤ 99 := by
    intro v hv x hx
    rcases List.mem_or_eq_of_mem_set hx with hx | hx
    · rw [List.eq_of_mem_replicate hx]; omega
    · omega
  have c1' := r_can_meet E y hy ((List.replicate y.ld.length 99).set k.toNat (e : Int)) (by simp) (bd _ (by omega))
  have c2' := r_can_meet E y hy ((List.replicate y.ld.length 99).set k.toNat ((e : Int) - 1)) (by simp) (bd _ (by omega))
  rw [m1] at c1'
  rw [m2] at c2'
  have c1' : F_can_meet E [.pure (yD y), .pure (.tup (iL ((List.replicate y.ld.length 99).set k.toNat (e : Int))))] = .ok (.pure (.bl true)) [.pure (yD y), .pure (.tup (iL ((List.replicate y.ld.length 99).set k.toNat (e : Int))))] := c1'
  have c2' : F_can_meet E [.pure (yD y), .pure (.tup (iL ((List.replicate y.ld.length 99).set k.toNat ((e : Int) - 1))))] = .ok (.pure (.bl false)) [.pure (yD y), .pure (.tup (iL ((List.replicate y.ld.length 99).set k.toNat ((e : Int) - 1))))] := c2'
  have it := ix_iL (ds := ldi y y.ld.length) (k := k) (by rw [ldi_len]; omega)
  obtain ⟨e', h1, h2⟩ := mts_er hy dn.mt hk
  rw [hee] at h1
  cases h1
  have lt : pyLt (.int (dueOf (ldi y y.ld.length) k)) (natD e) = some (.pure (.bl false)) := by
    show some (R.pure (.bl (decide (dueOf (ldi y y.ld.length) k < (e : Int))))) = _
    congr 3
    simp
    omega
  have sb : pySub (natD e) (.int 1) = some (.pure (.int ((e : Int) - 1))) := rfl
  have i1 : ixOf k (iL (List.replicate y.ld.length 99)).length = some k.toNat := by rw [iL_len, hL]; exact ix_int (by omega)
  have i2 : ixOf k (iL ((List.replicate y.ld.length 99).set k.toNat (e : Int))).length = some k.toNat := by rw [iL_len, List.length_set, hL]; exact ix_int (by omega)
  have hb := put_own (i := 12) (st_99b y l3 [some (.scr ns), some (.mob none (.lst (.int c1 :: r1.map .int))), some (.pure (yD y)), some (.pure (.int y.n)), some (.pure (.int y.l)), some (.pure (.int y.r)), some (.pure (.tup (y.ld.map prD))), some (.pure (oN (dist y (begS y)))), some (.mob none (.lst ((zs y.ld.length).map (erD y)))), some (.pure (.int k)), q10, some (.pure (.tup (iL (ldi y y.ld.length)))), q12] rfl)
  refine ⟨some (.mob none (.lst (iL ((List.replicate y.ld.length 99).set k.toNat ((e : Int) - 1))))), ?_⟩
  unfold b2_law
  rw [seq_next hb]
  generalize iL (List.replicate y.ld.length 99) = L0 at *
  generalize iL ((List.replicate y.ld.length 99).set k.toNat (e : Int)) = L1 at *
  generalize iL ((List.replicate y.ld.length 99).set k.toNat ((e : Int) - 1)) = L2 at *
  generalize iL (ldi y y.ld.length) = LT at *
  generalize hrw : (zs y.ld.length).map (erD y) = RW at *
  simp [sSeq, sSkip, sPut, sIf, sRet, sRaise, sDo, sUnpack, sPar, eRs, puts, sSet, mbind, mok, eVar, eC, getD, e1, e2, e2v, eItems, eTup, eLst, tB, tNot, tAnd, tOr, eAnd, eOr, eNot, eIf, getI, eChain, asD, view, slotVw, frz, fix, put, eIn, eOpt, eSlice, eM, isS, isL, eFstr, eCall, eArgs, toA, argsS, argS, argIx, giveBack, runF, startF, toArg, backF, backArg, leaveR, bindT_name, bindT_tup, setAll, iD, iRange1_eq, iRange2, eAppend, isMl, isMo, pyIsi, isTy, b2, pySub', pyIxT, pyIxL, pyLen_t, pyLen_l, pyTuple, scrAt, eScrNil, eScrLen, eScrList, eScrIx, List.mapIdx_cons, List.replicate, ↓ix, i1, ↓s1, c1', pyIsB, ↓it, lt, sb, i2, ↓s2, c2']

theorem sum_const (v : Nat) : ∀ l : List (Int × Int), intsD (l.map fun _ => natD v) = some (l.map fun _ => (v : Int))
  | [] => rfl
  | _ :: l => by
    show (intsD (l.map fun _ => natD v)).map _ = _
    rw [sum_const v l]
    rfl
theorem v_two_all (E : Ec) (y : Y) (hy : okY y) (d : Nat) (hd : dist y (begS y) = some d) (ns : List Int) (c1 : Int) (r1 : List Int) (q9 q10 : Option S) :
    ∃ w9 w12, goFor (.name 9) (b2_law E) ((zs y.ld.length).map .int) [some (.scr ns), some (.mob none (.lst (.int c1 :: r1.map .int))), some (.pure (yD y)), some (.pure (.int y.n)), some (.pure (.int y.l)), some (.pure (.int y.r)), some (.pure (.tup (y.ld.map prD))), some (.pure (oN (dist y (begS y)))), some (.mob none (.lst ((zs y.ld.length).map (erD y)))), q9, q10, some (.pure (.tup (iL (ldi y y.ld.length)))), none] = .ok .next [some (.scr ns), some (.mob none (.lst (.int c1 :: r1.map .int))), some (.pure (yD y)), some (.pure (.int y.n)), some (.pure (.int y.l)), some (.pure (.int y.r)), some (.pure (.tup (y.ld.map prD))), some (.pure (oN (dist y (begS y)))), some (.mob none (.lst ((zs y.ld.length).map (erD y)))), w9, q10, some (.pure (.tup (iL (ldi y y.ld.length)))), w12] := by
  obtain ⟨σ', h1, w9, w12, rfl⟩ := goFor_pre (tg := .name 9) (body := b2_law E) D.int (fun pre σ => ∃ w9 w12 : Option S, σ = [some (.scr ns), some (.mob none (.lst (.int c1 :: r1.map .int))), some (.pure (yD y)), some (.pure (.int y.n)), some (.pure (.int y.l)), some (.pure (.int y.r)), some (.pure (.tup (y.ld.map prD))), some (.pure (oN (dist y (begS y)))), some (.mob none (.lst ((zs y.ld.length).map (erD y)))), w9, q10, some (.pure (.tup (iL (ldi y y.ld.length)))), w12]) (zs y.ld.length) (σ := [some (.scr ns), some (.mob none (.lst (.int c1 :: r1.map .int))), some (.pure (yD y)), some (.pure (.int y.n)), some (.pure (.int y.l)), some (.pure (.int y.r)), some (.pure (.tup (y.ld.map prD))), some (.pure (oN (dist y (begS y)))), some (.mob none (.lst ((zs y.ld.length).map (erD y)))), q9, q10, some (.pure (.tup (iL (ldi y y.ld.length)))), none]) ⟨q9, none, rfl⟩ (by
    rintro pre k post e σ ⟨w9, w12, rfl⟩
    have hk : IxOk y k := zs_mem.mp (by rw [e]; simp)
    obtain ⟨v12, h⟩ := v_two E y hy d hd k hk ns c1 r1 q10 w12
    exact ⟨_, _, rfl, .inl h, _, _, rfl⟩)
  exact ⟨w9, w12, h1⟩
theorem plain_law : ∀ E : Ec, ∀ ns : List Int, ns.length ≤ 63 → ∃ as, F_law E [.scr ns] = .ok (.pure (.bl true)) as := by
  intro E ns hn
  have tw := r_town E ns hn
  obtain ⟨m, ra, hm, la, pk⟩ := r_pickT E ns ns 0 D.int [4, 4, 5] rfl (by omega) (by simp) (by simp)
  obtain ⟨m2, rb, hm2, lb, pk2⟩ := r_pickT E ns ra 1 D.int [2, 2, 3] la (by omega) (by simp) (by simp)
  simp only [List.mem_cons, List.not_mem_nil, or_false] at hm hm2
  obtain ⟨c1, r1, y, l1, _, _, hy, hn5, hld, ya⟩ := r_yard E ns rb 2 m m2 lb (by omega) (by omega) (by omega)
  simp only [List.map_cons, List.map_nil] at pk pk2
  have l3 := hy.len
  have fw := r_fewest E y hy
  have hr := rg_nat y.ld.length (by omega)
  obtain ⟨w9, w10, vl⟩ := v_loop E y hy ns c1 r1
  have ni := non_in hy
  have ld := r_least_dues E y hy
  have mt := mulT_rep 99 y.ld.length l3
  have c99 := r_can_meet E y hy (List.replicate y.ld.length 99) (by simp) (fun x hx => by rw [List.eq_of_mem_replicate hx]; omega)
  refine ⟨[.scr ns], ?_⟩
  cases hd : dist y (begS y) with
  | none =>
    have mf : mts y (List.replicate y.ld.length 99) = false := by
      cases q : mts y (List.replicate y.ld.length 99) with
      | false => rfl
      | true => exact absurd hd ((mts_99 hy).mp q)
    rw [mf] at c99
    rw [(ldu_none hy).mpr hd, show oT none = .non from rfl] at ld
    rw [hd] at fw vl ni
    rw [show oN none = .non from rfl] at fw vl
    have ni : pyIn (.d (.lst ((zs y.ld.length).map (erD y)))) .non = some true := by rw [ni]; simp
    have nb := neB true true
    simp only [beq_self_eq_true, Bool.not_true] at nb
    generalize (zs y.ld.length).map (erD y) = RW at *
    generalize (List.replicate y.ld.length (99 : Int)).map D.int = L99 at *
    simp [F_law, m_law, sSeq, sSkip, sPut, sIf, sRet, sRaise, sDo, sUnpack, sPar, eRs, puts, sSet, mbind, mok, eVar, eC, getD, e1, e2, e2v, eItems, eTup, eLst, tB, tNot, tAnd, tOr, eAnd, eOr, eNot, eIf, getI, eChain, asD, view, slotVw, frz, fix, put, eIn, eOpt, eSlice, eM, isS, isL, eFstr, eCall, eArgs, toA, argsS, argS, argIx, giveBack, runF, startF, toArg, backF, backArg, leaveR, bindT_name, bindT_tup, setAll, iD, iRange1_eq, iRange2, eAppend, isMl, isMo, pyIsi, isTy, b2, pySub', pyIxT, pyIxL, pyLen_t, pyLen_l, pyTuple, scrAt, eScrNil, eScrLen, eScrList, eScrIx, List.mapIdx_cons, List.replicate, tw, pk, pk2, ya, bind_y, fw, hr, sFor, vl, ni, pyIsN, isN, nb, ld, ↓mt, c99, pyIsB]
  | some d =>
    have im : isN (natD d) = false := rfl
    have dub := dist_ub hy (okS_beg hy) rfl rfl hd
    simp only [begS, zs_len] at dub
    obtain ⟨lsome, dok⟩ := ldu_some hy hd
    rw [lsome, oT_some] at ld
    obtain ⟨v9, v12, v2⟩ := v_two_all E y hy d hd ns c1 r1 none w10
    rw [hd] at fw vl ni v2
    rw [show oN (some d) = natD d from rfl] at fw vl v2
    have ni : pyIn (.d (.lst ((zs y.ld.length).map (erD y)))) .non = some false := by rw [ni]; simp
    have nb := neB false false
    simp only [beq_self_eq_true, Bool.not_true] at nb
    have ern : ∀ k ∈ zs y.ld.length, erD y k = natD ((er y k).getD 0) ∧ (er y k).getD 0 ≤ d := fun k hk => by
      obtain ⟨e, h1, h2⟩ := er_dist hy (zs_mem.mp hk) hd
      unfold erD
      rw [h2]
      exact ⟨rfl, h1⟩
    have erm : D.int 0 :: (zs y.ld.length).map (erD y) = (0 :: (zs y.ld.length).map fun k => (er y k).getD 0).map natD := by
      rw [List.map_cons, List.map_map]
      congr 1
      exact List.map_congr_left fun k hk => (ern k hk).1
    have adr : pyAdd (.lst [.int 0]) (.lst ((zs y.ld.length).map (erD y))) = some (.own (.lst (.int 0 :: (zs y.ld.length).map (erD y)))) := by
      show (if _ then _ else _) = _
      rw [if_pos (by simp [zLine, zs_len]; omega)]
      rfl
    obtain ⟨mx, hmx, _, mxe⟩ := maxN (0 :: (zs y.ld.length).map fun k => (er y k).getD 0) (by simp)
    have mxd : mx ≤ d := by
      rcases List.mem_cons.mp hmx with h | h
      · omega
      · obtain ⟨k, hk, rfl⟩ := List.mem_map.mp h
        exact (ern k hk).2
    rw [← erm] at mxe
    have ltm := lt_nat2 d mx mxd
    have cm := comp_mT (vs := [9]) (tg := .name 9) (e := x1_law E) (σ := [some (.scr ns), some (.mob none (.lst (.int c1 :: r1.map .int))), some (.pure (yD y)), some (.pure (.int y.n)), some (.pure (.int y.l)), some (.pure (.int y.r)), some (.pure (.tup (y.ld.map prD))), some (.pure (natD d)), some (.mob none (.lst ((zs y.ld.length).map (erD y)))), none, w10, none, none]) prD (fun _ => natD (4 * y.n.toNat)) y.ld (fun p hp => by
      have n2 := hy.n2
      have n6 := hy.n6
      have m2' : pyMul (.int 2) (.int y.n) = some (.pure (.int (2 * y.n))) := by simp only [pyMul]; rw [if_pos (.inl (by decide))]
      have a2' : pyAdd (.int (2 * y.n)) (.int (2 * y.n)) = some (.pure (natD (4 * y.n.toNat))) := by
        show some (R.pure (.int (2 * y.n + 2 * y.n))) = _
        congr 2
        show D.int _ = D.int _
        congr 1
        omega
      refine ⟨_, [some (.scr ns), some (.mob none (.lst (.int c1 :: r1.map .int))), some (.pure (yD y)), some (.pure (.int y.n)), some (.pure (.int y.l)), some (.pure (.int y.r)), some (.pure (.tup (y.ld.map prD))), some (.pure (natD d)), some (.mob none (.lst ((zs y.ld.length).map (erD y)))), some (.pure (prD p)), w10, none, none], rfl, ?_, rfl⟩
      simp [x1_law, sSeq, sSkip, sPut, sIf, sRet, sRaise, sDo, sUnpack, sPar, eRs, puts, sSet, mbind, mok, eVar, eC, getD, e1, e2, e2v, eItems, eTup, eLst, tB, tNot, tAnd, tOr, eAnd, eOr, eNot, eIf, getI, eChain, asD, view, slotVw, frz, fix, put, eIn, eOpt, eSlice, eM, isS, isL, eFstr, eCall, eArgs, toA, argsS, argS, argIx, giveBack, runF, startF, toArg, backF, backArg, leaveR, bindT_name, bindT_tup, setAll, iD, iRange1_eq, iRange2, eAppend, isMl, isMo, pyIsi, isTy, b2, pySub', pyIxT, pyIxL, pyLen_t, pyLen_l, pyTuple, scrAt, eScrNil, eScrLen, eScrList, eScrIx, List.mapIdx_cons, List.replicate, m2', a2']) (by simp [zLine]; omega)
    have sm : pySum (.lst (y.ld.map fun _ => natD (4 * y.n.toNat))) = some (.pure (natD (4 * y.n.toNat * y.ld.length))) := by
      simp only [pySum, sum_const, Option.map_some]
      congr 2
      show D.int _ = D.int _
      congr 1
      generalize y.ld = l
      induction l with
      | nil => simp
      | cons a l ih =>
        simp only [List.map_cons, List.sum_cons, ih, List.length_cons]
        rw [Nat.mul_add, Nat.mul_one]
        omega
    have dle : d ≤ 4 * y.n.toNat * y.ld.length := by
      have n2 := hy.n2
      by_cases h3 : 3 ≤ y.n
      · have : 12 * y.ld.length ≤ 4 * y.n.toNat * y.ld.length := Nat.mul_le_mul_right _ (by omega)
        omega
      · have h0 : y.ld.length = 0 := by
          cases q : y.ld with
          | nil => rfl
          | cons p l =>
            exfalso
            have hk : IxOk y 0 := by unfold IxOk; rw [q]; simp
            have okp := ldk_ok hy hk
            unfold okP at okp
            have : hop y 0 := by
              unfold hop
              generalize ldAt y 0 = pq at *
              obtain ⟨a, b⟩ := pq
              simp only [Prod.mk.injEq] at okp ⊢
              omega
            rw [(beg_hop hy).mpr ⟨0, hk, this⟩] at hd
            cases hd
        omega
    have gts := gt_nat2 d _ dle
    have c1' := r_can_meet E y hy (List.replicate y.ld.length (d : Int)) (by simp) (fun x hx => by rw [List.eq_of_mem_replicate hx]; omega)
    rw [mts_plan hy hd (fun k hk => by rw [due_rep hk]; omega)] at c1'
    have mtd : pyMulT (.tup [natD d]) (.int (y.ld.length : Int)) = _ := mulT_rep (d : Int) y.ld.length l3
    have told0 : 0 < y.ld.length → pyNe (.int (dueOf (ldi y y.ld.length) 0)) (erD y 0) = some (.pure (.bl false)) := fun h => by
      have hk : IxOk y 0 := by unfold IxOk; omega
      obtain ⟨e, _, h2⟩ := er_dist hy hk hd
      rw [ldi_first hy hd hk h2]
      unfold erD
      rw [h2]
      exact neRefl (by simp [oN, natD, D.dep])
    have tix : 0 < y.ld.length → pyIx (.tup (iL (ldi y y.ld.length))) (.int 0) = some (.int (dueOf (ldi y y.ld.length) 0)) := fun h => ix_iL (by rw [ldi_len]; omega)
    have rix : 0 < y.ld.length → pyIx (.lst ((zs y.ld.length).map (erD y))) (.int 0) = some (erD y 0) := fun h => ix_rows (by unfold IxOk; omega)
    have sb : pySub (natD d) (.int 1) = some (.pure (.int ((d : Int) - 1))) := rfl
    have fin : d ≠ 0 → F_can_meet E [.pure (yD y), .pure (.tup ((List.replicate y.ld.length ((d : Int) - 1)).map .int))] = .ok (.pure (.bl false)) [.pure (yD y), .pure (.tup ((List.replicate y.ld.length ((d : Int) - 1)).map .int))] := fun h => by
      have := r_can_meet E y hy (List.replicate y.ld.length ((d : Int) - 1)) (by simp) (fun x hx => by rw [List.eq_of_mem_replicate hx]; omega)
      have mf : mts y (List.replicate y.ld.length ((d : Int) - 1)) = false := by
        cases q : mts y (List.replicate y.ld.length ((d : Int) - 1)) with
        | false => rfl
        | true =>
          obtain ⟨d', h1, h2⟩ := mts_short hy (m := d - 1) (fun k hk => by rw [due_rep hk]; omega) q
          rw [hd] at h2
          cases h2
          omega
      rwa [mf] at this
    have mt1 := mulT_rep ((d : Int) - 1) y.ld.length l3
    have eqz := eq_nat0 d
    have gl : pyGt (.int (y.ld.length : Int)) (.int 0) = some (.pure (.bl (decide (0 < (y.ld.length : Int))))) := rfl
    generalize hRW : (zs y.ld.length).map (erD y) = RW at *
    generalize iL (ldi y y.ld.length) = LT at *
    generalize (List.replicate y.ld.length (d : Int)).map D.int = Ld at *
    generalize (List.replicate y.ld.length ((d : Int) - 1)).map D.int = Ld1 at *
    by_cases hz : d = 0
    · have z1 : decide (d = 0) = true := by simpa using hz
      rw [z1] at eqz
      by_cases hl : 0 < y.ld.length
      · have g1 : decide (0 < (y.ld.length : Int)) = true := decide_eq_true (by omega)
        rw [g1] at gl
        have a1 := told0 hl
        have a2 := tix hl
        have a3 := rix hl
        simp [F_law, m_law, sSeq, sSkip, sPut, sIf, sRet, sRaise, sDo, sUnpack, sPar, eRs, puts, sSet, mbind, mok, eVar, eC, getD, e1, e2, e2v, eItems, eTup, eLst, tB, tNot, tAnd, tOr, eAnd, eOr, eNot, eIf, getI, eChain, asD, view, slotVw, frz, fix, put, eIn, eOpt, eSlice, eM, isS, isL, eFstr, eCall, eArgs, toA, argsS, argS, argIx, giveBack, runF, startF, toArg, backF, backArg, leaveR, bindT_name, bindT_tup, setAll, iD, iRange1_eq, iRange2, eAppend, isMl, isMo, pyIsi, isTy, b2, pySub', pyIxT, pyIxL, pyLen_t, pyLen_l, pyTuple, scrAt, eScrNil, eScrLen, eScrList, eScrIx, List.mapIdx_cons, List.replicate, tw, pk, pk2, ya, bind_y, fw, hr, sFor, vl, ni, pyIsN, im, nb, adr, mxe, ltm, eComp, wipeS, cm, sm, gts, ld, v2, ↓gl, ↓a2, ↓a3, a1, ↓mtd, c1', pyIsB, eqz]
      · have g1 : decide (0 < (y.ld.length : Int)) = false := decide_eq_false (by omega)
        rw [g1] at gl
        simp [F_law, m_law, sSeq, sSkip, sPut, sIf, sRet, sRaise, sDo, sUnpack, sPar, eRs, puts, sSet, mbind, mok, eVar, eC, getD, e1, e2, e2v, eItems, eTup, eLst, tB, tNot, tAnd, tOr, eAnd, eOr, eNot, eIf, getI, eChain, asD, view, slotVw, frz, fix, put, eIn, eOpt, eSlice, eM, isS, isL, eFstr, eCall, eArgs, toA, argsS, argS, argIx, giveBack, runF, startF, toArg, backF, backArg, leaveR, bindT_name, bindT_tup, setAll, iD, iRange1_eq, iRange2, eAppend, isMl, isMo, pyIsi, isTy, b2, pySub', pyIxT, pyIxL, pyLen_t, pyLen_l, pyTuple, scrAt, eScrNil, eScrLen, eScrList, eScrIx, List.mapIdx_cons, List.replicate, tw, pk, pk2, ya, bind_y, fw, hr, sFor, vl, ni, pyIsN, im, nb, adr, mxe, ltm, eComp, wipeS, cm, sm, gts, ld, v2, ↓gl, ↓mtd, c1', pyIsB, eqz]
    · have z1 : decide (d = 0) = false := by simpa using hz
      rw [z1] at eqz
      have fn := fin hz
      by_cases hl : 0 < y.ld.length
      · have g1 : decide (0 < (y.ld.length : Int)) = true := decide_eq_true (by omega)
        rw [g1] at gl
        have a1 := told0 hl
        have a2 := tix hl
        have a3 := rix hl
        simp [F_law, m_law, sSeq, sSkip, sPut, sIf, sRet, sRaise, sDo, sUnpack, sPar, eRs, puts, sSet, mbind, mok, eVar, eC, getD, e1, e2, e2v, eItems, eTup, eLst, tB, tNot, tAnd, tOr, eAnd, eOr, eNot, eIf, getI, eChain, asD, view, slotVw, frz, fix, put, eIn, eOpt, eSlice, eM, isS, isL, eFstr, eCall, eArgs, toA, argsS, argS, argIx, giveBack, runF, startF, toArg, backF, backArg, leaveR, bindT_name, bindT_tup, setAll, iD, iRange1_eq, iRange2, eAppend, isMl, isMo, pyIsi, isTy, b2, pySub', pyIxT, pyIxL, pyLen_t, pyLen_l, pyTuple, scrAt, eScrNil, eScrLen, eScrList, eScrIx, List.mapIdx_cons, List.replicate, tw, pk, pk2, ya, bind_y, fw, hr, sFor, vl, ni, pyIsN, im, nb, adr, mxe, ltm, eComp, wipeS, cm, sm, gts, ld, v2, ↓gl, ↓a2, ↓a3, a1, ↓mtd, c1', pyIsB, eqz, ↓sb, ↓mt1, fn]
      · have g1 : decide (0 < (y.ld.length : Int)) = false := decide_eq_false (by omega)
        rw [g1] at gl
        simp [F_law, m_law, sSeq, sSkip, sPut, sIf, sRet, sRaise, sDo, sUnpack, sPar, eRs, puts, sSet, mbind, mok, eVar, eC, getD, e1, e2, e2v, eItems, eTup, eLst, tB, tNot, tAnd, tOr, eAnd, eOr, eNot, eIf, getI, eChain, asD, view, slotVw, frz, fix, put, eIn, eOpt, eSlice, eM, isS, isL, eFstr, eCall, eArgs, toA, argsS, argS, argIx, giveBack, runF, startF, toArg, backF, backArg, leaveR, bindT_name, bindT_tup, setAll, iD, iRange1_eq, iRange2, eAppend, isMl, isMo, pyIsi, isTy, b2, pySub', pyIxT, pyIxL, pyLen_t, pyLen_l, pyTuple, scrAt, eScrNil, eScrLen, eScrList, eScrIx, List.mapIdx_cons, List.replicate, tw, pk, pk2, ya, bind_y, fw, hr, sFor, vl, ni, pyIsN, im, nb, adr, mxe, ltm, eComp, wipeS, cm, sm, gts, ld, v2, ↓gl, ↓mtd, c1', pyIsB, eqz, ↓sb, ↓mt1, fn]

end DL

namespace DL
open PySem L2
def top (i : Nat) : Stmt := PySem.Challenge.pw_twocranes_k52_loads_by_themselves.main.body.getD i (.Pass ⟨0, 0, 0, 0⟩)
abbrev st_L_town : Stmt := top 29
abbrev st_L_draw : Stmt := top 30
abbrev st_L_yard : Stmt := top 32
abbrev st_L_pick : Stmt := top 31
abbrev st_is_between : Stmt := top 6
abbrev st_is_yard : Stmt := top 7
abbrev st_check_yard : Stmt := top 8
abbrev st_acts_of : Stmt := top 11
abbrev st_step_of : Stmt := top 13
abbrev st_nexts : Stmt := top 12
abbrev st_is_finished : Stmt := top 14
abbrev st_distances : Stmt := top 22
abbrev st_begin : Stmt := top 10
abbrev st_fewest_of : Stmt := top 23
abbrev st_fewest : Stmt := top 24
abbrev st_check_load : Stmt := top 9
abbrev st_set_down : Stmt := top 16
abbrev st_earliest : Stmt := top 17
abbrev st_found_hopeless : Stmt := top 26
abbrev st_hopeless : Stmt := top 27
abbrev st_does_meet : Stmt := top 18
abbrev st_least_dues : Stmt := top 20
abbrev st_can_meet : Stmt := top 19
abbrev st_law : Stmt := top 33
structure Tz (K : PySem.W.Frag) (mg : Str → Option Value) (E : Ec) (cE : Addr) (a_L_town : Addr) (fd_L_town : FuncData) (a_L_draw : Addr) (fd_L_draw : FuncData) (a_L_yard : Addr) (fd_L_yard : FuncData) (a_L_pick : Addr) (fd_L_pick : FuncData) (a_is_between : Addr) (fd_is_between : FuncData) (a_is_yard : Addr) (fd_is_yard : FuncData) (a_check_yard : Addr) (fd_check_yard : FuncData) (a_acts_of : Addr) (fd_acts_of : FuncData) (a_step_of : Addr) (fd_step_of : FuncData) (a_nexts : Addr) (fd_nexts : FuncData) (a_is_finished : Addr) (fd_is_finished : FuncData) (a_distances : Addr) (fd_distances : FuncData) (a_begin : Addr) (fd_begin : FuncData) (a_fewest_of : Addr) (fd_fewest_of : FuncData) (a_fewest : Addr) (fd_fewest : FuncData) (a_check_load : Addr) (fd_check_load : FuncData) (a_set_down : Addr) (fd_set_down : FuncData) (a_earliest : Addr) (fd_earliest : FuncData) (a_found_hopeless : Addr) (fd_found_hopeless : FuncData) (a_hopeless : Addr) (fd_hopeless : FuncData) (a_does_meet : Addr) (fd_does_meet : FuncData) (a_least_dues : Addr) (fd_least_dues : FuncData) (a_can_meet : Addr) (fd_can_meet : FuncData) (a_law : Addr) (fd_law : FuncData) : Prop where
  b_all : mg "all" = none
  b_bool : mg "bool" = none
  b_enumerate : mg "enumerate" = none
  b_int : mg "int" = none
  b_isinstance : mg "isinstance" = none
  b_len : mg "len" = none
  b_list : mg "list" = none
  b_max : mg "max" = none
  b_range : mg "range" = none
  b_sorted : mg "sorted" = none
  b_sum : mg "sum" = none
  b_tuple : mg "tuple" = none
  d_L_town : Dz K mg "_law_town" a_L_town fd_L_town ["script"]
  d_L_draw : Dz K mg "_law_draw" a_L_draw fd_L_draw ["script", "town", "limit"]
  d_L_yard : Dz K mg "_law_yard" a_L_yard fd_L_yard ["script", "town", "most", "loads"]
  d_L_pick : Dz K mg "_law_pick" a_L_pick fd_L_pick ["script", "town", "choices"]
  d_is_between : Dz K mg "is_between" a_is_between fd_is_between ["value", "low", "high"]
  d_is_yard : Dz K mg "is_yard" a_is_yard fd_is_yard ["value"]
  d_check_yard : Dz K mg "check_yard" a_check_yard fd_check_yard ["value"]
  d_acts_of : Dz K mg "acts_of" a_acts_of fd_acts_of ["yard", "place", "carried", "lying"]
  d_step_of : Dz K mg "step_of" a_step_of fd_step_of ["row"]
  d_nexts : Dz K mg "nexts" a_nexts fd_nexts ["yard", "state"]
  d_is_finished : Dz K mg "is_finished" a_is_finished fd_is_finished ["state"]
  d_distances : Dz K mg "distances" a_distances fd_distances ["yard", "state"]
  d_begin : Dz K mg "begin" a_begin fd_begin ["yard"]
  d_fewest_of : Dz K mg "fewest_of" a_fewest_of fd_fewest_of ["yard"]
  d_fewest : Dz K mg "fewest" a_fewest fd_fewest ["yard"]
  d_check_load : Dz K mg "check_load" a_check_load fd_check_load ["yard", "load"]
  d_set_down : Dz K mg "set_down" a_set_down fd_set_down ["state", "later"]
  d_earliest : Dz K mg "earliest" a_earliest fd_earliest ["yard", "load"]
  d_found_hopeless : Dz K mg "found_hopeless" a_found_hopeless fd_found_hopeless ["yard"]
  d_hopeless : Dz K mg "hopeless" a_hopeless fd_hopeless ["yard"]
  d_does_meet : Dz K mg "does_meet" a_does_meet fd_does_meet ["yard", "dues"]
  d_least_dues : Dz K mg "least_dues" a_least_dues fd_least_dues ["yard"]
  d_can_meet : Dz K mg "can_meet" a_can_meet fd_can_meet ["yard", "dues"]
  d_law : Dz K mg "law" a_law fd_law ["script"]
  z_InvalidYard : Rz K mg "InvalidYard" E.yard
  z_InvalidLoad : Rz K mg "InvalidLoad" E.load
  z_InvalidDues : Rz K mg "InvalidDues" E.dues
section
variable {P : Program} {w : World} {K : PySem.W.Frag} {mg : Str → Option Value} {base : Heap} {E : Ec} {cE : Addr} {a_L_town : Addr} {fd_L_town : FuncData} {a_L_draw : Addr} {fd_L_draw : FuncData} {a_L_yard : Addr} {fd_L_yard : FuncData} {a_L_pick : Addr} {fd_L_pick : FuncData} {a_is_between : Addr} {fd_is_between : FuncData} {a_is_yard : Addr} {fd_is_yard : FuncData} {a_check_yard : Addr} {fd_check_yard : FuncData} {a_acts_of : Addr} {fd_acts_of : FuncData} {a_step_of : Addr} {fd_step_of : FuncData} {a_nexts : Addr} {fd_nexts : FuncData} {a_is_finished : Addr} {fd_is_finished : FuncData} {a_distances : Addr} {fd_distances : FuncData} {a_begin : Addr} {fd_begin : FuncData} {a_fewest_of : Addr} {fd_fewest_of : FuncData} {a_fewest : Addr} {fd_fewest : FuncData} {a_check_load : Addr} {fd_check_load : FuncData} {a_set_down : Addr} {fd_set_down : FuncData} {a_earliest : Addr} {fd_earliest : FuncData} {a_found_hopeless : Addr} {fd_found_hopeless : FuncData} {a_hopeless : Addr} {fd_hopeless : FuncData} {a_does_meet : Addr} {fd_does_meet : FuncData} {a_least_dues : Addr} {fd_least_dues : FuncData} {a_can_meet : Addr} {fd_can_meet : FuncData} {a_law : Addr} {fd_law : FuncData}
theorem sc_L_town : FnScope ["script"] ["script"] (defScope st_L_town) := ⟨rfl, rfl, rfl, by decide +kernel, rfl, by decide +kernel, by decide +kernel⟩
set_option maxHeartbeats 4000000 in
theorem ok_L_town (T : Tz K mg E cE a_L_town fd_L_town a_L_draw fd_L_draw a_L_yard fd_L_yard a_L_pick fd_L_pick a_is_between fd_is_between a_is_yard fd_is_yard a_check_yard fd_check_yard a_acts_of fd_acts_of a_step_of fd_step_of a_nexts fd_nexts a_is_finished fd_is_finished a_distances fd_distances a_begin fd_begin a_fewest_of fd_fewest_of a_fewest fd_fewest a_check_load fd_check_load a_set_down fd_set_down a_earliest fd_earliest a_found_hopeless fd_found_hopeless a_hopeless fd_hopeless a_does_meet fd_does_meet a_least_dues fd_least_dues a_can_meet fd_can_meet a_law fd_law) (Fu : Fun K "_law_town" "_law_town" st_L_town a_L_town fd_L_town)   : FnOk P w K mg base (L2.CX P w) 1 a_L_town fd_L_town ["script"] (spD P w idA K 1 (F_L_town E)) := by
  refine fn_ok (cl := idA) (k := 0) Fu sc_L_town (by decide) fun cdv A outer s H vs EX hr => ?_
  have hu1 := hu64 hr
  have hu := Nat.lt_of_succ_lt hu1
  have tk := takes_of (X := cxOf (L2.CX P w) P w K mg base ["script"] "_law_town" (defScope st_L_town) a_L_town cdv A outer s H EX) (E := EX) rfl rfl rfl rfl
  exact (dss_one (ds_ret (de_bin or_add o_add (de_lst (da_cons de_int da_nil)) (de_scrList rfl rfl T.b_list (pv 0)))))
theorem sc_L_draw : FnScope ["script", "town", "limit", "at", "left", "number"] ["script", "town", "limit"] (defScope st_L_draw) := ⟨rfl, rfl, rfl, by decide +kernel, rfl, by decide +kernel, by decide +kernel⟩
set_option maxHeartbeats 4000000 in
theorem ok_L_draw (T : Tz K mg E cE a_L_town fd_L_town a_L_draw fd_L_draw a_L_yard fd_L_yard a_L_pick fd_L_pick a_is_between fd_is_between a_is_yard fd_is_yard a_check_yard fd_check_yard a_acts_of fd_acts_of a_step_of fd_step_of a_nexts fd_nexts a_is_finished fd_is_finished a_distances fd_distances a_begin fd_begin a_fewest_of fd_fewest_of a_fewest fd_fewest a_check_load fd_check_load a_set_down fd_set_down a_earliest fd_earliest a_found_hopeless fd_found_hopeless a_hopeless fd_hopeless a_does_meet fd_does_meet a_least_dues fd_least_dues a_can_meet fd_can_meet a_law fd_law) (Fu : Fun K "_law_draw" "_law_draw" st_L_draw a_L_draw fd_L_draw)   : FnOk P w K mg base (L2.CX P w) 1 a_L_draw fd_L_draw ["script", "town", "limit"] (spD P w idA K 3 (F_L_draw E)) := by
  refine fn_ok (cl := idA) (k := 0) Fu sc_L_draw (by decide) fun cdv A outer s H vs EX hr => ?_
  have hu1 := hu64 hr
  have hu := Nat.lt_of_succ_lt hu1
  have tk := takes_of (X := cxOf (L2.CX P w) P w K mg base ["script", "town", "limit", "at", "left", "number"] "_law_draw" (defScope st_L_draw) a_L_draw cdv A outer s H EX) (E := EX) rfl rfl rfl rfl
  exact (dss_cons (ds_set (Nat.lt_of_succ_lt hu1) (pv 1) de_int (de_bin or_add o_add (de_sub (Nat.lt_of_succ_lt hu1) (ev 1) de_int) de_int)) (dss_cons (ds_if (dt_scrNil rfl hu (pv 0)) (dss_one (ds_ret (de_bin op_mod o_mod (de_bin op_fdiv o_fdiv (de_bin or_mul o_mul (de_bin or_mul o_mul (de_sub (Nat.lt_of_succ_lt hu1) (ev 1) de_int) (de_sub (Nat.lt_of_succ_lt hu1) (ev 1) de_int)) de_int) de_int) (ev 2)))) dss_nil) (dss_cons (ds_put (i := 3) sc_L_draw.nd rfl (by first | exact Or.inl rfl | exact Or.inr rfl) (de_bin op_mod o_mod (de_sub (Nat.lt_of_succ_lt hu1) (ev 1) de_int) (de_scrLen rfl rfl T.b_len (pv 0)))) (dss_cons (ds_put (i := 4) sc_L_draw.nd rfl (by first | exact Or.inl rfl | exact Or.inr rfl) (de_sub (Nat.lt_of_succ_lt hu1) (ev 1) (de_bin or_add o_add de_int (ev 3)))) (dss_cons (ds_if (dt_w (dw_and (dt_cmp op_ge o_ge (de_scrIx rfl (pv 0) (ev 3)) (de_bin op_pow o_pow de_int de_int) (nomark _)) (dw_and1 (dt_cmp op_gt o_gt (ev 4) de_int (nomark _))))) (dss_cons (ds_set (Nat.lt_of_succ_lt hu1) (pv 1) (de_bin or_add o_add de_int (ev 3)) (de_bin op_fdiv o_fdiv (ev 4) (ev 2))) (dss_one (ds_ret (de_bin op_mod o_mod (ev 4) (ev 2))))) dss_nil) (dss_cons (ds_put (i := 5) sc_L_draw.nd rfl (by first | exact Or.inl rfl | exact Or.inr rfl) (de_bin op_mod o_mod (de_bin or_add o_add (de_scrIx rfl (pv 0) (ev 3)) (de_bin or_mul o_mul de_int (de_sub (Nat.lt_of_succ_lt hu1) (ev 1) de_int))) de_int)) (dss_cons (ds_put (i := 5) sc_L_draw.nd rfl (by first | exact Or.inl rfl | exact Or.inr rfl) (de_bin op_mod o_mod (de_bin op_pow o_pow (ev 5) de_int) de_int)) (dss_one (ds_ret (de_bin op_mod o_mod (de_bin op_fdiv o_fdiv (de_bin op_mod o_mod (de_bin or_add o_add (de_bin or_mul o_mul (de_bin op_fdiv o_fdiv (ev 5) de_int) de_int) (ev 5)) de_int) de_int) (ev 2)))))))))))
theorem sc_L_yard : FnScope ["script", "town", "most", "loads", "size", "left", "right", "some", "k", "place", "goal"] ["script", "town", "most", "loads"] (defScope st_L_yard) := ⟨rfl, rfl, rfl, by decide +kernel, rfl, by decide +kernel, by decide +kernel⟩
set_option maxHeartbeats 4000000 in
theorem ok_L_yard (T : Tz K mg E cE a_L_town fd_L_town a_L_draw fd_L_draw a_L_yard fd_L_yard a_L_pick fd_L_pick a_is_between fd_is_between a_is_yard fd_is_yard a_check_yard fd_check_yard a_acts_of fd_acts_of a_step_of fd_step_of a_nexts fd_nexts a_is_finished fd_is_finished a_distances fd_distances a_begin fd_begin a_fewest_of fd_fewest_of a_fewest fd_fewest a_check_load fd_check_load a_set_down fd_set_down a_earliest fd_earliest a_found_hopeless fd_found_hopeless a_hopeless fd_hopeless a_does_meet fd_does_meet a_least_dues fd_least_dues a_can_meet fd_can_meet a_law fd_law) (Fu : Fun K "_law_yard" "_law_yard" st_L_yard a_L_yard fd_L_yard) (G_L_draw : FnOk P w K mg base (L2.CX P w) 1 a_L_draw fd_L_draw ["script", "town", "limit"] (spD P w idA K 3 (F_L_draw E)))  : FnOk P w K mg base (L2.CX P w) 2 a_L_yard fd_L_yard ["script", "town", "most", "loads"] (spD P w idA K 4 (F_L_yard E)) := by
  refine fn_ok (cl := idA) (k := 1) Fu sc_L_yard (by decide) fun cdv A outer s H vs EX hr => ?_
  have hu1 := hu64 hr
  have hu := Nat.lt_of_succ_lt hu1
  have tk := takes_of (X := cxOf (L2.CX P w) P w K mg base ["script", "town", "most", "loads", "size", "left", "right", "some", "k", "place", "goal"] "_law_yard" (defScope st_L_yard) a_L_yard cdv A outer s H EX) (E := EX) rfl rfl rfl rfl
  exact (dss_cons (ds_put (i := 4) sc_L_yard.nd rfl (by first | exact Or.inl rfl | exact Or.inr rfl) (de_bin or_add o_add de_int (de_call rfl tk G_L_draw (hr.mono (by decide)) (by exact rfl) T.d_L_draw.g T.d_L_draw.k T.d_L_draw.b (das_cons (m := .ref) (ev 0) (das_cons (m := .ref) (ev 1) (das_cons (m := .val) (de_bin op_sub o_sub (ev 2) de_int) das_nil)))))) (dss_cons (ds_put (i := 5) sc_L_yard.nd rfl (by first | exact Or.inl rfl | exact Or.inr rfl) (de_call rfl tk G_L_draw (hr.mono (by decide)) (by exact rfl) T.d_L_draw.g T.d_L_draw.k T.d_L_draw.b (das_cons (m := .ref) (ev 0) (das_cons (m := .ref) (ev 1) (das_cons (m := .val) (de_bin op_sub o_sub (ev 4) de_int) das_nil))))) (dss_cons (ds_put (i := 6) sc_L_yard.nd rfl (by first | exact Or.inl rfl | exact Or.inr rfl) (de_bin or_add o_add (de_bin or_add o_add (ev 5) de_int) (de_call rfl tk G_L_draw (hr.mono (by decide)) (by exact rfl) T.d_L_draw.g T.d_L_draw.k T.d_L_draw.b (das_cons (m := .ref) (ev 0) (das_cons (m := .ref) (ev 1) (das_cons (m := .val) (de_bin op_sub o_sub (de_bin op_sub o_sub (ev 4) de_int) (ev 5)) das_nil)))))) (dss_cons (ds_put (i := 7) sc_L_yard.nd rfl (by first | exact Or.inl rfl | exact Or.inr rfl) (de_lst da_nil)) (dss_cons (ds_for PassesOwn.leaving rfl (di_range1 (by exact rfl) T.b_range (de_call rfl tk G_L_draw (hr.mono (by decide)) (by exact rfl) T.d_L_draw.g T.d_L_draw.k T.d_L_draw.b (das_cons (m := .ref) (ev 0) (das_cons (m := .ref) (ev 1) (das_cons (m := .val) (de_bin or_add o_add (ev 3) de_int) das_nil))))) (dg_name (i := 8) sc_L_yard.nd rfl (by first | exact Or.inl rfl | exact Or.inr rfl)) (dss_cons (ds_put (i := 9) sc_L_yard.nd rfl (by first | exact Or.inl rfl | exact Or.inr rfl) (de_call rfl tk G_L_draw (hr.mono (by decide)) (by exact rfl) T.d_L_draw.g T.d_L_draw.k T.d_L_draw.b (das_cons (m := .ref) (ev 0) (das_cons (m := .ref) (ev 1) (das_cons (m := .ref) (ev 4) das_nil))))) (dss_cons (ds_put (i := 10) sc_L_yard.nd rfl (by first | exact Or.inl rfl | exact Or.inr rfl) (de_bin op_mod o_mod (de_bin or_add o_add (de_bin or_add o_add (ev 9) de_int) (de_call rfl tk G_L_draw (hr.mono (by decide)) (by exact rfl) T.d_L_draw.g T.d_L_draw.k T.d_L_draw.b (das_cons (m := .ref) (ev 0) (das_cons (m := .ref) (ev 1) (das_cons (m := .val) (de_bin op_sub o_sub (ev 4) de_int) das_nil))))) (ev 4))) (dss_cons (ds_if (dt_w (dw_and (dt_cmp (or_eq hu) o_eq (de_call1 cr_sorted o_sortI (by exact rfl) T.b_sorted (by decide +kernel) (de_lst (da_cons (ev 9) (da_cons (ev 10) da_nil)))) (de_lst (da_cons de_int (da_cons (de_bin op_sub o_sub (ev 4) de_int) da_nil))) (nomark _)) (dw_and (dt_cmp op_gt o_gt (ev 4) de_int (nomark _)) (dw_and1 (dt_cmp op_gt o_gt (de_call rfl tk G_L_draw (hr.mono (by decide)) (by exact rfl) T.d_L_draw.g T.d_L_draw.k T.d_L_draw.b (das_cons (m := .ref) (ev 0) (das_cons (m := .ref) (ev 1) (das_cons (m := .val) de_int das_nil)))) de_int (nomark _)))))) (dss_one (ds_unpack (dg_tup rfl (dgs_cons (i := 9) sc_L_yard.nd rfl (by first | exact Or.inl rfl | exact Or.inr rfl) (dgs_cons (i := 10) sc_L_yard.nd rfl (by first | exact Or.inl rfl | exact Or.inr rfl) dgs_nil))) (de_if (dt_cmp (or_eq hu) o_eq (ev 10) de_int (nomark _)) (de_tup (da_cons de_int (da_cons de_int da_nil))) (de_tup (da_cons de_int (da_cons de_int da_nil)))))) dss_nil) (dss_one (ds_do (de_append (pv 7) (de_tup (da_cons (ev 9) (da_cons (ev 10) da_nil)))))))))) (dss_one (ds_ret (de_tup (da_cons (ev 4) (da_cons (ev 5) (da_cons (ev 6) (da_cons (de_callT1 call_tuple_of o_tuple (by exact rfl) T.b_tuple (by decide +kernel) (ev 7)) da_nil))))))))))))
theorem sc_L_pick : FnScope ["script", "town", "choices"] ["script", "town", "choices"] (defScope st_L_pick) := ⟨rfl, rfl, rfl, by decide +kernel, rfl, by decide +kernel, by decide +kernel⟩
set_option maxHeartbeats 4000000 in
theorem ok_L_pick (T : Tz K mg E cE a_L_town fd_L_town a_L_draw fd_L_draw a_L_yard fd_L_yard a_L_pick fd_L_pick a_is_between fd_is_between a_is_yard fd_is_yard a_check_yard fd_check_yard a_acts_of fd_acts_of a_step_of fd_step_of a_nexts fd_nexts a_is_finished fd_is_finished a_distances fd_distances a_begin fd_begin a_fewest_of fd_fewest_of a_fewest fd_fewest a_check_load fd_check_load a_set_down fd_set_down a_earliest fd_earliest a_found_hopeless fd_found_hopeless a_hopeless fd_hopeless a_does_meet fd_does_meet a_least_dues fd_least_dues a_can_meet fd_can_meet a_law fd_law) (Fu : Fun K "_law_pick" "_law_pick" st_L_pick a_L_pick fd_L_pick) (G_L_draw : FnOk P w K mg base (L2.CX P w) 1 a_L_draw fd_L_draw ["script", "town", "limit"] (spD P w idA K 3 (F_L_draw E)))  : FnOk P w K mg base (L2.CX P w) 2 a_L_pick fd_L_pick ["script", "town", "choices"] (spD P w idA K 3 (F_L_pick E)) := by
  refine fn_ok (cl := idA) (k := 1) Fu sc_L_pick (by decide) fun cdv A outer s H vs EX hr => ?_
  have hu1 := hu64 hr
  have hu := Nat.lt_of_succ_lt hu1
  have tk := takes_of (X := cxOf (L2.CX P w) P w K mg base ["script", "town", "choices"] "_law_pick" (defScope st_L_pick) a_L_pick cdv A outer s H EX) (E := EX) rfl rfl rfl rfl
  exact (dss_one (ds_ret (de_sub (Nat.lt_of_succ_lt hu1) (ev 2) (de_call rfl tk G_L_draw (hr.mono (by decide)) (by exact rfl) T.d_L_draw.g T.d_L_draw.k T.d_L_draw.b (das_cons (m := .ref) (ev 0) (das_cons (m := .ref) (ev 1) (das_cons (m := .val) (de_call1 call_len o_len (by exact rfl) T.b_len (by decide +kernel) (ev 2)) das_nil)))))))
theorem sc_is_between : FnScope ["value", "low", "high"] ["value", "low", "high"] (defScope st_is_between) := ⟨rfl, rfl, rfl, by decide +kernel, rfl, by decide +kernel, by decide +kernel⟩
set_option maxHeartbeats 4000000 in
theorem ok_is_between (T : Tz K mg E cE a_L_town fd_L_town a_L_draw fd_L_draw a_L_yard fd_L_yard a_L_pick fd_L_pick a_is_between fd_is_between a_is_yard fd_is_yard a_check_yard fd_check_yard a_acts_of fd_acts_of a_step_of fd_step_of a_nexts fd_nexts a_is_finished fd_is_finished a_distances fd_distances a_begin fd_begin a_fewest_of fd_fewest_of a_fewest fd_fewest a_check_load fd_check_load a_set_down fd_set_down a_earliest fd_earliest a_found_hopeless fd_found_hopeless a_hopeless fd_hopeless a_does_meet fd_does_meet a_least_dues fd_least_dues a_can_meet fd_can_meet a_law fd_law) (Fu : Fun K "is_between" "is_between" st_is_between a_is_between fd_is_between)   : FnOk P w K mg base (L2.CX P w) 1 a_is_between fd_is_between ["value", "low", "high"] (spD P w idA K 3 (F_is_between E)) := by
  refine fn_ok (cl := idA) (k := 0) Fu sc_is_between (by decide) fun cdv A outer s H vs EX hr => ?_
  have hu1 := hu64 hr
  have hu := Nat.lt_of_succ_lt hu1
  have tk := takes_of (X := cxOf (L2.CX P w) P w K mg base ["value", "low", "high"] "is_between" (defScope st_is_between) a_is_between cdv A outer s H EX) (E := EX) rfl rfl rfl rfl
  exact (dss_one (ds_ret (de_and (de_isi (t := .int) (by exact rfl) T.b_isinstance (ev 0) (pe_bltn (by exact rfl) T.b_int (by decide +kernel) rfl)) (de_and (de_not (de_isi (t := .bool) (by exact rfl) T.b_isinstance (ev 0) (pe_bltn (by exact rfl) T.b_bool (by decide +kernel) rfl))) (de_one (de_chain op_le op_le (ev 1) (ev 0) (ev 2)))))))
theorem sc_is_yard : FnScope ["value", "size", "left", "right", "loads", "load", "one"] ["value"] (defScope st_is_yard) := ⟨rfl, rfl, rfl, by decide +kernel, rfl, by decide +kernel, by decide +kernel⟩
set_option maxHeartbeats 4000000 in
theorem ok_is_yard (T : Tz K mg E cE a_L_town fd_L_town a_L_draw fd_L_draw a_L_yard fd_L_yard a_L_pick fd_L_pick a_is_between fd_is_between a_is_yard fd_is_yard a_check_yard fd_check_yard a_acts_of fd_acts_of a_step_of fd_step_of a_nexts fd_nexts a_is_finished fd_is_finished a_distances fd_distances a_begin fd_begin a_fewest_of fd_fewest_of a_fewest fd_fewest a_check_load fd_check_load a_set_down fd_set_down a_earliest fd_earliest a_found_hopeless fd_found_hopeless a_hopeless fd_hopeless a_does_meet fd_does_meet a_least_dues fd_least_dues a_can_meet fd_can_meet a_law fd_law) (Fu : Fun K "is_yard" "is_yard" st_is_yard a_is_yard fd_is_yard) (G_is_between : FnOk P w K mg base (L2.CX P w) 1 a_is_between fd_is_between ["value", "low", "high"] (spD P w idA K 3 (F_is_between E)))  : FnOk P w K mg base (L2.CX P w) 2 a_is_yard fd_is_yard ["value"] (spD P w idA K 1 (F_is_yard E)) := by
  refine fn_ok (cl := idA) (k := 1) Fu sc_is_yard (by decide) fun cdv A outer s H vs EX hr => ?_
  have hu1 := hu64 hr
  have hu := Nat.lt_of_succ_lt hu1
  have tk := takes_of (X := cxOf (L2.CX P w) P w K mg base ["value", "size", "left", "right", "loads", "load", "one"] "is_yard" (defScope st_is_yard) a_is_yard cdv A outer s H EX) (E := EX) rfl rfl rfl rfl
  exact (dss_cons (ds_if (dt_w (dw_or (dt_not (dt_val (de_isi (t := .tuple) (by exact rfl) T.b_isinstance (ev 0) (pe_bltn (by exact rfl) T.b_tuple (by decide +kernel) rfl)))) (dw_or (dt_cmp (or_ne hu) o_ne (de_call1 call_len o_len (by exact rfl) T.b_len (by decide +kernel) (ev 0)) de_int (nomark _)) (dw_or1 (dt_not (dt_val (de_call rfl tk G_is_between (hr.mono (by decide)) (by exact rfl) T.d_is_between.g T.d_is_between.k T.d_is_between.b (das_cons (m := .val) (de_sub (Nat.lt_of_succ_lt hu1) (ev 0) de_int) (das_cons (m := .val) de_int (das_cons (m := .val) de_int das_nil)))))))))) (dss_one (ds_ret de_bl)) dss_nil) (dss_cons (ds_unpack (dg_tup rfl (dgs_cons (i := 1) sc_is_yard.nd rfl (by first | exact Or.inl rfl | exact Or.inr rfl) (dgs_cons (i := 2) sc_is_yard.nd rfl (by first | exact Or.inl rfl | exact Or.inr rfl) (dgs_cons (i := 3) sc_is_yard.nd rfl (by first | exact Or.inl rfl | exact Or.inr rfl) (dgs_cons (i := 4) sc_is_yard.nd rfl (by first | exact Or.inl rfl | exact Or.inr rfl) dgs_nil))))) (ev 0)) (dss_cons (ds_if (dt_w (dw_or (dt_not (dt_val (de_call rfl tk G_is_between (hr.mono (by decide)) (by exact rfl) T.d_is_between.g T.d_is_between.k T.d_is_between.b (das_cons (m := .ref) (ev 3) (das_cons (m := .val) de_int (das_cons (m := .val) (de_bin op_sub o_sub (ev 1) de_int) das_nil)))))) (dw_or1 (dt_not (dt_val (de_call rfl tk G_is_between (hr.mono (by decide)) (by exact rfl) T.d_is_between.g T.d_is_between.k T.d_is_between.b (das_cons (m := .ref) (ev 2) (das_cons (m := .val) de_int (das_cons (m := .val) (de_bin op_sub o_sub (ev 3) de_int) das_nil))))))))) (dss_one (ds_ret de_bl)) dss_nil) (dss_cons (ds_if (dt_w (dw_or (dt_not (dt_val (de_isi (t := .tuple) (by exact rfl) T.b_isinstance (ev 4) (pe_bltn (by exact rfl) T.b_tuple (by decide +kernel) rfl)))) (dw_or1 (dt_cmp op_gt o_gt (de_call1 call_len o_len (by exact rfl) T.b_len (by decide +kernel) (ev 4)) de_int (nomark _))))) (dss_one (ds_ret de_bl)) dss_nil) (dss_cons (ds_for PassesOwn.leaving rfl (di_seq (ev 4)) (dg_name (i := 5) sc_is_yard.nd rfl (by first | exact Or.inl rfl | exact Or.inr rfl)) (dss_one (ds_if (dt_w (dw_or (dt_not (dt_val (de_isi (t := .tuple) (by exact rfl) T.b_isinstance (ev 5) (pe_bltn (by exact rfl) T.b_tuple (by decide +kernel) rfl)))) (dw_or (dt_cmp (or_ne hu) o_ne (de_call1 call_len o_len (by exact rfl) T.b_len (by decide +kernel) (ev 5)) de_int (nomark _)) (dw_or1 (dt_not (dt_val (de_call1 (cr_all rfl) o_all (by exact rfl) T.b_all (by decide +kernel) (de_comp rfl sc_is_yard.nd (di_seq (ev 5)) (blkOk_by (own := [("one", 6)]) (by kernel_rfl)) (fun _ _ _ _ _ => (dg_name (i := 6) sc_is_yard.nd rfl (by first | exact Or.inl rfl | exact Or.inr rfl))) (fun _ _ _ _ _ => dts_nil) (fun _ _ _ _ _ => (de_call rfl takes0 G_is_between (hr.mono (by decide)) (by exact rfl) T.d_is_between.g T.d_is_between.k T.d_is_between.b (das_cons (m := .ref) (ev 6) (das_cons (m := .val) de_int (das_cons (m := .val) (de_bin op_sub o_sub (ev 1) de_int) das_nil))))))))))))) (dss_one (ds_ret de_bl)) dss_nil))) (dss_one (ds_ret (de_call1 (cr_all rfl) o_all (by exact rfl) T.b_all (by decide +kernel) (de_comp rfl sc_is_yard.nd (di_seq (ev 4)) (blkOk_by (own := [("load", 5)]) (by kernel_rfl)) (fun _ _ _ _ _ => (dg_name (i := 5) sc_is_yard.nd rfl (by first | exact Or.inl rfl | exact Or.inr rfl))) (fun _ _ _ _ _ => dts_nil) (fun _ _ _ _ _ => (de_cmp (or_ne hu) o_ne (de_sub (Nat.lt_of_succ_lt hu1) (ev 5) de_int) (de_sub (Nat.lt_of_succ_lt hu1) (ev 5) de_int) (nomark _))))))))))))
theorem sc_check_yard : FnScope ["value"] ["value"] (defScope st_check_yard) := ⟨rfl, rfl, rfl, by decide +kernel, rfl, by decide +kernel, by decide +kernel⟩
set_option maxHeartbeats 4000000 in
theorem ok_check_yard (T : Tz K mg E cE a_L_town fd_L_town a_L_draw fd_L_draw a_L_yard fd_L_yard a_L_pick fd_L_pick a_is_between fd_is_between a_is_yard fd_is_yard a_check_yard fd_check_yard a_acts_of fd_acts_of a_step_of fd_step_of a_nexts fd_nexts a_is_finished fd_is_finished a_distances fd_distances a_begin fd_begin a_fewest_of fd_fewest_of a_fewest fd_fewest a_check_load fd_check_load a_set_down fd_set_down a_earliest fd_earliest a_found_hopeless fd_found_hopeless a_hopeless fd_hopeless a_does_meet fd_does_meet a_least_dues fd_least_dues a_can_meet fd_can_meet a_law fd_law) (Fu : Fun K "check_yard" "check_yard" st_check_yard a_check_yard fd_check_yard) (G_is_yard : FnOk P w K mg base (L2.CX P w) 2 a_is_yard fd_is_yard ["value"] (spD P w idA K 1 (F_is_yard E)))  : FnOk P w K mg base (L2.CX P w) 3 a_check_yard fd_check_yard ["value"] (spD P w idA K 1 (F_check_yard E)) := by
  refine fn_ok (cl := idA) (k := 2) Fu sc_check_yard (by decide) fun cdv A outer s H vs EX hr => ?_
  have hu1 := hu64 hr
  have hu := Nat.lt_of_succ_lt hu1
  have tk := takes_of (X := cxOf (L2.CX P w) P w K mg base ["value"] "check_yard" (defScope st_check_yard) a_check_yard cdv A outer s H EX) (E := EX) rfl rfl rfl rfl
  exact (dss_one (ds_if (dt_not (dt_val (de_call rfl tk G_is_yard (hr.mono (by decide)) (by exact rfl) T.d_is_yard.g T.d_is_yard.k T.d_is_yard.b (das_cons (m := .ref) (ev 0) das_nil)))) (dss_one (ds_rz rfl tk T.z_InvalidYard rfl)) dss_nil))
theorem sc_acts_of : FnScope ["yard", "place", "carried", "lying", "size", "loads", "found", "act", "step", "load"] ["yard", "place", "carried", "lying"] (defScope st_acts_of) := ⟨rfl, rfl, rfl, by decide +kernel, rfl, by decide +kernel, by decide +kernel⟩
set_option maxHeartbeats 4000000 in
theorem ok_acts_of (T : Tz K mg E cE a_L_town fd_L_town a_L_draw fd_L_draw a_L_yard fd_L_yard a_L_pick fd_L_pick a_is_between fd_is_between a_is_yard fd_is_yard a_check_yard fd_check_yard a_acts_of fd_acts_of a_step_of fd_step_of a_nexts fd_nexts a_is_finished fd_is_finished a_distances fd_distances a_begin fd_begin a_fewest_of fd_fewest_of a_fewest fd_fewest a_check_load fd_check_load a_set_down fd_set_down a_earliest fd_earliest a_found_hopeless fd_found_hopeless a_hopeless fd_hopeless a_does_meet fd_does_meet a_least_dues fd_least_dues a_can_meet fd_can_meet a_law fd_law) (Fu : Fun K "acts_of" "acts_of" st_acts_of a_acts_of fd_acts_of)   : FnOk P w K mg base (L2.CX P w) 1 a_acts_of fd_acts_of ["yard", "place", "carried", "lying"] (spD P w idA K 4 (F_acts_of E)) := by
  refine fn_ok (cl := idA) (k := 0) Fu sc_acts_of (by decide) fun cdv A outer s H vs EX hr => ?_
  have hu1 := hu64 hr
  have hu := Nat.lt_of_succ_lt hu1
  have tk := takes_of (X := cxOf (L2.CX P w) P w K mg base ["yard", "place", "carried", "lying", "size", "loads", "found", "act", "step", "load"] "acts_of" (defScope st_acts_of) a_acts_of cdv A outer s H EX) (E := EX) rfl rfl rfl rfl
  exact (dss_cons (by first | exact (ds_par2 rfl sc_acts_of.nd rfl rfl rfl rfl (drs_cons (de_sub (Nat.lt_of_succ_lt hu1) (ev 0) de_int) (drs_cons (de_sub (Nat.lt_of_succ_lt hu1) (ev 0) de_int) drs_nil)) rfl) | exact (ds_parT (dg_tup rfl (dgs_cons (i := 4) sc_acts_of.nd rfl (by first | exact Or.inl rfl | exact Or.inr rfl) (dgs_cons (i := 5) sc_acts_of.nd rfl (by first | exact Or.inl rfl | exact Or.inr rfl) dgs_nil))) (drs_cons (de_sub (Nat.lt_of_succ_lt hu1) (ev 0) de_int) (drs_cons (de_sub (Nat.lt_of_succ_lt hu1) (ev 0) de_int) drs_nil)))) (dss_cons (ds_put (i := 6) sc_acts_of.nd rfl (by first | exact Or.inl rfl | exact Or.inr rfl) (de_lst da_nil)) (dss_cons (ds_for PassesOwn.leaving rfl (di_seq (de_tup (da_cons (de_tup (da_cons es (da_cons de_int da_nil))) (da_cons (de_tup (da_cons es (da_cons (de_un un_neg o_neg de_int) da_nil))) (da_cons (de_tup (da_cons es (da_cons de_int da_nil))) da_nil))))) (dg_tup rfl (dgs_cons (i := 7) sc_acts_of.nd rfl (by first | exact Or.inl rfl | exact Or.inr rfl) (dgs_cons (i := 8) sc_acts_of.nd rfl (by first | exact Or.inl rfl | exact Or.inr rfl) dgs_nil))) (dss_one (ds_if (dt_chain op_le op_lt de_int (de_bin or_add o_add (ev 1) (ev 8)) (ev 4)) (dss_one (ds_do (de_append (pv 6) (de_tup (da_cons (ev 7) (da_cons (de_bin or_add o_add (ev 1) (ev 8)) (da_cons (ev 2) (da_cons de_non da_nil)))))))) dss_nil))) (dss_cons (ds_if (dt_isN (ev 2)) (dss_one (ds_do (de_extend (pv 6) (de_comp rfl sc_acts_of.nd (di_seq (ev 3)) (blkOk_by (own := [("load", 9)]) (by kernel_rfl)) (fun _ _ _ _ _ => (dg_name (i := 9) sc_acts_of.nd rfl (by first | exact Or.inl rfl | exact Or.inr rfl))) (fun _ _ _ _ _ => (dts_one (dt_cmp (or_eq hu) o_eq (de_sub (Nat.lt_of_succ_lt hu1) (de_sub (Nat.lt_of_succ_lt hu1) (ev 5) (ev 9)) de_int) (ev 1) (nomark _)))) (fun _ _ _ _ _ => (de_tup (da_cons (de_fstr (.cons es (.cons (de_fmt (ev 9)) .nil))) (da_cons (ev 1) (da_cons (ev 9) (da_cons (ev 9) da_nil)))))))))) (dss_one (ds_if (dt_cmp (or_eq hu) o_eq (de_sub (Nat.lt_of_succ_lt hu1) (de_sub (Nat.lt_of_succ_lt hu1) (ev 5) (ev 2)) de_int) (ev 1) (nomark _)) (dss_one (ds_do (de_append (pv 6) (de_tup (da_cons es (da_cons (ev 1) (da_cons de_non (da_cons de_non da_nil)))))))) dss_nil))) (dss_one (ds_ret (ev 6)))))))
theorem sc_step_of : FnScope ["row"] ["row"] (defScope st_step_of) := ⟨rfl, rfl, rfl, by decide +kernel, rfl, by decide +kernel, by decide +kernel⟩
set_option maxHeartbeats 4000000 in
theorem ok_step_of (T : Tz K mg E cE a_L_town fd_L_town a_L_draw fd_L_draw a_L_yard fd_L_yard a_L_pick fd_L_pick a_is_between fd_is_between a_is_yard fd_is_yard a_check_yard fd_check_yard a_acts_of fd_acts_of a_step_of fd_step_of a_nexts fd_nexts a_is_finished fd_is_finished a_distances fd_distances a_begin fd_begin a_fewest_of fd_fewest_of a_fewest fd_fewest a_check_load fd_check_load a_set_down fd_set_down a_earliest fd_earliest a_found_hopeless fd_found_hopeless a_hopeless fd_hopeless a_does_meet fd_does_meet a_least_dues fd_least_dues a_can_meet fd_can_meet a_law fd_law) (Fu : Fun K "step_of" "step_of" st_step_of a_step_of fd_step_of)   : FnOk P w K mg base (L2.CX P w) 1 a_step_of fd_step_of ["row"] (spD P w idA K 1 (F_step_of E)) := by
  refine fn_ok (cl := idA) (k := 0) Fu sc_step_of (by decide) fun cdv A outer s H vs EX hr => ?_
  have hu1 := hu64 hr
  have hu := Nat.lt_of_succ_lt hu1
  have tk := takes_of (X := cxOf (L2.CX P w) P w K mg base ["row"] "step_of" (defScope st_step_of) a_step_of cdv A outer s H EX) (E := EX) rfl rfl rfl rfl
  exact (dss_one (ds_ret (de_sub (Nat.lt_of_succ_lt hu1) (ev 0) de_int)))
theorem sc_nexts : FnScope ["yard", "state", "left", "right", "one", "other", "lying", "found", "act", "place", "carried", "lifted", "more", "there", "held", "taken", "rest", "load"] ["yard", "state"] (defScope st_nexts) := ⟨rfl, rfl, rfl, by decide +kernel, rfl, by decide +kernel, by decide +kernel⟩
theorem key_step_of : Key0 st_step_of "row" := ⟨sc_step_of, ⟨_, _, _, _, _, rfl⟩, rfl, by decide⟩
set_option maxHeartbeats 4000000 in
theorem ok_nexts (T : Tz K mg E cE a_L_town fd_L_town a_L_draw fd_L_draw a_L_yard fd_L_yard a_L_pick fd_L_pick a_is_between fd_is_between a_is_yard fd_is_yard a_check_yard fd_check_yard a_acts_of fd_acts_of a_step_of fd_step_of a_nexts fd_nexts a_is_finished fd_is_finished a_distances fd_distances a_begin fd_begin a_fewest_of fd_fewest_of a_fewest fd_fewest a_check_load fd_check_load a_set_down fd_set_down a_earliest fd_earliest a_found_hopeless fd_found_hopeless a_hopeless fd_hopeless a_does_meet fd_does_meet a_least_dues fd_least_dues a_can_meet fd_can_meet a_law fd_law) (Fu : Fun K "nexts" "nexts" st_nexts a_nexts fd_nexts) (G_acts_of : FnOk P w K mg base (L2.CX P w) 1 a_acts_of fd_acts_of ["yard", "place", "carried", "lying"] (spD P w idA K 4 (F_acts_of E))) (G_step_of : FnOk P w K mg base (L2.CX P w) 1 a_step_of fd_step_of ["row"] (spD P w idA K 1 (F_step_of E))) (Fk_step_of : Fun K "step_of" "step_of" st_step_of a_step_of fd_step_of) : FnOk P w K mg base (L2.CX P w) 4 a_nexts fd_nexts ["yard", "state"] (spD P w idA K 2 (F_nexts E)) := by
  refine fn_ok (cl := idA) (k := 3) Fu sc_nexts (by decide) fun cdv A outer s H vs EX hr => ?_
  have hu1 := hu64 hr
  have hu := Nat.lt_of_succ_lt hu1
  have tk := takes_of (X := cxOf (L2.CX P w) P w K mg base ["yard", "state", "left", "right", "one", "other", "lying", "found", "act", "place", "carried", "lifted", "more", "there", "held", "taken", "rest", "load"] "nexts" (defScope st_nexts) a_nexts cdv A outer s H EX) (E := EX) rfl rfl rfl rfl
  exact (dss_cons (ds_unpack (dg_tup rfl (dgs_cons (i := 2) sc_nexts.nd rfl (by first | exact Or.inl rfl | exact Or.inr rfl) (dgs_cons (i := 3) sc_nexts.nd rfl (by first | exact Or.inl rfl | exact Or.inr rfl) (dgs_cons (i := 4) sc_nexts.nd rfl (by first | exact Or.inl rfl | exact Or.inr rfl) (dgs_cons (i := 5) sc_nexts.nd rfl (by first | exact Or.inl rfl | exact Or.inr rfl) (dgs_cons (i := 6) sc_nexts.nd rfl (by first | exact Or.inl rfl | exact Or.inr rfl) dgs_nil)))))) (ev 1)) (dss_cons (ds_put (i := 7) sc_nexts.nd rfl (by first | exact Or.inl rfl | exact Or.inr rfl) (de_lst da_nil)) (dss_cons (ds_for PassesOwn.leaving rfl (di_seq (de_call rfl tk G_acts_of (hr.mono (by decide)) (by exact rfl) T.d_acts_of.g T.d_acts_of.k T.d_acts_of.b (das_cons (m := .ref) (ev 0) (das_cons (m := .ref) (ev 2) (das_cons (m := .ref) (ev 4) (das_cons (m := .ref) (ev 6) das_nil)))))) (dg_tup rfl (dgs_cons (i := 8) sc_nexts.nd rfl (by first | exact Or.inl rfl | exact Or.inr rfl) (dgs_cons (i := 9) sc_nexts.nd rfl (by first | exact Or.inl rfl | exact Or.inr rfl) (dgs_cons (i := 10) sc_nexts.nd rfl (by first | exact Or.inl rfl | exact Or.inr rfl) (dgs_cons (i := 11) sc_nexts.nd rfl (by first | exact Or.inl rfl | exact Or.inr rfl) dgs_nil))))) (dss_one (ds_for PassesOwn.leaving rfl (di_seq (de_call rfl tk G_acts_of (hr.mono (by decide)) (by exact rfl) T.d_acts_of.g T.d_acts_of.k T.d_acts_of.b (das_cons (m := .ref) (ev 0) (das_cons (m := .ref) (ev 3) (das_cons (m := .ref) (ev 5) (das_cons (m := .ref) (ev 6) das_nil)))))) (dg_tup rfl (dgs_cons (i := 12) sc_nexts.nd rfl (by first | exact Or.inl rfl | exact Or.inr rfl) (dgs_cons (i := 13) sc_nexts.nd rfl (by first | exact Or.inl rfl | exact Or.inr rfl) (dgs_cons (i := 14) sc_nexts.nd rfl (by first | exact Or.inl rfl | exact Or.inr rfl) (dgs_cons (i := 15) sc_nexts.nd rfl (by first | exact Or.inl rfl | exact Or.inr rfl) dgs_nil))))) (dss_one (ds_if (dt_cmp op_lt o_lt (ev 9) (ev 13) (nomark _)) (dss_cons (ds_put (i := 16) sc_nexts.nd rfl (by first | exact Or.inl rfl | exact Or.inr rfl) (de_callT1 call_tuple_of o_tuple (by exact rfl) T.b_tuple (by decide +kernel) (de_comp rfl sc_nexts.nd (di_seq (ev 6)) (blkOk_by (own := [("load", 17)]) (by kernel_rfl)) (fun _ _ _ _ _ => (dg_name (i := 17) sc_nexts.nd rfl (by first | exact Or.inl rfl | exact Or.inr rfl))) (fun _ _ _ _ _ => (dts_one (dt_w (dw_and (dt_cmp (or_ne hu) o_ne (ev 17) (ev 11) (nomark _)) (dw_and1 (dt_cmp (or_ne hu) o_ne (ev 17) (ev 15) (nomark _))))))) (fun _ _ _ _ _ => (ev 17))))) (dss_one (ds_do (de_append (pv 7) (de_tup (da_cons (de_tup (da_cons (ev 8) (da_cons (ev 12) da_nil))) (da_cons (de_tup (da_cons (ev 9) (da_cons (ev 13) (da_cons (ev 10) (da_cons (ev 14) (da_cons (ev 16) da_nil)))))) da_nil))))))) dss_nil))))) (dss_one (ds_ret (de_sortR (k := 0) Fk_step_of T.d_step_of.b key_step_of (hr.mono (by decide)) hu T.b_sorted T.d_step_of.g (ev 7)))))))
theorem sc_is_finished : FnScope ["state"] ["state"] (defScope st_is_finished) := ⟨rfl, rfl, rfl, by decide +kernel, rfl, by decide +kernel, by decide +kernel⟩
set_option maxHeartbeats 4000000 in
theorem ok_is_finished (T : Tz K mg E cE a_L_town fd_L_town a_L_draw fd_L_draw a_L_yard fd_L_yard a_L_pick fd_L_pick a_is_between fd_is_between a_is_yard fd_is_yard a_check_yard fd_check_yard a_acts_of fd_acts_of a_step_of fd_step_of a_nexts fd_nexts a_is_finished fd_is_finished a_distances fd_distances a_begin fd_begin a_fewest_of fd_fewest_of a_fewest fd_fewest a_check_load fd_check_load a_set_down fd_set_down a_earliest fd_earliest a_found_hopeless fd_found_hopeless a_hopeless fd_hopeless a_does_meet fd_does_meet a_least_dues fd_least_dues a_can_meet fd_can_meet a_law fd_law) (Fu : Fun K "is_finished" "is_finished" st_is_finished a_is_finished fd_is_finished)   : FnOk P w K mg base (L2.CX P w) 1 a_is_finished fd_is_finished ["state"] (spD P w idA K 1 (F_is_finished E)) := by
  refine fn_ok (cl := idA) (k := 0) Fu sc_is_finished (by decide) fun cdv A outer s H vs EX hr => ?_
  have hu1 := hu64 hr
  have hu := Nat.lt_of_succ_lt hu1
  have tk := takes_of (X := cxOf (L2.CX P w) P w K mg base ["state"] "is_finished" (defScope st_is_finished) a_is_finished cdv A outer s H EX) (E := EX) rfl rfl rfl rfl
  exact (dss_one (ds_ret (de_cmp (or_eq hu) o_eq (de_slice (ev 0) (do_some de_int) do_none) (de_tup (da_cons de_non (da_cons de_non (da_cons (de_tup da_nil) da_nil)))) (nomark _))))
theorem sc_distances : FnScope ["yard", "state", "before", "waiting", "found", "met", "here", "step", "later", "level", "one", "further", "other"] ["yard", "state"] (defScope st_distances) := ⟨rfl, rfl, rfl, by decide +kernel, rfl, by decide +kernel, by decide +kernel⟩
set_option maxHeartbeats 4000000 in
theorem ok_distances (T : Tz K mg E cE a_L_town fd_L_town a_L_draw fd_L_draw a_L_yard fd_L_yard a_L_pick fd_L_pick a_is_between fd_is_between a_is_yard fd_is_yard a_check_yard fd_check_yard a_acts_of fd_acts_of a_step_of fd_step_of a_nexts fd_nexts a_is_finished fd_is_finished a_distances fd_distances a_begin fd_begin a_fewest_of fd_fewest_of a_fewest fd_fewest a_check_load fd_check_load a_set_down fd_set_down a_earliest fd_earliest a_found_hopeless fd_found_hopeless a_hopeless fd_hopeless a_does_meet fd_does_meet a_least_dues fd_least_dues a_can_meet fd_can_meet a_law fd_law) (Fu : Fun K "distances" "distances" st_distances a_distances fd_distances) (G_nexts : FnOk P w K mg base (L2.CX P w) 4 a_nexts fd_nexts ["yard", "state"] (spD P w idA K 2 (F_nexts E))) (G_is_finished : FnOk P w K mg base (L2.CX P w) 1 a_is_finished fd_is_finished ["state"] (spD P w idA K 1 (F_is_finished E)))  : FnOk P w K mg base (L2.CX P w) 5 a_distances fd_distances ["yard", "state"] (spD P w idA K 2 (F_distances E)) := by
  refine fn_ok (cl := idA) (k := 4) Fu sc_distances (by decide) fun cdv A outer s H vs EX hr => ?_
  have hu1 := hu64 hr
  have hu := Nat.lt_of_succ_lt hu1
  have tk := takes_of (X := cxOf (L2.CX P w) P w K mg base ["yard", "state", "before", "waiting", "found", "met", "here", "step", "later", "level", "one", "further", "other"] "distances" (defScope st_distances) a_distances cdv A outer s H EX) (E := EX) rfl rfl rfl rfl
  exact (dss_cons (by first | exact (ds_par3 rfl sc_distances.nd rfl rfl rfl rfl rfl rfl (drs_cons de_dict0 (drs_cons (de_lst (da_cons (ev 1) da_nil)) (drs_cons de_dict0 drs_nil))) rfl) | exact (ds_parT (dg_tup rfl (dgs_cons (i := 2) sc_distances.nd rfl (by first | exact Or.inl rfl | exact Or.inr rfl) (dgs_cons (i := 3) sc_distances.nd rfl (by first | exact Or.inl rfl | exact Or.inr rfl) (dgs_cons (i := 4) sc_distances.nd rfl (by first | exact Or.inl rfl | exact Or.inr rfl) dgs_nil)))) (drs_cons de_dict0 (drs_cons (de_lst (da_cons (ev 1) da_nil)) (drs_cons de_dict0 drs_nil))))) (dss_cons (ds_put (i := 5) sc_distances.nd rfl (by first | exact Or.inl rfl | exact Or.inr rfl) (de_dict1 hu (ev 1) de_bl)) (dss_cons (ds_while fuel PassesOwn.leaving (dt_cmp (or_ne hu) o_ne (ev 3) (de_lst da_nil) (nomark _)) (dss_cons (ds_put (i := 6) sc_distances.nd rfl (by first | exact Or.inl rfl | exact Or.inr rfl) (de_pop (pv 3))) (dss_one (ds_for PassesOwn.leaving rfl (di_seq (de_call rfl tk G_nexts (hr.mono (by decide)) (by exact rfl) T.d_nexts.g T.d_nexts.k T.d_nexts.b (das_cons (m := .ref) (ev 0) (das_cons (m := .ref) (ev 6) das_nil)))) (dg_tup rfl (dgs_cons (i := 7) sc_distances.nd rfl (by first | exact Or.inl rfl | exact Or.inr rfl) (dgs_cons (i := 8) sc_distances.nd rfl (by first | exact Or.inl rfl | exact Or.inr rfl) dgs_nil))) (dss_cons (ds_set (Nat.lt_of_succ_lt hu1) (pv 2) (ev 8) (de_bin or_add o_add (de_get2 hu (ev 2) (ev 8) (de_lst da_nil)) (de_lst (da_cons (ev 6) da_nil)))) (dss_one (ds_if (dt_notin hu1 (ev 8) (ev 5)) (dss_cons (ds_set (Nat.lt_of_succ_lt hu1) (pv 5) (ev 8) de_bl) (dss_one (ds_do (de_append (pv 3) (ev 8))))) dss_nil))))))) (dss_cons (by first | exact (ds_setcomp rfl sc_distances.nd rfl rfl rfl (di_keys (pv 5)) (blkOk_by (own := [("one", 10)]) (by kernel_rfl)) (fun _ _ _ _ _ => (dg_name (i := 10) sc_distances.nd rfl (by first | exact Or.inl rfl | exact Or.inr rfl))) (fun _ _ _ _ _ => (dts_one (dt_val (de_call rfl takes0 G_is_finished (hr.mono (by decide)) (by exact rfl) T.d_is_finished.g T.d_is_finished.k T.d_is_finished.b (das_cons (m := .ref) (ev 10) das_nil))))) (fun _ _ _ _ _ => (ev 10))) | exact (ds_put (i := 9) sc_distances.nd rfl (by first | exact Or.inl rfl | exact Or.inr rfl) (de_comp rfl sc_distances.nd (di_keys (pv 5)) (blkOk_by (own := [("one", 10)]) (by kernel_rfl)) (fun _ _ _ _ _ => (dg_name (i := 10) sc_distances.nd rfl (by first | exact Or.inl rfl | exact Or.inr rfl))) (fun _ _ _ _ _ => (dts_one (dt_val (de_call rfl takes0 G_is_finished (hr.mono (by decide)) (by exact rfl) T.d_is_finished.g T.d_is_finished.k T.d_is_finished.b (das_cons (m := .ref) (ev 10) das_nil))))) (fun _ _ _ _ _ => (ev 10))))) (dss_cons (ds_for PassesOwn.leaving rfl (di_seq (ev 9)) (dg_name (i := 10) sc_distances.nd rfl (by first | exact Or.inl rfl | exact Or.inr rfl)) (dss_one (ds_set (Nat.lt_of_succ_lt hu1) (pv 4) (ev 10) de_int))) (dss_cons (ds_while fuel PassesOwn.leaving (dt_cmp (or_ne hu) o_ne (ev 9) (de_lst da_nil) (nomark _)) (dss_cons (ds_put (i := 11) sc_distances.nd rfl (by first | exact Or.inl rfl | exact Or.inr rfl) (de_lst da_nil)) (dss_cons (ds_for PassesOwn.leaving rfl (di_seq (ev 9)) (dg_name (i := 10) sc_distances.nd rfl (by first | exact Or.inl rfl | exact Or.inr rfl)) (dss_one (ds_for PassesOwn.leaving rfl (di_seq (de_get2 hu (ev 2) (ev 10) (de_lst da_nil))) (dg_name (i := 12) sc_distances.nd rfl (by first | exact Or.inl rfl | exact Or.inr rfl)) (dss_one (ds_if (dt_notin hu1 (ev 12) (ev 4)) (dss_cons (ds_set (Nat.lt_of_succ_lt hu1) (pv 4) (ev 12) (de_bin or_add o_add (de_sub (Nat.lt_of_succ_lt hu1) (ev 4) (ev 10)) de_int)) (dss_one (ds_do (de_append (pv 11) (ev 12))))) dss_nil))))) (dss_one (ds_put (i := 9) sc_distances.nd rfl (by first | exact Or.inl rfl | exact Or.inr rfl) (ev 11)))))) (dss_one (ds_ret (ev 4)))))))))
theorem sc_begin : FnScope ["yard"] ["yard"] (defScope st_begin) := ⟨rfl, rfl, rfl, by decide +kernel, rfl, by decide +kernel, by decide +kernel⟩
set_option maxHeartbeats 4000000 in
theorem ok_begin (T : Tz K mg E cE a_L_town fd_L_town a_L_draw fd_L_draw a_L_yard fd_L_yard a_L_pick fd_L_pick a_is_between fd_is_between a_is_yard fd_is_yard a_check_yard fd_check_yard a_acts_of fd_acts_of a_step_of fd_step_of a_nexts fd_nexts a_is_finished fd_is_finished a_distances fd_distances a_begin fd_begin a_fewest_of fd_fewest_of a_fewest fd_fewest a_check_load fd_check_load a_set_down fd_set_down a_earliest fd_earliest a_found_hopeless fd_found_hopeless a_hopeless fd_hopeless a_does_meet fd_does_meet a_least_dues fd_least_dues a_can_meet fd_can_meet a_law fd_law) (Fu : Fun K "begin" "begin" st_begin a_begin fd_begin)   : FnOk P w K mg base (L2.CX P w) 1 a_begin fd_begin ["yard"] (spD P w idA K 1 (F_begin E)) := by
  refine fn_ok (cl := idA) (k := 0) Fu sc_begin (by decide) fun cdv A outer s H vs EX hr => ?_
  have hu1 := hu64 hr
  have hu := Nat.lt_of_succ_lt hu1
  have tk := takes_of (X := cxOf (L2.CX P w) P w K mg base ["yard"] "begin" (defScope st_begin) a_begin cdv A outer s H EX) (E := EX) rfl rfl rfl rfl
  exact (dss_one (ds_ret (de_tup (da_cons (de_sub (Nat.lt_of_succ_lt hu1) (ev 0) de_int) (da_cons (de_sub (Nat.lt_of_succ_lt hu1) (ev 0) de_int) (da_cons de_non (da_cons de_non (da_cons (de_callT1 call_tuple_of o_tuple (by exact rfl) T.b_tuple (by decide +kernel) (de_listRg rfl T.b_list T.b_range (de_call1 call_len o_len (by exact rfl) T.b_len (by decide +kernel) (de_sub (Nat.lt_of_succ_lt hu1) (ev 0) de_int)))) da_nil))))))))
theorem sc_fewest_of : FnScope ["yard"] ["yard"] (defScope st_fewest_of) := ⟨rfl, rfl, rfl, by decide +kernel, rfl, by decide +kernel, by decide +kernel⟩
set_option maxHeartbeats 4000000 in
theorem ok_fewest_of (T : Tz K mg E cE a_L_town fd_L_town a_L_draw fd_L_draw a_L_yard fd_L_yard a_L_pick fd_L_pick a_is_between fd_is_between a_is_yard fd_is_yard a_check_yard fd_check_yard a_acts_of fd_acts_of a_step_of fd_step_of a_nexts fd_nexts a_is_finished fd_is_finished a_distances fd_distances a_begin fd_begin a_fewest_of fd_fewest_of a_fewest fd_fewest a_check_load fd_check_load a_set_down fd_set_down a_earliest fd_earliest a_found_hopeless fd_found_hopeless a_hopeless fd_hopeless a_does_meet fd_does_meet a_least_dues fd_least_dues a_can_meet fd_can_meet a_law fd_law) (Fu : Fun K "fewest_of" "fewest_of" st_fewest_of a_fewest_of fd_fewest_of) (G_distances : FnOk P w K mg base (L2.CX P w) 5 a_distances fd_distances ["yard", "state"] (spD P w idA K 2 (F_distances E))) (G_begin : FnOk P w K mg base (L2.CX P w) 1 a_begin fd_begin ["yard"] (spD P w idA K 1 (F_begin E)))  : FnOk P w K mg base (L2.CX P w) 6 a_fewest_of fd_fewest_of ["yard"] (spD P w idA K 1 (F_fewest_of E)) := by
  refine fn_ok (cl := idA) (k := 5) Fu sc_fewest_of (by decide) fun cdv A outer s H vs EX hr => ?_
  have hu1 := hu64 hr
  have hu := Nat.lt_of_succ_lt hu1
  have tk := takes_of (X := cxOf (L2.CX P w) P w K mg base ["yard"] "fewest_of" (defScope st_fewest_of) a_fewest_of cdv A outer s H EX) (E := EX) rfl rfl rfl rfl
  exact (dss_one (ds_ret (de_get1 hu (de_call rfl tk G_distances (hr.mono (by decide)) (by exact rfl) T.d_distances.g T.d_distances.k T.d_distances.b (das_cons (m := .ref) (ev 0) (das_cons (m := .val) (de_call rfl tk G_begin (hr.mono (by decide)) (by exact rfl) T.d_begin.g T.d_begin.k T.d_begin.b (das_cons (m := .ref) (ev 0) das_nil)) das_nil))) (de_call rfl tk G_begin (hr.mono (by decide)) (by exact rfl) T.d_begin.g T.d_begin.k T.d_begin.b (das_cons (m := .ref) (ev 0) das_nil)))))
theorem sc_fewest : FnScope ["yard"] ["yard"] (defScope st_fewest) := ⟨rfl, rfl, rfl, by decide +kernel, rfl, by decide +kernel, by decide +kernel⟩
set_option maxHeartbeats 4000000 in
theorem ok_fewest (T : Tz K mg E cE a_L_town fd_L_town a_L_draw fd_L_draw a_L_yard fd_L_yard a_L_pick fd_L_pick a_is_between fd_is_between a_is_yard fd_is_yard a_check_yard fd_check_yard a_acts_of fd_acts_of a_step_of fd_step_of a_nexts fd_nexts a_is_finished fd_is_finished a_distances fd_distances a_begin fd_begin a_fewest_of fd_fewest_of a_fewest fd_fewest a_check_load fd_check_load a_set_down fd_set_down a_earliest fd_earliest a_found_hopeless fd_found_hopeless a_hopeless fd_hopeless a_does_meet fd_does_meet a_least_dues fd_least_dues a_can_meet fd_can_meet a_law fd_law) (Fu : Fun K "fewest" "fewest" st_fewest a_fewest fd_fewest) (G_check_yard : FnOk P w K mg base (L2.CX P w) 3 a_check_yard fd_check_yard ["value"] (spD P w idA K 1 (F_check_yard E))) (G_fewest_of : FnOk P w K mg base (L2.CX P w) 6 a_fewest_of fd_fewest_of ["yard"] (spD P w idA K 1 (F_fewest_of E)))  : FnOk P w K mg base (L2.CX P w) 7 a_fewest fd_fewest ["yard"] (spD P w idA K 1 (F_fewest E)) := by
  refine fn_ok (cl := idA) (k := 6) Fu sc_fewest (by decide) fun cdv A outer s H vs EX hr => ?_
  have hu1 := hu64 hr
  have hu := Nat.lt_of_succ_lt hu1
  have tk := takes_of (X := cxOf (L2.CX P w) P w K mg base ["yard"] "fewest" (defScope st_fewest) a_fewest cdv A outer s H EX) (E := EX) rfl rfl rfl rfl
  exact (dss_cons (ds_do (de_call rfl tk G_check_yard (hr.mono (by decide)) (by exact rfl) T.d_check_yard.g T.d_check_yard.k T.d_check_yard.b (das_cons (m := .ref) (ev 0) das_nil))) (dss_one (ds_ret (de_call rfl tk G_fewest_of (hr.mono (by decide)) (by exact rfl) T.d_fewest_of.g T.d_fewest_of.k T.d_fewest_of.b (das_cons (m := .ref) (ev 0) das_nil)))))
theorem sc_check_load : FnScope ["yard", "load"] ["yard", "load"] (defScope st_check_load) := ⟨rfl, rfl, rfl, by decide +kernel, rfl, by decide +kernel, by decide +kernel⟩
set_option maxHeartbeats 4000000 in
theorem ok_check_load (T : Tz K mg E cE a_L_town fd_L_town a_L_draw fd_L_draw a_L_yard fd_L_yard a_L_pick fd_L_pick a_is_between fd_is_between a_is_yard fd_is_yard a_check_yard fd_check_yard a_acts_of fd_acts_of a_step_of fd_step_of a_nexts fd_nexts a_is_finished fd_is_finished a_distances fd_distances a_begin fd_begin a_fewest_of fd_fewest_of a_fewest fd_fewest a_check_load fd_check_load a_set_down fd_set_down a_earliest fd_earliest a_found_hopeless fd_found_hopeless a_hopeless fd_hopeless a_does_meet fd_does_meet a_least_dues fd_least_dues a_can_meet fd_can_meet a_law fd_law) (Fu : Fun K "check_load" "check_load" st_check_load a_check_load fd_check_load) (G_check_yard : FnOk P w K mg base (L2.CX P w) 3 a_check_yard fd_check_yard ["value"] (spD P w idA K 1 (F_check_yard E))) (G_is_between : FnOk P w K mg base (L2.CX P w) 1 a_is_between fd_is_between ["value", "low", "high"] (spD P w idA K 3 (F_is_between E)))  : FnOk P w K mg base (L2.CX P w) 4 a_check_load fd_check_load ["yard", "load"] (spD P w idA K 2 (F_check_load E)) := by
  refine fn_ok (cl := idA) (k := 3) Fu sc_check_load (by decide) fun cdv A outer s H vs EX hr => ?_
  have hu1 := hu64 hr
  have hu := Nat.lt_of_succ_lt hu1
  have tk := takes_of (X := cxOf (L2.CX P w) P w K mg base ["yard", "load"] "check_load" (defScope st_check_load) a_check_load cdv A outer s H EX) (E := EX) rfl rfl rfl rfl
  exact (dss_cons (ds_do (de_call rfl tk G_check_yard (hr.mono (by decide)) (by exact rfl) T.d_check_yard.g T.d_check_yard.k T.d_check_yard.b (das_cons (m := .ref) (ev 0) das_nil))) (dss_one (ds_if (dt_not (dt_val (de_call rfl tk G_is_between (hr.mono (by decide)) (by exact rfl) T.d_is_between.g T.d_is_between.k T.d_is_between.b (das_cons (m := .ref) (ev 1) (das_cons (m := .val) de_int (das_cons (m := .val) (de_bin op_sub o_sub (de_call1 call_len o_len (by exact rfl) T.b_len (by decide +kernel) (de_sub (Nat.lt_of_succ_lt hu1) (ev 0) de_int)) de_int) das_nil)))))) (dss_one (ds_rz rfl tk T.z_InvalidLoad rfl)) dss_nil)))
theorem sc_set_down : FnScope ["state", "later", "some", "one", "other"] ["state", "later"] (defScope st_set_down) := ⟨rfl, rfl, rfl, by decide +kernel, rfl, by decide +kernel, by decide +kernel⟩
set_option maxHeartbeats 4000000 in
theorem ok_set_down (T : Tz K mg E cE a_L_town fd_L_town a_L_draw fd_L_draw a_L_yard fd_L_yard a_L_pick fd_L_pick a_is_between fd_is_between a_is_yard fd_is_yard a_check_yard fd_check_yard a_acts_of fd_acts_of a_step_of fd_step_of a_nexts fd_nexts a_is_finished fd_is_finished a_distances fd_distances a_begin fd_begin a_fewest_of fd_fewest_of a_fewest fd_fewest a_check_load fd_check_load a_set_down fd_set_down a_earliest fd_earliest a_found_hopeless fd_found_hopeless a_hopeless fd_hopeless a_does_meet fd_does_meet a_least_dues fd_least_dues a_can_meet fd_can_meet a_law fd_law) (Fu : Fun K "set_down" "set_down" st_set_down a_set_down fd_set_down)   : FnOk P w K mg base (L2.CX P w) 1 a_set_down fd_set_down ["state", "later"] (spD P w idA K 2 (F_set_down E)) := by
  refine fn_ok (cl := idA) (k := 0) Fu sc_set_down (by decide) fun cdv A outer s H vs EX hr => ?_
  have hu1 := hu64 hr
  have hu := Nat.lt_of_succ_lt hu1
  have tk := takes_of (X := cxOf (L2.CX P w) P w K mg base ["state", "later", "some", "one", "other"] "set_down" (defScope st_set_down) a_set_down cdv A outer s H EX) (E := EX) rfl rfl rfl rfl
  exact (dss_cons (ds_put (i := 2) sc_set_down.nd rfl (by first | exact Or.inl rfl | exact Or.inr rfl) (de_lst (da_cons (de_tup (da_cons (de_sub (Nat.lt_of_succ_lt hu1) (ev 0) de_int) (da_cons (de_sub (Nat.lt_of_succ_lt hu1) (ev 1) de_int) da_nil))) (da_cons (de_tup (da_cons (de_sub (Nat.lt_of_succ_lt hu1) (ev 0) de_int) (da_cons (de_sub (Nat.lt_of_succ_lt hu1) (ev 1) de_int) da_nil))) da_nil)))) (dss_one (ds_ret (de_comp rfl sc_set_down.nd (di_seq (ev 2)) (blkOk_by (own := [("one", 3), ("other", 4)]) (by kernel_rfl)) (fun _ _ _ _ _ => (dg_tup rfl (dgs_cons (i := 3) sc_set_down.nd rfl (by first | exact Or.inl rfl | exact Or.inr rfl) (dgs_cons (i := 4) sc_set_down.nd rfl (by first | exact Or.inl rfl | exact Or.inr rfl) dgs_nil)))) (fun _ _ _ _ _ => (dts_one (dt_w (dw_and (dt_notN (ev 3)) (dw_and1 (dt_isN (ev 4))))))) (fun _ _ _ _ _ => (ev 3))))))
theorem sc_earliest : FnScope ["yard", "load", "met", "level", "ticks", "further", "state", "step", "later"] ["yard", "load"] (defScope st_earliest) := ⟨rfl, rfl, rfl, by decide +kernel, rfl, by decide +kernel, by decide +kernel⟩
set_option maxHeartbeats 4000000 in
theorem ok_earliest (T : Tz K mg E cE a_L_town fd_L_town a_L_draw fd_L_draw a_L_yard fd_L_yard a_L_pick fd_L_pick a_is_between fd_is_between a_is_yard fd_is_yard a_check_yard fd_check_yard a_acts_of fd_acts_of a_step_of fd_step_of a_nexts fd_nexts a_is_finished fd_is_finished a_distances fd_distances a_begin fd_begin a_fewest_of fd_fewest_of a_fewest fd_fewest a_check_load fd_check_load a_set_down fd_set_down a_earliest fd_earliest a_found_hopeless fd_found_hopeless a_hopeless fd_hopeless a_does_meet fd_does_meet a_least_dues fd_least_dues a_can_meet fd_can_meet a_law fd_law) (Fu : Fun K "earliest" "earliest" st_earliest a_earliest fd_earliest) (G_check_load : FnOk P w K mg base (L2.CX P w) 4 a_check_load fd_check_load ["yard", "load"] (spD P w idA K 2 (F_check_load E))) (G_begin : FnOk P w K mg base (L2.CX P w) 1 a_begin fd_begin ["yard"] (spD P w idA K 1 (F_begin E))) (G_nexts : FnOk P w K mg base (L2.CX P w) 4 a_nexts fd_nexts ["yard", "state"] (spD P w idA K 2 (F_nexts E))) (G_set_down : FnOk P w K mg base (L2.CX P w) 1 a_set_down fd_set_down ["state", "later"] (spD P w idA K 2 (F_set_down E)))  : FnOk P w K mg base (L2.CX P w) 5 a_earliest fd_earliest ["yard", "load"] (spD P w idA K 2 (F_earliest E)) := by
  refine fn_ok (cl := idA) (k := 4) Fu sc_earliest (by decide) fun cdv A outer s H vs EX hr => ?_
  have hu1 := hu64 hr
  have hu := Nat.lt_of_succ_lt hu1
  have tk := takes_of (X := cxOf (L2.CX P w) P w K mg base ["yard", "load", "met", "level", "ticks", "further", "state", "step", "later"] "earliest" (defScope st_earliest) a_earliest cdv A outer s H EX) (E := EX) rfl rfl rfl rfl
  exact (dss_cons (ds_do (de_call rfl tk G_check_load (hr.mono (by decide)) (by exact rfl) T.d_check_load.g T.d_check_load.k T.d_check_load.b (das_cons (m := .ref) (ev 0) (das_cons (m := .ref) (ev 1) das_nil)))) (dss_cons (by first | exact (ds_par3 rfl sc_earliest.nd rfl rfl rfl rfl rfl rfl (drs_cons (de_dict1 hu (de_call rfl tk G_begin (hr.mono (by decide)) (by exact rfl) T.d_begin.g T.d_begin.k T.d_begin.b (das_cons (m := .ref) (ev 0) das_nil)) de_bl) (drs_cons (de_lst (da_cons (de_call rfl tk G_begin (hr.mono (by decide)) (by exact rfl) T.d_begin.g T.d_begin.k T.d_begin.b (das_cons (m := .ref) (ev 0) das_nil)) da_nil)) (drs_cons de_int drs_nil))) rfl) | exact (ds_parT (dg_tup rfl (dgs_cons (i := 2) sc_earliest.nd rfl (by first | exact Or.inl rfl | exact Or.inr rfl) (dgs_cons (i := 3) sc_earliest.nd rfl (by first | exact Or.inl rfl | exact Or.inr rfl) (dgs_cons (i := 4) sc_earliest.nd rfl (by first | exact Or.inl rfl | exact Or.inr rfl) dgs_nil)))) (drs_cons (de_dict1 hu (de_call rfl tk G_begin (hr.mono (by decide)) (by exact rfl) T.d_begin.g T.d_begin.k T.d_begin.b (das_cons (m := .ref) (ev 0) das_nil)) de_bl) (drs_cons (de_lst (da_cons (de_call rfl tk G_begin (hr.mono (by decide)) (by exact rfl) T.d_begin.g T.d_begin.k T.d_begin.b (das_cons (m := .ref) (ev 0) das_nil)) da_nil)) (drs_cons de_int drs_nil))))) (dss_cons (ds_while fuel PassesOwn.leaving (dt_cmp (or_ne hu) o_ne (ev 3) (de_lst da_nil) (nomark _)) (dss_cons (by first | exact (ds_par2 rfl sc_earliest.nd rfl rfl rfl rfl (drs_cons (de_lst da_nil) (drs_cons (de_bin or_add o_add (ev 4) de_int) drs_nil)) rfl) | exact (ds_parT (dg_tup rfl (dgs_cons (i := 5) sc_earliest.nd rfl (by first | exact Or.inl rfl | exact Or.inr rfl) (dgs_cons (i := 4) sc_earliest.nd rfl (by first | exact Or.inl rfl | exact Or.inr rfl) dgs_nil))) (drs_cons (de_lst da_nil) (drs_cons (de_bin or_add o_add (ev 4) de_int) drs_nil)))) (dss_cons (ds_for PassesOwn.leaving rfl (di_seq (ev 3)) (dg_name (i := 6) sc_earliest.nd rfl (by first | exact Or.inl rfl | exact Or.inr rfl)) (dss_one (ds_for PassesOwn.leaving rfl (di_seq (de_call rfl tk G_nexts (hr.mono (by decide)) (by exact rfl) T.d_nexts.g T.d_nexts.k T.d_nexts.b (das_cons (m := .ref) (ev 0) (das_cons (m := .ref) (ev 6) das_nil)))) (dg_tup rfl (dgs_cons (i := 7) sc_earliest.nd rfl (by first | exact Or.inl rfl | exact Or.inr rfl) (dgs_cons (i := 8) sc_earliest.nd rfl (by first | exact Or.inl rfl | exact Or.inr rfl) dgs_nil))) (dss_cons (ds_if (dt_in hu1 (ev 1) (de_call rfl tk G_set_down (hr.mono (by decide)) (by exact rfl) T.d_set_down.g T.d_set_down.k T.d_set_down.b (das_cons (m := .ref) (ev 6) (das_cons (m := .ref) (ev 8) das_nil)))) (dss_one (ds_ret (ev 4))) dss_nil) (dss_one (ds_if (dt_notin hu1 (ev 8) (ev 2)) (dss_cons (ds_set (Nat.lt_of_succ_lt hu1) (pv 2) (ev 8) de_bl) (dss_one (ds_do (de_append (pv 5) (ev 8))))) dss_nil)))))) (dss_one (ds_put (i := 3) sc_earliest.nd rfl (by first | exact Or.inl rfl | exact Or.inr rfl) (ev 5)))))) (dss_one (ds_ret de_non)))))
theorem sc_found_hopeless : FnScope ["yard", "ends", "number", "load"] ["yard"] (defScope st_found_hopeless) := ⟨rfl, rfl, rfl, by decide +kernel, rfl, by decide +kernel, by decide +kernel⟩
set_option maxHeartbeats 4000000 in
theorem ok_found_hopeless (T : Tz K mg E cE a_L_town fd_L_town a_L_draw fd_L_draw a_L_yard fd_L_yard a_L_pick fd_L_pick a_is_between fd_is_between a_is_yard fd_is_yard a_check_yard fd_check_yard a_acts_of fd_acts_of a_step_of fd_step_of a_nexts fd_nexts a_is_finished fd_is_finished a_distances fd_distances a_begin fd_begin a_fewest_of fd_fewest_of a_fewest fd_fewest a_check_load fd_check_load a_set_down fd_set_down a_earliest fd_earliest a_found_hopeless fd_found_hopeless a_hopeless fd_hopeless a_does_meet fd_does_meet a_least_dues fd_least_dues a_can_meet fd_can_meet a_law fd_law) (Fu : Fun K "found_hopeless" "found_hopeless" st_found_hopeless a_found_hopeless fd_found_hopeless)   : FnOk P w K mg base (L2.CX P w) 1 a_found_hopeless fd_found_hopeless ["yard"] (spD P w idA K 1 (F_found_hopeless E)) := by
  refine fn_ok (cl := idA) (k := 0) Fu sc_found_hopeless (by decide) fun cdv A outer s H vs EX hr => ?_
  have hu1 := hu64 hr
  have hu := Nat.lt_of_succ_lt hu1
  have tk := takes_of (X := cxOf (L2.CX P w) P w K mg base ["yard", "ends", "number", "load"] "found_hopeless" (defScope st_found_hopeless) a_found_hopeless cdv A outer s H EX) (E := EX) rfl rfl rfl rfl
  exact (dss_cons (ds_put (i := 1) sc_found_hopeless.nd rfl (by first | exact Or.inl rfl | exact Or.inr rfl) (de_lst (da_cons de_int (da_cons (de_bin op_sub o_sub (de_sub (Nat.lt_of_succ_lt hu1) (ev 0) de_int) de_int) da_nil)))) (dss_one (ds_ret (de_comp rfl sc_found_hopeless.nd (di_enum (by exact rfl) T.b_enumerate (de_sub (Nat.lt_of_succ_lt hu1) (ev 0) de_int)) (blkOk_by (own := [("number", 2), ("load", 3)]) (by kernel_rfl)) (fun _ _ _ _ _ => (dg_tup rfl (dgs_cons (i := 2) sc_found_hopeless.nd rfl (by first | exact Or.inl rfl | exact Or.inr rfl) (dgs_cons (i := 3) sc_found_hopeless.nd rfl (by first | exact Or.inl rfl | exact Or.inr rfl) dgs_nil)))) (fun _ _ _ _ _ => (dts_one (dt_cmp (or_eq hu) o_eq (de_call1 cr_sortT o_sortT (by exact rfl) T.b_sorted (by decide +kernel) (ev 3)) (ev 1) (nomark _)))) (fun _ _ _ _ _ => (ev 2))))))
theorem sc_hopeless : FnScope ["yard"] ["yard"] (defScope st_hopeless) := ⟨rfl, rfl, rfl, by decide +kernel, rfl, by decide +kernel, by decide +kernel⟩
set_option maxHeartbeats 4000000 in
theorem ok_hopeless (T : Tz K mg E cE a_L_town fd_L_town a_L_draw fd_L_draw a_L_yard fd_L_yard a_L_pick fd_L_pick a_is_between fd_is_between a_is_yard fd_is_yard a_check_yard fd_check_yard a_acts_of fd_acts_of a_step_of fd_step_of a_nexts fd_nexts a_is_finished fd_is_finished a_distances fd_distances a_begin fd_begin a_fewest_of fd_fewest_of a_fewest fd_fewest a_check_load fd_check_load a_set_down fd_set_down a_earliest fd_earliest a_found_hopeless fd_found_hopeless a_hopeless fd_hopeless a_does_meet fd_does_meet a_least_dues fd_least_dues a_can_meet fd_can_meet a_law fd_law) (Fu : Fun K "hopeless" "hopeless" st_hopeless a_hopeless fd_hopeless) (G_check_yard : FnOk P w K mg base (L2.CX P w) 3 a_check_yard fd_check_yard ["value"] (spD P w idA K 1 (F_check_yard E))) (G_found_hopeless : FnOk P w K mg base (L2.CX P w) 1 a_found_hopeless fd_found_hopeless ["yard"] (spD P w idA K 1 (F_found_hopeless E)))  : FnOk P w K mg base (L2.CX P w) 4 a_hopeless fd_hopeless ["yard"] (spD P w idA K 1 (F_hopeless E)) := by
  refine fn_ok (cl := idA) (k := 3) Fu sc_hopeless (by decide) fun cdv A outer s H vs EX hr => ?_
  have hu1 := hu64 hr
  have hu := Nat.lt_of_succ_lt hu1
  have tk := takes_of (X := cxOf (L2.CX P w) P w K mg base ["yard"] "hopeless" (defScope st_hopeless) a_hopeless cdv A outer s H EX) (E := EX) rfl rfl rfl rfl
  exact (dss_cons (ds_do (de_call rfl tk G_check_yard (hr.mono (by decide)) (by exact rfl) T.d_check_yard.g T.d_check_yard.k T.d_check_yard.b (das_cons (m := .ref) (ev 0) das_nil))) (dss_one (ds_ret (de_callT1 call_tuple_of o_tuple (by exact rfl) T.b_tuple (by decide +kernel) (de_call rfl tk G_found_hopeless (hr.mono (by decide)) (by exact rfl) T.d_found_hopeless.g T.d_found_hopeless.k T.d_found_hopeless.b (das_cons (m := .ref) (ev 0) das_nil))))))
theorem sc_does_meet : FnScope ["yard", "dues", "met", "level", "ticks", "further", "state", "step", "later", "good", "load"] ["yard", "dues"] (defScope st_does_meet) := ⟨rfl, rfl, rfl, by decide +kernel, rfl, by decide +kernel, by decide +kernel⟩
set_option maxHeartbeats 4000000 in
theorem ok_does_meet (T : Tz K mg E cE a_L_town fd_L_town a_L_draw fd_L_draw a_L_yard fd_L_yard a_L_pick fd_L_pick a_is_between fd_is_between a_is_yard fd_is_yard a_check_yard fd_check_yard a_acts_of fd_acts_of a_step_of fd_step_of a_nexts fd_nexts a_is_finished fd_is_finished a_distances fd_distances a_begin fd_begin a_fewest_of fd_fewest_of a_fewest fd_fewest a_check_load fd_check_load a_set_down fd_set_down a_earliest fd_earliest a_found_hopeless fd_found_hopeless a_hopeless fd_hopeless a_does_meet fd_does_meet a_least_dues fd_least_dues a_can_meet fd_can_meet a_law fd_law) (Fu : Fun K "does_meet" "does_meet" st_does_meet a_does_meet fd_does_meet) (G_begin : FnOk P w K mg base (L2.CX P w) 1 a_begin fd_begin ["yard"] (spD P w idA K 1 (F_begin E))) (G_is_finished : FnOk P w K mg base (L2.CX P w) 1 a_is_finished fd_is_finished ["state"] (spD P w idA K 1 (F_is_finished E))) (G_nexts : FnOk P w K mg base (L2.CX P w) 4 a_nexts fd_nexts ["yard", "state"] (spD P w idA K 2 (F_nexts E))) (G_set_down : FnOk P w K mg base (L2.CX P w) 1 a_set_down fd_set_down ["state", "later"] (spD P w idA K 2 (F_set_down E)))  : FnOk P w K mg base (L2.CX P w) 5 a_does_meet fd_does_meet ["yard", "dues"] (spD P w idA K 2 (F_does_meet E)) := by
  refine fn_ok (cl := idA) (k := 4) Fu sc_does_meet (by decide) fun cdv A outer s H vs EX hr => ?_
  have hu1 := hu64 hr
  have hu := Nat.lt_of_succ_lt hu1
  have tk := takes_of (X := cxOf (L2.CX P w) P w K mg base ["yard", "dues", "met", "level", "ticks", "further", "state", "step", "later", "good", "load"] "does_meet" (defScope st_does_meet) a_does_meet cdv A outer s H EX) (E := EX) rfl rfl rfl rfl
  exact (dss_cons (by first | exact (ds_par3 rfl sc_does_meet.nd rfl rfl rfl rfl rfl rfl (drs_cons (de_dict1 hu (de_call rfl tk G_begin (hr.mono (by decide)) (by exact rfl) T.d_begin.g T.d_begin.k T.d_begin.b (das_cons (m := .ref) (ev 0) das_nil)) de_bl) (drs_cons (de_lst (da_cons (de_call rfl tk G_begin (hr.mono (by decide)) (by exact rfl) T.d_begin.g T.d_begin.k T.d_begin.b (das_cons (m := .ref) (ev 0) das_nil)) da_nil)) (drs_cons de_int drs_nil))) rfl) | exact (ds_parT (dg_tup rfl (dgs_cons (i := 2) sc_does_meet.nd rfl (by first | exact Or.inl rfl | exact Or.inr rfl) (dgs_cons (i := 3) sc_does_meet.nd rfl (by first | exact Or.inl rfl | exact Or.inr rfl) (dgs_cons (i := 4) sc_does_meet.nd rfl (by first | exact Or.inl rfl | exact Or.inr rfl) dgs_nil)))) (drs_cons (de_dict1 hu (de_call rfl tk G_begin (hr.mono (by decide)) (by exact rfl) T.d_begin.g T.d_begin.k T.d_begin.b (das_cons (m := .ref) (ev 0) das_nil)) de_bl) (drs_cons (de_lst (da_cons (de_call rfl tk G_begin (hr.mono (by decide)) (by exact rfl) T.d_begin.g T.d_begin.k T.d_begin.b (das_cons (m := .ref) (ev 0) das_nil)) da_nil)) (drs_cons de_int drs_nil))))) (dss_cons (ds_while fuel PassesOwn.leaving (dt_cmp (or_ne hu) o_ne (ev 3) (de_lst da_nil) (nomark _)) (dss_cons (by first | exact (ds_par2 rfl sc_does_meet.nd rfl rfl rfl rfl (drs_cons (de_lst da_nil) (drs_cons (de_bin or_add o_add (ev 4) de_int) drs_nil)) rfl) | exact (ds_parT (dg_tup rfl (dgs_cons (i := 5) sc_does_meet.nd rfl (by first | exact Or.inl rfl | exact Or.inr rfl) (dgs_cons (i := 4) sc_does_meet.nd rfl (by first | exact Or.inl rfl | exact Or.inr rfl) dgs_nil))) (drs_cons (de_lst da_nil) (drs_cons (de_bin or_add o_add (ev 4) de_int) drs_nil)))) (dss_cons (ds_for PassesOwn.leaving rfl (di_seq (ev 3)) (dg_name (i := 6) sc_does_meet.nd rfl (by first | exact Or.inl rfl | exact Or.inr rfl)) (dss_cons (ds_if (dt_val (de_call rfl tk G_is_finished (hr.mono (by decide)) (by exact rfl) T.d_is_finished.g T.d_is_finished.k T.d_is_finished.b (das_cons (m := .ref) (ev 6) das_nil))) (dss_one (ds_ret de_bl)) dss_nil) (dss_one (ds_for PassesOwn.leaving rfl (di_seq (de_call rfl tk G_nexts (hr.mono (by decide)) (by exact rfl) T.d_nexts.g T.d_nexts.k T.d_nexts.b (das_cons (m := .ref) (ev 0) (das_cons (m := .ref) (ev 6) das_nil)))) (dg_tup rfl (dgs_cons (i := 7) sc_does_meet.nd rfl (by first | exact Or.inl rfl | exact Or.inr rfl) (dgs_cons (i := 8) sc_does_meet.nd rfl (by first | exact Or.inl rfl | exact Or.inr rfl) dgs_nil))) (dss_cons (ds_put (i := 9) sc_does_meet.nd rfl (by first | exact Or.inl rfl | exact Or.inr rfl) (de_call1 (cr_all rfl) o_all (by exact rfl) T.b_all (by decide +kernel) (de_comp rfl sc_does_meet.nd (di_seq (de_call rfl tk G_set_down (hr.mono (by decide)) (by exact rfl) T.d_set_down.g T.d_set_down.k T.d_set_down.b (das_cons (m := .ref) (ev 6) (das_cons (m := .ref) (ev 8) das_nil)))) (blkOk_by (own := [("load", 10)]) (by kernel_rfl)) (fun _ _ _ _ _ => (dg_name (i := 10) sc_does_meet.nd rfl (by first | exact Or.inl rfl | exact Or.inr rfl))) (fun _ _ _ _ _ => dts_nil) (fun _ _ _ _ _ => (de_cmp op_ge o_ge (de_sub (Nat.lt_of_succ_lt hu1) (ev 1) (ev 10)) (ev 4) (nomark _)))))) (dss_one (ds_if (dt_w (dw_and (dt_val (ev 9)) (dw_and1 (dt_notin hu1 (ev 8) (ev 2))))) (dss_cons (ds_set (Nat.lt_of_succ_lt hu1) (pv 2) (ev 8) de_bl) (dss_one (ds_do (de_append (pv 5) (ev 8))))) dss_nil))))))) (dss_one (ds_put (i := 3) sc_does_meet.nd rfl (by first | exact Or.inl rfl | exact Or.inr rfl) (ev 5)))))) (dss_one (ds_ret de_bl))))
theorem sc_least_dues : FnScope ["yard", "found", "load", "low", "middle"] ["yard"] (defScope st_least_dues) := ⟨rfl, rfl, rfl, by decide +kernel, rfl, by decide +kernel, by decide +kernel⟩
set_option maxHeartbeats 4000000 in
theorem ok_least_dues (T : Tz K mg E cE a_L_town fd_L_town a_L_draw fd_L_draw a_L_yard fd_L_yard a_L_pick fd_L_pick a_is_between fd_is_between a_is_yard fd_is_yard a_check_yard fd_check_yard a_acts_of fd_acts_of a_step_of fd_step_of a_nexts fd_nexts a_is_finished fd_is_finished a_distances fd_distances a_begin fd_begin a_fewest_of fd_fewest_of a_fewest fd_fewest a_check_load fd_check_load a_set_down fd_set_down a_earliest fd_earliest a_found_hopeless fd_found_hopeless a_hopeless fd_hopeless a_does_meet fd_does_meet a_least_dues fd_least_dues a_can_meet fd_can_meet a_law fd_law) (Fu : Fun K "least_dues" "least_dues" st_least_dues a_least_dues fd_least_dues) (G_check_yard : FnOk P w K mg base (L2.CX P w) 3 a_check_yard fd_check_yard ["value"] (spD P w idA K 1 (F_check_yard E))) (G_does_meet : FnOk P w K mg base (L2.CX P w) 5 a_does_meet fd_does_meet ["yard", "dues"] (spD P w idA K 2 (F_does_meet E)))  : FnOk P w K mg base (L2.CX P w) 6 a_least_dues fd_least_dues ["yard"] (spD P w idA K 1 (F_least_dues E)) := by
  refine fn_ok (cl := idA) (k := 5) Fu sc_least_dues (by decide) fun cdv A outer s H vs EX hr => ?_
  have hu1 := hu64 hr
  have hu := Nat.lt_of_succ_lt hu1
  have tk := takes_of (X := cxOf (L2.CX P w) P w K mg base ["yard", "found", "load", "low", "middle"] "least_dues" (defScope st_least_dues) a_least_dues cdv A outer s H EX) (E := EX) rfl rfl rfl rfl
  exact (dss_cons (ds_do (de_call rfl tk G_check_yard (hr.mono (by decide)) (by exact rfl) T.d_check_yard.g T.d_check_yard.k T.d_check_yard.b (das_cons (m := .ref) (ev 0) das_nil))) (dss_cons (ds_put (i := 1) sc_least_dues.nd rfl (by first | exact Or.inl rfl | exact Or.inr rfl) (de_bin or_mul o_mul (de_lst (da_cons de_int da_nil)) (de_call1 call_len o_len (by exact rfl) T.b_len (by decide +kernel) (de_sub (Nat.lt_of_succ_lt hu1) (ev 0) de_int)))) (dss_cons (ds_if (dt_not (dt_val (de_call rfl tk G_does_meet (hr.mono (by decide)) (by exact rfl) T.d_does_meet.g T.d_does_meet.k T.d_does_meet.b (das_cons (m := .ref) (ev 0) (das_cons (m := .ref) (ev 1) das_nil))))) (dss_one (ds_ret de_non)) dss_nil) (dss_cons (ds_for PassesOwn.leaving rfl (di_range1 (by exact rfl) T.b_range (de_call1 call_len o_len (by exact rfl) T.b_len (by decide +kernel) (ev 1))) (dg_name (i := 2) sc_least_dues.nd rfl (by first | exact Or.inl rfl | exact Or.inr rfl)) (dss_cons (ds_put (i := 3) sc_least_dues.nd rfl (by first | exact Or.inl rfl | exact Or.inr rfl) de_int) (dss_one (ds_while fuel PassesOwn.leaving (dt_cmp op_gt o_gt (de_bin op_sub o_sub (de_sub (Nat.lt_of_succ_lt hu1) (ev 1) (ev 2)) (ev 3)) de_int (nomark _)) (dss_cons (ds_put (i := 4) sc_least_dues.nd rfl (by first | exact Or.inl rfl | exact Or.inr rfl) (de_bin op_fdiv o_fdiv (de_bin or_add o_add (ev 3) (de_sub (Nat.lt_of_succ_lt hu1) (ev 1) (ev 2))) de_int)) (dss_one (ds_if (dt_val (de_call rfl tk G_does_meet (hr.mono (by decide)) (by exact rfl) T.d_does_meet.g T.d_does_meet.k T.d_does_meet.b (das_cons (m := .ref) (ev 0) (das_cons (m := .val) (de_bin or_add o_add (de_bin or_add o_add (de_slice (ev 1) do_none (do_some (ev 2))) (de_lst (da_cons (ev 4) da_nil))) (de_slice (ev 1) (do_some (de_bin or_add o_add (ev 2) de_int)) do_none)) das_nil)))) (dss_one (ds_set (Nat.lt_of_succ_lt hu1) (pv 1) (ev 2) (ev 4))) (dss_one (ds_put (i := 3) sc_least_dues.nd rfl (by first | exact Or.inl rfl | exact Or.inr rfl) (de_bin or_add o_add (ev 4) de_int)))))))))) (dss_one (ds_ret (de_callT1 call_tuple_of o_tuple (by exact rfl) T.b_tuple (by decide +kernel) (ev 1))))))))
theorem sc_can_meet : FnScope ["yard", "dues", "due"] ["yard", "dues"] (defScope st_can_meet) := ⟨rfl, rfl, rfl, by decide +kernel, rfl, by decide +kernel, by decide +kernel⟩
set_option maxHeartbeats 4000000 in
theorem ok_can_meet (T : Tz K mg E cE a_L_town fd_L_town a_L_draw fd_L_draw a_L_yard fd_L_yard a_L_pick fd_L_pick a_is_between fd_is_between a_is_yard fd_is_yard a_check_yard fd_check_yard a_acts_of fd_acts_of a_step_of fd_step_of a_nexts fd_nexts a_is_finished fd_is_finished a_distances fd_distances a_begin fd_begin a_fewest_of fd_fewest_of a_fewest fd_fewest a_check_load fd_check_load a_set_down fd_set_down a_earliest fd_earliest a_found_hopeless fd_found_hopeless a_hopeless fd_hopeless a_does_meet fd_does_meet a_least_dues fd_least_dues a_can_meet fd_can_meet a_law fd_law) (Fu : Fun K "can_meet" "can_meet" st_can_meet a_can_meet fd_can_meet) (G_check_yard : FnOk P w K mg base (L2.CX P w) 3 a_check_yard fd_check_yard ["value"] (spD P w idA K 1 (F_check_yard E))) (G_is_between : FnOk P w K mg base (L2.CX P w) 1 a_is_between fd_is_between ["value", "low", "high"] (spD P w idA K 3 (F_is_between E))) (G_does_meet : FnOk P w K mg base (L2.CX P w) 5 a_does_meet fd_does_meet ["yard", "dues"] (spD P w idA K 2 (F_does_meet E)))  : FnOk P w K mg base (L2.CX P w) 6 a_can_meet fd_can_meet ["yard", "dues"] (spD P w idA K 2 (F_can_meet E)) := by
  refine fn_ok (cl := idA) (k := 5) Fu sc_can_meet (by decide) fun cdv A outer s H vs EX hr => ?_
  have hu1 := hu64 hr
  have hu := Nat.lt_of_succ_lt hu1
  have tk := takes_of (X := cxOf (L2.CX P w) P w K mg base ["yard", "dues", "due"] "can_meet" (defScope st_can_meet) a_can_meet cdv A outer s H EX) (E := EX) rfl rfl rfl rfl
  exact (dss_cons (ds_do (de_call rfl tk G_check_yard (hr.mono (by decide)) (by exact rfl) T.d_check_yard.g T.d_check_yard.k T.d_check_yard.b (das_cons (m := .ref) (ev 0) das_nil))) (dss_cons (ds_if (dt_w (dw_or (dt_not (dt_val (de_isi (t := .tuple) (by exact rfl) T.b_isinstance (ev 1) (pe_bltn (by exact rfl) T.b_tuple (by decide +kernel) rfl)))) (dw_or1 (dt_cmp (or_ne hu) o_ne (de_call1 call_len o_len (by exact rfl) T.b_len (by decide +kernel) (ev 1)) (de_call1 call_len o_len (by exact rfl) T.b_len (by decide +kernel) (de_sub (Nat.lt_of_succ_lt hu1) (ev 0) de_int)) (nomark _))))) (dss_one (ds_rz rfl tk T.z_InvalidDues rfl)) dss_nil) (dss_cons (ds_if (dt_not (dt_val (de_call1 (cr_all rfl) o_all (by exact rfl) T.b_all (by decide +kernel) (de_comp rfl sc_can_meet.nd (di_seq (ev 1)) (blkOk_by (own := [("due", 2)]) (by kernel_rfl)) (fun _ _ _ _ _ => (dg_name (i := 2) sc_can_meet.nd rfl (by first | exact Or.inl rfl | exact Or.inr rfl))) (fun _ _ _ _ _ => dts_nil) (fun _ _ _ _ _ => (de_call rfl takes0 G_is_between (hr.mono (by decide)) (by exact rfl) T.d_is_between.g T.d_is_between.k T.d_is_between.b (das_cons (m := .ref) (ev 2) (das_cons (m := .val) de_int (das_cons (m := .val) de_int das_nil))))))))) (dss_one (ds_rz rfl tk T.z_InvalidDues rfl)) dss_nil) (dss_one (ds_ret (de_call rfl tk G_does_meet (hr.mono (by decide)) (by exact rfl) T.d_does_meet.g T.d_does_meet.k T.d_does_meet.b (das_cons (m := .ref) (ev 0) (das_cons (m := .ref) (ev 1) das_nil))))))))
theorem sc_law : FnScope ["script", "town", "yard", "size", "left", "right", "loads", "whole", "rows", "load", "single", "told", "dues"] ["script"] (defScope st_law) := ⟨rfl, rfl, rfl, by decide +kernel, rfl, by decide +kernel, by decide +kernel⟩
set_option maxHeartbeats 4000000 in
theorem ok_law (T : Tz K mg E cE a_L_town fd_L_town a_L_draw fd_L_draw a_L_yard fd_L_yard a_L_pick fd_L_pick a_is_between fd_is_between a_is_yard fd_is_yard a_check_yard fd_check_yard a_acts_of fd_acts_of a_step_of fd_step_of a_nexts fd_nexts a_is_finished fd_is_finished a_distances fd_distances a_begin fd_begin a_fewest_of fd_fewest_of a_fewest fd_fewest a_check_load fd_check_load a_set_down fd_set_down a_earliest fd_earliest a_found_hopeless fd_found_hopeless a_hopeless fd_hopeless a_does_meet fd_does_meet a_least_dues fd_least_dues a_can_meet fd_can_meet a_law fd_law) (Fu : Fun K "law" "law" st_law a_law fd_law) (G_L_town : FnOk P w K mg base (L2.CX P w) 1 a_L_town fd_L_town ["script"] (spD P w idA K 1 (F_L_town E))) (G_L_yard : FnOk P w K mg base (L2.CX P w) 2 a_L_yard fd_L_yard ["script", "town", "most", "loads"] (spD P w idA K 4 (F_L_yard E))) (G_L_pick : FnOk P w K mg base (L2.CX P w) 2 a_L_pick fd_L_pick ["script", "town", "choices"] (spD P w idA K 3 (F_L_pick E))) (G_fewest : FnOk P w K mg base (L2.CX P w) 7 a_fewest fd_fewest ["yard"] (spD P w idA K 1 (F_fewest E))) (G_earliest : FnOk P w K mg base (L2.CX P w) 5 a_earliest fd_earliest ["yard", "load"] (spD P w idA K 2 (F_earliest E))) (G_hopeless : FnOk P w K mg base (L2.CX P w) 4 a_hopeless fd_hopeless ["yard"] (spD P w idA K 1 (F_hopeless E))) (G_least_dues : FnOk P w K mg base (L2.CX P w) 6 a_least_dues fd_least_dues ["yard"] (spD P w idA K 1 (F_least_dues E))) (G_can_meet : FnOk P w K mg base (L2.CX P w) 6 a_can_meet fd_can_meet ["yard", "dues"] (spD P w idA K 2 (F_can_meet E)))  : FnOk P w K mg base (L2.CX P w) 8 a_law fd_law ["script"] (spD P w idA K 1 (F_law E)) := by
  refine fn_ok (cl := idA) (k := 7) Fu sc_law (by decide) fun cdv A outer s H vs EX hr => ?_
  have hu1 := hu64 hr
  have hu := Nat.lt_of_succ_lt hu1
  have tk := takes_of (X := cxOf (L2.CX P w) P w K mg base ["script", "town", "yard", "size", "left", "right", "loads", "whole", "rows", "load", "single", "told", "dues"] "law" (defScope st_law) a_law cdv A outer s H EX) (E := EX) rfl rfl rfl rfl
  exact (dss_cons (ds_put (i := 1) sc_law.nd rfl (by first | exact Or.inl rfl | exact Or.inr rfl) (de_call rfl tk G_L_town (hr.mono (by decide)) (by exact rfl) T.d_L_town.g T.d_L_town.k T.d_L_town.b (das_cons (m := .ref) (ev 0) das_nil))) (dss_cons (ds_put (i := 2) sc_law.nd rfl (by first | exact Or.inl rfl | exact Or.inr rfl) (de_call rfl tk G_L_yard (hr.mono (by decide)) (by exact rfl) T.d_L_yard.g T.d_L_yard.k T.d_L_yard.b (das_cons (m := .ref) (ev 0) (das_cons (m := .ref) (ev 1) (das_cons (m := .val) (de_call rfl tk G_L_pick (hr.mono (by decide)) (by exact rfl) T.d_L_pick.g T.d_L_pick.k T.d_L_pick.b (das_cons (m := .ref) (ev 0) (das_cons (m := .ref) (ev 1) (das_cons (m := .val) (de_lst (da_cons de_int (da_cons de_int (da_cons de_int da_nil)))) das_nil)))) (das_cons (m := .val) (de_call rfl tk G_L_pick (hr.mono (by decide)) (by exact rfl) T.d_L_pick.g T.d_L_pick.k T.d_L_pick.b (das_cons (m := .ref) (ev 0) (das_cons (m := .ref) (ev 1) (das_cons (m := .val) (de_lst (da_cons de_int (da_cons de_int (da_cons de_int da_nil)))) das_nil)))) das_nil)))))) (dss_cons (ds_unpack (dg_tup rfl (dgs_cons (i := 3) sc_law.nd rfl (by first | exact Or.inl rfl | exact Or.inr rfl) (dgs_cons (i := 4) sc_law.nd rfl (by first | exact Or.inl rfl | exact Or.inr rfl) (dgs_cons (i := 5) sc_law.nd rfl (by first | exact Or.inl rfl | exact Or.inr rfl) (dgs_cons (i := 6) sc_law.nd rfl (by first | exact Or.inl rfl | exact Or.inr rfl) dgs_nil))))) (ev 2)) (dss_cons (by first | exact (ds_par2 rfl sc_law.nd rfl rfl rfl rfl (drs_cons (de_call rfl tk G_fewest (hr.mono (by decide)) (by exact rfl) T.d_fewest.g T.d_fewest.k T.d_fewest.b (das_cons (m := .ref) (ev 2) das_nil)) (drs_cons (de_lst da_nil) drs_nil)) rfl) | exact (ds_parT (dg_tup rfl (dgs_cons (i := 7) sc_law.nd rfl (by first | exact Or.inl rfl | exact Or.inr rfl) (dgs_cons (i := 8) sc_law.nd rfl (by first | exact Or.inl rfl | exact Or.inr rfl) dgs_nil))) (drs_cons (de_call rfl tk G_fewest (hr.mono (by decide)) (by exact rfl) T.d_fewest.g T.d_fewest.k T.d_fewest.b (das_cons (m := .ref) (ev 2) das_nil)) (drs_cons (de_lst da_nil) drs_nil)))) (dss_cons (ds_for PassesOwn.leaving rfl (di_range1 (by exact rfl) T.b_range (de_call1 call_len o_len (by exact rfl) T.b_len (by decide +kernel) (ev 6))) (dg_name (i := 9) sc_law.nd rfl (by first | exact Or.inl rfl | exact Or.inr rfl)) (dss_cons (ds_put (i := 10) sc_law.nd rfl (by first | exact Or.inl rfl | exact Or.inr rfl) (de_call rfl tk G_fewest (hr.mono (by decide)) (by exact rfl) T.d_fewest.g T.d_fewest.k T.d_fewest.b (das_cons (m := .val) (de_tup (da_cons (ev 3) (da_cons (ev 4) (da_cons (ev 5) (da_cons (de_tup (da_cons (de_sub (Nat.lt_of_succ_lt hu1) (ev 6) (ev 9)) da_nil)) da_nil))))) das_nil))) (dss_cons (ds_if (dt_w (dw_or (dt_cmp (or_ne hu) o_ne (de_call rfl tk G_earliest (hr.mono (by decide)) (by exact rfl) T.d_earliest.g T.d_earliest.k T.d_earliest.b (das_cons (m := .ref) (ev 2) (das_cons (m := .ref) (ev 9) das_nil))) (ev 10) (nomark _)) (dw_or1 (dt_cmp (or_ne hu) o_ne (de_isN (ev 10)) (de_in hu1 (ev 9) (de_call rfl tk G_hopeless (hr.mono (by decide)) (by exact rfl) T.d_hopeless.g T.d_hopeless.k T.d_hopeless.b (das_cons (m := .ref) (ev 2) das_nil))) (nomark _))))) (dss_one (ds_ret de_bl)) dss_nil) (dss_one (ds_do (de_append (pv 8) (ev 10))))))) (dss_cons (ds_if (dt_cmp (or_ne hu) o_ne (de_in hu1 de_non (ev 8)) (de_isN (ev 7)) (nomark _)) (dss_one (ds_ret de_bl)) dss_nil) (dss_cons (ds_if (dt_isN (ev 7)) (dss_one (ds_ret (de_and (de_isN (de_call rfl tk G_least_dues (hr.mono (by decide)) (by exact rfl) T.d_least_dues.g T.d_least_dues.k T.d_least_dues.b (das_cons (m := .ref) (ev 2) das_nil))) (de_one (de_isB (de_call rfl tk G_can_meet (hr.mono (by decide)) (by exact rfl) T.d_can_meet.g T.d_can_meet.k T.d_can_meet.b (das_cons (m := .ref) (ev 2) (das_cons (m := .val) (de_bin or_mulT o_mulT (de_tup (da_cons de_int da_nil)) (de_call1 call_len o_len (by exact rfl) T.b_len (by decide +kernel) (ev 6))) das_nil)))))))) dss_nil) (dss_cons (ds_if (dt_cmp op_lt o_lt (ev 7) (de_call1 (cr_max rfl) o_maxL (by exact rfl) T.b_max (by decide +kernel) (de_bin or_add o_add (de_lst (da_cons de_int da_nil)) (ev 8))) (nomark _)) (dss_one (ds_ret de_bl)) dss_nil) (dss_cons (ds_if (dt_cmp op_gt o_gt (ev 7) (de_call1 (cr_sum rfl) o_sum (by exact rfl) T.b_sum (by decide +kernel) (de_comp rfl sc_law.nd (di_seq (ev 6)) (blkOk_by (own := [("load", 9)]) (by kernel_rfl)) (fun _ _ _ _ _ => (dg_name (i := 9) sc_law.nd rfl (by first | exact Or.inl rfl | exact Or.inr rfl))) (fun _ _ _ _ _ => dts_nil) (fun _ _ _ _ _ => (de_bin or_add o_add (de_bin or_mul o_mul de_int (ev 3)) (de_bin or_mul o_mul de_int (ev 3)))))) (nomark _)) (dss_one (ds_ret de_bl)) dss_nil) (dss_cons (ds_put (i := 11) sc_law.nd rfl (by first | exact Or.inl rfl | exact Or.inr rfl) (de_call rfl tk G_least_dues (hr.mono (by decide)) (by exact rfl) T.d_least_dues.g T.d_least_dues.k T.d_least_dues.b (das_cons (m := .ref) (ev 2) das_nil))) (dss_cons (ds_for PassesOwn.leaving rfl (di_range1 (by exact rfl) T.b_range (de_call1 call_len o_len (by exact rfl) T.b_len (by decide +kernel) (ev 6))) (dg_name (i := 9) sc_law.nd rfl (by first | exact Or.inl rfl | exact Or.inr rfl)) (dss_cons (ds_put (i := 12) sc_law.nd rfl (by first | exact Or.inl rfl | exact Or.inr rfl) (de_bin or_mul o_mul (de_lst (da_cons de_int da_nil)) (de_call1 call_len o_len (by exact rfl) T.b_len (by decide +kernel) (ev 6)))) (dss_cons (ds_set (Nat.lt_of_succ_lt hu1) (pv 12) (ev 9) (de_sub (Nat.lt_of_succ_lt hu1) (ev 8) (ev 9))) (dss_cons (ds_if (dt_w (dw_or (dt_notB (de_call rfl tk G_can_meet (hr.mono (by decide)) (by exact rfl) T.d_can_meet.g T.d_can_meet.k T.d_can_meet.b (das_cons (m := .ref) (ev 2) (das_cons (m := .val) (de_callT1 call_tuple_of o_tuple (by exact rfl) T.b_tuple (by decide +kernel) (ev 12)) das_nil)))) (dw_or1 (dt_cmp op_lt o_lt (de_sub (Nat.lt_of_succ_lt hu1) (ev 11) (ev 9)) (de_sub (Nat.lt_of_succ_lt hu1) (ev 8) (ev 9)) (nomark _))))) (dss_one (ds_ret de_bl)) dss_nil) (dss_cons (ds_set (Nat.lt_of_succ_lt hu1) (pv 12) (ev 9) (de_bin op_sub o_sub (de_sub (Nat.lt_of_succ_lt hu1) (ev 8) (ev 9)) de_int)) (dss_one (ds_if (dt_notB (de_call rfl tk G_can_meet (hr.mono (by decide)) (by exact rfl) T.d_can_meet.g T.d_can_meet.k T.d_can_meet.b (das_cons (m := .ref) (ev 2) (das_cons (m := .val) (de_callT1 call_tuple_of o_tuple (by exact rfl) T.b_tuple (by decide +kernel) (ev 12)) das_nil)))) (dss_one (ds_ret de_bl)) dss_nil))))))) (dss_cons (ds_if (dt_w (dw_and (dt_cmp op_gt o_gt (de_call1 call_len o_len (by exact rfl) T.b_len (by decide +kernel) (ev 6)) de_int (nomark _)) (dw_and1 (dt_cmp (or_ne hu) o_ne (de_sub (Nat.lt_of_succ_lt hu1) (ev 11) de_int) (de_sub (Nat.lt_of_succ_lt hu1) (ev 8) de_int) (nomark _))))) (dss_one (ds_ret de_bl)) dss_nil) (dss_cons (ds_if (dt_notB (de_call rfl tk G_can_meet (hr.mono (by decide)) (by exact rfl) T.d_can_meet.g T.d_can_meet.k T.d_can_meet.b (das_cons (m := .ref) (ev 2) (das_cons (m := .val) (de_bin or_mulT o_mulT (de_tup (da_cons (ev 7) da_nil)) (de_call1 call_len o_len (by exact rfl) T.b_len (by decide +kernel) (ev 6))) das_nil)))) (dss_one (ds_ret de_bl)) dss_nil) (dss_one (ds_ret (de_or (de_cmp (or_eq hu) o_eq (ev 7) de_int (nomark _)) (de_one (de_isB (de_call rfl tk G_can_meet (hr.mono (by decide)) (by exact rfl) T.d_can_meet.g T.d_can_meet.k T.d_can_meet.b (das_cons (m := .ref) (ev 2) (das_cons (m := .val) (de_bin or_mulT o_mulT (de_tup (da_cons (de_bin op_sub o_sub (ev 7) de_int) da_nil)) (de_call1 call_len o_len (by exact rfl) T.b_len (by decide +kernel) (ev 6))) das_nil)))))))))))))))))))))
end
set_option maxHeartbeats 8000000 in
theorem all_mk {l : PySem.W.OpenLaw} {w : World} {K : PySem.W.Frag} {h : Heap} {mg : Str → Option Value} {fa : Addr} {C_InvalidYard : Addr} {C_InvalidLoad : Addr} {C_InvalidDues : Addr} {f_L_town : Addr} {od_L_town an_L_town : Option Addr} {sl_L_town : Array (Option Value)} {oc_L_town kV_L_town dc_L_town pm_L_town cd_L_town ct_L_town : Value} {f_L_draw : Addr} {od_L_draw an_L_draw : Option Addr} {sl_L_draw : Array (Option Value)} {oc_L_draw kV_L_draw dc_L_draw pm_L_draw cd_L_draw ct_L_draw : Value} {f_L_yard : Addr} {od_L_yard an_L_yard : Option Addr} {sl_L_yard : Array (Option Value)} {oc_L_yard kV_L_yard dc_L_yard pm_L_yard cd_L_yard ct_L_yard : Value} {f_L_pick : Addr} {od_L_pick an_L_pick : Option Addr} {sl_L_pick : Array (Option Value)} {oc_L_pick kV_L_pick dc_L_pick pm_L_pick cd_L_pick ct_L_pick : Value} {f_is_between : Addr} {od_is_between an_is_between : Option Addr} {sl_is_between : Array (Option Value)} {oc_is_between kV_is_between dc_is_between pm_is_between cd_is_between ct_is_between : Value} {f_is_yard : Addr} {od_is_yard an_is_yard : Option Addr} {sl_is_yard : Array (Option Value)} {oc_is_yard kV_is_yard dc_is_yard pm_is_yard cd_is_yard ct_is_yard : Value} {f_check_yard : Addr} {od_check_yard an_check_yard : Option Addr} {sl_check_yard : Array (Option Value)} {oc_check_yard kV_check_yard dc_check_yard pm_check_yard cd_check_yard ct_check_yard : Value} {f_acts_of : Addr} {od_acts_of an_acts_of : Option Addr} {sl_acts_of : Array (Option Value)} {oc_acts_of kV_acts_of dc_acts_of pm_acts_of cd_acts_of ct_acts_of : Value} {f_step_of : Addr} {od_step_of an_step_of : Option Addr} {sl_step_of : Array (Option Value)} {oc_step_of kV_step_of dc_step_of pm_step_of cd_step_of ct_step_of : Value} {f_nexts : Addr} {od_nexts an_nexts : Option Addr} {sl_nexts : Array (Option Value)} {oc_nexts kV_nexts dc_nexts pm_nexts cd_nexts ct_nexts : Value} {f_is_finished : Addr} {od_is_finished an_is_finished : Option Addr} {sl_is_finished : Array (Option Value)} {oc_is_finished kV_is_finished dc_is_finished pm_is_finished cd_is_finished ct_is_finished : Value} {f_distances : Addr} {od_distances an_distances : Option Addr} {sl_distances : Array (Option Value)} {oc_distances kV_distances dc_distances pm_distances cd_distances ct_distances : Value} {f_begin : Addr} {od_begin an_begin : Option Addr} {sl_begin : Array (Option Value)} {oc_begin kV_begin dc_begin pm_begin cd_begin ct_begin : Value} {f_fewest_of : Addr} {od_fewest_of an_fewest_of : Option Addr} {sl_fewest_of : Array (Option Value)} {oc_fewest_of kV_fewest_of dc_fewest_of pm_fewest_of cd_fewest_of ct_fewest_of : Value} {f_fewest : Addr} {od_fewest an_fewest : Option Addr} {sl_fewest : Array (Option Value)} {oc_fewest kV_fewest dc_fewest pm_fewest cd_fewest ct_fewest : Value} {f_check_load : Addr} {od_check_load an_check_load : Option Addr} {sl_check_load : Array (Option Value)} {oc_check_load kV_check_load dc_check_load pm_check_load cd_check_load ct_check_load : Value} {f_set_down : Addr} {od_set_down an_set_down : Option Addr} {sl_set_down : Array (Option Value)} {oc_set_down kV_set_down dc_set_down pm_set_down cd_set_down ct_set_down : Value} {f_earliest : Addr} {od_earliest an_earliest : Option Addr} {sl_earliest : Array (Option Value)} {oc_earliest kV_earliest dc_earliest pm_earliest cd_earliest ct_earliest : Value} {f_found_hopeless : Addr} {od_found_hopeless an_found_hopeless : Option Addr} {sl_found_hopeless : Array (Option Value)} {oc_found_hopeless kV_found_hopeless dc_found_hopeless pm_found_hopeless cd_found_hopeless ct_found_hopeless : Value} {f_hopeless : Addr} {od_hopeless an_hopeless : Option Addr} {sl_hopeless : Array (Option Value)} {oc_hopeless kV_hopeless dc_hopeless pm_hopeless cd_hopeless ct_hopeless : Value} {f_does_meet : Addr} {od_does_meet an_does_meet : Option Addr} {sl_does_meet : Array (Option Value)} {oc_does_meet kV_does_meet dc_does_meet pm_does_meet cd_does_meet ct_does_meet : Value} {f_least_dues : Addr} {od_least_dues an_least_dues : Option Addr} {sl_least_dues : Array (Option Value)} {oc_least_dues kV_least_dues dc_least_dues pm_least_dues cd_least_dues ct_least_dues : Value} {f_can_meet : Addr} {od_can_meet an_can_meet : Option Addr} {sl_can_meet : Array (Option Value)} {oc_can_meet kV_can_meet dc_can_meet pm_can_meet cd_can_meet ct_can_meet : Value} {f_law : Addr} {od_law an_law : Option Addr} {sl_law : Array (Option Value)} {oc_law kV_law dc_law pm_law cd_law ct_law : Value} (X : K.In h) (G : h.Ns mainGlobals mg) (hfa : mg "law" = some (.ref fa))
    (a_L_town : PySem.W.nsIn K mainGlobals "_law_town" = some (some (.ref f_L_town)))
    (l_L_town : K.lookup f_L_town = some ⟨oc_L_town, od_L_town, .func (PySem.W.fnOf "_law_town" "_law_town" (defArgs st_L_town) (defBody st_L_town) (defScope st_L_town) .none kV_L_town dc_L_town pm_L_town an_L_town cd_L_town ct_L_town), sl_L_town⟩)
    (c_L_town : PySem.W.codeIn K cd_L_town "_law_town" = true)
    (k_L_town : PySem.W.keepIn K (.ref f_L_town) = true)
    (a_L_draw : PySem.W.nsIn K mainGlobals "_law_draw" = some (some (.ref f_L_draw)))
    (l_L_draw : K.lookup f_L_draw = some ⟨oc_L_draw, od_L_draw, .func (PySem.W.fnOf "_law_draw" "_law_draw" (defArgs st_L_draw) (defBody st_L_draw) (defScope st_L_draw) .none kV_L_draw dc_L_draw pm_L_draw an_L_draw cd_L_draw ct_L_draw), sl_L_draw⟩)
    (c_L_draw : PySem.W.codeIn K cd_L_draw "_law_draw" = true)
    (k_L_draw : PySem.W.keepIn K (.ref f_L_draw) = true)
    (a_L_yard : PySem.W.nsIn K mainGlobals "_law_yard" = some (some (.ref f_L_yard)))
    (l_L_yard : K.lookup f_L_yard = some ⟨oc_L_yard, od_L_yard, .func (PySem.W.fnOf "_law_yard" "_law_yard" (defArgs st_L_yard) (defBody st_L_yard) (defScope st_L_yard) .none kV_L_yard dc_L_yard pm_L_yard an_L_yard cd_L_yard ct_L_yard), sl_L_yard⟩)
    (c_L_yard : PySem.W.codeIn K cd_L_yard "_law_yard" = true)
    (k_L_yard : PySem.W.keepIn K (.ref f_L_yard) = true)
    (a_L_pick : PySem.W.nsIn K mainGlobals "_law_pick" = some (some (.ref f_L_pick)))
    (l_L_pick : K.lookup f_L_pick = some ⟨oc_L_pick, od_L_pick, .func (PySem.W.fnOf "_law_pick" "_law_pick" (defArgs st_L_pick) (defBody st_L_pick) (defScope st_L_pick) .none kV_L_pick dc_L_pick pm_L_pick an_L_pick cd_L_pick ct_L_pick), sl_L_pick⟩)
    (c_L_pick : PySem.W.codeIn K cd_L_pick "_law_pick" = true)
    (k_L_pick : PySem.W.keepIn K (.ref f_L_pick) = true)
    (a_is_between : PySem.W.nsIn K mainGlobals "is_between" = some (some (.ref f_is_between)))
    (l_is_between : K.lookup f_is_between = some ⟨oc_is_between, od_is_between, .func (PySem.W.fnOf "is_between" "is_between" (defArgs st_is_between) (defBody st_is_between) (defScope st_is_between) .none kV_is_between dc_is_between pm_is_between an_is_between cd_is_between ct_is_between), sl_is_between⟩)
    (c_is_between : PySem.W.codeIn K cd_is_between "is_between" = true)
    (k_is_between : PySem.W.keepIn K (.ref f_is_between) = true)
    (a_is_yard : PySem.W.nsIn K mainGlobals "is_yard" = some (some (.ref f_is_yard)))
    (l_is_yard : K.lookup f_is_yard = some ⟨oc_is_yard, od_is_yard, .func (PySem.W.fnOf "is_yard" "is_yard" (defArgs st_is_yard) (defBody st_is_yard) (defScope st_is_yard) .none kV_is_yard dc_is_yard pm_is_yard an_is_yard cd_is_yard ct_is_yard), sl_is_yard⟩)
    (c_is_yard : PySem.W.codeIn K cd_is_yard "is_yard" = true)
    (k_is_yard : PySem.W.keepIn K (.ref f_is_yard) = true)
    (a_check_yard : PySem.W.nsIn K mainGlobals "check_yard" = some (some (.ref f_check_yard)))
    (l_check_yard : K.lookup f_check_yard = some ⟨oc_check_yard, od_check_yard, .func (PySem.W.fnOf "check_yard" "check_yard" (defArgs st_check_yard) (defBody st_check_yard) (defScope st_check_yard) .none kV_check_yard dc_check_yard pm_check_yard an_check_yard cd_check_yard ct_check_yard), sl_check_yard⟩)
    (c_check_yard : PySem.W.codeIn K cd_check_yard "check_yard" = true)
    (k_check_yard : PySem.W.keepIn K (.ref f_check_yard) = true)
    (a_acts_of : PySem.W.nsIn K mainGlobals "acts_of" = some (some (.ref f_acts_of)))
    (l_acts_of : K.lookup f_acts_of = some ⟨oc_acts_of, od_acts_of, .func (PySem.W.fnOf "acts_of" "acts_of" (defArgs st_acts_of) (defBody st_acts_of) (defScope st_acts_of) .none kV_acts_of dc_acts_of pm_acts_of an_acts_of cd_acts_of ct_acts_of), sl_acts_of⟩)
    (c_acts_of : PySem.W.codeIn K cd_acts_of "acts_of" = true)
    (k_acts_of : PySem.W.keepIn K (.ref f_acts_of) = true)
    (a_step_of : PySem.W.nsIn K mainGlobals "step_of" = some (some (.ref f_step_of)))
    (l_step_of : K.lookup f_step_of = some ⟨oc_step_of, od_step_of, .func (PySem.W.fnOf "step_of" "step_of" (defArgs st_step_of) (defBody st_step_of) (defScope st_step_of) .none kV_step_of dc_step_of pm_step_of an_step_of cd_step_of ct_step_of), sl_step_of⟩)
    (c_step_of : PySem.W.codeIn K cd_step_of "step_of" = true)
    (k_step_of : PySem.W.keepIn K (.ref f_step_of) = true)
    (a_nexts : PySem.W.nsIn K mainGlobals "nexts" = some (some (.ref f_nexts)))
    (l_nexts : K.lookup f_nexts = some ⟨oc_nexts, od_nexts, .func (PySem.W.fnOf "nexts" "nexts" (defArgs st_nexts) (defBody st_nexts) (defScope st_nexts) .none kV_nexts dc_nexts pm_nexts an_nexts cd_nexts ct_nexts), sl_nexts⟩)
    (c_nexts : PySem.W.codeIn K cd_nexts "nexts" = true)
    (k_nexts : PySem.W.keepIn K (.ref f_nexts) = true)
    (a_is_finished : PySem.W.nsIn K mainGlobals "is_finished" = some (some (.ref f_is_finished)))
    (l_is_finished : K.lookup f_is_finished = some ⟨oc_is_finished, od_is_finished, .func (PySem.W.fnOf "is_finished" "is_finished" (defArgs st_is_finished) (defBody st_is_finished) (defScope st_is_finished) .none kV_is_finished dc_is_finished pm_is_finished an_is_finished cd_is_finished ct_is_finished), sl_is_finished⟩)
    (c_is_finished : PySem.W.codeIn K cd_is_finished "is_finished" = true)
    (k_is_finished : PySem.W.keepIn K (.ref f_is_finished) = true)
    (a_distances : PySem.W.nsIn K mainGlobals "distances" = some (some (.ref f_distances)))
    (l_distances : K.lookup f_distances = some ⟨oc_distances, od_distances, .func (PySem.W.fnOf "distances" "distances" (defArgs st_distances) (defBody st_distances) (defScope st_distances) .none kV_distances dc_distances pm_distances an_distances cd_distances ct_distances), sl_distances⟩)
    (c_distances : PySem.W.codeIn K cd_distances "distances" = true)
    (k_distances : PySem.W.keepIn K (.ref f_distances) = true)
    (a_begin : PySem.W.nsIn K mainGlobals "begin" = some (some (.ref f_begin)))
    (l_begin : K.lookup f_begin = some ⟨oc_begin, od_begin, .func (PySem.W.fnOf "begin" "begin" (defArgs st_begin) (defBody st_begin) (defScope st_begin) .none kV_begin dc_begin pm_begin an_begin cd_begin ct_begin), sl_begin⟩)
    (c_begin : PySem.W.codeIn K cd_begin "begin" = true)
    (k_begin : PySem.W.keepIn K (.ref f_begin) = true)
    (a_fewest_of : PySem.W.nsIn K mainGlobals "fewest_of" = some (some (.ref f_fewest_of)))
    (l_fewest_of : K.lookup f_fewest_of = some ⟨oc_fewest_of, od_fewest_of, .func (PySem.W.fnOf "fewest_of" "fewest_of" (defArgs st_fewest_of) (defBody st_fewest_of) (defScope st_fewest_of) .none kV_fewest_of dc_fewest_of pm_fewest_of an_fewest_of cd_fewest_of ct_fewest_of), sl_fewest_of⟩)
    (c_fewest_of : PySem.W.codeIn K cd_fewest_of "fewest_of" = true)
    (k_fewest_of : PySem.W.keepIn K (.ref f_fewest_of) = true)
    (a_fewest : PySem.W.nsIn K mainGlobals "fewest" = some (some (.ref f_fewest)))
    (l_fewest : K.lookup f_fewest = some ⟨oc_fewest, od_fewest, .func (PySem.W.fnOf "fewest" "fewest" (defArgs st_fewest) (defBody st_fewest) (defScope st_fewest) .none kV_fewest dc_fewest pm_fewest an_fewest cd_fewest ct_fewest), sl_fewest⟩)
    (c_fewest : PySem.W.codeIn K cd_fewest "fewest" = true)
    (k_fewest : PySem.W.keepIn K (.ref f_fewest) = true)
    (a_check_load : PySem.W.nsIn K mainGlobals "check_load" = some (some (.ref f_check_load)))
    (l_check_load : K.lookup f_check_load = some ⟨oc_check_load, od_check_load, .func (PySem.W.fnOf "check_load" "check_load" (defArgs st_check_load) (defBody st_check_load) (defScope st_check_load) .none kV_check_load dc_check_load pm_check_load an_check_load cd_check_load ct_check_load), sl_check_load⟩)
    (c_check_load : PySem.W.codeIn K cd_check_load "check_load" = true)
    (k_check_load : PySem.W.keepIn K (.ref f_check_load) = true)
    (a_set_down : PySem.W.nsIn K mainGlobals "set_down" = some (some (.ref f_set_down)))
    (l_set_down : K.lookup f_set_down = some ⟨oc_set_down, od_set_down, .func (PySem.W.fnOf "set_down" "set_down" (defArgs st_set_down) (defBody st_set_down) (defScope st_set_down) .none kV_set_down dc_set_down pm_set_down an_set_down cd_set_down ct_set_down), sl_set_down⟩)
    (c_set_down : PySem.W.codeIn K cd_set_down "set_down" = true)
    (k_set_down : PySem.W.keepIn K (.ref f_set_down) = true)
    (a_earliest : PySem.W.nsIn K mainGlobals "earliest" = some (some (.ref f_earliest)))
    (l_earliest : K.lookup f_earliest = some ⟨oc_earliest, od_earliest, .func (PySem.W.fnOf "earliest" "earliest" (defArgs st_earliest) (defBody st_earliest) (defScope st_earliest) .none kV_earliest dc_earliest pm_earliest an_earliest cd_earliest ct_earliest), sl_earliest⟩)
    (c_earliest : PySem.W.codeIn K cd_earliest "earliest" = true)
    (k_earliest : PySem.W.keepIn K (.ref f_earliest) = true)
    (a_found_hopeless : PySem.W.nsIn K mainGlobals "found_hopeless" = some (some (.ref f_found_hopeless)))
    (l_found_hopeless : K.lookup f_found_hopeless = some ⟨oc_found_hopeless, od_found_hopeless, .func (PySem.W.fnOf "found_hopeless" "found_hopeless" (defArgs st_found_hopeless) (defBody st_found_hopeless) (defScope st_found_hopeless) .none kV_found_hopeless dc_found_hopeless pm_found_hopeless an_found_hopeless cd_found_hopeless ct_found_hopeless), sl_found_hopeless⟩)
    (c_found_hopeless : PySem.W.codeIn K cd_found_hopeless "found_hopeless" = true)
    (k_found_hopeless : PySem.W.keepIn K (.ref f_found_hopeless) = true)
    (a_hopeless : PySem.W.nsIn K mainGlobals "hopeless" = some (some (.ref f_hopeless)))
    (l_hopeless : K.lookup f_hopeless = some ⟨oc_hopeless, od_hopeless, .func (PySem.W.fnOf "hopeless" "hopeless" (defArgs st_hopeless) (defBody st_hopeless) (defScope st_hopeless) .none kV_hopeless dc_hopeless pm_hopeless an_hopeless cd_hopeless ct_hopeless), sl_hopeless⟩)
    (c_hopeless : PySem.W.codeIn K cd_hopeless "hopeless" = true)
    (k_hopeless : PySem.W.keepIn K (.ref f_hopeless) = true)
    (a_does_meet : PySem.W.nsIn K mainGlobals "does_meet" = some (some (.ref f_does_meet)))
    (l_does_meet : K.lookup f_does_meet = some ⟨oc_does_meet, od_does_meet, .func (PySem.W.fnOf "does_meet" "does_meet" (defArgs st_does_meet) (defBody st_does_meet) (defScope st_does_meet) .none kV_does_meet dc_does_meet pm_does_meet an_does_meet cd_does_meet ct_does_meet), sl_does_meet⟩)
    (c_does_meet : PySem.W.codeIn K cd_does_meet "does_meet" = true)
    (k_does_meet : PySem.W.keepIn K (.ref f_does_meet) = true)
    (a_least_dues : PySem.W.nsIn K mainGlobals "least_dues" = some (some (.ref f_least_dues)))
    (l_least_dues : K.lookup f_least_dues = some ⟨oc_least_dues, od_least_dues, .func (PySem.W.fnOf "least_dues" "least_dues" (defArgs st_least_dues) (defBody st_least_dues) (defScope st_least_dues) .none kV_least_dues dc_least_dues pm_least_dues an_least_dues cd_least_dues ct_least_dues), sl_least_dues⟩)
    (c_least_dues : PySem.W.codeIn K cd_least_dues "least_dues" = true)
    (k_least_dues : PySem.W.keepIn K (.ref f_least_dues) = true)
    (a_can_meet : PySem.W.nsIn K mainGlobals "can_meet" = some (some (.ref f_can_meet)))
    (l_can_meet : K.lookup f_can_meet = some ⟨oc_can_meet, od_can_meet, .func (PySem.W.fnOf "can_meet" "can_meet" (defArgs st_can_meet) (defBody st_can_meet) (defScope st_can_meet) .none kV_can_meet dc_can_meet pm_can_meet an_can_meet cd_can_meet ct_can_meet), sl_can_meet⟩)
    (c_can_meet : PySem.W.codeIn K cd_can_meet "can_meet" = true)
    (k_can_meet : PySem.W.keepIn K (.ref f_can_meet) = true)
    (a_law : PySem.W.nsIn K mainGlobals "law" = some (some (.ref f_law)))
    (l_law : K.lookup f_law = some ⟨oc_law, od_law, .func (PySem.W.fnOf "law" "law" (defArgs st_law) (defBody st_law) (defScope st_law) .none kV_law dc_law pm_law an_law cd_law ct_law), sl_law⟩)
    (c_law : PySem.W.codeIn K cd_law "law" = true)
    (k_law : PySem.W.keepIn K (.ref f_law) = true)
    (b_all : PySem.W.nsIn K mainGlobals "all" = some none)
    (b_bool : PySem.W.nsIn K mainGlobals "bool" = some none)
    (b_enumerate : PySem.W.nsIn K mainGlobals "enumerate" = some none)
    (b_int : PySem.W.nsIn K mainGlobals "int" = some none)
    (b_isinstance : PySem.W.nsIn K mainGlobals "isinstance" = some none)
    (b_len : PySem.W.nsIn K mainGlobals "len" = some none)
    (b_list : PySem.W.nsIn K mainGlobals "list" = some none)
    (b_max : PySem.W.nsIn K mainGlobals "max" = some none)
    (b_range : PySem.W.nsIn K mainGlobals "range" = some none)
    (b_sorted : PySem.W.nsIn K mainGlobals "sorted" = some none)
    (b_sum : PySem.W.nsIn K mainGlobals "sum" = some none)
    (b_tuple : PySem.W.nsIn K mainGlobals "tuple" = some none)
    (g_InvalidYard : PySem.W.nsIn K mainGlobals "InvalidYard" = some (some (.ref C_InvalidYard)))
    (g_InvalidLoad : PySem.W.nsIn K mainGlobals "InvalidLoad" = some (some (.ref C_InvalidLoad)))
    (g_InvalidDues : PySem.W.nsIn K mainGlobals "InvalidDues" = some (some (.ref C_InvalidDues)))
    (e_InvalidYard : PySem.W.excIn K C_InvalidYard [.type "ValueError", .type "Exception", .type "BaseException", .type "object"] "ValueError.__new__" = true)
    (kk_InvalidYard : PySem.W.keepIn K (.ref C_InvalidYard) = true)
    (bb_InvalidYard : PySem.W.subIn K (.ref C_InvalidYard) (.type "BaseException") = some true)
    (tt_InvalidYard : PySem.W.typeIn K (.ref C_InvalidYard) = some (.type "type"))
    (e_InvalidLoad : PySem.W.excIn K C_InvalidLoad [.type "ValueError", .type "Exception", .type "BaseException", .type "object"] "ValueError.__new__" = true)
    (kk_InvalidLoad : PySem.W.keepIn K (.ref C_InvalidLoad) = true)
    (bb_InvalidLoad : PySem.W.subIn K (.ref C_InvalidLoad) (.type "BaseException") = some true)
    (tt_InvalidLoad : PySem.W.typeIn K (.ref C_InvalidLoad) = some (.type "type"))
    (e_InvalidDues : PySem.W.excIn K C_InvalidDues [.type "ValueError", .type "Exception", .type "BaseException", .type "object"] "ValueError.__new__" = true)
    (kk_InvalidDues : PySem.W.keepIn K (.ref C_InvalidDues) = true)
    (bb_InvalidDues : PySem.W.subIn K (.ref C_InvalidDues) (.type "BaseException") = some true)
    (tt_InvalidDues : PySem.W.typeIn K (.ref C_InvalidDues) = some (.type "type"))
    (plain : ∀ E : Ec, ∀ ns : List Int, ns.length ≤ 63 → ∃ as, F_law E [.scr ns] = .ok (.pure (.bl true)) as) :
    ∃ fd : FuncData, (∀ (s : Shared) (v : Value), BindsTo s fd ⟨[v], []⟩ [("script", v)]) ∧ ∀ base : Heap, K.In base → base.Ns mainGlobals mg → FnOk l.prog w K mg base (L2.CX l.prog w) 8 fa fd ["script"] (spLaw K) := by
  have e := hfa.symm.trans (PySem.W.mg_of X G a_law)
  cases e
  have Fu_L_town := fun_mk (st := st_L_town) l_L_town c_L_town k_L_town
  have bi_L_town := Fu_L_town.binds (ps := ["script"]) fun _ _ _ _ _ _ us hl => match us, hl with | [_], _ => rfl
  have Fu_L_draw := fun_mk (st := st_L_draw) l_L_draw c_L_draw k_L_draw
  have bi_L_draw := Fu_L_draw.binds (ps := ["script", "town", "limit"]) fun _ _ _ _ _ _ us hl => match us, hl with | [_, _, _], _ => rfl
  have Fu_L_yard := fun_mk (st := st_L_yard) l_L_yard c_L_yard k_L_yard
  have bi_L_yard := Fu_L_yard.binds (ps := ["script", "town", "most", "loads"]) fun _ _ _ _ _ _ us hl => match us, hl with | [_, _, _, _], _ => rfl
  have Fu_L_pick := fun_mk (st := st_L_pick) l_L_pick c_L_pick k_L_pick
  have bi_L_pick := Fu_L_pick.binds (ps := ["script", "town", "choices"]) fun _ _ _ _ _ _ us hl => match us, hl with | [_, _, _], _ => rfl
  have Fu_is_between := fun_mk (st := st_is_between) l_is_between c_is_between k_is_between
  have bi_is_between := Fu_is_between.binds (ps := ["value", "low", "high"]) fun _ _ _ _ _ _ us hl => match us, hl with | [_, _, _], _ => rfl
  have Fu_is_yard := fun_mk (st := st_is_yard) l_is_yard c_is_yard k_is_yard
  have bi_is_yard := Fu_is_yard.binds (ps := ["value"]) fun _ _ _ _ _ _ us hl => match us, hl with | [_], _ => rfl
  have Fu_check_yard := fun_mk (st := st_check_yard) l_check_yard c_check_yard k_check_yard
  have bi_check_yard := Fu_check_yard.binds (ps := ["value"]) fun _ _ _ _ _ _ us hl => match us, hl with | [_], _ => rfl
  have Fu_acts_of := fun_mk (st := st_acts_of) l_acts_of c_acts_of k_acts_of
  have bi_acts_of := Fu_acts_of.binds (ps := ["yard", "place", "carried", "lying"]) fun _ _ _ _ _ _ us hl => match us, hl with | [_, _, _, _], _ => rfl
  have Fu_step_of := fun_mk (st := st_step_of) l_step_of c_step_of k_step_of
  have bi_step_of := Fu_step_of.binds (ps := ["row"]) fun _ _ _ _ _ _ us hl => match us, hl with | [_], _ => rfl
  have Fu_nexts := fun_mk (st := st_nexts) l_nexts c_nexts k_nexts
  have bi_nexts := Fu_nexts.binds (ps := ["yard", "state"]) fun _ _ _ _ _ _ us hl => match us, hl with | [_, _], _ => rfl
  have Fu_is_finished := fun_mk (st := st_is_finished) l_is_finished c_is_finished k_is_finished
  have bi_is_finished := Fu_is_finished.binds (ps := ["state"]) fun _ _ _ _ _ _ us hl => match us, hl with | [_], _ => rfl
  have Fu_distances := fun_mk (st := st_distances) l_distances c_distances k_distances
  have bi_distances := Fu_distances.binds (ps := ["yard", "state"]) fun _ _ _ _ _ _ us hl => match us, hl with | [_, _], _ => rfl
  have Fu_begin := fun_mk (st := st_begin) l_begin c_begin k_begin
  have bi_begin := Fu_begin.binds (ps := ["yard"]) fun _ _ _ _ _ _ us hl => match us, hl with | [_], _ => rfl
  have Fu_fewest_of := fun_mk (st := st_fewest_of) l_fewest_of c_fewest_of k_fewest_of
  have bi_fewest_of := Fu_fewest_of.binds (ps := ["yard"]) fun _ _ _ _ _ _ us hl => match us, hl with | [_], _ => rfl
  have Fu_fewest := fun_mk (st := st_fewest) l_fewest c_fewest k_fewest
  have bi_fewest := Fu_fewest.binds (ps := ["yard"]) fun _ _ _ _ _ _ us hl => match us, hl with | [_], _ => rfl
  have Fu_check_load := fun_mk (st := st_check_load) l_check_load c_check_load k_check_load
  have bi_check_load := Fu_check_load.binds (ps := ["yard", "load"]) fun _ _ _ _ _ _ us hl => match us, hl with | [_, _], _ => rfl
  have Fu_set_down := fun_mk (st := st_set_down) l_set_down c_set_down k_set_down
  have bi_set_down := Fu_set_down.binds (ps := ["state", "later"]) fun _ _ _ _ _ _ us hl => match us, hl with | [_, _], _ => rfl
  have Fu_earliest := fun_mk (st := st_earliest) l_earliest c_earliest k_earliest
  have bi_earliest := Fu_earliest.binds (ps := ["yard", "load"]) fun _ _ _ _ _ _ us hl => match us, hl with | [_, _], _ => rfl
  have Fu_found_hopeless := fun_mk (st := st_found_hopeless) l_found_hopeless c_found_hopeless k_found_hopeless
  have bi_found_hopeless := Fu_found_hopeless.binds (ps := ["yard"]) fun _ _ _ _ _ _ us hl => match us, hl with | [_], _ => rfl
  have Fu_hopeless := fun_mk (st := st_hopeless) l_hopeless c_hopeless k_hopeless
  have bi_hopeless := Fu_hopeless.binds (ps := ["yard"]) fun _ _ _ _ _ _ us hl => match us, hl with | [_], _ => rfl
  have Fu_does_meet := fun_mk (st := st_does_meet) l_does_meet c_does_meet k_does_meet
  have bi_does_meet := Fu_does_meet.binds (ps := ["yard", "dues"]) fun _ _ _ _ _ _ us hl => match us, hl with | [_, _], _ => rfl
  have Fu_least_dues := fun_mk (st := st_least_dues) l_least_dues c_least_dues k_least_dues
  have bi_least_dues := Fu_least_dues.binds (ps := ["yard"]) fun _ _ _ _ _ _ us hl => match us, hl with | [_], _ => rfl
  have Fu_can_meet := fun_mk (st := st_can_meet) l_can_meet c_can_meet k_can_meet
  have bi_can_meet := Fu_can_meet.binds (ps := ["yard", "dues"]) fun _ _ _ _ _ _ us hl => match us, hl with | [_, _], _ => rfl
  have Fu_law := fun_mk (st := st_law) l_law c_law k_law
  have bi_law := Fu_law.binds (ps := ["script"]) fun _ _ _ _ _ _ us hl => match us, hl with | [_], _ => rfl
  have T : Tz K mg (⟨C_InvalidYard, 0, 0, C_InvalidLoad, 0, 0, C_InvalidDues, 0, 0, 0, 0⟩ : Ec) 0 _ _ _ _ _ _ _ _ _ _ _ _ _ _ _ _ _ _ _ _ _ _ _ _ _ _ _ _ _ _ _ _ _ _ _ _ _ _ _ _ _ _ _ _ _ _ _ _ := {
    b_all := PySem.W.mg_none_of X G b_all
    b_bool := PySem.W.mg_none_of X G b_bool
    b_enumerate := PySem.W.mg_none_of X G b_enumerate
    b_int := PySem.W.mg_none_of X G b_int
    b_isinstance := PySem.W.mg_none_of X G b_isinstance
    b_len := PySem.W.mg_none_of X G b_len
    b_list := PySem.W.mg_none_of X G b_list
    b_max := PySem.W.mg_none_of X G b_max
    b_range := PySem.W.mg_none_of X G b_range
    b_sorted := PySem.W.mg_none_of X G b_sorted
    b_sum := PySem.W.mg_none_of X G b_sum
    b_tuple := PySem.W.mg_none_of X G b_tuple
    d_L_town := ⟨PySem.W.mg_of X G a_L_town, k_L_town, bi_L_town⟩
    d_L_draw := ⟨PySem.W.mg_of X G a_L_draw, k_L_draw, bi_L_draw⟩
    d_L_yard := ⟨PySem.W.mg_of X G a_L_yard, k_L_yard, bi_L_yard⟩
    d_L_pick := ⟨PySem.W.mg_of X G a_L_pick, k_L_pick, bi_L_pick⟩
    d_is_between := ⟨PySem.W.mg_of X G a_is_between, k_is_between, bi_is_between⟩
    d_is_yard := ⟨PySem.W.mg_of X G a_is_yard, k_is_yard, bi_is_yard⟩
    d_check_yard := ⟨PySem.W.mg_of X G a_check_yard, k_check_yard, bi_check_yard⟩
    d_acts_of := ⟨PySem.W.mg_of X G a_acts_of, k_acts_of, bi_acts_of⟩
    d_step_of := ⟨PySem.W.mg_of X G a_step_of, k_step_of, bi_step_of⟩
    d_nexts := ⟨PySem.W.mg_of X G a_nexts, k_nexts, bi_nexts⟩
    d_is_finished := ⟨PySem.W.mg_of X G a_is_finished, k_is_finished, bi_is_finished⟩
    d_distances := ⟨PySem.W.mg_of X G a_distances, k_distances, bi_distances⟩
    d_begin := ⟨PySem.W.mg_of X G a_begin, k_begin, bi_begin⟩
    d_fewest_of := ⟨PySem.W.mg_of X G a_fewest_of, k_fewest_of, bi_fewest_of⟩
    d_fewest := ⟨PySem.W.mg_of X G a_fewest, k_fewest, bi_fewest⟩
    d_check_load := ⟨PySem.W.mg_of X G a_check_load, k_check_load, bi_check_load⟩
    d_set_down := ⟨PySem.W.mg_of X G a_set_down, k_set_down, bi_set_down⟩
    d_earliest := ⟨PySem.W.mg_of X G a_earliest, k_earliest, bi_earliest⟩
    d_found_hopeless := ⟨PySem.W.mg_of X G a_found_hopeless, k_found_hopeless, bi_found_hopeless⟩
    d_hopeless := ⟨PySem.W.mg_of X G a_hopeless, k_hopeless, bi_hopeless⟩
    d_does_meet := ⟨PySem.W.mg_of X G a_does_meet, k_does_meet, bi_does_meet⟩
    d_least_dues := ⟨PySem.W.mg_of X G a_least_dues, k_least_dues, bi_least_dues⟩
    d_can_meet := ⟨PySem.W.mg_of X G a_can_meet, k_can_meet, bi_can_meet⟩
    d_law := ⟨PySem.W.mg_of X G a_law, k_law, bi_law⟩
    z_InvalidYard := ⟨PySem.W.mg_of X G g_InvalidYard, e_InvalidYard, kk_InvalidYard, bb_InvalidYard, tt_InvalidYard⟩
    z_InvalidLoad := ⟨PySem.W.mg_of X G g_InvalidLoad, e_InvalidLoad, kk_InvalidLoad, bb_InvalidLoad, tt_InvalidLoad⟩
    z_InvalidDues := ⟨PySem.W.mg_of X G g_InvalidDues, e_InvalidDues, kk_InvalidDues, bb_InvalidDues, tt_InvalidDues⟩
  }
  refine ⟨PySem.W.fnOf "law" "law" (defArgs st_law) (defBody st_law) (defScope st_law) .none kV_law dc_law pm_law an_law cd_law ct_law, fun s v => .of_eq rfl, fun base _ _ => ?_⟩
  have G_L_town := ok_L_town (P := l.prog) (w := w) (base := base) T Fu_L_town  
  have G_L_draw := ok_L_draw (P := l.prog) (w := w) (base := base) T Fu_L_draw  
  have G_L_yard := ok_L_yard (P := l.prog) (w := w) (base := base) T Fu_L_yard G_L_draw 
  have G_L_pick := ok_L_pick (P := l.prog) (w := w) (base := base) T Fu_L_pick G_L_draw 
  have G_is_between := ok_is_between (P := l.prog) (w := w) (base := base) T Fu_is_between  
  have G_is_yard := ok_is_yard (P := l.prog) (w := w) (base := base) T Fu_is_yard G_is_between 
  have G_check_yard := ok_check_yard (P := l.prog) (w := w) (base := base) T Fu_check_yard G_is_yard 
  have G_acts_of := ok_acts_of (P := l.prog) (w := w) (base := base) T Fu_acts_of  
  have G_step_of := ok_step_of (P := l.prog) (w := w) (base := base) T Fu_step_of  
  have G_nexts := ok_nexts (P := l.prog) (w := w) (base := base) T Fu_nexts G_acts_of G_step_of Fu_step_of
  have G_is_finished := ok_is_finished (P := l.prog) (w := w) (base := base) T Fu_is_finished  
  have G_distances := ok_distances (P := l.prog) (w := w) (base := base) T Fu_distances G_nexts G_is_finished 
  have G_begin := ok_begin (P := l.prog) (w := w) (base := base) T Fu_begin  
  have G_fewest_of := ok_fewest_of (P := l.prog) (w := w) (base := base) T Fu_fewest_of G_distances G_begin 
  have G_fewest := ok_fewest (P := l.prog) (w := w) (base := base) T Fu_fewest G_check_yard G_fewest_of 
  have G_check_load := ok_check_load (P := l.prog) (w := w) (base := base) T Fu_check_load G_check_yard G_is_between 
  have G_set_down := ok_set_down (P := l.prog) (w := w) (base := base) T Fu_set_down  
  have G_earliest := ok_earliest (P := l.prog) (w := w) (base := base) T Fu_earliest G_check_load G_begin G_nexts G_set_down 
  have G_found_hopeless := ok_found_hopeless (P := l.prog) (w := w) (base := base) T Fu_found_hopeless  
  have G_hopeless := ok_hopeless (P := l.prog) (w := w) (base := base) T Fu_hopeless G_check_yard G_found_hopeless 
  have G_does_meet := ok_does_meet (P := l.prog) (w := w) (base := base) T Fu_does_meet G_begin G_is_finished G_nexts G_set_down 
  have G_least_dues := ok_least_dues (P := l.prog) (w := w) (base := base) T Fu_least_dues G_check_yard G_does_meet 
  have G_can_meet := ok_can_meet (P := l.prog) (w := w) (base := base) T Fu_can_meet G_check_yard G_is_between G_does_meet 
  have G_law := ok_law (P := l.prog) (w := w) (base := base) T Fu_law G_L_town G_L_yard G_L_pick G_fewest G_earliest G_hopeless G_least_dues G_can_meet 
  exact G_law.imp (law_imp (plain _))
end DL

open PySem PySem.W PyProof.Rows
set_option maxRecDepth 100000 in
set_option maxHeartbeats 0 in
theorem PySem.Challenge.cw_twocranes_k52_loads_by_themselves_holds : PySem.Challenge.rw_twocranes_k52_loads_by_themselves.Holds := by
  w_on; o_law; k_head; (case hw => w_witness2)
  k_fill
  refine DL.walkD (l := PySem.Challenge.rw_twocranes_k52_loads_by_themselves) 8 ⟨rfl, by decide, by decide⟩ rfl rfl (fun w h Y => PySem.W.kIn_of Y) ?F
  case F =>
    intro w mg fa h KX G hmg
    refine' DL.all_mk KX G hmg ?a_L_town ?l_L_town ?c_L_town ?k_L_town ?a_L_draw ?l_L_draw ?c_L_draw ?k_L_draw ?a_L_yard ?l_L_yard ?c_L_yard ?k_L_yard ?a_L_pick ?l_L_pick ?c_L_pick ?k_L_pick ?a_is_between ?l_is_between ?c_is_between ?k_is_between ?a_is_yard ?l_is_yard ?c_is_yard ?k_is_yard ?a_check_yard ?l_check_yard ?c_check_yard ?k_check_yard ?a_acts_of ?l_acts_of ?c_acts_of ?k_acts_of ?a_step_of ?l_step_of ?c_step_of ?k_step_of ?a_nexts ?l_nexts ?c_nexts ?k_nexts ?a_is_finished ?l_is_finished ?c_is_finished ?k_is_finished ?a_distances ?l_distances ?c_distances ?k_distances ?a_begin ?l_begin ?c_begin ?k_begin ?a_fewest_of ?l_fewest_of ?c_fewest_of ?k_fewest_of ?a_fewest ?l_fewest ?c_fewest ?k_fewest ?a_check_load ?l_check_load ?c_check_load ?k_check_load ?a_set_down ?l_set_down ?c_set_down ?k_set_down ?a_earliest ?l_earliest ?c_earliest ?k_earliest ?a_found_hopeless ?l_found_hopeless ?c_found_hopeless ?k_found_hopeless ?a_hopeless ?l_hopeless ?c_hopeless ?k_hopeless ?a_does_meet ?l_does_meet ?c_does_meet ?k_does_meet ?a_least_dues ?l_least_dues ?c_least_dues ?k_least_dues ?a_can_meet ?l_can_meet ?c_can_meet ?k_can_meet ?a_law ?l_law ?c_law ?k_law ?b_all ?b_bool ?b_enumerate ?b_int ?b_isinstance ?b_len ?b_list ?b_max ?b_range ?b_sorted ?b_sum ?b_tuple ?g_InvalidYard ?g_InvalidLoad ?g_InvalidDues ?e_InvalidYard ?kk_InvalidYard ?bb_InvalidYard ?tt_InvalidYard ?e_InvalidLoad ?kk_InvalidLoad ?bb_InvalidLoad ?tt_InvalidLoad ?e_InvalidDues ?kk_InvalidDues ?bb_InvalidDues ?tt_InvalidDues DL.plain_law
    (case a_L_town => k_is); (case l_L_town => k_is); (case c_L_town => k_is); (case k_L_town => k_is)
    (case a_L_draw => k_is); (case l_L_draw => k_is); (case c_L_draw => k_is); (case k_L_draw => k_is)
    (case a_L_yard => k_is); (case l_L_yard => k_is); (case c_L_yard => k_is); (case k_L_yard => k_is)
    (case a_L_pick => k_is); (case l_L_pick => k_is); (case c_L_pick => k_is); (case k_L_pick => k_is)
    (case a_is_between => k_is); (case l_is_between => k_is); (case c_is_between => k_is); (case k_is_between => k_is)
    (case a_is_yard => k_is); (case l_is_yard => k_is); (case c_is_yard => k_is); (case k_is_yard => k_is)
    (case a_check_yard => k_is); (case l_check_yard => k_is); (case c_check_yard => k_is); (case k_check_yard => k_is)
    (case a_acts_of => k_is); (case l_acts_of => k_is); (case c_acts_of => k_is); (case k_acts_of => k_is)
    (case a_step_of => k_is); (case l_step_of => k_is); (case c_step_of => k_is); (case k_step_of => k_is)
    (case a_nexts => k_is); (case l_nexts => k_is); (case c_nexts => k_is); (case k_nexts => k_is)
    (case a_is_finished => k_is); (case l_is_finished => k_is); (case c_is_finished => k_is); (case k_is_finished => k_is)
    (case a_distances => k_is); (case l_distances => k_is); (case c_distances => k_is); (case k_distances => k_is)
    (case a_begin => k_is); (case l_begin => k_is); (case c_begin => k_is); (case k_begin => k_is)
    (case a_fewest_of => k_is); (case l_fewest_of => k_is); (case c_fewest_of => k_is); (case k_fewest_of => k_is)
    (case a_fewest => k_is); (case l_fewest => k_is); (case c_fewest => k_is); (case k_fewest => k_is)
    (case a_check_load => k_is); (case l_check_load => k_is); (case c_check_load => k_is); (case k_check_load => k_is)
    (case a_set_down => k_is); (case l_set_down => k_is); (case c_set_down => k_is); (case k_set_down => k_is)
    (case a_earliest => k_is); (case l_earliest => k_is); (case c_earliest => k_is); (case k_earliest => k_is)
    (case a_found_hopeless => k_is); (case l_found_hopeless => k_is); (case c_found_hopeless => k_is); (case k_found_hopeless => k_is)
    (case a_hopeless => k_is); (case l_hopeless => k_is); (case c_hopeless => k_is); (case k_hopeless => k_is)
    (case a_does_meet => k_is); (case l_does_meet => k_is); (case c_does_meet => k_is); (case k_does_meet => k_is)
    (case a_least_dues => k_is); (case l_least_dues => k_is); (case c_least_dues => k_is); (case k_least_dues => k_is)
    (case a_can_meet => k_is); (case l_can_meet => k_is); (case c_can_meet => k_is); (case k_can_meet => k_is)
    (case a_law => k_is); (case l_law => k_is); (case c_law => k_is); (case k_law => k_is)
    (case b_all => k_is); (case b_bool => k_is); (case b_enumerate => k_is); (case b_int => k_is)
    (case b_isinstance => k_is); (case b_len => k_is); (case b_list => k_is); (case b_max => k_is)
    (case b_range => k_is); (case b_sorted => k_is); (case b_sum => k_is); (case b_tuple => k_is)
    (case g_InvalidYard => k_is); (case g_InvalidLoad => k_is); (case g_InvalidDues => k_is); (case e_InvalidYard => k_exc)
    (case kk_InvalidYard => k_is); (case bb_InvalidYard => k_is); (case tt_InvalidYard => k_is); (case e_InvalidLoad => k_exc)
    (case kk_InvalidLoad => k_is); (case bb_InvalidLoad => k_is); (case tt_InvalidLoad => k_is); (case e_InvalidDues => k_exc)
    (case kk_InvalidDues => k_is); (case bb_InvalidDues => k_is); (case tt_InvalidDues => k_is)
#print axioms PySem.Challenge.cw_twocranes_k52_loads_by_themselves_holds
