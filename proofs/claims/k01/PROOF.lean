import PyProof.Rows.All
import Wide.All
import OpenK.AllK
import Wide.FinOn
import PySem.Challenge.RW_halftruths_k01_sayings_counted
import HandS.ForMost
import HandS.ForExc
import HandS.Wide
import HandS.TupAny
import HandS.SortInts
import HandS.Zip
import HandS.EndBits
import PyProof.ReprBulk
import PyProof.ReprLen
set_option Elab.async false
set_option linter.all false
set_option autoImplicit false
set_option maxRecDepth 100000
/-! PyI, part 1: an interpreter for the small language of the linked texts. Own work. -/
namespace PyI
open PySem (Str sizeLine PyData)

/-! ### values, store -/
inductive W where
  | non | bl (b : Bool) | int (i : Int) | str (s : Str)
  | tup (l : List W) | lst (l : List W) | ro (l : List Int) | loc (n : Nat)
  | exc (c : Nat) (l : List W)
  deriving Inhabited

abbrev Key := L2.Key
inductive Cell where
  | lst (l : List W) | dct (l : List (Key × W)) | ins (c : Nat) (fs : List (Str × W))
abbrev Store := List Cell
abbrev Slots := List (Option W)

/-- the result of an expression: a value, an exception, or no meaning here -/
inductive R (α : Type) where
  | ok (a : α) (S : Store) | exc (c : Nat) (p : List W) (S : Store) | stuck
def R.bind {α β : Type} (r : R α) (f : α → Store → R β) : R β := match r with
  | .ok a S => f a S | .exc c p S => .exc c p S | .stuck => .stuck
@[simp] theorem R.bind_ok {α β : Type} (a : α) (S : Store) (f : α → Store → R β) : (R.ok a S).bind f = f a S := rfl
@[simp] theorem R.bind_exc {α β : Type} (c : Nat) (p : List W) (S : Store) (f : α → Store → R β) : (R.exc c p S : R α).bind f = .exc c p S := rfl
@[simp] theorem R.bind_stuck {α β : Type} (f : α → Store → R β) : (R.stuck : R α).bind f = .stuck := rfl
/-- a partial operation without a change of the store -/
def lift {α : Type} (S : Store) : Option α → R α | some a => .ok a S | none => .stuck
@[simp] theorem lift_some {α : Type} (S : Store) (a : α) : lift S (some a) = .ok a S := rfl
@[simp] theorem lift_none {α : Type} (S : Store) : lift S (none : Option α) = .stuck := rfl
def need {α : Type} (p : Prop) [Decidable p] (r : R α) : R α := if p then r else .stuck
theorem need_of {α : Type} {p : Prop} [Decidable p] {r : R α} (h : p) : need p r = r := if_pos h

/-- the list that a value is, the list or tuple that it is -/
def getL (S : Store) : W → Option (List W)
  | .lst l => some l
  | .loc n => match S[n]? with | some (.lst l) => some l | _ => none
  | _ => none
def getRd (S : Store) : W → Option (List W)
  | .lst l => some l
  | .tup l => some l
  | .ro l => some (l.map W.int)
  | .loc n => match S[n]? with | some (.lst l) => some l | _ => none
  | _ => none
def getD (S : Store) : W → Option (List (Key × W))
  | .loc n => match S[n]? with | some (.dct l) => some l | _ => none
  | _ => none
def toKey : W → Option Key
  | .int i => some (.inl i) | .str s => some (.inr s) | _ => none

/-! ### plain data -/
mutual
def W.pure : W → Bool
  | .tup l => pureL l | .lst l => pureL l
  | .ro _ => false | .loc _ => false | .exc _ _ => false
  | _ => true
def pureL : List W → Bool
  | [] => true
  | w :: r => w.pure && pureL r
end
mutual
def W.pd : W → PyData
  | .non => .none | .bl b => .bool b | .int i => .int i | .str s => .str s
  | .tup l => .tuple (pdL l) | .lst l => .list (pdL l)
  | .ro _ => .none | .loc _ => .none | .exc _ _ => .none
def pdL : List W → List PyData
  | [] => []
  | w :: r => w.pd :: pdL r
end
/-- what is compared or shown: plain data, or a mutable list of plain data -/
def dataOf (S : Store) (w : W) : Option PyData := match w with
  | .loc n => match S[n]? with | some (.lst l) => if pureL l then some (.list (pdL l)) else none | _ => none
  | w => if w.pure then some w.pd else none

def W.flat : W → Bool
  | .non => true | .bl _ => true | .int _ => true | .str _ => true | _ => false
def eqF : W → W → Bool
  | .non, .non => true
  | .bl a, .bl b => a == b
  | .bl a, .int b => (if a then 1 else 0) == b
  | .int a, .bl b => a == (if b then 1 else 0)
  | .int a, .int b => a == b
  | .str a, .str b => a == b
  | _, _ => false
def inF (x : W) (l : List W) : Bool := l.any fun y => eqF y x

/-! ### operators -/
inductive BOp | add | sub | mul | fdiv | mod | pow | shl | shr | band
  deriving DecidableEq
inductive COp | eq | ne | lt | le | gt | ge | isin | notin | isn | isnt
  deriving DecidableEq

def mulOk (i j : Int) : Prop := (-(2 ^ 64) < i ∧ i < 2 ^ 64) ∨ (-(2 ^ 64) < j ∧ j < 2 ^ 64) ∨ i.natAbs.log2 + j.natAbs.log2 < 1000000
instance (i j : Int) : Decidable (mulOk i j) := by unfold mulOk; infer_instance
def divOk (j : Int) : Prop := 0 < j ∧ j.natAbs.log2 < 9000
instance (j : Int) : Decidable (divOk j) := by unfold divOk; infer_instance
def powOk (i j : Int) : Prop := 0 ≤ j ∧ j ≤ 1000000 ∧ i.natAbs < 2 ^ 64
instance (i j : Int) : Decidable (powOk i j) := by unfold powOk; infer_instance

def binI : BOp → Int → Int → Option Int
  | .add, i, j => some (i + j)
  | .sub, i, j => some (i - j)
  | .mul, i, j => if mulOk i j then some (i * j) else none
  | .fdiv, i, j => if divOk j then some (i / j) else none
  | .mod, i, j => if 0 < j then some (i % j) else none
  | .pow, i, j => if powOk i j then some (i ^ j.toNat) else none
  | .shl, i, j => if powOk i j then some (i * 2 ^ j.toNat) else none
  | .shr, i, j => if 0 ≤ j then some (i / 2 ^ j.toNat) else none
  | .band, i, j => some (PySem.Builtin.bitAnd i j)

def binL (op : BOp) (x y : Option (List W)) (b : W) : Option W := match op, x, y, b with
  | .add, some l, some r, _ => if l.length + r.length ≤ sizeLine then some (.lst (l ++ r)) else none
  | .mul, some l, _, .int k => if -(2 ^ 63) ≤ k ∧ k < 2 ^ 63 ∧ l.length * k.toNat ≤ sizeLine then some (.lst (List.replicate k.toNat l).flatten) else none
  | _, _, _, _ => none
def binW (S : Store) (op : BOp) (a b : W) : Option W := match a, b with
  | .int i, .int j => (binI op i j).map W.int
  | .str x, .str y => if op = .add ∧ x.length + y.length ≤ sizeLine then some (.str (x ++ y)) else none
  | .tup x, .tup y => if op = .add ∧ x.length + y.length ≤ sizeLine then some (.tup (x ++ y)) else none
  | x, y => binL op (getL S x) (getL S y) y

def cmpW (S : Store) (op : COp) (a b : W) : Option Bool := match op with
  | .eq => (match a, b with
    | .int i, .int j => some (decide (i = j))
    | .str x, .str y => some (decide (x = y))
    | .bl x, .bl y => some (decide (x = y))
    | x, y => match dataOf S x, dataOf S y with
      | some d, some e => if PySem.SeqAt.shaped d = true ∧ PySem.SeqAt.shaped e = true then some (PyData.eqv d e) else none
      | _, _ => none)
  | .ne => (match a, b with
    | .int i, .int j => some (!decide (i = j))
    | .str x, .str y => some (!decide (x = y))
    | .bl x, .bl y => some (!decide (x = y))
    | x, y => match dataOf S x, dataOf S y with
      | some d, some e => if PySem.SeqAt.shaped d = true ∧ PySem.SeqAt.shaped e = true then some (!PyData.eqv d e) else none
      | _, _ => none)
  | .lt => (match a, b with | .int i, .int j => some (decide (i < j)) | _, _ => none)
  | .le => (match a, b with | .int i, .int j => some (decide (i ≤ j)) | _, _ => none)
  | .gt => (match a, b with | .int i, .int j => some (decide (j < i)) | _, _ => none)
  | .ge => (match a, b with | .int i, .int j => some (decide (j ≤ i)) | _, _ => none)
  | .isn => (match b with | .non => some (match a with | .non => true | _ => false) | _ => none)
  | .isnt => (match b with | .non => some (match a with | .non => false | _ => true) | _ => none)
  | .isin => (match getD S b with
    | some kvs => (toKey a).map fun k => kvs.any fun kv => decide (kv.1 = k)
    | none => match a, b with
      | .str x, .str y => some (!(PySem.Builtin.Str.occurrences y x 0 y.length 1).isEmpty)
      | x, y => match getRd S y with
        | some l => if x.flat = true ∧ l.all W.flat = true then some (inF x l) else none
        | none => none)
  | .notin => (match getD S b with
    | some kvs => (toKey a).map fun k => !kvs.any fun kv => decide (kv.1 = k)
    | none => match a, b with
      | .str x, .str y => some (!(!(PySem.Builtin.Str.occurrences y x 0 y.length 1).isEmpty))
      | x, y => match getRd S y with
        | some l => if x.flat = true ∧ l.all W.flat = true then some (!inF x l) else none
        | none => none)

/-- truth in a test -/
def truth (S : Store) : W → Option Bool
  | .bl b => some b
  | .non => some false
  | .int i => some (i != 0)
  | .tup l => some (!l.isEmpty)
  | w => (getL S w).map fun l => !l.isEmpty
def asB : W → Option Bool | .bl b => some b | _ => none

/-! ### subscripts -/
def lookK (kvs : List (Key × W)) (k : Key) : Option W := (kvs.find? fun kv => decide (kv.1 = k)).map (·.2)
def putKW (kvs : List (Key × W)) (k : Key) (v : W) : List (Key × W) :=
  if (kvs.any fun kv => decide (kv.1 = k)) = true then kvs.map (fun kv => if kv.1 = k then (kv.1, v) else kv) else kvs ++ [(k, v)]
def idxW (S : Store) (a b : W) : Option W := match getD S a with
  | some kvs => (toKey b).bind (lookK kvs)
  | none => match b with
    | .int i => (match a with
      | .str z => if z.length ≤ sizeLine then (L2.atI z.cps.toList i).map fun c => .str ⟨#[c]⟩ else none
      | a => (getRd S a).bind fun l => L2.atI l i)
    | _ => none
def cutW {α : Type} (xs : List α) (lo hi : Option Int) : List α := (xs.drop (HT.sIx xs.length 0 lo)).take (HT.sIx xs.length xs.length hi - HT.sIx xs.length 0 lo)
def asPart : W → Option (Option Int) | .non => some none | .int i => some (some i) | _ => none
def sliceW (S : Store) (a : W) (lo hi : Option Int) : Option W := match a with
  | .tup l => some (.tup (cutW l lo hi))
  | .ro l => some (.lst ((cutW l lo hi).map W.int))
  | a => (getL S a).map fun l => .lst (cutW l lo hi)

/-! ### syntax -/
/-- targets: a name, a tuple of targets -/
inductive Tg | nm (i : Nat) | t2 (a b : Tg) | t3 (a b c : Tg)
/-- built-in functions -/
inductive Blt | len | int | tuple | list (m : Bool) | sum | max2 | min2 | abs | repr | any | all | maxl | minl | sorted (m : Bool) | str
/-- methods of built-in types -/
inductive Mth | append | pop | extend | get2

mutual
inductive T
  | var (i : Nat) | cint (i : Int) | cbl (b : Bool) | cnon | cstr (s : Str) | gl (w : W)
  | tup (es : TL) | lst (m : Bool) (es : TL) | dct (ks : List Str) (es : TL)
  | bin (op : BOp) (a b : T) | neg (a : T) | cmp (op : COp) (a b : T) | chain (o p : COp) (a b c : T)
  | not (a : T) | and (es : TL) | or (es : TL) | ite (c a b : T)
  | idx (a b : T) | slice (a lo hi : T)
  | call (f : Nat) (es : TL) | blt (f : Blt) (es : TL) | mth (m : Mth) (o : T) (es : TL)
  | lc (m : Bool) (g : Tg) (it : TI) (c : T) (e : T)
inductive TL | nil | cons (a : T) (r : TL)
inductive TI | seq (e : T) | rng (e : T) | rng2 (a b : T) | zip (a b : T) | enum (a : T)
end
mutual
inductive TS
  | asg (g : Tg) (e : T) | par (i j : Nat) (a b : T) | par3 (i j l : Nat) (a b c : T) | seti (o i e : T) | aug (i : Nat) (op : BOp) (e : T)
  | expr (e : T) | ife (c : T) (a b : TSL) | for (g : Tg) (it : TI) (b : TSL) | whl (c : T) (b : TSL)
  | ret (e : T) | ret0 | pass | cont | brk
inductive TSL | nil | cons (s : TS) (r : TSL)
end

/-! ### meaning -/
/-- the defs by their numbers -/
abbrev Calls := Nat → List W → Store → R W
abbrev Guard := Option (Nat × List W)
open Classical in
/-- the list that is walked stands as it stood -/
noncomputable def held (g : Guard) (S : Store) {α : Type} (r : α) (d : α) : α := match g with
  | none => r
  | some (n, l) => if S[n]? = some (.lst l) then r else d
@[simp] theorem held_none (S : Store) {α : Type} (r d : α) : held none S r d = r := rfl
theorem held_some {n : Nat} {l : List W} {S : Store} {α : Type} {r d : α} (h : S[n]? = some (.lst l)) : held (some (n, l)) S r d = r := by
  unfold held; simp only; rw [if_pos h]

def bindT : Tg → W → Slots → Option Slots
  | .nm i, w, σ => some (σ.set i (some w))
  | .t2 a b, w, σ => match w with
    | .tup [x, y] => (bindT a x σ).bind fun σ1 => bindT b y σ1
    | _ => none
  | .t3 a b c, w, σ => match w with
    | .tup [x, y, z] => (bindT a x σ).bind fun σ1 => (bindT b y σ1).bind fun σ2 => bindT c z σ2
    | _ => none
/-- the slots of a target -/
def Tg.ix : Tg → List Nat
  | .nm i => [i]
  | .t2 a b => a.ix ++ b.ix
  | .t3 a b c => a.ix ++ b.ix ++ c.ix

def intsOf : List W → Option (List Int)
  | [] => some []
  | .int i :: r => (intsOf r).map (i :: ·)
  | _ :: _ => none
def boolsOf : List W → Option (List Bool)
  | [] => some []
  | .bl i :: r => (boolsOf r).map (i :: ·)
  | _ :: _ => none
def maxI : Int → List Int → Int
  | m, [] => m
  | m, x :: r => maxI (if m < x then x else m) r
def minI : Int → List Int → Int
  | m, [] => m
  | m, x :: r => minI (if x < m then x else m) r
def insI (x : Int) : List Int → List Int
  | [] => [x]
  | y :: r => if x ≤ y then x :: y :: r else y :: insI x r
def sortI : List Int → List Int
  | [] => []
  | x :: r => insI x (sortI r)
/-- a new list: a cell of the store, or a value that is never changed -/
def mkL (m : Bool) (l : List W) (S : Store) : R W := if m then .ok (.loc S.length) (S ++ [.lst l]) else .ok (.lst l) S
@[simp] theorem mkL_t (l : List W) (S : Store) : mkL true l S = .ok (.loc S.length) (S ++ [.lst l]) := rfl
@[simp] theorem mkL_f (l : List W) (S : Store) : mkL false l S = .ok (.lst l) S := rfl

def bltW (f : Blt) (ws : List W) (S : Store) : R W := match f, ws with
  | .len, [.str z] => need (z.length ≤ sizeLine) (.ok (.int z.length) S)
  | .len, [w] => (match getD S w with
    | some kvs => .ok (.int kvs.length) S
    | none => (lift S (getRd S w)).bind fun l S => .ok (.int l.length) S)
  | .int, [.int i] => .ok (.int i) S
  | .int, [.bl b] => .ok (.int (if b then 1 else 0)) S
  | .tuple, [.tup l] => .ok (.tup l) S
  | .tuple, [w] => (lift S (getL S w)).bind fun l S => .ok (.tup l) S
  | .list m, [w] => (lift S (getRd S w)).bind fun l S => mkL m l S
  | .sum, [w] => (lift S ((getL S w).bind intsOf)).bind fun l S => .ok (.int l.sum) S
  | .any, [w] => (lift S ((getL S w).bind boolsOf)).bind fun l S => .ok (.bl (l.any id)) S
  | .all, [w] => (lift S ((getL S w).bind boolsOf)).bind fun l S => .ok (.bl (l.all id)) S
  | .maxl, [w] => (lift S ((getL S w).bind intsOf)).bind fun l S => match l with | [] => .stuck | x :: r => .ok (.int (maxI x r)) S
  | .minl, [w] => (lift S ((getL S w).bind intsOf)).bind fun l S => match l with | [] => .stuck | x :: r => .ok (.int (minI x r)) S
  | .sorted m, [w] => (lift S ((getL S w).bind intsOf)).bind fun l S => mkL m ((sortI l).map W.int) S
  | .max2, [.int i, .int j] => .ok (.int (if j > i then j else i)) S
  | .min2, [.int i, .int j] => .ok (.int (if j < i then j else i)) S
  | .abs, [.int i] => .ok (.int (if i < 0 then -i else i)) S
  | .repr, [.int i] => need (i.natAbs.log2 < 1920) (.ok (.str (toString i)) S)
  | .repr, [.bl b] => .ok (.str (PyData.bool b).shown) S
  | .repr, [w] => (lift S (dataOf S w)).bind fun d S => need (PyData.showable d = true ∧ d.depth ≤ 190 ∧ d.shown.length ≤ sizeLine) (.ok (.str d.shown) S)
  | .str, [.int i] => need (i.natAbs.log2 < 1920) (.ok (.str (toString i)) S)
  | _, _ => .stuck

def mthW (m : Mth) (o : W) (ws : List W) (S : Store) : R W := match m, o, ws with
  | .append, .loc n, [w] => (match S[n]? with
    | some (.lst l) => need (l.length < sizeLine) (.ok .non (S.set n (.lst (l ++ [w]))))
    | _ => .stuck)
  | .pop, .loc n, [] => (match S[n]? with
    | some (.lst l) => (match l[l.length - 1]? with
      | some w => .ok w (S.set n (.lst l.dropLast))
      | none => .stuck)
    | _ => .stuck)
  | .extend, .loc n, [w] => (match S[n]?, getL S w with
    | some (.lst l), some r => need (l.length + r.length ≤ sizeLine) (.ok .non (S.set n (.lst (l ++ r))))
    | _, _ => .stuck)
  | .get2, w, [k, d] => (match getD S w, toKey k with
    | some kvs, some k => .ok ((lookK kvs k).getD d) S
    | _, _ => .stuck)
  | _, _, _ => .stuck

/-- the receiver is of the method's type -/
def mthRecv (S : Store) (m : Mth) (x : W) : Bool := match m with
  | .get2 => (getD S x).isSome
  | _ => (getL S x).isSome

def rngL (lo : Int) (n : Nat) : List W := (List.range n).map fun (i : Nat) => W.int (lo + (i : Int))
/-- no exception leaves a comprehension here -/
def noExc {α : Type} (r : R α) : R α := match r with | .exc _ _ _ => .stuck | r => r
@[simp] theorem noExc_ok {α : Type} (a : α) (S : Store) : noExc (R.ok a S) = .ok a S := rfl
/-- the turns of a comprehension -/
noncomputable def lcRun (f : W → Store → R (Option W)) (g : Guard) : List W → Store → R (List W)
  | [], S => held g S (.ok [] S) .stuck
  | x :: xs, S => held g S ((noExc (f x S)).bind fun o S1 => (lcRun f g xs S1).bind fun r S2 => .ok (match o with | some w => w :: r | none => r) S2) .stuck

def W.small : W → Bool | .int i => decide (-(2 ^ 62) ≤ i ∧ i < 2 ^ 62) | _ => false
/-- what is walked, with what must stand still meanwhile -/
def seqOf (S : Store) (w : W) : Option (List W × Guard) := match w with
  | .loc n => match S[n]? with | some (.lst l) => some (l, some (n, l)) | _ => none
  | w => (getRd S w).map fun l => (l, none)

def dctOf : List Str → List W → List (Key × W)
  | k :: ks, w :: ws => (.inr k, w) :: dctOf ks ws
  | _, _ => []

mutual
noncomputable def ev (C : Calls) : T → Slots → Store → R W
  | .var i, σ, S => (match σ[i]? with | some (some w) => .ok w S | _ => .stuck)
  | .cint i, _, S => .ok (.int i) S
  | .cbl b, _, S => .ok (.bl b) S
  | .cnon, _, S => .ok .non S
  | .cstr s, _, S => .ok (.str s) S
  | .gl w, _, S => .ok w S
  | .tup es, σ, S => (evL C es σ S).bind fun ws S => need (ws.length ≤ sizeLine) (.ok (.tup ws) S)
  | .lst m es, σ, S => (evL C es σ S).bind fun ws S => need (ws.length ≤ sizeLine) (mkL m ws S)
  | .dct ks es, σ, S => (evL C es σ S).bind fun ws S => need (ws.length = ks.length ∧ ks.Nodup ∧ ks.length ≤ 15) (.ok (.loc S.length) (S ++ [.dct (dctOf ks ws)]))
  | .bin op a b, σ, S => (ev C a σ S).bind fun x S => (ev C b σ S).bind fun y S => lift S (binW S op x y)
  | .neg a, σ, S => (ev C a σ S).bind fun x S => (match x with | .int i => .ok (.int (-i)) S | _ => .stuck)
  | .cmp op a b, σ, S => (ev C a σ S).bind fun x S => (ev C b σ S).bind fun y S => (lift S (cmpW S op x y)).bind fun b S => .ok (.bl b) S
  | .chain o p a b c, σ, S => (ev C a σ S).bind fun x S => (ev C b σ S).bind fun y S => (lift S (cmpW S o x y)).bind fun t S =>
      if t then (ev C c σ S).bind fun z S => (lift S (cmpW S p y z)).bind fun b S => .ok (.bl b) S else .ok (.bl false) S
  | .not a, σ, S => (ev C a σ S).bind fun x S => (lift S (asB x)).bind fun b S => .ok (.bl (!b)) S
  | .and es, σ, S => evAnd C es σ S
  | .or es, σ, S => evOr C es σ S
  | .ite c a b, σ, S => (ev C c σ S).bind fun x S => (lift S (truth S x)).bind fun t S => if t then ev C a σ S else ev C b σ S
  | .idx a b, σ, S => (ev C a σ S).bind fun x S => (ev C b σ S).bind fun y S => lift S (idxW S x y)
  | .slice a lo hi, σ, S => (ev C a σ S).bind fun x S => (ev C lo σ S).bind fun l S => (lift S (asPart l)).bind fun l S => (ev C hi σ S).bind fun h S => (lift S (asPart h)).bind fun h S => lift S (sliceW S x l h)
  | .call f es, σ, S => (evL C es σ S).bind fun ws S => C f ws S
  | .blt f es, σ, S => (evL C es σ S).bind fun ws S => bltW f ws S
  | .mth m o es, σ, S => (ev C o σ S).bind fun x S => need (mthRecv S m x = true) ((evL C es σ S).bind fun ws S => mthW m x ws S)
  | .lc m g it c e, σ, S => (evI C it σ S).bind fun p S => need (p.1.length ≤ sizeLine) ((lcRun (fun x S => (lift S (bindT g x σ)).bind fun σ1 S =>
      (ev C c σ1 S).bind fun t S => (lift S (truth S t)).bind fun t S => if t then (ev C e σ1 S).bind fun w S => .ok (some w) S else .ok none S) p.2 p.1 S).bind fun ws S => mkL m ws S)
noncomputable def evL (C : Calls) : TL → Slots → Store → R (List W)
  | .nil, _, S => .ok [] S
  | .cons a r, σ, S => (ev C a σ S).bind fun w S => (evL C r σ S).bind fun ws S => .ok (w :: ws) S
noncomputable def evAnd (C : Calls) : TL → Slots → Store → R W
  | .nil, _, _ => .stuck
  | .cons a .nil, σ, S => (ev C a σ S).bind fun x S => (lift S (asB x)).bind fun b S => .ok (.bl b) S
  | .cons a (.cons b r), σ, S => (ev C a σ S).bind fun x S => (lift S (asB x)).bind fun t S => if t then evAnd C (.cons b r) σ S else .ok (.bl false) S
noncomputable def evOr (C : Calls) : TL → Slots → Store → R W
  | .nil, _, _ => .stuck
  | .cons a .nil, σ, S => (ev C a σ S).bind fun x S => (lift S (asB x)).bind fun b S => .ok (.bl b) S
  | .cons a (.cons b r), σ, S => (ev C a σ S).bind fun x S => (lift S (asB x)).bind fun t S => if t then .ok (.bl true) S else evOr C (.cons b r) σ S
noncomputable def evI (C : Calls) : TI → Slots → Store → R (List W × Guard)
  | .seq e, σ, S => (ev C e σ S).bind fun w S => lift S (seqOf S w)
  | .rng e, σ, S => (ev C e σ S).bind fun w S => (match w with
    | .int i => need (-(2 ^ 62) ≤ i ∧ i < 2 ^ 62) (.ok (rngL 0 i.toNat, none) S) | _ => .stuck)
  | .rng2 a b, σ, S => (ev C a σ S).bind fun x S => (ev C b σ S).bind fun y S => (match x, y with
    | .int i, .int j => need ((-(2 ^ 62) ≤ i ∧ i < 2 ^ 62) ∧ (-(2 ^ 62) ≤ j ∧ j < 2 ^ 62)) (.ok (rngL i (j - i).toNat, none) S) | _, _ => .stuck)
  | .zip a b, σ, S => (ev C a σ S).bind fun x S => (ev C b σ S).bind fun y S => (match x, y with
    | .tup l, .tup r => .ok ((l.zip r).map fun p => .tup [p.1, p.2], none) S
    | .lst l, .lst r => .ok ((l.zip r).map fun p => .tup [p.1, p.2], none) S
    | _, _ => .stuck)
  | .enum a, σ, S => (ev C a σ S).bind fun x S => (match x with
    | .lst l => .ok (l.zipIdx.map fun p => .tup [.int p.2, p.1], none) S
    | _ => .stuck)
end

/-- the outcome of a statement -/
inductive O where
  | nx (σ : Slots) (S : Store) | rt (w : W) (S : Store) | bk (σ : Slots) (S : Store) | ct (σ : Slots) (S : Store)
  | exc (c : Nat) (p : List W) (σ : Slots) (S : Store) | stuck
def R.to {α : Type} (r : R α) (σ : Slots) (f : α → Store → O) : O := match r with
  | .ok a S => f a S | .exc c p S => .exc c p σ S | .stuck => .stuck
@[simp] theorem R.to_ok {α : Type} (a : α) (S : Store) (σ : Slots) (f : α → Store → O) : (R.ok a S).to σ f = f a S := rfl
@[simp] theorem R.to_exc {α : Type} (c : Nat) (p : List W) (S : Store) (σ : Slots) (f : α → Store → O) : (R.exc c p S : R α).to σ f = .exc c p σ S := rfl
@[simp] theorem R.to_stuck {α : Type} (σ : Slots) (f : α → Store → O) : (R.stuck : R α).to σ f = .stuck := rfl
def O.then (o : O) (f : Slots → Store → O) : O := match o with
  | .nx σ S => f σ S | o => o
@[simp] theorem O.then_nx (σ : Slots) (S : Store) (f : Slots → Store → O) : (O.nx σ S).then f = f σ S := rfl
@[simp] theorem O.then_rt (w : W) (S : Store) (f : Slots → Store → O) : (O.rt w S).then f = .rt w S := rfl
@[simp] theorem O.then_bk (σ : Slots) (S : Store) (f : Slots → Store → O) : (O.bk σ S).then f = .bk σ S := rfl
@[simp] theorem O.then_ct (σ : Slots) (S : Store) (f : Slots → Store → O) : (O.ct σ S).then f = .ct σ S := rfl
@[simp] theorem O.then_exc (c : Nat) (p : List W) (σ : Slots) (S : Store) (f : Slots → Store → O) : (O.exc c p σ S).then f = .exc c p σ S := rfl
@[simp] theorem O.then_stuck (f : Slots → Store → O) : (O.stuck).then f = .stuck := rfl

/-- behind a loop's turn -/
def O.turn (o : O) (f : Slots → Store → O) : O := match o with
  | .nx σ S => f σ S | .ct σ S => f σ S | .bk σ S => .nx σ S | o => o
@[simp] theorem O.turn_nx (σ : Slots) (S : Store) (f : Slots → Store → O) : (O.nx σ S).turn f = f σ S := rfl
@[simp] theorem O.turn_ct (σ : Slots) (S : Store) (f : Slots → Store → O) : (O.ct σ S).turn f = f σ S := rfl
@[simp] theorem O.turn_bk (σ : Slots) (S : Store) (f : Slots → Store → O) : (O.bk σ S).turn f = .nx σ S := rfl
@[simp] theorem O.turn_rt (w : W) (S : Store) (f : Slots → Store → O) : (O.rt w S).turn f = .rt w S := rfl
@[simp] theorem O.turn_exc (c : Nat) (p : List W) (σ : Slots) (S : Store) (f : Slots → Store → O) : (O.exc c p σ S).turn f = .exc c p σ S := rfl
@[simp] theorem O.turn_stuck (f : Slots → Store → O) : (O.stuck).turn f = .stuck := rfl
noncomputable def forRun (f : W → Slots → Store → O) (g : Guard) : List W → Slots → Store → O
  | [], σ, S => held g S (.nx σ S) .stuck
  | x :: xs, σ, S => held g S ((f x σ S).turn (forRun f g xs)) .stuck
@[irreducible] def fuel : Nat := 1000000000
def whlRun (c : Slots → Store → R Bool) (b : Slots → Store → O) : Nat → Slots → Store → O
  | 0, _, _ => .stuck
  | n + 1, σ, S => (c σ S).to σ fun t S => if t then (b σ S).turn (whlRun c b n) else .nx σ S

def setW (S : Store) (o i w : W) : Option Store := match o with
  | .loc n => (match S[n]? with
    | some (.dct kvs) => (match toKey i with
      | some k => if kvs.length < sizeLine then some (S.set n (.dct (putKW kvs k w))) else none
      | none => none)
    | some (.lst l) => (match i with
      | .int i => (L2.ixN l.length i).map fun j => S.set n (.lst (l.set j w))
      | _ => none)
    | _ => none)
  | _ => none

mutual
noncomputable def ex (C : Calls) : TS → Slots → Store → O
  | .asg g e, σ, S => (ev C e σ S).to σ fun w S => (match bindT g w σ with | some σ1 => .nx σ1 S | none => .stuck)
  | .par i j a b, σ, S => (ev C a σ S).to σ fun x S => (ev C b σ S).to σ fun y S => .nx ((σ.set i (some x)).set j (some y)) S
  | .par3 i j l a b c, σ, S => (ev C a σ S).to σ fun x S => (ev C b σ S).to σ fun y S => (ev C c σ S).to σ fun z S => .nx (((σ.set i (some x)).set j (some y)).set l (some z)) S
  | .seti o i e, σ, S => (ev C e σ S).to σ fun w S => (ev C o σ S).to σ fun x S => (ev C i σ S).to σ fun y S => (match setW S x y w with | some S => .nx σ S | none => .stuck)
  | .aug i op e, σ, S => (match σ[i]? with
    | some (some x) => (ev C e σ S).to σ fun y S => (match x, y with
      | .int a, .int b => (match op with | .add => .nx (σ.set i (some (.int (a + b)))) S | .sub => .nx (σ.set i (some (.int (a - b)))) S | _ => .stuck)
      | _, _ => .stuck)
    | _ => .stuck)
  | .expr e, σ, S => (ev C e σ S).to σ fun _ S => .nx σ S
  | .ife c a b, σ, S => (ev C c σ S).to σ fun x S => (match truth S x with | some true => exL C a σ S | some false => exL C b σ S | none => .stuck)
  | .for g it b, σ, S => (evI C it σ S).to σ fun p S => forRun (fun x σ S => match bindT g x σ with | some σ1 => exL C b σ1 S | none => .stuck) p.2 p.1 σ S
  | .whl c b, σ, S => whlRun (fun σ S => (ev C c σ S).bind fun x S => lift S (truth S x)) (exL C b) fuel σ S
  | .ret e, σ, S => (ev C e σ S).to σ fun w S => .rt w S
  | .ret0, _, S => .rt .non S
  | .pass, σ, S => .nx σ S
  | .cont, σ, S => .ct σ S
  | .brk, σ, S => .bk σ S
noncomputable def exL (C : Calls) : TSL → Slots → Store → O
  | .nil, σ, S => .nx σ S
  | .cons s r, σ, S => (ex C s σ S).then (exL C r)
end

/-! ### defs -/
structure Def where
  np : Nat
  ns : Nat
  body : TSL

mutual
/-- all places in it lie below n -/
def W.und (n : Nat) : W → Bool
  | .loc k => decide (k < n)
  | .tup l => undL n l | .lst l => undL n l | .exc _ l => undL n l
  | _ => true
def undL (n : Nat) : List W → Bool
  | [] => true
  | w :: r => w.und n && undL n r
end
def undK {κ : Type} (n : Nat) : List (κ × W) → Bool
  | [] => true
  | w :: r => w.2.und n && undK n r
def Cell.und (n : Nat) : Cell → Bool
  | .lst l => undL n l
  | .dct l => undK n l
  | .ins _ l => undK n l
def Sund (n : Nat) (S : Store) : Prop := ∀ c ∈ S, c.und n = true
open Classical in
/-- what a call made and nobody holds is forgotten -/
noncomputable def gcR (S0 : Store) (w : W) (S : Store) : R W :=
  if S0.length ≤ S.length ∧ w.und S0.length = true ∧ (S.take S0.length = S0 ∨ Sund S0.length (S.take S0.length)) then .ok w (S.take S0.length) else .ok w S
def O.res (o : O) (S0 : Store) (f : W → Store → R W) : R W := match o with
  | .nx _ S => f .non S | .rt w S => f w S | .exc c p _ S => .exc c p S | _ => .stuck
/-- the defs' calls, to a depth -/
noncomputable def callK (P : Nat → Option Def) : Nat → Calls
  | 0, _, _, _ => .stuck
  | k + 1, f, ws, S => match P f with
    | none => .stuck
    | some d => if ws.length = d.np ∧ d.np ≤ d.ns then (exL (callK P k) d.body (ws.map some ++ List.replicate (d.ns - ws.length) none) S).res S (gcR S) else .stuck
end PyI

/-! PyI, part 2: how the interpreter's values and store lie in the abstract heap of HandS. Own work. -/
namespace PyI
open PySem L2

/-- a tuple of the written part; a list of it -/
def KTup (K : PySem.W.Frag) (a : Addr) (vs : List V) : Prop := ∃ (o : Obj) (its : Array Value) (n : Nat), K.lookup a = some o ∧ o.cls = .type "tuple" ∧ o.data = .seq its n ∧ its.size ≤ sizeLine ∧ Vals vs its.toList
/-- where the cells lie; addresses that are private meanwhile (a comprehension's list that grows) -/
structure AM where
  l : List Addr
  pv : List Addr
instance : Membership Addr AM := ⟨fun m a => a ∈ m.l ∨ a ∈ m.pv⟩
def AM.push (m : AM) (p : Addr) : AM := ⟨m.l ++ [p], m.pv⟩
theorem ne_mem {α : Type} {β : Type} [Membership α β] {l : β} {a p : α} (ha : a ∈ l) (hp : p ∉ l) : a ≠ p := fun z => hp (by rw [← z]; exact ha)
theorem AM.mem {m : AM} {a : Addr} : a ∈ m ↔ a ∈ m.l ∨ a ∈ m.pv := Iff.rfl
theorem AM.mem_push {m : AM} {a p : Addr} : a ∈ m.push p ↔ a ∈ m ∨ a = p := by
  unfold AM.push
  rw [AM.mem, AM.mem]
  simp only [List.mem_append, List.mem_singleton]
  constructor
  · rintro ((h | h) | h)
    · exact .inl (.inl h)
    · exact .inr h
    · exact .inl (.inr h)
  · rintro ((h | h) | h)
    · exact .inl (.inl h)
    · exact .inr h
    · exact .inl (.inr h)

def TupAt (K : PySem.W.Frag) (am : AM) (H : Hp) (a : Addr) (vs : List V) : Prop := (H a = some (.tup vs) ∧ a ∉ am) ∨ KTup K a vs
def KLst (K : PySem.W.Frag) (a : Addr) (vs : List V) : Prop := ∃ (o : Obj) (its : Array Value) (n : Nat), K.lookup a = some o ∧ o.cls = .type "list" ∧ o.dict = none ∧ o.data = .seq its n ∧ its.size ≤ sizeLine ∧ Vals vs its.toList
def RoAt (K : PySem.W.Frag) (am : AM) (H : Hp) (a : Addr) (vs : List V) : Prop := (Rd H a (.lst vs) ∧ a ∉ am) ∨ KLst K a vs

mutual
inductive VR (K : PySem.W.Frag) (am : AM) (H : Hp) : V → W → Prop
  | non : VR K am H .non .non
  | bl (b : Bool) : VR K am H (.bl b) (.bl b)
  | int (i : Int) : VR K am H (.int i) (.int i)
  | str (s : Str) : VR K am H (.str s) (.str s)
  | tup {a : Addr} {vs : List V} {ws : List W} (h : TupAt K am H a vs) (hs : VRs K am H vs ws) : VR K am H (.ref a) (.tup ws)
  | lst {a : Addr} {vs : List V} {ws : List W} (h : H a = some (.lst vs)) (hn : a ∉ am) (hs : VRs K am H vs ws) : VR K am H (.ref a) (.lst ws)
  | ro {a : Addr} {ns : List Int} (h : RoAt K am H a (ns.map V.int)) : VR K am H (.ref a) (.ro ns)
  | loc {a : Addr} {n : Nat} (h : am.l[n]? = some a) : VR K am H (.ref a) (.loc n)
inductive VRs (K : PySem.W.Frag) (am : AM) (H : Hp) : List V → List W → Prop
  | nil : VRs K am H [] []
  | cons {v : V} {w : W} {vs : List V} {ws : List W} (h : VR K am H v w) (hs : VRs K am H vs ws) : VRs K am H (v :: vs) (w :: ws)
end

/-- what a value leans on stays -/
structure Mv (am : AM) (H : Hp) (am' : AM) (H' : Hp) : Prop where
  pre : am.l <+: am'.l
  keep : ∀ a o, H a = some o → a ∉ am → H' a = some o ∧ a ∉ am'
theorem Mv.at {am am' : AM} {H H' : Hp} (e : Mv am H am' H') {n : Nat} {a : Addr} (h : am.l[n]? = some a) : am'.l[n]? = some a := by
  obtain ⟨r, hr⟩ := e.pre
  have hn : n < am.l.length := (List.getElem?_eq_some_iff.mp h).1
  rw [← hr, List.getElem?_append_left hn]; exact h
/-- the heap grows: the cells stay cells, what is private stays as it is, all else stands as it stood -/
structure Ext (am : AM) (H : Hp) (am' : AM) (H' : Hp) : Prop extends Mv am H am' H' where
  sub : ∀ a, a ∈ am.pv → a ∈ am'.pv
  priv : ∀ a o, a ∈ am.pv → H a = some o → H' a = some o
theorem Ext.refl (am : AM) (H : Hp) : Ext am H am H := ⟨⟨List.prefix_refl _, fun _ _ h n => ⟨h, n⟩⟩, fun _ h => h, fun _ _ _ h => h⟩
theorem Ext.trans {am am1 am2 : AM} {H H1 H2 : Hp} (e : Ext am H am1 H1) (f : Ext am1 H1 am2 H2) : Ext am H am2 H2 :=
  ⟨⟨e.pre.trans f.pre, fun a o h n => let ⟨h1, n1⟩ := e.keep a o h n; f.keep a o h1 n1⟩, fun a h => f.sub a (e.sub a h), fun a o h h1 => f.priv a o (e.sub a h) (e.priv a o h h1)⟩
theorem Ext.at {am am' : AM} {H H' : Hp} (e : Ext am H am' H') {n : Nat} {a : Addr} (h : am.l[n]? = some a) : am'.l[n]? = some a := e.toMv.at h
/-- a new thing that is no cell -/
theorem Ext.new {am : AM} {H : Hp} {p : Addr} {o : HO} (h : H p = none) : Ext am H am (upd H p o) :=
  ⟨⟨List.prefix_refl _, fun a u ha n => ⟨by rw [upd_ne (ne_of_none ha h)]; exact ha, n⟩⟩, fun _ z => z, fun a u _ ha => by rw [upd_ne (ne_of_none ha h)]; exact ha⟩
/-- a new cell -/
theorem Ext.cell {am : AM} {H : Hp} {p : Addr} {o : HO} (h : H p = none) : Ext am H (am.push p) (upd H p o) :=
  ⟨⟨List.prefix_append _ _, fun a u ha n => ⟨by rw [upd_ne (ne_of_none ha h)]; exact ha, fun z => (AM.mem_push.mp z).elim n (ne_of_none ha h)⟩⟩, fun _ z => z, fun a u _ ha => by rw [upd_ne (ne_of_none ha h)]; exact ha⟩
section
variable {K : PySem.W.Frag} {am am' : AM} {H H' : Hp}
theorem TupAt.mv (e : Mv am H am' H') {a : Addr} {vs : List V} : TupAt K am H a vs → TupAt K am' H' a vs
  | .inl ⟨h, n⟩ => .inl (e.keep a _ h n)
  | .inr h => .inr h
theorem RoAt.mv (e : Mv am H am' H') {a : Addr} {vs : List V} : RoAt K am H a vs → RoAt K am' H' a vs
  | .inl ⟨.inl h, n⟩ => let ⟨h1, n1⟩ := e.keep a _ h n; .inl ⟨.inl h1, n1⟩
  | .inl ⟨.inr ⟨o, h⟩, n⟩ => let ⟨h1, n1⟩ := e.keep a _ h n; .inl ⟨.inr ⟨o, h1⟩, n1⟩
  | .inr h => .inr h
theorem TupAt.sq {a : Addr} {vs : List V} : TupAt K am H a vs → SqT K H a vs
  | .inl ⟨h, _⟩ => .inl (.inl h)
  | .inr h => .inr h
theorem RoAt.sq {a : Addr} {vs : List V} : RoAt K am H a vs → SqL K H a vs
  | .inl ⟨h, _⟩ => .inl h
  | .inr h => .inr h
mutual
theorem VR.mv (e : Mv am H am' H') : ∀ {v : V} {w : W}, VR K am H v w → VR K am' H' v w
  | _, _, .non => .non
  | _, _, .bl b => .bl b
  | _, _, .int i => .int i
  | _, _, .str s => .str s
  | _, _, .tup h hs => .tup (h.mv e) (VRs.mv e hs)
  | _, _, .lst h n hs => .lst (e.keep _ _ h n).1 (e.keep _ _ h n).2 (VRs.mv e hs)
  | _, _, .ro h => .ro (h.mv e)
  | _, _, .loc h => .loc (e.at h)
theorem VRs.mv (e : Mv am H am' H') : ∀ {vs : List V} {ws : List W}, VRs K am H vs ws → VRs K am' H' vs ws
  | _, _, .nil => .nil
  | _, _, .cons h hs => .cons (VR.mv e h) (VRs.mv e hs)
end
theorem TupAt.mono (e : Ext am H am' H') {a : Addr} {vs : List V} (h : TupAt K am H a vs) : TupAt K am' H' a vs := h.mv e.toMv
theorem RoAt.mono (e : Ext am H am' H') {a : Addr} {vs : List V} (h : RoAt K am H a vs) : RoAt K am' H' a vs := h.mv e.toMv
theorem VR.mono (e : Ext am H am' H') {v : V} {w : W} (h : VR K am H v w) : VR K am' H' v w := h.mv e.toMv
theorem VRs.mono (e : Ext am H am' H') {vs : List V} {ws : List W} (h : VRs K am H vs ws) : VRs K am' H' vs ws := h.mv e.toMv
theorem VRs.length : ∀ {vs : List V} {ws : List W}, VRs K am H vs ws → vs.length = ws.length
  | _, _, .nil => rfl
  | _, _, .cons _ t => congrArg (· + 1) (VRs.length t)
theorem VRs.get : ∀ {vs : List V} {ws : List W} {i : Nat} {w : W}, VRs K am H vs ws → ws[i]? = some w → ∃ v, vs[i]? = some v ∧ VR K am H v w
  | _, _, _, _, .nil, h => by simp at h
  | _, _, 0, _, .cons h t, e => by simp at e; subst e; exact ⟨_, rfl, h⟩
  | _, _, i + 1, w, .cons _ t, e => by
    obtain ⟨v, h1, h2⟩ := VRs.get (i := i) (w := w) t (by simpa using e)
    exact ⟨v, by simpa using h1, h2⟩
theorem VRs.get' : ∀ {vs : List V} {ws : List W} {i : Nat} {v : V}, VRs K am H vs ws → vs[i]? = some v → ∃ w, ws[i]? = some w ∧ VR K am H v w
  | _, _, _, _, .nil, h => by simp at h
  | _, _, 0, _, .cons h t, e => by simp at e; subst e; exact ⟨_, rfl, h⟩
  | _, _, i + 1, w, .cons _ t, e => by
    obtain ⟨v, h1, h2⟩ := VRs.get' (i := i) (v := w) t (by simpa using e)
    exact ⟨v, by simpa using h1, h2⟩
theorem VRs.append : ∀ {vs vs' : List V} {ws ws' : List W}, VRs K am H vs ws → VRs K am H vs' ws' → VRs K am H (vs ++ vs') (ws ++ ws')
  | _, _, _, _, .nil, s => s
  | _, _, _, _, .cons r t, s => .cons r (VRs.append t s)
theorem VRs.take : ∀ {vs : List V} {ws : List W} (n : Nat), VRs K am H vs ws → VRs K am H (vs.take n) (ws.take n)
  | _, _, 0, _ => .nil
  | _, _, _ + 1, .nil => .nil
  | _, _, n + 1, .cons r t => .cons r (VRs.take n t)
theorem VRs.drop : ∀ {vs : List V} {ws : List W} (n : Nat), VRs K am H vs ws → VRs K am H (vs.drop n) (ws.drop n)
  | _, _, 0, r => r
  | _, _, _ + 1, .nil => .nil
  | _, _, n + 1, .cons _ t => VRs.drop n t
theorem VRs.set {v : V} {w : W} (r : VR K am H v w) : ∀ {vs : List V} {ws : List W} (i : Nat), VRs K am H vs ws → VRs K am H (vs.set i v) (ws.set i w)
  | _, _, _, .nil => .nil
  | _, _, 0, .cons _ t => .cons r t
  | _, _, i + 1, .cons q t => .cons q (VRs.set r i t)
theorem VRs.rep {vs : List V} {ws : List W} (h : VRs K am H vs ws) : ∀ k : Nat, VRs K am H (List.replicate k vs).flatten (List.replicate k ws).flatten
  | 0 => .nil
  | k + 1 => by rw [List.replicate_succ, List.replicate_succ, List.flatten_cons, List.flatten_cons]; exact VRs.append h (VRs.rep h k)
theorem VRs.dropLast {vs : List V} {ws : List W} (h : VRs K am H vs ws) : VRs K am H vs.dropLast ws.dropLast := by
  rw [List.dropLast_eq_take, List.dropLast_eq_take, h.length]; exact h.take _
theorem VRs.ints : ∀ ns : List Int, VRs K am H (ns.map V.int) (ns.map W.int)
  | [] => .nil
  | n :: r => .cons (.int n) (VRs.ints r)
end

/-- an entry of a dict -/
inductive KVR (K : PySem.W.Frag) (am : AM) (H : Hp) {κ : Type} : List (κ × V) → List (κ × W) → Prop
  | nil : KVR K am H [] []
  | cons {k : κ} {v : V} {w : W} {vs : List (κ × V)} {ws : List (κ × W)} (h : VR K am H v w) (hs : KVR K am H vs ws) : KVR K am H ((k, v) :: vs) ((k, w) :: ws)
section
variable {K : PySem.W.Frag} {am am' : AM} {H H' : Hp} {κ : Type}
theorem KVR.mv (e : Mv am H am' H') : ∀ {vs : List (κ × V)} {ws : List (κ × W)}, KVR K am H vs ws → KVR K am' H' vs ws
  | _, _, .nil => .nil
  | _, _, .cons h hs => .cons (h.mv e) (KVR.mv e hs)
theorem KVR.mono (e : Ext am H am' H') {vs : List (κ × V)} {ws : List (κ × W)} (h : KVR K am H vs ws) : KVR K am' H' vs ws := h.mv e.toMv
theorem KVR.length : ∀ {vs : List (κ × V)} {ws : List (κ × W)}, KVR K am H vs ws → vs.length = ws.length
  | _, _, .nil => rfl
  | _, _, .cons _ t => congrArg (· + 1) (KVR.length t)
theorem KVR.any (p : κ → Bool) : ∀ {vs : List (κ × V)} {ws : List (κ × W)}, KVR K am H vs ws → (vs.any fun q => p q.1) = ws.any fun q => p q.1
  | _, _, .nil => rfl
  | _, _, .cons _ t => by rw [List.any_cons, List.any_cons, KVR.any p t]
theorem KVR.append : ∀ {vs vs' : List (κ × V)} {ws ws' : List (κ × W)}, KVR K am H vs ws → KVR K am H vs' ws' → KVR K am H (vs ++ vs') (ws ++ ws')
  | _, _, _, _, .nil, s => s
  | _, _, _, _, .cons r t, s => .cons r (KVR.append t s)
end
section
variable {K : PySem.W.Frag} {am am' : AM} {H H' : Hp}
theorem KVR.look (k : Key) : ∀ {vs : List (Key × V)} {ws : List (Key × W)}, KVR K am H vs ws → (valV vs k = none ∧ lookK ws k = none) ∨ ∃ v w, valV vs k = some v ∧ lookK ws k = some w ∧ VR K am H v w
  | _, _, .nil => .inl ⟨rfl, rfl⟩
  | _, _, .cons (k := j) (v := v) (w := w) h t => by
    by_cases e : j = k
    · subst e
      refine .inr ⟨v, w, ?_, ?_, h⟩
      · simp [valV]
      · simp [lookK]
    · rcases KVR.look k t with ⟨h1, h2⟩ | ⟨v', w', h1, h2, h3⟩
      · refine .inl ⟨?_, ?_⟩
        · simpa [valV, List.find?_cons, e] using h1
        · simpa [lookK, List.find?_cons, e] using h2
      · refine .inr ⟨v', w', ?_, ?_, h3⟩
        · simpa [valV, List.find?_cons, e] using h1
        · simpa [lookK, List.find?_cons, e] using h2
theorem KVR.mapPut {k : Key} {v : V} {w : W} (r : VR K am H v w) : ∀ {vs : List (Key × V)} {ws : List (Key × W)}, KVR K am H vs ws →
    KVR K am H (vs.map fun q => if q.1 = k then (q.1, v) else q) (ws.map fun q => if q.1 = k then (q.1, w) else q)
  | _, _, .nil => .nil
  | _, _, .cons (k := j) h t => by
    rw [List.map_cons, List.map_cons]
    by_cases e : j = k
    · simp only [e, if_true]; exact .cons r (KVR.mapPut r t)
    · simp only [e, if_false]; exact .cons h (KVR.mapPut r t)
theorem KVR.put {k : Key} {v : V} {w : W} (r : VR K am H v w) {vs : List (Key × V)} {ws : List (Key × W)} (h : KVR K am H vs ws) : KVR K am H (putK vs k v) (putKW ws k w) := by
  unfold putK putKW
  rw [KVR.any (fun j => decide (j = k)) h]
  split
  · exact KVR.mapPut r h
  · exact h.append (.cons r .nil)
end

def CellR (K : PySem.W.Frag) (am : AM) (H : Hp) (a : Addr) : Cell → Prop
  | .lst ws => ∃ vs, H a = some (.lst vs) ∧ VRs K am H vs ws
  | .dct kvs => ∃ vs, H a = some (.dK vs) ∧ KVR K am H vs kvs
  | .ins _ _ => False
structure Rel (K : PySem.W.Frag) (am : AM) (H : Hp) (S : Store) : Prop where
  nd : am.l.Nodup
  len : am.l.length = S.length
  cell : ∀ (n : Nat) (c : Cell), S[n]? = some c → ∃ a, am.l[n]? = some a ∧ CellR K am H a c
  apart : ∀ a, a ∈ am.pv → a ∉ am.l
  there : ∀ a, a ∈ am.pv → ∃ o, H a = some o
section
variable {K : PySem.W.Frag} {am am' : AM} {H H' : Hp} {S : Store}
theorem CellR.mono (e : Mv am H am' H') {a : Addr} (hk : ∀ o, H a = some o → H' a = some o) : ∀ {c : Cell}, CellR K am H a c → CellR K am' H' a c
  | .lst _, ⟨vs, h, hs⟩ => ⟨vs, hk _ h, hs.mv e⟩
  | .dct _, ⟨vs, h, hs⟩ => ⟨vs, hk _ h, hs.mv e⟩
theorem Rel.mem (r : Rel K am H S) {a : Addr} (h : a ∈ am) : ∃ o, H a = some o := by
  rcases h with h | h
  · obtain ⟨n, hn, e⟩ := List.mem_iff_getElem.mp h
    have hS : n < S.length := by rw [← r.len]; exact hn
    obtain ⟨b, hb, hc⟩ := r.cell n S[n] (List.getElem?_eq_getElem hS)
    rw [List.getElem?_eq_getElem hn, e] at hb
    cases hb
    cases hc' : S[n] with
    | lst ws => rw [hc'] at hc; obtain ⟨vs, h1, _⟩ := hc; exact ⟨_, h1⟩
    | dct ws => rw [hc'] at hc; obtain ⟨vs, h1, _⟩ := hc; exact ⟨_, h1⟩
    | ins c fs => rw [hc'] at hc; exact hc.elim
  · exact r.there a h
theorem Rel.fresh (r : Rel K am H S) {p : Addr} (h : H p = none) : p ∉ am := fun z => by
  obtain ⟨o, e⟩ := r.mem z; rw [h] at e; cases e
/-- a new thing -/
theorem Rel.new (r : Rel K am H S) {p : Addr} {o : HO} (h : H p = none) : Rel K am (upd H p o) S :=
  ⟨r.nd, r.len, fun n c e => let ⟨a, ha, hc⟩ := r.cell n c e; ⟨a, ha, hc.mono (Ext.new h).toMv fun u hu => by rw [upd_ne (ne_of_none hu h)]; exact hu⟩, r.apart,
    fun a ha => let ⟨u, hu⟩ := r.there a ha; ⟨u, by rw [upd_ne (ne_of_none hu h)]; exact hu⟩⟩
/-- a cell is added: p, which nothing leans on -/
theorem Rel.add (r : Rel K am H S) {p : Addr} {o : HO} {c : Cell} (hp : p ∉ am) (mv : Mv am H (am.push p) (upd H p o)) (hc : CellR K (am.push p) (upd H p o) p c) : Rel K (am.push p) (upd H p o) (S ++ [c]) := by
  have hn : p ∉ am.l := fun z => hp (.inl z)
  have hv : p ∉ am.pv := fun z => hp (.inr z)
  refine ⟨?_, by simp [AM.push, r.len], fun n d e => ?_, fun a ha z => ?_, fun a ha => ?_⟩
  · refine List.nodup_append.mpr ⟨r.nd, by simp, fun a ha b hb => ?_⟩
    have : b = p := by simpa using hb
    subst this
    intro z; subst z; exact hn ha
  · by_cases hl : n < S.length
    · rw [List.getElem?_append_left hl] at e
      obtain ⟨a, ha, hc'⟩ := r.cell n d e
      refine ⟨a, mv.at ha, hc'.mono mv fun u hu => ?_⟩
      rw [upd_ne]
      · exact hu
      · intro z; exact hn (z ▸ List.mem_of_getElem? ha)
    · have : n = S.length := by
        have := (List.getElem?_eq_some_iff.mp e).1
        simp at this; omega
      subst this
      simp at e
      subst e
      exact ⟨p, by rw [← r.len]; simp [AM.push], hc⟩
  · rcases List.mem_append.mp z with z | z
    · exact r.apart a ha z
    · exact hv (List.mem_singleton.mp z ▸ ha)
  · obtain ⟨u, hu⟩ := r.there a ha
    exact ⟨u, by rw [upd_ne (ne_mem ha hv)]; exact hu⟩
theorem Rel.push (r : Rel K am H S) {p : Addr} {o : HO} {c : Cell} (h : H p = none) (hc : CellR K (am.push p) (upd H p o) p c) : Rel K (am.push p) (upd H p o) (S ++ [c]) :=
  r.add (r.fresh h) (Ext.cell h).toMv hc
theorem Rel.last (r : Rel K am H S) {p : Addr} : (am.push p).l[S.length]? = some p := by
  rw [← r.len]; simp [AM.push]
/-- a cell is changed -/
theorem Rel.ext (r : Rel K am H S) {n : Nat} {p : Addr} {o : HO} (hp : am.l[n]? = some p) : Ext am H am (upd H p o) := by
  have hm : p ∈ am.l := List.mem_of_getElem? hp
  refine ⟨⟨List.prefix_refl _, fun a u ha h => ⟨?_, h⟩⟩, fun _ z => z, fun a u h ha => ?_⟩
  · rw [upd_ne (ne_mem (AM.mem.mpr (.inl hm)) h).symm]; exact ha
  · rw [upd_ne (ne_mem hm (r.apart a h)).symm]; exact ha
theorem Rel.put (r : Rel K am H S) {n : Nat} {p : Addr} {o : HO} {c : Cell} (hp : am.l[n]? = some p) (hc : CellR K am (upd H p o) p c) : Rel K am (upd H p o) (S.set n c) := by
  have hm : p ∈ am.l := List.mem_of_getElem? hp
  refine ⟨r.nd, by simp [r.len], fun j d e => ?_, r.apart, fun a ha => ?_⟩
  · by_cases hj : j = n
    · subst hj
      have hl : j < S.length := by
        have := (List.getElem?_eq_some_iff.mp hp).1; rw [r.len] at this; exact this
      rw [List.getElem?_set_self hl] at e
      cases e
      exact ⟨p, hp, hc⟩
    · rw [List.getElem?_set_ne (Ne.symm hj)] at e
      obtain ⟨a, ha, hc'⟩ := r.cell j d e
      refine ⟨a, ha, hc'.mono (r.ext hp).toMv fun u hu => ?_⟩
      rw [upd_ne]
      · exact hu
      · intro z
        subst z
        obtain ⟨h1, e1⟩ := List.getElem?_eq_some_iff.mp ha
        obtain ⟨h2, e2⟩ := List.getElem?_eq_some_iff.mp hp
        exact hj ((List.getElem_inj r.nd).mp (e1.trans e2.symm))
  · obtain ⟨u, hu⟩ := r.there a ha
    exact ⟨u, by rw [upd_ne (ne_mem hm (r.apart a ha)).symm]; exact hu⟩
/-- a private thing is made, changed -/
theorem Rel.hide (r : Rel K am H S) {p : Addr} {o : HO} (h : H p = none) : Rel K ⟨am.l, p :: am.pv⟩ (upd H p o) S ∧ Ext am H ⟨am.l, p :: am.pv⟩ (upd H p o) := by
  have hf := r.fresh h
  have mv : Ext am H ⟨am.l, p :: am.pv⟩ (upd H p o) := by
    refine ⟨⟨List.prefix_refl _, fun a u ha n => ⟨by rw [upd_ne (ne_of_none ha h)]; exact ha, ?_⟩⟩, fun _ z => List.mem_cons_of_mem _ z, fun a u _ ha => by rw [upd_ne (ne_of_none ha h)]; exact ha⟩
    rintro (z | z)
    · exact n (.inl z)
    · rcases List.mem_cons.mp z with z | z
      · exact ne_of_none ha h z
      · exact n (.inr z)
  refine ⟨⟨r.nd, r.len, fun n c e => ?_, fun a ha => ?_, fun a ha => ?_⟩, mv⟩
  · obtain ⟨a, ha, hc⟩ := r.cell n c e
    exact ⟨a, ha, hc.mono mv.toMv fun u hu => by rw [upd_ne (ne_of_none hu h)]; exact hu⟩
  · rcases List.mem_cons.mp ha with z | z
    · subst z; exact fun y => hf (.inl y)
    · exact r.apart a z
  · rcases List.mem_cons.mp ha with z | z
    · subst z; exact ⟨o, upd_same⟩
    · obtain ⟨u, hu⟩ := r.there a z
      exact ⟨u, by rw [upd_ne (ne_of_none hu h)]; exact hu⟩
theorem Rel.turn (r : Rel K am H S) {p : Addr} {o : HO} (h : p ∈ am.pv) : Rel K am (upd H p o) S ∧ Mv am H am (upd H p o) := by
  have mv : Mv am H am (upd H p o) := ⟨List.prefix_refl _, fun a u ha n => ⟨by rw [upd_ne (ne_mem (AM.mem.mpr (.inr h)) n).symm]; exact ha, n⟩⟩
  refine ⟨⟨r.nd, r.len, fun n c e => ?_, r.apart, fun a ha => ?_⟩, mv⟩
  · obtain ⟨a, ha, hc⟩ := r.cell n c e
    exact ⟨a, ha, hc.mono mv fun u hu => by rw [upd_ne (ne_mem (List.mem_of_getElem? ha) (r.apart p h))]; exact hu⟩
  · obtain ⟨u, hu⟩ := r.there a ha
    by_cases e : a = p
    · subst e; exact ⟨o, upd_same⟩
    · exact ⟨u, by rw [upd_ne e]; exact hu⟩
/-- .. and is private no more -/
def AM.free (m : AM) (p : Addr) : AM := ⟨m.l, m.pv.filter fun a => decide (a ≠ p)⟩
theorem AM.not_free {m : AM} {p : Addr} (h : p ∉ m.l) : p ∉ m.free p := by
  rintro (z | z)
  · exact h z
  · simp [AM.free] at z
theorem AM.of_free {m : AM} {p a : Addr} (h : a ∈ m.free p) : a ∈ m := by
  rcases h with h | h
  · exact .inl h
  · exact .inr ((List.mem_filter.mp h).1)
theorem Rel.show' (r : Rel K am H S) (p : Addr) : Rel K (am.free p) H S ∧ Mv am H (am.free p) H := by
  have mv : Mv am H (am.free p) H := ⟨List.prefix_refl _, fun a u ha n => ⟨ha, fun z => n (AM.of_free z)⟩⟩
  exact ⟨⟨r.nd, r.len, fun n c e => let ⟨a, ha, hc⟩ := r.cell n c e; ⟨a, ha, hc.mono mv fun _ h => h⟩, fun a ha => r.apart a (List.mem_filter.mp ha).1, fun a ha => r.there a (List.mem_filter.mp ha).1⟩, mv⟩
/-- from ahead of a private thing's making to where it is private no more -/
theorem Rel.out (r : Rel K am H S) {p : Addr} {o o' : HO} {am2 : AM} {H2 : Hp} (hp : H p = none) (e : Mv ⟨am.l, p :: am.pv⟩ (upd H p o) am2 H2) (es : ∀ a, a ∈ am.pv → a ∈ am2.pv) (ep : ∀ a u, a ∈ am.pv → H a = some u → H2 a = some u) (h2 : p ∉ am2.l) : Ext am H (am2.free p) (upd H2 p o') := by
  refine ⟨⟨e.pre, fun a u ha n => ?_⟩, fun a ha => ?_, fun a u h ha => ?_⟩
  · have hne : a ≠ p := ne_of_none ha hp
    obtain ⟨h1, n1⟩ := e.keep a u (by rw [upd_ne hne]; exact ha) (by
      rintro (z | z)
      · exact n (.inl z)
      · rcases List.mem_cons.mp z with z | z
        · exact hne z
        · exact n (.inr z))
    exact ⟨by rw [upd_ne hne]; exact h1, fun z => n1 (AM.of_free z)⟩
  · obtain ⟨u, hu⟩ := r.there a ha
    exact List.mem_filter.mpr ⟨es a ha, by simpa using ne_of_none hu hp⟩
  · rw [upd_ne (ne_of_none ha hp)]; exact ep a u h ha
theorem Ext.more {am am' : AM} {H H' : Hp} {p : Addr} (e : Ext am H am' H') (hp : H p = none) : Ext am H (am'.push p) H' :=
  ⟨⟨e.pre.trans (List.prefix_append _ _), fun a u ha n => let ⟨h1, n1⟩ := e.keep a u ha n; ⟨h1, fun z => (AM.mem_push.mp z).elim n1 (ne_of_none ha hp)⟩⟩, e.sub, e.priv⟩
/-- a private thing becomes a cell -/
theorem Rel.mvCell (r : Rel K am H S) {p : Addr} {o : HO} (h : p ∈ am.pv) : Mv am H ((am.free p).push p) (upd H p o) := by
  refine ⟨List.prefix_append _ _, fun a u ha n => ⟨?_, fun z => ?_⟩⟩
  · rw [upd_ne (ne_mem (AM.mem.mpr (.inr h)) n).symm]; exact ha
  · rcases AM.mem_push.mp z with z | z
    · exact n (AM.of_free z)
    · exact n (by rw [z]; exact .inr h)
theorem Rel.toCell (r : Rel K am H S) {p : Addr} {o : HO} {c : Cell} (h : p ∈ am.pv) (hc : CellR K ((am.free p).push p) (upd H p o) p c) : Rel K ((am.free p).push p) (upd H p o) (S ++ [c]) := by
  obtain ⟨r1, m1⟩ := r.show' p
  have hn : p ∉ am.free p := AM.not_free (r.apart p h)
  have mv := r.mvCell (o := o) h
  have hl : p ∉ am.l := r.apart p h
  have hv : p ∉ (am.free p).pv := fun z => hn (.inr z)
  refine ⟨?_, by simp [AM.push, AM.free, r.len], fun n d e => ?_, fun a ha z => ?_, fun a ha => ?_⟩
  · refine List.nodup_append.mpr ⟨r.nd, by simp, fun a ha b hb => ?_⟩
    have : b = p := by simpa using hb
    subst this
    exact ne_mem ha hl
  · by_cases hlt : n < S.length
    · rw [List.getElem?_append_left hlt] at e
      obtain ⟨a, ha, hc'⟩ := r.cell n d e
      refine ⟨a, mv.at ha, hc'.mono mv fun u hu => ?_⟩
      rw [upd_ne (ne_mem (List.mem_of_getElem? ha) hl)]; exact hu
    · have : n = S.length := by
        have := (List.getElem?_eq_some_iff.mp e).1
        simp at this; omega
      subst this
      simp at e
      subst e
      exact ⟨p, by rw [← r.len]; simp [AM.push, AM.free], hc⟩
  · rcases List.mem_append.mp z with z | z
    · exact r1.apart a ha z
    · exact hv (List.mem_singleton.mp z ▸ ha)
  · obtain ⟨u, hu⟩ := r1.there a ha
    exact ⟨u, by rw [upd_ne (ne_mem ha hv)]; exact hu⟩
theorem Rel.last' (r : Rel K am H S) {p : Addr} : ((am.free p).push p).l[S.length]? = some p := by
  rw [← r.len]; simp [AM.push, AM.free]
theorem Rel.at_lst (r : Rel K am H S) {n : Nat} {a : Addr} {ws : List W} (h : am.l[n]? = some a) (e : S[n]? = some (.lst ws)) : ∃ vs, H a = some (.lst vs) ∧ VRs K am H vs ws := by
  obtain ⟨b, hb, hc⟩ := r.cell n _ e
  rw [h] at hb; cases hb
  exact hc
theorem Rel.at_dct (r : Rel K am H S) {n : Nat} {a : Addr} {ws : List (Key × W)} (h : am.l[n]? = some a) (e : S[n]? = some (.dct ws)) : ∃ vs, H a = some (.dK vs) ∧ KVR K am H vs ws := by
  obtain ⟨b, hb, hc⟩ := r.cell n _ e
  rw [h] at hb; cases hb
  exact hc
/-- the list that a value is -/
theorem Rel.getL (r : Rel K am H S) {v : V} {w : W} {l : List W} (h : VR K am H v w) (e : PyI.getL S w = some l) : ∃ a vs, v = .ref a ∧ H a = some (.lst vs) ∧ VRs K am H vs l := by
  cases h with
  | lst h n hs => simp [PyI.getL] at e; subst e; exact ⟨_, _, rfl, h, hs⟩
  | loc h =>
    rename_i a n
    simp only [PyI.getL] at e
    split at e
    · rename_i ws e2; cases e
      obtain ⟨vs, h1, h2⟩ := r.at_lst h e2
      exact ⟨_, vs, rfl, h1, h2⟩
    · cases e
  | _ => simp [PyI.getL] at e
theorem Rel.getRd (r : Rel K am H S) {v : V} {w : W} {l : List W} (h : VR K am H v w) (e : PyI.getRd S w = some l) : ∃ a vs, v = .ref a ∧ (SqL K H a vs ∨ SqT K H a vs) ∧ VRs K am H vs l := by
  cases h with
  | lst h n hs => simp [PyI.getRd] at e; subst e; exact ⟨_, _, rfl, .inl (.inl (.inl h)), hs⟩
  | tup h hs => simp [PyI.getRd] at e; subst e; exact ⟨_, _, rfl, .inr h.sq, hs⟩
  | ro h => simp [PyI.getRd] at e; subst e; exact ⟨_, _, rfl, .inl h.sq, VRs.ints _⟩
  | loc h =>
    rename_i a n
    simp only [PyI.getRd] at e
    split at e
    · rename_i ws e2; cases e
      obtain ⟨vs, h1, h2⟩ := r.at_lst h e2
      exact ⟨_, vs, rfl, .inl (.inl (.inl h1)), h2⟩
    · cases e
  | _ => simp [PyI.getRd] at e
theorem Rel.getD (r : Rel K am H S) {v : V} {w : W} {l : List (Key × W)} (h : VR K am H v w) (e : PyI.getD S w = some l) : ∃ a n vs, v = .ref a ∧ w = .loc n ∧ am.l[n]? = some a ∧ S[n]? = some (.dct l) ∧ H a = some (.dK vs) ∧ KVR K am H vs l := by
  cases h with
  | loc h =>
    rename_i a n
    simp only [PyI.getD] at e
    split at e
    · rename_i ws e2; cases e
      obtain ⟨vs, h1, h2⟩ := r.at_dct h e2
      exact ⟨_, n, vs, rfl, rfl, h, e2, h1, h2⟩
    · cases e
  | _ => simp [PyI.getD] at e
end

/-! ### slots -/
structure SR (K : PySem.W.Frag) (am : AM) (H : Hp) (σ : St) (τ : Slots) : Prop where
  len : σ.length = τ.length
  at_ : ∀ (i : Nat) (w : W), τ[i]? = some (some w) → ∃ v, σ[i]? = some (some v) ∧ VR K am H v w
section
variable {K : PySem.W.Frag} {am am' : AM} {H H' : Hp} {σ : St} {τ : Slots}
theorem SR.mv (e : Mv am H am' H') (s : SR K am H σ τ) : SR K am' H' σ τ :=
  ⟨s.len, fun i w h => let ⟨v, h1, h2⟩ := s.at_ i w h; ⟨v, h1, h2.mv e⟩⟩
theorem SR.mono (e : Ext am H am' H') (s : SR K am H σ τ) : SR K am' H' σ τ := s.mv e.toMv
theorem SR.set (s : SR K am H σ τ) {v : V} {w : W} (r : VR K am H v w) (i : Nat) : SR K am H (σ.set i (some v)) (τ.set i (some w)) := by
  refine ⟨by simp [s.len], fun j u h => ?_⟩
  by_cases hj : i = j
  · subst hj
    by_cases hl : i < τ.length
    · rw [List.getElem?_set_self hl] at h
      cases h
      exact ⟨v, by rw [List.getElem?_set_self (by rw [s.len]; exact hl)], r⟩
    · rw [List.getElem?_eq_none (by simpa using hl)] at h; cases h
  · rw [List.getElem?_set_ne hj] at h ⊢
    exact s.at_ j u h
theorem SR.start {vs : List V} {ws : List W} (h : VRs K am H vs ws) {N : List Str} {n : Nat} (hn : n = N.length) : SR K am H (L2.start N vs) (ws.map some ++ List.replicate (n - ws.length) none) := by
  subst hn
  refine ⟨by simp [L2.start, h.length], fun i w e => ?_⟩
  by_cases hi : i < ws.length
  · rw [List.getElem?_append_left (by simpa using hi), List.getElem?_map] at e
    cases e1 : ws[i]? with
    | none => rw [e1] at e; cases e
    | some u =>
      rw [e1] at e; cases e
      obtain ⟨v, h1, h2⟩ := h.get e1
      refine ⟨v, ?_, h2⟩
      unfold L2.start
      rw [List.getElem?_append_left (by have := (List.getElem?_eq_some_iff.mp h1).1; simpa using this), List.getElem?_map, h1]
      rfl
  · rw [List.getElem?_append_right (by simpa using hi), List.getElem?_replicate] at e
    split at e <;> cases e
end

/-! ### data -/
section
variable {K : PySem.W.Frag} {am : AM} {H : Hp}
mutual
theorem VR.dp : ∀ {v : V} {w : W}, VR K am H v w → w.pure = true → Dp K H v w.pd
  | _, _, .non, _ => .non
  | _, _, .bl b, _ => .bl b
  | _, _, .int i, _ => .int i
  | _, _, .str s, _ => .str s
  | _, _, .tup h hs, p => .tup h.sq (VRs.dp hs (by simpa [W.pure] using p))
  | _, _, .lst h _ hs, p => .lst (.inl (.inl h)) (VRs.dp hs (by simpa [W.pure] using p))
  | _, _, .ro _, p => by simp [W.pure] at p
  | _, _, .loc _, p => by simp [W.pure] at p
theorem VRs.dp : ∀ {vs : List V} {ws : List W}, VRs K am H vs ws → pureL ws = true → DpAll K H vs (pdL ws)
  | _, _, .nil, _ => .nil
  | _, _, .cons h t, p => by
    simp only [pureL, Bool.and_eq_true] at p
    exact .cons (VR.dp h p.1) (VRs.dp t p.2)
end
theorem Rel.data {S : Store} (r : Rel K am H S) {v : V} {w : W} {d : PyData} (h : VR K am H v w) (e : dataOf S w = some d) : Dp K H v d := by
  cases h with
  | loc h =>
    simp only [dataOf] at e
    split at e
    · rename_i ws e2
      split at e
      · rename_i p
        cases e
        obtain ⟨vs, h1, h2⟩ := r.at_lst h e2
        exact .lst (.inl (.inl h1)) (h2.dp p)
      · cases e
    · cases e
  | non => simp [dataOf, W.pure, W.pd] at e; subst e; exact .non
  | bl b => simp [dataOf, W.pure, W.pd] at e; subst e; exact .bl b
  | int i => simp [dataOf, W.pure, W.pd] at e; subst e; exact .int i
  | str s => simp [dataOf, W.pure, W.pd] at e; subst e; exact .str s
  | ro h => simp [dataOf, W.pure] at e
  | tup h hs =>
    simp only [dataOf] at e
    split at e
    · rename_i p; cases e; exact (VR.tup h hs).dp p
    · cases e
  | lst h n hs =>
    simp only [dataOf] at e
    split at e
    · rename_i p; cases e; exact (VR.lst h n hs).dp p
    · cases e
theorem VR.flat {v : V} {w : W} (h : VR K am H v w) (f : w.flat = true) : flatV v = true := by
  cases h <;> first | rfl | (simp [W.flat] at f)
theorem VRs.flat : ∀ {vs : List V} {ws : List W}, VRs K am H vs ws → ws.all W.flat = true → vs.all flatV = true
  | _, _, .nil, _ => rfl
  | _, _, .cons h t, f => by
    simp only [List.all_cons, Bool.and_eq_true] at f ⊢
    exact ⟨h.flat f.1, VRs.flat t f.2⟩
theorem VR.eqF {v v' : V} {w w' : W} (h : VR K am H v w) (h' : VR K am H v' w') : w.flat = true → w'.flat = true → eqV v v' = PyI.eqF w w' := by
  intro f f'
  cases h <;> cases h' <;> first | rfl | (simp [W.flat] at f; done) | (simp [W.flat] at f'; done)
theorem VRs.inF {x : V} {y : W} (h : VR K am H x y) (f : y.flat = true) : ∀ {vs : List V} {ws : List W}, VRs K am H vs ws → ws.all W.flat = true → inV x vs = PyI.inF y ws
  | _, _, .nil, _ => rfl
  | _, _, .cons h1 t, g => by
    simp only [List.all_cons, Bool.and_eq_true] at g
    have ih := VRs.inF h f t g.2
    unfold inV PyI.inF at ih ⊢
    rw [List.any_cons, List.any_cons, ih, h1.eqF h g.1 f]
theorem VRs.intsOf : ∀ {vs : List V} {ws : List W} {l : List Int}, VRs K am H vs ws → PyI.intsOf ws = some l → vs = l.map V.int
  | _, _, _, .nil, e => by simp [PyI.intsOf] at e; subst e; rfl
  | _, _, _, .cons h t, e => by
    cases h <;> simp [PyI.intsOf] at e
    obtain ⟨l', e1, rfl⟩ := e
    rw [VRs.intsOf t e1]; rfl
theorem VRs.boolsOf : ∀ {vs : List V} {ws : List W} {l : List Bool}, VRs K am H vs ws → PyI.boolsOf ws = some l → vs = l.map V.bl
  | _, _, _, .nil, e => by simp [PyI.boolsOf] at e; subst e; rfl
  | _, _, _, .cons h t, e => by
    cases h <;> simp [PyI.boolsOf] at e
    obtain ⟨l', e1, rfl⟩ := e
    rw [VRs.boolsOf t e1]; rfl
end
end PyI

/-! PyI, part 3: the operators by values, over the rules of HandS. Own work. -/
namespace PyI
open PySem PySem.Spec PyProof.Rows L2

/-! ### what an end must show -/
/-- a raised exception as it lies -/
def XR (et : Nat → Option (Addr × Option Str)) (K : PySem.W.Frag) (am : AM) (H : Hp) (cls : Value) (d : Option Addr) (c : Nat) (p : List W) : Prop :=
  ∃ C, cls = .ref C ∧ match p with
    | [] => et c = some (C, none) ∧ d = none
    | [w] => ∃ f dd v, et c = some (C, some f) ∧ d = some dd ∧ dd ∉ am ∧ H dd = some (.xd [(f, v)]) ∧ VR K am H v w
    | _ => False
/-- the fixed things of a law -/
structure Gx where
  K : PySem.W.Frag
  et : Nat → Option (Addr × Option Str)
section
variable (G : Gx)
/-- a result's promise: whatever is wanted, from the heap (am, H) on -/
def Fin {α : Type} (E : Value → Option Addr → Hp → Prop) (am : AM) (H : Hp) (r : R α) (ok : α → Store → AM → Hp → Prop) : Prop := match r with
  | .ok a S => ∀ am' H', Ext am H am' H' → Rel G.K am' H' S → ok a S am' H'
  | .exc c p S => ∀ cls d am' H', Ext am H am' H' → Rel G.K am' H' S → XR G.et G.K am' H' cls d c p → E cls d H'
  | .stuck => False
end
section
variable {G : Gx} {α β : Type} {E : Value → Option Addr → Hp → Prop} {am am0 : AM} {H H0 : Hp} {r : R α} {ok ok' : α → Store → AM → Hp → Prop}
theorem Fin.base (e : Ext am0 H0 am H) (h : Fin G E am0 H0 r ok) : Fin G E am H r ok := by
  cases r with
  | ok a S => exact fun am' H' f => h am' H' (e.trans f)
  | exc c p S => exact fun cls d am' H' f => h cls d am' H' (e.trans f)
  | stuck => exact h
theorem Fin.imp (h : Fin G E am H r ok) (i : ∀ a S am' H', Ext am H am' H' → Rel G.K am' H' S → ok a S am' H' → ok' a S am' H') : Fin G E am H r ok' := by
  cases r with
  | ok a S => exact fun am' H' f g => i a S am' H' f g (h am' H' f g)
  | exc c p S => exact h
  | stuck => exact h
theorem Fin.bind {f : α → Store → R β} {ok : β → Store → AM → Hp → Prop} (h : Fin G E am H (r.bind f) ok) : Fin G E am H r (fun a S am' H' => Fin G E am' H' (f a S) ok) := by
  cases r with
  | ok a S => exact fun am' H' e _ => Fin.base e h
  | exc c p S => exact h
  | stuck => exact h
theorem Fin.ofBind {f : α → Store → R β} {ok : β → Store → AM → Hp → Prop} (h : Fin G E am H r (fun a S am' H' => Fin G E am' H' (f a S) ok)) (hr : ∀ a S, r = .ok a S → Rel G.K am H S) : Fin G E am H (r.bind f) ok := by
  cases r with
  | ok a S => exact h am H (Ext.refl _ _) (hr a S rfl)
  | exc c p S => exact h
  | stuck => exact h
theorem Fin.lift {S : Store} {o : Option α} (h : Fin G E am H (PyI.lift S o) ok) : ∃ a, o = some a ∧ ∀ am' H', Ext am H am' H' → Rel G.K am' H' S → ok a S am' H' := by
  cases o with
  | some a => exact ⟨a, rfl, h⟩
  | none => exact h.elim
theorem Fin.need {p : Prop} [Decidable p] (h : Fin G E am H (PyI.need p r) ok) : p ∧ Fin G E am H r ok := by
  unfold PyI.need at h
  split at h
  · exact ⟨by assumption, h⟩
  · exact h.elim
end

/-- what a value-level rule hands on -/
abbrev OkV (G : Gx) (Q : VK) : W → Store → AM → Hp → Prop := fun w _ am H => ∀ v, VR G.K am H v w → Q v H
abbrev OkVs (G : Gx) (Q : List V → Hp → Prop) : List W → Store → AM → Hp → Prop := fun ws _ am H => ∀ vs, VRs G.K am H vs ws → Q vs H

section
variable {G : Gx} {X : Cx} (hK : X.K = G.K)
/-! ### one operator with two operands -/
def rBin (G : Gx) (op : BOp) : R2 := fun x y H Q => ∃ am S a b E, Rel G.K am H S ∧ VR G.K am H x a ∧ VR G.K am H y b ∧ Fin G E am H (lift S (binW S op a b)) (OkV G Q)
def BOp.py : BOp → Operator
  | .add => .Add | .sub => .Sub | .mul => .Mult | .fdiv => .FloorDiv | .mod => .Mod | .pow => .Pow | .shl => .LShift | .shr => .RShift | .band => .BitAnd

theorem mul_rule {pins : List (Addr × Obj)} {s : Shared} {σ : L2.St} {H : Hp} {i j : Int} {v u : Value} {Q : VK} (I : Inv X pins σ H s) (rx : RelV (.int i) v) (ry : RelV (.int j) u) (h : mulOk i j) (q : Q (.int (i * j)) H) :
    wpAny (model X.prog X.w) X.A (binaryOp .Mult v u) (EP X pins σ Q) X.xe s := by
  rcases h with h | h | h
  · exact op_mul pins s σ H _ _ v u Q I rx ry ⟨i, j, rfl, rfl, .inl h, q⟩
  · exact op_mul pins s σ H _ _ v u Q I rx ry ⟨i, j, rfl, rfl, .inr h, q⟩
  · exact op_mulW pins s σ H _ _ v u Q I rx ry ⟨i, j, rfl, rfl, h, q⟩
theorem int_rule {op : BOp} {i j k : Int} (hk : binI op i j = some k) {pins : List (Addr × Obj)} {s : Shared} {σ : L2.St} {H : Hp} {v u : Value} {Q : VK} (I : Inv X pins σ H s) (rx : RelV (.int i) v) (ry : RelV (.int j) u) (q : Q (.int k) H) :
    wpAny (model X.prog X.w) X.A (binaryOp op.py v u) (EP X pins σ Q) X.xe s := by
  cases op <;> simp only [binI] at hk
  · cases hk; exact op_add pins s σ H _ _ v u Q I rx ry ⟨i, j, rfl, rfl, q⟩
  · cases hk; exact op_sub pins s σ H _ _ v u Q I rx ry ⟨i, j, rfl, rfl, q⟩
  · split at hk
    · rename_i h; cases hk; exact mul_rule I rx ry h q
    · cases hk
  · split at hk
    · rename_i h; cases hk; exact op_fdivW pins s σ H _ _ v u Q I rx ry ⟨i, j, rfl, rfl, h, q⟩
    · cases hk
  · split at hk
    · rename_i h; cases hk; exact op_mod pins s σ H _ _ v u Q I rx ry ⟨i, j, rfl, rfl, h, q⟩
    · cases hk
  · split at hk
    · rename_i h; cases hk; exact op_pow pins s σ H _ _ v u Q I rx ry ⟨i, j, rfl, rfl, h, q⟩
    · cases hk
  · split at hk
    · rename_i h; cases hk; exact op_shl pins s σ H _ _ v u Q I rx ry ⟨i, j, rfl, rfl, h, q⟩
    · cases hk
  · split at hk
    · rename_i h; cases hk; exact op_shr pins s σ H _ _ v u Q I rx ry ⟨i, j, rfl, rfl, h, q⟩
    · cases hk
  · cases hk; exact op_and pins s σ H _ _ v u Q I rx ry ⟨i, j, rfl, rfl, q⟩

theorem VRs.ne {K : PySem.W.Frag} {am : AM} {H : Hp} {vs : List V} {ws : List W} (h : VRs K am H vs ws) : ws ≠ [] → vs ≠ [] := by
  intro n z; subst z; cases h; exact n rfl
/-- + and * of lists -/
theorem list_rule {op : BOp} {pins : List (Addr × Obj)} {s : Shared} {σ : L2.St} {H : Hp} {am : AM} {S : Store} {a b w : W} {x y : V} {v u : Value} {Q : VK} (I : Inv X pins σ H s) (rx : RelV x v) (ry : RelV y u) (r : Rel G.K am H S) (hx : VR G.K am H x a) (hy : VR G.K am H y b)
    (e : binL op (getL S a) (getL S b) b = some w)
    (q : ∀ am' H', Ext am H am' H' → Rel G.K am' H' S → OkV G Q w S am' H') : wpAny (model X.prog X.w) X.A (binaryOp op.py v u) (EP X pins σ Q) X.xe s := by
  unfold binL at e
  split at e
  · rename_i l r' e1 e2
    split at e
    · rename_i hl
      cases e
      obtain ⟨p, vs, rfl, h1, h2⟩ := r.getL hx e1
      obtain ⟨p', vs', rfl, h1', h2'⟩ := r.getL hy e2
      refine op_cat pins s σ H _ _ v u Q I rx ry ⟨p, p', vs, vs', rfl, rfl, h1, h1', by rw [h2.length, h2'.length]; exact hl, fun t ht => ?_⟩
      refine q am _ (Ext.new ht) (r.new ht) _ (.lst upd_same (r.fresh ht) ((h2.append h2').mono (Ext.new ht)))
    · cases e
  · rename_i l x0 k e1
    split at e
    · rename_i hl
      cases e
      obtain ⟨p, vs, rfl, h1, h2⟩ := r.getL hx e1
      cases hy
      refine op_rep pins s σ H _ _ v u Q I rx ry ⟨p, k, vs, rfl, rfl, h1, hl.1, hl.2.1, by rw [h2.length]; exact hl.2.2, fun t ht => ?_⟩
      exact q am _ (Ext.new ht) (r.new ht) _ (.lst upd_same (r.fresh ht) ((h2.rep _).mono (Ext.new ht)))
    · cases e
  · cases e
include hK in
theorem bin_rule (op : BOp) : OpR X (binaryOp op.py) (rBin G op) := by
  intro pins s σ H x y v u Q I rx ry h
  obtain ⟨am, S, a, b, E, r, hx, hy, h⟩ := h
  obtain ⟨w, e, q⟩ := h.lift
  unfold binW at e
  split at e
  · rename_i i j
    cases hx; cases hy
    cases e1 : binI op i j with
    | none => rw [e1] at e; cases e
    | some k =>
      rw [e1] at e; cases e
      exact int_rule e1 I rx ry (q am H (Ext.refl _ _) r _ (.int k))
  · rename_i i j
    cases hx; cases hy
    split at e
    · rename_i hl
      cases e
      obtain ⟨rfl, hl⟩ := hl
      exact op_add_str pins s σ H _ _ v u Q I rx ry ⟨i, j, rfl, rfl, hl, q am H (Ext.refl _ _) r _ (.str _)⟩
    · cases e
  · rename_i l l'
    cases hx with
    | tup h1 h2 =>
      rename_i p vs
      cases hy with
      | tup h1' h2' =>
        rename_i p' vs'
        split at e
        · rename_i hl
          cases e
          obtain ⟨rfl, hl⟩ := hl
          refine op_catA pins s σ H _ _ v u Q I rx ry ⟨p, p', vs, vs', rfl, rfl, hK ▸ h1.sq, hK ▸ h1'.sq, by rw [h2.length, h2'.length]; exact hl, fun z => ?_, fun _ z => ?_, fun _ z t ht => ?_⟩
          · subst z
            cases h2
            exact q am H (Ext.refl _ _) r _ (.tup h1' h2')
          · subst z
            cases h2'
            exact q am H (Ext.refl _ _) r _ (.tup h1 (by rw [List.append_nil]; exact h2))
          · exact q am _ (Ext.new ht) (r.new ht) _ (.tup (.inl ⟨upd_same, r.fresh ht⟩) ((h2.append h2').mono (Ext.new ht)))
        · cases e
  · exact list_rule I rx ry r hx hy e q

/-! ### comparisons -/
def rCmp (G : Gx) (op : COp) : R2 := fun x y H Q => ∃ am S a b c, Rel G.K am H S ∧ VR G.K am H x a ∧ VR G.K am H y b ∧ cmpW S op a b = some c ∧ Q (.bl c) H
def COp.py : COp → CmpOp
  | .eq => .Eq | .ne => .NotEq | .lt => .Lt | .le => .LtE | .gt => .Gt | .ge => .GtE | .isin => .In | .notin => .NotIn | .isn => .Is | .isnt => .IsNot
theorem eq_scal {x y : V} {c : Bool} {pins : List (Addr × Obj)} {s : Shared} {σ : L2.St} {H : Hp} {v u : Value} {Q : VK} (I : Inv X pins σ H s) (rx : RelV x v) (ry : RelV y u) (hs : scal x y = true) (hc : decide (x = y) = c) (q : Q (.bl c) H) :
    wpAny (model X.prog X.w) X.A (compareOp .Eq v u) (EP X pins σ Q) X.xe s := op_eq pins s σ H _ _ v u Q I rx ry ⟨hs, hc ▸ q⟩
theorem ne_scal {x y : V} {c : Bool} {pins : List (Addr × Obj)} {s : Shared} {σ : L2.St} {H : Hp} {v u : Value} {Q : VK} (I : Inv X pins σ H s) (rx : RelV x v) (ry : RelV y u) (hs : scal x y = true) (hc : (!decide (x = y)) = c) (q : Q (.bl c) H) :
    wpAny (model X.prog X.w) X.A (compareOp .NotEq v u) (EP X pins σ Q) X.xe s := op_ne pins s σ H _ _ v u Q I rx ry ⟨hs, hc ▸ q⟩
theorem dec_V_int {i j : Int} : decide (V.int i = V.int j) = decide (i = j) := by simp
theorem dec_V_str {i j : Str} : decide (V.str i = V.str j) = decide (i = j) := by simp
theorem dec_V_bl {i j : Bool} : decide (V.bl i = V.bl j) = decide (i = j) := by simp
theorem toKey_kV {K : PySem.W.Frag} {am : AM} {H : Hp} {v : V} {w : W} {k : Key} (h : VR K am H v w) (e : toKey w = some k) : v = kV k := by
  cases h <;> simp [toKey] at e <;> subst e <;> rfl
theorem KVR.has {K : PySem.W.Frag} {am : AM} {H : Hp} {vs : List (Key × V)} {ws : List (Key × W)} (h : KVR K am H vs ws) (k : Key) : (valV vs k).isSome = ws.any fun kv => decide (kv.1 = k) := by
  rw [← valV_any, KVR.any (fun j => decide (j = k)) h]
include hK in
theorem cmp_rule (hu : X.A.units + 64 < cLine) (op : COp) : OpR X (compareOp op.py) (rCmp G op) := by
  intro pins s σ H x y v u Q I rx ry h
  obtain ⟨am, S, a, b, c, r, hx, hy, e, q⟩ := h
  have hu1 : X.A.units + 1 < cLine := by omega
  cases op with
  | eq =>
    simp only [cmpW] at e
    split at e
    · cases hx; cases hy; cases e; exact eq_scal I rx ry rfl dec_V_int q
    · cases hx; cases hy; cases e; exact eq_scal I rx ry rfl dec_V_str q
    · cases hx; cases hy; cases e; exact eq_scal I rx ry rfl dec_V_bl q
    · split at e
      · rename_i d d' e1 e2
        split at e
        · rename_i hs
          cases e
          exact op_eqD hu pins s σ H _ _ v u Q I rx ry ⟨d, d', hK ▸ r.data hx e1, hK ▸ r.data hy e2, hs.1, hs.2, q⟩
        · cases e
      · cases e
  | ne =>
    simp only [cmpW] at e
    split at e
    · cases hx; cases hy; cases e; exact ne_scal I rx ry rfl (by rw [dec_V_int]) q
    · cases hx; cases hy; cases e; exact ne_scal I rx ry rfl (by rw [dec_V_str]) q
    · cases hx; cases hy; cases e; exact ne_scal I rx ry rfl (by rw [dec_V_bl]) q
    · split at e
      · rename_i d d' e1 e2
        split at e
        · rename_i hs
          cases e
          exact op_neD hu pins s σ H _ _ v u Q I rx ry ⟨d, d', hK ▸ r.data hx e1, hK ▸ r.data hy e2, hs.1, hs.2, q⟩
        · cases e
      · cases e
  | lt =>
    simp only [cmpW] at e
    split at e
    · cases hx; cases hy; cases e; exact op_lt pins s σ H _ _ v u Q I rx ry ⟨_, _, rfl, rfl, q⟩
    · cases e
  | le =>
    simp only [cmpW] at e
    split at e
    · cases hx; cases hy; cases e; exact op_le pins s σ H _ _ v u Q I rx ry ⟨_, _, rfl, rfl, q⟩
    · cases e
  | gt =>
    simp only [cmpW] at e
    split at e
    · cases hx; cases hy; cases e; exact op_gt pins s σ H _ _ v u Q I rx ry ⟨_, _, rfl, rfl, q⟩
    · cases e
  | ge =>
    simp only [cmpW] at e
    split at e
    · cases hx; cases hy; cases e; exact op_ge pins s σ H _ _ v u Q I rx ry ⟨_, _, rfl, rfl, q⟩
    · cases e
  | isn =>
    simp only [cmpW] at e
    split at e
    · cases hy
      cases e
      refine op_isN pins s σ H _ _ v u Q I rx ry ⟨rfl, ?_⟩
      cases hx <;> exact q
    · cases e
  | isnt =>
    simp only [cmpW] at e
    split at e
    · cases hy
      cases e
      refine op_notN pins s σ H _ _ v u Q I rx ry ⟨rfl, ?_⟩
      cases hx <;> exact q
    · cases e
  | isin =>
    simp only [cmpW] at e
    split at e
    · rename_i kvs e1
      obtain ⟨k, e2, rfl⟩ := Option.map_eq_some_iff.mp e
      obtain ⟨p, n, vs, rfl, rfl, h1, h2, h3, h4⟩ := r.getD hy e1
      obtain rfl : u = Value.ref p := ry
      have g := DGet.k (k := k) h3
      rw [← toKey_kV hx e2] at g
      refine d_in hu1 I g rx fun s' I' => ⟨.bl _, H, I', rfl, ?_⟩
      rw [h4.has]
      exact q
    · split at e
      · cases hx; cases hy; cases e; exact op_in_str pins s σ H _ _ v u Q I rx ry ⟨_, _, rfl, rfl, q⟩
      · split at e
        · rename_i l e2
          split at e
          · rename_i hf
            cases e
            obtain ⟨p, vs, rfl, h1, h2⟩ := r.getRd hy e2
            refine op_in_seq pins s σ H _ _ v u Q I rx ry ⟨p, vs, rfl, hK ▸ h1, hx.flat hf.1, h2.flat hf.2, ?_⟩
            rw [if_neg (by decide), h2.inF hx hf.1 hf.2]
            exact q
          · cases e
        · cases e
  | notin =>
    simp only [cmpW] at e
    split at e
    · rename_i kvs e1
      obtain ⟨k, e2, rfl⟩ := Option.map_eq_some_iff.mp e
      obtain ⟨p, n, vs, rfl, rfl, h1, h2, h3, h4⟩ := r.getD hy e1
      obtain rfl : u = Value.ref p := ry
      have g := DGet.k (k := k) h3
      rw [← toKey_kV hx e2] at g
      refine d_notIn hu1 I g rx fun s' I' => ⟨.bl _, H, I', rfl, ?_⟩
      rw [h4.has]
      exact q
    · split at e
      · cases hx; cases hy; cases e; exact op_notin_str pins s σ H _ _ v u Q I rx ry ⟨_, _, rfl, rfl, q⟩
      · split at e
        · rename_i l e2
          split at e
          · rename_i hf
            cases e
            obtain ⟨p, vs, rfl, h1, h2⟩ := r.getRd hy e2
            refine op_notIn_seq pins s σ H _ _ v u Q I rx ry ⟨p, vs, rfl, hK ▸ h1, hx.flat hf.1, h2.flat hf.2, ?_⟩
            rw [if_pos rfl, h2.inF hx hf.1 hf.2]
            exact q
          · cases e
        · cases e

/-! ### truth -/
include hK in
theorem truth_rule {am : AM} {H : Hp} {S : Store} {x : V} {a : W} {c : Bool} (r : Rel G.K am H S) (hx : VR G.K am H x a) (e : truth S a = some c) : TruV X.K x H c := by
  cases hx with
  | non => cases e; rfl
  | bl b => cases e; rfl
  | int i => cases e; rfl
  | tup h hs => cases e; exact .inr (.inl ⟨_, hK ▸ h.sq, by cases hs <;> rfl⟩)
  | lst h n hs =>
    have e : some (!_) = some c := e
    cases e
    exact .inl ⟨_, .inl (.inl h), by cases hs <;> rfl⟩
  | loc h =>
    obtain ⟨l, e1, rfl⟩ := Option.map_eq_some_iff.mp e
    obtain ⟨p, vs, e2, h1, h2⟩ := r.getL (.loc h) e1
    cases e2
    exact .inl ⟨vs, .inl (.inl h1), by cases h2 <;> rfl⟩
  | _ => simp [truth, getL] at e

/-! ### subscripts -/
def rIdx (G : Gx) : R2 := fun x y H Q => ∃ am S a b E, Rel G.K am H S ∧ VR G.K am H x a ∧ VR G.K am H y b ∧ Fin G E am H (lift S (idxW S a b)) (OkV G Q)
def rIxD : R2 := fun x y H Q => ∃ a v, x = .ref a ∧ DGet H a y (some v) ∧ Q v H
theorem ix_dictD (hu : X.A.units + 1 < cLine) : IxR X rIxD := by
  intro value slice pins s σ H x y v u Q I rx ry h hs
  obtain ⟨a, z, rfl, g, q⟩ := h
  obtain rfl : v = Value.ref a := rx
  have hT := dict_typeIs I g
  have go : wpAny (model X.prog X.w) X.A (getItem (.ref a) u) (EP X pins σ Q) X.xe s := d_getItem hu I g ry fun w' s3 I3 rw' => ⟨z, H, I3, rw', q⟩
  unfold subscriptTail
  refine wpAny_bind ?_
  rw [getitemInPython_of_ne hT.not_modules]
  refine wpAny_bind (wpAny_specialOf hT PySem.F.slot_dict_getitem.lookup ?_)
  have fin : wpAny (model X.prog X.w) X.A (subscripted slice false (.ref a) u) (fun r s₃ => wpAny (model X.prog X.w) X.A (letTemporaryGo value (.ref a) r >>= fun _ => pure r) (EP X pins σ Q) X.xe s₃) X.xe s := by
    rw [hs]
    refine wpAny_operating (wpAny_mono go (fun r s₃ h₃ => ?_) fun _ _ z => z)
    exact wpAny_bind (wpAny_letTemporaryGo (wpAny_pure h₃))
  first
    | exact wpAny_pure (wpAny_bind fin)
    | exact wpAny_bind (wpAny_pure (wpAny_bind fin))
    | exact wpAny_bind fin
theorem atI_VRs {K : PySem.W.Frag} {am : AM} {H : Hp} {vs : List V} {ws : List W} {i : Int} {w : W} (h : VRs K am H vs ws) (e : atI ws i = some w) : ∃ v, atI vs i = some v ∧ VR K am H v w := by
  unfold atI at e ⊢
  rw [h.length]
  cases hj : ixN ws.length i with
  | none => rw [hj] at e; cases e
  | some j => rw [hj] at e; exact h.get e
include hK in
theorem idx_rule (hu : X.A.units + 1 < cLine) : IxR X (rIdx G) := by
  intro value slice pins s σ H x y v u Q I rx ry h hs
  obtain ⟨am, S, a, b, E, r, hx, hy, h⟩ := h
  obtain ⟨w, e, q⟩ := h.lift
  have q0 := q am H (Ext.refl _ _) r
  unfold idxW at e
  split at e
  · rename_i kvs e1
    obtain ⟨p, n, vs, rfl, rfl, h1, h2, h3, h4⟩ := r.getD hx e1
    cases ek : toKey b with
    | none => rw [ek] at e; cases e
    | some k =>
      rw [ek] at e
      have e : lookK kvs k = some w := e
      rcases h4.look k with ⟨z1, z2⟩ | ⟨z, w', z1, z2, z3⟩
      · rw [z2] at e; cases e
      · rw [z2] at e; cases e
        have g := DGet.k (k := k) h3
        rw [z1, ← toKey_kV hy ek] at g
        exact ix_dictD hu value slice pins s σ H _ _ v u Q I rx ry ⟨p, z, rfl, g, q0 z z3⟩ hs
  · split at e
    · rename_i i
      cases hy
      split at e
      · rename_i z _
        cases hx
        split at e
        · rename_i hl
          obtain ⟨c, e1, rfl⟩ := Option.map_eq_some_iff.mp e
          exact ix_str value slice pins s σ H _ _ v u Q I rx ry ⟨z, i, c, rfl, rfl, hl, e1, q0 _ (.str _)⟩ hs
        · cases e
      · cases el : getRd S a with
        | none => rw [el] at e; cases e
        | some l =>
          rw [el] at e
          have e : atI l i = some w := e
          obtain ⟨p, vs, rfl, h1, h2⟩ := r.getRd hx el
          obtain ⟨z, z1, z2⟩ := atI_VRs h2 e
          rcases h1 with h1 | h1
          · exact ix_list value slice pins s σ H _ _ v u Q I rx ry ⟨p, vs, i, z, rfl, rfl, hK ▸ h1, z1, q0 z z2⟩ hs
          · exact ix_tup value slice pins s σ H _ _ v u Q I rx ry ⟨p, vs, i, z, rfl, rfl, hK ▸ h1, z1, q0 z z2⟩ hs
    · cases e

/-! ### slices -/
def rSl (G : Gx) : V → Option Int → Option Int → Hp → VK → Prop := fun x lo hi H Q => ∃ am S a E, Rel G.K am H S ∧ VR G.K am H x a ∧ Fin G E am H (lift S (sliceW S a lo hi)) (OkV G Q)
theorem VRs.cut {K : PySem.W.Frag} {am : AM} {H : Hp} {vs : List V} {ws : List W} (h : VRs K am H vs ws) (lo hi : Option Int) : VRs K am H (cutV vs lo hi) (cutW ws lo hi) := by
  unfold cutV cutW
  rw [h.length]
  exact (h.drop _).take _
theorem cut_ints (ns : List Int) (lo hi : Option Int) : cutV (ns.map V.int) lo hi = (cutW ns lo hi).map V.int := by
  unfold cutV cutW
  rw [List.length_map, List.map_take, List.map_drop]
include hK in
theorem slice_rule : SlR X (rSl G) := by
  intro pins s σ H x v vl vu lo hi sl Q I rx hs pl pu h
  obtain ⟨am, S, a, E, r, hx, h⟩ := h
  obtain ⟨w, e, q⟩ := h.lift
  unfold sliceW at e
  split at e
  · rename_i l
    cases e
    cases hx with
    | tup h1 h2 =>
      rename_i p vs
      refine sl_tupA pins s σ H _ v vl vu lo hi sl Q I rx hs pl pu ⟨p, vs, rfl, hK ▸ h1.sq, fun z => ?_, fun z t ht => ?_⟩
      · have e : cutW l lo hi = l := by
          unfold cutW
          rw [← h2.length, z.1, z.2, List.drop_zero, Nat.sub_zero, h2.length, List.take_length]
        exact q am H (Ext.refl _ _) r _ (.tup h1 (by rw [e]; exact h2))
      · exact q am _ (Ext.new ht) (r.new ht) _ (.tup (.inl ⟨upd_same, r.fresh ht⟩) ((h2.cut lo hi).mono (Ext.new ht)))
  · rename_i l
    cases e
    cases hx with
    | ro h1 =>
      rename_i p
      refine sl_list pins s σ H _ v vl vu lo hi sl Q I rx hs pl pu ⟨p, l.map V.int, rfl, hK ▸ h1.sq, fun t ht => ?_⟩
      rw [cut_ints]
      exact q am _ (Ext.new ht) (r.new ht) _ (.lst upd_same (r.fresh ht) (VRs.ints _))
  · obtain ⟨l, e1, rfl⟩ := Option.map_eq_some_iff.mp e
    obtain ⟨p, vs, rfl, h1, h2⟩ := r.getL hx e1
    refine sl_list pins s σ H _ v vl vu lo hi sl Q I rx hs pl pu ⟨p, vs, rfl, .inl (.inl h1), fun t ht => ?_⟩
    exact q am _ (Ext.new ht) (r.new ht) _ (.lst upd_same (r.fresh ht) ((h2.cut lo hi).mono (Ext.new ht)))

/-! ### built-in functions -/
def rBlt (G : Gx) (f : Blt) : List V → Hp → VK → Prop := fun xs H Q => ∃ am S ws E, Rel G.K am H S ∧ VRs G.K am H xs ws ∧ Fin G E am H (bltW f ws S) (OkV G Q)
def Blt.py : Blt → String
  | .len => "len" | .int => "int" | .tuple => "tuple" | .list _ => "list" | .sum => "sum" | .max2 => "max" | .min2 => "min" | .abs => "abs" | .repr => "repr" | .any => "any" | .all => "all" | .maxl => "max" | .minl => "min" | .sorted _ => "sorted" | .str => "str"
def Blt.isTy : Blt → Bool
  | .int => true | .tuple => true | .list _ => true | .str => true | _ => false
def Blt.val (f : Blt) : Value := if f.isTy then .type f.py else .builtin f.py
theorem VRs.one {K : PySem.W.Frag} {am : AM} {H : Hp} {xs : List V} {w : W} (h : VRs K am H xs [w]) : ∃ x, xs = [x] ∧ VR K am H x w := by
  cases h with | cons h t => cases t; exact ⟨_, rfl, h⟩
theorem VRs.two {K : PySem.W.Frag} {am : AM} {H : Hp} {xs : List V} {w u : W} (h : VRs K am H xs [w, u]) : ∃ x y, xs = [x, y] ∧ VR K am H x w ∧ VR K am H y u := by
  cases h with | cons h t => cases t with | cons h' t => cases t; exact ⟨_, _, rfl, h, h'⟩
theorem mkL_fin {m : Bool} {l : List W} {vs : List V} {S : Store} {E : Value → Option Addr → Hp → Prop} {am : AM} {H : Hp} {Q : VK} (r : Rel G.K am H S) (h : VRs G.K am H vs l) (q : Fin G E am H (mkL m l S) (OkV G Q)) {p : Addr} (hp : H p = none) : Q (.ref p) (upd H p (.lst vs)) := by
  cases m with
  | false => exact q am _ (Ext.new hp) (r.new hp) _ (.lst upd_same (r.fresh hp) (h.mono (Ext.new hp)))
  | true =>
    refine q (am.push p) _ (Ext.cell hp) (r.push hp ⟨vs, upd_same, h.mono (Ext.cell hp)⟩) _ (.loc r.last)
theorem maxI_ge : ∀ (l : List Int) (m : Int), m ≤ maxI m l ∧ ∀ y ∈ l, y ≤ maxI m l
  | [], m => ⟨Int.le_refl _, fun y h => by cases h⟩
  | x :: r, m => by
    obtain ⟨h1, h2⟩ := maxI_ge r (if m < x then x else m)
    show m ≤ maxI (if m < x then x else m) r ∧ ∀ y ∈ x :: r, y ≤ maxI (if m < x then x else m) r
    have hm : m ≤ (if m < x then x else m) ∧ x ≤ (if m < x then x else m) := by split <;> omega
    refine ⟨Int.le_trans hm.1 h1, fun y hy => ?_⟩
    rcases List.mem_cons.mp hy with e | hy
    · subst e; exact Int.le_trans hm.2 h1
    · exact h2 y hy
theorem maxI_mem : ∀ (l : List Int) (m : Int), maxI m l ∈ m :: l
  | [], m => by simp [maxI]
  | x :: r, m => by
    have h := maxI_mem r (if m < x then x else m)
    show maxI (if m < x then x else m) r ∈ m :: x :: r
    split at h <;> (rename_i hx; simp only [hx, if_true, if_false] at *; rcases List.mem_cons.mp h with e | e <;> simp [e])
theorem minI_le : ∀ (l : List Int) (m : Int), minI m l ≤ m ∧ ∀ y ∈ l, minI m l ≤ y
  | [], m => ⟨Int.le_refl _, fun y h => by cases h⟩
  | x :: r, m => by
    obtain ⟨h1, h2⟩ := minI_le r (if x < m then x else m)
    show minI (if x < m then x else m) r ≤ m ∧ ∀ y ∈ x :: r, minI (if x < m then x else m) r ≤ y
    have hm : (if x < m then x else m) ≤ m ∧ (if x < m then x else m) ≤ x := by split <;> omega
    refine ⟨Int.le_trans h1 hm.1, fun y hy => ?_⟩
    rcases List.mem_cons.mp hy with e | hy
    · subst e; exact Int.le_trans h1 hm.2
    · exact h2 y hy
theorem minI_mem : ∀ (l : List Int) (m : Int), minI m l ∈ m :: l
  | [], m => by simp [minI]
  | x :: r, m => by
    have h := minI_mem r (if x < m then x else m)
    show minI (if x < m then x else m) r ∈ m :: x :: r
    split at h <;> (rename_i hx; simp only [hx, if_true, if_false] at *; rcases List.mem_cons.mp h with e | e <;> simp [e])
theorem insI_perm (x : Int) : ∀ l : List Int, (insI x l).Perm (x :: l)
  | [] => List.Perm.refl _
  | y :: r => by
    unfold insI
    split
    · exact List.Perm.refl _
    · exact ((insI_perm x r).cons y).trans (List.Perm.swap x y r)
theorem sortI_perm : ∀ l : List Int, (sortI l).Perm l
  | [] => List.Perm.refl _
  | x :: r => (insI_perm x (sortI r)).trans ((sortI_perm r).cons x)
theorem insI_pw (x : Int) : ∀ l : List Int, l.Pairwise (· ≤ ·) → (insI x l).Pairwise (· ≤ ·)
  | [], _ => List.pairwise_singleton _ _
  | y :: r, h => by
    obtain ⟨h1, h2⟩ := List.pairwise_cons.mp h
    unfold insI
    split
    · rename_i hx
      refine List.pairwise_cons.mpr ⟨fun z hz => ?_, h⟩
      rcases List.mem_cons.mp hz with e | hz
      · subst e; exact hx
      · exact Int.le_trans hx (h1 z hz)
    · rename_i hx
      refine List.pairwise_cons.mpr ⟨fun z hz => ?_, insI_pw x r h2⟩
      rcases List.mem_cons.mp ((insI_perm x r).mem_iff.mp hz) with e | hz
      · subst e; omega
      · exact h1 z hz
theorem sortI_pw : ∀ l : List Int, (sortI l).Pairwise (· ≤ ·)
  | [] => List.Pairwise.nil
  | x :: r => insI_pw x _ (sortI_pw r)
theorem sorted_one {l r : List Int} (h : l.Perm r) (hl : l.Pairwise (· ≤ ·)) (hr : r.Pairwise (· ≤ ·)) : l = r :=
  List.Perm.eq_of_pairwise (le := (· ≤ ·)) (fun a b _ _ h1 h2 => Int.le_antisymm h1 h2) hl hr h

include hK in
theorem repr_rule (hg : X.A.guards = some []) (hu : X.A.units + 200 < cLine) {pins : List (Addr × Obj)} {s : Shared} {σ : L2.St} {H : Hp} {x : V} {v : Value} {d : PyData} {Q : VK} (I : Inv X pins σ H s) (rx : RelV x v) (h : Dp G.K H x d)
    (hs : d.showable = true) (hd : d.depth ≤ 190) (hl : d.shown.length ≤ sizeLine) (hnd : d.hasDict = false) (q : Q (.str d.shown) H) : wpAny (model X.prog X.w) X.A (call (.builtin "repr") [v]) (EP X pins σ Q) X.xe s := by
  obtain ⟨as, rd⟩ := Dp.reads I d x v (hK ▸ h) rx
  cases h with
  | non => cases rx; exact P.repr_of_none ⟨.str _, H, I.tok _, ⟨_, rfl⟩, q⟩
  | bl b => cases rx; exact P.repr_of_bool ⟨.str _, H, I.tok _, ⟨_, rfl⟩, q⟩
  | int i => obtain ⟨t, rfl⟩ := rx; exact P.repr_of_int (by simpa [PyData.showable] using hs) ⟨.str _, H, I.tok _, ⟨_, rfl⟩, q⟩
  | str y => obtain ⟨t, rfl⟩ := rx; exact P.repr_of_str ⟨.str _, H, I.tok _, ⟨_, rfl⟩, q⟩ hl
  | lst h1 h2 =>
    cases rx
    exact repr_of_reads' rd hs (PyData.noDict_hsm hnd) hg (by omega) (fun _ _ e => e) (fun h' u tk hk => ⟨.str _, H, I.kept hk, ⟨_, rfl⟩, q⟩) hl
  | tup h1 h2 =>
    cases rx
    exact repr_of_reads' rd hs (PyData.noDict_hsm hnd) hg (by omega) (fun _ _ e => e) (fun h' u tk hk => ⟨.str _, H, I.kept hk, ⟨_, rfl⟩, q⟩) hl
mutual
theorem pd_noDict : ∀ w : W, w.pd.hasDict = false
  | .non => by simp [W.pd, PyData.hasDict]
  | .bl _ => by simp [W.pd, PyData.hasDict]
  | .int _ => by simp [W.pd, PyData.hasDict]
  | .str _ => by simp [W.pd, PyData.hasDict]
  | .tup l => by simp only [W.pd, PyData.hasDict]; exact pdL_noDict l
  | .lst l => by simp only [W.pd, PyData.hasDict]; exact pdL_noDict l
  | .ro _ => by simp [W.pd, PyData.hasDict]
  | .loc _ => by simp [W.pd, PyData.hasDict]
  | .exc _ _ => by simp [W.pd, PyData.hasDict]
theorem pdL_noDict : ∀ l : List W, PyData.hasDictAll (pdL l) = false
  | [] => by simp [pdL, PyData.hasDictAll]
  | w :: r => by simp [pdL, PyData.hasDictAll, pd_noDict w, pdL_noDict r]
end
theorem data_noDict {S : Store} {w : W} {d : PyData} (e : dataOf S w = some d) : d.hasDict = false := by
  cases w with
  | loc n =>
    simp only [dataOf] at e
    split at e
    · split at e
      · cases e; simp only [PyData.hasDict]; exact pdL_noDict _
      · cases e
    · cases e
  | _ =>
    simp only [dataOf] at e
    split at e
    · cases e; exact pd_noDict _
    · cases e

include hK in
theorem blt_rule (hc : X.calm = true) (hg : X.A.guards = some []) (hu : X.A.units + 200 < cLine) (f : Blt) : CallR X f.val (rBlt G f) := by
  intro pins s σ H xs us Q I r h
  obtain ⟨am, S, ws, E, rl, hxs, h⟩ := h
  unfold bltW at h
  split at h
  · -- len of a text
    rename_i z
    obtain ⟨x, rfl, hx⟩ := hxs.one
    cases hx
    obtain ⟨hl, h⟩ := h.need
    exact call_len_str pins s σ H _ us Q I r ⟨z, rfl, hl, h am H (Ext.refl _ _) rl _ (.int _)⟩
  · -- len
    rename_i w _
    obtain ⟨x, rfl, hx⟩ := hxs.one
    split at h
    · rename_i kvs e
      obtain ⟨p, n, vs, rfl, rfl, h1, h2, h3, h4⟩ := rl.getD hx e
      obtain ⟨u, rfl, ru⟩ := vals1 r
      obtain rfl : u = Value.ref p := ru
      refine d_len I (.inl h3) fun t s' I' => ⟨.int vs.length, H, I', ⟨_, rfl⟩, ?_⟩
      rw [h4.length]
      exact h am H (Ext.refl _ _) rl _ (.int _)
    · obtain ⟨l, e, q⟩ := h.bind.lift
      obtain ⟨p, vs, rfl, h1, h2⟩ := rl.getRd hx e
      refine call_len_seq pins s σ H _ us Q I r ⟨p, vs, rfl, hK ▸ h1, ?_⟩
      rw [h2.length]
      exact q am H (Ext.refl _ _) rl am H (Ext.refl _ _) rl _ (.int _)
  · obtain ⟨x, rfl, hx⟩ := hxs.one
    cases hx
    exact call_int1 pins s σ H _ us Q I r (.inl ⟨_, rfl, h am H (Ext.refl _ _) rl _ (.int _)⟩)
  · obtain ⟨x, rfl, hx⟩ := hxs.one
    cases hx
    exact call_int1 pins s σ H _ us Q I r (.inr ⟨_, rfl, h am H (Ext.refl _ _) rl _ (.int _)⟩)
  · -- tuple of a tuple
    obtain ⟨x, rfl, hx⟩ := hxs.one
    cases hx with
    | tup h1 h2 => exact call_tuple_of pins s σ H _ us Q I r ⟨_, _, rfl, .inr ⟨hK ▸ h1.sq, h am H (Ext.refl _ _) rl _ (.tup h1 h2)⟩⟩
  · -- tuple of a list
    obtain ⟨x, rfl, hx⟩ := hxs.one
    obtain ⟨l, e, q⟩ := h.bind.lift
    obtain ⟨p, vs, rfl, h1, h2⟩ := rl.getL hx e
    refine call_tuple_of pins s σ H _ us Q I r ⟨p, vs, rfl, .inl ⟨.inl (.inl h1), fun t ht => ?_⟩⟩
    exact q am H (Ext.refl _ _) rl am _ (Ext.new ht) (rl.new ht) _ (.tup (.inl ⟨upd_same, rl.fresh ht⟩) (h2.mono (Ext.new ht)))
  · -- list
    obtain ⟨x, rfl, hx⟩ := hxs.one
    obtain ⟨l, e, q⟩ := h.bind.lift
    obtain ⟨p, vs, rfl, h1, h2⟩ := rl.getRd hx e
    refine call_list_of pins s σ H _ us Q I r ⟨p, vs, rfl, hK ▸ h1, fun t ht => ?_⟩
    exact mkL_fin rl h2 (q am H (Ext.refl _ _) rl) ht
  · -- sum
    obtain ⟨x, rfl, hx⟩ := hxs.one
    obtain ⟨l, e, q⟩ := h.bind.lift
    obtain ⟨l', e1, e2⟩ := Option.bind_eq_some_iff.mp e
    obtain ⟨p, vs, rfl, h1, h2⟩ := rl.getL hx e1
    refine cr_sum hc pins s σ H _ us Q I r ⟨p, l, rfl, .inl (.inl (by rw [h1, h2.intsOf e2])), ?_⟩
    exact q am H (Ext.refl _ _) rl am H (Ext.refl _ _) rl _ (.int _)
  · -- any
    obtain ⟨x, rfl, hx⟩ := hxs.one
    obtain ⟨l, e, q⟩ := h.bind.lift
    obtain ⟨l', e1, e2⟩ := Option.bind_eq_some_iff.mp e
    obtain ⟨p, vs, rfl, h1, h2⟩ := rl.getL hx e1
    refine cr_any hc pins s σ H _ us Q I r ⟨p, l, rfl, .inl (.inl (by rw [h1, h2.boolsOf e2])), ?_⟩
    exact q am H (Ext.refl _ _) rl am H (Ext.refl _ _) rl _ (.bl _)
  · -- all
    obtain ⟨x, rfl, hx⟩ := hxs.one
    obtain ⟨l, e, q⟩ := h.bind.lift
    obtain ⟨l', e1, e2⟩ := Option.bind_eq_some_iff.mp e
    obtain ⟨p, vs, rfl, h1, h2⟩ := rl.getL hx e1
    refine cr_all hc pins s σ H _ us Q I r ⟨p, l, rfl, .inl (.inl (by rw [h1, h2.boolsOf e2])), ?_⟩
    exact q am H (Ext.refl _ _) rl am H (Ext.refl _ _) rl _ (.bl _)
  · -- max of a list
    obtain ⟨x, rfl, hx⟩ := hxs.one
    obtain ⟨l, e, q⟩ := h.bind.lift
    have q := q am H (Ext.refl _ _) rl
    obtain ⟨l', e1, e2⟩ := Option.bind_eq_some_iff.mp e
    obtain ⟨p, vs, rfl, h1, h2⟩ := rl.getL hx e1
    cases l with
    | nil => exact q.elim
    | cons y t =>
      refine cr_max hc pins s σ H _ us Q I r ⟨p, y :: t, rfl, .inl (.inl (by rw [h1, h2.intsOf e2])), Nat.succ_pos _, fun m hm hle => ?_⟩
      have e3 : m = maxI y t := Int.le_antisymm (by
        rcases List.mem_cons.mp hm with z | z
        · subst z; exact (maxI_ge t m).1
        · exact (maxI_ge t y).2 m z) (hle _ (maxI_mem t y))
      subst e3
      exact q am H (Ext.refl _ _) rl _ (.int _)
  · -- min of a list
    obtain ⟨x, rfl, hx⟩ := hxs.one
    obtain ⟨l, e, q⟩ := h.bind.lift
    have q := q am H (Ext.refl _ _) rl
    obtain ⟨l', e1, e2⟩ := Option.bind_eq_some_iff.mp e
    obtain ⟨p, vs, rfl, h1, h2⟩ := rl.getL hx e1
    cases l with
    | nil => exact q.elim
    | cons y t =>
      refine cr_min hc pins s σ H _ us Q I r ⟨p, y :: t, rfl, .inl (.inl (by rw [h1, h2.intsOf e2])), Nat.succ_pos _, fun m hm hle => ?_⟩
      have e3 : m = minI y t := Int.le_antisymm (hle _ (minI_mem t y)) (by
        rcases List.mem_cons.mp hm with z | z
        · subst z; exact (minI_le t m).1
        · exact (minI_le t y).2 m z)
      subst e3
      exact q am H (Ext.refl _ _) rl _ (.int _)
  · -- sorted
    obtain ⟨x, rfl, hx⟩ := hxs.one
    obtain ⟨l, e, q⟩ := h.bind.lift
    have q := q am H (Ext.refl _ _) rl
    obtain ⟨l', e1, e2⟩ := Option.bind_eq_some_iff.mp e
    obtain ⟨p, vs, rfl, h1, h2⟩ := rl.getL hx e1
    refine cr_sortedI pins s σ H _ us Q I r ⟨p, l, rfl, .inl (.inl (by rw [h1, h2.intsOf e2])), fun ns t hp hw ht => ?_⟩
    have e3 : ns = sortI l := sorted_one (hp.trans (sortI_perm l).symm) hw (sortI_pw l)
    subst e3
    exact mkL_fin rl (VRs.ints _) q ht
  · obtain ⟨x, y, rfl, hx, hy⟩ := hxs.two
    cases hx; cases hy
    exact call_max2 hc pins s σ H _ us Q I r ⟨_, _, rfl, h am H (Ext.refl _ _) rl _ (.int _)⟩
  · obtain ⟨x, y, rfl, hx, hy⟩ := hxs.two
    cases hx; cases hy
    exact call_min2 hc pins s σ H _ us Q I r ⟨_, _, rfl, h am H (Ext.refl _ _) rl _ (.int _)⟩
  · obtain ⟨x, rfl, hx⟩ := hxs.one
    cases hx
    exact call_abs pins s σ H _ us Q I r ⟨_, rfl, h am H (Ext.refl _ _) rl _ (.int _)⟩
  · obtain ⟨x, rfl, hx⟩ := hxs.one
    cases hx
    obtain ⟨hl, h⟩ := h.need
    obtain ⟨u, rfl, t, rfl⟩ := vals1 r
    exact P.repr_of_int hl ⟨.str _, H, I.tok _, ⟨_, rfl⟩, h am H (Ext.refl _ _) rl _ (.str _)⟩
  · obtain ⟨x, rfl, hx⟩ := hxs.one
    cases hx
    obtain ⟨u, rfl, ru⟩ := vals1 r
    cases ru
    refine P.repr_of_bool ⟨.str _, H, I.tok _, ⟨_, rfl⟩, ?_⟩
    have q := h am H (Ext.refl _ _) rl _ (.str _)
    rw [PyData.shown_bool] at q
    exact q
  · -- repr
    obtain ⟨x, rfl, hx⟩ := hxs.one
    obtain ⟨d, e, q⟩ := h.bind.lift
    obtain ⟨⟨h1, h2, h3⟩, q⟩ := (q am H (Ext.refl _ _) rl).need
    obtain ⟨u, rfl, ru⟩ := vals1 r
    exact repr_rule hK hg hu I ru (rl.data hx e) h1 h2 h3 (data_noDict e) (q am H (Ext.refl _ _) rl _ (.str _))
  · obtain ⟨x, rfl, hx⟩ := hxs.one
    cases hx
    obtain ⟨hl, h⟩ := h.need
    exact call_str_int pins s σ H _ us Q I r ⟨_, rfl, hl, h am H (Ext.refl _ _) rl _ (.str _)⟩
  · exact h.elim

/-! ### methods of lists -/
def rMth (G : Gx) (m : Mth) : V → List V → Hp → VK → Prop := fun x xs H Q => ∃ am S o ws E, Rel G.K am H S ∧ VR G.K am H x o ∧ VRs G.K am H xs ws ∧ Fin G E am H (mthW m o ws S) (OkV G Q)
theorem append_rule : MtM X "list.append" (rMth G .append) := by
  intro pins s σ H x xs v us Q I rx r h
  obtain ⟨am, S, o, ws, E, rl, hx, hs, h⟩ := h
  unfold mthW at h
  split at h <;> rename_i e0 <;> first | (cases e0; done) | skip
  · split at h
    · rename_i l e
      obtain ⟨hl, q⟩ := h.need
      obtain ⟨y, rfl, hy⟩ := hs.one
      cases hx with
      | loc ha =>
        obtain ⟨vs, h1, h2⟩ := rl.at_lst ha e
        refine mt_append pins s σ H _ _ v us Q I rx r ⟨_, vs, y, rfl, rfl, h1, by rw [h2.length]; exact hl, ?_⟩
        have ex := rl.ext (o := .lst (vs ++ [y])) ha
        exact q am _ ex (rl.put ha ⟨_, upd_same, (h2.append (.cons hy .nil)).mono ex⟩) _ .non
    · exact h.elim
  · exact h.elim
theorem pop_rule : MtM X "list.pop" (rMth G .pop) := by
  intro pins s σ H x xs v us Q I rx r h
  obtain ⟨am, S, o, ws, E, rl, hx, hs, h⟩ := h
  unfold mthW at h
  split at h <;> rename_i e0 <;> first | (cases e0; done) | skip
  · split at h
    · rename_i l e
      split at h
      · rename_i y ey
        cases hs
        cases hx with
        | loc ha =>
          obtain ⟨vs, h1, h2⟩ := rl.at_lst ha e
          obtain ⟨z, hz, rz⟩ := h2.get ey
          refine mt_pop pins s σ H _ _ v us Q I rx r ⟨_, vs, z, rfl, rfl, h1, by rw [h2.length]; exact hz, ?_⟩
          have ex := rl.ext (o := .lst vs.dropLast) ha
          exact h am _ ex (rl.put ha ⟨_, upd_same, h2.dropLast.mono ex⟩) _ (rz.mono ex)
      · exact h.elim
    · exact h.elim
  · exact h.elim
theorem extend_rule : MtM X "list.extend" (rMth G .extend) := by
  intro pins s σ H x xs v us Q I rx r h
  obtain ⟨am, S, o, ws, E, rl, hx, hs, h⟩ := h
  unfold mthW at h
  split at h <;> rename_i e0 <;> first | (cases e0; done) | skip
  · split at h
    · rename_i l r' e e2
      obtain ⟨hl, q⟩ := h.need
      obtain ⟨y, rfl, hy⟩ := hs.one
      obtain ⟨b, zs, rfl, hb, hz⟩ := rl.getL hy e2
      cases hx with
      | loc ha =>
        obtain ⟨vs, h1, h2⟩ := rl.at_lst ha e
        refine mt_extend pins s σ H _ _ v us Q I rx r ⟨_, b, vs, zs, rfl, rfl, h1, hb, by rw [h2.length, hz.length]; exact hl, ?_⟩
        have ex := rl.ext (o := .lst (vs ++ zs)) ha
        exact q am _ ex (rl.put ha ⟨_, upd_same, (h2.append hz).mono ex⟩) _ .non
    · exact h.elim
  · exact h.elim

/-! ### o[i] = v -/
def rSet (G : Gx) : TSet := fun o i v H Q => ∃ am S wo wi wv S', Rel G.K am H S ∧ VR G.K am H o wo ∧ VR G.K am H i wi ∧ VR G.K am H v wv ∧ setW S wo wi wv = some S' ∧ ∀ am' H', Ext am H am' H' → Rel G.K am' H' S' → Q H'
theorem ixN_len {n : Nat} {i : Int} {j : Nat} (h : ixN n i = some j) : j < n := (ixN_seq h).2.1
theorem set_rule (hu : X.A.units + 1 < cLine) : PSet X (rSet G) := by
  intro pins s σ H o i v ov iv u Q I ro ri rv h
  obtain ⟨am, S, wo, wi, wv, S', rl, ho, hi, hv, e, q⟩ := h
  cases ho with
  | loc ha =>
    rename_i a n
    simp only [setW] at e
    split at e
    · rename_i kvs e1
      split at e
      · rename_i k e2
        split at e
        · rename_i hl
          cases e
          obtain ⟨vs, h1, h2⟩ := rl.at_dct ha e1
          have g := DPut.k (k := k) (v := v) h1 (by rw [h2.length]; exact hl)
          rw [← toKey_kV hi e2] at g
          obtain rfl : ov = Value.ref a := ro
          refine d_setItem hu I g ri rv fun s' I' => ⟨_, I', ?_⟩
          have ex := rl.ext (o := .dK (putK vs k v)) ha
          exact q am _ ex (rl.put ha ⟨_, upd_same, (h2.put hv).mono ex⟩)
        · cases e
      · cases e
    · rename_i l e1
      split at e
      · rename_i k
        obtain ⟨j, e2, rfl⟩ := Option.map_eq_some_iff.mp e
        cases hi
        obtain ⟨vs, h1, h2⟩ := rl.at_lst ha e1
        refine set_list pins s σ H _ _ v ov iv u Q I ro ri rv ⟨a, vs, k, j, rfl, rfl, h1, by rw [h2.length]; exact e2, ?_⟩
        have ex := rl.ext (o := .lst (vs.set j v)) ha
        exact q am _ ex (rl.put ha ⟨_, upd_same, (h2.set hv j).mono ex⟩)
      · cases e
    · cases e
  | _ => simp [setW] at e
end
end PyI

/-! PyI, part 4: which syntax of the model a term of PyI stands for (a check by computation). Own work. -/
namespace PyI
open PySem L2

/-- the names of a text: defs with their numbers, constants, built-in names that are not bound anew -/
structure Tb where
  fn : List (Str × Nat)
  cs : List (Str × W)
  bl : List Str

def visC (sc : Scope) (x : Str) : Bool := match sc.names.lookup x with | some .local => true | some .cell => true | some .free => true | _ => false
def locC (sc : Scope) (x : Str) : Bool := match sc.names.lookup x with | some .local => true | some .cell => true | _ => false
def glC (sc : Scope) (x : Str) : Bool := match sc.names.lookup x with | some .globalImplicit => true | _ => false
def okN (x : Str) : Bool := !(x == ("__debug__" : Str)) && !(x == ("__classdict__" : Str)) && !(x == ("__name__" : Str))
theorem visC_of {sc : Scope} {x : Str} (h : visC sc x = true) : Vis sc x := by
  unfold visC at h
  split at h <;> first | exact .inl (by assumption) | exact .inr (.inl (by assumption)) | exact .inr (.inr (by assumption)) | cases h
theorem locC_of {sc : Scope} {x : Str} (h : locC sc x = true) : Loc sc x := by
  unfold locC at h
  split at h <;> first | exact .inl (by assumption) | exact .inr (by assumption) | cases h
theorem glC_of {sc : Scope} {x : Str} (h : glC sc x = true) : sc.names.lookup x = some .globalImplicit := by
  unfold glC at h
  split at h <;> first | assumption | cases h
theorem okN_of {x : Str} (h : okN x = true) : (x == ("__debug__" : Str)) = false ∧ (x == ("__classdict__" : Str)) = false ∧ x ≠ ("__name__" : Str) := by
  simp only [okN, Bool.and_eq_true, Bool.not_eq_true'] at h
  exact ⟨h.1.1, h.1.2, by have := h.2; simpa using this⟩

mutual
def wEq : W → W → Bool
  | .non, .non => true
  | .bl a, .bl b => a == b
  | .int a, .int b => decide (a = b)
  | .str a, .str b => decide (a = b)
  | .tup a, .tup b => wEqL a b
  | _, _ => false
def wEqL : List W → List W → Bool
  | [], [] => true
  | a :: r, b :: s => wEq a b && wEqL r s
  | _, _ => false
end
mutual
theorem wEq_eq : ∀ {a b : W}, wEq a b = true → a = b
  | .non, .non, _ => rfl
  | .bl a, .bl b, h => by simp [wEq] at h; rw [h]
  | .int a, .int b, h => by simp [wEq] at h; rw [h]
  | .str a, .str b, h => by simp [wEq] at h; rw [h]
  | .tup a, .tup b, h => by simp only [wEq] at h; rw [wEqL_eq h]
  | .non, .bl _, h | .non, .int _, h | .non, .str _, h | .non, .tup _, h | .non, .lst _, h | .non, .ro _, h | .non, .loc _, h | .non, .exc _ _, h => by simp [wEq] at h
  | .bl _, .non, h | .bl _, .int _, h | .bl _, .str _, h | .bl _, .tup _, h | .bl _, .lst _, h | .bl _, .ro _, h | .bl _, .loc _, h | .bl _, .exc _ _, h => by simp [wEq] at h
  | .int _, .non, h | .int _, .bl _, h | .int _, .str _, h | .int _, .tup _, h | .int _, .lst _, h | .int _, .ro _, h | .int _, .loc _, h | .int _, .exc _ _, h => by simp [wEq] at h
  | .str _, .non, h | .str _, .bl _, h | .str _, .int _, h | .str _, .tup _, h | .str _, .lst _, h | .str _, .ro _, h | .str _, .loc _, h | .str _, .exc _ _, h => by simp [wEq] at h
  | .tup _, .non, h | .tup _, .bl _, h | .tup _, .int _, h | .tup _, .str _, h | .tup _, .lst _, h | .tup _, .ro _, h | .tup _, .loc _, h | .tup _, .exc _ _, h => by simp [wEq] at h
  | .lst _, _, h | .ro _, _, h | .loc _, _, h | .exc _ _, _, h => by simp [wEq] at h
theorem wEqL_eq : ∀ {a b : List W}, wEqL a b = true → a = b
  | [], [], _ => rfl
  | a :: r, b :: s, h => by
    simp only [wEqL, Bool.and_eq_true] at h
    rw [wEq_eq h.1, wEqL_eq h.2]
  | [], _ :: _, h => by simp [wEqL] at h
  | _ :: _, [], h => by simp [wEqL] at h
end

/-- targets; sc0: the scope whose names are stored -/
def chkG (N : List Str) (sc0 : Scope) : Tg → Expr → Bool
  | .nm i, e => match e with | .Name x _ => decide (N[i]? = some x) && locC sc0 x | _ => false
  | .t2 a b, e => match e with | .Tuple [x, y] _ _ => chkG N sc0 a x && chkG N sc0 b y | _ => false
  | .t3 a b c, e => match e with | .Tuple [x, y, z] _ _ => chkG N sc0 a x && chkG N sc0 b y && chkG N sc0 c z | _ => false

def Blt.name (f : Blt) : Str := Str.ofString f.py
def COp.is (o : COp) (p : CmpOp) : Bool := decide (o.py = p)
def isRecv : Expr → Bool | .Name _ _ => true | .Attribute _ _ _ => true | .Subscript _ _ _ => true | _ => false
def Mth.name : Mth → Str
  | .append => "append" | .pop => "pop" | .extend => "extend" | .get2 => "get"
def Mth.arity : Mth → Nat
  | .append => 1 | .pop => 0 | .extend => 1 | .get2 => 2
def ownOf (N : List Str) (g : Tg) : List (Str × Nat) := g.ix.map fun i => (N.getD i (Str.ofString ""), i)
def keysC : List Str → List (Option Expr) → Bool
  | [], [] => true
  | k :: ks, o :: os => (match o with | some (.Constant (.str x) _ _) => decide (x = k) | _ => false) && keysC ks os
  | _, _ => false

def T.isNon : T → Bool | .cnon => true | _ => false
def T.isTrue : T → Bool | .cbl true => true | _ => false
mutual
def chkT (tb : Tb) (N : List Str) : T → Scope → Expr → Bool
  | .var i, sc, e => match e with | .Name x _ => decide (N[i]? = some x) && visC sc x && okN x | _ => false
  | .cint i, _, e => match e with | .Constant (.int j) _ _ => decide (i = j) | _ => false
  | .cbl b, _, e => match e with | .Constant (.bool j) _ _ => b == j | _ => false
  | .cnon, _, e => match e with | .Constant .none _ _ => true | _ => false
  | .cstr s, _, e => match e with | .Constant (.str j) _ _ => decide (s = j) | _ => false
  | .gl w, sc, e => match e with | .Name x _ => glC sc x && okN x && (match tb.cs.lookup x with | some u => wEq u w | none => false) | _ => false
  | .tup es, sc, e => match e with | .Tuple l _ _ => chkL tb N es sc l | _ => false
  | .lst _ es, sc, e => match e with | .List l _ => chkL tb N es sc l | _ => false
  | .dct ks es, sc, e => match e with | .Dict kl l _ => keysC ks kl && chkL tb N es sc l && decide (kl.length = l.length) && decide (kl.length ≤ 15) | _ => false
  | .bin op a b, sc, e => match e with | .BinOp x o y _ => decide (op.py = o) && chkT tb N a sc x && chkT tb N b sc y | _ => false
  | .neg a, sc, e => match e with | .UnaryOp .USub x _ => chkT tb N a sc x | _ => false
  | .cmp op a b, sc, e => match e with | .Compare x [o] [y] _ => decide (op.py = o) && chkT tb N a sc x && chkT tb N b sc y | _ => false
  | .chain o p a b c, sc, e => match e with | .Compare x [o', p'] [y, z] _ => decide (o.py = o') && decide (p.py = p') && chkT tb N a sc x && chkT tb N b sc y && chkT tb N c sc z | _ => false
  | .not a, sc, e => match e with | .UnaryOp .Not x _ => chkT tb N a sc x | _ => false
  | .and es, sc, e => match e with | .BoolOp .And (x :: y :: l) _ => chkL tb N es sc (x :: y :: l) | _ => false
  | .or es, sc, e => match e with | .BoolOp .Or (x :: y :: l) _ => chkL tb N es sc (x :: y :: l) | _ => false
  | .ite c a b, sc, e => match e with | .IfExp z x y _ => chkT tb N c sc z && chkT tb N a sc x && chkT tb N b sc y | _ => false
  | .idx a b, sc, e => match e with | .Subscript x y _ => chkT tb N a sc x && chkT tb N b sc y | _ => false
  | .slice a lo hi, sc, e => match e with | .Subscript x (.Slice l h none _) _ => chkT tb N a sc x && (match l with | none => lo.isNon | some y => chkT tb N lo sc y) && (match h with | none => hi.isNon | some y => chkT tb N hi sc y) | _ => false
  | .call f es, sc, e => match e with | .Call (.Name x _) l [] _ => glC sc x && okN x && decide (tb.fn.lookup x = some f) && chkL tb N es sc l | _ => false
  | .blt f es, sc, e => match e with | .Call (.Name x _) (y :: l) [] _ => glC sc x && decide (x = f.name) && decide (x ∈ tb.bl) && chkL tb N es sc (y :: l) | _ => false
  | .mth m o es, sc, e => match e with | .Call (.Attribute x n ap) l [] cp => decide (n = m.name) && isRecv x && (ap.endLine == cp.line) && decide (l.length = m.arity) && chkT tb N o sc x && chkL tb N es sc l | _ => false
  | .lc _ g it c t, sc, e => match e with
    | .ListComp elt [⟨tg, iter, ifs, k⟩] scope _ => decide (k = 0) && chkI tb N it sc tg iter && chkG N scope g tg && blkC N sc scope (ownOf N g) && (match ifs with | [] => c.isTrue | [y] => chkT tb N c (relS scope sc) y | _ => false) && chkT tb N t (relS scope sc) elt
    | _ => false
def chkL (tb : Tb) (N : List Str) : TL → Scope → List Expr → Bool
  | .nil, _, l => match l with | [] => true | _ => false
  | .cons a r, sc, l => match l with | x :: s => chkT tb N a sc x && chkL tb N r sc s | _ => false
def chkI (tb : Tb) (N : List Str) : TI → Scope → Expr → Expr → Bool
  | .seq t, sc, _, e => chkT tb N t sc e
  | .rng a, sc, _, e => match e with | .Call (.Name x _) [y] [] _ => glC sc x && decide (x = Str.ofString "range") && decide (x ∈ tb.bl) && chkT tb N a sc y | _ => false
  | .rng2 a b, sc, _, e => match e with | .Call (.Name x _) [y, z] [] _ => glC sc x && decide (x = Str.ofString "range") && decide (x ∈ tb.bl) && chkT tb N a sc y && chkT tb N b sc z | _ => false
  | .zip a b, sc, tg, e => match tg, e with | .Tuple _ _ _, .Call (.Name x _) [y, z] [] _ => glC sc x && decide (x = Str.ofString "zip") && decide (x ∈ tb.bl) && chkT tb N a sc y && chkT tb N b sc z | _, _ => false
  | .enum a, sc, tg, e => match tg, e with | .Tuple _ _ _, .Call (.Name x _) [y] [] _ => glC sc x && decide (x = Str.ofString "enumerate") && decide (x ∈ tb.bl) && chkT tb N a sc y | _, _ => false
end
def isTupX : Expr → Bool | .Tuple _ _ _ => true | _ => false
/-- a name to be stored side by side with others: a plain local one, on line l -/
def swN (N : List Str) (sc : Scope) (l : Nat) (i : Nat) (e : Expr) : Bool := match e with | .Name x p => decide (N[i]? = some x) && (sc.names.lookup x == some .local) && (p.line == l) | _ => false
def isFunK (sc : Scope) : Bool := match sc.kind with | .function => true | _ => false
def BOp.isAS : BOp → Bool | .add => true | .sub => true | _ => false
def compX : Expr → Bool | .ListComp _ _ _ _ => true | .SetComp _ _ _ _ => true | .DictComp _ _ _ _ _ => true | _ => false
mutual
def chkS (tb : Tb) (N : List Str) : TS → Scope → Stmt → Bool
  | .asg g e, sc, s => match s with | .Assign [tg] v _ => chkG N sc g tg && chkT tb N e sc v && !(isTupX tg && isTupX v) | _ => false
  | .par i j a b, sc, s => match s with | .Assign [.Tuple [x, y] _ _] (.Tuple [u, v] _ _) _ => isFunK sc && swN N sc x.pos.line i x && swN N sc x.pos.line j y && !(i == j) && !([u, v].all (foldedForSure 8)) && !([u, v].all (constantsAlone 8)) && chkT tb N a sc u && chkT tb N b sc v | _ => false
  | .par3 i j l a b c, sc, s => match s with | .Assign [.Tuple [x, y, z] _ _] (.Tuple [u, v, w] _ _) _ => isFunK sc && swN N sc x.pos.line i x && swN N sc x.pos.line j y && swN N sc x.pos.line l z && !(i == j) && !(i == l) && !(j == l) && !([u, v, w].all (foldedForSure 8)) && !([u, v, w].all (constantsAlone 8)) && chkT tb N a sc u && chkT tb N b sc v && chkT tb N c sc w | _ => false
  | .seti o i e, sc, s => match s with | .Assign [.Subscript x y _] v _ => chkT tb N e sc v && chkT tb N o sc x && chkT tb N i sc y && !(compX v) | _ => false
  | .aug i op e, sc, s => match s with | .AugAssign (.Name x _) o v _ => decide (N[i]? = some x) && locC sc x && decide (op.py = o) && chkT tb N e sc v && op.isAS | _ => false
  | .expr e, sc, s => match s with | .Expr v _ => chkT tb N e sc v && !(compX v) | _ => false
  | .ife c a b, sc, s => match s with | .If u x y _ => chkT tb N c sc u && chkSs tb N a sc x && chkSs tb N b sc y | _ => false
  | .for g it b, sc, s => match s with | .For tg iter x [] _ => chkI tb N it sc tg iter && chkG N sc g tg && chkSs tb N b sc x | _ => false
  | .whl c b, sc, s => match s with | .While u x [] _ => chkT tb N c sc u && chkSs tb N b sc x | _ => false
  | .ret e, sc, s => match s with | .Return (some v) _ => chkT tb N e sc v | _ => false
  | .ret0, _, s => match s with | .Return none _ => true | _ => false
  | .pass, _, s => match s with | .Pass _ => true | .Expr (.Constant (.str _) _ _) _ => true | _ => false
  | .cont, _, s => match s with | .Continue _ => true | _ => false
  | .brk, _, s => match s with | .Break _ => true | _ => false
def chkSs (tb : Tb) (N : List Str) : TSL → Scope → List Stmt → Bool
  | .nil, _, l => match l with | [] => true | _ => false
  | .cons a r, sc, l => match l with | x :: s => chkS tb N a sc x && chkSs tb N r sc s | _ => false
end
end PyI

/-! PyI, part 5: the meaning of a checked term is what the model does. Own work. -/
namespace PyI
open PySem PySem.Spec PyProof.Rows L2

/-- what a call of def n asks and promises -/
def spI (G : Gx) (C : Calls) (n : Nat) : Sp := fun vs H Q E => ∃ am S ws, Rel G.K am H S ∧ VRs G.K am H vs ws ∧ Fin G E am H (C n ws S) (OkV G Q)
/-- a def's promise, where nothing is being shown (A.guards = some []) -/
structure FnG (G : Gx) (P : Program) (w : World) (mg : Str → Option Value) (base : Heap) (C : Calls) (k : Nat) (x : Str) (n : Nat) : Prop where
  ex : ∃ (f : Addr) (fd : FuncData) (ps : List Str), mg x = some (.ref f) ∧ PySem.W.keepIn G.K (.ref f) = true ∧ Binds G.K fd ps [] ∧
    (∀ vs H Q E, spI G C n vs H Q E → vs.length = ps.length) ∧
    ∀ (A : Around) (outer : List Env) (s : Shared) (H : Hp) (args : Args) (us : List Value) (vs : List V) (Q : VK) (E : XK), Room k A → A.guards = some [] → Env0 P w G.K mg base A outer s H → BindsTo s fd args (ps.zip us) → Vals vs us → spI G C n vs H Q E →
      codeAny (model P w) A (.call (.ref f) args) (CR (L2.CX P w) outer P w H s Q E) s

/-- where a term stands -/
structure Cn (tb : Tb) (G : Gx) (C : Calls) (k : Nat) (X : Cx) (Wx : WX) : Prop where
  hK : X.K = G.K
  calm : X.calm = true
  nd : X.N.Nodup
  room : Room k X.A
  guards : X.A.guards = some []
  fns : ∀ x n, tb.fn.lookup x = some n → FnG G X.prog X.w X.mg X.base C k x n
  cst : ∀ x w, tb.cs.lookup x = some w → ∃ u v, X.mg x = some u ∧ RelV v u ∧ ∀ am H, VR G.K am H v w
  blt : ∀ x, x ∈ tb.bl → X.mg x = none
  take : Takes X Wx

section
variable {tb : Tb} {G : Gx} {C : Calls} {k : Nat} {X : Cx} {Wx : WX}
theorem Cn.u200 (c : Cn tb G C k X Wx) : X.A.units + 200 < cLine := by have := c.room.un; omega
theorem Cn.u64 (c : Cn tb G C k X Wx) : X.A.units + 64 < cLine := by have := c.room.un; omega
theorem Cn.u1 (c : Cn tb G C k X Wx) : X.A.units + 1 < cLine := by have := c.room.un; omega

/-! ### the readings -/
abbrev Ev (G : Gx) (Wx : WX) (σ : L2.St) : Value → Option Addr → Hp → Prop := fun cls d H => Wx cls d σ H
/-- from a state of the interpreter, a result r -/
structure At (G : Gx) (am : AM) (S : Store) (τ : Slots) (σ : L2.St) (H : Hp) : Prop where
  rel : Rel G.K am H S
  sl : SR G.K am H σ τ
theorem At.next {am am' : AM} {S S' : Store} {τ : Slots} {σ : L2.St} {H H' : Hp} (z : At G am S τ σ H) (e : Ext am H am' H') (r : Rel G.K am' H' S') : At G am' S' τ σ H' := ⟨r, z.sl.mono e⟩
def rdT (G : Gx) (C : Calls) (Wx : WX) (t : T) : TE := fun σ H Q => ∃ am S τ, At G am S τ σ H ∧ Fin G (Ev G Wx σ) am H (ev C t τ S) (OkV G Q)
def rdL (G : Gx) (C : Calls) (Wx : WX) (t : TL) : TA := fun σ H Q => ∃ am S τ, At G am S τ σ H ∧ Fin G (Ev G Wx σ) am H (evL C t τ S) (OkVs G Q)
/-- as a test -/
noncomputable def evB (C : Calls) (t : T) (τ : Slots) (S : Store) : R Bool := (ev C t τ S).bind fun x S => lift S (truth S x)
def rdB (G : Gx) (C : Calls) (Wx : WX) (t : T) : TT := fun σ H Q => ∃ am S τ, At G am S τ σ H ∧ Fin G (Ev G Wx σ) am H (evB C t τ S) (fun b _ _ H => Q b H)

theorem PE.weak {e : Expr} {t t' : TE} (h : PE X e t) (i : ∀ σ H Q, t' σ H Q → t σ H Q) : PE X e t' := ⟨fun pins s σ H Q I q => h.run pins s σ H Q I (i _ _ _ q)⟩
theorem PT.weak {e : Expr} {t t' : TT} (h : PT X e t) (i : ∀ σ H Q, t' σ H Q → t σ H Q) : PT X e t' := ⟨fun pins s σ H Q I q => h.run pins s σ H Q I (i _ _ _ q)⟩
theorem PW.weak {e : Expr} {t t' : TT} (h : PW X e t) (i : ∀ σ H Q, t' σ H Q → t σ H Q) : PW X e t' := ⟨fun w pins s σ H Q I q => h.run w pins s σ H Q I (i _ _ _ q)⟩
theorem PA.weak {e : List Expr} {t t' : TA} (h : PA X e t) (i : ∀ σ H Q, t' σ H Q → t σ H Q) : PA X e t' := ⟨fun p pins s σ H Q I q => h.run p pins s σ H Q I (i _ _ _ q)⟩

/-! ### what kind of syntax a checked term is -/
/-- no starred, no slice, no set display -/
def plainX : Expr → Bool
  | .Starred _ _ => false | .Slice _ _ _ _ => false | .Set _ _ _ => false | .NamedExpr _ _ _ => false | .SetComp _ _ _ _ => false | .DictComp _ _ _ _ _ => false
  | _ => true
theorem chk_plain {N : List Str} {sc : Scope} {t : T} {e : Expr} (h : chkT tb N t sc e = true) : plainX e = true := by
  cases e <;> first | rfl | (cases t <;> simp [chkT] at h)
theorem star_plain {e : Expr} {es : List Expr} {env : PySem.Env} (h : plainX e = true) : starEach (e :: es) env = (false, eval e env) :: starEach es env := by
  cases e <;> first | rfl | cases h
theorem ix_plain {e : Expr} (h : plainX e = true) : PlainIx e := by
  intro o i
  cases e <;> first | rfl | cases h
theorem in_plain {e : Expr} {op : CmpOp} (h : plainX e = true) : behindInMarks op e = false := by
  cases e <;> first | rfl | cases h
theorem fold_plain {e : Expr} {env : PySem.Env} (h : plainX e = true) : ∀ x, foldedSetIterable e env x = pure x := by
  intro x
  cases e <;> first | rfl | cases h
theorem base_recv {e : Expr} {m : Str} {env : PySem.Env} (h : isRecv e = true) : attributeBase e m env (eval e env) = eval e env := by
  cases e <;> first | rfl | cases h
theorem chkL_plain {N : List Str} {sc : Scope} : ∀ {ts : TL} {l : List Expr}, chkL tb N ts sc l = true → ∀ e ∈ l, plainX e = true
  | .nil, [], _ => fun _ h => by cases h
  | .nil, _ :: _, h => by simp [chkL] at h
  | .cons a r, [], h => by simp [chkL] at h
  | .cons a r, x :: s, h => by
    simp only [chkL, Bool.and_eq_true] at h
    intro e he
    rcases List.mem_cons.mp he with z | z
    · subst z; exact chk_plain h.1
    · exact chkL_plain h.2 e z
theorem noStar_any {l : List Expr} {env : PySem.Env} {pos : Pos} (h : ∀ e ∈ l, plainX e = true) : (backTo pos (starEach l env)).any (·.1) = false := by
  induction l with
  | nil => rfl
  | cons e es ih =>
    rw [star_plain (h e List.mem_cons_self)]
    show (false || _) = false
    rw [Bool.false_or]
    exact ih fun x hx => h x (List.mem_cons_of_mem _ hx)
theorem noStar_all {l : List Expr} {env : PySem.Env} {pos : Pos} (h : ∀ e ∈ l, plainX e = true) : (backTo pos (starEach l env)).all (fun x => !x.1) = true := by
  induction l with
  | nil => rfl
  | cons e es ih =>
    rw [star_plain (h e List.mem_cons_self)]
    show (true && _) = true
    rw [Bool.true_and]
    exact ih fun x hx => h x (List.mem_cons_of_mem _ hx)

/-! ### leaves -/
theorem s_var (c : Cn tb G C k X Wx) {i : Nat} {e : Expr} (h : chkT tb X.N (.var i) X.env.scope e = true) : PE X e (rdT G C Wx (.var i)) := by
  unfold chkT at h
  split at h <;> first | cases h; done | skip
  simp only [Bool.and_eq_true, decide_eq_true_eq] at h
  obtain ⟨⟨hn, hv⟩, ho⟩ := h
  refine PE.weak (pe_var hn (visC_of hv) (okN_of ho).1 (okN_of ho).2.1) fun σ H Q q => ?_
  obtain ⟨am, S, τ, z, q⟩ := q
  simp only [ev] at q
  split at q
  · rename_i w e
    obtain ⟨v, h1, h2⟩ := z.sl.at_ i w e
    exact ⟨v, h1, q am H (Ext.refl _ _) z.rel v h2⟩
  · exact q.elim
theorem fin_ok {E : Value → Option Addr → Hp → Prop} {am : AM} {H : Hp} {w : W} {S : Store} {Q : VK} (h : Fin G E am H (R.ok w S) (OkV G Q)) (r : Rel G.K am H S) {v : V} (hv : VR G.K am H v w) : Q v H := h am H (Ext.refl _ _) r v hv
theorem s_cint {i : Int} {sc : Scope} {e : Expr} (h : chkT tb X.N (.cint i) sc e = true) : PE X e (rdT G C Wx (.cint i)) := by
  unfold chkT at h
  split at h <;> first | cases h; done | skip
  simp only [decide_eq_true_eq] at h
  subst h
  refine PE.weak pe_int fun σ H Q q => ?_
  obtain ⟨am, S, τ, z, q⟩ := q
  exact fin_ok q z.rel (.int _)
theorem s_cbl {i : Bool} {sc : Scope} {e : Expr} (h : chkT tb X.N (.cbl i) sc e = true) : PE X e (rdT G C Wx (.cbl i)) := by
  unfold chkT at h
  split at h <;> first | cases h; done | skip
  have h := eq_of_beq h
  subst h
  refine PE.weak pe_bl fun σ H Q q => ?_
  obtain ⟨am, S, τ, z, q⟩ := q
  exact fin_ok q z.rel (.bl _)
theorem s_cnon {sc : Scope} {e : Expr} (h : chkT tb X.N .cnon sc e = true) : PE X e (rdT G C Wx .cnon) := by
  unfold chkT at h
  split at h <;> first | cases h; done | skip
  refine PE.weak pe_non fun σ H Q q => ?_
  obtain ⟨am, S, τ, z, q⟩ := q
  exact fin_ok q z.rel .non
theorem s_cstr {i : Str} {sc : Scope} {e : Expr} (h : chkT tb X.N (.cstr i) sc e = true) : PE X e (rdT G C Wx (.cstr i)) := by
  unfold chkT at h
  split at h <;> first | cases h; done | skip
  simp only [decide_eq_true_eq] at h
  subst h
  refine PE.weak pe_str fun σ H Q q => ?_
  obtain ⟨am, S, τ, z, q⟩ := q
  exact fin_ok q z.rel (.str _)
theorem s_gl (c : Cn tb G C k X Wx) {w : W} {e : Expr} (h : chkT tb X.N (.gl w) X.env.scope e = true) : PE X e (rdT G C Wx (.gl w)) := by
  unfold chkT at h
  split at h <;> first | cases h; done | skip
  simp only [Bool.and_eq_true] at h
  obtain ⟨⟨hg, ho⟩, h⟩ := h
  split at h
  · rename_i u e
    have := wEq_eq h
    subst this
    obtain ⟨uu, v, h1, h2, h3⟩ := c.cst _ _ e
    refine PE.weak (pe_glob (glC_of hg) h1 h2 (okN_of ho).1) fun σ H Q q => ?_
    obtain ⟨am, S, τ, z, q⟩ := q
    exact fin_ok q z.rel (h3 am H)
  · cases h

/-! ### lists of arguments -/
theorem s_nil {sc : Scope} {l : List Expr} (h : chkL tb X.N .nil sc l = true) : PA X l (rdL G C Wx .nil) := by
  cases l with
  | nil => exact PA.weak pa_nil fun σ H Q ⟨am, S, τ, z, q⟩ => q am H (Ext.refl _ _) z.rel [] .nil
  | cons x s => simp [chkL] at h
theorem s_cons {a : T} {r : TL} {x : Expr} {s : List Expr} (hp : plainX x = true) (ha : PE X x (rdT G C Wx a)) (hr : PA X s (rdL G C Wx r)) : PA X (x :: s) (rdL G C Wx (.cons a r)) := by
  refine PA.weak (pa_cons ha hr (star_plain hp)) fun σ H Q ⟨am, S, τ, z, q⟩ => ⟨am, S, τ, z, ?_⟩
  simp only [evL] at q
  refine q.bind.imp fun w S1 am1 H1 e1 r1 q1 v hv => ⟨am1, S1, τ, z.next e1 r1, ?_⟩
  refine q1.bind.imp fun ws S2 am2 H2 e2 r2 q2 vs hvs => ?_
  exact q2 am2 H2 (Ext.refl _ _) r2 (v :: vs) (.cons (hv.mono e2) hvs)

/-! ### displays -/
theorem s_tup {es : TL} {l : List Expr} {j : Nat} {pos : Pos} (h : PA X l (rdL G C Wx es)) : PE X (.Tuple l j pos) (rdT G C Wx (.tup es)) := by
  refine PE.weak (pe_tup h) fun σ H Q ⟨am, S, τ, z, q⟩ => ⟨am, S, τ, z, ?_⟩
  simp only [ev] at q
  refine q.bind.imp fun ws S1 am1 H1 e1 r1 q1 vs hvs => ?_
  obtain ⟨hl, q2⟩ := q1.need
  refine ⟨by rw [hvs.length]; exact hl, fun p hp => ?_⟩
  exact q2 am1 _ (Ext.new hp) (r1.new hp) _ (.tup (.inl ⟨upd_same, r1.fresh hp⟩) (hvs.mono (Ext.new hp)))
theorem s_lst {m : Bool} {es : TL} {l : List Expr} {pos : Pos} (h : PA X l (rdL G C Wx es)) : PE X (.List l pos) (rdT G C Wx (.lst m es)) := by
  refine PE.weak (pe_lst h) fun σ H Q ⟨am, S, τ, z, q⟩ => ⟨am, S, τ, z, ?_⟩
  simp only [ev] at q
  refine q.bind.imp fun ws S1 am1 H1 e1 r1 q1 vs hvs => ?_
  obtain ⟨hl, q2⟩ := q1.need
  exact ⟨by rw [hvs.length]; exact hl, fun p hp => mkL_fin r1 hvs q2 hp⟩

/-! ### operators -/
theorem s_bin (c : Cn tb G C k X Wx) {op : BOp} {a b : T} {x y : Expr} {pos : Pos} (ha : PE X x (rdT G C Wx a)) (hb : PE X y (rdT G C Wx b)) : PE X (.BinOp x op.py y pos) (rdT G C Wx (.bin op a b)) := by
  refine PE.weak (pe_op (bin_rule c.hK op) ha hb) fun σ H Q ⟨am, S, τ, z, q⟩ => ⟨am, S, τ, z, ?_⟩
  simp only [ev] at q
  refine q.bind.imp fun w S1 am1 H1 e1 r1 q1 v hv => ⟨am1, S1, τ, z.next e1 r1, ?_⟩
  refine q1.bind.imp fun u S2 am2 H2 e2 r2 q2 v2 hv2 => ?_
  exact ⟨am2, S2, w, u, _, r2, hv.mono e2, hv2, q2⟩
theorem s_neg {a : T} {x : Expr} {pos : Pos} (ha : PE X x (rdT G C Wx a)) : PE X (.UnaryOp .USub x pos) (rdT G C Wx (.neg a)) := by
  refine PE.weak (pe_un un_neg ha) fun σ H Q ⟨am, S, τ, z, q⟩ => ⟨am, S, τ, z, ?_⟩
  simp only [ev] at q
  refine q.bind.imp fun w S1 am1 H1 e1 r1 q1 v hv => ?_
  split at q1
  · cases hv
    exact ⟨_, rfl, fin_ok q1 r1 (.int _)⟩
  · exact q1.elim
theorem s_cmp (c : Cn tb G C k X Wx) {op : COp} {a b : T} {x y : Expr} {pos : Pos} (hp : plainX y = true) (ha : PE X x (rdT G C Wx a)) (hb : PE X y (rdT G C Wx b)) : PE X (.Compare x [op.py] [y] pos) (rdT G C Wx (.cmp op a b)) := by
  refine PE.weak (pe_cmpR (cmp_rule c.hK c.u64 op) ha hb (in_plain hp)) fun σ H Q ⟨am, S, τ, z, q⟩ => ⟨am, S, τ, z, ?_⟩
  simp only [ev] at q
  refine q.bind.imp fun w S1 am1 H1 e1 r1 q1 v hv => ⟨am1, S1, τ, z.next e1 r1, ?_⟩
  refine q1.bind.imp fun u S2 am2 H2 e2 r2 q2 v2 hv2 => ?_
  obtain ⟨b, e, q3⟩ := q2.bind.lift
  exact ⟨am2, S2, w, u, b, r2, hv.mono e2, hv2, e, fin_ok (q3 am2 H2 (Ext.refl _ _) r2) r2 (.bl _)⟩
/-- a comparison as a test -/
theorem t_cmp (c : Cn tb G C k X Wx) {op : COp} {a b : T} {x y : Expr} {pos : Pos} (hp : plainX y = true) (ha : PE X x (rdT G C Wx a)) (hb : PE X y (rdT G C Wx b)) : PT X (.Compare x [op.py] [y] pos) (rdB G C Wx (.cmp op a b)) := by
  refine PT.weak (pt_cmpR (cmp_rule c.hK c.u64 op) ha hb (in_plain hp)) fun σ H Q ⟨am, S, τ, z, q⟩ => ⟨am, S, τ, z, ?_⟩
  simp only [evB, ev] at q
  refine q.bind.bind.imp fun w S1 am1 H1 e1 r1 q1 v hv => ⟨am1, S1, τ, z.next e1 r1, ?_⟩
  refine q1.bind.imp fun u S2 am2 H2 e2 r2 q2 v2 hv2 => ?_
  obtain ⟨b, e, q3⟩ := q2.bind.lift
  have q4 : Fin G (Ev G Wx σ) am2 H2 (lift S2 (truth S2 (.bl b))) (fun b _ _ H => Q b H) := q3 am2 H2 (Ext.refl _ _) r2 am2 H2 (Ext.refl _ _) r2
  exact ⟨am2, S2, w, u, b, r2, hv.mono e2, hv2, e, b, rfl, q4 am2 H2 (Ext.refl _ _) r2⟩

/-! ### tests, and, or, not -/
theorem asB_truth {S : Store} {w : W} {b : Bool} (e : asB w = some b) : w = .bl b ∧ truth S w = some b := by
  cases w <;> simp [asB] at e
  subst e
  exact ⟨rfl, rfl⟩
theorem t_any (c : Cn tb G C k X Wx) {a : T} {x : Expr} (ha : PE X x (rdT G C Wx a)) (he : ∀ whole, isTrue x X.env whole = (do let v ← whole; standAt x.pos; holding [v] (truthy v))) : PT X x (rdB G C Wx a) := by
  refine PT.weak (pt_truth ha he) fun σ H Q ⟨am, S, τ, z, q⟩ => ⟨am, S, τ, z, ?_⟩
  refine q.bind.imp fun w S1 am1 H1 e1 r1 q1 v hv => ?_
  obtain ⟨b, e, q2⟩ := q1.lift
  exact ⟨b, truth_rule c.hK r1 hv e, q2 am1 H1 (Ext.refl _ _) r1⟩
theorem s_not {a : T} {x : Expr} {pos : Pos} (ha : PE X x (rdT G C Wx a)) : PE X (.UnaryOp .Not x pos) (rdT G C Wx (.not a)) := by
  refine PE.weak (pe_not ha) fun σ H Q ⟨am, S, τ, z, q⟩ => ⟨am, S, τ, z, ?_⟩
  simp only [ev] at q
  refine q.bind.imp fun w S1 am1 H1 e1 r1 q1 v hv => ?_
  obtain ⟨b, e, q2⟩ := q1.bind.lift
  obtain ⟨rfl, _⟩ := asB_truth (S := S1) e
  cases hv
  exact ⟨b, rfl, fin_ok (q2 am1 H1 (Ext.refl _ _) r1) r1 (.bl _)⟩
theorem t_not {a : T} {x : Expr} {pos : Pos} (ha : PT X x (rdB G C Wx a)) : PT X (.UnaryOp .Not x pos) (rdB G C Wx (.not a)) := by
  refine PT.weak (pt_not ha) fun σ H Q ⟨am, S, τ, z, q⟩ => ⟨am, S, τ, z, ?_⟩
  simp only [evB, ev] at q ⊢
  cases hr : ev C a τ S with
  | ok w S1 =>
    rw [hr] at q
    simp only [R.bind_ok] at q ⊢
    cases e : asB w with
    | none => rw [e] at q; exact q.elim
    | some b =>
      rw [e] at q
      obtain ⟨rfl, _⟩ := asB_truth (S := S1) e
      exact q
  | exc c p S1 => rw [hr] at q; exact q
  | stuck => rw [hr] at q; exact q.elim
end
end PyI

/-! PyI, part 6: and, or, chains, choices, subscripts, calls. Own work. -/
namespace PyI
open PySem PySem.Spec PyProof.Rows L2
section
variable {tb : Tb} {G : Gx} {C : Calls} {k : Nat} {X : Cx} {Wx : WX}

/-! ### and, or -/
def rdAnd (G : Gx) (C : Calls) (Wx : WX) (t : TL) : TE := fun σ H Q => ∃ am S τ, At G am S τ σ H ∧ Fin G (Ev G Wx σ) am H (evAnd C t τ S) (OkV G Q)
def rdOr (G : Gx) (C : Calls) (Wx : WX) (t : TL) : TE := fun σ H Q => ∃ am S τ, At G am S τ σ H ∧ Fin G (Ev G Wx σ) am H (evOr C t τ S) (OkV G Q)
noncomputable def evAndB (C : Calls) (t : TL) (τ : Slots) (S : Store) : R Bool := (evAnd C t τ S).bind fun x S => lift S (truth S x)
noncomputable def evOrB (C : Calls) (t : TL) (τ : Slots) (S : Store) : R Bool := (evOr C t τ S).bind fun x S => lift S (truth S x)
def rdAndB (G : Gx) (C : Calls) (Wx : WX) (t : TL) : TT := fun σ H Q => ∃ am S τ, At G am S τ σ H ∧ Fin G (Ev G Wx σ) am H (evAndB C t τ S) (fun b _ _ H => Q b H)
def rdOrB (G : Gx) (C : Calls) (Wx : WX) (t : TL) : TT := fun σ H Q => ∃ am S τ, At G am S τ σ H ∧ Fin G (Ev G Wx σ) am H (evOrB C t τ S) (fun b _ _ H => Q b H)

theorem and_one {a : T} {x : Expr} {pos : Pos} (ha : PE X x (rdT G C Wx a)) : PE X (.BoolOp .And [x] pos) (rdAnd G C Wx (.cons a .nil)) := by
  refine PE.weak (pe_one ha) fun σ H Q ⟨am, S, τ, z, q⟩ => ⟨am, S, τ, z, ?_⟩
  simp only [evAnd] at q
  refine q.bind.imp fun w S1 am1 H1 e1 r1 q1 v hv => ?_
  obtain ⟨b, e, q2⟩ := q1.bind.lift
  obtain ⟨rfl, _⟩ := asB_truth (S := S1) e
  exact fin_ok (q2 am1 H1 (Ext.refl _ _) r1) r1 hv
theorem or_one {a : T} {x : Expr} {pos : Pos} (ha : PE X x (rdT G C Wx a)) : PE X (.BoolOp .Or [x] pos) (rdOr G C Wx (.cons a .nil)) := by
  refine PE.weak (pe_one ha) fun σ H Q ⟨am, S, τ, z, q⟩ => ⟨am, S, τ, z, ?_⟩
  simp only [evOr] at q
  refine q.bind.imp fun w S1 am1 H1 e1 r1 q1 v hv => ?_
  obtain ⟨b, e, q2⟩ := q1.bind.lift
  obtain ⟨rfl, _⟩ := asB_truth (S := S1) e
  exact fin_ok (q2 am1 H1 (Ext.refl _ _) r1) r1 hv
theorem and_more {a b : T} {r : TL} {x y : Expr} {l : List Expr} {pos : Pos} (ha : PE X x (rdT G C Wx a)) (hr : PE X (.BoolOp .And (y :: l) pos) (rdAnd G C Wx (.cons b r))) : PE X (.BoolOp .And (x :: y :: l) pos) (rdAnd G C Wx (.cons a (.cons b r))) := by
  refine PE.weak (pe_and ha hr) fun σ H Q ⟨am, S, τ, z, q⟩ => ⟨am, S, τ, z, ?_⟩
  simp only [evAnd] at q
  refine q.bind.imp fun w S1 am1 H1 e1 r1 q1 v hv => ?_
  obtain ⟨t, e, q2⟩ := q1.bind.lift
  have q2 := q2 am1 H1 (Ext.refl _ _) r1
  obtain ⟨rfl, _⟩ := asB_truth (S := S1) e
  cases hv
  refine ⟨t, rfl, ?_⟩
  cases t with
  | true =>
    rw [if_pos rfl] at q2 ⊢
    exact ⟨am1, S1, τ, z.next e1 r1, q2⟩
  | false =>
    rw [if_neg Bool.false_ne_true] at q2 ⊢
    exact fin_ok q2 r1 (.bl _)
theorem or_more {a b : T} {r : TL} {x y : Expr} {l : List Expr} {pos : Pos} (ha : PE X x (rdT G C Wx a)) (hr : PE X (.BoolOp .Or (y :: l) pos) (rdOr G C Wx (.cons b r))) : PE X (.BoolOp .Or (x :: y :: l) pos) (rdOr G C Wx (.cons a (.cons b r))) := by
  refine PE.weak (pe_or ha hr) fun σ H Q ⟨am, S, τ, z, q⟩ => ⟨am, S, τ, z, ?_⟩
  simp only [evOr] at q
  refine q.bind.imp fun w S1 am1 H1 e1 r1 q1 v hv => ?_
  obtain ⟨t, e, q2⟩ := q1.bind.lift
  have q2 := q2 am1 H1 (Ext.refl _ _) r1
  obtain ⟨rfl, _⟩ := asB_truth (S := S1) e
  cases hv
  refine ⟨t, rfl, ?_⟩
  cases t with
  | true =>
    rw [if_pos rfl] at q2 ⊢
    exact fin_ok q2 r1 (.bl _)
  | false =>
    rw [if_neg Bool.false_ne_true] at q2 ⊢
    exact ⟨am1, S1, τ, z.next e1 r1, q2⟩
theorem andB_one {a : T} {x : Expr} {pos : Pos} (ha : PT X x (rdB G C Wx a)) : PW X (.BoolOp .And [x] pos) (rdAndB G C Wx (.cons a .nil)) := by
  refine PW.weak (pw_and1 ha) fun σ H Q ⟨am, S, τ, z, q⟩ => ⟨am, S, τ, z, ?_⟩
  simp only [evAndB, evAnd, evB] at q ⊢
  cases hr : ev C a τ S with
  | ok w S1 =>
    rw [hr] at q
    simp only [R.bind_ok] at q ⊢
    cases e : asB w with
    | none => rw [e] at q; exact q.elim
    | some b =>
      rw [e] at q
      obtain ⟨rfl, _⟩ := asB_truth (S := S1) e
      exact q
  | exc c p S1 => rw [hr] at q; exact q
  | stuck => rw [hr] at q; exact q.elim
theorem orB_one {a : T} {x : Expr} {pos : Pos} (ha : PT X x (rdB G C Wx a)) : PW X (.BoolOp .Or [x] pos) (rdOrB G C Wx (.cons a .nil)) := by
  refine PW.weak (pw_or1 ha) fun σ H Q ⟨am, S, τ, z, q⟩ => ⟨am, S, τ, z, ?_⟩
  simp only [evOrB, evOr, evB] at q ⊢
  cases hr : ev C a τ S with
  | ok w S1 =>
    rw [hr] at q
    simp only [R.bind_ok] at q ⊢
    cases e : asB w with
    | none => rw [e] at q; exact q.elim
    | some b =>
      rw [e] at q
      obtain ⟨rfl, _⟩ := asB_truth (S := S1) e
      exact q
  | exc c p S1 => rw [hr] at q; exact q
  | stuck => rw [hr] at q; exact q.elim
/-- a first operand as a test -/
theorem fin_first {α : Type} {E : Value → Option Addr → Hp → Prop} {am : AM} {H : Hp} {S : Store} {τ : Slots} {a : T} {f : Bool → Store → R α} {ok : α → Store → AM → Hp → Prop}
    (q : Fin G E am H ((ev C a τ S).bind fun x S => (lift S (asB x)).bind f) ok) : Fin G E am H (evB C a τ S) (fun t S1 am1 H1 => Fin G E am1 H1 (f t S1) ok) := by
  unfold evB
  cases hr : ev C a τ S with
  | ok w S1 =>
    rw [hr] at q
    simp only [R.bind_ok] at q ⊢
    cases e : asB w with
    | none => rw [e] at q; exact q.elim
    | some b =>
      rw [e] at q
      obtain ⟨rfl, _⟩ := asB_truth (S := S1) e
      exact fun am' H' ex r => Fin.base ex q
  | exc c p S1 => rw [hr] at q; exact q
  | stuck => rw [hr] at q; exact q.elim
theorem R.bind_assoc {α β γ : Type} (r : R α) (f : α → Store → R β) (g : β → Store → R γ) : (r.bind f).bind g = r.bind fun a S => (f a S).bind g := by cases r <;> rfl
theorem andB_more {a b : T} {r : TL} {x y : Expr} {l : List Expr} {pos : Pos} (ha : PT X x (rdB G C Wx a)) (hr : PW X (.BoolOp .And (y :: l) pos) (rdAndB G C Wx (.cons b r))) : PW X (.BoolOp .And (x :: y :: l) pos) (rdAndB G C Wx (.cons a (.cons b r))) := by
  refine PW.weak (pw_and ha hr) fun σ H Q ⟨am, S, τ, z, q⟩ => ⟨am, S, τ, z, ?_⟩
  unfold evAndB at q
  simp only [evAnd, R.bind_assoc] at q
  refine (fin_first q).imp fun t S1 am1 H1 e1 r1 q1 => ?_
  cases t with
  | true => exact ⟨am1, S1, τ, z.next e1 r1, q1⟩
  | false => exact q1 am1 H1 (Ext.refl _ _) r1
theorem orB_more {a b : T} {r : TL} {x y : Expr} {l : List Expr} {pos : Pos} (ha : PT X x (rdB G C Wx a)) (hr : PW X (.BoolOp .Or (y :: l) pos) (rdOrB G C Wx (.cons b r))) : PW X (.BoolOp .Or (x :: y :: l) pos) (rdOrB G C Wx (.cons a (.cons b r))) := by
  refine PW.weak (pw_or ha hr) fun σ H Q ⟨am, S, τ, z, q⟩ => ⟨am, S, τ, z, ?_⟩
  unfold evOrB at q
  simp only [evOr, R.bind_assoc] at q
  refine (fin_first q).imp fun t S1 am1 H1 e1 r1 q1 => ?_
  cases t with
  | true => exact q1 am1 H1 (Ext.refl _ _) r1
  | false => exact ⟨am1, S1, τ, z.next e1 r1, q1⟩

/-! ### chains, choices -/
theorem s_chain (c : Cn tb G C k X Wx) {o p : COp} {a b d : T} {x y u : Expr} {pos : Pos} (hu : plainX u = true) (ha : PE X x (rdT G C Wx a)) (hb : PE X y (rdT G C Wx b)) (hd : PE X u (rdT G C Wx d)) : PE X (.Compare x [o.py, p.py] [y, u] pos) (rdT G C Wx (.chain o p a b d)) := by
  refine PE.weak (pe_chain (cmp_rule c.hK c.u64 o) (cmp_rule c.hK c.u64 p) ha hb hd (in_plain hu)) fun σ H Q ⟨am, S, τ, z, q⟩ => ⟨am, S, τ, z, ?_⟩
  simp only [ev] at q
  refine q.bind.imp fun w S1 am1 H1 e1 r1 q1 v hv => ⟨am1, S1, τ, z.next e1 r1, ?_⟩
  refine q1.bind.imp fun w2 S2 am2 H2 e2 r2 q2 v2 hv2 => ?_
  obtain ⟨t, e, q3⟩ := q2.bind.lift
  have q3 := q3 am2 H2 (Ext.refl _ _) r2
  refine ⟨am2, S2, w, w2, t, r2, hv.mono e2, hv2, e, t, rfl, ?_⟩
  cases t with
  | true =>
    rw [if_pos rfl] at q3 ⊢
    refine ⟨am2, S2, τ, (z.next e1 r1).next e2 r2, ?_⟩
    refine q3.bind.imp fun w3 S3 am3 H3 e3 r3 q4 v3 hv3 => ?_
    obtain ⟨t', e', q5⟩ := q4.bind.lift
    exact ⟨am3, S3, w2, w3, t', r3, hv2.mono e3, hv3, e', fin_ok (q5 am3 H3 (Ext.refl _ _) r3) r3 (.bl _)⟩
  | false =>
    rw [if_neg Bool.false_ne_true] at q3 ⊢
    exact fin_ok q3 r2 (.bl _)
theorem t_chain (c : Cn tb G C k X Wx) {o p : COp} {a b d : T} {x y u : Expr} {pos : Pos} (hu : plainX u = true) (ha : PE X x (rdT G C Wx a)) (hb : PE X y (rdT G C Wx b)) (hd : PE X u (rdT G C Wx d)) : PT X (.Compare x [o.py, p.py] [y, u] pos) (rdB G C Wx (.chain o p a b d)) := by
  refine PT.weak (pt_chain (cmp_rule c.hK c.u64 o) (cmp_rule c.hK c.u64 p) ha hb hd (in_plain hu)) fun σ H Q ⟨am, S, τ, z, q⟩ => ⟨am, S, τ, z, ?_⟩
  simp only [evB, ev, R.bind_assoc] at q
  refine q.bind.imp fun w S1 am1 H1 e1 r1 q1 v hv => ⟨am1, S1, τ, z.next e1 r1, ?_⟩
  refine q1.bind.imp fun w2 S2 am2 H2 e2 r2 q2 v2 hv2 => ?_
  obtain ⟨t, e, q3⟩ := q2.bind.lift
  have q3 := q3 am2 H2 (Ext.refl _ _) r2
  refine ⟨am2, S2, w, w2, t, r2, hv.mono e2, hv2, e, t, rfl, ?_⟩
  cases t with
  | true =>
    rw [if_pos rfl] at q3 ⊢
    refine ⟨am2, S2, τ, (z.next e1 r1).next e2 r2, ?_⟩
    rw [R.bind_assoc] at q3
    refine q3.bind.imp fun w3 S3 am3 H3 e3 r3 q4 v3 hv3 => ?_
    rw [R.bind_assoc] at q4
    obtain ⟨t', e', q5⟩ := q4.bind.lift
    have q6 : Fin G (Ev G Wx σ) am3 H3 (lift S3 (truth S3 (.bl t'))) (fun b _ _ H => Q b H) := q5 am3 H3 (Ext.refl _ _) r3
    exact ⟨am3, S3, w2, w3, t', r3, hv2.mono e3, hv3, e', t', rfl, q6 am3 H3 (Ext.refl _ _) r3⟩
  | false =>
    rw [if_neg Bool.false_ne_true] at q3 ⊢
    exact ⟨false, rfl, q3 am2 H2 (Ext.refl _ _) r2⟩
theorem s_ite {c a b : T} {u x y : Expr} {pos : Pos} (hc : PT X u (rdB G C Wx c)) (ha : PE X x (rdT G C Wx a)) (hb : PE X y (rdT G C Wx b)) : PE X (.IfExp u x y pos) (rdT G C Wx (.ite c a b)) := by
  refine PE.weak (pe_ifExp hc ha hb) fun σ H Q ⟨am, S, τ, z, q⟩ => ⟨am, S, τ, z, ?_⟩
  simp only [ev] at q
  have q1 : Fin G (Ev G Wx σ) am H ((evB C c τ S).bind fun t S => if t then ev C a τ S else ev C b τ S) (OkV G Q) := by
    unfold evB; rw [R.bind_assoc]; exact q
  refine q1.bind.imp fun t S1 am1 H1 e1 r1 q2 => ?_
  cases t with
  | true => exact ⟨am1, S1, τ, z.next e1 r1, q2⟩
  | false => exact ⟨am1, S1, τ, z.next e1 r1, q2⟩
theorem pt_ite {tA tB' tC : TT} {u x y : Expr} {pos : Pos} (hc : PT X u tC) (ha : PT X x tA) (hb : PT X y tB') : PT X (.IfExp u x y pos) (fun σ H Q => tC σ H fun c H1 => if c = true then tA σ H1 Q else tB' σ H1 Q) := by
  refine ⟨fun pins s σ H Q I h => ?_⟩
  show wpAny _ _ (do if ← isTrue u X.env (eval u X.env) then isTrue x X.env (eval x X.env) else isTrue y X.env (eval y X.env)) _ _ _
  refine wpAny_bind (thn (hc.run pins s σ H _ I h) fun d s1 ⟨H1, I1, q1⟩ => ?_)
  cases d with
  | true => exact ha.run pins s1 σ H1 Q I1 q1
  | false => exact hb.run pins s1 σ H1 Q I1 q1
theorem t_ite {c a b : T} {u x y : Expr} {pos : Pos} (hc : PT X u (rdB G C Wx c)) (ha : PT X x (rdB G C Wx a)) (hb : PT X y (rdB G C Wx b)) : PT X (.IfExp u x y pos) (rdB G C Wx (.ite c a b)) := by
  refine PT.weak (pt_ite hc ha hb) fun σ H Q ⟨am, S, τ, z, q⟩ => ⟨am, S, τ, z, ?_⟩
  have q1 : Fin G (Ev G Wx σ) am H ((evB C c τ S).bind fun t S => if t then evB C a τ S else evB C b τ S) (fun b _ _ H => Q b H) := by
    unfold evB at q
    simp only [ev, R.bind_assoc] at q
    unfold evB; rw [R.bind_assoc]
    have e : (fun x S1 => (lift S1 (truth S1 x)).bind fun t S => (if t = true then ev C a τ S else ev C b τ S).bind fun x S => lift S (truth S x)) = fun (x : W) S1 => (lift S1 (truth S1 x)).bind fun t S => if t = true then (ev C a τ S).bind fun x S => lift S (truth S x) else (ev C b τ S).bind fun x S => lift S (truth S x) := by
      funext x S1
      congr 1
      funext t S2
      cases t <;> rfl
    rw [e] at q
    exact q
  refine q1.bind.imp fun t S1 am1 H1 e1 r1 q2 => ?_
  cases t with
  | true => exact ⟨am1, S1, τ, z.next e1 r1, q2⟩
  | false => exact ⟨am1, S1, τ, z.next e1 r1, q2⟩

/-! ### subscripts, slices -/
theorem s_idx (c : Cn tb G C k X Wx) {a b : T} {x y : Expr} {pos : Pos} (hp : plainX y = true) (ha : PE X x (rdT G C Wx a)) (hb : PE X y (rdT G C Wx b)) : PE X (.Subscript x y pos) (rdT G C Wx (.idx a b)) := by
  refine PE.weak (pe_ix (idx_rule c.hK c.u1) ha hb (ix_plain hp)) fun σ H Q ⟨am, S, τ, z, q⟩ => ⟨am, S, τ, z, ?_⟩
  simp only [ev] at q
  refine q.bind.imp fun w S1 am1 H1 e1 r1 q1 v hv => ⟨am1, S1, τ, z.next e1 r1, ?_⟩
  refine q1.bind.imp fun u S2 am2 H2 e2 r2 q2 v2 hv2 => ?_
  exact ⟨am2, S2, w, u, _, r2, hv.mono e2, hv2, q2⟩
def rdO (G : Gx) (C : Calls) (Wx : WX) (t : T) : TO := fun σ H Q => ∃ am S τ, At G am S τ σ H ∧ Fin G (Ev G Wx σ) am H ((ev C t τ S).bind fun l S => lift S (asPart l)) (fun o _ _ H => Q o H)
theorem PO.weak {e : Option Expr} {t t' : TO} (h : PO X e t) (i : ∀ σ H Q, t' σ H Q → t σ H Q) : PO X e t' := ⟨fun pins s σ H Q I q => h.run pins s σ H Q I (i _ _ _ q)⟩
theorem o_none : PO X none (rdO G C Wx .cnon) := PO.weak po_none fun σ H Q ⟨am, S, τ, z, q⟩ => q am H (Ext.refl _ _) z.rel
/-- a part of a slice that is there: an int, or None -/
theorem po_any {e : Expr} {te : TE} (h : PE X e te) : PO X (some e) (fun σ H Q => te σ H fun x H1 => (x = .non ∧ Q none H1) ∨ ∃ i, x = .int i ∧ Q (some i) H1) := by
  refine ⟨fun pins s σ H Q I q => ?_⟩
  rw [evalPart_some]
  refine thn (h.run pins s σ H _ I q) fun u s1 hu => ?_
  obtain ⟨x, H1, I1, rx, ⟨rfl, q1⟩ | ⟨i, rfl, q1⟩⟩ := hu
  · cases rx
    exact ⟨none, H1, I1, .none, q1⟩
  · obtain ⟨t, rfl⟩ := rx
    exact ⟨some i, H1, I1, .int i t, q1⟩
theorem o_some {t : T} {e : Expr} (h : PE X e (rdT G C Wx t)) : PO X (some e) (rdO G C Wx t) := by
  refine PO.weak (po_any h) fun σ H Q ⟨am, S, τ, z, q⟩ => ⟨am, S, τ, z, ?_⟩
  refine q.bind.imp fun w S1 am1 H1 e1 r1 q1 v hv => ?_
  obtain ⟨o, e, q2⟩ := q1.lift
  have q2 := q2 am1 H1 (Ext.refl _ _) r1
  cases hv <;> simp [asPart] at e
  · subst e; exact .inl ⟨rfl, q2⟩
  · subst e; exact .inr ⟨_, rfl, q2⟩
theorem s_slice (c : Cn tb G C k X Wx) {a lo hi : T} {x : Expr} {l h : Option Expr} {p2 pos : Pos} (ha : PE X x (rdT G C Wx a)) (hl : PO X l (rdO G C Wx lo)) (hh : PO X h (rdO G C Wx hi)) : PE X (.Subscript x (.Slice l h none p2) pos) (rdT G C Wx (.slice a lo hi)) := by
  refine PE.weak (pe_slice (slice_rule c.hK) ha hl hh) fun σ H Q ⟨am, S, τ, z, q⟩ => ⟨am, S, τ, z, ?_⟩
  simp only [ev] at q
  refine q.bind.imp fun w S1 am1 H1 e1 r1 q1 v hv => ⟨am1, S1, τ, z.next e1 r1, ?_⟩
  have q1' : Fin G (Ev G Wx σ) am1 H1 (((ev C lo τ S1).bind fun l S => lift S (asPart l)).bind fun l S => (ev C hi τ S).bind fun h S => (lift S (asPart h)).bind fun h S => lift S (sliceW S w l h)) (OkV G Q) := by
    rw [R.bind_assoc]; exact q1
  refine q1'.bind.imp fun lo' S2 am2 H2 e2 r2 q2 => ⟨am2, S2, τ, (z.next e1 r1).next e2 r2, ?_⟩
  have q2' : Fin G (Ev G Wx σ) am2 H2 (((ev C hi τ S2).bind fun l S => lift S (asPart l)).bind fun h S => lift S (sliceW S w lo' h)) (OkV G Q) := by
    rw [R.bind_assoc]; exact q2
  refine q2'.bind.imp fun hi' S3 am3 H3 e3 r3 q3 => ?_
  exact ⟨am3, S3, w, _, r3, (hv.mono e2).mono e3, q3⟩

/-! ### calls of defs -/
theorem run_def (c : Cn tb G C k X Wx) {x : Str} {n : Nat} (F : FnG G X.prog X.w X.mg X.base C k x n) {f : Addr} (hf : X.mg x = some (.ref f)) {pins : List (Addr × Obj)} {σ : L2.St} {H : Hp} {s : Shared} {Q : VK} {us : List Value} {vs : List V} (I : Inv X pins σ H s) (r : Vals vs us)
    (h : spI G C n vs H Q (Ev G Wx σ)) : wpAny (model X.prog X.w) X.A (call (.ref f) us) (EP X pins σ Q) X.xe s := by
  obtain ⟨f', fd, ps, hm, hk, hb, hlen, hrun⟩ := F.ex
  rw [hf] at hm
  cases hm
  have hl : us.length = ps.length := by rw [← r.length]; exact hlen _ _ _ _ h
  have bd : BindsTo s fd ⟨us, []⟩ (ps.zip us) := by
    have b := hb s us (c.hK ▸ I.kIn) (by rw [List.append_nil]; exact hl)
    rw [List.append_nil] at b
    exact b
  refine wpAny_call (codeAny_mono (hrun X.A X.stack s H ⟨us, []⟩ us vs Q _ c.room c.guards (c.hK ▸ I.env0) bd r h) fun res s' hq => ?_)
  cases res with
  | error e => exact c.take _ _ (XE.of_call I (fun cls d H' z => z) hq)
  | ok fl =>
    cases fl with
    | ret u => exact I.after hq
    | next => exact hq.elim
    | brk => exact hq.elim
    | cont => exact hq.elim
theorem sp_args {es : TL} {n : Nat} {σ : L2.St} {H : Hp} {Q : VK} (h : rdT G C Wx (.call n es) σ H Q) : rdL G C Wx es σ H (fun vs H1 => spI G C n vs H1 Q (Ev G Wx σ)) := by
  obtain ⟨am, S, τ, z, q⟩ := h
  refine ⟨am, S, τ, z, ?_⟩
  simp only [ev] at q
  exact q.bind.imp fun ws S1 am1 H1 e1 r1 q1 vs hv => ⟨am1, S1, ws, r1, hv, q1⟩
theorem s_call0 (c : Cn tb G C k X Wx) {x : Str} {n : Nat} {p pos : Pos} (hg : glC X.env.scope x = true) (ho : okN x = true) (hn : tb.fn.lookup x = some n) : PE X (.Call (.Name x p) [] [] pos) (rdT G C Wx (.call n .nil)) := by
  have F := c.fns x n hn
  obtain ⟨f, fd, ps, hm, hk, _⟩ := F.ex
  refine ⟨fun pins s σ H Q I h => ?_⟩
  refine wpAny_Call_Name_kw (ld_glob I (glC_of hg) hm ?_ (okN_of ho).1)
  obtain ⟨am, S, τ, z, q⟩ := h
  simp only [ev, evL, R.bind_ok] at q
  exact PySem.W.callWith_K0 I.kIn (by rw [c.hK]; exact hk) (run_def (us := []) (vs := []) c F hm I .nil ⟨am, S, [], z.rel, .nil, q⟩)
theorem s_call1 (c : Cn tb G C k X Wx) {x : Str} {n : Nat} {es : TL} {e : Expr} {l : List Expr} {p pos : Pos} (hg : glC X.env.scope x = true) (ho : okN x = true) (hn : tb.fn.lookup x = some n) (hp : ∀ y ∈ e :: l, plainX y = true) (ha : PA X (e :: l) (rdL G C Wx es)) :
    PE X (.Call (.Name x p) (e :: l) [] pos) (rdT G C Wx (.call n es)) := by
  have F := c.fns x n hn
  obtain ⟨f, fd, ps, hm, hk, _⟩ := F.ex
  refine ⟨fun pins s σ H Q I h => ?_⟩
  refine wpAny_Call_Name_kw (ld_glob I (glC_of hg) hm ?_ (okN_of ho).1)
  have h' := sp_args h
  have hk' : PySem.W.keepIn X.K (.ref f) = true := by rw [c.hK]; exact hk
  refine PySem.W.callWith_K (h₀ := X.base) I.ok.mod.kin hk' (thn (ha.run pos pins s σ H _ I h') fun us s1 hu => ?_) (star_plain (hp e List.mem_cons_self)) (noStar_any fun y hy => hp y (List.mem_cons_of_mem _ hy))
  obtain ⟨vs, H1, I1, rv, q⟩ := hu
  exact ⟨I1.kIn, run_def c F hm I1 rv q⟩

/-! ### calls of built-in functions -/
theorem Blt.boot (f : Blt) : bootBuiltins f.name = some f.val := by
  cases f <;> first | decide +kernel | (rename_i m; cases m <;> decide +kernel)
theorem Blt.notName (f : Blt) : f.name ≠ ("__name__" : Str) ∧ (f.name == ("__debug__" : Str)) = false := by
  cases f <;> first | decide +kernel | (rename_i m; cases m <;> decide +kernel)
theorem s_blt (c : Cn tb G C k X Wx) {f : Blt} {es : TL} {e : Expr} {l : List Expr} {p pos : Pos} (hg : glC X.env.scope f.name = true) (hb : f.name ∈ tb.bl) (hp : ∀ y ∈ e :: l, plainX y = true) (ha : PA X (e :: l) (rdL G C Wx es)) :
    PE X (.Call (.Name f.name p) (e :: l) [] pos) (rdT G C Wx (.blt f es)) := by
  have rule := blt_rule c.hK c.calm c.guards c.u200 f
  have he := star_plain (es := l) (env := X.env) (hp e List.mem_cons_self)
  have hpl := noStar_any (env := X.env) (pos := pos) fun y hy => hp y (List.mem_cons_of_mem e hy)
  have go : ∀ σ H Q, rdT G C Wx (.blt f es) σ H Q → tCB (rBlt G f) (rdL G C Wx es) σ H Q := fun σ H Q ⟨am, S, τ, z, q⟩ => by
    refine ⟨am, S, τ, z, ?_⟩
    simp only [ev] at q
    exact q.bind.imp fun ws S1 am1 H1 e1 r1 q1 vs hv => ⟨am1, S1, ws, _, r1, hv, q1⟩
  have hboot := f.boot
  unfold Blt.val at hboot rule
  split at hboot
  · rename_i ht
    rw [if_pos ht] at rule
    exact PE.weak (pe_callTy rule (glC_of hg) (c.blt _ hb) hboot ha f.notName.1 f.notName.2 he hpl) go
  · rename_i ht
    rw [if_neg ht] at rule
    exact PE.weak (pe_callB rule (glC_of hg) (c.blt _ hb) hboot ha f.notName.1 f.notName.2 he hpl) go

/-! ### methods -/
theorem few_ok {l : List Expr} {env : PySem.Env} {pos : Pos} (h : ∀ e ∈ l, plainX e = true) (hl : l.length < 30) : ((backTo pos (starEach l env)).all (fun x => !x.1) && (backToKw pos (keywordEach [] env)).all (fun x => x.1.isSome)
    && decide (l.length + ([] : List Keyword).length + (if ([] : List Keyword).isEmpty then 0 else 1) < 30)) = true := by
  rw [noStar_all h]
  show (true && true && decide (l.length + 0 + 0 < 30)) = true
  simpa using hl
/-- the receiver's type -/
theorem recv_list (hK : X.K = G.K) {am : AM} {H : Hp} {S : Store} {w : W} {v : V} {m : Mth} (r : Rel G.K am H S) (hv : VR G.K am H v w) (h : mthRecv S m w = true) (hm : m ≠ .get2) : tyV X.K "list" v H := by
  have e : (getL S w).isSome = true := by
    cases m <;> first | exact h | exact absurd rfl hm
  obtain ⟨l, e⟩ := Option.isSome_iff_exists.mp e
  obtain ⟨p, vs, rfl, h1, h2⟩ := r.getL hv e
  exact .inl ⟨rfl, vs, .inl (.inl h1)⟩
theorem s_pop (c : Cn tb G C k X Wx) {o : T} {x : Expr} {ap cp : Pos} (hr : isRecv x = true) (hl : (ap.endLine == cp.line) = true) (ho : PE X x (rdT G C Wx o)) : PE X (.Call (.Attribute x "pop" ap) [] [] cp) (rdT G C Wx (.mth .pop o .nil)) := by
  refine PE.weak (pe_bm0 PySem.F.plainAttrs_list PySem.F.slot_list_pop PySem.F.type_list_pop (pop_rule (G := G)) ho (base_recv hr) hl) fun σ H Q ⟨am, S, τ, z, q⟩ => ⟨am, S, τ, z, ?_⟩
  simp only [ev, evL, R.bind_ok] at q
  refine q.bind.imp fun w S1 am1 H1 e1 r1 q1 v hv => ?_
  obtain ⟨hw, q2⟩ := q1.need
  exact ⟨recv_list c.hK r1 hv hw (fun z => by cases z), am1, S1, w, [], _, r1, hv, .nil, q2⟩
theorem s_append (c : Cn tb G C k X Wx) {o : T} {es : TL} {x e : Expr} {ap cp : Pos} (hr : isRecv x = true) (hl : (ap.endLine == cp.line) = true) (hp : plainX e = true) (ho : PE X x (rdT G C Wx o)) (ha : PA X [e] (rdL G C Wx es)) : PE X (.Call (.Attribute x "append" ap) [e] [] cp) (rdT G C Wx (.mth .append o es)) := by
  have hp' : ∀ y ∈ [e], plainX y = true := fun y hy => by rw [List.mem_singleton.mp hy]; exact hp
  refine PE.weak (pe_bm PySem.F.plainAttrs_list PySem.F.slot_list_append PySem.F.type_list_append (append_rule (G := G)) ho ha (base_recv hr) (few_ok hp' (by simp)) hl (star_plain hp) (noStar_any fun y hy => by cases hy)) fun σ H Q ⟨am, S, τ, z, q⟩ => ⟨am, S, τ, z, ?_⟩
  simp only [ev] at q
  refine q.bind.imp fun w S1 am1 H1 e1 r1 q1 v hv => ?_
  obtain ⟨hw, q2⟩ := q1.need
  refine ⟨recv_list c.hK r1 hv hw (fun z => by cases z), am1, S1, τ, z.next e1 r1, q2.bind.imp fun ws S2 am2 H2 e2 r2 q3 vs hvs => ?_⟩
  exact ⟨am2, S2, w, ws, _, r2, hv.mono e2, hvs, q3⟩
theorem s_extend (c : Cn tb G C k X Wx) {o : T} {es : TL} {x e : Expr} {ap cp : Pos} (hr : isRecv x = true) (hl : (ap.endLine == cp.line) = true) (hp : plainX e = true) (ho : PE X x (rdT G C Wx o)) (ha : PA X [e] (rdL G C Wx es)) : PE X (.Call (.Attribute x "extend" ap) [e] [] cp) (rdT G C Wx (.mth .extend o es)) := by
  have hp' : ∀ y ∈ [e], plainX y = true := fun y hy => by rw [List.mem_singleton.mp hy]; exact hp
  refine PE.weak (pe_bm PySem.F.plainAttrs_list PySem.F.slot_list_extend PySem.F.type_list_extend (extend_rule (G := G)) ho ha (base_recv hr) (few_ok hp' (by simp)) hl (star_plain hp) (noStar_any fun y hy => by cases hy)) fun σ H Q ⟨am, S, τ, z, q⟩ => ⟨am, S, τ, z, ?_⟩
  simp only [ev] at q
  refine q.bind.imp fun w S1 am1 H1 e1 r1 q1 v hv => ?_
  obtain ⟨hw, q2⟩ := q1.need
  refine ⟨recv_list c.hK r1 hv hw (fun z => by cases z), am1, S1, τ, z.next e1 r1, q2.bind.imp fun ws S2 am2 H2 e2 r2 q3 vs hvs => ?_⟩
  exact ⟨am2, S2, w, ws, _, r2, hv.mono e2, hvs, q3⟩
/-- d.get(k, x) -/
theorem s_get2 (c : Cn tb G C k X Wx) {o a b : T} {x e f : Expr} {ap cp : Pos} (hr : isRecv x = true) (hl : (ap.endLine == cp.line) = true) (hp : plainX e = true) (hq : plainX f = true) (ho : PE X x (rdT G C Wx o)) (ha : PE X e (rdT G C Wx a)) (hb : PE X f (rdT G C Wx b)) :
    PE X (.Call (.Attribute x "get" ap) [e, f] [] cp) (rdT G C Wx (.mth .get2 o (.cons a (.cons b .nil)))) := by
  have hp' : ∀ y ∈ [e, f], plainX y = true := fun y hy => by
    rcases List.mem_cons.mp hy with z | hy
    · rw [z]; exact hp
    · rw [List.mem_singleton.mp hy]; exact hq
  have m : M2 X x "get" ap e f cp := ⟨base_recv hr, few_ok hp' (by simp), hl, by rw [star_plain hp, star_plain hq]; rfl⟩
  refine PE.weak (pe_dget2 c.u1 ho ha hb m) fun σ H Q ⟨am, S, τ, z, q⟩ => ⟨am, S, τ, z, ?_⟩
  simp only [ev, evL, R.bind_assoc, R.bind_ok] at q
  refine q.bind.imp fun w S1 am1 H1 e1 r1 q1 v hv => ?_
  obtain ⟨hw, q2⟩ := q1.need
  obtain ⟨kvs, ek⟩ := Option.isSome_iff_exists.mp (show (getD S1 w).isSome = true from hw)
  obtain ⟨p, n, vs, rfl, rfl, h1, h2, h3, h4⟩ := r1.getD hv ek
  refine ⟨p, rfl, .inl ⟨vs, .inl h3⟩, am1, S1, τ, z.next e1 r1, q2.bind.imp fun w2 S2 am2 H2 e2 r2 q3 v2 hv2 => ⟨am2, S2, τ, (z.next e1 r1).next e2 r2, q3.bind.imp fun w3 S3 am3 H3 e3 r3 q4 v3 hv3 => ?_⟩⟩
  simp only [mthW] at q4
  split at q4
  · rename_i kvs' k' ek' et
    obtain ⟨p', n', vs', e5, e6, h1', h2', h3', h4'⟩ := r3.getD (((VR.loc h1).mono e2).mono e3) ek'
    cases e5
    have g := DGet.k (k := k') h3'
    rw [← toKey_kV (hv2.mono e3) et] at g
    refine ⟨_, g, ?_⟩
    rcases h4'.look k' with ⟨z1, z2⟩ | ⟨v', w', z1, z2, z3⟩
    · rw [z1]; rw [z2] at q4
      exact fin_ok q4 r3 hv3
    · rw [z1]; rw [z2] at q4
      exact fin_ok q4 r3 z3
  · exact q4.elim
end
end PyI

/-! PyI, part 7: dict displays, what is walked, comprehensions. Own work. -/
namespace PyI
open PySem PySem.Spec PyProof.Rows L2
section
variable {tb : Tb} {G : Gx} {C : Calls} {k : Nat} {X : Cx} {Wx : WX}

/-- each of the expressions, as a value and as a test -/
def PEs (G : Gx) (C : Calls) (X : Cx) (Wx : WX) : TL → List Expr → Prop
  | .nil, l => l = []
  | .cons a r, l => match l with
    | x :: s => plainX x = true ∧ PE X x (rdT G C Wx a) ∧ PT X x (rdB G C Wx a) ∧ PEs G C X Wx r s
    | [] => False
theorem PEs.pa : ∀ {es : TL} {l : List Expr}, PEs G C X Wx es l → PA X l (rdL G C Wx es)
  | .nil, _, h => by
    have e : _ = [] := h
    subst e
    exact s_nil (tb := ⟨[], [], []⟩) (sc := X.env.scope) (by simp [chkL])
  | .cons a r, [], h => h.elim
  | .cons a r, x :: s, h => s_cons h.1 h.2.1 (PEs.pa h.2.2.2)
theorem PEs.plain : ∀ {es : TL} {l : List Expr}, PEs G C X Wx es l → ∀ e ∈ l, plainX e = true
  | .nil, _, h => by subst h; exact fun _ h => by cases h
  | .cons a r, [], h => h.elim
  | .cons a r, x :: s, h => fun e he => by
    rcases List.mem_cons.mp he with z | z
    · subst z; exact h.1
    · exact PEs.plain h.2.2.2 e z
theorem PEs.and : ∀ {es : TL} {x : Expr} {l : List Expr} {pos : Pos}, PEs G C X Wx es (x :: l) → PE X (.BoolOp .And (x :: l) pos) (rdAnd G C Wx es) ∧ PW X (.BoolOp .And (x :: l) pos) (rdAndB G C Wx es)
  | .nil, _, _, _, h => by cases h
  | .cons a .nil, x, l, _, h => by
    have e : l = [] := h.2.2.2
    subst e
    exact ⟨and_one h.2.1, andB_one h.2.2.1⟩
  | .cons a (.cons b r), x, [], _, h => (h.2.2.2 : False).elim
  | .cons a (.cons b r), x, y :: s, p, h => by
    have ih := PEs.and (es := .cons b r) (pos := p) h.2.2.2
    exact ⟨and_more h.2.1 ih.1, andB_more h.2.2.1 ih.2⟩
theorem PEs.or : ∀ {es : TL} {x : Expr} {l : List Expr} {pos : Pos}, PEs G C X Wx es (x :: l) → PE X (.BoolOp .Or (x :: l) pos) (rdOr G C Wx es) ∧ PW X (.BoolOp .Or (x :: l) pos) (rdOrB G C Wx es)
  | .nil, _, _, _, h => by cases h
  | .cons a .nil, x, l, _, h => by
    have e : l = [] := h.2.2.2
    subst e
    exact ⟨or_one h.2.1, orB_one h.2.2.1⟩
  | .cons a (.cons b r), x, [], _, h => (h.2.2.2 : False).elim
  | .cons a (.cons b r), x, y :: s, p, h => by
    have ih := PEs.or (es := .cons b r) (pos := p) h.2.2.2
    exact ⟨or_more h.2.1 ih.1, orB_more h.2.2.1 ih.2⟩

/-! ### dict displays -/
theorem Fin.bindU {α β : Type} {E : Value → Option Addr → Hp → Prop} {am : AM} {H : Hp} {r : R α} {f : α → Store → R β} {ok : β → Store → AM → Hp → Prop} (h : Fin G E am H (r.bind f) ok) : Fin G E am H r (fun a S _ _ => Fin G E am H (f a S) ok) := by
  cases r with
  | ok a S => exact fun _ _ _ _ => h
  | exc c p S => exact h
  | stuck => exact h
theorem pairs_of {pos : Pos} : ∀ {ks : List Str} {kl : List (Option Expr)} {es : TL} {l : List Expr}, keysC ks kl = true → kl.length = l.length → PEs G C X Wx es l → ∃ trs, PPs X pos kl l trs ∧ kl.all (·.isSome) = true ∧
    ∀ (am : AM) (S : Store) (τ : Slots) (σ : L2.St) (H : Hp) (K : List (V × V) → Hp → Prop), At G am S τ σ H →
      Fin G (Ev G Wx σ) am H (evL C es τ S) (fun ws _ am' H' => ∀ kvs, ws.length = ks.length → KVR G.K am' H' kvs (dctOf ks ws) → K (kvs.map fun kv => (kV kv.1, kv.2)) H') → tPairs trs σ H K
  | [], [], es, [], _, _, h => by
    cases es with
    | cons a r => exact h.elim
    | nil =>
      refine ⟨[], pps_nil, rfl, fun am S τ σ H K z q => ?_⟩
      exact q am H (Ext.refl _ _) z.rel [] rfl .nil
  | [], [], es, x :: l, _, hl, h => by cases hl
  | [], o :: kl, _, _, hk, _, _ => by simp [keysC] at hk
  | key :: ks, [], _, _, hk, _, _ => by simp [keysC] at hk
  | key :: ks, o :: kl, es, [], _, hl, _ => by cases hl
  | key :: ks, o :: kl, es, x :: l, hk, hl, h => by
    cases es with
    | nil => cases h
    | cons a r =>
      obtain ⟨h1, h2, h3, h4⟩ := h
      simp only [keysC, Bool.and_eq_true] at hk
      obtain ⟨hk1, hk2⟩ := hk
      split at hk1
      · rename_i y j p
        simp only [decide_eq_true_eq] at hk1
        subst hk1
        obtain ⟨trs, p1, p2, p3⟩ := pairs_of (pos := pos) hk2 (by simpa using hl) h4
        refine ⟨_, pps_cons pe_str h2 p1, by simpa using p2, fun am S τ σ H K z q => ?_⟩
        refine ⟨am, S, τ, z, ?_⟩
        simp only [evL] at q
        refine q.bind.imp fun w S1 am1 H1 e1 r1 q1 v hv => ?_
        refine p3 am1 S1 τ σ H1 _ (z.next e1 r1) ?_
        refine q1.bind.imp fun ws S2 am2 H2 e2 r2 q2 kvs hw hkv => ?_
        exact q2 am2 H2 (Ext.refl _ _) r2 ((.inr y, v) :: kvs) (by simpa using hw) (.cons (hv.mono e2) hkv)
      · cases hk1
theorem mergeK_app : ∀ (more kvs : List (Key × V)), ((kvs ++ more).map (·.1)).Nodup → mergeK kvs more = kvs ++ more
  | [], kvs, _ => by simp [mergeK]
  | p :: r, kvs, h => by
    have e : putK kvs p.1 p.2 = kvs ++ [p] := by
      unfold putK
      rw [if_neg]
      intro z
      obtain ⟨q, hq, e⟩ := List.any_eq_true.mp z
      simp only [decide_eq_true_eq] at e
      rw [List.map_append, List.nodup_append] at h
      exact h.2.2 q.1 (List.mem_map_of_mem hq) p.1 (by simp) e
    show mergeK (putK kvs p.1 p.2) r = _
    rw [e, mergeK_app r (kvs ++ [p]) (by rw [List.append_assoc]; exact h), List.append_assoc]
    rfl
theorem KVR.keys {K : PySem.W.Frag} {am : AM} {H : Hp} {κ : Type} : ∀ {vs : List (κ × V)} {ws : List (κ × W)}, KVR K am H vs ws → vs.map (·.1) = ws.map (·.1)
  | _, _, .nil => rfl
  | _, _, .cons _ t => by rw [List.map_cons, List.map_cons, KVR.keys t]
theorem dctOf_keys : ∀ {ks : List Str} {ws : List W}, ws.length = ks.length → (dctOf ks ws).map (·.1) = ks.map Sum.inr
  | [], [], _ => rfl
  | [], _ :: _, h => by cases h
  | _ :: _, [], h => by cases h
  | k :: ks, w :: ws, h => by
    show Sum.inr k :: (dctOf ks ws).map (·.1) = _
    rw [dctOf_keys (by simpa using h)]
    rfl
theorem nodup_inr : ∀ {ks : List Str}, ks.Nodup → (ks.map (Sum.inr : Str → Key)).Nodup := fun h => List.Pairwise.map _ (fun a b n e => n (Sum.inr.inj e)) h
theorem s_dct {ks : List Str} {es : TL} {kl : List (Option Expr)} {l : List Expr} {pos : Pos} (hk : keysC ks kl = true) (hl : kl.length = l.length) (h15 : kl.length ≤ 15) (h : PEs G C X Wx es l) : PE X (.Dict kl l pos) (rdT G C Wx (.dct ks es)) := by
  obtain ⟨trs, p1, p2, p3⟩ := pairs_of (pos := pos) hk hl h
  have fin : ∀ {σ : L2.St} {am am2 : AM} {H H2 : Hp} {S S2 : Store} {p : Addr} {ws : List W} {kvs : List (Key × V)} {Q : VK}, Rel G.K am H S → H p = none → Ext ⟨am.l, p :: am.pv⟩ (upd H p (.dK [])) am2 H2 → Rel G.K am2 H2 S2 →
      Fin G (Ev G Wx σ) am H (need (ws.length = ks.length ∧ ks.Nodup ∧ ks.length ≤ 15) (R.ok (W.loc S2.length) (S2 ++ [.dct (dctOf ks ws)]))) (OkV G Q) → KVR G.K am2 H2 kvs (dctOf ks ws) → H2 p = some (.dK []) ∧ mergeK [] kvs = kvs ∧ kvs.length ≤ 15 ∧ ws.length = ks.length ∧ Q (.ref p) (upd H2 p (.dK kvs)) := by
    intro σ am am2 H H2 S S2 p ws kvs Q r0 hp e2 r2 q hkv
    obtain ⟨⟨h1, h2, h3⟩, q⟩ := q.need
    have hv : p ∈ am2.pv := e2.sub p (.head _)
    have g1 := e2.priv p _ (.head _) upd_same
    have hlen : kvs.length = ks.length := by
      have e := hkv.keys
      rw [dctOf_keys h1] at e
      have := congrArg List.length e
      simpa using this
    have hm : mergeK [] kvs = kvs := mergeK_app kvs [] (by rw [List.nil_append, hkv.keys, dctOf_keys h1]; exact nodup_inr h2)
    refine ⟨g1, hm, by omega, h1, ?_⟩
    have ex : Ext am H ((am2.free p).push p) (upd H2 p (.dK kvs)) := Ext.more (r0.out hp e2.toMv (fun a ha => e2.sub a (.tail _ ha)) (fun a u ha hu => e2.priv a u (.tail _ ha) (by rw [upd_ne (ne_of_none hu hp)]; exact hu)) (r2.apart p hv)) hp
    exact q _ _ ex (r2.toCell hv ⟨kvs, upd_same, hkv.mv (r2.mvCell hv)⟩) _ (.loc r2.last')
  cases kl with
  | nil =>
    cases l with
    | cons _ _ => cases hl
    | nil =>
      cases ks with
      | cons _ _ => simp [keysC] at hk
      | nil =>
        cases es with
        | cons a r => exact h.elim
        | nil =>
          refine PE.weak pe_dnewK fun σ H Q ⟨am, S, τ, z, q⟩ p hp => ?_
          simp only [ev, evL, R.bind_ok] at q
          have := fin (kvs := []) z.rel hp (Ext.refl _ _) (z.rel.hide hp).1 q .nil
          rw [upd_upd] at this
          exact this.2.2.2.2
  | cons o kl =>
    refine PE.weak (pe_disp p1 p2 hl (fun z => by cases z) h15) fun σ H Q ⟨am, S, τ, z, q⟩ p hp => ?_
    simp only [ev] at q
    obtain ⟨r1, e1⟩ := z.rel.hide (o := .dK []) hp
    refine p3 _ S τ σ _ _ (z.next e1 r1) ?_
    refine (Fin.base e1 q.bindU).imp fun ws S2 am2 H2 e2 r2 q2 kvs hw hkv => ?_
    obtain ⟨g1, g2, g3, g4, g5⟩ := fin z.rel hp e2 r2 q2 hkv
    exact ⟨g1, kvs, rfl, g3, by rw [g2]; exact g5⟩

/-! ### what is walked -/
def GuardOk (g : Guard) (S : Store) : Prop := match g with | none => True | some (n, l) => S[n]? = some (.lst l)
theorem held_ok {g : Guard} {S : Store} {α : Type} {r d : α} (h : GuardOk g S) : held g S r d = r := by
  cases g with
  | none => rfl
  | some p => exact held_some h
theorem held_fin {α : Type} {g : Guard} {S S' : Store} {E : Value → Option Addr → Hp → Prop} {am : AM} {H : Hp} {r : R α} {ok : α → Store → AM → Hp → Prop} (h : Fin G E am H (held g S r .stuck) ok) : GuardOk g S ∧ Fin G E am H r ok := by
  cases g with
  | none => exact ⟨trivial, h⟩
  | some p =>
    unfold held at h
    simp only at h
    split at h
    · rename_i e; exact ⟨e, h⟩
    · exact h.elim
/-- an iterator that yields the items ws, one by one -/
structure Walk (G : Gx) (J : It) (ws : List W) (g : Guard) (am : AM) (H : Hp) : Prop where
  go : ∀ am' H' S, Ext am H am' H' → Rel G.K am' H' S → GuardOk g S → ∀ (i : Nat) (w : W), ws[i]? = some w → J.go i H' ∧ ∀ x H2, J.yld i H' x H2 → Ext am' H' am' H2 ∧ Rel G.K am' H2 S ∧ VR G.K am' H2 x w
  stop : ∀ am' H' S, Ext am H am' H' → Rel G.K am' H' S → GuardOk g S → ∀ i : Nat, ws.length ≤ i → J.stop i H'
def rdI (G : Gx) (C : Calls) (Wx : WX) (it : PyI.TI) : L2.TI := fun σ H R => ∃ am S τ, At G am S τ σ H ∧ Fin G (Ev G Wx σ) am H (evI C it τ S) (fun p _ am' H' => ∀ J, Walk G J p.1 p.2 am' H' → R J H')
theorem walk_list {K : PySem.W.Frag} (hK : K = G.K) {am : AM} {H : Hp} {a : Addr} {vs : List V} {ws : List W} (h : ∀ am' H', Ext am H am' H' → SqL G.K H' a vs ∧ VRs G.K am' H' vs ws) : Walk G (Itl K a) ws none am H where
  go := fun am' H' S e r _ i w hw => by
    obtain ⟨h1, h2⟩ := h am' H' e
    obtain ⟨v, hv, rv⟩ := h2.get hw
    refine ⟨⟨vs, v, hK ▸ h1, hv⟩, fun x H2 y => ?_⟩
    obtain ⟨rfl, y⟩ := y
    have := y vs (hK ▸ h1)
    rw [hv] at this
    cases this
    exact ⟨Ext.refl _ _, r, rv⟩
  stop := fun am' H' S e r _ i hi => by
    obtain ⟨h1, h2⟩ := h am' H' e
    exact ⟨vs, hK ▸ h1, by rw [h2.length]; exact hi⟩
theorem walk_tup {K : PySem.W.Frag} (hK : K = G.K) {am : AM} {H : Hp} {a : Addr} {vs : List V} {ws : List W} (h : ∀ am' H', Ext am H am' H' → SqT G.K H' a vs ∧ VRs G.K am' H' vs ws) : Walk G (Itt K a) ws none am H where
  go := fun am' H' S e r _ i w hw => by
    obtain ⟨h1, h2⟩ := h am' H' e
    obtain ⟨v, hv, rv⟩ := h2.get hw
    refine ⟨⟨vs, v, hK ▸ h1, hv⟩, fun x H2 y => ?_⟩
    obtain ⟨rfl, y⟩ := y
    have := y vs (hK ▸ h1)
    rw [hv] at this
    cases this
    exact ⟨Ext.refl _ _, r, rv⟩
  stop := fun am' H' S e r _ i hi => by
    obtain ⟨h1, h2⟩ := h am' H' e
    exact ⟨vs, hK ▸ h1, by rw [h2.length]; exact hi⟩
/-- a cell that is walked -/
theorem walk_loc {K : PySem.W.Frag} (hK : K = G.K) {am : AM} {H : Hp} {a : Addr} {n : Nat} {ws : List W} (h : am.l[n]? = some a) : Walk G (Itl K a) ws (some (n, ws)) am H where
  go := fun am' H' S e r g i w hw => by
    obtain ⟨vs, h1, h2⟩ := r.at_lst (e.at h) g
    obtain ⟨v, hv, rv⟩ := h2.get hw
    refine ⟨⟨vs, v, .inl (.inl h1), hv⟩, fun x H2 y => ?_⟩
    obtain ⟨rfl, y⟩ := y
    have := y vs (.inl (.inl h1))
    rw [hv] at this
    cases this
    exact ⟨Ext.refl _ _, r, rv⟩
  stop := fun am' H' S e r g i hi => by
    obtain ⟨vs, h1, h2⟩ := r.at_lst (e.at h) g
    exact ⟨vs, .inl (.inl h1), by rw [h2.length]; exact hi⟩
theorem walk_rng {am : AM} {H : Hp} (lo : Int) (n : Nat) : Walk G (Itr lo n) (rngL lo n) none am H where
  go := fun am' H' S e r _ i w hw => by
    unfold rngL at hw
    rw [List.getElem?_map] at hw
    obtain ⟨j, h1, rfl⟩ := Option.map_eq_some_iff.mp hw
    obtain ⟨h2, h3⟩ := List.getElem?_eq_some_iff.mp h1
    rw [List.getElem_range] at h3
    subst h3
    refine ⟨(by simpa using h2 : i < n), fun x H2 y => ?_⟩
    obtain ⟨rfl, rfl⟩ := y
    exact ⟨Ext.refl _ _, r, .int _⟩
  stop := fun am' H' S e r _ i hi => by
    show n ≤ i
    simpa [rngL] using hi
theorem walk_zip {J : It} {am : AM} {H : Hp} {xs ys : List V} {l r : List W} (P : Hp → Prop) (hP : ∀ am' H', Ext am H am' H' → P H' ∧ VRs G.K am' H' xs l ∧ VRs G.K am' H' ys r)
    (go : ∀ i H' x y, P H' → xs[i]? = some x → ys[i]? = some y → J.go i H') (yld : ∀ i H' v H2, P H' → J.yld i H' v H2 → ∃ T x y, v = .ref T ∧ H' T = none ∧ H2 = upd H' T (.tup [x, y]) ∧ xs[i]? = some x ∧ ys[i]? = some y)
    (stop : ∀ i H', P H' → (xs.length ≤ i ∨ ys.length ≤ i) → J.stop i H') : Walk G J ((l.zip r).map fun p => .tup [p.1, p.2]) none am H where
  go := fun am' H' S e rl _ i w hw => by
    obtain ⟨h1, h2, h3⟩ := hP am' H' e
    rw [List.getElem?_map] at hw
    obtain ⟨⟨a, b⟩, hz, rfl⟩ := Option.map_eq_some_iff.mp hw
    obtain ⟨ha, hb⟩ := List.getElem?_zip_eq_some.mp hz
    obtain ⟨x, hx, rx⟩ := h2.get ha
    obtain ⟨y, hy, ry⟩ := h3.get hb
    refine ⟨go i H' x y h1 hx hy, fun v H2 hv => ?_⟩
    obtain ⟨T, x', y', rfl, hT, rfl, e1, e2⟩ := yld i H' v H2 h1 hv
    rw [hx] at e1; cases e1
    rw [hy] at e2; cases e2
    have ex := Ext.new (am := am') (o := .tup [x, y]) hT
    exact ⟨ex, rl.new hT, .tup (.inl ⟨upd_same, rl.fresh hT⟩) (.cons (rx.mono ex) (.cons (ry.mono ex) .nil))⟩
  stop := fun am' H' S e rl _ i hi => by
    obtain ⟨h1, h2, h3⟩ := hP am' H' e
    refine stop i H' h1 ?_
    rw [h2.length, h3.length]
    simp at hi
    omega
theorem PI.weak {tg e : Expr} {t t' : L2.TI} (h : PI X tg e t) (i : ∀ σ H Q, t' σ H Q → t σ H Q) : PI X tg e t' := ⟨fun pins s σ H Q I q => h.run pins s σ H Q I (i _ _ _ q)⟩

theorem i_seq (c : Cn tb G C k X Wx) {t : T} {tg e : Expr} (h : PE X e (rdT G C Wx t)) : PI X tg e (rdI G C Wx (.seq t)) := by
  refine ⟨fun pins s σ H Rw I q => ?_⟩
  obtain ⟨am, S, τ, z, q⟩ := q
  simp only [evI] at q
  -- a tuple or a list: the interpreter knows
  have tupWay : (∀ w S1, ev C t τ S = .ok w S1 → ∃ l, w = .tup l) → iTup X.K (rdT G C Wx t) σ H Rw := fun hw => by
    refine ⟨am, S, τ, z, ?_⟩
    cases hr : ev C t τ S with
    | ok w S1 =>
      obtain ⟨l, rfl⟩ := hw w S1 hr
      rw [hr] at q
      have q1 : Fin G (Ev G Wx σ) am H (R.ok (l, none) S1) _ := q
      intro am' H' e1 r1 v hv
      cases hv with
      | tup h1 h2 =>
        rename_i a vs
        refine ⟨a, rfl, ⟨vs, c.hK ▸ h1.sq⟩, ?_⟩
        exact q1 am' H' e1 r1 _ (walk_tup c.hK fun am2 H2 e2 => ⟨(h1.mono e2).sq, h2.mono e2⟩)
    | exc c' p S1 => rw [hr] at q; exact q
    | stuck => rw [hr] at q; exact q.elim
  have lstWay : (∀ w S1, ev C t τ S = .ok w S1 → ∀ l, w ≠ .tup l) → iList X.K (rdT G C Wx t) σ H Rw := fun hw => by
    refine ⟨am, S, τ, z, ?_⟩
    cases hr : ev C t τ S with
    | ok w S1 =>
      have hw := hw w S1 hr
      rw [hr] at q
      simp only [R.bind_ok] at q
      intro am' H' e1 r1 v hv
      cases hv with
      | tup h1 h2 => exact absurd rfl (hw _)
      | lst h1 hn h2 =>
        rename_i a vs ws
        have q1 : Fin G (Ev G Wx σ) am H (R.ok (ws, none) S1) _ := q
        refine ⟨a, rfl, ⟨vs, .inl (.inl h1)⟩, ?_⟩
        refine q1 am' H' e1 r1 _ (walk_list c.hK (vs := vs) fun am2 H2 e2 => ⟨.inl (.inl (e2.keep _ _ h1 hn).1), h2.mono e2⟩)
      | ro h1 =>
        rename_i a ns
        have q1 : Fin G (Ev G Wx σ) am H (R.ok (ns.map W.int, none) S1) _ := q
        refine ⟨a, rfl, ⟨ns.map V.int, c.hK ▸ h1.sq⟩, ?_⟩
        refine q1 am' H' e1 r1 _ (walk_list c.hK (vs := ns.map V.int) fun am2 H2 e2 => ⟨(h1.mono e2).sq, VRs.ints _⟩)
      | loc h1 =>
        rename_i a n
        obtain ⟨p, e2, q2⟩ := q.lift
        simp only [seqOf] at e2
        split at e2
        · rename_i l e3
          cases e2
          obtain ⟨vs, h2, h3⟩ := r1.at_lst h1 e3
          exact ⟨a, rfl, ⟨vs, .inl (.inl h2)⟩, q2 am' H' e1 r1 _ (walk_loc c.hK h1)⟩
        · cases e2
      | _ =>
        obtain ⟨p, e2, q2⟩ := q.lift
        simp [seqOf, getRd] at e2
    | exc c' p S1 => rw [hr] at q; exact q
    | stuck => rw [hr] at q; exact q.elim
  by_cases hw : ∃ w S1, ev C t τ S = .ok w S1 ∧ ∃ l, w = .tup l
  · refine (pi_tup h).run pins s σ H Rw I (tupWay fun w S1 e => ?_)
    obtain ⟨w', S', e', l, rfl⟩ := hw
    rw [e] at e'
    cases e'
    exact ⟨l, rfl⟩
  · refine (pi_list h).run pins s σ H Rw I (lstWay fun w S1 e l z => ?_)
    exact hw ⟨w, S1, e, l, z⟩
theorem i_rng (c : Cn tb G C k X Wx) {t : T} {tg e : Expr} {p pos : Pos} (hg : glC X.env.scope "range" = true) (hb : ("range" : Str) ∈ tb.bl) (hp : plainX e = true) (h : PE X e (rdT G C Wx t)) : PI X tg (.Call (.Name "range" p) [e] [] pos) (rdI G C Wx (.rng t)) := by
  have hs : starEach [e] X.env = [(false, eval e X.env)] := star_plain hp
  have ha : PA X [e] (rdL G C Wx (.cons t .nil)) := s_cons hp h (s_nil (tb := tb) (sc := X.env.scope) (by simp [chkL]))
  refine PI.weak (pi_range1 (glC_of hg) (c.blt _ hb) ha hs) fun σ H Rw ⟨am, S, τ, z, q⟩ => ⟨am, S, τ, z, ?_⟩
  simp only [evI] at q
  simp only [evL]
  cases hr : ev C t τ S with
  | ok w S1 =>
    rw [hr] at q
    simp only [R.bind_ok] at q ⊢
    intro am' H' e1 r1 vs hvs
    obtain ⟨v, rfl, hv⟩ := hvs.one
    split at q
    · rename_i i
      obtain ⟨hi, q⟩ := q.need
      cases hv
      exact ⟨i, rfl, hi.1, hi.2, q am' H' e1 r1 _ (walk_rng 0 i.toNat)⟩
    · exact q.elim
  | exc c' p S1 => rw [hr] at q; exact q
  | stuck => rw [hr] at q; exact q.elim
theorem i_rng2 (c : Cn tb G C k X Wx) {t u : T} {tg e f : Expr} {p pos : Pos} (hg : glC X.env.scope "range" = true) (hb : ("range" : Str) ∈ tb.bl) (hp : plainX e = true) (hq : plainX f = true) (h : PE X e (rdT G C Wx t)) (h2 : PE X f (rdT G C Wx u)) : PI X tg (.Call (.Name "range" p) [e, f] [] pos) (rdI G C Wx (.rng2 t u)) := by
  have hs2 : starEach [f] X.env = [(false, eval f X.env)] := star_plain hq
  have hs : starEach [e, f] X.env = [(false, eval e X.env), (false, eval f X.env)] := by rw [star_plain hp, hs2]
  have ha : PA X [e, f] (rdL G C Wx (.cons t (.cons u .nil))) := s_cons hp h (s_cons hq h2 (s_nil (tb := tb) (sc := X.env.scope) (by simp [chkL])))
  refine PI.weak (pi_range2 (glC_of hg) (c.blt _ hb) ha hs hs2) fun σ H Rw ⟨am, S, τ, z, q⟩ => ⟨am, S, τ, z, ?_⟩
  simp only [evI] at q
  have q' : Fin G (Ev G Wx σ) am H ((evL C (.cons t (.cons u .nil)) τ S).bind fun l S => match l with
      | [.int i, .int j] => need ((-(2 ^ 62) ≤ i ∧ i < 2 ^ 62) ∧ (-(2 ^ 62) ≤ j ∧ j < 2 ^ 62)) (.ok (rngL i (j - i).toNat, (none : Guard)) S) | _ => .stuck) (fun p _ am' H' => ∀ J, Walk G J p.1 p.2 am' H' → Rw J H') := by
    simp only [evL, R.bind_assoc, R.bind_ok]
    refine cast (congrArg (fun r => Fin G (Ev G Wx σ) am H r _) ?_) q
    congr 1
    funext x S1
    congr 1
    funext y S2
    cases x <;> first | rfl | (cases y <;> rfl)
  refine q'.bind.imp fun ws S1 am1 H1 e1 r1 q1 vs hvs => ?_
  split at q1
  · rename_i i j
    obtain ⟨hi, q2⟩ := q1.need
    obtain ⟨v, v', rfl, hv, hv'⟩ := hvs.two
    cases hv; cases hv'
    exact ⟨i, j, rfl, ⟨hi.1.1, hi.1.2, hi.2.1, hi.2.2⟩, q2 am1 H1 (Ext.refl _ _) r1 _ (walk_rng i _)⟩
  · exact q1.elim
end
end PyI

/-! PyI, part 8: zip, enumerate, targets, comprehensions. Own work. -/
namespace PyI
open PySem PySem.Spec PyProof.Rows L2
section
variable {tb : Tb} {G : Gx} {C : Calls} {k : Nat} {X : Cx} {Wx : WX}
theorem i_zip (c : Cn tb G C k X Wx) {t u : T} {elts : List Expr} {kk : Nat} {tpos : Pos} {e f : Expr} {p pos : Pos} (hg : glC X.env.scope "zip" = true) (hb : ("zip" : Str) ∈ tb.bl) (hp : plainX e = true) (hq : plainX f = true) (h : PE X e (rdT G C Wx t)) (h2 : PE X f (rdT G C Wx u)) :
    PI X (.Tuple elts kk tpos) (.Call (.Name "zip" p) [e, f] [] pos) (rdI G C Wx (.zip t u)) := by
  have hs2 : starEach [f] X.env = [(false, eval f X.env)] := star_plain hq
  have hs : starEach [e, f] X.env = (false, eval e X.env) :: starEach [f] X.env := star_plain hp
  have hpl : (backTo pos (starEach [f] X.env)).any (·.1) = false := noStar_any fun y hy => by rw [List.mem_singleton.mp hy]; exact hq
  have ha : PA X [e, f] (rdL G C Wx (.cons t (.cons u .nil))) := s_cons hp h (s_cons hq h2 (s_nil (tb := tb) (sc := X.env.scope) (by simp [chkL])))
  refine PI.weak (RZ.pi_zipA (glC_of hg) (c.blt _ hb) ha hs hpl) fun σ H Rw ⟨am, S, τ, z, q⟩ => ⟨am, S, τ, z, ?_⟩
  simp only [evI] at q
  have q' : Fin G (Ev G Wx σ) am H ((evL C (.cons t (.cons u .nil)) τ S).bind fun l S => match l with
      | [.tup l, .tup r] => .ok ((l.zip r).map fun p => .tup [p.1, p.2], (none : Guard)) S
      | [.lst l, .lst r] => .ok ((l.zip r).map fun p => .tup [p.1, p.2], (none : Guard)) S
      | _ => .stuck) (fun p _ am' H' => ∀ J, Walk G J p.1 p.2 am' H' → Rw J H') := by
    simp only [evL, R.bind_assoc, R.bind_ok]
    refine cast (congrArg (fun r => Fin G (Ev G Wx σ) am H r _) ?_) q
    congr 1
    funext x S1
    congr 1
    funext y S2
    cases x <;> first | rfl | (cases y <;> rfl)
  refine q'.bind.imp fun ws S1 am1 H1 e1 r1 q1 vs hvs => ?_
  split at q1
  · rename_i l r
    obtain ⟨v, v', rfl, hv, hv'⟩ := hvs.two
    cases hv with
    | tup a1 a2 =>
      rename_i a xs
      cases hv' with
      | tup b1 b2 =>
        rename_i b ys
        refine ⟨a, b, xs, ys, rfl, .inr ⟨c.hK ▸ a1.sq, c.hK ▸ b1.sq, q1 am1 H1 (Ext.refl _ _) r1 _ ?_⟩⟩
        refine walk_zip (fun H' => SqT X.K H' a xs ∧ SqT X.K H' b ys) (fun am' H' e => ⟨⟨c.hK ▸ (a1.mono e).sq, c.hK ▸ (b1.mono e).sq⟩, a2.mono e, b2.mono e⟩) (fun i H' x y P hx hy => ⟨xs, ys, x, y, P.1, P.2, hx, hy⟩) (fun i H' v H2 P y => ?_) (fun i H' P hi => ⟨xs, ys, P.1, P.2, hi⟩)
        obtain ⟨T, x, y', e1, e2, e3, e4, e5⟩ := y
        exact ⟨T, x, y', e1, e2, e3, e4 _ P.1, e5 _ P.2⟩
  · rename_i l r
    obtain ⟨v, v', rfl, hv, hv'⟩ := hvs.two
    cases hv with
    | lst a1 an a2 =>
      rename_i a xs
      cases hv' with
      | lst b1 bn b2 =>
        rename_i b ys
        refine ⟨a, b, xs, ys, rfl, .inl ⟨.inl (.inl a1), .inl (.inl b1), q1 am1 H1 (Ext.refl _ _) r1 _ ?_⟩⟩
        refine walk_zip (fun H' => SqL X.K H' a xs ∧ SqL X.K H' b ys) (fun am' H' e => ⟨⟨.inl (.inl (e.keep _ _ a1 an).1), .inl (.inl (e.keep _ _ b1 bn).1)⟩, a2.mono e, b2.mono e⟩) (fun i H' x y P hx hy => ⟨xs, ys, x, y, P.1, P.2, hx, hy⟩) (fun i H' v H2 P y => ?_) (fun i H' P hi => ⟨xs, ys, P.1, P.2, hi⟩)
        obtain ⟨T, x, y', e1, e2, e3, e4, e5⟩ := y
        exact ⟨T, x, y', e1, e2, e3, e4 _ P.1, e5 _ P.2⟩
  · exact q1.elim
theorem i_enum (c : Cn tb G C k X Wx) {t : T} {elts : List Expr} {kk : Nat} {tpos : Pos} {e : Expr} {p pos : Pos} (hg : glC X.env.scope "enumerate" = true) (hb : ("enumerate" : Str) ∈ tb.bl) (hp : plainX e = true) (h : PE X e (rdT G C Wx t)) :
    PI X (.Tuple elts kk tpos) (.Call (.Name "enumerate" p) [e] [] pos) (rdI G C Wx (.enum t)) := by
  have hs : starEach [e] X.env = [(false, eval e X.env)] := star_plain hp
  have ha : PA X [e] (rdL G C Wx (.cons t .nil)) := s_cons hp h (s_nil (tb := tb) (sc := X.env.scope) (by simp [chkL]))
  refine PI.weak (pi_enum (glC_of hg) (c.blt _ hb) ha hs) fun σ H Rw ⟨am, S, τ, z, q⟩ => ⟨am, S, τ, z, ?_⟩
  simp only [evI] at q
  simp only [evL]
  cases hr : ev C t τ S with
  | ok w S1 =>
    rw [hr] at q
    simp only [R.bind_ok] at q ⊢
    intro am' H' e1 r1 vs hvs
    obtain ⟨v, rfl, hv⟩ := hvs.one
    split at q
    · rename_i l
      cases hv with
      | lst a1 an a2 =>
        rename_i a xs
        refine ⟨a, xs, rfl, .inl (.inl a1), q am' H' e1 r1 _ ?_⟩
        have hat : ∀ am2 H2, Ext am' H' am2 H2 → SqL X.K H2 a xs ∧ VRs G.K am2 H2 xs l := fun am2 H2 e2 => ⟨.inl (.inl (e2.keep _ _ a1 an).1), a2.mono e2⟩
        refine ⟨fun am2 H2 S2 e2 rl _ i w hw => ?_, fun am2 H2 S2 e2 rl _ i hi => ?_⟩
        · obtain ⟨h1, h2⟩ := hat am2 H2 e2
          rw [List.getElem?_map] at hw
          obtain ⟨⟨b, j⟩, hz, rfl⟩ := Option.map_eq_some_iff.mp hw
          rw [List.getElem?_zipIdx] at hz
          obtain ⟨b', hb', e3⟩ := Option.map_eq_some_iff.mp hz
          cases e3
          obtain ⟨x, hx, rx⟩ := h2.get hb'
          refine ⟨⟨xs, x, h1, hx⟩, fun v H3 hv => ?_⟩
          obtain ⟨T, x', rfl, hT, rfl, e4⟩ := hv
          have := e4 xs h1
          rw [hx] at this
          cases this
          have ex := Ext.new (am := am2) (o := .tup [.int (i : Nat), x]) hT
          refine ⟨ex, rl.new hT, .tup (.inl ⟨upd_same, rl.fresh hT⟩) (.cons ?_ (.cons (rx.mono ex) .nil))⟩
          show VR G.K am2 _ (.int ((i : Nat) : Int)) (.int (((0 + i : Nat)) : Int))
          rw [Nat.zero_add]
          exact .int _
        · obtain ⟨h1, h2⟩ := hat am2 H2 e2
          refine ⟨xs, h1, ?_⟩
          rw [h2.length]
          simpa using hi
    · exact q.elim
  | exc c' p S1 => rw [hr] at q; exact q
  | stuck => rw [hr] at q; exact q.elim

/-! ### targets -/
def tgG (K : PySem.W.Frag) : Tg → TG
  | .nm i => gName i
  | .t2 a b => gTup K 2 (gCons (tgG K a) (gCons (tgG K b) gNil))
  | .t3 a b c => gTup K 3 (gCons (tgG K a) (gCons (tgG K b) (gCons (tgG K c) gNil)))
/-- the names of sc0 may be stored -/
def Sto (X : Cx) (sc0 : Scope) : Prop := ∀ x, locC sc0 x = true → Loc X.env.scope x ∧ (X.fn x = true ∨ X.env.scope.names.lookup x = some .local)
theorem tg_plain {N : List Str} {sc0 : Scope} {g : Tg} {e : Expr} (h : chkG N sc0 g e = true) : (∃ x p, e = .Name x p) ∨ ∃ l j p, e = .Tuple l j p := by
  cases g <;> (unfold chkG at h; split at h) <;> first | exact .inl ⟨_, _, rfl⟩ | exact .inr ⟨_, _, _, rfl⟩ | cases h
theorem tg_each {N : List Str} {sc0 : Scope} {g : Tg} {e : Expr} {es : List Expr} {env : PySem.Env} (h : chkG N sc0 g e = true) : assignEach (e :: es) env = (false, assign e env) :: assignEach es env := by
  rcases tg_plain h with ⟨x, p, rfl⟩ | ⟨l, j, p, rfl⟩ <;> rfl
theorem pg_of {sc0 : Scope} (hc : X.calm = true) (nd : X.N.Nodup) (st : Sto X sc0) : ∀ {g : Tg} {e : Expr}, chkG X.N sc0 g e = true → PG X e (tgG X.K g)
  | .nm i, e, h => by
    unfold chkG at h
    split at h <;> first | cases h; done | skip
    simp only [Bool.and_eq_true, decide_eq_true_eq] at h
    obtain ⟨h1, h2⟩ := st _ h.2
    exact pg_name nd h.1 h1 h2
  | .t2 a b, e, h => by
    unfold chkG at h
    split at h <;> first | cases h; done | skip
    simp only [Bool.and_eq_true] at h
    refine pg_tup hc (pgs_cons (pg_of hc nd st h.1) (pgs_cons (pg_of hc nd st h.2) pgs_nil ?_) ?_) ?_ ?_
    · rw [tg_each h.2]; rfl
    · rw [tg_each h.1]; rfl
    · rw [tg_each h.1, tg_each h.2]; rfl
    · rw [tg_each h.1, tg_each h.2]; rfl
  | .t3 a b d, e, h => by
    unfold chkG at h
    split at h <;> first | cases h; done | skip
    simp only [Bool.and_eq_true] at h
    refine pg_tup hc (pgs_cons (pg_of hc nd st h.1.1) (pgs_cons (pg_of hc nd st h.1.2) (pgs_cons (pg_of hc nd st h.2) pgs_nil ?_) ?_) ?_) ?_ ?_
    · rw [tg_each h.2]; rfl
    · rw [tg_each h.1.2]; rfl
    · rw [tg_each h.1.1]; rfl
    · rw [tg_each h.1.1, tg_each h.1.2, tg_each h.2]; rfl
    · rw [tg_each h.1.1, tg_each h.1.2, tg_each h.2]; rfl
/-- slots, but for those in p -/
structure SRo (K : PySem.W.Frag) (p : Nat → Prop) (am : AM) (H : Hp) (σ : L2.St) (τ : Slots) : Prop where
  len : σ.length = τ.length
  at_ : ∀ (i : Nat) (w : W), τ[i]? = some (some w) → ¬ p i → ∃ v, σ[i]? = some (some v) ∧ VR K am H v w
theorem SR.o {K : PySem.W.Frag} {am : AM} {H : Hp} {σ : L2.St} {τ : Slots} (s : SR K am H σ τ) : SRo K (fun _ => False) am H σ τ := ⟨s.len, fun i w h _ => s.at_ i w h⟩
theorem SRo.sr {K : PySem.W.Frag} {p : Nat → Prop} {am : AM} {H : Hp} {σ : L2.St} {τ : Slots} (s : SRo K p am H σ τ) (hp : ∀ i, ¬ p i) : SR K am H σ τ := ⟨s.len, fun i w h => s.at_ i w h (hp i)⟩
/-- behind a target: what was stored, what was not -/
structure Stored (K : PySem.W.Frag) (p : Nat → Prop) (ix : List Nat) (am : AM) (H : Hp) (σ σ1 : L2.St) (τ1 : Slots) : Prop where
  sr : SRo K (fun i => p i ∧ i ∉ ix) am H σ1 τ1
  out : ∀ i, i ∉ ix → σ1[i]? = σ[i]?
  len : σ1.length = σ.length
theorem bind_ok {am : AM} {H : Hp} : ∀ {g : Tg} {w : W} {v : V} {τ τ1 : Slots} {σ : L2.St} {p : Nat → Prop} {Q : L2.St → Hp → Prop}, bindT g w τ = some τ1 → VR G.K am H v w → SRo G.K p am H σ τ → (∀ σ1, Stored G.K p g.ix am H σ σ1 τ1 → Q σ1 H) → tgG G.K g v σ H Q
  | .nm i, w, v, τ, τ1, σ, p, Q, e, hv, s, q => by
    cases e
    refine q _ ⟨⟨by simp [s.len], fun j u h hj => ?_⟩, fun j hj => ?_, by simp⟩
    · by_cases hi : i = j
      · subst hi
        by_cases hl : i < τ.length
        · rw [List.getElem?_set_self hl] at h
          cases h
          exact ⟨v, by rw [List.getElem?_set_self (by rw [s.len]; exact hl)], hv⟩
        · rw [List.getElem?_eq_none (by simpa using hl)] at h; cases h
      · rw [List.getElem?_set_ne hi] at h ⊢
        refine s.at_ j u h fun z => hj ⟨z, fun y => hi ?_⟩
        exact (List.mem_singleton.mp y).symm
    · rw [List.getElem?_set_ne]
      intro z
      exact hj (by rw [z]; exact List.mem_singleton.mpr rfl)
  | .t2 a b, w, v, τ, τ1, σ, p, Q, e, hv, s, q => by
    simp only [bindT] at e
    split at e
    · rename_i x y
      obtain ⟨τa, ea, eb⟩ := Option.bind_eq_some_iff.mp e
      cases hv with
      | tup h1 h2 =>
        obtain ⟨vx, vy, rfl, hx, hy⟩ := h2.two
        refine ⟨_, _, rfl, h1.sq, rfl, vx, [vy], rfl, bind_ok ea hx s fun σa sa => ⟨vy, [], rfl, bind_ok eb hy sa.sr fun σb sb => ⟨rfl, q σb ⟨⟨sb.sr.len, fun i u h hi => sb.sr.at_ i u h fun z => hi ⟨z.1.1, fun y => ?_⟩⟩, fun i hi => ?_, sb.len.trans sa.len⟩⟩⟩⟩
        · rcases List.mem_append.mp y with y | y
          · exact z.1.2 y
          · exact z.2 y
        · rw [sb.out i fun y => hi (List.mem_append_right _ y), sa.out i fun y => hi (List.mem_append_left _ y)]
    · cases e
  | .t3 a b d, w, v, τ, τ1, σ, p, Q, e, hv, s, q => by
    simp only [bindT] at e
    split at e
    · rename_i x y u
      obtain ⟨τa, ea, e⟩ := Option.bind_eq_some_iff.mp e
      obtain ⟨τb, eb, ed⟩ := Option.bind_eq_some_iff.mp e
      cases hv with
      | tup h1 h2 =>
        cases h2 with | cons hx h2 => cases h2 with | cons hy h2 => cases h2 with | cons hu h2 =>
        cases h2
        refine ⟨_, _, rfl, h1.sq, rfl, _, _, rfl, bind_ok ea hx s fun σa sa => ⟨_, _, rfl, bind_ok eb hy sa.sr fun σb sb => ⟨_, [], rfl, bind_ok ed hu sb.sr fun σd sd => ⟨rfl, q σd ⟨⟨sd.sr.len, fun i u h hi => sd.sr.at_ i u h fun z => hi ⟨z.1.1.1, fun y => ?_⟩⟩, fun i hi => ?_, sd.len.trans (sb.len.trans sa.len)⟩⟩⟩⟩⟩
        · rcases List.mem_append.mp y with y | y
          · rcases List.mem_append.mp y with y | y
            · exact z.1.1.2 y
            · exact z.1.2 y
          · exact z.2 y
        · rw [sd.out i fun y => hi (List.mem_append_right _ y), sb.out i fun y => hi (List.mem_append_left _ (List.mem_append_right _ y)), sa.out i fun y => hi (List.mem_append_left _ (List.mem_append_left _ y))]
    · cases e
end
end PyI

/-! PyI, part 9: comprehensions; the soundness of every checked expression. Own work. -/
namespace PyI
open PySem PySem.Spec PyProof.Rows L2
section
variable {tb : Tb} {G : Gx} {C : Calls} {k : Nat} {X : Cx} {Wx : WX}

abbrev noW : WX := fun _ _ _ _ => False
theorem Cn.blk (c : Cn tb G C k X Wx) (s : Shared) (H : Hp) (scope : Scope) (env : PySem.Env) (fp : List Addr) : Cn tb G C k (X.blk s H scope env fp) noW :=
  ⟨c.hK, c.calm, c.nd, c.room, c.guards, c.fns, c.cst, c.blt, fun u s' ⟨_, _, _, _, _, _, _, _, _, _, _, _, _, _, _, _, w⟩ => w⟩
theorem relS_local {scope sc : Scope} {x : Str} {kd : NameKind} (hk : kd ≠ .free) (h : scope.names.lookup x = some kd) : (relS scope sc).names.lookup x = some kd := lookup_relS_keep (sc := sc) hk h
theorem sto_blk {s : Shared} {H : Hp} {scope : Scope} {cl : List (Str × Addr)} {A : Addr} {fp : List Addr} : Sto (X.blk s H scope (compEnvC scope cl A X.env) fp) scope := by
  intro x h
  unfold locC at h
  have e : (compEnvC scope cl A X.env).scope = relS scope X.env.scope := rfl
  split at h
  · rename_i h1
    have h2 := relS_local (sc := X.env.scope) (fun z => by cases z) h1
    exact ⟨.inl h2, .inr h2⟩
  · rename_i h1
    have h2 := relS_local (sc := X.env.scope) (fun z => by cases z) h1
    refine ⟨.inr h2, .inl ?_⟩
    show (scope.names.lookup x == some .cell) = true
    rw [h1]
    rfl
  · cases h

/-! ### the slots of a block -/
theorem wipe_in {σ : L2.St} {i : Nat} : ∀ {vs : List Nat}, i ∈ vs → i < σ.length → (wipe σ vs)[i]? = some none
  | v :: vs, h, hl => by
    unfold wipe
    by_cases e : v = i
    · subst e
      rw [List.getElem?_set_self (by rw [wipe_length]; exact hl)]
    · rw [List.getElem?_set_ne e]
      rcases List.mem_cons.mp h with z | z
      · exact absurd z.symm e
      · exact wipe_in z hl
theorem wipe_same {σ σ1 : L2.St} {vs : List Nat} (hl : σ1.length = σ.length) (h : ∀ i, i ∉ vs → σ1[i]? = σ[i]?) : wipe σ1 vs = wipe σ vs := by
  refine List.ext_getElem? fun i => ?_
  by_cases hi : i ∈ vs
  · by_cases hlt : i < σ.length
    · rw [wipe_in hi hlt, wipe_in hi (by rw [hl]; exact hlt)]
    · rw [List.getElem?_eq_none (by rw [wipe_length, hl]; omega), List.getElem?_eq_none (by rw [wipe_length]; omega)]
  · rw [wipe_out hi, wipe_out hi, h i hi]
theorem wipe_wipe (σ : L2.St) (vs : List Nat) : wipe (wipe σ vs) vs = wipe σ vs := wipe_same (wipe_length _ _) fun i hi => wipe_out hi
theorem SR.wiped {K : PySem.W.Frag} {am : AM} {H : Hp} {σ : L2.St} {τ : Slots} (s : SR K am H σ τ) (vs : List Nat) : SRo K (· ∈ vs) am H (wipe σ vs) τ :=
  ⟨by rw [wipe_length]; exact s.len, fun i w h hi => by
    obtain ⟨v, h1, h2⟩ := s.at_ i w h
    exact ⟨v, by rw [wipe_out hi]; exact h1, h2⟩⟩

/-! ### a list comprehension -/
theorem noExc_fin {α β : Type} {E E' : Value → Option Addr → Hp → Prop} {am : AM} {H : Hp} {r : R α} {f : α → Store → R β} {ok : β → Store → AM → Hp → Prop} (h : Fin G E am H ((noExc r).bind f) ok) :
    Fin G E' am H r (fun a S _ _ => Fin G E am H (f a S) ok) := by
  cases r with
  | ok a S => exact fun _ _ _ _ => h
  | exc c p S => exact h.elim
  | stuck => exact h.elim
/-- a test in a block -/
def rdC (G : Gx) (C : Calls) (Wx : WX) (t : T) : TT := fun σ H Q => ∃ am S τ, At G am S τ σ H ∧ Fin G (Ev G Wx σ) am H (evB C t τ S) (fun b _ _ H => Q b H)
theorem pts_true {Y : Cx} : PTs Y [] (rdB G C Wx (.cbl true)) := ⟨fun pins s σ H Q I ⟨am, S, τ, z, q⟩ => pts_nil.run pins s σ H Q I (by
  have q1 : Fin G (Ev G Wx σ) am H (R.ok true S) (fun b _ _ H => Q b H) := q
  exact q1 am H (Ext.refl _ _) z.rel)⟩
theorem Ext.turn {am am' : AM} {H H' : Hp} {p : Addr} {o : HO} {S : Store} {K : PySem.W.Frag} (r : Rel K am H S) (e : Ext am H am' H') (hp : H p = none) : Ext am H am' (upd H' p o) :=
  ⟨⟨e.pre, fun a u ha n => let ⟨h1, n1⟩ := e.keep a u ha n; ⟨by rw [upd_ne (ne_of_none ha hp)]; exact h1, n1⟩⟩, e.sub, fun a u h ha => by rw [upd_ne (ne_of_none ha hp)]; exact e.priv a u h ha⟩
theorem Ext.free {am am' : AM} {H H' : Hp} {p : Addr} {S : Store} {K : PySem.W.Frag} (r : Rel K am H S) (e : Ext am H am' H') (hp : H p = none) : Ext am H (am'.free p) H' :=
  ⟨⟨e.pre, fun a u ha n => let ⟨h1, n1⟩ := e.keep a u ha n; ⟨h1, fun z => n1 (AM.of_free z)⟩⟩, fun a ha => by
    obtain ⟨u, hu⟩ := r.there a ha
    exact List.mem_filter.mpr ⟨e.sub a ha, by simpa using ne_of_none hu hp⟩, e.priv⟩
theorem upd_self {H : Hp} {p : Addr} {o : HO} (h : H p = some o) : upd H p o = H := by
  funext a
  by_cases e : a = p
  · subst e; rw [upd_same, h]
  · rw [upd_ne e]
theorem mkL_out {m : Bool} {l : List W} {vs : List V} {S S' : Store} {E : Value → Option Addr → Hp → Prop} {am am' : AM} {H H' : Hp} {Q : VK} {p : Addr} (r0 : Rel G.K am H S) (r : Rel G.K am' H' S') (e : Ext am H am' H') (hp : H p = none) (hv : p ∈ am'.pv) (hD : H' p = some (.lst vs)) (h : VRs G.K am' H' vs l) (q : Fin G E am H (mkL m l S') (OkV G Q)) : Q (.ref p) H' := by
  cases m with
  | false =>
    obtain ⟨r1, m1⟩ := r.show' p
    exact q _ _ (e.free r0 hp) r1 _ (.lst hD (AM.not_free (r.apart p hv)) (h.mv m1))
  | true =>
    have r2 := r.toCell (o := .lst vs) hv (c := .lst l) ⟨vs, upd_same, h.mv (r.mvCell hv)⟩
    rw [upd_self hD] at r2
    exact q _ _ (Ext.more (e.free r0 hp) hp) r2 _ (.loc r.last')
theorem s_lc (c : Cn tb G C k X Wx) {m : Bool} {g : Tg} {it : PyI.TI} {t e : T} {tg : Expr} {scope : Scope} {own : List (Str × Nat)} (ho : own.map (·.2) = g.ix)
    (hg : chkG X.N scope g tg = true) :
    ∀ σ H Q, rdT G C Wx (.lc m g it t e) σ H Q → tLc (rdI G C Wx it) (tgG X.K g) (rdB G C noW t) (rdT G C noW e) (own.map (·.2)) σ H Q := by
  intro σ H Q ⟨am, S, τ, z, q⟩
  rw [ho]
  refine ⟨am, S, τ, z, ?_⟩
  simp only [ev] at q
  obtain ⟨F, hF⟩ : ∃ F : W → Store → R (Option W), F = fun x S => (lift S (bindT g x τ)).bind fun σ1 S =>
      (ev C t σ1 S).bind fun t S => (lift S (truth S t)).bind fun t S => if t then (ev C e σ1 S).bind fun w S => .ok (some w) S else .ok none S := ⟨_, rfl⟩
  rw [← hF] at q
  refine q.bind.imp fun p S1 am1 H1 e1 r1 q1 J hJ D hD => ?_
  obtain ⟨ws, gd⟩ := p
  obtain ⟨hlen, q1⟩ := q1.need
  have z1 := z.next e1 r1
  obtain ⟨P, hP⟩ : ∃ P : Nat → Hp → Prop, P = fun i H' => i ≤ ws.length ∧ ∃ am' S' ac vs, Ext am1 H1 am' H' ∧ Rel G.K am' H' S' ∧ D ∈ am'.pv ∧ H' D = some (.lst vs) ∧ VRs G.K am' H' vs ac ∧ vs.length ≤ i ∧
    Fin G (Ev G Wx σ) am1 H1 ((lcRun F gd (ws.drop i) S').bind fun r S => mkL m (ac ++ r) S) (OkV G Q) := ⟨_, rfl⟩
  refine ⟨fun i m H' => m = ws.length - i ∧ P i H', ⟨ws.length, by simp, ?_⟩, ?_⟩
  · obtain ⟨r2, e2⟩ := r1.hide (o := .lst []) hD
    rw [hP]
    exact ⟨Nat.zero_le _, _, S1, [], [], e2, r2, .head _, upd_same, .nil, Nat.le_refl _, by simpa using q1⟩
  rintro i mm H' ⟨rfl, h⟩
  have h' := h
  rw [hP] at h'
  obtain ⟨hi', am', S', ac, vs, e', r', hv', hD', hac, hvl, q'⟩ := h'
  by_cases hlt : i < ws.length
  · right
    rw [List.drop_eq_getElem_cons hlt] at q'
    simp only [lcRun] at q'
    have hq : GuardOk gd S' ∧ Fin G (Ev G Wx σ) am1 H1 (((noExc (F ws[i] S')).bind fun o S1 => (lcRun F gd (ws.drop (i + 1)) S1).bind fun r S2 => .ok (match o with | some w => w :: r | none => r) S2).bind fun r S => mkL m (ac ++ r) S) (OkV G Q) := by
      cases gd with
      | none => exact ⟨trivial, q'⟩
      | some pr =>
        unfold held at q'
        simp only at q'
        split at q'
        · rename_i hh; exact ⟨hh, q'⟩
        · exact q'.elim
    obtain ⟨hgd, q2⟩ := hq
    obtain ⟨hgo, hy⟩ := hJ.go am' H' S' e' r' hgd i ws[i] (List.getElem?_eq_getElem hlt)
    refine ⟨hgo, P (i + 1), fun H2 h2 => ⟨ws.length - (i + 1), by omega, rfl, h2⟩, fun x H2 hx => ?_⟩
    rw [hP]
    obtain ⟨ex, rx, vx⟩ := hy x H2 hx
    have e2 := e'.trans ex
    rw [R.bind_assoc] at q2
    have q3 := noExc_fin (E' := fun _ _ _ => False) q2
    rw [hF] at q3
    have q4 := q3.bindU
    obtain ⟨τ1, et, q5⟩ := q4.lift
    have q5 := q5 am' H2 e2 rx
    rw [c.hK]
    refine bind_ok et vx ((z1.sl.mono e2).wiped g.ix) fun σ1 st => ?_
    have hs1 : SR G.K am' H2 σ1 τ1 := st.sr.sr fun i hi => hi.2 hi.1
    refine ⟨(wipe_same st.len st.out).trans (wipe_wipe _ _), am', S', τ1, ⟨rx, hs1⟩, ?_⟩
    have p3 := noExc_fin (E' := Ev G noW σ1) q2
    rw [hF] at p3
    have p4 := p3.bindU
    rw [et] at p4
    have q6 := p4 am' H2 e2 rx
    have ea : ((ev C t τ1 S').bind fun t S => (lift S (truth S t)).bind fun t S => if t then (ev C e τ1 S).bind fun w S => .ok (some w) S else .ok none S) = (evB C t τ1 S').bind fun b S => if b then (ev C e τ1 S).bind fun w S => .ok (some w) S else .ok none S := by
      unfold evB
      rw [R.bind_assoc]
    dsimp only at q6
    rw [ea, ← hF] at q6
    refine (Fin.base e2 q6.bindU).imp fun b S3 am3 H3 e3 r3 q7 => ?_
    have e13 := e2.trans e3
    have hv3 := e3.sub D (ex.sub D hv')
    have hD3 := e3.priv D _ (ex.sub D hv') (ex.priv D _ hv' hD')
    cases b with
    | true =>
      dsimp only
      rw [if_pos rfl] at q7 ⊢
      refine ⟨am3, S3, τ1, ⟨r3, hs1.mono e3⟩, ?_⟩
      refine (Fin.base e13 q7.bindU).imp fun w S4 am4 H4 e4 r4 q8 y hy => ?_
      have e14 := e13.trans e4
      have hv4 := e4.sub D hv3
      have hD4 := e4.priv D _ hv3 hD3
      have q9 := q8 am4 H4 e14 r4
      dsimp only at q9
      obtain ⟨r5, m5⟩ := r4.turn (o := .lst (vs ++ [y])) hv4
      refine ⟨vs, hD4, Nat.lt_of_le_of_lt hvl (Nat.lt_of_lt_of_le hlt hlen), hlt, am4, S4, ac ++ [w], vs ++ [y], e14.turn r1 hD, r5, hv4, upd_same, ?_, by simpa using hvl, ?_⟩
      · exact ((((hac.mono ex).mono e3).mono e4).append (.cons hy .nil)).mv m5
      · rw [R.bind_assoc] at q9
        simp only [R.bind_ok] at q9
        simpa using q9
    | false =>
      dsimp only
      rw [if_neg Bool.false_ne_true] at q7 ⊢
      have q9 := q7 am3 H3 e13 r3
      dsimp only at q9
      refine ⟨hlt, am3, S3, ac, vs, e13, r3, hv3, hD3, (hac.mono ex).mono e3, by omega, ?_⟩
      rw [R.bind_assoc] at q9
      simpa only [R.bind_ok] using q9
  · left
    have hie : i = ws.length := by omega
    subst hie
    rw [List.drop_length] at q'
    simp only [lcRun] at q'
    have hq : GuardOk gd S' ∧ Fin G (Ev G Wx σ) am1 H1 ((R.ok ([] : List W) S').bind fun r S => mkL m (ac ++ r) S) (OkV G Q) := by
      cases gd with
      | none => exact ⟨trivial, q'⟩
      | some pr =>
        unfold held at q'
        simp only at q'
        split at q'
        · rename_i hh; exact ⟨hh, q'⟩
        · exact q'.elim
    obtain ⟨hgd, q2⟩ := hq
    refine ⟨hJ.stop am' H' S' e' r' hgd _ (Nat.le_refl _), ?_⟩
    simp only [R.bind_ok, List.append_nil] at q2
    exact mkL_out r1 r' e' hD hv' hD' hac q2
end
end PyI

/-! PyI, part 10: the soundness of every checked expression. Own work. -/
namespace PyI
open PySem PySem.Spec PyProof.Rows L2
section
variable {tb : Tb} {G : Gx} {C : Calls} {k : Nat}

/-- an expression as a value and as a test -/
abbrev Both (G : Gx) (C : Calls) (X : Cx) (Wx : WX) (t : T) (e : Expr) : Prop := PE X e (rdT G C Wx t) ∧ PT X e (rdB G C Wx t)
theorem both {X : Cx} {Wx : WX} (c : Cn tb G C k X Wx) {t : T} {e : Expr} (h : PE X e (rdT G C Wx t)) (he : ∀ whole, isTrue e X.env whole = (do let v ← whole; standAt e.pos; holding [v] (truthy v))) : Both G C X Wx t e := ⟨h, t_any c h he⟩
theorem isNon_eq {t : T} (h : t.isNon = true) : t = .cnon := by
  cases t <;> first | rfl | cases h
theorem isTrue_eq {t : T} (h : t.isTrue = true) : t = .cbl true := by
  cases t <;> first | (cases h; done) | skip
  rename_i b
  cases b
  · cases h
  · rfl
theorem chkI_fold {N : List Str} {it : PyI.TI} {sc : Scope} {tg e : Expr} {env : PySem.Env} (h : chkI tb N it sc tg e = true) : ∀ x, foldedSetIterable e env x = pure x := by
  cases it <;> unfold chkI at h
  · exact fold_plain (chk_plain h)
  all_goals (split at h <;> first | cases h; done | exact fun _ => rfl)
mutual
theorem sndT : ∀ (t : T) {X : Cx} {Wx : WX} (c : Cn tb G C k X Wx) {e : Expr}, chkT tb X.N t X.env.scope e = true → Both G C X Wx t e
  | .var i, X, Wx, c, e, h => by
    have h' := h
    unfold chkT at h'
    split at h' <;> first | cases h'; done | skip
    exact both c (s_var c h) fun _ => rfl
  | .cint i, X, Wx, c, e, h => by
    have h' := h
    unfold chkT at h'
    split at h' <;> first | cases h'; done | skip
    exact both c (s_cint h) fun _ => rfl
  | .cbl i, X, Wx, c, e, h => by
    have h' := h
    unfold chkT at h'
    split at h' <;> first | cases h'; done | skip
    exact both c (s_cbl h) fun _ => rfl
  | .cnon, X, Wx, c, e, h => by
    have h' := h
    unfold chkT at h'
    split at h' <;> first | cases h'; done | skip
    exact both c (s_cnon h) fun _ => rfl
  | .cstr i, X, Wx, c, e, h => by
    have h' := h
    unfold chkT at h'
    split at h' <;> first | cases h'; done | skip
    exact both c (s_cstr h) fun _ => rfl
  | .gl w, X, Wx, c, e, h => by
    have h' := h
    unfold chkT at h'
    split at h' <;> first | cases h'; done | skip
    exact both c (s_gl c h) fun _ => rfl
  | .tup es, X, Wx, c, e, h => by
    unfold chkT at h
    split at h <;> first | cases h; done | skip
    exact both c (s_tup (sndL es c h).pa) fun _ => rfl
  | .lst m es, X, Wx, c, e, h => by
    unfold chkT at h
    split at h <;> first | cases h; done | skip
    exact both c (s_lst (sndL es c h).pa) fun _ => rfl
  | .dct ks es, X, Wx, c, e, h => by
    unfold chkT at h
    split at h <;> first | cases h; done | skip
    simp only [Bool.and_eq_true, decide_eq_true_eq] at h
    exact both c (s_dct h.1.1.1 h.1.2 h.2 (sndL es c h.1.1.2)) fun _ => rfl
  | .bin op a b, X, Wx, c, e, h => by
    unfold chkT at h
    split at h <;> first | cases h; done | skip
    simp only [Bool.and_eq_true, decide_eq_true_eq] at h
    obtain ⟨⟨rfl, h1⟩, h2⟩ := h
    exact both c (s_bin c (sndT a c h1).1 (sndT b c h2).1) fun _ => rfl
  | .neg a, X, Wx, c, e, h => by
    unfold chkT at h
    split at h <;> first | cases h; done | skip
    exact both c (s_neg (sndT a c h).1) fun _ => rfl
  | .cmp op a b, X, Wx, c, e, h => by
    unfold chkT at h
    split at h <;> first | cases h; done | skip
    simp only [Bool.and_eq_true, decide_eq_true_eq] at h
    obtain ⟨⟨rfl, h1⟩, h2⟩ := h
    exact ⟨s_cmp c (chk_plain h2) (sndT a c h1).1 (sndT b c h2).1, t_cmp c (chk_plain h2) (sndT a c h1).1 (sndT b c h2).1⟩
  | .chain o p a b d, X, Wx, c, e, h => by
    unfold chkT at h
    split at h <;> first | cases h; done | skip
    simp only [Bool.and_eq_true, decide_eq_true_eq] at h
    obtain ⟨⟨⟨⟨rfl, rfl⟩, h1⟩, h2⟩, h3⟩ := h
    exact ⟨s_chain c (chk_plain h3) (sndT a c h1).1 (sndT b c h2).1 (sndT d c h3).1, t_chain c (chk_plain h3) (sndT a c h1).1 (sndT b c h2).1 (sndT d c h3).1⟩
  | .not a, X, Wx, c, e, h => by
    unfold chkT at h
    split at h <;> first | cases h; done | skip
    exact ⟨s_not (sndT a c h).1, t_not (sndT a c h).2⟩
  | .and es, X, Wx, c, e, h => by
    unfold chkT at h
    split at h <;> first | cases h; done | skip
    rename_i pos
    have r := (sndL es c h).and (pos := pos)
    exact ⟨r.1, (r.2).pt⟩
  | .or es, X, Wx, c, e, h => by
    unfold chkT at h
    split at h <;> first | cases h; done | skip
    rename_i pos
    have r := (sndL es c h).or (pos := pos)
    exact ⟨r.1, (r.2).pt⟩
  | .ite u a b, X, Wx, c, e, h => by
    unfold chkT at h
    split at h <;> first | cases h; done | skip
    simp only [Bool.and_eq_true] at h
    obtain ⟨⟨h1, h2⟩, h3⟩ := h
    exact ⟨s_ite (sndT u c h1).2 (sndT a c h2).1 (sndT b c h3).1, t_ite (sndT u c h1).2 (sndT a c h2).2 (sndT b c h3).2⟩
  | .idx a b, X, Wx, c, e, h => by
    unfold chkT at h
    split at h <;> first | cases h; done | skip
    simp only [Bool.and_eq_true] at h
    exact both c (s_idx c (chk_plain h.2) (sndT a c h.1).1 (sndT b c h.2).1) fun _ => rfl
  | .slice a lo hi, X, Wx, c, e, h => by
    unfold chkT at h
    split at h <;> first | cases h; done | skip
    simp only [Bool.and_eq_true] at h
    obtain ⟨⟨h1, h2⟩, h3⟩ := h
    refine both c (s_slice c (sndT a c h1).1 ?_ ?_) fun _ => rfl
    · split at h2
      · rw [isNon_eq h2]; exact o_none
      · exact o_some (sndT lo c h2).1
    · split at h3
      · rw [isNon_eq h3]; exact o_none
      · exact o_some (sndT hi c h3).1
  | .call f es, X, Wx, c, e, h => by
    unfold chkT at h
    split at h <;> first | cases h; done | skip
    rename_i l pos
    simp only [Bool.and_eq_true, decide_eq_true_eq] at h
    obtain ⟨⟨⟨h1, h2⟩, h3⟩, h4⟩ := h
    have hs := sndL es c h4
    cases l with
    | nil =>
      cases es with
      | nil => exact both c (s_call0 c h1 h2 h3) fun _ => rfl
      | cons a r => exact hs.elim
    | cons y l => exact both c (s_call1 c h1 h2 h3 hs.plain hs.pa) fun _ => rfl
  | .blt f es, X, Wx, c, e, h => by
    unfold chkT at h
    split at h <;> first | cases h; done | skip
    simp only [Bool.and_eq_true, decide_eq_true_eq] at h
    obtain ⟨⟨⟨h1, rfl⟩, h3⟩, h4⟩ := h
    have hs := sndL es c h4
    exact both c (s_blt c h1 h3 hs.plain hs.pa) fun _ => rfl
  | .mth m o es, X, Wx, c, e, h => by
    unfold chkT at h
    split at h <;> first | cases h; done | skip
    rename_i l cp
    simp only [Bool.and_eq_true, decide_eq_true_eq] at h
    obtain ⟨⟨⟨⟨⟨rfl, h1⟩, h2⟩, h3⟩, h4⟩, h5⟩ := h
    have ho := (sndT o c h4).1
    have hs := sndL es c h5
    cases m with
    | pop =>
      cases l with
      | cons y l => cases h3
      | nil =>
        cases es with
        | cons a r => exact hs.elim
        | nil => exact both c (s_pop c h1 h2 ho) fun _ => rfl
    | append =>
      match l, h3 with
      | [y], _ => exact both c (s_append c h1 h2 (hs.plain y (by simp)) ho hs.pa) fun _ => rfl
    | extend =>
      match l, h3 with
      | [y], _ => exact both c (s_extend c h1 h2 (hs.plain y (by simp)) ho hs.pa) fun _ => rfl
    | get2 =>
      match l, h3 with
      | [y, z], _ =>
        match es, hs with
        | .cons a (.cons b .nil), hs => exact both c (s_get2 c h1 h2 hs.1 hs.2.2.2.1 ho hs.2.1 hs.2.2.2.2.1) fun _ => rfl
        | .nil, hs => cases hs
        | .cons a .nil, hs => cases hs.2.2.2
        | .cons a (.cons b (.cons d r)), hs => exact hs.2.2.2.2.2.2.elim
  | .lc m g it t u, X, Wx, c, e, h => by
    unfold chkT at h
    split at h <;> first | cases h; done | skip
    simp only [Bool.and_eq_true, decide_eq_true_eq] at h
    obtain ⟨⟨⟨⟨⟨rfl, h1⟩, h2⟩, h3⟩, h4⟩, h5⟩ := h
    rename_i elt tg iter ifs scope pos
    have ok := blkOk_by h3
    have ho : (ownOf X.N g).map (·.2) = g.ix := by
      unfold ownOf
      rw [List.map_map]
      exact (List.map_congr_left fun _ _ => rfl).trans (List.map_id _)
    have hf : ∀ x, foldedSetIterable iter X.env x = pure x := chkI_fold h1
    refine both c (PE.weak (pe_lc c.calm c.nd (sndI it c h1) ok (fun s H A cl fp => pg_of (X := X.blk s H scope _ fp) c.calm c.nd sto_blk h2) (fun s H A cl fp => ?_) (fun s H A cl fp => (sndT u (c.blk s H scope _ fp) h5).1) hf) (s_lc c ho h2)) fun _ => rfl
    split at h4
    · rw [isTrue_eq h4]; exact pts_true
    · exact pts_one (sndT t (c.blk s H scope _ fp) h4).2
    · cases h4
theorem sndL : ∀ (t : TL) {X : Cx} {Wx : WX} (c : Cn tb G C k X Wx) {l : List Expr}, chkL tb X.N t X.env.scope l = true → PEs G C X Wx t l
  | .nil, X, Wx, c, [], h => rfl
  | .nil, X, Wx, c, _ :: _, h => by simp [chkL] at h
  | .cons a r, X, Wx, c, [], h => by simp [chkL] at h
  | .cons a r, X, Wx, c, x :: s, h => by
    simp only [chkL, Bool.and_eq_true] at h
    exact ⟨chk_plain h.1, (sndT a c h.1).1, (sndT a c h.1).2, sndL r c h.2⟩
theorem sndI : ∀ (t : PyI.TI) {X : Cx} {Wx : WX} (c : Cn tb G C k X Wx) {tg e : Expr}, chkI tb X.N t X.env.scope tg e = true → PI X tg e (rdI G C Wx t)
  | .seq t, X, Wx, c, tg, e, h => by
    simp only [chkI] at h
    exact i_seq c (sndT t c h).1
  | .rng t, X, Wx, c, tg, e, h => by
    unfold chkI at h
    split at h <;> first | cases h; done | skip
    simp only [Bool.and_eq_true, decide_eq_true_eq] at h
    obtain ⟨⟨⟨h1, rfl⟩, h3⟩, h4⟩ := h
    exact i_rng c h1 h3 (chk_plain h4) (sndT t c h4).1
  | .rng2 t u, X, Wx, c, tg, e, h => by
    unfold chkI at h
    split at h <;> first | cases h; done | skip
    simp only [Bool.and_eq_true, decide_eq_true_eq] at h
    obtain ⟨⟨⟨⟨h1, rfl⟩, h3⟩, h4⟩, h5⟩ := h
    exact i_rng2 c h1 h3 (chk_plain h4) (chk_plain h5) (sndT t c h4).1 (sndT u c h5).1
  | .zip t u, X, Wx, c, tg, e, h => by
    unfold chkI at h
    split at h <;> first | cases h; done | skip
    simp only [Bool.and_eq_true, decide_eq_true_eq] at h
    obtain ⟨⟨⟨⟨h1, rfl⟩, h3⟩, h4⟩, h5⟩ := h
    exact i_zip c h1 h3 (chk_plain h4) (chk_plain h5) (sndT t c h4).1 (sndT u c h5).1
  | .enum t, X, Wx, c, tg, e, h => by
    unfold chkI at h
    split at h <;> first | cases h; done | skip
    simp only [Bool.and_eq_true, decide_eq_true_eq] at h
    obtain ⟨⟨⟨h1, rfl⟩, h3⟩, h4⟩ := h
    exact i_enum c h1 h3 (chk_plain h4) (sndT t c h4).1
end
end
end PyI

/-! PyI, part 11: statements. Own work. -/
namespace PyI
open PySem PySem.Spec PyProof.Rows L2

/-- an outcome's promise -/
def FinO (G : Gx) (Wx : WX) (am : AM) (H : Hp) (o : O) (D : Ends) : Prop := match o with
  | .nx τ S => ∀ σ' am' H', Ext am H am' H' → At G am' S τ σ' H' → D.nx σ' H'
  | .bk τ S => ∀ σ' am' H', Ext am H am' H' → At G am' S τ σ' H' → D.bk σ' H'
  | .ct τ S => ∀ σ' am' H', Ext am H am' H' → At G am' S τ σ' H' → D.ct σ' H'
  | .rt w S => ∀ v am' H', Ext am H am' H' → Rel G.K am' H' S → VR G.K am' H' v w → D.rt v H'
  | .exc c p τ S => ∀ cls d σ' am' H', Ext am H am' H' → At G am' S τ σ' H' → XR G.et G.K am' H' cls d c p → Wx cls d σ' H'
  | .stuck => False
section
variable {tb : Tb} {G : Gx} {C : Calls} {k : Nat} {X : Cx} {Wx : WX} {am am0 : AM} {H H0 : Hp} {o : O} {D D' : Ends} {S : Store} {τ : Slots} {σ : L2.St}
theorem FinO.base (e : Ext am0 H0 am H) (h : FinO G Wx am0 H0 o D) : FinO G Wx am H o D := by
  cases o with
  | nx τ S => exact fun σ' am' H' f => h σ' am' H' (e.trans f)
  | bk τ S => exact fun σ' am' H' f => h σ' am' H' (e.trans f)
  | ct τ S => exact fun σ' am' H' f => h σ' am' H' (e.trans f)
  | rt w S => exact fun v am' H' f => h v am' H' (e.trans f)
  | exc c p τ S => exact fun cls d σ' am' H' f => h cls d σ' am' H' (e.trans f)
  | stuck => exact h
theorem FinO.to {α : Type} {r : R α} {f : α → Store → O} (s : SR G.K am H σ τ) (h : FinO G Wx am H (r.to τ f) D) : Fin G (Ev G Wx σ) am H r (fun a S am' H' => FinO G Wx am' H' (f a S) D) := by
  cases r with
  | ok a S => exact fun am' H' e _ => FinO.base e h
  | exc c p S => exact fun cls d am' H' e r x => h cls d σ am' H' e ⟨r, s.mono e⟩ x
  | stuck => exact h
/-- a statement, a suite -/
def rdS (G : Gx) (C : Calls) (Wx : WX) (t : PyI.TS) : L2.TS := fun D σ H => ∃ am S τ, At G am S τ σ H ∧ FinO G Wx am H (ex C t τ S) D
def rdSs (G : Gx) (C : Calls) (Wx : WX) (t : TSL) : L2.TS := fun D σ H => ∃ am S τ, At G am S τ σ H ∧ FinO G Wx am H (exL C t τ S) D
theorem FinO.then {f : Slots → Store → O} (h : FinO G Wx am H (o.then f) D) : FinO G Wx am H o { D with nx := fun σ H => ∃ am S τ, At G am S τ σ H ∧ FinO G Wx am H (f τ S) D } := by
  cases o with
  | nx τ S => exact fun σ' am' H' e z => ⟨am', S, τ, z, FinO.base e h⟩
  | bk τ S => exact h
  | ct τ S => exact h
  | rt w S => exact h
  | exc c p τ S => exact h
  | stuck => exact h
theorem PS.weak {e : Stmt} {t t' : L2.TS} (h : PS X e t) (i : ∀ D σ H, t' D σ H → t D σ H) : PS X e t' := ⟨fun pins s σ H Q I q => h.run pins s σ H Q I (i _ _ _ q)⟩
theorem PSs.weak {e : List Stmt} {t t' : L2.TS} (h : PSs X e t) (i : ∀ D σ H, t' D σ H → t D σ H) : PSs X e t' := ⟨fun pins s σ H Q I q => h.run pins s σ H Q I (i _ _ _ q)⟩
/-- where statements stand -/
structure Cs (tb : Tb) (G : Gx) (C : Calls) (k : Nat) (X : Cx) (Wx : WX) : Prop extends Cn tb G C k X Wx where
  sto : Sto X X.env.scope
  pas : PassesOwn (model X.prog X.w) X.A X.env X.xe

theorem z_asg (c : Cs tb G C k X Wx) {g : Tg} {e : T} : ∀ D σ H, rdS G C Wx (.asg g e) D σ H → tAsg (rdT G C Wx e) (tgG X.K g) D σ H := by
  intro D σ H ⟨am, S, τ, z, q⟩
  refine ⟨am, S, τ, z, ?_⟩
  simp only [ex] at q
  refine (FinO.to z.sl q).imp fun w S1 am1 H1 e1 r1 q1 v hv => ?_
  split at q1
  · rename_i τ1 et
    rw [c.hK]
    exact bind_ok et hv (z.sl.mono e1).o fun σ1 st => q1 σ1 am1 H1 (Ext.refl _ _) ⟨r1, st.sr.sr fun i hi => hi.1⟩
  · exact q1.elim
theorem sw_plain {v : Expr} {tg : Option Expr} {l : Nat} {env : PySem.Env} (h : compX v = false) : swapsWith v tg l env = pure false := by
  cases v <;> first | rfl | cases h
theorem sws_plain {v tg : Expr} {l : Nat} {env : PySem.Env} (h : compX v = false) : swapsWithSole [tg] v l env = pure false := sw_plain h
theorem stores_none {v tg : Expr} {env : PySem.Env} {N : List Str} {sc : Scope} {g : Tg} (h : chkG N sc g tg = true) (hn : (isTupX tg && isTupX v) = false) : swappedStores [tg] v env = pure none := by
  rcases tg_plain h with ⟨x, p, rfl⟩ | ⟨l, j, p, rfl⟩
  · cases v <;> rfl
  · cases v <;> first | rfl | cases hn
theorem p_asg (c : Cs tb G C k X Wx) {g : Tg} {e : T} {tg v : Expr} {pos : Pos} (hg : chkG X.N X.env.scope g tg = true) (hv : chkT tb X.N e X.env.scope v = true) (hn : (isTupX tg && isTupX v) = false) : PS X (.Assign [tg] v pos) (rdS G C Wx (.asg g e)) := by
  have pg := pg_of (X := X) c.calm c.nd c.sto hg
  have he : (assignEach [tg] X.env).map (·.2) = [assign tg X.env] := by
    rw [tg_each hg]; rfl
  cases hc : compX v with
  | false => exact PS.weak (ps_asg (sndT e c.toCn hv).1 pg (sws_plain hc) (stores_none hg hn) he) (z_asg c)
  | true =>
    have hlc : ∃ elt gs scope p, v = .ListComp elt gs scope p := by
      have hp := chk_plain hv
      cases v <;> first | exact ⟨_, _, _, _, rfl⟩ | (cases hp; done) | cases hc
    obtain ⟨elt, gs, scope, p, rfl⟩ := hlc
    rcases tg_plain hg with ⟨y, py, rfl⟩ | ⟨l, j, p2, rfl⟩
    · have hsw : swapsWith (.ListComp elt gs scope p) (some (.Name y py)) pos.line X.env = pure (X.env.blockKind == .function && X.env.kindOf y == some .local && py.line == p.line && !(scope.names.any fun (n, k) => n == y && (k == .local || k == .cell))) := rfl
      cases hb : (X.env.blockKind == .function && X.env.kindOf y == some .local && py.line == p.line && !(scope.names.any fun (n, k) => n == y && (k == .local || k == .cell))) with
      | false =>
        rw [hb] at hsw
        exact PS.weak (ps_asg (sndT e c.toCn hv).1 pg hsw (stores_none hg hn) he) (z_asg c)
      | true =>
        rw [hb] at hsw
        simp only [Bool.and_eq_true] at hb
        have hyl : X.env.scope.names.lookup y = some .local := eq_of_beq hb.1.1.2
        cases g with
        | nm i =>
          have hi : X.N[i]? = some y := by
            simp only [chkG, Bool.and_eq_true, decide_eq_true_eq] at hg
            exact hg.1
          cases e <;> simp only [chkT] at hv <;> try (cases hv; done)
          rename_i m g2 it t u
          split at hv <;> first | (cases hv; done) | skip
          rename_i elt2 tg2 iter2 ifs2 k2 scope2 p3 heq
          cases heq
          simp only [Bool.and_eq_true, decide_eq_true_eq] at hv
          obtain ⟨⟨⟨⟨⟨rfl, h1⟩, h2⟩, h3⟩, h4⟩, h5⟩ := hv
          have ok := blkOk_by h3
          have ho : (ownOf X.N g2).map (·.2) = g2.ix := by
            unfold ownOf
            rw [List.map_map]
            exact (List.map_congr_left fun _ _ => rfl).trans (List.map_id _)
          refine PS.weak (ps_setLc (g := tgG X.K g2) (tt := rdB G C noW t) c.calm c.nd hi hyl hsw (sndI it c.toCn h1) ok (fun s H A cl fp => pg_of (X := X.blk s H scope _ fp) c.calm c.nd sto_blk h2) (fun s H A cl fp => ?_) (fun s H A cl fp => (sndT u (c.toCn.blk s H scope _ fp) h5).1) (chkI_fold h1)) fun D σ H q => ?_
          · split at h4
            · rw [isTrue_eq h4]; exact pts_true
            · exact pts_one (sndT t (c.toCn.blk s H scope _ fp) h4).2
            · cases h4
          · have q2 := z_asg c D σ H q
            exact s_lc c.toCn ho h2 _ _ _ q2
        | t2 a b => simp [chkG] at hg
        | t3 a b d => simp [chkG] at hg
    · exact PS.weak (ps_asg (sndT e c.toCn hv).1 pg (by rfl) (stores_none hg hn) he) (z_asg c)

/-! ### names side by side -/
theorem swN_of {N : List Str} {sc : Scope} {l i : Nat} {e : Expr} (h : swN N sc l i e = true) : ∃ x p, e = .Name x p ∧ N[i]? = some x ∧ sc.names.lookup x = some .local ∧ (p.line == l) = true := by
  unfold swN at h
  split at h <;> first | (cases h; done) | skip
  simp only [Bool.and_eq_true, decide_eq_true_eq] at h
  exact ⟨_, _, rfl, h.1.1, eq_of_beq h.1.2, h.2⟩
theorem isFunK_of {sc : Scope} (h : isFunK sc = true) : sc.kind = .function := by
  unfold isFunK at h
  split at h <;> first | assumption | cases h
theorem name_ne {N : List Str} {i j : Nat} {x y : Str} (nd : N.Nodup) (hi : N[i]? = some x) (hj : N[j]? = some y) (h : i ≠ j) : x ≠ y := fun e => by
  subst e
  obtain ⟨h1, e1⟩ := List.getElem?_eq_some_iff.mp hi
  obtain ⟨h2, e2⟩ := List.getElem?_eq_some_iff.mp hj
  exact h ((List.getElem_inj nd).mp (e1.trans e2.symm))
theorem kindOf_of {env : PySem.Env} {x : Str} {kd : NameKind} (h : env.scope.names.lookup x = some kd) : env.kindOf x = some kd := h
theorem blockK_of {env : PySem.Env} (h : env.scope.kind = .function) : env.blockKind = .function := by unfold Env.blockKind; rw [h]; rfl
theorem sw2 {env : PySem.Env} {x y : Str} {px py pt pt2 : Pos} {kt k2 : Nat} {a b : Expr} (hk : env.scope.kind = .function) (hx : env.scope.names.lookup x = some .local) (hy : env.scope.names.lookup y = some .local) (hl : (py.line == px.line) = true) (hne : x ≠ y)
    (pa : plainX a = true) (pb : plainX b = true) (h1 : [a, b].all (foldedForSure 8) = false) (h2 : [a, b].all (constantsAlone 8) = false) : swappedStores [.Tuple [.Name x px, .Name y py] kt pt] (.Tuple [a, b] k2 pt2) env = pure (some [x, y]) := by
  have ne : ¬ y == x := fun e => hne (eq_of_beq e).symm
  unfold swappedStores
  simp only [kindOf_of hx, kindOf_of hy, blockK_of hk, Expr.pos, List.head?, Option.map, Option.getD, hl, h1, h2, List.any_cons, List.any_nil, List.filterMap]
  simp [List.eraseDups, List.eraseDupsBy, List.eraseDupsBy.loop, ne, hne, hne.symm]
  rintro (h | h)
  · exfalso; cases a <;> first | (cases pa; done) | (cases h; done)
  · exfalso; cases b <;> first | (cases pb; done) | (cases h; done)
theorem sw3 {env : PySem.Env} {x y z : Str} {px py pz pt pt2 : Pos} {kt k2 : Nat} {a b d : Expr} (hk : env.scope.kind = .function) (hx : env.scope.names.lookup x = some .local) (hy : env.scope.names.lookup y = some .local) (hz : env.scope.names.lookup z = some .local) (hl : (py.line == px.line) = true) (hl2 : (pz.line == px.line) = true) (hne : x ≠ y) (hnz : x ≠ z) (hyz : y ≠ z)
    (pa : plainX a = true) (pb : plainX b = true) (pd : plainX d = true) (h1 : [a, b, d].all (foldedForSure 8) = false) (h2 : [a, b, d].all (constantsAlone 8) = false) : swappedStores [.Tuple [.Name x px, .Name y py, .Name z pz] kt pt] (.Tuple [a, b, d] k2 pt2) env = pure (some [x, y, z]) := by
  unfold swappedStores
  simp only [kindOf_of hx, kindOf_of hy, kindOf_of hz, blockK_of hk, Expr.pos, List.head?, Option.map, Option.getD, hl, hl2, h1, h2, List.any_cons, List.any_nil, List.filterMap]
  have e1 : (y == x) = false := by simpa using fun e => hne e.symm
  have e2 : (z == x) = false := by simpa using fun e => hnz e.symm
  have e3 : (z == y) = false := by simpa using fun e => hyz e.symm
  simp [List.eraseDups, List.eraseDupsBy, List.eraseDupsBy.loop, e1, e2, e3]
  rintro (h | h | h)
  · exfalso; cases a <;> first | (cases pa; done) | (cases h; done)
  · exfalso; cases b <;> first | (cases pb; done) | (cases h; done)
  · exfalso; cases d <;> first | (cases pd; done) | (cases h; done)
/-- three names side by side -/
def tPar3 (i j l : Nat) (ta : TA) : L2.TS := fun D σ H => ta σ H fun vs H1 => ∃ v w u, vs = [v, w, u] ∧ D.nx (((σ.set i (some v)).set j (some w)).set l (some u)) H1
theorem ps_par3 {i j l : Nat} {x y z : Str} {a b d : Expr} {ta : TA} {px py pz pt pos : Pos} {kt k2 pt2} (hc : X.calm = true) (hN : X.N.Nodup) (hi : X.N[i]? = some x) (hj : X.N[j]? = some y) (hz : X.N[l]? = some z) (hij : i ≠ j) (hil : i ≠ l) (hjl : j ≠ l)
    (hx : X.env.scope.names.lookup x = some .local) (hy : X.env.scope.names.lookup y = some .local) (hzl : X.env.scope.names.lookup z = some .local) (ha : PA X [a, b, d] ta)
    (hw : swappedStores [.Tuple [.Name x px, .Name y py, .Name z pz] kt pt] (.Tuple [a, b, d] k2 pt2) X.env = pure (some [x, y, z])) :
    PS X (.Assign [.Tuple [.Name x px, .Name y py, .Name z pz] kt pt] (.Tuple [a, b, d] k2 pt2) pos) (tPar3 i j l ta) := by
  refine ⟨fun pins s σ H D I h => ?_⟩
  rw [exec_Assign_arm]
  refine wpAny_bind (wpAny_standAt ?_)
  refine wpAny_bind (wpAny_pure ?_)
  rw [if_neg (by decide)]
  refine wpAny_bind (Tuple_ (thn (ha.run _ pins s σ H _ I h) fun us s1 ⟨vs, H1, I1, r1, q1⟩ => ?_))
  obtain ⟨v, w, t, e1, q1⟩ := q1
  subst e1
  obtain ⟨u1, u2, u3, rfl, rv, rw', rt⟩ : ∃ u1 u2 u3, us = [u1, u2, u3] ∧ RelV v u1 ∧ RelV w u2 ∧ RelV t u3 := by
    cases r1 with
    | cons p q =>
      cases q with
      | cons p' q' =>
        cases q' with
        | cons p2 q2 =>
          cases q2
          exact ⟨_, _, _, rfl, p, p', p2⟩
  refine wpAny_newObj_type ?_ (by show 3 ≤ sizeLine; decide)
  have I2 : Inv X pins σ H1 { s1 with heap := s1.heap.push { cls := .type "tuple", data := .seq [u1, u2, u3].toArray } } := I1.kept (t' := s1.toks) fun b o e => Heap.get?_push_of_some _ e
  rw [hw]
  refine wpAny_bind (wpAny_pure ?_)
  show wpAny (model X.prog X.w) X.A (do rule "assign.swapped-stores"; let items ← unpackItems (.ref s1.heap.objs.size) 3 none; assignInOrder [fun v => bindName X.env z v, fun v => bindName X.env y v, fun v => bindName X.env x v] items.reverse; pure Flow.next) _ _ _
  refine wpAny_bind (wpAny_rule (wpAny_bind (unpackItems_tuple (items := #[u1, u2, u3]) (I.ok.hd hc) (IsTup.new s1.heap _) fun h' hx' => ?_)))
  have I3 := I2.kept (h' := h') (t' := s1.toks) fun b o e => hx' b o (Nat.ne_of_lt (Heap.lt_size e)) e
  show wpAny _ _ (assignInOrder [fun v => bindName X.env z v, fun v => bindName X.env y v, fun v => bindName X.env x v] [u3, u2, u1] >>= fun _ => pure Flow.next) _ _ _
  refine wpAny_bind (assignInOrder_cons (wpAny_bindName (store_ok I3 hN hz (.inl hzl) rt (fun s2 I4 => ?_) (.inr hzl))))
  refine assignInOrder_cons (wpAny_bindName (store_ok I4 hN hj (.inl hy) rw' (fun s3 I5 => ?_) (.inr hy)))
  refine assignInOrder_cons (wpAny_bindName (store_ok I5 hN hi (.inl hx) rv (fun s4 I6 => assignInOrder_nil (wpAny_pure ?_)) (.inr hx)))
  have e : ((σ.set l (some t)).set j (some w)).set i (some v) = ((σ.set i (some v)).set j (some w)).set l (some t) := by
    rw [List.set_comm _ _ (Ne.symm hij), List.set_comm (l := σ) _ _ (Ne.symm hil), List.set_comm _ _ (Ne.symm hjl)]
  rw [e] at I6
  exact ⟨_, H1, I6, q1⟩
theorem FinO.exc1 {α : Type} {c : Nat} {p : List W} {ok : α → Store → AM → Hp → Prop} (z : SR G.K am H σ τ) (q : FinO G Wx am H (.exc c p τ S) D) : Fin G (Ev G Wx σ) am H (R.exc c p S) ok :=
  fun cls d am' H' e r x => q cls d σ am' H' e ⟨r, z.mono e⟩ x
theorem p_par (c : Cs tb G C k X Wx) {i j : Nat} {a b : T} {s : Stmt} (h : chkS tb X.N (.par i j a b) X.env.scope s = true) : PS X s (rdS G C Wx (.par i j a b)) := by
  unfold chkS at h
  split at h <;> first | (cases h; done) | skip
  simp only [Bool.and_eq_true, Bool.not_eq_true'] at h
  obtain ⟨⟨⟨⟨⟨⟨⟨h1, h2⟩, h3⟩, h4⟩, h5⟩, h6⟩, h7⟩, h8⟩ := h
  obtain ⟨x, px, rfl, a1, a2, a3⟩ := swN_of h2
  obtain ⟨y, py, rfl, b1, b2, b3⟩ := swN_of h3
  have hij : i ≠ j := fun e => by simp [e] at h4
  have ha := sndT a c.toCn h7
  have hb := sndT b c.toCn h8
  refine PS.weak (ps_par c.calm c.nd a1 b1 hij a2 b2 (s_cons (chk_plain h7) ha.1 (s_cons (chk_plain h8) hb.1 (s_nil (tb := tb) (sc := X.env.scope) (by simp [chkL])))) (sw2 (isFunK_of h1) a2 b2 b3 (name_ne c.nd a1 b1 hij) (chk_plain h7) (chk_plain h8) h5 h6)) fun D σ H ⟨am, S, τ, z, q⟩ => ?_
  simp only [ex] at q
  refine ⟨am, S, τ, z, ?_⟩
  simp only [evL]
  cases ea : ev C a τ S with
  | stuck => rw [ea] at q; exact q.elim
  | exc e p S1 => rw [ea] at q; exact FinO.exc1 z.sl q
  | ok w S1 =>
    rw [ea] at q
    simp only [R.to_ok, R.bind_ok] at q ⊢
    cases eb : ev C b τ S1 with
    | stuck => rw [eb] at q; exact q.elim
    | exc e p S2 => rw [eb] at q; exact FinO.exc1 z.sl q
    | ok u S2 =>
      rw [eb] at q
      simp only [R.to_ok, R.bind_ok] at q ⊢
      intro am' H' e r vs hvs
      obtain ⟨v1, v2, rfl, r1, r2⟩ := VRs.two hvs
      exact ⟨v1, v2, rfl, q _ am' H' e ⟨r, ((z.sl.mono e).set r1 i).set r2 j⟩⟩
theorem VRs.three {K : PySem.W.Frag} {xs : List V} {w u t : W} (h : VRs K am H xs [w, u, t]) : ∃ x y z, xs = [x, y, z] ∧ VR K am H x w ∧ VR K am H y u ∧ VR K am H z t := by
  cases h with | cons h t => cases t with | cons h' t => cases t with | cons h2 t => cases t; exact ⟨_, _, _, rfl, h, h', h2⟩
theorem p_par3 (c : Cs tb G C k X Wx) {i j l : Nat} {a b d : T} {s : Stmt} (h : chkS tb X.N (.par3 i j l a b d) X.env.scope s = true) : PS X s (rdS G C Wx (.par3 i j l a b d)) := by
  unfold chkS at h
  split at h <;> first | (cases h; done) | skip
  simp only [Bool.and_eq_true, Bool.not_eq_true'] at h
  obtain ⟨⟨⟨⟨⟨⟨⟨⟨⟨⟨⟨h1, h2⟩, h3⟩, h4⟩, h5⟩, h6⟩, h7⟩, h8⟩, h9⟩, h10⟩, h11⟩, h12⟩ := h
  obtain ⟨x, px, rfl, a1, a2, a3⟩ := swN_of h2
  obtain ⟨y, py, rfl, b1, b2, b3⟩ := swN_of h3
  obtain ⟨u, pu, rfl, d1, d2, d3⟩ := swN_of h4
  have hij : i ≠ j := fun e => by simp [e] at h5
  have hil : i ≠ l := fun e => by simp [e] at h6
  have hjl : j ≠ l := fun e => by simp [e] at h7
  have ha := sndT a c.toCn h10
  have hb := sndT b c.toCn h11
  have hd := sndT d c.toCn h12
  refine PS.weak (ps_par3 c.calm c.nd a1 b1 d1 hij hil hjl a2 b2 d2 (s_cons (chk_plain h10) ha.1 (s_cons (chk_plain h11) hb.1 (s_cons (chk_plain h12) hd.1 (s_nil (tb := tb) (sc := X.env.scope) (by simp [chkL])))))
    (sw3 (isFunK_of h1) a2 b2 d2 b3 d3 (name_ne c.nd a1 b1 hij) (name_ne c.nd a1 d1 hil) (name_ne c.nd b1 d1 hjl) (chk_plain h10) (chk_plain h11) (chk_plain h12) h8 h9)) fun D σ H ⟨am, S, τ, z, q⟩ => ?_
  simp only [ex] at q
  refine ⟨am, S, τ, z, ?_⟩
  simp only [evL]
  cases ea : ev C a τ S with
  | stuck => rw [ea] at q; exact q.elim
  | exc e p S1 => rw [ea] at q; exact FinO.exc1 z.sl q
  | ok w S1 =>
    rw [ea] at q
    simp only [R.to_ok, R.bind_ok] at q ⊢
    cases eb : ev C b τ S1 with
    | stuck => rw [eb] at q; exact q.elim
    | exc e p S2 => rw [eb] at q; exact FinO.exc1 z.sl q
    | ok u S2 =>
      rw [eb] at q
      simp only [R.to_ok, R.bind_ok] at q ⊢
      cases ed : ev C d τ S2 with
      | stuck => rw [ed] at q; exact q.elim
      | exc e p S3 => rw [ed] at q; exact FinO.exc1 z.sl q
      | ok t S3 =>
        rw [ed] at q
        simp only [R.to_ok, R.bind_ok] at q ⊢
        intro am' H' e r vs hvs
        obtain ⟨v1, v2, v3, rfl, r1, r2, r3⟩ := VRs.three hvs
        exact ⟨v1, v2, v3, rfl, q _ am' H' e ⟨r, (((z.sl.mono e).set r1 i).set r2 j).set r3 l⟩⟩

/-! ### the others -/
theorem stores_sub {x y : Expr} {p : Pos} {env : PySem.Env} (v : Expr) : swappedStores [.Subscript x y p] v env = pure none := by
  cases v <;> rfl
theorem p_seti (c : Cs tb G C k X Wx) {o i e : T} {s : Stmt} (h : chkS tb X.N (.seti o i e) X.env.scope s = true) : PS X s (rdS G C Wx (.seti o i e)) := by
  unfold chkS at h
  split at h <;> first | (cases h; done) | skip
  simp only [Bool.and_eq_true, Bool.not_eq_true'] at h
  obtain ⟨⟨⟨h1, h2⟩, h3⟩, h4⟩ := h
  rename_i x y p v pos
  have pi := ix_plain (chk_plain h3)
  refine PS.weak (ps_asg (sndT e c.toCn h1).1 (pg_sub (sndT o c.toCn h2).1 (sndT i c.toCn h3).1 (set_rule (G := G) c.u1) ?_) (sws_plain h4) (stores_sub v) (by rfl)) fun D σ H ⟨am, S, τ, z, q⟩ => ?_
  · intro v
    have hp := chk_plain h3
    cases y <;> first | rfl | (cases hp; done)
  simp only [ex] at q
  refine ⟨am, S, τ, z, ?_⟩
  refine (FinO.to z.sl q).imp fun w S1 am1 H1 e1 r1 q1 v hv => ?_
  refine ⟨am1, S1, τ, z.next e1 r1, ?_⟩
  refine (FinO.to (z.sl.mono e1) q1).imp fun x S2 am2 H2 e2 r2 q2 vx hx => ?_
  refine ⟨am2, S2, τ, (z.next e1 r1).next e2 r2, ?_⟩
  refine (FinO.to ((z.sl.mono e1).mono e2) q2).imp fun y S3 am3 H3 e3 r3 q3 vy hy => ?_
  split at q3
  · rename_i S4 hs
    exact ⟨am3, S3, x, y, w, S4, r3, hx.mono e3, hy, (hv.mono e2).mono e3, hs, fun am' H' e4 r4 => q3 σ am' H' e4 ⟨r4, (((z.sl.mono e1).mono e2).mono e3).mono e4⟩⟩
  · exact q3.elim
theorem p_aug (c : Cs tb G C k X Wx) {i : Nat} {op : BOp} {e : T} {s : Stmt} (h : chkS tb X.N (.aug i op e) X.env.scope s = true) : PS X s (rdS G C Wx (.aug i op e)) := by
  unfold chkS at h
  split at h <;> first | (cases h; done) | skip
  simp only [Bool.and_eq_true, decide_eq_true_eq] at h
  rename_i x p o v pos
  obtain ⟨⟨⟨⟨h1, h2⟩, rfl⟩, h3⟩, h4⟩ := h
  obtain ⟨l1, l2⟩ := c.sto _ h2
  have he := (sndT e c.toCn h3).1
  have go : ∀ {f : Int → Int → Int}, PIp X op.py (ipI f) → (∀ (τ : Slots) (S : Store) (am : AM) (H : Hp) (D : Ends), FinO G Wx am H (ex C (.aug i op e) τ S) D → FinO G Wx am H (match τ[i]? with
      | some (some x) => (ev C e τ S).to τ fun y S => (match x, y with
        | .int a, .int b => .nx (τ.set i (some (.int (f a b)))) S
        | _, _ => .stuck)
      | _ => .stuck) D) → PS X (.AugAssign (.Name x p) op.py v pos) (rdS G C Wx (.aug i op e)) := by
    intro f hp hx
    refine PS.weak (ps_aug c.nd h1 l1 he hp l2) fun D σ H ⟨am, S, τ, z, q⟩ => ?_
    have q := hx τ S am H D q
    split at q
    · rename_i x ex1
      obtain ⟨v, hv1, hv2⟩ := z.sl.at_ i x ex1
      refine ⟨v, hv1, am, S, τ, z, ?_⟩
      refine (FinO.to z.sl q).imp fun w S1 am1 H1 e1 r1 q1 v2 hv3 => ?_
      split at q1
      · cases hv2; cases hv3
        exact ⟨_, _, rfl, rfl, q1 _ am1 H1 (Ext.refl _ _) ⟨r1, (z.sl.mono e1).set (.int _) i⟩⟩
      · exact q1.elim
    · exact q.elim
  cases op with
  | add => exact go (f := fun i j => i + j) ip_add fun τ S am H D q => (by simp only [ex] at q; exact q)
  | sub => exact go (f := fun i j => i - j) ip_sub fun τ S am H D q => (by simp only [ex] at q; exact q)
  | _ => cases h4
theorem p_expr (c : Cs tb G C k X Wx) {e : T} {s : Stmt} (h : chkS tb X.N (.expr e) X.env.scope s = true) : PS X s (rdS G C Wx (.expr e)) := by
  unfold chkS at h
  split at h <;> first | (cases h; done) | skip
  simp only [Bool.and_eq_true, Bool.not_eq_true'] at h
  refine PS.weak (ps_expr (sndT e c.toCn h.1).1 (sw_plain h.2)) fun D σ H ⟨am, S, τ, z, q⟩ => ?_
  simp only [ex] at q
  refine ⟨am, S, τ, z, ?_⟩
  exact (FinO.to z.sl q).imp fun w S1 am1 H1 e1 r1 q1 v hv => q1 σ am1 H1 (Ext.refl _ _) ⟨r1, z.sl.mono e1⟩
theorem p_ret (c : Cs tb G C k X Wx) {e : T} {s : Stmt} (h : chkS tb X.N (.ret e) X.env.scope s = true) : PS X s (rdS G C Wx (.ret e)) := by
  unfold chkS at h
  split at h <;> first | (cases h; done) | skip
  refine PS.weak (ps_ret (sndT e c.toCn h).1) fun D σ H ⟨am, S, τ, z, q⟩ => ?_
  simp only [ex] at q
  refine ⟨am, S, τ, z, ?_⟩
  exact (FinO.to z.sl q).imp fun w S1 am1 H1 e1 r1 q1 v hv => q1 v am1 H1 (Ext.refl _ _) r1 hv
theorem p_ife (c : Cs tb G C k X Wx) {u : T} {a b : TSL} {x : Expr} {l r : List Stmt} {pos : Pos} (h : chkT tb X.N u X.env.scope x = true) (ha : PSs X l (rdSs G C Wx a)) (hb : PSs X r (rdSs G C Wx b)) : PS X (.If x l r pos) (rdS G C Wx (.ife u a b)) := by
  refine PS.weak (ps_if (sndT u c.toCn h).2 ha hb) fun D σ H ⟨am, S, τ, z, q⟩ => ?_
  simp only [ex] at q
  refine ⟨am, S, τ, z, ?_⟩
  unfold evB
  cases eu : ev C u τ S with
  | stuck => rw [eu] at q; exact q.elim
  | exc e p S1 => rw [eu] at q; exact FinO.exc1 z.sl q
  | ok w S1 =>
    rw [eu] at q
    simp only [R.to_ok, R.bind_ok] at q ⊢
    cases et : truth S1 w with
    | none => rw [et] at q; exact q.elim
    | some t =>
      rw [et] at q
      intro am' H' e r
      cases t with
      | true => rw [if_pos rfl]; exact ⟨am', S1, τ, z.next e r, FinO.base e q⟩
      | false => rw [if_neg Bool.false_ne_true]; exact ⟨am', S1, τ, z.next e r, FinO.base e q⟩
/-- a loop's turn -/
theorem FinO.turn {f : Slots → Store → O} {N : L2.St → Hp → Prop} (h : FinO G Wx am H (o.turn f) D) (hN : ∀ σ τ S am' H', Ext am H am' H' → At G am' S τ σ H' → FinO G Wx am' H' (f τ S) D → N σ H') : FinO G Wx am H o { D with nx := N, ct := N, bk := D.nx } := by
  cases o with
  | nx τ S => exact fun σ' am' H' e z => hN σ' τ S am' H' e z (FinO.base e h)
  | ct τ S => exact fun σ' am' H' e z => hN σ' τ S am' H' e z (FinO.base e h)
  | bk τ S => exact h
  | rt w S => exact h
  | exc c p τ S => exact h
  | stuck => exact h
noncomputable def forB (C : Calls) (g : Tg) (b : TSL) (x : W) (σ : Slots) (S : Store) : O := match bindT g x σ with | some σ1 => exL C b σ1 S | none => .stuck
theorem ex_for {g : Tg} {it : PyI.TI} {b : TSL} : ex C (.for g it b) τ S = (evI C it τ S).to τ fun p S => forRun (forB C g b) p.2 p.1 τ S := by
  simp only [ex]; rfl
theorem p_for (c : Cs tb G C k X Wx) {g : Tg} {it : PyI.TI} {b : TSL} {tg iter : Expr} {l : List Stmt} {pos : Pos} (h1 : chkI tb X.N it X.env.scope tg iter = true) (hg : chkG X.N X.env.scope g tg = true) (hb : PSs X l (rdSs G C Wx b)) : PS X (.For tg iter l [] pos) (rdS G C Wx (.for g it b)) := by
  refine PS.weak (ps_for c.pas c.calm (sndI it c.toCn h1) (pg_of (X := X) c.calm c.nd c.sto hg) hb (chkI_fold h1)) fun D σ H ⟨am, S, τ, z, q⟩ => ?_
  rw [ex_for] at q
  refine ⟨am, S, τ, z, ?_⟩
  obtain ⟨F, hF⟩ : ∃ F : W → Slots → Store → O, F = forB C g b := ⟨_, rfl⟩
  rw [← hF] at q
  refine (FinO.to z.sl q).imp fun p S1 am1 H1 e1 r1 q1 J hJ => ?_
  obtain ⟨ws, gd⟩ := p
  refine ⟨fun i m σ H' => m = ws.length - i ∧ i ≤ ws.length ∧ ∃ am' S' τ', Ext am1 H1 am' H' ∧ At G am' S' τ' σ H' ∧ FinO G Wx am' H' (forRun F gd (ws.drop i) τ' S') D, ⟨ws.length, by simp, Nat.zero_le _, am1, S1, τ, Ext.refl _ _, z.next e1 r1, by simpa using q1⟩, ?_⟩
  rintro i m σ H' ⟨rfl, hi, am', S', τ', e', z', q'⟩
  by_cases hlt : i < ws.length
  · right
    rw [List.drop_eq_getElem_cons hlt] at q'
    simp only [forRun] at q'
    have hq : GuardOk gd S' ∧ FinO G Wx am' H' ((F ws[i] τ' S').turn (forRun F gd (ws.drop (i + 1)))) D := by
      cases gd with
      | none => exact ⟨trivial, q'⟩
      | some pr =>
        unfold held at q'
        simp only at q'
        split at q'
        · rename_i hh; exact ⟨hh, q'⟩
        · exact q'.elim
    obtain ⟨hgd, q2⟩ := hq
    obtain ⟨hgo, hy⟩ := hJ.go am' H' S' e' z'.rel hgd i ws[i] (List.getElem?_eq_getElem hlt)
    refine ⟨hgo, fun σ H' => i + 1 ≤ ws.length ∧ ∃ am' S' τ', Ext am1 H1 am' H' ∧ At G am' S' τ' σ H' ∧ FinO G Wx am' H' (forRun F gd (ws.drop (i + 1)) τ' S') D, fun σ' H2 h2 => ⟨ws.length - (i + 1), by omega, rfl, h2⟩, fun x H2 hx => ?_⟩
    obtain ⟨ex, rx, vx⟩ := hy x H2 hx
    have q2 : FinO G Wx am' H' ((forB C g b ws[i] τ' S').turn (forRun F gd (ws.drop (i + 1)))) D := hF ▸ q2
    unfold forB at q2
    cases et : bindT g ws[i] τ' with
    | none => rw [et] at q2; exact q2.elim
    | some τ1 =>
      rw [et] at q2
      rw [c.hK]
      refine bind_ok et vx (z'.sl.mono ex).o fun σ1 st => ?_
      refine ⟨am', S', τ1, ⟨rx, st.sr.sr fun i hi => hi.1⟩, FinO.turn (FinO.base ex q2) fun σ2 τ2 S2 am2 H3 e3 z3 q3 => ⟨hlt, am2, S2, τ2, (e'.trans ex).trans e3, z3, q3⟩⟩
  · left
    have hie : i = ws.length := by omega
    subst hie
    rw [List.drop_length] at q'
    simp only [forRun] at q'
    have hq : GuardOk gd S' ∧ FinO G Wx am' H' (.nx τ' S') D := by
      cases gd with
      | none => exact ⟨trivial, q'⟩
      | some pr =>
        unfold held at q'
        simp only at q'
        split at q'
        · rename_i hh; exact ⟨hh, q'⟩
        · exact q'.elim
    exact ⟨hJ.stop am' H' S' e' z'.rel hq.1 _ (Nat.le_refl _), hq.2 σ am' H' (Ext.refl _ _) z'⟩
theorem p_whl (c : Cs tb G C k X Wx) {u : T} {b : TSL} {x : Expr} {l : List Stmt} {pos : Pos} (h : chkT tb X.N u X.env.scope x = true) (hb : PSs X l (rdSs G C Wx b)) : PS X (.While x l [] pos) (rdS G C Wx (.whl u b)) := by
  refine PS.weak (ps_while c.pas (sndT u c.toCn h).2 hb) fun D σ H ⟨am, S, τ, z, q⟩ => ?_
  simp only [ex] at q
  refine ⟨fun m σ H' => ∃ am S τ, At G am S τ σ H' ∧ FinO G Wx am H' (whlRun (fun σ S => (ev C u σ S).bind fun x S => lift S (truth S x)) (exL C b) m τ S) D, ⟨fuel, am, S, τ, z, q⟩, ?_⟩
  rintro m σ H' ⟨am, S, τ, z, q⟩
  cases m with
  | zero => exact q.elim
  | succ m =>
    simp only [whlRun] at q
    refine ⟨am, S, τ, z, (FinO.to z.sl q).imp fun t S1 am1 H1 e1 r1 q1 => ?_⟩
    cases t with
    | true =>
      rw [if_pos rfl] at q1 ⊢
      exact ⟨_, fun σ' H' h => ⟨m, Nat.lt_succ_self _, h⟩, am1, S1, τ, z.next e1 r1, FinO.turn q1 fun σ2 τ2 S2 am2 H3 e3 z3 q3 => ⟨am2, S2, τ2, z3, q3⟩⟩
    | false =>
      rw [if_neg Bool.false_ne_true] at q1 ⊢
      exact q1 σ am1 H1 (Ext.refl _ _) (z.next e1 r1)
mutual
theorem sndS : ∀ (t : PyI.TS) (c : Cs tb G C k X Wx) {s : Stmt}, chkS tb X.N t X.env.scope s = true → PS X s (rdS G C Wx t)
  | .asg g e, c, s, h => by
    unfold chkS at h
    split at h <;> first | (cases h; done) | skip
    simp only [Bool.and_eq_true, Bool.not_eq_true'] at h
    exact p_asg c h.1.1 h.1.2 h.2
  | .par i j a b, c, s, h => p_par c h
  | .par3 i j l a b d, c, s, h => p_par3 c h
  | .seti o i e, c, s, h => p_seti c h
  | .aug i op e, c, s, h => p_aug c h
  | .expr e, c, s, h => p_expr c h
  | .ife u a b, c, s, h => by
    unfold chkS at h
    split at h <;> first | (cases h; done) | skip
    simp only [Bool.and_eq_true] at h
    exact p_ife c h.1.1 (sndSs a c h.1.2) (sndSs b c h.2)
  | .for g it b, c, s, h => by
    unfold chkS at h
    split at h <;> first | (cases h; done) | skip
    simp only [Bool.and_eq_true] at h
    exact p_for c h.1.1 h.1.2 (sndSs b c h.2)
  | .whl u b, c, s, h => by
    unfold chkS at h
    split at h <;> first | (cases h; done) | skip
    simp only [Bool.and_eq_true] at h
    exact p_whl c h.1 (sndSs b c h.2)
  | .ret e, c, s, h => p_ret c h
  | .ret0, c, s, h => by
    unfold chkS at h
    split at h <;> first | (cases h; done) | skip
    refine PS.weak ps_retN fun D σ H ⟨am, S, τ, z, q⟩ => ?_
    simp only [ex] at q
    exact q .non am H (Ext.refl _ _) z.rel .non
  | .pass, c, s, h => by
    have go : ∀ D σ H, rdS G C Wx .pass D σ H → tNext D σ H := fun D σ H ⟨am, S, τ, z, q⟩ => by
      simp only [ex] at q
      exact q σ am H (Ext.refl _ _) z
    unfold chkS at h
    split at h <;> first | (cases h; done) | exact PS.weak ps_pass go | exact PS.weak ps_doc go
  | .cont, c, s, h => by
    unfold chkS at h
    split at h <;> first | (cases h; done) | skip
    refine PS.weak ps_continue fun D σ H ⟨am, S, τ, z, q⟩ => ?_
    simp only [ex] at q
    exact q σ am H (Ext.refl _ _) z
  | .brk, c, s, h => by
    unfold chkS at h
    split at h <;> first | (cases h; done) | skip
    refine PS.weak ps_break fun D σ H ⟨am, S, τ, z, q⟩ => ?_
    simp only [ex] at q
    exact q σ am H (Ext.refl _ _) z
theorem sndSs : ∀ (t : TSL) (c : Cs tb G C k X Wx) {l : List Stmt}, chkSs tb X.N t X.env.scope l = true → PSs X l (rdSs G C Wx t)
  | .nil, c, l, h => by
    unfold chkSs at h
    split at h <;> first | (cases h; done) | skip
    refine PSs.weak pss_nil fun D σ H ⟨am, S, τ, z, q⟩ => ?_
    simp only [exL] at q
    exact q σ am H (Ext.refl _ _) z
  | .cons a r, c, l, h => by
    unfold chkSs at h
    split at h <;> first | (cases h; done) | skip
    simp only [Bool.and_eq_true] at h
    refine PSs.weak (pss_cons (sndS a c h.1) (sndSs r c h.2)) fun D σ H ⟨am, S, τ, z, q⟩ => ?_
    simp only [exL] at q
    exact ⟨am, S, τ, z, q.then⟩
end
end
end PyI

/-! PyI, part 12: defs. Own work. -/
namespace PyI
open PySem PySem.Spec PyProof.Rows L2

/-! ### what is forgotten at a call's end -/
def AM.cut (m : AM) (n : Nat) : AM := ⟨m.l.take n, m.pv⟩
theorem AM.of_cut {m : AM} {n : Nat} {a : Addr} (h : a ∈ m.cut n) : a ∈ m := by
  rcases h with h | h
  · exact .inl (List.mem_of_mem_take h)
  · exact .inr h
section
variable {K : PySem.W.Frag} {am : AM} {H : Hp} {S : Store} {n : Nat}
mutual
theorem VR.cut : ∀ {v : V} {w : W}, VR K am H v w → w.und n = true → VR K (am.cut n) H v w
  | _, _, .non, _ => .non
  | _, _, .bl b, _ => .bl b
  | _, _, .int i, _ => .int i
  | _, _, .str s, _ => .str s
  | _, _, .tup h hs, u => .tup (match h with | .inl ⟨h1, h2⟩ => .inl ⟨h1, fun z => h2 (AM.of_cut z)⟩ | .inr h1 => .inr h1) (VRs.cutN hs (by simpa only [W.und] using u))
  | _, _, .lst h hn hs, u => .lst h (fun z => hn (AM.of_cut z)) (VRs.cutN hs (by simpa only [W.und] using u))
  | _, _, .ro h, _ => .ro (match h with | .inl ⟨h1, h2⟩ => .inl ⟨h1, fun z => h2 (AM.of_cut z)⟩ | .inr h1 => .inr h1)
  | _, _, .loc h, u => .loc (by
      simp only [W.und, decide_eq_true_eq] at u
      unfold AM.cut
      rw [List.getElem?_take, if_pos u]; exact h)
theorem VRs.cutN : ∀ {vs : List V} {ws : List W}, VRs K am H vs ws → undL n ws = true → VRs K (am.cut n) H vs ws
  | _, _, .nil, _ => .nil
  | _, _, .cons h hs, u => by
    simp only [undL, Bool.and_eq_true] at u
    exact .cons (VR.cut h u.1) (VRs.cutN hs u.2)
end
theorem KVR.cutN {κ : Type} : ∀ {vs : List (κ × V)} {ws : List (κ × W)}, KVR K am H vs ws → undK n ws = true → KVR K (am.cut n) H vs ws
  | _, _, .nil, _ => .nil
  | _, _, .cons h hs, u => by
    simp only [undK, Bool.and_eq_true] at u
    exact .cons (h.cut u.1) (KVR.cutN hs u.2)
theorem CellR.cutN {a : Addr} : ∀ {c : Cell}, CellR K am H a c → c.und n = true → CellR K (am.cut n) H a c
  | .lst _, ⟨vs, h, hs⟩, u => ⟨vs, h, hs.cutN u⟩
  | .dct _, ⟨vs, h, hs⟩, u => ⟨vs, h, hs.cutN u⟩
mutual
theorem VR.under : ∀ {v : V} {w : W}, VR K am H v w → w.und am.l.length = true
  | _, _, .non => rfl
  | _, _, .bl b => rfl
  | _, _, .int i => rfl
  | _, _, .str s => rfl
  | _, _, .tup _ hs => by simp only [W.und]; exact VRs.under hs
  | _, _, .lst _ _ hs => by simp only [W.und]; exact VRs.under hs
  | _, _, .ro _ => rfl
  | _, _, .loc h => by simp only [W.und, decide_eq_true_eq]; exact (List.getElem?_eq_some_iff.mp h).1
theorem VRs.under : ∀ {vs : List V} {ws : List W}, VRs K am H vs ws → undL am.l.length ws = true
  | _, _, .nil => rfl
  | _, _, .cons h hs => by simp only [undL, VR.under h, VRs.under hs, Bool.and_self]
end
theorem KVR.under {κ : Type} : ∀ {vs : List (κ × V)} {ws : List (κ × W)}, KVR K am H vs ws → undK am.l.length ws = true
  | _, _, .nil => rfl
  | _, _, .cons h hs => by simp only [undK, h.under, KVR.under hs, Bool.and_self]
theorem CellR.under {a : Addr} : ∀ {c : Cell}, CellR K am H a c → c.und am.l.length = true
  | .lst _, ⟨_, _, hs⟩ => hs.under
  | .dct _, ⟨_, _, hs⟩ => hs.under
theorem Rel.under (r : Rel K am H S) : Sund am.l.length S := fun c hc => by
  obtain ⟨n, h1, h2⟩ := List.mem_iff_getElem.mp hc
  obtain ⟨a, _, hr⟩ := r.cell n c (by rw [List.getElem?_eq_getElem h1, h2])
  exact hr.under
theorem Rel.cut (r : Rel K am H S) (hn : n ≤ S.length) (u : Sund n (S.take n)) : Rel K (am.cut n) H (S.take n) := by
  refine ⟨r.nd.sublist (List.take_sublist _ _), ?_, fun i c e => ?_, fun a ha z => r.apart a ha (List.mem_of_mem_take z), r.there⟩
  · unfold AM.cut
    rw [List.length_take, List.length_take, r.len]
  · rw [List.getElem?_take] at e
    split at e
    · rename_i hi
      obtain ⟨a, ha, hc⟩ := r.cell i c e
      refine ⟨a, ?_, hc.cutN (u c ?_)⟩
      · unfold AM.cut
        rw [List.getElem?_take, if_pos hi]; exact ha
      · exact List.mem_of_getElem? (i := i) (by rw [List.getElem?_take, if_pos hi]; exact e)
    · cases e
theorem Ext.cut {am0 : AM} {H0 : Hp} (e : Ext am0 H0 am H) : Ext am0 H0 (am.cut am0.l.length) H := by
  refine ⟨⟨?_, fun a o h hn => ⟨(e.keep a o h hn).1, fun z => (e.keep a o h hn).2 (AM.of_cut z)⟩⟩, e.sub, e.priv⟩
  obtain ⟨t, ht⟩ := e.pre
  unfold AM.cut
  rw [← ht, List.take_left]
  exact List.prefix_refl _
end
section
variable {tb : Tb} {G : Gx} {C : Calls} {k : Nat} {X : Cx} {Wx : WX} {am : AM} {H : Hp} {S : Store}
theorem gc_fin {E : Value → Option Addr → Hp → Prop} {w : W} {v : V} {S2 : Store} {am' : AM} {H' : Hp} {Q : VK} (r : Rel G.K am H S) (q : Fin G E am H (gcR S w S2) (OkV G Q)) (e : Ext am H am' H') (r' : Rel G.K am' H' S2) (hv : VR G.K am' H' v w) : Q v H' := by
  unfold gcR at q
  split at q
  · rename_i h
    obtain ⟨h1, h2, h3⟩ := h
    have hl : am.l.length = S.length := r.len
    have u : Sund S.length (S2.take S.length) := by
      rcases h3 with h3 | h3
      · rw [h3, ← hl]; exact r.under
      · exact h3
    refine q (am'.cut S.length) H' ?_ (r'.cut h1 u) v (hv.cut h2)
    rw [← hl]
    exact e.cut
  · exact q am' H' e r' v hv
theorem res_fin {E : XK} {o : O} {Q : VK} (r : Rel G.K am H S) (q : Fin G E am H (o.res S (gcR S)) (OkV G Q)) : FinO G (fun cls d _ H => E cls d H) am H o { nx := fun _ H' => Q .non H', rt := Q } := by
  cases o with
  | nx τ S2 => exact fun σ' am' H' e z => gc_fin r q e z.rel .non
  | rt w S2 => exact fun v am' H' e r' hv => gc_fin r q e r' hv
  | exc c p τ S2 => exact fun cls d σ' am' H' e z x => q cls d am' H' e z.rel x
  | bk τ S2 => exact q.elim
  | ct τ S2 => exact q.elim
  | stuck => exact q.elim

/-- a def of the text -/
structure DefOk (tb : Tb) (G : Gx) (mg : Str → Option Value) (x : Str) (d : Def) : Prop where
  ex : ∃ (f : Addr) (name qual : Str) (params : Arguments) (body : List Stmt) (scope : Scope) (dV kV doc pm cdv ct oc : Value) (an od : Option Addr) (osl : Array (Option Value)) (N ps : List Str),
    mg x = some (.ref f) ∧ PySem.W.keepIn G.K (.ref f) = true ∧ G.K.lookup f = some ⟨oc, od, .func (PySem.W.fnOf name qual params body scope dV kV doc pm an cdv ct), osl⟩ ∧ PySem.W.codeIn G.K cdv qual = true ∧ FnScope N ps scope ∧
    (∀ us : List Value, us.length = ps.length → bindArgs (PySem.W.fnOf name qual params body scope dV kV doc pm an cdv ct) ⟨us, []⟩ = pure (ps.zip us)) ∧ chkSs tb N d.body scope body = true ∧ d.np = ps.length ∧ d.ns = N.length
theorem sto_fn {sc : Scope} (h : X.env.scope = sc) (hf : ∀ x, X.fn x = true) : Sto X sc := fun x hx => by
  subst h
  exact ⟨locC_of hx, .inl (hf x)⟩
theorem fns_ok {P : Program} {w : World} {mg : Str → Option Value} {base : Heap} {T : Nat → Option Def} (hd : ∀ x n, tb.fn.lookup x = some n → ∃ d, T n = some d ∧ DefOk tb G mg x d)
    (hc : ∀ x w, tb.cs.lookup x = some w → ∃ u v, mg x = some u ∧ RelV v u ∧ ∀ am H, VR G.K am H v w) (hb : ∀ x, x ∈ tb.bl → mg x = none) : ∀ k x n, tb.fn.lookup x = some n → FnG G P w mg base (callK T k) k x n := by
  intro k
  induction k with
  | zero =>
    intro x n hx
    obtain ⟨d, hT, ⟨f, name, qual, params, body, scope, dV, kV, doc, pm, cdv, ct, oc, an, od, osl, N, ps, h1, h2, h3, h4, h5, h6, h7, h8, h9⟩⟩ := hd x n hx
    refine ⟨f, _, ps, h1, h2, Binds.all h6, fun vs H Q E ⟨am, S, ws, r, hv, q⟩ => q.elim, fun A outer s H args us vs Q E hr hg e0 hbd rv ⟨am, S, ws, r, hv, q⟩ => q.elim⟩
  | succ k ih =>
    intro x n hx
    obtain ⟨d, hT, ⟨f, name, qual, params, body, scope, dV, kV, doc, pm, cdv, ct, oc, an, od, osl, N, ps, h1, h2, h3, h4, h5, h6, h7, h8, h9⟩⟩ := hd x n hx
    have len : ∀ vs H Q E, spI G (callK T (k + 1)) n vs H Q E → vs.length = ps.length := fun vs H Q E ⟨am, S, ws, r, hv, q⟩ => by
      simp only [callK, hT] at q
      split at q
      · rename_i hl; rw [hv.length, hl.1, h8]
      · exact q.elim
    refine ⟨f, _, ps, h1, h2, Binds.all h6, len, fun A outer s H args us vs Q E hr hg e0 hbd rv hsp => ?_⟩
    have hl := len _ _ _ _ hsp
    obtain ⟨am, S, ws, r, hv, q⟩ := hsp
    simp only [callK, hT] at q
    split at q
    rotate_left
    · exact q.elim
    rename_i hl2
    have KX : G.K.In s.heap := e0.mod.kin.keeps fun b o e => (e0.bs b o e).1
    have lim : s.heap.NoLimit := e0.mod.nolimit.keeps fun b o e => (e0.bs b o e).1
    refine codeAny_call_function hr.depth (KX _ _ h3) rfl h5.co h5.gen rfl (PySem.W.codeRec_of KX h4) (hbd _ _ _ _ ?_)
    refine wpAny_newFunctionEnv_cells h5.kind ?_ fun env he s1 x1 => ?_
    · rintro ⟨y, v⟩ hy
      have hp := h5.par y (List.of_mem_zip hy).1
      rcases hp with hp | hp
      · exact Or.inl hp
      · exact Or.inr ⟨hp, PySem.W.cellsFrom_some _ _ _ (Or.inl hp)⟩
    subst he
    refine ⟨lim.keeps x1.toInCall.keep, codeAny_func ?_⟩
    let Y : Cx := cxOf (L2.CX P w) P w G.K mg base N qual scope f cdv A outer s H E
    have I : Inv Y [] (start N vs) H s1 := inv_start h5 hr.hd e0 hl rv x1
    have cY : Cs tb G (callK T k) k Y (fun cls d _ H => E cls d H) :=
      { hK := rfl, calm := rfl, nd := h5.nd, room := hr.deeper _, guards := hg, fns := ih, cst := hc, blt := hb, take := takes_of rfl rfl rfl rfl, sto := sto_fn rfl fun _ => rfl, pas := passes_of rfl }
    have body_ok := sndSs (X := Y) d.body cY (l := body) h7
    have hrun := body_ok.run [] s1 (start N vs) H { nx := fun _ H' => Q .non H', rt := Q } I ⟨am, S, _, ⟨r, SR.start hv h9⟩, res_fin r q⟩
    refine wpAny_mono hrun (fun fl s' hs => ?_) fun e s' hs => hs
    have fin : ∀ {σ' : L2.St} {H' : Hp} {v : V} {u : Value}, Inv Y [] σ' H' s' → RelV v u → Q v H' → CE outer P w H s Q u s' := fun {σ' H' v u} J rvu qv => ⟨v, H', J.os, J.bare, J.base, J.hok, rvu, qv⟩
    match fl, hs with
    | .ret u, ⟨v, σ', H', J, rvu, qv⟩ => exact fin J rvu qv
    | .next, ⟨σ', H', J, qv⟩ => exact fin (v := V.non) (u := Value.none) J rfl qv
    | .brk, ⟨_, _, _, qv⟩ => exact False.elim qv
    | .cont, ⟨_, _, _, qv⟩ => exact False.elim qv
end
end PyI

/-! PyI, part 13: from a law's def to the law. Own work. -/
namespace PyI
open PySem PySem.Spec PyProof.Rows L2

/-! ### the text's constants -/
mutual
/-- the written part's value u is w -/
def wIs (K : PySem.W.Frag) : Value → W → Bool
  | u, .non => (match u with | .none => true | _ => false)
  | u, .bl b => (match u with | .bool c => b == c | _ => false)
  | u, .int i => (match u with | .int j _ => decide (i = j) | _ => false)
  | u, .str s => (match u with | .str t _ => decide (s = t) | _ => false)
  | u, .tup ws => (match u with
    | .ref a => (match K.lookup a with
      | some o => (match o.cls, o.data with | .type n, .seq its _ => (n == "tuple") && decide (its.size ≤ sizeLine) && wIsL K its.toList ws | _, _ => false)
      | none => false)
    | _ => false)
  | _, _ => false
def wIsL (K : PySem.W.Frag) : List Value → List W → Bool
  | us, [] => (match us with | [] => true | _ => false)
  | us, w :: ws => (match us with | u :: r => wIs K u w && wIsL K r ws | [] => false)
end
mutual
theorem wIs_ok {K : PySem.W.Frag} : ∀ {w : W} {u : Value}, wIs K u w = true → ∃ v, RelV v u ∧ ∀ am H, VR K am H v w
  | .non, u, h => by
    simp only [wIs] at h
    split at h <;> first | (cases h; done) | skip
    exact ⟨.non, rfl, fun _ _ => .non⟩
  | .bl b, u, h => by
    simp only [wIs] at h
    split at h <;> first | (cases h; done) | skip
    obtain rfl := eq_of_beq h
    exact ⟨.bl b, rfl, fun _ _ => .bl b⟩
  | .int i, u, h => by
    simp only [wIs] at h
    split at h <;> first | (cases h; done) | skip
    simp only [decide_eq_true_eq] at h
    subst h
    exact ⟨.int _, ⟨_, rfl⟩, fun _ _ => .int _⟩
  | .str s, u, h => by
    simp only [wIs] at h
    split at h <;> first | (cases h; done) | skip
    simp only [decide_eq_true_eq] at h
    subst h
    exact ⟨.str _, ⟨_, rfl⟩, fun _ _ => .str _⟩
  | .tup ws, u, h => by
    simp only [wIs] at h
    split at h <;> first | (cases h; done) | skip
    rename_i a
    split at h <;> first | (cases h; done) | skip
    rename_i o ho
    split at h <;> first | (cases h; done) | skip
    rename_i n its m hc hd
    simp only [Bool.and_eq_true, decide_eq_true_eq] at h
    obtain ⟨⟨h1, h2⟩, h3⟩ := h
    obtain ⟨vs, hv, hr⟩ := wIsL_ok h3
    refine ⟨.ref a, rfl, fun am H => .tup (.inr ⟨o, its, m, ho, by rw [hc, eq_of_beq h1], hd, h2, hv⟩) (hr am H)⟩
  | .lst _, u, h => by simp [wIs] at h
  | .ro _, u, h => by simp [wIs] at h
  | .loc _, u, h => by simp [wIs] at h
  | .exc _ _, u, h => by simp [wIs] at h
theorem wIsL_ok {K : PySem.W.Frag} : ∀ {ws : List W} {us : List Value}, wIsL K us ws = true → ∃ vs, Vals vs us ∧ ∀ am H, VRs K am H vs ws
  | [], us, h => by
    simp only [wIsL] at h
    split at h <;> first | (cases h; done) | skip
    exact ⟨[], .nil, fun _ _ => .nil⟩
  | w :: ws, us, h => by
    simp only [wIsL] at h
    split at h <;> first | (cases h; done) | skip
    simp only [Bool.and_eq_true] at h
    obtain ⟨v, h1, h2⟩ := wIs_ok h.1
    obtain ⟨vs, h3, h4⟩ := wIsL_ok h.2
    exact ⟨v :: vs, .cons h1 h3, fun am H => .cons (h2 am H) (h4 am H)⟩
end
theorem con_ok {K : PySem.W.Frag} {mg : Str → Option Value} {h : Heap} {x : Str} {u : Value} {w : W} (X : K.In h) (Gn : h.Ns mainGlobals mg) (a : PySem.W.nsIn K mainGlobals x = some (some u)) (hw : wIs K u w = true) :
    ∃ u v, mg x = some u ∧ RelV v u ∧ ∀ am H, VR K am H v w := by
  obtain ⟨v, h1, h2⟩ := wIs_ok hw
  exact ⟨u, v, PySem.W.mg_of X Gn a, h1, h2⟩

/-! ### the text's defs -/
theorem all0 {p : List Value → Prop} (h : p []) : ∀ us : List Value, us.length = 0 → p us | [], _ => h
theorem all1 {p : List Value → Prop} (h : ∀ a, p [a]) : ∀ us : List Value, us.length = 1 → p us | [a], _ => h a
theorem all2 {p : List Value → Prop} (h : ∀ a b, p [a, b]) : ∀ us : List Value, us.length = 2 → p us | [a, b], _ => h a b
theorem all3 {p : List Value → Prop} (h : ∀ a b c, p [a, b, c]) : ∀ us : List Value, us.length = 3 → p us | [a, b, c], _ => h a b c
theorem all4 {p : List Value → Prop} (h : ∀ a b c d, p [a, b, c, d]) : ∀ us : List Value, us.length = 4 → p us | [a, b, c, d], _ => h a b c d
theorem all5 {p : List Value → Prop} (h : ∀ a b c d e, p [a, b, c, d, e]) : ∀ us : List Value, us.length = 5 → p us | [a, b, c, d, e], _ => h a b c d e
theorem all6 {p : List Value → Prop} (h : ∀ a b c d e f, p [a, b, c, d, e, f]) : ∀ us : List Value, us.length = 6 → p us | [a, b, c, d, e, f], _ => h a b c d e f
theorem all7 {p : List Value → Prop} (h : ∀ a b c d e f g, p [a, b, c, d, e, f, g]) : ∀ us : List Value, us.length = 7 → p us | [a, b, c, d, e, f, g], _ => h a b c d e f g

def scopeC (N ps : List Str) (sc : Scope) : Bool :=
  isFunK sc && !sc.isCoroutine && !sc.isGenerator && decide N.Nodup && decide (N.take ps.length = ps) && (ps.all fun x => locC sc x) && sc.names.all fun y => match y.2 with | .free => false | _ => true
theorem scopeC_ok {N ps : List Str} {sc : Scope} (h : scopeC N ps sc = true) : FnScope N ps sc := by
  unfold scopeC at h
  simp only [Bool.and_eq_true, Bool.not_eq_true', decide_eq_true_eq, List.all_eq_true] at h
  obtain ⟨⟨⟨⟨⟨⟨h1, h2⟩, h3⟩, h4⟩, h5⟩, h6⟩, h7⟩ := h
  refine ⟨isFunK_of h1, h2, h3, h4, h5, fun x hx => locC_of (h6 x hx), fun y hy z => ?_⟩
  have := h7 y hy
  rw [z] at this
  cases this
/-- what is to be seen of a def: st the text's, d ours -/
def defC (tb : Tb) (N ps : List Str) (st : Stmt) (d : Def) : Bool := scopeC N ps (defScope st) && chkSs tb N d.body (defScope st) (defBody st) && (d.np == ps.length) && (d.ns == N.length)
theorem def_ok {tb : Tb} {K : PySem.W.Frag} {et : Nat → Option (Addr × Option Str)} {mg : Str → Option Value} {h : Heap} {x : Str} {st : Stmt} {d : Def} (N ps : List Str) {f : Addr} {oc : Value} {od an : Option Addr} {osl : Array (Option Value)} {kV doc pm cdv ct : Value} (X : K.In h) (Gn : h.Ns mainGlobals mg)
    (a : PySem.W.nsIn K mainGlobals x = some (some (.ref f))) (l : K.lookup f = some ⟨oc, od, .func (PySem.W.fnOf x x (defArgs st) (defBody st) (defScope st) .none kV doc pm an cdv ct), osl⟩) (c : PySem.W.codeIn K cdv x = true) (k : PySem.W.keepIn K (.ref f) = true)
    (hc : defC tb N ps st d = true) (hb : ∀ (kV doc pm cdv ct : Value) (an : Option Addr) (us : List Value), us.length = ps.length → bindArgs (PySem.W.fnOf x x (defArgs st) (defBody st) (defScope st) .none kV doc pm an cdv ct) ⟨us, []⟩ = pure (ps.zip us)) : DefOk tb ⟨K, et⟩ mg x d := by
  unfold defC at hc
  simp only [Bool.and_eq_true] at hc
  exact ⟨f, x, x, defArgs st, defBody st, defScope st, .none, kV, doc, pm, cdv, ct, oc, an, od, osl, N, ps, PySem.W.mg_of X Gn a, k, l, c, scopeC_ok hc.1.1.1, hb kV doc pm cdv ct an, hc.1.1.2, eq_of_beq hc.1.2, eq_of_beq hc.2⟩

/-! ### the call of the law -/
theorem law_callG {P : Program} {w : World} {K : PySem.W.Frag} {mg mb : Str → Option Value} {CX : CXT} {fa a : Addr} {s : Shared} {vs : List Value} {ns : List Int} (KX : K.In s.heap) (hns : s.heap.Ns mainGlobals mg) (hb : s.heap.Ns builtinsNs mb)
    (hbb : ∀ x : Str, x ≠ "__name__" → mb x = bootBuiltins x) (hlim : s.heap.NoLimit) (hg : s.gens = #[]) (ha : s.heap.get? a = some { cls := .type "list", data := .seq vs.toArray }) (hi : IntsAre vs ns) (hl : ns.length ≤ sizeLine)
    (F : ∀ (base : Heap) (H : Hp), K.In base → base.Ns mainGlobals mg → SqL K H a (ns.map V.int) → Env0 P w K mg base callerA [] s H →
      codeAny (model P w) callerA (.call (.ref fa) ⟨[.ref a], []⟩) (CR CX [] P w H s (fun v _ => v = .bl true) fun _ _ _ => False) s)
    (hCX : ∀ H e s', CX [] H s (fun _ _ _ => False) e s' → False) :
    codeAny (model P w) callerA (.call (.ref fa) ⟨[.ref a], []⟩) (fun r s' => r = .ok (.ret (.bool true)) ∧ OldK s.heap s'.heap ∧ s'.os = s.os ∧ AllBare s'.gens) s := by
  have rv := vals_ints hi
  have lenV := hi.length
  obtain ⟨H, hO, hS, hok, hA, hK⟩ : ∃ H : Hp, Only H ∧ SqL K H a (ns.map V.int) ∧ HOk P w H s.heap ∧ (∀ b u, H b = some u → b = a) ∧ ∀ u, H a = some u → K.lookup a = none := by
    cases hk : K.lookup a with
    | some o =>
      have e := KX a o hk
      rw [ha] at e
      cases e
      exact ⟨fun _ => none, fun _ => Or.inl rfl, Or.inr ⟨_, vs.toArray, _, hk, rfl, rfl, rfl, by rw [List.size_toArray, lenV]; exact hl, by simpa using rv⟩, fun b u z => (Option.some_ne_none _ z.symm).elim, fun b u z => (Option.some_ne_none _ z.symm).elim, fun u z => (Option.some_ne_none _ z.symm).elim⟩
    | none =>
      have at_a : ∀ b u, (if b = a then some (HO.frz { cls := .type "list", data := .seq vs.toArray } (.lst (ns.map V.int))) else none) = some u → b = a := fun b u z => by
        by_cases h : b = a
        · exact h
        · rw [if_neg h] at z; cases z
      refine ⟨fun b => if b = a then some (.frz { cls := .type "list", data := .seq vs.toArray } (.lst (ns.map V.int))) else none, fun b => ?_, Or.inl (Or.inr ⟨_, if_pos rfl⟩), fun b u z => ?_, at_a, fun _ _ => rfl⟩
      · by_cases h : b = a
        · exact Or.inr ⟨_, _, if_pos h⟩
        · exact Or.inl (if_neg h)
      · obtain rfl := at_a b u z
        have z2 := (if_pos rfl).symm.trans z
        cases z2
        exact ⟨ha, by rw [List.length_map]; exact hl, vs, _, rv, ha⟩
  have out : ∀ {b : Addr} {o : Obj}, s.heap.get? b = some o → H b = none → (hidT s.heap H).get? b = some o := fun e n => hidT_get e n
  have nsK : ∀ {b : Addr} {m : Str → Option Value}, s.heap.Ns b m → (hidT s.heap H).Ns b m := fun {b m} ⟨o, es, ep, e, d, r⟩ => by
    refine ⟨o, es, ep, out e ?_, d, r⟩
    cases q : H b with
    | none => rfl
    | some u =>
      obtain rfl := hA b u q
      rw [ha] at e; cases e
      cases d
  have hKb : K.In (hidT s.heap H) := fun b o e => by
    refine out (KX b o e) ?_
    cases q : H b with
    | none => rfl
    | some u =>
      obtain rfl := hA b u q
      rw [hK u q] at e; cases e
  have hM : Mod K mg (hidT s.heap H) := by
    obtain ⟨mc, l1, l2⟩ := hlim
    exact ⟨hKb, nsK hns, ⟨mb, nsK hb, hbb⟩, mc, nsK l1, l2⟩
  have e0 : Env0 P w K mg (hidT s.heap H) callerA [] s H := by
    refine ⟨rfl, hM, fun b o e => of_hidT e, Nat.le_of_eq (hidT_size _ _), trivial, fun b hb => ?_, hok, AllBare.of_eq hg⟩
    cases hb
  have run := F _ H hKb (nsK hns) hS e0
  refine codeAny_mono run fun r s' h => ?_
  match r, h with
  | .error e, h => exact (hCX H e s' h).elim
  | .ok .next, h => exact False.elim h
  | .ok .brk, h => exact False.elim h
  | .ok .cont, h => exact False.elim h
  | .ok (.ret u), ⟨v, H', os, bare, un, hok', r', q⟩ =>
    have q' : v = .bl true := q
    subst q'
    obtain rfl : u = Value.bool true := r'
    refine ⟨rfl, OldK.of_keep fun b o e => ?_, os, bare⟩
    cases qb : H b with
    | none =>
      refine un.keep b o e qb (fun z => ?_) (by simp)
      cases z
    | some t =>
      rcases hO b with z | ⟨ob, xs, z⟩
      · rw [qb] at z; cases z
      · have z2 := un.frzs b ob _ z
        have f1 := (hok b _ z).1
        rw [e] at f1; cases f1
        exact (hok' b _ z2).1

/-- what the top has written -/
structure TabOk (tb : Tb) (T : Nat → Option Def) (G : Gx) (mg : Str → Option Value) : Prop where
  fn : ∀ x n, tb.fn.lookup x = some n → ∃ d, T n = some d ∧ DefOk tb G mg x d
  cs : ∀ x w, tb.cs.lookup x = some w → ∃ u v, mg x = some u ∧ RelV v u ∧ ∀ am H, VR G.K am H v w
  bl : ∀ x, x ∈ tb.bl → mg x = none
def FnsOk (tb : Tb) (T : Nat → Option Def) (G : Gx) (mg : Str → Option Value) : List (Str × Nat) → Prop
  | [] => True
  | p :: r => (∃ d, T p.2 = some d ∧ DefOk tb G mg p.1 d) ∧ FnsOk tb T G mg r
def CssOk (G : Gx) (mg : Str → Option Value) : List (Str × W) → Prop
  | [] => True
  | p :: r => (∃ u v, mg p.1 = some u ∧ RelV v u ∧ ∀ am H, VR G.K am H v p.2) ∧ CssOk G mg r
def BlsOk (mg : Str → Option Value) : List Str → Prop
  | [] => True
  | x :: r => mg x = none ∧ BlsOk mg r
theorem FnsOk.of {tb : Tb} {T : Nat → Option Def} {G : Gx} {mg : Str → Option Value} : ∀ {l : List (Str × Nat)}, FnsOk tb T G mg l → ∀ x n, l.lookup x = some n → ∃ d, T n = some d ∧ DefOk tb G mg x d
  | [], _, x, n, h => by cases h
  | p :: r, hp, x, n, h => by
    obtain ⟨y, m⟩ := p
    by_cases e : x = y
    · subst e
      rw [List.lookup_cons_self] at h
      cases h
      exact hp.1
    · rw [List.lookup_cons, (by simpa using e : (x == y) = false)] at h
      exact FnsOk.of hp.2 x n h
theorem CssOk.of {G : Gx} {mg : Str → Option Value} : ∀ {l : List (Str × W)}, CssOk G mg l → ∀ x w, l.lookup x = some w → ∃ u v, mg x = some u ∧ RelV v u ∧ ∀ am H, VR G.K am H v w
  | [], _, x, n, h => by cases h
  | p :: r, hp, x, n, h => by
    obtain ⟨y, m⟩ := p
    by_cases e : x = y
    · subst e
      rw [List.lookup_cons_self] at h
      cases h
      exact hp.1
    · rw [List.lookup_cons, (by simpa using e : (x == y) = false)] at h
      exact CssOk.of hp.2 x n h
theorem BlsOk.of {mg : Str → Option Value} : ∀ {l : List Str}, BlsOk mg l → ∀ x, x ∈ l → mg x = none
  | [], _, x, h => by cases h
  | y :: r, hp, x, h => by
    rcases List.mem_cons.mp h with e | e
    · rw [e]; exact hp.1
    · exact BlsOk.of hp.2 x e
theorem TabOk.mk' {tb : Tb} {T : Nat → Option Def} {G : Gx} {mg : Str → Option Value} (a : FnsOk tb T G mg tb.fn) (b : CssOk G mg tb.cs) (c : BlsOk mg tb.bl) : TabOk tb T G mg := ⟨a.of, b.of, c.of⟩
theorem walk_I {l : PySem.W.OpenLaw} {n k : Nat} {q : Program} {loose : List Str} {XP : (Str → Option Value) → Heap → Prop} {YP : World → Heap → Prop} {d : DefRec} {K : Params → PySem.W.Frag} {tb : Tb} {T : Nat → Option Def} {nl : Nat}
    (hn : l.most = some n) (hn2 : n ≤ sizeLine) (hdf : d.params.defaults = []) (hr : Room k callerA) (hY : ∀ (w : World) (h : Heap), YP w h → (K w.params).In h) (hnl : tb.fn.lookup d.name = some nl)
    (F : ∀ (w : World) (mg : Str → Option Value) (h : Heap), (K w.params).In h → h.Ns mainGlobals mg → TabOk tb T ⟨K w.params, fun _ => none⟩ mg)
    (hlaw : ∀ ns : List Int, ns.length ≤ n → (∀ z ∈ ns, Builtin.Int.intBits z ≤ 1048576) → ∃ S, callK T k nl [.ro ns] [] = .ok (.bl true) S) :
    PySem.W.WalkO q loose XP YP l.row.toRowW d [] (fun f vs => PySem.call f vs) := by
  refine Att.attach_callB hn hdf fun w s₀ s₁ mg mb fa o pm cd doc a vs ns Gr Y ho hd hcd hmg hobj hints hlen hbits hg => ?_
  have KX := hY w _ Y
  have tk := F w mg _ KX Gr.T.g
  refine law_callG (CX := L2.CX l.prog w) KX Gr.T.g Gr.T.b Gr.T.builtins Gr.T.nolimit hg hobj hints (Nat.le_trans hlen hn2) (fun base H hKb hnb hS e0 => ?_) fun H e s' ⟨_, _, _, _, _, _, _, _, _, _, _, _, z⟩ => z
  obtain ⟨f, fd, ps, h1, h2, h3, h4, h5⟩ := (fns_ok (P := l.prog) (w := w) (base := base) tk.fn tk.cs tk.bl k _ _ hnl).ex
  rw [hmg] at h1
  cases h1
  obtain ⟨S, hS2⟩ := hlaw ns hlen hbits
  have hsp : spI ⟨K w.params, fun _ => none⟩ (callK T k) nl [.ref a] H (fun v _ => v = .bl true) fun _ _ _ => False := by
    refine ⟨⟨[], []⟩, [], [.ro ns], ⟨List.nodup_nil, rfl, fun i c e => ?_, fun b hb => ?_, fun b hb => ?_⟩, .cons (.ro ?_) .nil, ?_⟩
    · cases e
    · cases hb
    · cases hb
    · rcases hS with z | z
      · exact .inl ⟨z, fun y => y.elim (fun y => by cases y) fun y => by cases y⟩
      · exact .inr z
    · rw [hS2]
      intro am' H' e r v hv
      cases hv
      rfl
  have hl := h4 _ _ _ _ hsp
  refine h5 callerA [] s₁ H ⟨[.ref a], []⟩ [.ref a] [.ref a] _ _ hr rfl e0 ?_ (.cons rfl .nil) hsp
  have b := h3 s₁ [.ref a] KX (by simpa using hl)
  simpa using b
end PyI

namespace PyI
open PySem (Str)
/-- parts_of(saying): 0 saying; def number 0 -/
def d_parts_of : Def := ⟨1, 1,
    (.cons (.ret (.ite (.cmp .eq (.idx (.var 0) (.cint 0)) (.cstr (Str.ofString "unknown"))) (.tup .nil) (.slice (.var 0) (.cint 1) .cnon)))
    .nil)⟩
/-- words_in(saying): 0 saying 1 part; def number 1 -/
def d_words_in : Def := ⟨1, 2,
    (.cons (.ret (.bin .add (.cint 1) (.blt .sum (.cons (.lc false (.nm 1) (.seq (.call 0 (.cons (.var 0) .nil))) (.cbl true) (.call 1 (.cons (.var 1) .nil))) .nil))))
    .nil)⟩
/-- depth_of(saying): 0 saying 1 part; def number 2 -/
def d_depth_of : Def := ⟨1, 2,
    (.cons (.ret (.blt .maxl (.cons (.bin .add (.lst false (.cons (.cint 0) .nil)) (.lc false (.nm 1) (.seq (.call 0 (.cons (.var 0) .nil))) (.cbl true) (.bin .add (.cint 1) (.call 2 (.cons (.var 1) .nil))))) .nil)))
    .nil)⟩
/-- marks_in(saying): 0 saying 1 part; def number 3 -/
def d_marks_in : Def := ⟨1, 2,
    (.cons (.ret (.bin .add (.ite (.cmp .isin (.idx (.var 0) (.cint 0)) (.gl (.tup [(.str (Str.ofString "plus")), (.str (Str.ofString "times")), (.str (Str.ofString "leads")), (.str (Str.ofString "and")), (.str (Str.ofString "or")), (.str (Str.ofString "same"))]))) (.cint 1) (.cint 0)) (.blt .sum (.cons (.lc false (.nm 1) (.seq (.call 0 (.cons (.var 0) .nil))) (.cbl true) (.call 3 (.cons (.var 1) .nil))) .nil))))
    .nil)⟩
/-- _note_unknowns(saying, found): 0 saying 1 found 2 part; def number 4 -/
def d_u_note_unknowns : Def := ⟨2, 3,
    (.cons (.ife (.cmp .eq (.idx (.var 0) (.cint 0)) (.cstr (Str.ofString "unknown"))) (.cons (.ife (.cmp .notin (.idx (.var 0) (.cint 1)) (.var 1)) (.cons (.expr (.mth .append (.var 1) (.cons (.idx (.var 0) (.cint 1)) .nil)))
    .nil) .nil)
    (.cons .ret0
    .nil)) .nil)
    (.cons (.for (.nm 2) (.seq (.call 0 (.cons (.var 0) .nil))) (.cons (.expr (.call 4 (.cons (.var 2) (.cons (.var 1) .nil))))
    .nil))
    .nil))⟩
/-- unknowns_of(sayings): 0 sayings 1 found 2 saying; def number 12 -/
def d_unknowns_of : Def := ⟨1, 3,
    (.cons (.asg (.nm 1) (.lst true .nil))
    (.cons (.for (.nm 2) (.seq (.var 0)) (.cons (.expr (.call 4 (.cons (.var 2) (.cons (.var 1) .nil))))
    .nil))
    (.cons (.ret (.blt .tuple (.cons (.var 1) .nil)))
    .nil)))⟩
/-- occurrences(saying, name): 0 saying 1 name 2 part; def number 5 -/
def d_occurrences : Def := ⟨2, 3,
    (.cons (.ife (.cmp .eq (.idx (.var 0) (.cint 0)) (.cstr (Str.ofString "unknown"))) (.cons (.ret (.ite (.cmp .eq (.idx (.var 0) (.cint 1)) (.var 1)) (.cint 1) (.cint 0)))
    .nil) .nil)
    (.cons (.ret (.blt .sum (.cons (.lc false (.nm 2) (.seq (.call 0 (.cons (.var 0) .nil))) (.cbl true) (.call 5 (.cons (.var 2) (.cons (.var 1) .nil)))) .nil)))
    .nil))⟩
/-- _law_begun(script, k): 0 script 1 k 2 cells 3 great 4 begun 5 cell; def number 14 -/
def d_law_begun : Def := ⟨2, 6,
    (.cons (.asg (.nm 2) (.bin .add (.slice (.var 0) (.var 1) .cnon) (.slice (.var 0) .cnon (.var 1))))
    (.cons (.asg (.nm 3) (.lc false (.nm 5) (.seq (.var 0)) (.cmp .ge (.var 5) (.bin .pow (.cint 10) (.cint 18))) (.var 5)))
    (.cons (.asg (.nm 4) (.bin .add (.cint 53) (.bin .mul (.cint 8) (.var 1))))
    (.cons (.for (.nm 5) (.seq (.var 2)) (.cons (.asg (.nm 4) (.bin .mod (.blt .int (.cons (.bin .add (.bin .mul (.var 4) (.cint 48271)) (.var 5)) .nil)) (.cint 2147483647)))
    .nil))
    (.cons (.ret (.dct [Str.ofString "left", Str.ofString "seed", Str.ofString "cells", Str.ofString "spot"] (.cons (.ite (.cmp .lt (.var 1) (.blt .len (.cons (.var 3) .nil))) (.idx (.var 3) (.var 1)) (.cint 0)) (.cons (.var 4) (.cons (.bin .add (.var 2) (.lst false (.cons (.bin .add (.bin .mul (.cint 41) (.var 1)) (.cint 13)) .nil))) (.cons (.cint 0) .nil))))))
    .nil)))))⟩
/-- _law_draw(m, below): 0 m 1 below 2 found 3 spot 4 cells 5 added 6 cell 7 blend; def number 6 -/
def d_law_draw : Def := ⟨2, 8,
    (.cons (.ife (.cmp .gt (.idx (.var 0) (.cstr (Str.ofString "left"))) (.cint 0)) (.cons (.asg (.nm 2) (.bin .mod (.blt .int (.cons (.idx (.var 0) (.cstr (Str.ofString "left"))) .nil)) (.var 1)))
    (.cons (.seti (.var 0) (.cstr (Str.ofString "left")) (.bin .fdiv (.idx (.var 0) (.cstr (Str.ofString "left"))) (.var 1)))
    (.cons (.ret (.var 2))
    .nil))) .nil)
    (.cons (.asg (.nm 3) (.idx (.var 0) (.cstr (Str.ofString "spot"))))
    (.cons (.seti (.var 0) (.cstr (Str.ofString "spot")) (.bin .add (.var 3) (.cint 1)))
    (.cons (.par 4 5 (.idx (.var 0) (.cstr (Str.ofString "cells"))) (.bin .add (.idx (.var 0) (.cstr (Str.ofString "seed"))) (.bin .mul (.bin .mul (.cint 40503) (.var 3)) (.var 3))))
    (.cons (.asg (.nm 6) (.idx (.var 4) (.bin .mod (.blt .int (.cons (.var 3) .nil)) (.blt .len (.cons (.var 4) .nil)))))
    (.cons (.asg (.nm 7) (.bin .mod (.blt .int (.cons (.bin .add (.bin .mul (.var 6) (.bin .add (.bin .mul (.cint 2) (.var 3)) (.cint 3))) (.var 5)) .nil)) (.cint 2147483647)))
    (.cons (.asg (.nm 7) (.bin .mod (.blt .int (.cons (.bin .add (.bin .add (.bin .mul (.var 7) (.var 7)) (.bin .mul (.cint 69621) (.var 3))) (.idx (.var 0) (.cstr (Str.ofString "seed")))) .nil)) (.cint 2147483629)))
    (.cons (.ret (.bin .mod (.bin .fdiv (.bin .mod (.blt .int (.cons (.bin .add (.bin .mul (.var 7) (.cint 48271)) (.var 3)) .nil)) (.cint 2147483647)) (.cint 11)) (.var 1)))
    .nil))))))))⟩
/-- _law_of(m, some): 0 m 1 some; def number 7 -/
def d_law_of : Def := ⟨2, 2,
    (.cons (.ret (.idx (.var 1) (.call 6 (.cons (.var 0) (.cons (.blt .len (.cons (.var 1) .nil)) .nil)))))
    .nil)⟩
/-- _law_saying(m, names, size): 0 m 1 names 2 size 3 way 4 made 5 left 6 mark 7 first; def number 8 -/
def d_law_saying : Def := ⟨3, 8,
    (.cons (.ife (.cmp .eq (.var 2) (.cint 0)) (.cons (.asg (.nm 3) (.call 6 (.cons (.var 0) (.cons (.cint 9) .nil))))
    (.cons (.asg (.nm 4) (.ite (.cmp .eq (.var 3) (.cint 0)) (.tup (.cons (.cstr (Str.ofString "yes")) .nil)) (.ite (.cmp .eq (.var 3) (.cint 1)) (.tup (.cons (.cstr (Str.ofString "no")) .nil)) (.tup (.cons (.cstr (Str.ofString "unknown")) (.cons (.call 7 (.cons (.var 0) (.cons (.var 1) .nil))) .nil))))))
    .nil)) (.cons (.asg (.nm 5) (.call 6 (.cons (.var 0) (.cons (.var 2) .nil))))
    (.cons (.asg (.nm 6) (.call 7 (.cons (.var 0) (.cons (.lst false (.cons (.cstr (Str.ofString "plus")) (.cons (.cstr (Str.ofString "times")) (.cons (.cstr (Str.ofString "leads")) (.cons (.cstr (Str.ofString "and")) (.cons (.cstr (Str.ofString "or")) (.cons (.cstr (Str.ofString "same")) (.cons (.cstr (Str.ofString "plus")) (.cons (.cstr (Str.ofString "times")) (.cons (.cstr (Str.ofString "leads")) .nil)))))))))) .nil))))
    (.cons (.asg (.nm 7) (.call 8 (.cons (.var 0) (.cons (.var 1) (.cons (.var 5) .nil)))))
    (.cons (.asg (.nm 4) (.tup (.cons (.var 6) (.cons (.var 7) (.cons (.call 8 (.cons (.var 0) (.cons (.var 1) (.cons (.bin .sub (.bin .sub (.var 2) (.cint 1)) (.var 5)) .nil)))) .nil)))))
    .nil)))))
    (.cons (.ret (.ite (.cmp .eq (.call 6 (.cons (.var 0) (.cons (.cint 5) .nil))) (.cint 0)) (.tup (.cons (.cstr (Str.ofString "not")) (.cons (.var 4) .nil))) (.var 4)))
    .nil))⟩
/-- _law_names_in(saying, found): 0 saying 1 found 2 inner; def number 9 -/
def d_law_names_in : Def := ⟨2, 3,
    (.cons (.ife (.cmp .eq (.idx (.var 0) (.cint 0)) (.cstr (Str.ofString "unknown"))) (.cons (.ret (.ite (.cmp .isin (.idx (.var 0) (.cint 1)) (.var 1)) (.var 1) (.bin .add (.var 1) (.lst false (.cons (.idx (.var 0) (.cint 1)) .nil)))))
    .nil) .nil)
    (.cons (.for (.nm 2) (.seq (.slice (.var 0) (.cint 1) .cnon)) (.cons (.asg (.nm 1) (.call 9 (.cons (.var 2) (.cons (.var 1) .nil))))
    .nil))
    (.cons (.ret (.var 1))
    .nil)))⟩
/-- _law_words(saying): 0 saying 1 found 2 deep 3 inner 4 more 5 down; def number 10 -/
def d_law_words : Def := ⟨1, 6,
    (.cons (.ife (.cmp .isin (.idx (.var 0) (.cint 0)) (.tup (.cons (.cstr (Str.ofString "unknown")) (.cons (.cstr (Str.ofString "yes")) (.cons (.cstr (Str.ofString "no")) .nil))))) (.cons (.ret (.tup (.cons (.lst false (.cons (.idx (.var 0) (.cint 0)) .nil)) (.cons (.cint 0) .nil))))
    .nil) .nil)
    (.cons (.par 1 2 (.lst false (.cons (.idx (.var 0) (.cint 0)) .nil)) (.cint 0))
    (.cons (.for (.nm 3) (.seq (.slice (.var 0) (.cint 1) .cnon)) (.cons (.asg (.t2 (.nm 4) (.nm 5)) (.call 10 (.cons (.var 3) .nil)))
    (.cons (.asg (.nm 1) (.bin .add (.var 1) (.var 4)))
    (.cons (.asg (.nm 2) (.blt .max2 (.cons (.var 2) (.cons (.bin .add (.var 5) (.cint 1)) .nil))))
    .nil))))
    (.cons (.ret (.tup (.cons (.var 1) (.cons (.var 2) .nil))))
    .nil))))⟩
/-- _law_leaves(saying): 0 saying 1 found 2 inner; def number 11 -/
def d_law_leaves : Def := ⟨1, 3,
    (.cons (.ife (.cmp .eq (.idx (.var 0) (.cint 0)) (.cstr (Str.ofString "unknown"))) (.cons (.ret (.lst false (.cons (.idx (.var 0) (.cint 1)) .nil)))
    .nil) .nil)
    (.cons (.asg (.nm 1) (.lst false .nil))
    (.cons (.for (.nm 2) (.seq (.slice (.var 0) (.cint 1) .cnon)) (.cons (.asg (.nm 1) (.bin .add (.var 1) (.call 11 (.cons (.var 2) .nil))))
    .nil))
    (.cons (.ret (.var 1))
    .nil))))⟩
/-- _law_right(saying, names): 0 saying 1 names 2 found 3 deep 4 leaves 5 marks 6 name 7 word 8 leaf; def number 13 -/
def d_law_right : Def := ⟨2, 9,
    (.cons (.asg (.t2 (.nm 2) (.nm 3)) (.call 10 (.cons (.var 0) .nil)))
    (.cons (.asg (.nm 4) (.call 11 (.cons (.var 0) .nil)))
    (.cons (.asg (.nm 5) (.blt .len (.cons (.lc false (.nm 7) (.seq (.var 2)) (.cmp .isin (.var 7) (.tup (.cons (.cstr (Str.ofString "plus")) (.cons (.cstr (Str.ofString "times")) (.cons (.cstr (Str.ofString "leads")) (.cons (.cstr (Str.ofString "and")) (.cons (.cstr (Str.ofString "or")) (.cons (.cstr (Str.ofString "same")) .nil)))))))) (.var 7)) .nil)))
    (.cons (.ife (.cmp .ne (.blt .repr (.cons (.tup (.cons (.call 1 (.cons (.var 0) .nil)) (.cons (.call 2 (.cons (.var 0) .nil)) (.cons (.call 3 (.cons (.var 0) .nil)) .nil)))) .nil)) (.blt .repr (.cons (.tup (.cons (.blt .len (.cons (.var 2) .nil)) (.cons (.var 3) (.cons (.var 5) .nil)))) .nil))) (.cons (.ret (.cbl false))
    .nil) .nil)
    (.cons (.for (.nm 6) (.seq (.var 1)) (.cons (.ife (.cmp .ne (.blt .repr (.cons (.call 5 (.cons (.var 0) (.cons (.var 6) .nil))) .nil)) (.blt .repr (.cons (.blt .len (.cons (.lc false (.nm 8) (.seq (.var 4)) (.cmp .eq (.var 8) (.var 6)) (.var 8)) .nil)) .nil))) (.cons (.ret (.cbl false))
    .nil) .nil)
    .nil))
    (.cons (.ret (.cbl true))
    .nil))))))⟩
/-- law(script): 0 script 1 m 2 every 3 names 4 sayings 5 turn 6 top 7 saying 8 due 9 handed; def number 120 -/
def d_k01 : Def := ⟨1, 10,
    (.cons (.asg (.nm 1) (.call 14 (.cons (.var 0) (.cons (.cint 0) .nil))))
    (.cons (.asg (.nm 2) (.lst false (.cons (.cstr (Str.ofString "x")) (.cons (.cstr (Str.ofString "y")) (.cons (.cstr (Str.ofString "z")) (.cons (.cstr (Str.ofString "a1")) (.cons (.cstr (Str.ofString "p0q")) (.cons (.cstr (Str.ofString "notx")) (.cons (.cstr (Str.ofString "yess")) (.cons (.cstr (Str.ofString "w")) (.cons (.cstr (Str.ofString "abcdefgh")) .nil)))))))))))
    (.cons (.asg (.nm 3) (.slice (.var 2) .cnon (.bin .add (.cint 1) (.call 6 (.cons (.var 1) (.cons (.cint 9) .nil))))))
    (.cons (.asg (.nm 4) (.lst true .nil))
    (.cons (.for (.nm 5) (.rng (.call 6 (.cons (.var 1) (.cons (.cint 4) .nil)))) (.cons (.expr (.mth .append (.var 4) (.cons (.call 8 (.cons (.var 1) (.cons (.slice (.var 3) (.call 6 (.cons (.var 1) (.cons (.blt .len (.cons (.var 3) .nil)) .nil))) .cnon) (.cons (.call 7 (.cons (.var 1) (.cons (.lst false (.cons (.cint 0) (.cons (.cint 1) (.cons (.cint 2) (.cons (.cint 4) (.cons (.cint 9) (.cons (.cint 25) .nil))))))) .nil))) .nil)))) .nil)))
    .nil))
    (.cons (.ife (.cmp .ne (.var 4) (.lst false .nil)) (.cons (.asg (.nm 6) (.idx (.var 4) (.neg (.cint 1))))
    (.cons (.for (.nm 5) (.rng (.call 6 (.cons (.var 1) (.cons (.bin .sub (.cint 61) (.idx (.call 10 (.cons (.var 6) .nil)) (.cint 1))) .nil)))) (.cons (.asg (.nm 6) (.tup (.cons (.cstr (Str.ofString "not")) (.cons (.var 6) .nil))))
    .nil))
    (.cons (.seti (.var 4) (.neg (.cint 1)) (.var 6))
    .nil))) .nil)
    (.cons (.for (.nm 7) (.seq (.var 4)) (.cons (.ife (.not (.call 13 (.cons (.var 7) (.cons (.var 2) .nil)))) (.cons (.ret (.cbl false))
    .nil) .nil)
    .nil))
    (.cons (.asg (.nm 8) (.lst false .nil))
    (.cons (.for (.nm 7) (.seq (.var 4)) (.cons (.asg (.nm 8) (.call 9 (.cons (.var 7) (.cons (.var 8) .nil))))
    .nil))
    (.cons (.asg (.nm 9) (.blt .tuple (.cons (.var 4) .nil)))
    (.cons (.ret (.and (.cons (.cmp .eq (.blt .repr (.cons (.call 12 (.cons (.var 9) .nil)) .nil)) (.blt .repr (.cons (.blt .tuple (.cons (.var 8) .nil)) .nil))) (.cons (.cmp .eq (.blt .repr (.cons (.var 9) .nil)) (.blt .repr (.cons (.blt .tuple (.cons (.var 4) .nil)) .nil))) .nil))))
    .nil)))))))))))⟩
end PyI

/-! Pure part, common: the tools of a law, told by the interpreter. Own work. -/
namespace PyI
open PySem (Str sizeLine PyData)

theorem ofString_inj {a b : String} : Str.ofString a = Str.ofString b ↔ a = b := by
  constructor
  · intro h
    have h1 := congrArg (fun s => s.cps.toList) h
    simp only [Str.ofString] at h1
    rw [PySem.cpsOfBytes_string, PySem.cpsOfBytes_string] at h1
    have h2 : a.toList = b.toList := by
      refine (List.map_inj_right ?_).mp h1
      intro x y e
      exact Char.toNat_inj.mp e
    exact String.toList_inj.mp h2
  · intro h; rw [h]
theorem sizeLine_is : sizeLine = 16777216 := PySem.sizeLine_eq
theorem gcR_len {S0 : Store} {w : W} {S : Store} (h : S.length = S0.length) : gcR S0 w S = .ok w S := by
  unfold gcR
  rw [← h, List.take_length]
  split <;> rfl
theorem gcR_same {S0 : Store} {w : W} : gcR S0 w S0 = .ok w S0 := gcR_len rfl
theorem gcR_new {S0 : Store} {n : Nat} {S : Store} (h : S0.length ≤ n) : gcR S0 (.loc n) S = .ok (.loc n) S := by
  unfold gcR
  split
  · rename_i h1
    have := h1.2.1
    simp [W.und] at this
    omega
  · rfl
theorem gcR_pure {S0 : Store} {w : W} {S : Store} (h : w.und S0.length = true) (hs : ∃ g, S = S0 ++ g) : gcR S0 w S = .ok w S0 := by
  obtain ⟨g, rfl⟩ := hs
  unfold gcR
  rw [if_pos]
  · simp
  · simp [h]

/-! ### loops -/
theorem forRun_inv {f : W → Slots → Store → O} {I : Slots → Store → Prop} : ∀ {ws : List W} {σ : Slots} {S : Store}, (∀ x ∈ ws, ∀ σ S, I σ S → ∃ σ' S', f x σ S = .nx σ' S' ∧ I σ' S') → I σ S → ∃ σ' S', forRun f none ws σ S = .nx σ' S' ∧ I σ' S'
  | [], σ, S, _, h => ⟨σ, S, rfl, h⟩
  | x :: xs, σ, S, hf, h => by
    obtain ⟨σ1, S1, e, h1⟩ := hf x (.head _) σ S h
    obtain ⟨σ2, S2, e2, h2⟩ := forRun_inv (ws := xs) (fun y hy => hf y (.tail _ hy)) h1
    exact ⟨σ2, S2, by simp only [forRun, held_none, e, O.turn_nx, e2], h2⟩
/-- with the items that are done -/
theorem forRun_inv' {f : W → Slots → Store → O} {g : Guard} {I : List W → Slots → Store → Prop} : ∀ {ws done : List W} {σ : Slots} {S : Store} (all : List W), done ++ ws = all →
    (∀ done x rest, done ++ x :: rest = all → ∀ σ S, I done σ S → (∀ (α : Type) (r d : α), held g S r d = r) ∧ ∃ σ' S', f x σ S = .nx σ' S' ∧ I (done ++ [x]) σ' S') → (∀ σ S, I all σ S → ∀ (α : Type) (r d : α), held g S r d = r) → I done σ S → ∃ σ' S', forRun f g ws σ S = .nx σ' S' ∧ I all σ' S'
  | [], done, σ, S, all, ha, _, hg, h => by
    rw [List.append_nil] at ha
    subst ha
    exact ⟨σ, S, by simp only [forRun]; exact hg σ S h _ _ _, h⟩
  | x :: xs, done, σ, S, all, ha, hf, hg, h => by
    obtain ⟨hh, σ1, S1, e, h1⟩ := hf done x xs ha σ S h
    obtain ⟨σ2, S2, e2, h2⟩ := forRun_inv' (ws := xs) (done := done ++ [x]) all (by rw [List.append_assoc]; exact ha) hf hg h1
    exact ⟨σ2, S2, by simp only [forRun, hh, e, O.turn_nx, e2], h2⟩
theorem lcRun_map {α : Type} {f : W → Store → R (Option W)} {g : α → W} {h : α → Option W} {S : Store} : ∀ {xs : List α}, (∀ x ∈ xs, f (g x) S = .ok (h x) S) → lcRun f none (xs.map g) S = .ok (xs.filterMap h) S
  | [], _ => rfl
  | x :: xs, hf => by
    simp only [List.map_cons, lcRun, held_none, hf x (.head _), noExc_ok, R.bind_ok, lcRun_map (xs := xs) fun y hy => hf y (.tail _ hy), List.filterMap_cons]
    cases h x <;> rfl

/-! ### a loop's body, a comprehension's turn, by their names -/
noncomputable def fB (C : Calls) (g : Tg) (b : TSL) (x : W) (σ : Slots) (S : Store) : O := match bindT g x σ with | some σ1 => exL C b σ1 S | none => .stuck
noncomputable def lcB (C : Calls) (g : Tg) (c e : T) (σ : Slots) (x : W) (S : Store) : R (Option W) := (lift S (bindT g x σ)).bind fun σ1 S =>
  (ev C c σ1 S).bind fun t S => (lift S (truth S t)).bind fun t S => if t then (ev C e σ1 S).bind fun w S => .ok (some w) S else .ok none S
theorem exFor {C : Calls} {g : Tg} {it : TI} {b : TSL} {σ : Slots} {S : Store} : ex C (.for g it b) σ S = (evI C it σ S).to σ fun p S => forRun (fB C g b) p.2 p.1 σ S := by
  simp only [ex]; rfl
theorem evLc {C : Calls} {m : Bool} {g : Tg} {it : TI} {c e : T} {σ : Slots} {S : Store} : ev C (.lc m g it c e) σ S = (evI C it σ S).bind fun p S => need (p.1.length ≤ sizeLine) ((lcRun (lcB C g c e σ) p.2 p.1 S).bind fun ws S => mkL m ws S) := by
  simp only [ev]; rfl

noncomputable def rngR (w : W) (S : Store) : R (List W × Guard) := match w with | .int i => need (-(2 ^ 62) ≤ i ∧ i < 2 ^ 62) (.ok (rngL 0 i.toNat, none) S) | _ => .stuck
theorem evRng {C : Calls} {e : T} {σ : Slots} {S : Store} : evI C (.rng e) σ S = (ev C e σ S).bind rngR := by
  simp only [evI]; rfl
theorem rngR_nat {n : Nat} {S : Store} (h : n ≤ 1000000) : rngR (.int n) S = .ok (rngL 0 n, none) S := by
  unfold rngR
  have h1 : (n : Int) ≤ 1000000 := by omega
  exact need_of ⟨by omega, by omega⟩
/-- for .. in range(n) -/
theorem for_rng {C : Calls} {g : Tg} {e : T} {b : TSL} {σ : Slots} {S S1 : Store} {n : Nat} (h : ev C e σ S = .ok (.int n) S1) (hn : n ≤ 1000000) : ex C (.for g (.rng e) b) σ S = forRun (fB C g b) none (rngL 0 n) σ S1 := by
  rw [exFor, evRng, h, R.bind_ok, rngR_nat hn, R.to_ok]
theorem bltW_lst {S : Store} {l : List W} : bltW .len [.lst l] S = .ok (.int l.length) S := rfl
theorem size1 : 1 ≤ sizeLine := by decide
theorem size2 : 2 ≤ sizeLine := by decide
theorem size3 : 3 ≤ sizeLine := by decide
theorem size0 : 0 ≤ sizeLine := by decide
theorem binW_int {S : Store} {op : BOp} {i j : Int} : binW S op (.int i) (.int j) = (binI op i j).map W.int := rfl

/-! ### the machine that draws -/
def Mdct (l sd : Int) (cs : List Int) (sp : Int) : Cell := .dct [(.inr (Str.ofString "left"), .int l), (.inr (Str.ofString "seed"), .int sd), (.inr (Str.ofString "cells"), .lst (cs.map W.int)), (.inr (Str.ofString "spot"), .int sp)]
def Mach (n : Nat) (c : Cell) : Prop := ∃ (l sd : Int) (cs : List Int) (sp : Int), c = Mdct l sd cs sp ∧ cs ≠ [] ∧ 0 ≤ sp ∧ sp ≤ n
theorem Mach.mono {n m : Nat} {c : Cell} (h : Mach n c) (hm : n ≤ m) : Mach m c := by
  obtain ⟨l, sd, cs, sp, e, h1, h2, h3⟩ := h
  exact ⟨l, sd, cs, sp, e, h1, h2, by omega⟩
/-- cell 0 is the machine after at most n draws, behind it stands what stood -/
theorem atI_nat' {α : Type} {l : List α} {i : Nat} (h : i < l.length) : L2.atI l (i : Int) = some l[i] := by
  unfold L2.atI L2.ixN
  simp [h]
theorem atI_lt {α : Type} {l : List α} {i : Int} (h0 : 0 ≤ i) (h : i < l.length) : ∃ x, L2.atI l i = some x ∧ x ∈ l ∧ l[i.toNat]? = some x := by
  obtain ⟨n, rfl⟩ := Int.eq_ofNat_of_zero_le h0
  have hn : n < l.length := by omega
  exact ⟨l[n], atI_nat' hn, List.getElem_mem hn, by simp [hn]⟩
end PyI

/-! Pure part: the draws. Own work. -/
namespace PyI
open PySem (Str sizeLine PyData)
section
variable {P : Nat → Option Def}
theorem mulOk_l {i j : Int} (h0 : 0 ≤ i) (h : i < 2 ^ 64) : mulOk i j := .inl ⟨by omega, h⟩
theorem mulOk_r {i j : Int} (h0 : 0 ≤ j) (h : j < 2 ^ 64) : mulOk i j := .inr (.inl ⟨by omega, h⟩)
theorem divOk_of {j : Int} (h0 : 0 < j) (h : j < 2 ^ 64) : divOk j := by
  refine ⟨h0, ?_⟩
  have : j.natAbs < 2 ^ 64 := by omega
  have h1 : j.natAbs.log2 < 64 := by
    rcases Nat.eq_zero_or_pos j.natAbs with e | e
    · rw [e]; decide
    · exact (Nat.log2_lt (by omega)).mpr this
  omega
/-- a draw below b: at cell i stands the machine -/
theorem draw_run (h6 : P 6 = some d_law_draw) (k : Nat) {S : Store} {i n : Nat} {c : Cell} {b : Int} (hS : S[i]? = some c) (hm : Mach n c) (hn : n < 2 ^ 60) (hb : 0 < b) (hb2 : b < 2 ^ 60) :
    ∃ r c', callK P (k + 1) 6 [.loc i, .int b] S = .ok (.int r) (S.set i c') ∧ 0 ≤ r ∧ r < b ∧ Mach (n + 1) c' := by
  obtain ⟨l, sd, cs, sp, rfl, hcs, hs0, hsn⟩ := hm
  have hi : i < S.length := (List.getElem?_eq_some_iff.mp hS).1
  have hS' : S[i] = Mdct l sd cs sp := (List.getElem?_eq_some_iff.mp hS).2
  have hb3 := divOk_of hb (by omega)
  by_cases hl : 0 < l
  · refine ⟨l % b, Mdct (l / b) sd cs sp, ?_, Int.emod_nonneg _ (by omega), Int.emod_lt_of_pos _ hb, ⟨_, _, _, _, rfl, hcs, hs0, by omega⟩⟩
    have hg : gcR S (W.int (l % b)) (S.set i (Mdct (l / b) sd cs sp)) = .ok (.int (l % b)) (S.set i (Mdct (l / b) sd cs sp)) := gcR_len (by simp)
    simp only [Mdct] at hS hS' hg ⊢
    simp [callK, h6, d_law_draw, exL, ex, ev, evL, idxW, getD, hi, hS', toKey, lookK, ofString_inj, cmpW, truth, hl, bltW, binW, binI, hb, hb3, setW, putKW, sizeLine_is, bindT, O.res]
    exact hg
  · have e1 : mulOk 40503 sp := mulOk_l (by omega) (by omega)
    have e2 : mulOk (40503 * sp) sp := mulOk_r hs0 (by omega)
    have hlenN : 0 < cs.length := List.length_pos_iff.mpr hcs
    have hlen : 0 < (cs.length : Int) := by
      have := List.length_pos_iff.mpr hcs
      omega
    obtain ⟨x, hx, hmem, _⟩ := atI_lt (l := cs.map W.int) (i := sp % (cs.length : Int)) (Int.emod_nonneg _ (by omega)) (by rw [List.length_map]; exact Int.emod_lt_of_pos _ hlen)
    obtain ⟨z, hz, rfl⟩ := List.mem_map.mp hmem
    have e3 : mulOk 2 sp := mulOk_l (by omega) (by omega)
    have e4 : mulOk z (2 * sp + 3) := mulOk_r (by omega) (by omega)
    generalize hB1 : (z * (2 * sp + 3) + (sd + 40503 * sp * sp)) % 2147483647 = B1
    have hB1' : 0 ≤ B1 ∧ B1 < 2147483647 := by rw [← hB1]; exact ⟨Int.emod_nonneg _ (by omega), Int.emod_lt_of_pos _ (by omega)⟩
    have e5 : mulOk B1 B1 := mulOk_l hB1'.1 (by omega)
    have e6 : mulOk 69621 sp := mulOk_l (by omega) (by omega)
    generalize hB2 : (B1 * B1 + 69621 * sp + sd) % 2147483629 = B2
    have hB2' : 0 ≤ B2 ∧ B2 < 2147483629 := by rw [← hB2]; exact ⟨Int.emod_nonneg _ (by omega), Int.emod_lt_of_pos _ (by omega)⟩
    have e7 : mulOk B2 48271 := mulOk_l hB2'.1 (by omega)
    have e8 : divOk 11 := divOk_of (by omega) (by omega)
    generalize hr : (B2 * 48271 + sp) % 2147483647 / 11 % b = r
    refine ⟨r, Mdct l sd cs (sp + 1), ?_, by rw [← hr]; exact Int.emod_nonneg _ (by omega), by rw [← hr]; exact Int.emod_lt_of_pos _ hb, ⟨_, _, _, _, rfl, hcs, by omega, by omega⟩⟩
    have hg : gcR S (W.int r) (S.set i (Mdct l sd cs (sp + 1))) = .ok (.int r) (S.set i (Mdct l sd cs (sp + 1))) := gcR_len (by simp)
    simp only [Mdct] at hS hS' hg ⊢
    simp [callK, h6, d_law_draw, exL, ex, ev, evL, idxW, getD, getRd, hi, hS', toKey, lookK, ofString_inj, cmpW, truth, hl, bltW, binW, binI, hb, hb3, setW, putKW, sizeLine_is, bindT, O.res, e1, e2, hlen, hlenN, hx, e3, e4, hB1, e5, e6, hB2, e7, e8, hr, hg]
end
end PyI

/-! Pure part: a thing drawn out of a list; the machine's beginning. Own work. -/
namespace PyI
open PySem (Str sizeLine PyData)
section
variable {P : Nat → Option Def}
theorem getL_lst {S : Store} {l : List W} : getL S (.lst l) = some l := rfl
theorem of_run (h6 : P 6 = some d_law_draw) (h7 : P 7 = some d_law_of) (k : Nat) {S : Store} {i n : Nat} {c : Cell} {l : List W} (hS : S[i]? = some c) (hm : Mach n c) (hn : n < 2 ^ 60) (hl : l ≠ []) (hl2 : l.length < 2 ^ 60) :
    ∃ w c', w ∈ l ∧ callK P (k + 2) 7 [.loc i, .lst l] S = .ok w (S.set i c') ∧ Mach (n + 1) c' := by
  have hp := List.length_pos_iff.mpr hl
  obtain ⟨r, c', e, h0, h1, hm'⟩ := draw_run h6 k hS hm hn (b := (l.length : Int)) (by omega) (by omega)
  obtain ⟨w, hw, hmem, _⟩ := atI_lt (l := l) (i := r) h0 h1
  refine ⟨w, c', hmem, ?_, hm'⟩
  have hg : gcR S w (S.set i c') = .ok w (S.set i c') := gcR_len (by simp)
  rw [callK, h7]
  simp [d_law_of, exL, ex, ev, evL, bltW, getD, getRd, e, idxW, hw, O.res, hg]
/-- the machine as it begins -/
theorem begun_run (h14 : P 14 = some d_law_begun) (k : Nat) {S : Store} {ns : List Int} (hl : ns.length ≤ 1000) {j : Int} (hj : 0 ≤ j) (hj2 : j < 1000) :
    ∃ c, callK P (k + 1) 14 [.ro ns, .int j] S = .ok (.loc S.length) (S ++ [c]) ∧ Mach 0 c := by
  generalize hcells : cutW ns (some j) none ++ cutW ns none (some j) = cells
  generalize hgreat : ns.filter (fun z => decide (1000000000000000000 ≤ z)) = great
  have hlc : cells.length ≤ 2000 := by
    have h1 : (cutW ns (some j) none).length ≤ ns.length := by unfold cutW; simp; omega
    have h2 : (cutW ns none (some j)).length ≤ ns.length := by unfold cutW; simp; omega
    rw [← hcells, List.length_append]; omega
  have hlg : great.length ≤ 1000 := by
    have h1 : great.length ≤ ns.length := by rw [← hgreat]; exact List.length_filter_le _ _
    omega
  have hlcr : lcRun (lcB (callK P k) (.nm 5) (.cmp .ge (.var 5) (.bin .pow (.cint 10) (.cint 18))) (.var 5) [some (.ro ns), some (.int j), some (.lst (cells.map W.int)), none, none, none]) none (ns.map W.int) S = .ok (great.map W.int) S := by
    rw [lcRun_map (h := fun z : Int => if 1000000000000000000 ≤ z then some (W.int z) else none)]
    · rw [← hgreat]
      congr 1
      clear hlc hlg hgreat hcells hl
      induction ns with
      | nil => rfl
      | cons x r ih =>
        rw [List.filterMap_cons, List.filter_cons]
        by_cases h : 1000000000000000000 ≤ x <;> simp [h, ih]
    · intro z hz
      have e : powOk 10 18 := by decide
      simp [lcB, bindT, ev, binW, binI, e, cmpW, truth]
      by_cases h : 1000000000000000000 ≤ z <;> simp [h]
  obtain ⟨σ', S', hfor, ⟨b, x, eσ, eS⟩⟩ := forRun_inv (f := fB (callK P k) (.nm 5) (.cons (.asg (.nm 4) (.bin .mod (.blt .int (.cons (.bin .add (.bin .mul (.var 4) (.cint 48271)) (.var 5)) .nil)) (.cint 2147483647)))   .nil))
    (I := fun σ S1 => ∃ (b : Int) (x : Option W), σ = [some (.ro ns), some (.int j), some (.lst (cells.map W.int)), some (.lst (great.map W.int)), some (.int b), x] ∧ S1 = S) (ws := cells.map W.int) (σ := [some (.ro ns), some (.int j), some (.lst (cells.map W.int)), some (.lst (great.map W.int)), some (.int (53 + 8 * j)), none]) (S := S)
    (fun y hy σ S1 hI => by
      obtain ⟨b, x, rfl, rfl⟩ := hI
      obtain ⟨z, hz, rfl⟩ := List.mem_map.mp hy
      have e : mulOk b 48271 := mulOk_r (by omega) (by omega)
      exact ⟨[some (.ro ns), some (.int j), some (.lst (cells.map W.int)), some (.lst (great.map W.int)), some (.int ((b * 48271 + z) % 2147483647)), some (.int z)], S1, by simp [fB, bindT, exL, ex, ev, evL, bltW, binW, binI, e], _, _, rfl, rfl⟩) ⟨_, _, rfl, rfl⟩
  rw [eσ, eS] at hfor
  have e8 : mulOk 8 j := mulOk_l (by omega) (by omega)
  have e41 : mulOk 41 j := mulOk_l (by omega) (by omega)
  have hs1 : sliceW S (.ro ns) (some j) none = some (.lst ((cutW ns (some j) none).map W.int)) := rfl
  have hs2 : sliceW S (.ro ns) none (some j) = some (.lst ((cutW ns none (some j)).map W.int)) := rfl
  have hb1 : binW S .add (.lst ((cutW ns (some j) none).map W.int)) (.lst ((cutW ns none (some j)).map W.int)) = some (.lst (cells.map W.int)) := by
    unfold binW binL
    simp only [getL]
    rw [if_pos (by have := congrArg List.length hcells; rw [List.length_append] at this; rw [List.length_map, List.length_map, sizeLine_is]; omega), ← List.map_append, hcells]
  have hleft : ∃ l : Int, (j < (great.length : Int) ∧ idxW S (.lst (great.map W.int)) (.int j) = some (.int l)) ∨ (¬ j < (great.length : Int) ∧ l = 0) := by
    by_cases h : j < (great.length : Int)
    · obtain ⟨w, hw, hmem, _⟩ := atI_lt (l := great.map W.int) (i := j) hj (by rw [List.length_map]; exact h)
      obtain ⟨z, hz, rfl⟩ := List.mem_map.mp hmem
      exact ⟨z, .inl ⟨h, by simp [idxW, getD, getRd, hw]⟩⟩
    · exact ⟨0, .inr ⟨h, rfl⟩⟩
  obtain ⟨l, hleft⟩ := hleft
  refine ⟨Mdct l b (cells ++ [41 * j + 13]) 0, ?_, l, b, _, 0, rfl, by simp, by omega, by omega⟩
  have hb2 : binW S .add (.lst (cells.map W.int)) (.lst [.int (41 * j + 13)]) = some (.lst ((cells ++ [41 * j + 13]).map W.int)) := by
    unfold binW binL
    simp only [getL]
    rw [if_pos (by rw [List.length_map, sizeLine_is]; simp; omega)]
    simp
  have hg : gcR S (.loc S.length) (S ++ [Mdct l b (cells ++ [41 * j + 13]) 0]) = .ok (.loc S.length) (S ++ [Mdct l b (cells ++ [41 * j + 13]) 0]) := gcR_new (Nat.le_refl _)
  have hseq1 : seqOf S (.ro ns) = some (ns.map W.int, none) := rfl
  have hseq2 : seqOf S (.lst (cells.map W.int)) = some (cells.map W.int, none) := rfl
  have hnl : (List.map W.int ns).length ≤ sizeLine := by rw [List.length_map, sizeLine_is]; omega
  have hnl2 : ns.length ≤ sizeLine := by rw [sizeLine_is]; omega
  have hg2 : gcR S (.loc S.length) (S ++ [Mdct l b (cells ++ [41 * j + 13]) 0]) = .ok (.loc S.length) (S ++ [Mdct l b (cells ++ [41 * j + 13]) 0]) := hg
  simp only [Mdct, List.map_append, List.map_cons, List.map_nil] at hg2
  rw [callK, h14]
  rcases hleft with ⟨h1, h2⟩ | ⟨h1, rfl⟩
  · simp [d_law_begun, ↓exFor, ↓evLc, exL, ex, ev, evL, evI, asPart, hs1, hs2, hb1, bindT, hseq1, hseq2, need, hnl, hnl2, hlcr, mkL, binW_int, binI, e8, e41, hfor, hb2, O.res, ofString_inj, dctOf, bltW_lst, cmpW, truth, h1, h2, size1, hg2, Mdct]
  · simp [d_law_begun, ↓exFor, ↓evLc, exL, ex, ev, evL, evI, asPart, hs1, hs2, hb1, bindT, hseq1, hseq2, need, hnl, hnl2, hlcr, mkL, binW_int, binI, e8, e41, hfor, hb2, O.res, ofString_inj, dctOf, bltW_lst, cmpW, truth, h1, size1, hg2, Mdct]
end
end PyI

/-! Pure part: sayings. Own work. -/
namespace PyI
open PySem (Str sizeLine PyData)

inductive Mark | plus | times | leads | and | or | same
  deriving DecidableEq
def Mark.name : Mark → String
  | .plus => "plus" | .times => "times" | .leads => "leads" | .and => "and" | .or => "or" | .same => "same"
inductive Say | unk (x : Str) | yes | no | neg (a : Say) | mk (m : Mark) (a b : Say)
def Say.w : Say → W
  | .unk x => .tup [.str (Str.ofString "unknown"), .str x]
  | .yes => .tup [.str (Str.ofString "yes")]
  | .no => .tup [.str (Str.ofString "no")]
  | .neg a => .tup [.str (Str.ofString "not"), a.w]
  | .mk m a b => .tup [.str (Str.ofString m.name), a.w, b.w]
def Say.depth : Say → Nat
  | .unk _ => 0 | .yes => 0 | .no => 0 | .neg a => a.depth + 1 | .mk _ a b => max a.depth b.depth + 1
def Say.words : Say → Nat
  | .unk _ => 1 | .yes => 1 | .no => 1 | .neg a => a.words + 1 | .mk _ a b => a.words + b.words + 1
/-- the names in it -/
def Say.nms : Say → List Str
  | .unk x => [x] | .yes => [] | .no => [] | .neg a => a.nms | .mk _ a b => a.nms ++ b.nms
theorem Say.und (n : Nat) : ∀ s : Say, s.w.und n = true
  | .unk x => rfl
  | .yes => rfl
  | .no => rfl
  | .neg a => by simp [Say.w, W.und, undL, Say.und n a]
  | .mk m a b => by simp [Say.w, W.und, undL, Say.und n a, Say.und n b]
section
variable {P : Nat → Option Def}
theorem mark_of {w : W} (h : w ∈ [W.str (Str.ofString "plus"), .str (Str.ofString "times"), .str (Str.ofString "leads"), .str (Str.ofString "and"), .str (Str.ofString "or"), .str (Str.ofString "same"), .str (Str.ofString "plus"), .str (Str.ofString "times"), .str (Str.ofString "leads")]) : ∃ m : Mark, w = .str (Str.ofString m.name) := by
  simp only [List.mem_cons, List.not_mem_nil, or_false] at h
  rcases h with h | h | h | h | h | h | h | h | h
  · exact ⟨.plus, h⟩
  · exact ⟨.times, h⟩
  · exact ⟨.leads, h⟩
  · exact ⟨.and, h⟩
  · exact ⟨.or, h⟩
  · exact ⟨.same, h⟩
  · exact ⟨.plus, h⟩
  · exact ⟨.times, h⟩
  · exact ⟨.leads, h⟩
/-- a saying of n marks over the names xs -/
theorem saying_run (h6 : P 6 = some d_law_draw) (h7 : P 7 = some d_law_of) (h8 : P 8 = some d_law_saying) {xs : List Str} (hx : xs ≠ []) (hx2 : xs.length < 2 ^ 60) {i : Nat} : ∀ (n : Nat) (k : Nat), n + 3 ≤ k → n < 2 ^ 30 → ∀ {S : Store} {j : Nat} {c : Cell}, S[i]? = some c → Mach j c → j + 6 * n + 3 < 2 ^ 60 →
    ∃ (s : Say) (c' : Cell), callK P k 8 [.loc i, .lst (xs.map W.str), .int n] S = .ok s.w (S.set i c') ∧ Mach (j + 6 * n + 3) c' ∧ (∀ x ∈ s.nms, x ∈ xs) ∧ s.depth ≤ 2 * n + 1 ∧ s.words ≤ 4 * n + 2 := by
  intro n
  induction n using Nat.strongRecOn with
  | ind n ih =>
  intro k hk hn S j c hS hm hj
  obtain ⟨k, rfl⟩ : ∃ k2, k = k2 + 3 := ⟨k - 3, by omega⟩
  have hi : i < S.length := (List.getElem?_eq_some_iff.mp hS).1
  have at_ : ∀ c1 : Cell, (S.set i c1)[i]? = some c1 := fun c1 => by rw [List.getElem?_set_self hi]
  -- behind the last draw
  have last : ∀ (a : Say) (c1 : Cell) (j1 : Nat), Mach j1 c1 → j1 < 2 ^ 60 → ∃ (s : Say) (c' : Cell) (r : Int), callK P (k + 2) 6 [.loc i, .int 5] (S.set i c1) = .ok (.int r) (S.set i c') ∧ Mach (j1 + 1) c' ∧ ((r = 0 ∧ s = .neg a) ∨ (r ≠ 0 ∧ s = a)) := fun a c1 j1 m1 hj1 => by
    obtain ⟨r, c', e, _, _, m2⟩ := draw_run h6 (k + 1) (at_ c1) m1 hj1 (b := 5) (by omega) (by omega)
    rw [List.set_set] at e
    by_cases hr : r = 0
    · exact ⟨.neg a, c', r, e, m2, .inl ⟨hr, rfl⟩⟩
    · exact ⟨a, c', r, e, m2, .inr ⟨hr, rfl⟩⟩
  rcases Nat.eq_zero_or_pos n with rfl | hpos
  · obtain ⟨r, c1, e1, h0, h1, m1⟩ := draw_run h6 (k + 1) hS hm (by omega) (b := 9) (by omega) (by omega)
    have key : ∃ (a : Say) (c2 : Cell) (j2 : Nat), j2 ≤ j + 2 ∧ Mach j2 c2 ∧ (∀ x ∈ a.nms, x ∈ xs) ∧ a.depth = 0 ∧ a.words = 1 ∧
        ((r = 0 ∧ a = .yes ∧ c2 = c1) ∨ (r = 1 ∧ a = .no ∧ c2 = c1) ∨ (r ≠ 0 ∧ r ≠ 1 ∧ ∃ x, a = .unk x ∧ callK P (k + 2) 7 [.loc i, .lst (xs.map W.str)] (S.set i c1) = .ok (.str x) (S.set i c2))) := by
      by_cases hr0 : r = 0
      · exact ⟨.yes, c1, j + 1, by omega, m1, (by simp [Say.nms]), rfl, rfl, .inl ⟨hr0, rfl, rfl⟩⟩
      · by_cases hr1 : r = 1
        · exact ⟨.no, c1, j + 1, by omega, m1, (by simp [Say.nms]), rfl, rfl, .inr (.inl ⟨hr1, rfl, rfl⟩)⟩
        · obtain ⟨w, c2, hw, e2, m2⟩ := of_run h6 h7 k (l := xs.map W.str) (at_ c1) m1 (by omega) (by simpa using hx) (by simpa using hx2)
          obtain ⟨x, hx, rfl⟩ := List.mem_map.mp hw
          rw [List.set_set] at e2
          exact ⟨.unk x, c2, j + 2, by omega, m2, (by simpa [Say.nms] using hx), rfl, rfl, .inr (.inr ⟨hr0, hr1, x, rfl, e2⟩)⟩
    obtain ⟨a, c2, j2, hj2, m2, hnm, hd, hwd, hev⟩ := key
    obtain ⟨s, c3, r3, e3, m3, hs⟩ := last a c2 j2 m2 (by omega)
    refine ⟨s, c3, ?_, m3.mono (by omega), ?_, ?_, ?_⟩
    · have hg : gcR S s.w (S.set i c3) = .ok s.w (S.set i c3) := gcR_len (by simp)
      rw [callK, h8]
      rcases hev with ⟨hr0, rfl, rfl⟩ | ⟨hr1, rfl, rfl⟩ | ⟨hr0, hr1, x, rfl, e2⟩ <;> rcases hs with ⟨hr, rfl⟩ | ⟨hr, rfl⟩ <;> simp only [Say.w] at hg
      · simp [d_law_saying, exL, ex, ev, evL, cmpW, truth, e1, hr0, bindT, e3, hr, need, sizeLine_is, O.res, hg, Say.w]
      · simp [d_law_saying, exL, ex, ev, evL, cmpW, truth, e1, hr0, bindT, e3, hr, need, sizeLine_is, O.res, hg, Say.w]
      · simp [d_law_saying, exL, ex, ev, evL, cmpW, truth, e1, hr1, bindT, e3, hr, need, sizeLine_is, O.res, hg, Say.w]
      · simp [d_law_saying, exL, ex, ev, evL, cmpW, truth, e1, hr1, bindT, e3, hr, need, sizeLine_is, O.res, hg, Say.w]
      · simp [d_law_saying, exL, ex, ev, evL, cmpW, truth, e1, hr0, hr1, e2, bindT, e3, hr, need, sizeLine_is, O.res, hg, Say.w]
      · simp [d_law_saying, exL, ex, ev, evL, cmpW, truth, e1, hr0, hr1, e2, bindT, e3, hr, need, sizeLine_is, O.res, hg, Say.w]
    · rcases hs with ⟨_, rfl⟩ | ⟨_, rfl⟩ <;> simpa [Say.nms] using hnm
    · rcases hs with ⟨_, rfl⟩ | ⟨_, rfl⟩ <;> simp [Say.depth, hd]
    · rcases hs with ⟨_, rfl⟩ | ⟨_, rfl⟩ <;> simp [Say.words, hwd]
  · obtain ⟨r, c1, e1, h0, h1, m1⟩ := draw_run h6 (k + 1) hS hm (by omega) (b := (n : Int)) (by omega) (by omega)
    obtain ⟨l, rfl⟩ := Int.eq_ofNat_of_zero_le h0
    have hl : l < n := by omega
    obtain ⟨w, c2, hw, e2, m2⟩ := of_run h6 h7 k (at_ c1) m1 (by omega) (l := [W.str (Str.ofString "plus"), .str (Str.ofString "times"), .str (Str.ofString "leads"), .str (Str.ofString "and"), .str (Str.ofString "or"), .str (Str.ofString "same"), .str (Str.ofString "plus"), .str (Str.ofString "times"), .str (Str.ofString "leads")]) (by simp) (by simp)
    obtain ⟨m, rfl⟩ := mark_of hw
    rw [List.set_set] at e2
    obtain ⟨a, c3, e3, m3, hna, hda, hwa⟩ := ih l hl (k + 2) (by omega) (by omega) (at_ c2) m2 (by omega)
    rw [List.set_set] at e3
    obtain ⟨b, c4, e4, m4, hnb, hdb, hwb⟩ := ih (n - 1 - l) (by omega) (k + 2) (by omega) (by omega) (at_ c3) m3 (by omega)
    rw [List.set_set] at e4
    have en : ((n - 1 - l : Nat) : Int) = (n : Int) - 1 - (l : Int) := by omega
    rw [en] at e4
    obtain ⟨s, c5, r5, e5, m5, hs⟩ := last (.mk m a b) c4 _ m4 (by omega)
    have hn0 : ¬ n = 0 := by omega
    refine ⟨s, c5, ?_, m5.mono (by omega), ?_, ?_, ?_⟩
    · have hg : gcR S s.w (S.set i c5) = .ok s.w (S.set i c5) := gcR_len (by simp)
      rw [callK, h8]
      rcases hs with ⟨hr, rfl⟩ | ⟨hr, rfl⟩
      · simp only [Say.w] at hg
        simp [d_law_saying, exL, ex, ev, evL, cmpW, truth, e1, bindT, hn0, need, sizeLine_is, mkL, e2, e3, e4, binW_int, binI, e5, hr, O.res, hg, Say.w]
      · simp only [Say.w] at hg
        simp [d_law_saying, exL, ex, ev, evL, cmpW, truth, e1, bindT, hn0, need, sizeLine_is, mkL, e2, e3, e4, binW_int, binI, e5, hr, O.res, hg, Say.w]
    · have h2 : ∀ x ∈ (Say.mk m a b).nms, x ∈ xs := fun x hx => by
        rcases List.mem_append.mp hx with z | z
        · exact hna x z
        · exact hnb x z
      rcases hs with ⟨_, rfl⟩ | ⟨_, rfl⟩
      · exact h2
      · exact h2
    · have h2 : (Say.mk m a b).depth ≤ 2 * n := by simp only [Say.depth]; omega
      rcases hs with ⟨_, rfl⟩ | ⟨_, rfl⟩
      · simp only [Say.depth] at h2 ⊢; omega
      · omega
    · have h2 : (Say.mk m a b).words ≤ 4 * n + 1 := by simp only [Say.words]; omega
      rcases hs with ⟨_, rfl⟩ | ⟨_, rfl⟩
      · simp only [Say.words] at h2 ⊢; omega
      · omega
end
end PyI

/-! Pure part: what is counted in a saying. Own work. -/
namespace PyI
open PySem (Str sizeLine PyData)
def Say.parts : Say → List W
  | .neg a => [a.w] | .mk _ a b => [a.w, b.w] | _ => []
def Say.marks : Say → Nat
  | .neg a => a.marks | .mk _ a b => a.marks + b.marks + 1 | _ => 0
/-- its words, read on -/
def Say.wl : Say → List Str
  | .unk _ => [Str.ofString "unknown"] | .yes => [Str.ofString "yes"] | .no => [Str.ofString "no"] | .neg a => Str.ofString "not" :: a.wl | .mk m a b => Str.ofString m.name :: (a.wl ++ b.wl)
/-- further names -/
def addN (l : List Str) (x : Str) : List Str := if x ∈ l then l else l ++ [x]
def Say.add (l : List Str) : Say → List Str
  | .unk x => addN l x | .yes => l | .no => l | .neg a => a.add l | .mk _ a b => b.add (a.add l)
theorem Say.wl_len : ∀ s : Say, s.wl.length = s.words
  | .unk _ => rfl
  | .yes => rfl
  | .no => rfl
  | .neg a => by simp [Say.wl, Say.words, Say.wl_len a]
  | .mk _ a b => by simp [Say.wl, Say.words, Say.wl_len a, Say.wl_len b]
theorem addN_len (l : List Str) (x : Str) : (addN l x).length ≤ l.length + 1 := by
  unfold addN
  split <;> simp
theorem Say.add_len : ∀ (s : Say) (l : List Str), (s.add l).length ≤ l.length + s.words
  | .unk x, l => addN_len l x
  | .yes, l => by simp [Say.add]
  | .no, l => by simp [Say.add]
  | .neg a, l => by have := Say.add_len a l; simp only [Say.add, Say.words]; omega
  | .mk _ a b, l => by
    have h1 := Say.add_len a l
    have h2 := Say.add_len b (a.add l)
    simp only [Say.add, Say.words]; omega
theorem Say.nms_len : ∀ s : Say, s.nms.length ≤ s.words
  | .unk _ => by simp [Say.nms, Say.words]
  | .yes => by simp [Say.nms, Say.words]
  | .no => by simp [Say.nms, Say.words]
  | .neg a => by have := Say.nms_len a; simp only [Say.nms, Say.words]; omega
  | .mk _ a b => by have h1 := Say.nms_len a; have h2 := Say.nms_len b; simp only [Say.nms, Say.words, List.length_append]; omega
theorem Say.marks_le : ∀ s : Say, s.marks ≤ s.words
  | .unk _ => by simp [Say.marks, Say.words]
  | .yes => by simp [Say.marks, Say.words]
  | .no => by simp [Say.marks, Say.words]
  | .neg a => by have := Say.marks_le a; simp only [Say.marks, Say.words]; omega
  | .mk _ a b => by have h1 := Say.marks_le a; have h2 := Say.marks_le b; simp only [Say.marks, Say.words]; omega
theorem Say.depth_le : ∀ s : Say, s.depth ≤ s.words
  | .unk _ => by simp [Say.depth, Say.words]
  | .yes => by simp [Say.depth, Say.words]
  | .no => by simp [Say.depth, Say.words]
  | .neg a => by have := Say.depth_le a; simp only [Say.depth, Say.words]; omega
  | .mk _ a b => by have h1 := Say.depth_le a; have h2 := Say.depth_le b; simp only [Say.depth, Say.words]; omega
theorem inF_str (x : Str) (l : List Str) : inF (.str x) (l.map W.str) = decide (x ∈ l) := by
  unfold inF
  induction l with
  | nil => rfl
  | cons y r ih =>
    rw [List.map_cons, List.any_cons, ih]
    by_cases h : y = x
    · subst h; simp [eqF]
    · simp [eqF, h, Ne.symm h]
theorem flat_str (l : List Str) : (l.map W.str).all W.flat = true := by
  rw [List.all_eq_true]
  intro w hw
  obtain ⟨x, _, rfl⟩ := List.mem_map.mp hw
  rfl
section
variable {P : Nat → Option Def}
theorem parts_run (h0 : P 0 = some d_parts_of) (k : Nat) (s : Say) (S : Store) : callK P (k+1) 0 [s.w] S = .ok (.tup s.parts) S := by
  unfold callK
  cases s with
  | mk m a b => cases m <;> simp [h0, d_parts_of, exL, ex, ev, evL, Say.w, idxW, getD, getRd, L2.atI, L2.ixN, cmpW, ofString_inj, truth, asPart, sliceW, cutW, HT.sIx, need, O.res, gcR_same, Say.parts, Mark.name]
  | _ => simp [h0, d_parts_of, exL, ex, ev, evL, Say.w, idxW, getD, getRd, L2.atI, L2.ixN, cmpW, ofString_inj, truth, asPart, sliceW, cutW, HT.sIx, need, O.res, gcR_same, Say.parts, size0]
theorem words_run (h0 : P 0 = some d_parts_of) (h1 : P 1 = some d_words_in) : ∀ (s : Say) (k : Nat), s.depth + 2 ≤ k → ∀ S : Store, callK P k 1 [s.w] S = .ok (.int s.words) (S) := by
  intro s
  induction s with
  | unk x =>
    intro k hk S
    simp only [Say.depth] at hk
    obtain ⟨k, rfl⟩ : ∃ k2, k = k2 + 2 := ⟨k - 2, by omega⟩
    have hp := parts_run h0 k (.unk x) S
    simp only [Say.w] at hp ⊢
    rw [callK, h1]
    simp [d_words_in, exL, ex, ev, evL, evI, hp, Say.parts, seqOf, getRd, lcRun, bindT, truth, need, sizeLine_is, mkL, O.res, gcR_same, bltW, getL, intsOf, binW_int, binI, Say.words]
    all_goals (first | done | (omega))
  | yes =>
    intro k hk S
    simp only [Say.depth] at hk
    obtain ⟨k, rfl⟩ : ∃ k2, k = k2 + 2 := ⟨k - 2, by omega⟩
    have hp := parts_run h0 k (.yes) S
    simp only [Say.w] at hp ⊢
    rw [callK, h1]
    simp [d_words_in, exL, ex, ev, evL, evI, hp, Say.parts, seqOf, getRd, lcRun, bindT, truth, need, sizeLine_is, mkL, O.res, gcR_same, bltW, getL, intsOf, binW_int, binI, Say.words]
    all_goals (first | done | (omega))
  | no =>
    intro k hk S
    simp only [Say.depth] at hk
    obtain ⟨k, rfl⟩ : ∃ k2, k = k2 + 2 := ⟨k - 2, by omega⟩
    have hp := parts_run h0 k (.no) S
    simp only [Say.w] at hp ⊢
    rw [callK, h1]
    simp [d_words_in, exL, ex, ev, evL, evI, hp, Say.parts, seqOf, getRd, lcRun, bindT, truth, need, sizeLine_is, mkL, O.res, gcR_same, bltW, getL, intsOf, binW_int, binI, Say.words]
    all_goals (first | done | (omega))
  | neg a ih =>
    intro k hk S
    simp only [Say.depth] at hk
    obtain ⟨k, rfl⟩ : ∃ k2, k = k2 + 2 := ⟨k - 2, by omega⟩
    have ea := ih (k + 1) (by omega) S
    have hp := parts_run h0 k (.neg a) S
    simp only [Say.w] at hp ⊢
    rw [callK, h1]
    simp [d_words_in, exL, ex, ev, evL, evI, hp, Say.parts, seqOf, getRd, lcRun, bindT, truth, need, sizeLine_is, mkL, O.res, gcR_same, ea, bltW, getL, intsOf, binW_int, binI, Say.words]
    all_goals (first | done | (omega))
  | mk m a b iha ihb =>
    intro k hk S
    simp only [Say.depth] at hk
    obtain ⟨k, rfl⟩ : ∃ k2, k = k2 + 2 := ⟨k - 2, by omega⟩
    have ea := iha (k + 1) (by omega) S
    have eb := ihb (k + 1) (by omega) S
    have hp := parts_run h0 k (.mk m a b) S
    simp only [Say.w] at hp ⊢
    rw [callK, h1]
    simp [d_words_in, exL, ex, ev, evL, evI, hp, Say.parts, seqOf, getRd, lcRun, bindT, truth, need, sizeLine_is, mkL, O.res, gcR_same, ea, eb, bltW, getL, intsOf, binW_int, binI, Say.words]
    all_goals (first | done | (omega))
theorem depth_run (h0 : P 0 = some d_parts_of) (h2 : P 2 = some d_depth_of) : ∀ (s : Say) (k : Nat), s.depth + 2 ≤ k → ∀ S : Store, callK P k 2 [s.w] S = .ok (.int s.depth) (S) := by
  intro s
  induction s with
  | unk x =>
    intro k hk S
    simp only [Say.depth] at hk
    obtain ⟨k, rfl⟩ : ∃ k2, k = k2 + 2 := ⟨k - 2, by omega⟩
    have hp := parts_run h0 k (.unk x) S
    simp only [Say.w] at hp ⊢
    rw [callK, h2]
    simp [d_depth_of, exL, ex, ev, evL, evI, hp, Say.parts, seqOf, getRd, lcRun, bindT, truth, need, sizeLine_is, mkL, O.res, gcR_same, bltW, getL, intsOf, binW, binL, binI, maxI, Say.depth]
    all_goals (first | done | (first | (split <;> omega) | (have h9 : (0 : Int) < 1 + (a.depth : Int) := by omega); simp only [if_pos h9]; by_cases hab : a.depth ≤ b.depth; (rw [Nat.max_eq_right hab]; split <;> omega); (rw [Nat.max_eq_left (by omega)]; split <;> omega)))
  | yes =>
    intro k hk S
    simp only [Say.depth] at hk
    obtain ⟨k, rfl⟩ : ∃ k2, k = k2 + 2 := ⟨k - 2, by omega⟩
    have hp := parts_run h0 k (.yes) S
    simp only [Say.w] at hp ⊢
    rw [callK, h2]
    simp [d_depth_of, exL, ex, ev, evL, evI, hp, Say.parts, seqOf, getRd, lcRun, bindT, truth, need, sizeLine_is, mkL, O.res, gcR_same, bltW, getL, intsOf, binW, binL, binI, maxI, Say.depth]
    all_goals (first | done | (first | (split <;> omega) | (have h9 : (0 : Int) < 1 + (a.depth : Int) := by omega); simp only [if_pos h9]; by_cases hab : a.depth ≤ b.depth; (rw [Nat.max_eq_right hab]; split <;> omega); (rw [Nat.max_eq_left (by omega)]; split <;> omega)))
  | no =>
    intro k hk S
    simp only [Say.depth] at hk
    obtain ⟨k, rfl⟩ : ∃ k2, k = k2 + 2 := ⟨k - 2, by omega⟩
    have hp := parts_run h0 k (.no) S
    simp only [Say.w] at hp ⊢
    rw [callK, h2]
    simp [d_depth_of, exL, ex, ev, evL, evI, hp, Say.parts, seqOf, getRd, lcRun, bindT, truth, need, sizeLine_is, mkL, O.res, gcR_same, bltW, getL, intsOf, binW, binL, binI, maxI, Say.depth]
    all_goals (first | done | (first | (split <;> omega) | (have h9 : (0 : Int) < 1 + (a.depth : Int) := by omega); simp only [if_pos h9]; by_cases hab : a.depth ≤ b.depth; (rw [Nat.max_eq_right hab]; split <;> omega); (rw [Nat.max_eq_left (by omega)]; split <;> omega)))
  | neg a ih =>
    intro k hk S
    simp only [Say.depth] at hk
    obtain ⟨k, rfl⟩ : ∃ k2, k = k2 + 2 := ⟨k - 2, by omega⟩
    have ea := ih (k + 1) (by omega) S
    have hp := parts_run h0 k (.neg a) S
    simp only [Say.w] at hp ⊢
    rw [callK, h2]
    simp [d_depth_of, exL, ex, ev, evL, evI, hp, Say.parts, seqOf, getRd, lcRun, bindT, truth, need, sizeLine_is, mkL, O.res, gcR_same, ea, bltW, getL, intsOf, binW, binL, binI, maxI, Say.depth]
    all_goals (first | done | (first | (split <;> omega) | (have h9 : (0 : Int) < 1 + (a.depth : Int) := by omega); simp only [if_pos h9]; by_cases hab : a.depth ≤ b.depth; (rw [Nat.max_eq_right hab]; split <;> omega); (rw [Nat.max_eq_left (by omega)]; split <;> omega)))
  | mk m a b iha ihb =>
    intro k hk S
    simp only [Say.depth] at hk
    obtain ⟨k, rfl⟩ : ∃ k2, k = k2 + 2 := ⟨k - 2, by omega⟩
    have ea := iha (k + 1) (by omega) S
    have eb := ihb (k + 1) (by omega) S
    have hp := parts_run h0 k (.mk m a b) S
    simp only [Say.w] at hp ⊢
    rw [callK, h2]
    simp [d_depth_of, exL, ex, ev, evL, evI, hp, Say.parts, seqOf, getRd, lcRun, bindT, truth, need, sizeLine_is, mkL, O.res, gcR_same, ea, eb, bltW, getL, intsOf, binW, binL, binI, maxI, Say.depth]
    all_goals (first | done | (first | (split <;> omega) | (have h9 : (0 : Int) < 1 + (a.depth : Int) := by omega); simp only [if_pos h9]; by_cases hab : a.depth ≤ b.depth; (rw [Nat.max_eq_right hab]; split <;> omega); (rw [Nat.max_eq_left (by omega)]; split <;> omega)))
theorem marks_run (h0 : P 0 = some d_parts_of) (h3 : P 3 = some d_marks_in) : ∀ (s : Say) (k : Nat), s.depth + 2 ≤ k → ∀ S : Store, callK P k 3 [s.w] S = .ok (.int s.marks) (S) := by
  intro s
  induction s with
  | unk x =>
    intro k hk S
    simp only [Say.depth] at hk
    obtain ⟨k, rfl⟩ : ∃ k2, k = k2 + 2 := ⟨k - 2, by omega⟩
    have hp := parts_run h0 k (.unk x) S
    simp only [Say.w] at hp ⊢
    rw [callK, h3]
    simp [d_marks_in, exL, ex, ev, evL, evI, hp, Say.parts, seqOf, getRd, lcRun, bindT, truth, need, sizeLine_is, mkL, O.res, gcR_same, bltW, getL, intsOf, binW_int, binI, Say.marks, idxW, getD, L2.atI, L2.ixN, cmpW, W.flat, inF, eqF, ofString_inj, Mark.name]
    all_goals (first | done | (omega))
  | yes =>
    intro k hk S
    simp only [Say.depth] at hk
    obtain ⟨k, rfl⟩ : ∃ k2, k = k2 + 2 := ⟨k - 2, by omega⟩
    have hp := parts_run h0 k (.yes) S
    simp only [Say.w] at hp ⊢
    rw [callK, h3]
    simp [d_marks_in, exL, ex, ev, evL, evI, hp, Say.parts, seqOf, getRd, lcRun, bindT, truth, need, sizeLine_is, mkL, O.res, gcR_same, bltW, getL, intsOf, binW_int, binI, Say.marks, idxW, getD, L2.atI, L2.ixN, cmpW, W.flat, inF, eqF, ofString_inj, Mark.name]
    all_goals (first | done | (omega))
  | no =>
    intro k hk S
    simp only [Say.depth] at hk
    obtain ⟨k, rfl⟩ : ∃ k2, k = k2 + 2 := ⟨k - 2, by omega⟩
    have hp := parts_run h0 k (.no) S
    simp only [Say.w] at hp ⊢
    rw [callK, h3]
    simp [d_marks_in, exL, ex, ev, evL, evI, hp, Say.parts, seqOf, getRd, lcRun, bindT, truth, need, sizeLine_is, mkL, O.res, gcR_same, bltW, getL, intsOf, binW_int, binI, Say.marks, idxW, getD, L2.atI, L2.ixN, cmpW, W.flat, inF, eqF, ofString_inj, Mark.name]
    all_goals (first | done | (omega))
  | neg a ih =>
    intro k hk S
    simp only [Say.depth] at hk
    obtain ⟨k, rfl⟩ : ∃ k2, k = k2 + 2 := ⟨k - 2, by omega⟩
    have ea := ih (k + 1) (by omega) S
    have hp := parts_run h0 k (.neg a) S
    simp only [Say.w] at hp ⊢
    rw [callK, h3]
    simp [d_marks_in, exL, ex, ev, evL, evI, hp, Say.parts, seqOf, getRd, lcRun, bindT, truth, need, sizeLine_is, mkL, O.res, gcR_same, ea, bltW, getL, intsOf, binW_int, binI, Say.marks, idxW, getD, L2.atI, L2.ixN, cmpW, W.flat, inF, eqF, ofString_inj, Mark.name]
    all_goals (first | done | (omega))
  | mk m a b iha ihb =>
    intro k hk S
    simp only [Say.depth] at hk
    obtain ⟨k, rfl⟩ : ∃ k2, k = k2 + 2 := ⟨k - 2, by omega⟩
    have ea := iha (k + 1) (by omega) S
    have eb := ihb (k + 1) (by omega) S
    have hp := parts_run h0 k (.mk m a b) S
    simp only [Say.w] at hp ⊢
    rw [callK, h3]
    cases m <;> simp only [Mark.name] at hp ⊢ <;> simp [d_marks_in, exL, ex, ev, evL, evI, hp, Say.parts, seqOf, getRd, lcRun, bindT, truth, need, sizeLine_is, mkL, O.res, gcR_same, ea, eb, bltW, getL, intsOf, binW_int, binI, Say.marks, idxW, getD, L2.atI, L2.ixN, cmpW, W.flat, inF, eqF, ofString_inj, Mark.name]
    all_goals (first | done | (omega))
theorem occ_run (h0 : P 0 = some d_parts_of) (h5 : P 5 = some d_occurrences) (y : Str) : ∀ (s : Say) (k : Nat), s.depth + 2 ≤ k → ∀ S : Store, callK P k 5 [s.w, .str y] S = .ok (.int (s.nms.count y)) (S) := by
  intro s
  induction s with
  | unk x =>
    intro k hk S
    simp only [Say.depth] at hk
    obtain ⟨k, rfl⟩ : ∃ k2, k = k2 + 2 := ⟨k - 2, by omega⟩
    have hp := parts_run h0 k (.unk x) S
    simp only [Say.w] at hp ⊢
    rw [callK, h5]
    by_cases hxy : x = y <;> simp [d_occurrences, exL, ex, ev, evL, evI, hp, Say.parts, seqOf, getRd, lcRun, bindT, truth, need, sizeLine_is, mkL, O.res, gcR_same, bltW, getL, intsOf, binW_int, binI, Say.nms, idxW, getD, L2.atI, L2.ixN, cmpW, ofString_inj, Mark.name, List.count_cons, List.count_append, hxy]
  | yes =>
    intro k hk S
    simp only [Say.depth] at hk
    obtain ⟨k, rfl⟩ : ∃ k2, k = k2 + 2 := ⟨k - 2, by omega⟩
    have hp := parts_run h0 k (.yes) S
    simp only [Say.w] at hp ⊢
    rw [callK, h5]
    simp [d_occurrences, exL, ex, ev, evL, evI, hp, Say.parts, seqOf, getRd, lcRun, bindT, truth, need, sizeLine_is, mkL, O.res, gcR_same, bltW, getL, intsOf, binW_int, binI, Say.nms, idxW, getD, L2.atI, L2.ixN, cmpW, ofString_inj, Mark.name, List.count_cons, List.count_append]
    all_goals (first | done | (omega))
  | no =>
    intro k hk S
    simp only [Say.depth] at hk
    obtain ⟨k, rfl⟩ : ∃ k2, k = k2 + 2 := ⟨k - 2, by omega⟩
    have hp := parts_run h0 k (.no) S
    simp only [Say.w] at hp ⊢
    rw [callK, h5]
    simp [d_occurrences, exL, ex, ev, evL, evI, hp, Say.parts, seqOf, getRd, lcRun, bindT, truth, need, sizeLine_is, mkL, O.res, gcR_same, bltW, getL, intsOf, binW_int, binI, Say.nms, idxW, getD, L2.atI, L2.ixN, cmpW, ofString_inj, Mark.name, List.count_cons, List.count_append]
    all_goals (first | done | (omega))
  | neg a ih =>
    intro k hk S
    simp only [Say.depth] at hk
    obtain ⟨k, rfl⟩ : ∃ k2, k = k2 + 2 := ⟨k - 2, by omega⟩
    have ea := ih (k + 1) (by omega) S
    have hp := parts_run h0 k (.neg a) S
    simp only [Say.w] at hp ⊢
    rw [callK, h5]
    simp [d_occurrences, exL, ex, ev, evL, evI, hp, Say.parts, seqOf, getRd, lcRun, bindT, truth, need, sizeLine_is, mkL, O.res, gcR_same, ea, bltW, getL, intsOf, binW_int, binI, Say.nms, idxW, getD, L2.atI, L2.ixN, cmpW, ofString_inj, Mark.name, List.count_cons, List.count_append]
    all_goals (first | done | (omega))
  | mk m a b iha ihb =>
    intro k hk S
    simp only [Say.depth] at hk
    obtain ⟨k, rfl⟩ : ∃ k2, k = k2 + 2 := ⟨k - 2, by omega⟩
    have ea := iha (k + 1) (by omega) S
    have eb := ihb (k + 1) (by omega) S
    have hp := parts_run h0 k (.mk m a b) S
    simp only [Say.w] at hp ⊢
    rw [callK, h5]
    cases m <;> simp only [Mark.name] at hp ⊢ <;> simp [d_occurrences, exL, ex, ev, evL, evI, hp, Say.parts, seqOf, getRd, lcRun, bindT, truth, need, sizeLine_is, mkL, O.res, gcR_same, ea, eb, bltW, getL, intsOf, binW_int, binI, Say.nms, idxW, getD, L2.atI, L2.ixN, cmpW, ofString_inj, Mark.name, List.count_cons, List.count_append]
    all_goals (first | done | (omega))
end
end PyI

/-! Pure part: the law's own counting. Own work. -/
namespace PyI
open PySem (Str sizeLine PyData)
section
variable {P : Nat → Option Def}
theorem cmpW_in {S : Store} {x : Str} {l : List Str} : cmpW S .isin (.str x) (.lst (l.map W.str)) = some (decide (x ∈ l)) := by
  simp only [cmpW, getD, getRd, W.flat, flat_str, inF_str, and_self, if_true]
theorem binL_add1 {S : Store} {x : Str} {l : List Str} (h : l.length + 1 ≤ 1000000) : binW S .add (.lst (l.map W.str)) (.lst [.str x]) = some (.lst ((l ++ [x]).map W.str)) := by
  simp only [binW, binL, getL, List.length_map, List.length_cons, List.length_nil]
  rw [if_pos (by rw [sizeLine_is]; omega)]
  simp
theorem binL_app {S : Store} {l r : List Str} (h : l.length + r.length ≤ 1000000) : binW S .add (.lst (l.map W.str)) (.lst (r.map W.str)) = some (.lst ((l ++ r).map W.str)) := by
  simp only [binW, binL, getL, List.length_map]
  rw [if_pos (by rw [sizeLine_is]; omega)]
  simp
theorem binL_gen {S : Store} {l r : List W} (h : l.length + r.length ≤ 1000000) : binW S .add (.lst l) (.lst r) = some (.lst (l ++ r)) := by
  simp only [binW, binL, getL]
  rw [if_pos (by rw [sizeLine_is]; omega)]
theorem ofString_beq {a b : String} : (Str.ofString a == Str.ofString b) = decide (a = b) := by
  rw [Bool.eq_iff_iff]
  simp [ofString_inj]
theorem names_run (h9 : P 9 = some d_law_names_in) : ∀ (s : Say) (k : Nat), s.depth + 2 ≤ k → ∀ (l : List Str), l.length + s.words ≤ 1000000 → ∀ S : Store, callK P k 9 [s.w, .lst (l.map W.str)] S = .ok (.lst ((s.add l).map W.str)) (S) := by
  intro s
  induction s with
  | unk x =>
    intro k hk l hl S
    simp only [Say.depth] at hk
    obtain ⟨k, rfl⟩ : ∃ k2, k = k2 + 2 := ⟨k - 2, by omega⟩
    simp only [Say.w]
    rw [callK, h9]
    have hb := binL_add1 (l := l) (x := x) (S := S) (by simp only [Say.words] at hl; omega)
    by_cases hxy : x ∈ l <;> simp [d_law_names_in, exL, ex, ev, evL, evI, bindT, truth, need, sizeLine_is, mkL, O.res, gcR_same, forRun, idxW, getD, getRd, L2.atI, L2.ixN, cmpW, W.flat, inF_str, ofString_inj, Mark.name, Say.add, addN, asPart, sliceW, getL, cutW, HT.sIx, seqOf, hxy, hb]
  | yes =>
    intro k hk l hl S
    simp only [Say.depth] at hk
    obtain ⟨k, rfl⟩ : ∃ k2, k = k2 + 2 := ⟨k - 2, by omega⟩
    simp only [Say.w]
    rw [callK, h9]
    simp [d_law_names_in, exL, ex, ev, evL, evI, bindT, truth, need, sizeLine_is, mkL, O.res, gcR_same, forRun, idxW, getD, getRd, L2.atI, L2.ixN, cmpW, W.flat, inF_str, ofString_inj, Mark.name, Say.add, addN, asPart, sliceW, getL, cutW, HT.sIx, seqOf]
  | no =>
    intro k hk l hl S
    simp only [Say.depth] at hk
    obtain ⟨k, rfl⟩ : ∃ k2, k = k2 + 2 := ⟨k - 2, by omega⟩
    simp only [Say.w]
    rw [callK, h9]
    simp [d_law_names_in, exL, ex, ev, evL, evI, bindT, truth, need, sizeLine_is, mkL, O.res, gcR_same, forRun, idxW, getD, getRd, L2.atI, L2.ixN, cmpW, W.flat, inF_str, ofString_inj, Mark.name, Say.add, addN, asPart, sliceW, getL, cutW, HT.sIx, seqOf]
  | neg a ih =>
    intro k hk l hl S
    simp only [Say.depth] at hk
    obtain ⟨k, rfl⟩ : ∃ k2, k = k2 + 2 := ⟨k - 2, by omega⟩
    have ea := ih (k + 1) (by omega) l (by simp only [Say.words] at hl; omega) S
    simp only [Say.w]
    rw [callK, h9]
    simp [d_law_names_in, exL, ex, ev, evL, evI, bindT, truth, need, sizeLine_is, mkL, O.res, gcR_same, ea, forRun, idxW, getD, getRd, L2.atI, L2.ixN, cmpW, W.flat, inF_str, ofString_inj, Mark.name, Say.add, addN, asPart, sliceW, getL, cutW, HT.sIx, seqOf]
  | mk m a b iha ihb =>
    intro k hk l hl S
    simp only [Say.depth] at hk
    obtain ⟨k, rfl⟩ : ∃ k2, k = k2 + 2 := ⟨k - 2, by omega⟩
    have ea := iha (k + 1) (by omega) l (by simp only [Say.words] at hl; omega) S
    have eb := ihb (k + 1) (by omega) (a.add l) (by have := a.add_len l; simp only [Say.words] at hl; omega) S
    simp only [Say.w]
    rw [callK, h9]
    cases m <;> simp only [Mark.name] at ⊢ <;> simp [d_law_names_in, exL, ex, ev, evL, evI, bindT, truth, need, sizeLine_is, mkL, O.res, gcR_same, ea, eb, forRun, idxW, getD, getRd, L2.atI, L2.ixN, cmpW, W.flat, inF_str, ofString_inj, Mark.name, Say.add, addN, asPart, sliceW, getL, cutW, HT.sIx, seqOf]
theorem lwords_run (h10 : P 10 = some d_law_words) : ∀ (s : Say) (k : Nat), s.depth + 2 ≤ k → ∀ (_ : s.words ≤ 1000000) (S : Store), callK P k 10 [s.w] S = .ok (.tup [.lst (s.wl.map W.str), .int s.depth]) (S) := by
  intro s
  induction s with
  | unk x =>
    intro k hk hl S
    simp only [Say.depth] at hk
    obtain ⟨k, rfl⟩ : ∃ k2, k = k2 + 2 := ⟨k - 2, by omega⟩
    simp only [Say.w]
    rw [callK, h10]
    simp [d_law_words, exL, ex, ev, evL, evI, bindT, truth, need, sizeLine_is, mkL, O.res, gcR_same, forRun, idxW, getD, getRd, L2.atI, L2.ixN, cmpW, W.flat, inF, eqF, ofString_beq, ofString_inj, Mark.name, Say.wl, asPart, sliceW, cutW, HT.sIx, seqOf, bltW, binW_int, getL, binI, Say.depth]
    all_goals (first | done | (first | omega | (split <;> omega) | (by_cases hab : a.depth ≤ b.depth; (rw [Nat.max_eq_right hab]; (repeat' split) <;> omega); (rw [Nat.max_eq_left (by omega)]; (repeat' split) <;> omega)) | trace_state))
  | yes =>
    intro k hk hl S
    simp only [Say.depth] at hk
    obtain ⟨k, rfl⟩ : ∃ k2, k = k2 + 2 := ⟨k - 2, by omega⟩
    simp only [Say.w]
    rw [callK, h10]
    simp [d_law_words, exL, ex, ev, evL, evI, bindT, truth, need, sizeLine_is, mkL, O.res, gcR_same, forRun, idxW, getD, getRd, L2.atI, L2.ixN, cmpW, W.flat, inF, eqF, ofString_beq, ofString_inj, Mark.name, Say.wl, asPart, sliceW, cutW, HT.sIx, seqOf, bltW, binW_int, getL, binI, Say.depth]
    all_goals (first | done | (first | omega | (split <;> omega) | (by_cases hab : a.depth ≤ b.depth; (rw [Nat.max_eq_right hab]; (repeat' split) <;> omega); (rw [Nat.max_eq_left (by omega)]; (repeat' split) <;> omega)) | trace_state))
  | no =>
    intro k hk hl S
    simp only [Say.depth] at hk
    obtain ⟨k, rfl⟩ : ∃ k2, k = k2 + 2 := ⟨k - 2, by omega⟩
    simp only [Say.w]
    rw [callK, h10]
    simp [d_law_words, exL, ex, ev, evL, evI, bindT, truth, need, sizeLine_is, mkL, O.res, gcR_same, forRun, idxW, getD, getRd, L2.atI, L2.ixN, cmpW, W.flat, inF, eqF, ofString_beq, ofString_inj, Mark.name, Say.wl, asPart, sliceW, cutW, HT.sIx, seqOf, bltW, binW_int, getL, binI, Say.depth]
    all_goals (first | done | (first | omega | (split <;> omega) | (by_cases hab : a.depth ≤ b.depth; (rw [Nat.max_eq_right hab]; (repeat' split) <;> omega); (rw [Nat.max_eq_left (by omega)]; (repeat' split) <;> omega)) | trace_state))
  | neg a ih =>
    intro k hk hl S
    simp only [Say.depth] at hk
    obtain ⟨k, rfl⟩ : ∃ k2, k = k2 + 2 := ⟨k - 2, by omega⟩
    have ea := ih (k + 1) (by omega) (by simp only [Say.words] at hl; omega) S
    have hb1 := binL_gen (S := S) (l := [W.str (Str.ofString "not")]) (r := a.wl.map W.str) (by simp only [List.length_map, Say.wl_len, List.length_cons, List.length_nil]; simp only [Say.words] at hl; omega)
    simp only [List.cons_append, List.nil_append] at hb1
    simp only [Say.w]
    rw [callK, h10]
    simp [d_law_words, exL, ex, ev, evL, evI, bindT, truth, need, sizeLine_is, mkL, O.res, gcR_same, ea, forRun, idxW, getD, getRd, L2.atI, L2.ixN, cmpW, W.flat, inF, eqF, ofString_beq, ofString_inj, Mark.name, Say.wl, asPart, sliceW, cutW, HT.sIx, seqOf, bltW, binW_int, getL, binI, Say.depth, hb1]
    all_goals (first | done | (first | omega | (split <;> omega) | (by_cases hab : a.depth ≤ b.depth; (rw [Nat.max_eq_right hab]; (repeat' split) <;> omega); (rw [Nat.max_eq_left (by omega)]; (repeat' split) <;> omega)) | trace_state))
  | mk m a b iha ihb =>
    intro k hk hl S
    simp only [Say.depth] at hk
    obtain ⟨k, rfl⟩ : ∃ k2, k = k2 + 2 := ⟨k - 2, by omega⟩
    have ea := iha (k + 1) (by omega) (by simp only [Say.words] at hl; omega) S
    have hb1 := fun c : Str => binL_gen (S := S) (l := [W.str c]) (r := a.wl.map W.str) (by simp only [List.length_map, Say.wl_len, List.length_cons, List.length_nil]; simp only [Say.words] at hl; omega)
    have hb2 := fun c : Str => binL_gen (S := S) (l := W.str c :: a.wl.map W.str) (r := b.wl.map W.str) (by simp only [List.length_map, Say.wl_len, List.length_cons]; simp only [Say.words] at hl; omega)
    simp only [List.cons_append, List.nil_append] at hb1 hb2
    have eb := ihb (k + 1) (by omega) (by simp only [Say.words] at hl; omega) S
    simp only [Say.w]
    rw [callK, h10]
    cases m <;> simp only [Mark.name] at ⊢ <;> simp [d_law_words, exL, ex, ev, evL, evI, bindT, truth, need, sizeLine_is, mkL, O.res, gcR_same, ea, eb, forRun, idxW, getD, getRd, L2.atI, L2.ixN, cmpW, W.flat, inF, eqF, ofString_beq, ofString_inj, Mark.name, Say.wl, asPart, sliceW, cutW, HT.sIx, seqOf, bltW, binW_int, getL, binI, Say.depth, hb1, hb2]
    all_goals (first | done | (first | omega | (split <;> omega) | (by_cases hab : a.depth ≤ b.depth; (rw [Nat.max_eq_right hab]; (repeat' split) <;> omega); (rw [Nat.max_eq_left (by omega)]; (repeat' split) <;> omega)) | trace_state))
theorem leaves_run (h11 : P 11 = some d_law_leaves) : ∀ (s : Say) (k : Nat), s.depth + 2 ≤ k → ∀ (_ : s.words ≤ 1000000) (S : Store), callK P k 11 [s.w] S = .ok (.lst (s.nms.map W.str)) (S) := by
  intro s
  induction s with
  | unk x =>
    intro k hk hl S
    simp only [Say.depth] at hk
    obtain ⟨k, rfl⟩ : ∃ k2, k = k2 + 2 := ⟨k - 2, by omega⟩
    simp only [Say.w]
    rw [callK, h11]
    simp [d_law_leaves, exL, ex, ev, evL, evI, bindT, truth, need, sizeLine_is, mkL, O.res, gcR_same, forRun, idxW, getD, getRd, L2.atI, L2.ixN, cmpW, ofString_inj, Mark.name, Say.nms, asPart, sliceW, cutW, HT.sIx, seqOf, getL]
  | yes =>
    intro k hk hl S
    simp only [Say.depth] at hk
    obtain ⟨k, rfl⟩ : ∃ k2, k = k2 + 2 := ⟨k - 2, by omega⟩
    simp only [Say.w]
    rw [callK, h11]
    simp [d_law_leaves, exL, ex, ev, evL, evI, bindT, truth, need, sizeLine_is, mkL, O.res, gcR_same, forRun, idxW, getD, getRd, L2.atI, L2.ixN, cmpW, ofString_inj, Mark.name, Say.nms, asPart, sliceW, cutW, HT.sIx, seqOf, getL]
  | no =>
    intro k hk hl S
    simp only [Say.depth] at hk
    obtain ⟨k, rfl⟩ : ∃ k2, k = k2 + 2 := ⟨k - 2, by omega⟩
    simp only [Say.w]
    rw [callK, h11]
    simp [d_law_leaves, exL, ex, ev, evL, evI, bindT, truth, need, sizeLine_is, mkL, O.res, gcR_same, forRun, idxW, getD, getRd, L2.atI, L2.ixN, cmpW, ofString_inj, Mark.name, Say.nms, asPart, sliceW, cutW, HT.sIx, seqOf, getL]
  | neg a ih =>
    intro k hk hl S
    simp only [Say.depth] at hk
    obtain ⟨k, rfl⟩ : ∃ k2, k = k2 + 2 := ⟨k - 2, by omega⟩
    have ea := ih (k + 1) (by omega) (by simp only [Say.words] at hl; omega) S
    have hb1 := binL_gen (S := S) (l := []) (r := a.nms.map W.str) (by have := a.nms_len; simp only [List.length_map, List.length_nil]; simp only [Say.words] at hl; omega)
    simp only [List.nil_append] at hb1
    simp only [Say.w]
    rw [callK, h11]
    simp [d_law_leaves, exL, ex, ev, evL, evI, bindT, truth, need, sizeLine_is, mkL, O.res, gcR_same, ea, forRun, idxW, getD, getRd, L2.atI, L2.ixN, cmpW, ofString_inj, Mark.name, Say.nms, asPart, sliceW, cutW, HT.sIx, seqOf, getL, hb1]
  | mk m a b iha ihb =>
    intro k hk hl S
    simp only [Say.depth] at hk
    obtain ⟨k, rfl⟩ : ∃ k2, k = k2 + 2 := ⟨k - 2, by omega⟩
    have ea := iha (k + 1) (by omega) (by simp only [Say.words] at hl; omega) S
    have hb1 := binL_gen (S := S) (l := []) (r := a.nms.map W.str) (by have := a.nms_len; simp only [List.length_map, List.length_nil]; simp only [Say.words] at hl; omega)
    have hb2 := binL_gen (S := S) (l := a.nms.map W.str) (r := b.nms.map W.str) (by have := a.nms_len; have := b.nms_len; simp only [List.length_map]; simp only [Say.words] at hl; omega)
    simp only [List.nil_append] at hb1
    have eb := ihb (k + 1) (by omega) (by simp only [Say.words] at hl; omega) S
    simp only [Say.w]
    rw [callK, h11]
    cases m <;> simp only [Mark.name] at ⊢ <;> simp [d_law_leaves, exL, ex, ev, evL, evI, bindT, truth, need, sizeLine_is, mkL, O.res, gcR_same, ea, eb, forRun, idxW, getD, getRd, L2.atI, L2.ixN, cmpW, ofString_inj, Mark.name, Say.nms, asPart, sliceW, cutW, HT.sIx, seqOf, getL, hb1, hb2]
end
end PyI

/-! Pure part: the unknowns; a saying's look. Own work. -/
namespace PyI
open PySem (Str sizeLine PyData)
section
variable {P : Nat → Option Def}
theorem set_same {α : Type} {S : List α} {j : Nat} {c : α} (h : S[j]? = some c) : S.set j c = S := by
  obtain ⟨h1, h2⟩ := List.getElem?_eq_some_iff.mp h
  rw [← h2]; exact List.set_getElem_self h1
theorem cmpW_notin_loc {S : Store} {x : Str} {j : Nat} {l : List Str} (h : S[j]? = some (.lst (l.map W.str))) : cmpW S .notin (.str x) (.loc j) = some (!decide (x ∈ l)) := by
  simp only [cmpW, getD, getRd, h]
  rw [if_pos ⟨rfl, flat_str l⟩, inF_str]
theorem cmpW_eq {S : Store} {a b : String} : cmpW S .eq (.str (Str.ofString a)) (.str (Str.ofString b)) = some (decide (a = b)) := by
  simp [cmpW, ofString_inj]
theorem note_leaf {k : Nat} {S : Store} {j : Nat} {w : W} {h : String} (h4 : P 4 = some d_u_note_unknowns) (hw : w = .tup [.str (Str.ofString h)]) (hh : h ≠ "unknown") (hp : callK P (k + 1) 0 [w] S = .ok (.tup []) S) : callK P (k + 2) 4 [w, .loc j] S = .ok .non S := by
  subst hw
  have hg : gcR S .non S = .ok .non S := gcR_same
  rw [callK, h4]
  simp [d_u_note_unknowns, exL, ex, ev, evL, evI, idxW, getD, getRd, L2.atI, L2.ixN, truth, bindT, hh, O.res, hg, cmpW_eq, hp, seqOf, forRun]
theorem note_run (h0 : P 0 = some d_parts_of) (h4 : P 4 = some d_u_note_unknowns) {j : Nat} : ∀ (s : Say) (k : Nat), s.depth + 2 ≤ k → ∀ (l : List Str), l.length + s.words ≤ 1000000 → ∀ S : Store, S[j]? = some (.lst (l.map W.str)) →
    callK P k 4 [s.w, .loc j] S = .ok .non (S.set j (.lst ((s.add l).map W.str))) := by
  intro s
  induction s with
  | unk x =>
    intro k hk l hl S hS
    obtain ⟨k, rfl⟩ : ∃ k2, k = k2 + 2 := ⟨k - 2, by omega⟩
    have hn := cmpW_notin_loc (x := x) hS
    simp only [Say.w]
    rw [callK, h4]
    by_cases hx : x ∈ l
    · have hg : gcR S .non S = .ok .non S := gcR_same
      have e := set_same hS
      simp [d_u_note_unknowns, exL, ex, ev, evL, idxW, getD, getRd, L2.atI, L2.ixN, hn, truth, bindT, hx, O.res, hg, Say.add, addN, e, cmpW_eq]
    · have hg : gcR S .non (S.set j (.lst (l.map W.str ++ [.str x]))) = .ok .non (S.set j (.lst (l.map W.str ++ [.str x]))) := gcR_len (by simp)
      have h5 : l.length < sizeLine := by rw [sizeLine_is]; simp only [Say.words] at hl; omega
      simp [d_u_note_unknowns, exL, ex, ev, evL, idxW, getD, getRd, L2.atI, L2.ixN, hn, truth, bindT, hx, O.res, hg, Say.add, addN, cmpW_eq, mthRecv, getL, hS, mthW, need, h5]
  | yes =>
    intro k hk l hl S hS
    obtain ⟨k, rfl⟩ : ∃ k2, k = k2 + 2 := ⟨k - 2, by omega⟩
    rw [note_leaf (w := Say.yes.w) h4 rfl (by decide) (parts_run h0 k .yes S), Say.add, set_same hS]
  | no =>
    intro k hk l hl S hS
    obtain ⟨k, rfl⟩ : ∃ k2, k = k2 + 2 := ⟨k - 2, by omega⟩
    rw [note_leaf (w := Say.no.w) h4 rfl (by decide) (parts_run h0 k .no S), Say.add, set_same hS]
  | neg a ih =>
    intro k hk l hl S hS
    simp only [Say.depth] at hk
    simp only [Say.words] at hl
    obtain ⟨k, rfl⟩ : ∃ k2, k = k2 + 2 := ⟨k - 2, by omega⟩
    have ea := ih (k + 1) (by omega) l (by omega) S hS
    have hp := parts_run h0 k (.neg a) S
    simp only [Say.w] at hp ⊢
    have hg : gcR S .non (S.set j (.lst ((a.add l).map W.str))) = .ok .non (S.set j (.lst ((a.add l).map W.str))) := gcR_len (by simp)
    rw [callK, h4]
    simp [d_u_note_unknowns, exL, ex, ev, evL, evI, idxW, getD, getRd, L2.atI, L2.ixN, truth, bindT, O.res, hg, cmpW_eq, hp, Say.parts, seqOf, forRun, ea, Say.add]
  | mk m a b iha ihb =>
    intro k hk l hl S hS
    simp only [Say.depth] at hk
    simp only [Say.words] at hl
    obtain ⟨k, rfl⟩ : ∃ k2, k = k2 + 2 := ⟨k - 2, by omega⟩
    have hj : j < S.length := (List.getElem?_eq_some_iff.mp hS).1
    have ea := iha (k + 1) (by omega) l (by omega) S hS
    have eb := ihb (k + 1) (by omega) (a.add l) (by have := a.add_len l; omega) (S.set j (.lst ((a.add l).map W.str))) (by rw [List.getElem?_set_self hj])
    rw [List.set_set] at eb
    have hp := parts_run h0 k (.mk m a b) S
    simp only [Say.w] at hp ⊢
    have hg : gcR S .non (S.set j (.lst ((b.add (a.add l)).map W.str))) = .ok .non (S.set j (.lst ((b.add (a.add l)).map W.str))) := gcR_len (by simp)
    have hm : m.name ≠ "unknown" := by cases m <;> decide
    rw [callK, h4]
    simp [d_u_note_unknowns, exL, ex, ev, evL, evI, idxW, getD, getRd, L2.atI, L2.ixN, truth, bindT, O.res, hg, cmpW_eq, hp, Say.parts, seqOf, forRun, ea, eb, hm, Say.add]
/-- the unknowns of all -/
def addAll (l : List Str) (ss : List Say) : List Str := ss.foldl (fun l s => s.add l) l
theorem und_strs (n : Nat) : ∀ l : List Str, undL n (l.map W.str) = true
  | [] => rfl
  | _ :: r => by simp [undL, W.und, und_strs n r]
def wordsAll (ss : List Say) : Nat := (ss.map Say.words).sum
theorem unk_loop (h0 : P 0 = some d_parts_of) (h4 : P 4 = some d_u_note_unknowns) {k D j : Nat} (hk : D + 2 ≤ k) {w0 : W} : ∀ (ss : List Say) (l : List Str) (S : Store) (x : Option W), (∀ s ∈ ss, s.depth ≤ D) → l.length + wordsAll ss ≤ 1000000 → S[j]? = some (.lst (l.map W.str)) →
    ∃ x', forRun (fB (callK P k) (.nm 2) (.cons (.expr (.call 4 (.cons (.var 2) (.cons (.var 1) .nil)))) .nil)) none (ss.map Say.w) [some w0, some (.loc j), x] S = .nx [some w0, some (.loc j), x'] (S.set j (.lst ((addAll l ss).map W.str)))
  | [], l, S, x, _, _, hS => ⟨x, by simp [forRun, addAll, set_same hS]⟩
  | s :: ss, l, S, x, hd, hl, hS => by
    have hj : j < S.length := (List.getElem?_eq_some_iff.mp hS).1
    have hl' : l.length + (s.words + wordsAll ss) ≤ 1000000 := by simpa [wordsAll] using hl
    have e := note_run h0 h4 s k (by have := hd s (.head _); omega) l (by omega) S hS
    obtain ⟨x', e2⟩ := unk_loop h0 h4 hk (w0 := w0) ss (s.add l) (S.set j (.lst ((s.add l).map W.str))) (some s.w) (fun t ht => hd t (.tail _ ht)) (by have := s.add_len l; omega) (by rw [List.getElem?_set_self hj])
    rw [List.set_set] at e2
    refine ⟨x', ?_⟩
    simp only [List.map_cons, forRun, held_none]
    simp [fB, bindT, exL, ex, ev, evL, e, e2, addAll]
theorem unknowns_run (h0 : P 0 = some d_parts_of) (h4 : P 4 = some d_u_note_unknowns) (h12 : P 12 = some d_unknowns_of) {k D : Nat} (hk : D + 3 ≤ k) {ss : List Say} (hd : ∀ s ∈ ss, s.depth ≤ D) (hl : wordsAll ss ≤ 1000000) (S : Store) :
    callK P k 12 [.tup (ss.map Say.w)] S = .ok (.tup ((addAll [] ss).map W.str)) S := by
  obtain ⟨k, rfl⟩ : ∃ k2, k = k2 + 1 := ⟨k - 1, by omega⟩
  obtain ⟨x', e⟩ := unk_loop h0 h4 (k := k) (D := D) (j := S.length) (by omega) (w0 := .tup (ss.map Say.w)) ss [] (S ++ [.lst []]) none hd (by simpa using hl) (by simp)
  have e3 : (S ++ [Cell.lst []]).set S.length (.lst ((addAll [] ss).map W.str)) = S ++ [.lst ((addAll [] ss).map W.str)] := by simp
  rw [e3] at e
  have hg : gcR S (.tup ((addAll [] ss).map W.str)) (S ++ [.lst ((addAll [] ss).map W.str)]) = .ok (.tup ((addAll [] ss).map W.str)) S := gcR_pure (by simp [W.und, und_strs]) ⟨_, rfl⟩
  rw [callK, h12]
  simp [d_unknowns_of, ↓exFor, exL, ex, ev, evL, evI, need, mkL, bindT, seqOf, getRd, e, bltW, getL, O.res, hg]
end
end PyI

/-! Pure part: what is shown. Own work. -/
namespace PyI
open PySem (Str sizeLine PyData)
/-- a datum that is shown without trouble -/
structure Shw (d : PyData) (D B : Nat) : Prop where
  sh : d.showable = true
  dp : d.depth ≤ D
  lv : d.leavesShort 13 = true
  bk : d.bulk ≤ B
  cl : d.canLay0 = true
structure ShwL (ds : List PyData) (D B : Nat) : Prop where
  sh : PyData.showableAll ds = true
  dp : PyData.depthAll ds ≤ D
  lv : PyData.leavesShortAll 13 ds = true
  bk : PyData.bulkAll ds ≤ B
  cl : PyData.canLayAll0 ds = true
theorem ShwL.nil {D B : Nat} : ShwL [] D B := ⟨rfl, Nat.zero_le _, rfl, Nat.zero_le _, rfl⟩
theorem ShwL.cons {d : PyData} {ds : List PyData} {D B b : Nat} (h : Shw d D b) (t : ShwL ds D B) : ShwL (d :: ds) D (b + 1 + B) :=
  ⟨by simp [PyData.showableAll, h.sh, t.sh], by have := h.dp; have := t.dp; simp only [PyData.depthAll]; omega, by simp [PyData.leavesShortAll, h.lv, t.lv], by have := h.bk; have := t.bk; simp only [PyData.bulkAll]; omega, by simp [PyData.canLayAll0, h.cl, t.cl]⟩
theorem Shw.tup {ds : List PyData} {D B : Nat} (h : ShwL ds D B) : Shw (.tuple ds) (D + 1) B :=
  ⟨by simpa [PyData.showable] using h.sh, by have := h.dp; simp only [PyData.depth]; omega, by simpa [PyData.leavesShort] using h.lv, by simpa [PyData.bulk] using h.bk, by simpa [PyData.canLay0] using h.cl⟩
theorem Shw.mono {d : PyData} {D B D' B' : Nat} (h : Shw d D B) (h1 : D ≤ D') (h2 : B ≤ B') : Shw d D' B' := ⟨h.sh, Nat.le_trans h.dp h1, h.lv, Nat.le_trans h.bk h2, h.cl⟩
theorem ShwL.mono {d : List PyData} {D B D' B' : Nat} (h : ShwL d D B) (h1 : D ≤ D') (h2 : B ≤ B') : ShwL d D' B' := ⟨h.sh, Nat.le_trans h.dp h1, h.lv, Nat.le_trans h.bk h2, h.cl⟩
theorem Shw.int {i : Int} (h : i.natAbs < 10 ^ 12) : Shw (.int i) 0 0 := by
  refine ⟨?_, Nat.le_refl _, ?_, Nat.le_refl _, rfl⟩
  · simp only [PyData.showable, decide_eq_true_eq]
    rcases Nat.eq_zero_or_pos i.natAbs with e | e
    · rw [e]; decide
    · have : i.natAbs.log2 < 40 := (Nat.log2_lt (by omega)).mpr (by omega)
      omega
  · simp only [PyData.leavesShort, decide_eq_true_eq]
    exact PyData.shown_int_le h
/-- a text of plain signs -/
structure OkStr (x : Str) (n : Nat) : Prop where
  cp : ∀ c ∈ x.cps.toList, c < 16 ^ 8
  sz : x.cps.size ≤ n
  ok : PyData.strOk x = true
theorem Shw.str {x : Str} {n : Nat} (h : OkStr x n) : Shw (.str x) 0 n :=
  ⟨rfl, Nat.le_refl _, by simpa only [PyData.leavesShort, List.all_eq_true, decide_eq_true_eq] using h.cp, h.sz, by simpa [PyData.canLay0] using h.ok⟩
def okC (s : String) (n : Nat) : Bool := (Str.ofString s).cps.toList.all (fun c => decide (c < 16 ^ 8)) && decide ((Str.ofString s).cps.size ≤ n) && PyData.strOk (Str.ofString s)
theorem OkStr.of {s : String} {n : Nat} (h : okC s n = true) : OkStr (Str.ofString s) n := by
  simp only [okC, Bool.and_eq_true, List.all_eq_true, decide_eq_true_eq] at h
  exact ⟨h.1.1, h.1.2, h.2⟩
theorem Shw.lst {ds : List PyData} {D B : Nat} (h : ShwL ds D B) : Shw (.list ds) (D + 1) B :=
  ⟨by simpa [PyData.showable] using h.sh, by have := h.dp; simp only [PyData.depth]; omega, by simpa [PyData.leavesShort] using h.lv, by simpa [PyData.bulk] using h.bk, by simpa [PyData.canLay0] using h.cl⟩
theorem Shw.shaped {d : PyData} {D B : Nat} (h : Shw d D B) (hD : D ≤ 64) : PySem.SeqAt.shaped d = true := by
  simp only [PySem.SeqAt.shaped, Bool.and_eq_true, decide_eq_true_eq]
  exact ⟨h.cl, Nat.le_trans h.dp hD⟩
theorem ne_nil {S : Store} {n : Nat} {l : List W} {D B : Nat} (hS : S[n]? = some (.lst l)) (hp : pureL l = true) (h : ShwL (pdL l) D B) (hD : D ≤ 63) : cmpW S .ne (.loc n) (.lst []) = some (!l.isEmpty) := by
  have h1 := (Shw.lst h).shaped (by omega)
  have h2 := (Shw.lst (ShwL.nil (D := 0) (B := 0))).shaped (by omega)
  simp only [cmpW, dataOf, hS, hp, if_true, W.pure, pureL, W.pd, pdL]
  rw [if_pos ⟨h1, h2⟩]
  cases l <;> rfl
theorem repr_tup {l : List W} {S : Store} {B : Nat} (hp : pureL l = true) (h : Shw (.tuple (pdL l)) 190 B) (hB : B ≤ 2 ^ 20) : bltW .repr [.tup l] S = .ok (.str (PyData.tuple (pdL l)).shown) S := by
  have hf := PyData.shown_fits_bulk (by decide) (by decide) h.lv (Nat.le_trans h.bk hB)
  show (lift S (dataOf S (.tup l))).bind _ = _
  simp only [dataOf, W.pure, hp, if_true, W.pd, lift_some, R.bind_ok]
  rw [need_of ⟨h.sh, h.dp, hf⟩]
theorem repr_int {i : Int} {S : Store} (h : i.natAbs < 10 ^ 12) : bltW .repr [.int i] S = .ok (.str (toString i)) S := by
  have h1 := (Shw.int h).sh
  simp only [PyData.showable, decide_eq_true_eq] at h1
  simp [bltW, need, h1]
theorem Say.pure_w : ∀ s : Say, s.w.pure = true
  | .unk x => rfl
  | .yes => rfl
  | .no => rfl
  | .neg a => by simp [Say.w, W.pure, pureL, Say.pure_w a]
  | .mk m a b => by simp [Say.w, W.pure, pureL, Say.pure_w a, Say.pure_w b]
theorem Say.shw : ∀ s : Say, (∀ x ∈ s.nms, OkStr x 10) → Shw s.w.pd (s.depth + 1) (20 * s.words)
  | .unk x, h => by
    have h1 := h x (by simp [Say.nms])
    have := Shw.tup (ShwL.cons (Shw.str (OkStr.of (s := "unknown") (n := 7) (by decide +kernel))) (ShwL.cons (Shw.str h1) (.nil (B := 0))))
    exact this.mono (Nat.le_refl _) (by simp [Say.words])
  | .yes, h => by
    have := Shw.tup (ShwL.cons (Shw.str (OkStr.of (s := "yes") (n := 3) (by decide +kernel))) (.nil (B := 0)))
    exact this.mono (Nat.le_refl _) (by simp [Say.words])
  | .no, h => by
    have := Shw.tup (ShwL.cons (Shw.str (OkStr.of (s := "no") (n := 3) (by decide +kernel))) (.nil (B := 0)))
    exact this.mono (Nat.le_refl _) (by simp [Say.words])
  | .neg a, h => by
    have h1 := Say.shw a h
    have h0 : Shw (.str (Str.ofString "not")) (a.depth + 1) 3 := (Shw.str (OkStr.of (by decide +kernel))).mono (Nat.zero_le _) (Nat.le_refl _)
    have := Shw.tup (ShwL.cons h0 (ShwL.cons h1 (.nil (B := 0))))
    exact this.mono (by simp [Say.depth]) (by simp only [Say.words]; omega)
  | .mk m a b, h => by
    have h1 := Say.shw a fun x hx => h x (List.mem_append_left _ hx)
    have h2 := Say.shw b fun x hx => h x (List.mem_append_right _ hx)
    have hm : okC m.name 5 = true := by cases m <;> decide +kernel
    have h0 : Shw (.str (Str.ofString m.name)) (max a.depth b.depth + 1) 5 := (Shw.str (OkStr.of hm)).mono (Nat.zero_le _) (Nat.le_refl _)
    have := Shw.tup (ShwL.cons h0 (ShwL.cons (h1.mono (D' := max a.depth b.depth + 1) (by omega) (Nat.le_refl _)) (ShwL.cons (h2.mono (D' := max a.depth b.depth + 1) (by omega) (Nat.le_refl _)) (.nil (B := 0)))))
    exact this.mono (by simp [Say.depth]) (by simp only [Say.words]; omega)
theorem pureL_map {α : Type} {f : α → W} : ∀ {l : List α}, (∀ x ∈ l, (f x).pure = true) → pureL (l.map f) = true
  | [], _ => rfl
  | x :: r, h => by simp [pureL, h x (.head _), pureL_map (l := r) fun y hy => h y (.tail _ hy)]
theorem shwL_map {α : Type} {f : α → W} {D B : Nat} : ∀ {l : List α}, (∀ x ∈ l, Shw (f x).pd D B) → ShwL (pdL (l.map f)) D (l.length * (B + 1))
  | [], _ => .nil
  | x :: r, h => by
    have := ShwL.cons (h x (.head _)) (shwL_map (l := r) fun y hy => h y (.tail _ hy))
    exact this.mono (Nat.le_refl _) (by rw [List.length_cons, Nat.add_mul]; omega)
theorem Say.marks_wl : ∀ s : Say, (s.wl.filter fun x => x ∈ [Str.ofString "plus", Str.ofString "times", Str.ofString "leads", Str.ofString "and", Str.ofString "or", Str.ofString "same"]).length = s.marks
  | .unk x => by simp [Say.wl, Say.marks, ofString_inj]
  | .yes => by simp [Say.wl, Say.marks, ofString_inj]
  | .no => by simp [Say.wl, Say.marks, ofString_inj]
  | .neg a => by
    have := Say.marks_wl a
    simp only [Say.wl, Say.marks]
    rw [List.filter_cons_of_neg (by simp [ofString_inj])]
    exact this
  | .mk m a b => by
    have h1 := Say.marks_wl a
    have h2 := Say.marks_wl b
    simp only [Say.wl, Say.marks]
    rw [List.filter_cons_of_pos (by cases m <;> simp [Mark.name]), List.filter_append, List.length_cons, List.length_append, h1, h2]
section
variable {P : Nat → Option Def}
theorem filterMap_filter {α β : Type} (p : α → Bool) (f : α → β) : ∀ l : List α, l.filterMap (fun x => if p x then some (f x) else none) = (l.filter p).map f
  | [] => rfl
  | x :: r => by
    rw [List.filterMap_cons, List.filter_cons]
    cases h : p x <;> simp [h, filterMap_filter p f r]
theorem right_run (h0 : P 0 = some d_parts_of) (h1 : P 1 = some d_words_in) (h2 : P 2 = some d_depth_of) (h3 : P 3 = some d_marks_in) (h5 : P 5 = some d_occurrences) (h10 : P 10 = some d_law_words) (h11 : P 11 = some d_law_leaves) (h13 : P 13 = some d_law_right)
    {s : Say} {k : Nat} (hk : s.depth + 3 ≤ k) (hw : s.words ≤ 100000) {ys : List Str} (hy : ys.length ≤ 1000) (S : Store) : callK P k 13 [s.w, .lst (ys.map W.str)] S = .ok (.bl true) S := by
  obtain ⟨k, rfl⟩ : ∃ k2, k = k2 + 1 := ⟨k - 1, by omega⟩
  have e10 := lwords_run h10 s k (by omega) (by omega) S
  have e11 := leaves_run h11 s k (by omega) (by omega) S
  have e1 := words_run h0 h1 s k (by omega) S
  have e2 := depth_run h0 h2 s k (by omega) S
  have e3 := marks_run h0 h3 s k (by omega) S
  have hmk := s.marks_le
  have hdp := s.depth_le
  have hnl := s.nms_len
  have hr : bltW .repr [.tup [.int s.words, .int s.depth, .int s.marks]] S = .ok (.str (PyData.tuple (pdL [.int s.words, .int s.depth, .int s.marks])).shown) S := by
    refine repr_tup (B := 3) rfl ?_ (by decide)
    have := Shw.tup (ShwL.cons (Shw.int (i := s.words) (by omega)) (ShwL.cons (Shw.int (i := s.depth) (by omega)) (ShwL.cons (Shw.int (i := s.marks) (by omega)) (.nil (B := 0)))))
    exact this.mono (by omega) (by omega)
  have hmarks : ∀ a0 a1 a2 a3 a4 a5 a6 a7 a8 : Option W, lcRun (lcB (callK P k) (.nm 7) (.cmp .isin (.var 7) (.tup (.cons (.cstr (Str.ofString "plus")) (.cons (.cstr (Str.ofString "times")) (.cons (.cstr (Str.ofString "leads")) (.cons (.cstr (Str.ofString "and")) (.cons (.cstr (Str.ofString "or")) (.cons (.cstr (Str.ofString "same")) .nil)))))))) (.var 7) [a0, a1, a2, a3, a4, a5, a6, a7, a8]) none (s.wl.map W.str) S
      = .ok ((s.wl.filter fun x => x ∈ [Str.ofString "plus", Str.ofString "times", Str.ofString "leads", Str.ofString "and", Str.ofString "or", Str.ofString "same"]).map W.str) S := by
    intro a0 a1 a2 a3 a4 a5 a6 a7 a8
    rw [lcRun_map (h := fun x : Str => if decide (x ∈ [Str.ofString "plus", Str.ofString "times", Str.ofString "leads", Str.ofString "and", Str.ofString "or", Str.ofString "same"]) then some (W.str x) else none), filterMap_filter]
    intro x _
    have hin := inF_str x [Str.ofString "plus", Str.ofString "times", Str.ofString "leads", Str.ofString "and", Str.ofString "or", Str.ofString "same"]
    simp only [List.map_cons, List.map_nil] at hin
    simp [lcB, bindT, ev, evL, need, sizeLine_is, cmpW, getD, getRd, W.flat, hin, truth]
    split <;> rfl
  have hcount : ∀ (a0 a1 a2 a3 a4 a5 a7 a8 : Option W) (y : Str), lcRun (lcB (callK P k) (.nm 8) (.cmp .eq (.var 8) (.var 6)) (.var 8) [a0, a1, a2, a3, a4, a5, some (.str y), a7, a8]) none (s.nms.map W.str) S = .ok ((s.nms.filter fun x => x == y).map W.str) S := by
    intro a0 a1 a2 a3 a4 a5 a7 a8 y
    rw [lcRun_map (h := fun x : Str => if (x == y) then some (W.str x) else none), filterMap_filter]
    intro x _
    by_cases hxy : x = y <;> simp [lcB, bindT, ev, cmpW, truth, hxy]
  generalize hσ0 : [some s.w, some (.lst (ys.map W.str)), some (.lst (s.wl.map W.str)), some (.int (s.depth : Int)), some (.lst (s.nms.map W.str)), some (.int (s.marks : Int)), (none : Option W), none, none] = σ0
  obtain ⟨σ', S', hfor, _, hS'⟩ := forRun_inv (f := fB (callK P k) (.nm 6) (.cons (.ife (.cmp .ne (.blt .repr (.cons (.call 5 (.cons (.var 0) (.cons (.var 6) .nil))) .nil)) (.blt .repr (.cons (.blt .len (.cons (.lc false (.nm 8) (.seq (.var 4)) (.cmp .eq (.var 8) (.var 6)) (.var 8)) .nil)) .nil))) (.cons (.ret (.cbl false)) .nil) .nil) .nil))
    (I := fun σ S1 => (∃ x, σ = [some s.w, some (.lst (ys.map W.str)), some (.lst (s.wl.map W.str)), some (.int (s.depth : Int)), some (.lst (s.nms.map W.str)), some (.int (s.marks : Int)), x, none, none]) ∧ S1 = S) (ws := ys.map W.str) (σ := σ0) (S := S)
    (fun w hw2 σ S1 ⟨⟨x, hσ⟩, hS1⟩ => by
      obtain ⟨y, _, rfl⟩ := List.mem_map.mp hw2
      subst hS1 hσ
      have e5 := occ_run h0 h5 y s k (by omega) S1
      have hc := fun a0 a1 a2 a3 a4 a5 a7 a8 => hcount a0 a1 a2 a3 a4 a5 a7 a8 y
      have hcl : (s.nms.filter fun x => x == y).length = s.nms.count y := by rw [List.count_eq_length_filter]
      have hcc : s.nms.count y ≤ s.nms.length := List.count_le_length
      have hri := repr_int (S := S1) (i := (s.nms.count y : Int)) (by omega)
      refine ⟨[some s.w, some (.lst (ys.map W.str)), some (.lst (s.wl.map W.str)), some (.int (s.depth : Int)), some (.lst (s.nms.map W.str)), some (.int (s.marks : Int)), some (.str y), none, none], S1, ?_, ⟨_, rfl⟩, rfl⟩
      have hsz : s.nms.length ≤ sizeLine := by rw [sizeLine_is]; omega
      simp [fB, bindT, exL, ex, ↓evLc, ev, evL, evI, e5, seqOf, getRd, need, hsz, hc, mkL, bltW_lst, hcl, hri, cmpW, truth]) ⟨⟨none, hσ0.symm⟩, rfl⟩
  rw [hS', ← hσ0] at hfor
  obtain ⟨fl, hfl, hml⟩ : ∃ fl : List Str, (s.wl.filter fun x => x ∈ [Str.ofString "plus", Str.ofString "times", Str.ofString "leads", Str.ofString "and", Str.ofString "or", Str.ofString "same"]) = fl ∧ fl.length = s.marks := ⟨_, rfl, s.marks_wl⟩
  rw [hfl] at hmarks
  have hww : s.words ≤ 16777216 := by omega
  have hwl := s.wl_len
  have hsw : s.wl.length ≤ sizeLine := by rw [sizeLine_is]; omega
  rw [callK, h13]
  simp [d_law_right, ↓exFor, ↓evLc, exL, ex, ev, evL, evI, e10, bindT, e11, seqOf, getRd, need, hsw, hww, hmarks, mkL, bltW_lst, hml, e1, e2, e3, sizeLine_is, hr, hwl, cmpW, truth, hfor, O.res, gcR_same]
end
end PyI

/-! Pure part: law k01. Own work. -/
namespace PyI
open PySem (Str sizeLine PyData)
theorem cutW_from {α : Type} {l : List α} {n : Nat} (h : n ≤ l.length) : cutW l (some (n : Int)) none = l.drop n := by
  unfold cutW
  simp only [HT.sIx]
  rw [if_neg (by omega), Int.toNat_natCast, Nat.min_eq_left h]
  exact List.take_of_length_le (by simp)
theorem cutW_to {α : Type} {l : List α} {n : Nat} (h : n ≤ l.length) : cutW l none (some (n : Int)) = l.take n := by
  unfold cutW
  simp only [HT.sIx]
  rw [if_neg (by omega), Int.toNat_natCast, Nat.min_eq_left h]
  rfl
def everyK : List Str := [Str.ofString "x", Str.ofString "y", Str.ofString "z", Str.ofString "a1", Str.ofString "p0q", Str.ofString "notx", Str.ofString "yess", Str.ofString "w", Str.ofString "abcdefgh"]
theorem everyK_ok : ∀ x ∈ everyK, OkStr x 10 := by
  intro x hx
  simp only [everyK, List.mem_cons, List.not_mem_nil, or_false] at hx
  rcases hx with rfl | rfl | rfl | rfl | rfl | rfl | rfl | rfl | rfl <;> exact OkStr.of (by decide +kernel)
/-- a saying as the law draws it -/
structure Drawn (s : Say) : Prop where
  dp : s.depth ≤ 51
  wd : s.words ≤ 102
  nm : ∀ x ∈ s.nms, x ∈ everyK
def sizesK : List W := [.int 0, .int 1, .int 2, .int 4, .int 9, .int 25]
theorem sizes_of {w : W} (h : w ∈ sizesK) : ∃ n : Nat, w = .int n ∧ n ≤ 25 := by
  simp only [sizesK, List.mem_cons, List.not_mem_nil, or_false] at h
  rcases h with rfl | rfl | rfl | rfl | rfl | rfl
  · exact ⟨0, rfl, by omega⟩
  · exact ⟨1, rfl, by omega⟩
  · exact ⟨2, rfl, by omega⟩
  · exact ⟨4, rfl, by omega⟩
  · exact ⟨9, rfl, by omega⟩
  · exact ⟨25, rfl, by omega⟩
section
variable {P : Nat → Option Def}
/-- one more saying -/
theorem k01_draw (h6 : P 6 = some d_law_draw) (h7 : P 7 = some d_law_of) (h8 : P 8 = some d_law_saying) {k : Nat} (hk : 40 ≤ k) {c : Cell} {j : Nat} (hm : Mach j c) (hj : j < 2 ^ 50) {nms : List Str} (hn : nms ≠ []) (hn2 : nms.length ≤ 9) (hsub : ∀ x ∈ nms, x ∈ everyK) {ss : List Say} (hs : ss.length ≤ 9) (x5 x : Option W) (a0 a2 y : W) :
    ∃ (s : Say) (c' : Cell), Drawn s ∧ Mach (j + 200) c' ∧
    fB (callK P k) (.nm 5) (.cons (.expr (.mth .append (.var 4) (.cons (.call 8 (.cons (.var 1) (.cons (.slice (.var 3) (.call 6 (.cons (.var 1) (.cons (.blt .len (.cons (.var 3) .nil)) .nil))) .cnon) (.cons (.call 7 (.cons (.var 1) (.cons (.lst false (.cons (.cint 0) (.cons (.cint 1) (.cons (.cint 2) (.cons (.cint 4) (.cons (.cint 9) (.cons (.cint 25) .nil))))))) .nil))) .nil)))) .nil))) .nil) y
      [some a0, some (.loc 0), some a2, some (.lst (nms.map W.str)), some (.loc 1), x5, none, none, none, none] [c, .lst (ss.map Say.w)] = .nx [some a0, some (.loc 0), some a2, some (.lst (nms.map W.str)), some (.loc 1), some y, none, none, none, none] [c', .lst ((ss ++ [s]).map Say.w)] := by
  obtain ⟨k, rfl⟩ : ∃ k2, k = k2 + 2 := ⟨k - 2, by omega⟩
  have hp := List.length_pos_iff.mpr hn
  obtain ⟨r, c1, e1, h0, h1, m1⟩ := draw_run h6 (k + 1) (S := [c, .lst (ss.map Say.w)]) (i := 0) rfl hm (by omega) (b := (nms.length : Int)) (by omega) (by omega)
  obtain ⟨l, rfl⟩ := Int.eq_ofNat_of_zero_le h0
  obtain ⟨w, c2, hw, e2, m2⟩ := of_run h6 h7 k (S := [c1, .lst (ss.map Say.w)]) (i := 0) (l := sizesK) rfl m1 (by omega) (by simp [sizesK]) (by simp [sizesK])
  obtain ⟨n, rfl, hn25⟩ := sizes_of hw
  have hd : nms.drop l ≠ [] := by
    intro e
    have := congrArg List.length e
    simp at this
    omega
  obtain ⟨s, c3, e3, m3, q1, q2, q3⟩ := saying_run h6 h7 h8 (xs := nms.drop l) hd (by simp; omega) (i := 0) n (k + 2) (by omega) (by omega) (S := [c2, .lst (ss.map Say.w)]) rfl m2 (by omega)
  simp only [List.set_cons_zero] at e1 e2 e3
  simp only [sizesK] at e2
  have hc := cutW_from (l := nms.map W.str) (n := l) (by simp; omega)
  rw [List.map_drop] at e3
  refine ⟨s, c3, ⟨by omega, by omega, fun x hx => hsub x (List.mem_of_mem_drop (q1 x hx))⟩, m3.mono (by omega), ?_⟩
  have hsz : ss.length < 16777216 := by omega
  simp [fB, bindT, exL, ex, ev, evL, mthRecv, getL, need, bltW_lst, e1, asPart, sliceW, hc, sizeLine_is, mkL, e2, e3, mthW, hsz]
def negs : Nat → Say → Say
  | 0, s => s | n + 1, s => .neg (negs n s)
theorem negs_depth (s : Say) : ∀ n, (negs n s).depth = s.depth + n
  | 0 => rfl
  | n + 1 => by simp only [negs, Say.depth, negs_depth s n]; omega
theorem negs_words (s : Say) : ∀ n, (negs n s).words = s.words + n
  | 0 => rfl
  | n + 1 => by simp only [negs, Say.words, negs_words s n]; omega
theorem negs_nms (s : Say) : ∀ n, (negs n s).nms = s.nms
  | 0 => rfl
  | n + 1 => by simp only [negs, Say.nms, negs_nms s n]
theorem k01_top {C : Calls} {a0 a1 a2 a3 a4 : Option W} (s : Say) (S : Store) : ∀ (n m : Nat) (lo : Int) (x5 : Option W), ∃ x5', forRun (fB C (.nm 5) (.cons (.asg (.nm 6) (.tup (.cons (.cstr (Str.ofString "not")) (.cons (.var 6) .nil)))) .nil)) none ((List.range n).map fun (i : Nat) => W.int (lo + (i : Int))) [a0, a1, a2, a3, a4, x5, some (negs m s).w, none, none, none] S
      = .nx [a0, a1, a2, a3, a4, x5', some (negs (m + n) s).w, none, none, none] S := by
  intro n m lo x5
  obtain ⟨σ', S', e, h⟩ := forRun_inv' (g := none) (f := fB C (.nm 5) (.cons (.asg (.nm 6) (.tup (.cons (.cstr (Str.ofString "not")) (.cons (.var 6) .nil)))) .nil)) (I := fun done σ S1 => S1 = S ∧ ∃ x, σ = [a0, a1, a2, a3, a4, x, some (negs (m + done.length) s).w, none, none, none]) (ws := (List.range n).map fun (i : Nat) => W.int (lo + (i : Int))) (done := []) (σ := [a0, a1, a2, a3, a4, x5, some (negs m s).w, none, none, none]) (S := S) _ rfl
    (fun done x rest _ σ S1 hI => by
      obtain ⟨rfl, x1, rfl⟩ := hI
      refine ⟨fun _ _ _ => rfl, [a0, a1, a2, a3, a4, some x, some (negs (m + (done ++ [x]).length) s).w, none, none, none], S1, ?_, rfl, some x, rfl⟩
      have e1 : m + (done ++ [x]).length = m + done.length + 1 := by simp; omega
      rw [e1]
      simp [fB, bindT, exL, ex, ev, evL, need, sizeLine_is, negs, Say.w]) (fun _ _ _ _ _ _ => rfl) ⟨rfl, x5, by simp⟩
  obtain ⟨rfl, x, rfl⟩ := h
  exact ⟨x, by rw [e]; simp⟩
theorem held_one {c c1 : Cell} {l : List W} {α : Type} (r d : α) (h : c1 = .lst l) : held (some (1, l)) [c, c1] r d = r := held_some (by rw [h]; rfl)
structure Fine (s : Say) : Prop where
  dp : s.depth ≤ 60
  wd : s.words ≤ 200
  nm : ∀ x ∈ s.nms, x ∈ everyK
theorem add_sub : ∀ (s : Say) (l : List Str), (∀ x ∈ l, x ∈ everyK) → (∀ x ∈ s.nms, x ∈ everyK) → ∀ x ∈ s.add l, x ∈ everyK
  | .unk y, l, hl, hs => fun x hx => by
    simp only [Say.add, addN] at hx
    split at hx
    · exact hl x hx
    · rcases List.mem_append.mp hx with z | z
      · exact hl x z
      · exact hs x (by simpa [Say.nms] using z)
  | .yes, l, hl, _ => hl
  | .no, l, hl, _ => hl
  | .neg a, l, hl, hs => add_sub a l hl hs
  | .mk m a b, l, hl, hs => add_sub b (a.add l) (add_sub a l hl fun x hx => hs x (List.mem_append_left _ hx)) fun x hx => hs x (List.mem_append_right _ hx)
theorem addAll_sub : ∀ (ss : List Say) (l : List Str), (∀ x ∈ l, x ∈ everyK) → (∀ s ∈ ss, Fine s) → ∀ x ∈ addAll l ss, x ∈ everyK
  | [], l, hl, _ => hl
  | s :: ss, l, hl, hs => addAll_sub ss (s.add l) (add_sub s l hl (hs s (.head _)).nm) fun t ht => hs t (.tail _ ht)
theorem addAll_len : ∀ (ss : List Say) (l : List Str), (∀ s ∈ ss, Fine s) → (addAll l ss).length ≤ l.length + 200 * ss.length
  | [], l, _ => by simp [addAll]
  | s :: ss, l, hs => by
    have h1 := addAll_len ss (s.add l) fun t ht => hs t (.tail _ ht)
    have h2 := s.add_len l
    have h3 := (hs s (.head _)).wd
    show (addAll (s.add l) ss).length ≤ _
    rw [List.length_cons]; omega
theorem addAll_snoc (l : List Str) (ss : List Say) (s : Say) : addAll l (ss ++ [s]) = s.add (addAll l ss) := by
  simp [addAll]
/-- all are looked at -/
theorem k01_right (h0 : P 0 = some d_parts_of) (h1 : P 1 = some d_words_in) (h2 : P 2 = some d_depth_of) (h3 : P 3 = some d_marks_in) (h5 : P 5 = some d_occurrences) (h10 : P 10 = some d_law_words) (h11 : P 11 = some d_law_leaves) (h13 : P 13 = some d_law_right) {k : Nat} (hk : 70 ≤ k)
    {ss : List Say} (hs : ∀ s ∈ ss, Fine s) {a0 a1 a3 a4 a5 a6 a8 a9 : Option W} (a7 : Option W) (c : Cell) : ∃ a7', forRun (fB (callK P k) (.nm 7) (.cons (.ife (.not (.call 13 (.cons (.var 7) (.cons (.var 2) .nil)))) (.cons (.ret (.cbl false)) .nil) .nil) .nil)) (some (1, ss.map Say.w)) (ss.map Say.w) [a0, a1, some (.lst (everyK.map W.str)), a3, a4, a5, a6, a7, a8, a9] [c, .lst (ss.map Say.w)]
      = .nx [a0, a1, some (.lst (everyK.map W.str)), a3, a4, a5, a6, a7', a8, a9] [c, .lst (ss.map Say.w)] := by
  obtain ⟨σ', S', e, h⟩ := forRun_inv' (g := some (1, ss.map Say.w)) (f := fB (callK P k) (.nm 7) (.cons (.ife (.not (.call 13 (.cons (.var 7) (.cons (.var 2) .nil)))) (.cons (.ret (.cbl false)) .nil) .nil) .nil)) (I := fun _ σ S1 => S1 = [c, .lst (ss.map Say.w)] ∧ ∃ x, σ = [a0, a1, some (.lst (everyK.map W.str)), a3, a4, a5, a6, x, a8, a9]) (ws := ss.map Say.w) (done := []) (σ := [a0, a1, some (.lst (everyK.map W.str)), a3, a4, a5, a6, a7, a8, a9]) (S := [c, .lst (ss.map Say.w)]) _ rfl
    (fun done w rest hall σ S1 hI => by
      obtain ⟨rfl, x1, rfl⟩ := hI
      refine ⟨fun _ r d => held_one r d rfl, ?_⟩
      have hw : w ∈ ss.map Say.w := by
        have h9 : w ∈ done ++ w :: rest := by simp
        rw [hall] at h9; simpa using h9
      obtain ⟨s, hsm, rfl⟩ := List.mem_map.mp hw
      have f := hs s hsm
      have er := right_run h0 h1 h2 h3 h5 h10 h11 h13 (s := s) (k := k) (by have := f.dp; omega) (by have := f.wd; omega) (ys := everyK) (by decide) [c, .lst (ss.map Say.w)]
      exact ⟨[a0, a1, some (.lst (everyK.map W.str)), a3, a4, a5, a6, some s.w, a8, a9], [c, .lst (ss.map Say.w)], by simp [fB, bindT, exL, ex, ev, evL, er, asB, truth], rfl, some s.w, rfl⟩) (fun σ S1 hI _ r d => by obtain ⟨rfl, _⟩ := hI; exact held_one r d rfl) ⟨rfl, a7, rfl⟩
  obtain ⟨rfl, x, rfl⟩ := h
  exact ⟨x, e⟩
/-- the names that are due -/
theorem k01_due (h9 : P 9 = some d_law_names_in) {k : Nat} (hk : 70 ≤ k) {ss : List Say} (hs : ∀ s ∈ ss, Fine s) (hl : ss.length ≤ 100) {a0 a1 a2 a3 a4 a5 a6 a9 : Option W} (a7 : Option W) (c : Cell) :
    ∃ a7', forRun (fB (callK P k) (.nm 7) (.cons (.asg (.nm 8) (.call 9 (.cons (.var 7) (.cons (.var 8) .nil)))) .nil)) (some (1, ss.map Say.w)) (ss.map Say.w) [a0, a1, a2, a3, a4, a5, a6, a7, some (.lst []), a9] [c, .lst (ss.map Say.w)]
      = .nx [a0, a1, a2, a3, a4, a5, a6, a7', some (.lst ((addAll [] ss).map W.str)), a9] [c, .lst (ss.map Say.w)] := by
  have key : ∀ (rest done : List Say), done ++ rest = ss → ∀ a7 : Option W, ∃ a7', forRun (fB (callK P k) (.nm 7) (.cons (.asg (.nm 8) (.call 9 (.cons (.var 7) (.cons (.var 8) .nil)))) .nil)) (some (1, ss.map Say.w)) (rest.map Say.w) [a0, a1, a2, a3, a4, a5, a6, a7, some (.lst ((addAll [] done).map W.str)), a9] [c, .lst (ss.map Say.w)]
      = .nx [a0, a1, a2, a3, a4, a5, a6, a7', some (.lst ((addAll [] ss).map W.str)), a9] [c, .lst (ss.map Say.w)] := by
    intro rest
    induction rest with
    | nil =>
      intro done hd a7
      rw [List.append_nil] at hd
      subst hd
      exact ⟨a7, by simp only [List.map_nil, forRun]; exact held_one _ _ rfl⟩
    | cons s rest ih =>
      intro done hd a7
      have hsm : s ∈ ss := by rw [← hd]; simp
      have f := hs s hsm
      have hdl : done.length ≤ ss.length := by rw [← hd]; simp
      have hal := addAll_len done [] fun t ht => hs t (by rw [← hd]; simp [ht])
      obtain ⟨a7', e⟩ := ih (done ++ [s]) (by rw [List.append_assoc]; exact hd) (some s.w)
      rw [addAll_snoc] at e
      have en := names_run h9 s k (by have := f.dp; omega) (addAll [] done) (by have := f.wd; simp at hal; omega) [c, .lst (ss.map Say.w)]
      refine ⟨a7', ?_⟩
      simp only [List.map_cons, forRun]
      rw [held_one _ _ rfl]
      simp [fB, bindT, exL, ex, ev, evL, en, e]
  exact key ss [] rfl a7
theorem Drawn.fine {s : Say} (h : Drawn s) : Fine s := ⟨by have := h.dp; omega, by have := h.wd; omega, h.nm⟩
theorem Fine.shw {s : Say} (h : Fine s) : Shw s.w.pd 61 4000 := (s.shw fun x hx => everyK_ok x (h.nm x hx)).mono (by have := h.dp; omega) (by have := h.wd; omega)
/-- up to the sayings -/
theorem k01_first (h6 : P 6 = some d_law_draw) (h7 : P 7 = some d_law_of) (h8 : P 8 = some d_law_saying) {k : Nat} (hk : 40 ≤ k) {nms : List Str} (hn : nms ≠ []) (hn2 : nms.length ≤ 9) (hsub : ∀ x ∈ nms, x ∈ everyK) (a0 a2 : W) {c : Cell} {j : Nat} (hm : Mach j c) (hj : j < 2 ^ 40) (r : Nat) (hr : r ≤ 4) :
    ∃ (x5 : Option W) (c' : Cell) (ss : List Say), Mach (j + 800) c' ∧ (∀ s ∈ ss, Drawn s) ∧ ss.length = r ∧
    forRun (fB (callK P k) (.nm 5) (.cons (.expr (.mth .append (.var 4) (.cons (.call 8 (.cons (.var 1) (.cons (.slice (.var 3) (.call 6 (.cons (.var 1) (.cons (.blt .len (.cons (.var 3) .nil)) .nil))) .cnon) (.cons (.call 7 (.cons (.var 1) (.cons (.lst false (.cons (.cint 0) (.cons (.cint 1) (.cons (.cint 2) (.cons (.cint 4) (.cons (.cint 9) (.cons (.cint 25) .nil))))))) .nil))) .nil)))) .nil))) .nil)) none (rngL 0 r)
      [some a0, some (.loc 0), some a2, some (.lst (nms.map W.str)), some (.loc 1), none, none, none, none, none] [c, .lst []] = .nx [some a0, some (.loc 0), some a2, some (.lst (nms.map W.str)), some (.loc 1), x5, none, none, none, none] [c', .lst (ss.map Say.w)] := by
  have hlen : (rngL 0 r).length = r := by simp [rngL]
  obtain ⟨σ', S', e, h⟩ := forRun_inv' (g := none) (f := fB (callK P k) (.nm 5) (.cons (.expr (.mth .append (.var 4) (.cons (.call 8 (.cons (.var 1) (.cons (.slice (.var 3) (.call 6 (.cons (.var 1) (.cons (.blt .len (.cons (.var 3) .nil)) .nil))) .cnon) (.cons (.call 7 (.cons (.var 1) (.cons (.lst false (.cons (.cint 0) (.cons (.cint 1) (.cons (.cint 2) (.cons (.cint 4) (.cons (.cint 9) (.cons (.cint 25) .nil))))))) .nil))) .nil)))) .nil))) .nil))
    (I := fun done σ S1 => ∃ x5 c' ss, Mach (j + 200 * done.length) c' ∧ (∀ s ∈ ss, Drawn s) ∧ ss.length = done.length ∧ σ = [some a0, some (.loc 0), some a2, some (.lst (nms.map W.str)), some (.loc 1), x5, none, none, none, none] ∧ S1 = [c', .lst (ss.map Say.w)]) (ws := rngL 0 r) (done := [])
    (σ := [some a0, some (.loc 0), some a2, some (.lst (nms.map W.str)), some (.loc 1), none, none, none, none, none]) (S := [c, .lst []]) _ rfl
    (fun done x rest hall σ S1 hI => by
      obtain ⟨x5, c', ss, m, hd, hl, rfl, rfl⟩ := hI
      have hdl : done.length < r := by
        have h9 := congrArg List.length hall
        simp [hlen] at h9
        omega
      obtain ⟨s, c2, hs, m2, e⟩ := k01_draw h6 h7 h8 hk m (by omega) hn hn2 hsub (ss := ss) (by omega) x5 none a0 a2 x
      refine ⟨fun _ _ _ => rfl, _, _, e, some x, c2, ss ++ [s], m2.mono (by simp; omega), fun t ht => ?_, by simp [hl], rfl, rfl⟩
      rcases List.mem_append.mp ht with z | z
      · exact hd t z
      · rw [List.mem_singleton.mp z]; exact hs) (fun _ _ _ _ _ _ => rfl) ⟨none, c, [], by simpa using hm, (fun s hs => by cases hs), rfl, rfl, rfl⟩
  obtain ⟨x5, c', ss, m, hd, hl, rfl, rfl⟩ := h
  simp only [List.nil_append] at hl m
  exact ⟨x5, c', ss, m.mono (by rw [hlen]; omega), hd, by rw [hl, hlen], e⟩
theorem atI_last' {l : List W} {w : W} : L2.atI (l ++ [w]) (-1) = some w := L2.atI_last _ _
theorem ixN_last {n : Nat} : L2.ixN (n + 1) (-1) = some n := by
  unfold L2.ixN
  rw [if_neg (by omega), if_pos (by omega)]
  congr 1
  omega
end
end PyI

/-! Pure part: law k01, end. Own work. -/
namespace PyI
open PySem (Str sizeLine PyData)
section
variable {P : Nat → Option Def}
/-- the last one within nots -/
theorem k01_deep (h6 : P 6 = some d_law_draw) (h10 : P 10 = some d_law_words) {k : Nat} (hk : 70 ≤ k) {init : List Say} {s : Say} (hi : init.length ≤ 10) (hd : ∀ t ∈ init ++ [s], Drawn t) {a0 a2 a3 : Option W} (x5 : Option W) {c : Cell} {j : Nat} (hm : Mach j c) (hj : j < 2 ^ 40) :
    ∃ (x5' x6' : Option W) (c' : Cell) (s' : Say), Fine s' ∧
    exL (callK P k) (.cons (.asg (.nm 6) (.idx (.var 4) (.neg (.cint 1))))
    (.cons (.for (.nm 5) (.rng (.call 6 (.cons (.var 1) (.cons (.bin .sub (.cint 61) (.idx (.call 10 (.cons (.var 6) .nil)) (.cint 1))) .nil)))) (.cons (.asg (.nm 6) (.tup (.cons (.cstr (Str.ofString "not")) (.cons (.var 6) .nil)))) .nil))
    (.cons (.seti (.var 4) (.neg (.cint 1)) (.var 6)) .nil))) [a0, some (.loc 0), a2, a3, some (.loc 1), x5, none, none, none, none] [c, .lst ((init ++ [s]).map Say.w)] = .nx [a0, some (.loc 0), a2, a3, some (.loc 1), x5', x6', none, none, none] [c', .lst ((init ++ [s']).map Say.w)] := by
  obtain ⟨k, rfl⟩ : ∃ k2, k = k2 + 1 := ⟨k - 1, by omega⟩
  have ds := hd s (by simp)
  have d1 := ds.dp
  have d2 := ds.wd
  have e10 := lwords_run h10 s (k + 1) (by omega) (by omega) [c, .lst ((init ++ [s]).map Say.w)]
  obtain ⟨r, c1, e6, r0, r1, m1⟩ := draw_run h6 k (S := [c, .lst ((init ++ [s]).map Say.w)]) (i := 0) rfl hm (by omega) (b := 61 - (s.depth : Int)) (by omega) (by omega)
  obtain ⟨l, rfl⟩ := Int.eq_ofNat_of_zero_le r0
  simp only [List.set_cons_zero] at e6
  obtain ⟨x5', ef⟩ := k01_top (C := callK P (k + 1)) (a0 := a0) (a1 := some (.loc 0)) (a2 := a2) (a3 := a3) (a4 := some (.loc 1)) s [c1, .lst ((init ++ [s]).map Say.w)] l 0 0 x5
  simp only [Nat.zero_add] at ef
  have ef : forRun _ none (rngL 0 l) _ _ = _ := ef
  refine ⟨x5', some (negs l s).w, c1, negs l s, ⟨by rw [negs_depth]; omega, by rw [negs_words]; omega, by rw [negs_nms]; exact ds.nm⟩, ?_⟩
  have hix := ixN_last (n := init.length)
  have hat1 : ∀ x y : W, L2.atI [x, y] 1 = some y := fun _ _ => rfl
  have hset : (init.map Say.w ++ [s.w]).set init.length (negs l s).w = init.map Say.w ++ [(negs l s).w] := by
    rw [List.set_append, if_neg (by simp), List.length_map, Nat.sub_self]
    rfl
  have hat := atI_last' (l := init.map Say.w) (w := s.w)
  simp only [List.map_append, List.map_cons, List.map_nil] at e10 e6 ef hat ⊢
  simp only [negs] at ef
  have s1 : ex (callK P (k + 1)) (.asg (.nm 6) (.idx (.var 4) (.neg (.cint 1)))) [a0, some (.loc 0), a2, a3, some (.loc 1), x5, none, none, none, none] [c, .lst (init.map Say.w ++ [s.w])] = .nx [a0, some (.loc 0), a2, a3, some (.loc 1), x5, some s.w, none, none, none] [c, .lst (init.map Say.w ++ [s.w])] := by
    simp [ex, ev, idxW, getD, getRd, hat, bindT]
  have s2 : ex (callK P (k + 1)) (.for (.nm 5) (.rng (.call 6 (.cons (.var 1) (.cons (.bin .sub (.cint 61) (.idx (.call 10 (.cons (.var 6) .nil)) (.cint 1))) .nil)))) (.cons (.asg (.nm 6) (.tup (.cons (.cstr (Str.ofString "not")) (.cons (.var 6) .nil)))) .nil)) [a0, some (.loc 0), a2, a3, some (.loc 1), x5, some s.w, none, none, none] [c, .lst (init.map Say.w ++ [s.w])]
      = .nx [a0, some (.loc 0), a2, a3, some (.loc 1), x5', some (negs l s).w, none, none, none] [c1, .lst (init.map Say.w ++ [s.w])] := by
    have e7 : ev (callK P (k + 1)) (.call 6 (.cons (.var 1) (.cons (.bin .sub (.cint 61) (.idx (.call 10 (.cons (.var 6) .nil)) (.cint 1))) .nil))) [a0, some (.loc 0), a2, a3, some (.loc 1), x5, some s.w, none, none, none] [c, .lst (init.map Say.w ++ [s.w])] = .ok (.int (l : Int)) [c1, .lst (init.map Say.w ++ [s.w])] := by
      simp [ev, evL, e10, idxW, getD, getRd, hat1, binW_int, binI, e6]
    rw [for_rng e7 (by omega)]
    exact ef
  have s3 : ex (callK P (k + 1)) (.seti (.var 4) (.neg (.cint 1)) (.var 6)) [a0, some (.loc 0), a2, a3, some (.loc 1), x5', some (negs l s).w, none, none, none] [c1, .lst (init.map Say.w ++ [s.w])] = .nx [a0, some (.loc 0), a2, a3, some (.loc 1), x5', some (negs l s).w, none, none, none] [c1, .lst (init.map Say.w ++ [(negs l s).w])] := by
    simp [ex, ev, setW, hix, hset]
  simp only [exL, s1, O.then_nx, s2, s3]
end
end PyI

/-! Pure part: law k01, whole. Own work. -/
namespace PyI
open PySem (Str sizeLine PyData)
theorem gcR_ok (S0 : Store) (w : W) (S : Store) : ∃ S1, gcR S0 w S = .ok w S1 := by
  unfold gcR
  split
  · exact ⟨_, rfl⟩
  · exact ⟨_, rfl⟩
section
variable {P : Nat → Option Def}
theorem k01_end (h0 : P 0 = some d_parts_of) (h4 : P 4 = some d_u_note_unknowns) (h12 : P 12 = some d_unknowns_of) {k : Nat} (hk : 70 ≤ k) {ss : List Say} (hs : ∀ s ∈ ss, Fine s) (hl : ss.length ≤ 10) {a0 a1 a2 a3 a5 a6 a7 : Option W} (c : Cell) :
    ev (callK P k) (.and (.cons (.cmp .eq (.blt .repr (.cons (.call 12 (.cons (.var 9) .nil)) .nil)) (.blt .repr (.cons (.blt .tuple (.cons (.var 8) .nil)) .nil))) (.cons (.cmp .eq (.blt .repr (.cons (.var 9) .nil)) (.blt .repr (.cons (.blt .tuple (.cons (.var 4) .nil)) .nil))) .nil)))
      [a0, a1, a2, a3, some (.loc 1), a5, a6, a7, some (.lst ((addAll [] ss).map W.str)), some (.tup (ss.map Say.w))] [c, .lst (ss.map Say.w)] = .ok (.bl true) [c, .lst (ss.map Say.w)] := by
  have hal := addAll_len ss [] hs
  simp only [List.length_nil, Nat.zero_add] at hal
  have hwa : wordsAll ss ≤ 200 * ss.length := by
    clear hal hl
    unfold wordsAll
    induction ss with
    | nil => simp
    | cons s r ih =>
      have h1 := (hs s (.head _)).wd
      have h2 := ih fun t ht => hs t (.tail _ ht)
      simp only [List.map_cons, List.sum_cons, List.length_cons]
      omega
  have e12 := unknowns_run h0 h4 h12 (k := k) (D := 60) (by omega) (ss := ss) (fun s hm => (hs s hm).dp) (by omega) [c, .lst (ss.map Say.w)]
  have r1 : bltW .repr [.tup ((addAll [] ss).map W.str)] [c, .lst (ss.map Say.w)] = .ok (.str (PyData.tuple (pdL ((addAll [] ss).map W.str))).shown) [c, .lst (ss.map Say.w)] := by
    refine repr_tup (B := (addAll [] ss).length * 11) (pureL_map fun _ _ => rfl) ((Shw.tup (shwL_map (f := W.str) (D := 0) (B := 10) fun x hx => Shw.str (everyK_ok x (addAll_sub ss [] (fun _ h => by cases h) hs x hx)))).mono (by omega) (Nat.le_refl _)) ?_
    have : (addAll [] ss).length ≤ 2000 := by omega
    omega
  have r2 : bltW .repr [.tup (ss.map Say.w)] [c, .lst (ss.map Say.w)] = .ok (.str (PyData.tuple (pdL (ss.map Say.w))).shown) [c, .lst (ss.map Say.w)] := by
    refine repr_tup (B := ss.length * 4001) (pureL_map fun s _ => s.pure_w) ((Shw.tup (shwL_map (D := 61) (B := 4000) fun s hx => (hs s hx).shw)).mono (by omega) (Nat.le_refl _)) ?_
    omega
  have t1 : bltW .tuple [.lst ((addAll [] ss).map W.str)] [c, .lst (ss.map Say.w)] = .ok (.tup ((addAll [] ss).map W.str)) [c, .lst (ss.map Say.w)] := rfl
  have t2 : bltW .tuple [.loc 1] [c, .lst (ss.map Say.w)] = .ok (.tup (ss.map Say.w)) [c, .lst (ss.map Say.w)] := rfl
  simp [ev, evAnd, evL, e12, r1, t1, cmpW, asB, r2, t2]
theorem k01_law (h0 : P 0 = some d_parts_of) (h1 : P 1 = some d_words_in) (h2 : P 2 = some d_depth_of) (h3 : P 3 = some d_marks_in) (h4 : P 4 = some d_u_note_unknowns) (h5 : P 5 = some d_occurrences) (h6 : P 6 = some d_law_draw) (h7 : P 7 = some d_law_of) (h8 : P 8 = some d_law_saying) (h9 : P 9 = some d_law_names_in)
    (h10 : P 10 = some d_law_words) (h11 : P 11 = some d_law_leaves) (h12 : P 12 = some d_unknowns_of) (h13 : P 13 = some d_law_right) (h14 : P 14 = some d_law_begun) {n : Nat} (hL : P n = some d_k01) {k : Nat} (hk : 80 ≤ k) (ns : List Int) (hns : ns.length ≤ 63) :
    ∃ S, callK P (k + 2) n [.ro ns] [] = .ok (.bl true) S := by
  obtain ⟨c0, eb, m0⟩ := begun_run h14 k (S := []) (ns := ns) (by omega) (j := 0) (by omega) (by omega)
  simp only [List.nil_append, List.length_nil] at eb
  obtain ⟨r1, c1, e1, p1, q1, m1⟩ := draw_run h6 k (S := [c0]) (i := 0) rfl m0 (by omega) (b := 9) (by omega) (by omega)
  obtain ⟨l1, rfl⟩ := Int.eq_ofNat_of_zero_le p1
  obtain ⟨r2, c2, e2, p2, q2, m2⟩ := draw_run h6 k (S := [c1, .lst []]) (i := 0) rfl m1 (by omega) (b := 4) (by omega) (by omega)
  obtain ⟨l2, rfl⟩ := Int.eq_ofNat_of_zero_le p2
  simp only [List.set_cons_zero] at e1 e2
  generalize hnm : everyK.take (1 + l1) = nms
  have hnl : nms.length = 1 + l1 := by rw [← hnm, List.length_take]; show min (1 + l1) 9 = 1 + l1; omega
  have hn0 : nms ≠ [] := fun e => by rw [e] at hnl; simp at hnl; omega
  obtain ⟨x5, c3, ss, m3, hd, hsl, e3⟩ := k01_first h6 h7 h8 (k := k + 1) (by omega) hn0 (by omega) (fun x hx => by rw [← hnm] at hx; exact List.mem_of_mem_take hx) (.ro ns) (.lst (everyK.map W.str)) m2 (by omega) l2 (by omega)
  have hcut : cutW (everyK.map W.str) none (some (1 + (l1 : Int))) = nms.map W.str := by
    have h9 := cutW_to (l := everyK.map W.str) (n := 1 + l1) (by show 1 + l1 ≤ 9; omega)
    have e9 : ((1 + l1 : Nat) : Int) = 1 + (l1 : Int) := by omega
    rw [e9] at h9
    rw [h9, ← hnm, List.map_take]
  -- behind the nots
  have h6' : ∃ (x5' x6' : Option W) (c' : Cell) (ss' : List Say), (∀ s ∈ ss', Fine s) ∧ ss'.length ≤ 10 ∧
      ex (callK P (k + 1)) (.ife (.cmp .ne (.var 4) (.lst false .nil)) (.cons (.asg (.nm 6) (.idx (.var 4) (.neg (.cint 1))))
    (.cons (.for (.nm 5) (.rng (.call 6 (.cons (.var 1) (.cons (.bin .sub (.cint 61) (.idx (.call 10 (.cons (.var 6) .nil)) (.cint 1))) .nil)))) (.cons (.asg (.nm 6) (.tup (.cons (.cstr (Str.ofString "not")) (.cons (.var 6) .nil)))) .nil))
    (.cons (.seti (.var 4) (.neg (.cint 1)) (.var 6)) .nil))) .nil) [some (.ro ns), some (.loc 0), some (.lst (everyK.map W.str)), some (.lst (nms.map W.str)), some (.loc 1), x5, none, none, none, none] [c3, .lst (ss.map Say.w)]
      = .nx [some (.ro ns), some (.loc 0), some (.lst (everyK.map W.str)), some (.lst (nms.map W.str)), some (.loc 1), x5', x6', none, none, none] [c', .lst (ss'.map Say.w)] := by
    have hne := ne_nil (S := [c3, .lst (ss.map Say.w)]) (n := 1) (l := ss.map Say.w) rfl (pureL_map fun s _ => s.pure_w) (shwL_map (D := 61) (B := 4000) fun s hx => (hd s hx).fine.shw) (by omega)
    rcases List.eq_nil_or_concat ss with rfl | ⟨init, s, rfl⟩
    · refine ⟨x5, none, c3, [], (fun s h => by cases h), by simp, ?_⟩
      simp only [List.map_nil] at hne ⊢
      simp [ex, exL, ev, evL, need, size0, mkL, hne, truth]
    · rw [List.concat_eq_append] at hd hsl hne ⊢
      have hil : init.length ≤ 10 := by simp at hsl; omega
      obtain ⟨x5', x6', c', s', hf, e⟩ := k01_deep h6 h10 (k := k + 1) (by omega) hil hd (a0 := some (.ro ns)) (a2 := some (.lst (everyK.map W.str))) (a3 := some (.lst (nms.map W.str))) x5 m3 (by omega)
      refine ⟨x5', x6', c', init ++ [s'], fun t ht => ?_, by rw [List.length_append] at hsl ⊢; simp at hsl ⊢; omega, ?_⟩
      · rcases List.mem_append.mp ht with z | z
        · exact (hd t (List.mem_append_left _ z)).fine
        · rw [List.mem_singleton.mp z]; exact hf
      · have ei : (!((init ++ [s]).map Say.w).isEmpty) = true := by simp
        rw [ei] at hne
        simp only [ex, ev, evL, List.getElem?_cons_succ, List.getElem?_cons_zero, R.bind_ok, need_of size0, mkL_f, hne, lift_some, R.to_ok, truth, List.length_nil]
        exact e
  obtain ⟨x5', x6', c4, ss4, hf, hl4, e4⟩ := h6'
  obtain ⟨a7, e7⟩ := k01_right h0 h1 h2 h3 h5 h10 h11 h13 (k := k + 1) (by omega) hf (a0 := some (.ro ns)) (a1 := some (.loc 0)) (a3 := some (.lst (nms.map W.str))) (a4 := some (.loc 1)) (a5 := x5') (a6 := x6') (a8 := none) (a9 := none) none c4
  obtain ⟨a7', e8⟩ := k01_due h9 (k := k + 1) (by omega) hf (by omega) (a0 := some (.ro ns)) (a1 := some (.loc 0)) (a2 := some (.lst (everyK.map W.str))) (a3 := some (.lst (nms.map W.str))) (a4 := some (.loc 1)) (a5 := x5') (a6 := x6') (a9 := none) a7 c4
  have e9 := k01_end h0 h4 h12 (k := k + 1) (by omega) hf hl4 (a0 := some (.ro ns)) (a1 := some (.loc 0)) (a2 := some (.lst (everyK.map W.str))) (a3 := some (.lst (nms.map W.str))) (a5 := x5') (a6 := x6') (a7 := a7') c4
  obtain ⟨S1, eg⟩ := gcR_ok [] (.bl true) [c4, .lst (ss4.map Say.w)]
  refine ⟨S1, ?_⟩
  have hS : seqOf [c4, .lst (ss4.map Say.w)] (.loc 1) = some (ss4.map Say.w, some (1, ss4.map Say.w)) := rfl
  have t1 : ex (callK P (k + 1)) (.asg (.nm 1) (.call 14 (.cons (.var 0) (.cons (.cint 0) .nil)))) [some (.ro ns), none, none, none, none, none, none, none, none, none] [] = .nx [some (.ro ns), some (.loc 0), none, none, none, none, none, none, none, none] [c0] := by
    simp [ex, ev, evL, eb, bindT]
  have t2 : ex (callK P (k + 1)) (.asg (.nm 2) (.lst false (.cons (.cstr (Str.ofString "x")) (.cons (.cstr (Str.ofString "y")) (.cons (.cstr (Str.ofString "z")) (.cons (.cstr (Str.ofString "a1")) (.cons (.cstr (Str.ofString "p0q")) (.cons (.cstr (Str.ofString "notx")) (.cons (.cstr (Str.ofString "yess")) (.cons (.cstr (Str.ofString "w")) (.cons (.cstr (Str.ofString "abcdefgh")) .nil))))))))))) [some (.ro ns), some (.loc 0), none, none, none, none, none, none, none, none] [c0] = .nx [some (.ro ns), some (.loc 0), some (.lst (everyK.map W.str)), none, none, none, none, none, none, none] [c0] := by
    simp [ex, ev, evL, need, sizeLine_is, mkL, bindT, everyK]
  have t3 : ex (callK P (k + 1)) (.asg (.nm 3) (.slice (.var 2) .cnon (.bin .add (.cint 1) (.call 6 (.cons (.var 1) (.cons (.cint 9) .nil)))))) [some (.ro ns), some (.loc 0), some (.lst (everyK.map W.str)), none, none, none, none, none, none, none] [c0] = .nx [some (.ro ns), some (.loc 0), some (.lst (everyK.map W.str)), some (.lst (nms.map W.str)), none, none, none, none, none, none] [c1] := by
    simp [ex, ev, evL, e1, binW_int, binI, asPart, sliceW, getL, hcut, bindT]
  have t4 : ex (callK P (k + 1)) (.asg (.nm 4) (.lst true .nil)) [some (.ro ns), some (.loc 0), some (.lst (everyK.map W.str)), some (.lst (nms.map W.str)), none, none, none, none, none, none] [c1] = .nx [some (.ro ns), some (.loc 0), some (.lst (everyK.map W.str)), some (.lst (nms.map W.str)), some (.loc 1), none, none, none, none, none] [c1, .lst []] := by
    simp [ex, ev, evL, need, size0, mkL, bindT]
  have t5 : ex (callK P (k + 1)) (.for (.nm 5) (.rng (.call 6 (.cons (.var 1) (.cons (.cint 4) .nil)))) (.cons (.expr (.mth .append (.var 4) (.cons (.call 8 (.cons (.var 1) (.cons (.slice (.var 3) (.call 6 (.cons (.var 1) (.cons (.blt .len (.cons (.var 3) .nil)) .nil))) .cnon) (.cons (.call 7 (.cons (.var 1) (.cons (.lst false (.cons (.cint 0) (.cons (.cint 1) (.cons (.cint 2) (.cons (.cint 4) (.cons (.cint 9) (.cons (.cint 25) .nil))))))) .nil))) .nil)))) .nil))) .nil)) [some (.ro ns), some (.loc 0), some (.lst (everyK.map W.str)), some (.lst (nms.map W.str)), some (.loc 1), none, none, none, none, none] [c1, .lst []] = .nx [some (.ro ns), some (.loc 0), some (.lst (everyK.map W.str)), some (.lst (nms.map W.str)), some (.loc 1), x5, none, none, none, none] [c3, .lst (ss.map Say.w)] := by
    have e : ev (callK P (k + 1)) (.call 6 (.cons (.var 1) (.cons (.cint 4) .nil))) [some (.ro ns), some (.loc 0), some (.lst (everyK.map W.str)), some (.lst (nms.map W.str)), some (.loc 1), none, none, none, none, none] [c1, .lst []] = .ok (.int (l2 : Int)) [c2, .lst []] := by
      simp [ev, evL, e2]
    rw [for_rng e (by omega)]
    exact e3
  have t7 : ex (callK P (k + 1)) (.for (.nm 7) (.seq (.var 4)) (.cons (.ife (.not (.call 13 (.cons (.var 7) (.cons (.var 2) .nil)))) (.cons (.ret (.cbl false)) .nil) .nil) .nil)) [some (.ro ns), some (.loc 0), some (.lst (everyK.map W.str)), some (.lst (nms.map W.str)), some (.loc 1), x5', x6', none, none, none] [c4, .lst (ss4.map Say.w)] = .nx [some (.ro ns), some (.loc 0), some (.lst (everyK.map W.str)), some (.lst (nms.map W.str)), some (.loc 1), x5', x6', a7, none, none] [c4, .lst (ss4.map Say.w)] := by
    have e : evI (callK P (k + 1)) (.seq (.var 4)) [some (.ro ns), some (.loc 0), some (.lst (everyK.map W.str)), some (.lst (nms.map W.str)), some (.loc 1), x5', x6', none, none, none] [c4, .lst (ss4.map Say.w)] = .ok (ss4.map Say.w, some (1, ss4.map Say.w)) [c4, .lst (ss4.map Say.w)] := by
      simp [evI, ev, hS]
    rw [exFor, e, R.to_ok]
    exact e7
  have t8 : ex (callK P (k + 1)) (.asg (.nm 8) (.lst false .nil)) [some (.ro ns), some (.loc 0), some (.lst (everyK.map W.str)), some (.lst (nms.map W.str)), some (.loc 1), x5', x6', a7, none, none] [c4, .lst (ss4.map Say.w)] = .nx [some (.ro ns), some (.loc 0), some (.lst (everyK.map W.str)), some (.lst (nms.map W.str)), some (.loc 1), x5', x6', a7, some (.lst []), none] [c4, .lst (ss4.map Say.w)] := by
    simp [ex, ev, evL, need, size0, mkL, bindT]
  have t9 : ex (callK P (k + 1)) (.for (.nm 7) (.seq (.var 4)) (.cons (.asg (.nm 8) (.call 9 (.cons (.var 7) (.cons (.var 8) .nil)))) .nil)) [some (.ro ns), some (.loc 0), some (.lst (everyK.map W.str)), some (.lst (nms.map W.str)), some (.loc 1), x5', x6', a7, some (.lst []), none] [c4, .lst (ss4.map Say.w)] = .nx [some (.ro ns), some (.loc 0), some (.lst (everyK.map W.str)), some (.lst (nms.map W.str)), some (.loc 1), x5', x6', a7', some (.lst ((addAll [] ss4).map W.str)), none] [c4, .lst (ss4.map Say.w)] := by
    have e : evI (callK P (k + 1)) (.seq (.var 4)) [some (.ro ns), some (.loc 0), some (.lst (everyK.map W.str)), some (.lst (nms.map W.str)), some (.loc 1), x5', x6', a7, some (.lst []), none] [c4, .lst (ss4.map Say.w)] = .ok (ss4.map Say.w, some (1, ss4.map Say.w)) [c4, .lst (ss4.map Say.w)] := by
      simp [evI, ev, hS]
    rw [exFor, e, R.to_ok]
    exact e8
  have t10 : ex (callK P (k + 1)) (.asg (.nm 9) (.blt .tuple (.cons (.var 4) .nil))) [some (.ro ns), some (.loc 0), some (.lst (everyK.map W.str)), some (.lst (nms.map W.str)), some (.loc 1), x5', x6', a7', some (.lst ((addAll [] ss4).map W.str)), none] [c4, .lst (ss4.map Say.w)] = .nx [some (.ro ns), some (.loc 0), some (.lst (everyK.map W.str)), some (.lst (nms.map W.str)), some (.loc 1), x5', x6', a7', some (.lst ((addAll [] ss4).map W.str)), some (.tup (ss4.map Say.w))] [c4, .lst (ss4.map Say.w)] := by
    simp [ex, ev, evL, bltW, getL, bindT]
  have hcall : callK P (k + 2) n [.ro ns] [] = (exL (callK P (k + 1)) d_k01.body [some (.ro ns), none, none, none, none, none, none, none, none, none] []).res [] (gcR []) := by
    rw [callK, hL]
    exact if_pos ⟨rfl, by decide⟩
  rw [hcall]
  simp only [d_k01]
  simp only [exL, t1, O.then_nx, t2, t3, t4, t5, e4, t7, t8, t9, t10]
  simp only [ex]
  rw [e9]
  exact eg
end
end PyI

namespace PyI
open PySem L2
def tb : Tb := ⟨[(Str.ofString "parts_of", 0), (Str.ofString "words_in", 1), (Str.ofString "depth_of", 2), (Str.ofString "marks_in", 3), (Str.ofString "_note_unknowns", 4), (Str.ofString "unknowns_of", 12), (Str.ofString "occurrences", 5), (Str.ofString "_law_begun", 14), (Str.ofString "_law_draw", 6), (Str.ofString "_law_of", 7), (Str.ofString "_law_saying", 8), (Str.ofString "_law_names_in", 9), (Str.ofString "_law_words", 10), (Str.ofString "_law_leaves", 11), (Str.ofString "_law_right", 13), (Str.ofString "law", 120)],
  [(Str.ofString "PAIRS", (.tup [(.str (Str.ofString "plus")), (.str (Str.ofString "times")), (.str (Str.ofString "leads")), (.str (Str.ofString "and")), (.str (Str.ofString "or")), (.str (Str.ofString "same"))]))],
  [Str.ofString "sum", Str.ofString "max", Str.ofString "tuple", Str.ofString "int", Str.ofString "len", Str.ofString "repr", Str.ofString "range"]⟩
def Tab : Nat → Option Def := fun n => match n with
  | 0 => some d_parts_of
  | 1 => some d_words_in
  | 2 => some d_depth_of
  | 3 => some d_marks_in
  | 4 => some d_u_note_unknowns
  | 12 => some d_unknowns_of
  | 5 => some d_occurrences
  | 14 => some d_law_begun
  | 6 => some d_law_draw
  | 7 => some d_law_of
  | 8 => some d_law_saying
  | 9 => some d_law_names_in
  | 10 => some d_law_words
  | 11 => some d_law_leaves
  | 13 => some d_law_right
  | 120 => some d_k01
  | _ => none
def topS (i : Nat) : Stmt := PySem.Challenge.pw_halftruths_k01_sayings_counted.main.body.getD i (.Pass ⟨0, 0, 0, 0⟩)
theorem c_parts_of : defC tb [Str.ofString "saying"] [Str.ofString "saying"] (topS 2) d_parts_of = true := by decide +kernel
theorem c_words_in : defC tb [Str.ofString "saying", Str.ofString "part"] [Str.ofString "saying"] (topS 3) d_words_in = true := by decide +kernel
theorem c_depth_of : defC tb [Str.ofString "saying", Str.ofString "part"] [Str.ofString "saying"] (topS 4) d_depth_of = true := by decide +kernel
theorem c_marks_in : defC tb [Str.ofString "saying", Str.ofString "part"] [Str.ofString "saying"] (topS 5) d_marks_in = true := by decide +kernel
theorem c_note_unknowns : defC tb [Str.ofString "saying", Str.ofString "found", Str.ofString "part"] [Str.ofString "saying", Str.ofString "found"] (topS 6) d_u_note_unknowns = true := by decide +kernel
theorem c_unknowns_of : defC tb [Str.ofString "sayings", Str.ofString "found", Str.ofString "saying"] [Str.ofString "sayings"] (topS 7) d_unknowns_of = true := by decide +kernel
theorem c_occurrences : defC tb [Str.ofString "saying", Str.ofString "name", Str.ofString "part"] [Str.ofString "saying", Str.ofString "name"] (topS 8) d_occurrences = true := by decide +kernel
theorem c_law_begun : defC tb [Str.ofString "script", Str.ofString "k", Str.ofString "cells", Str.ofString "great", Str.ofString "begun", Str.ofString "cell"] [Str.ofString "script", Str.ofString "k"] (topS 10) d_law_begun = true := by decide +kernel
theorem c_law_draw : defC tb [Str.ofString "m", Str.ofString "below", Str.ofString "found", Str.ofString "spot", Str.ofString "cells", Str.ofString "added", Str.ofString "cell", Str.ofString "blend"] [Str.ofString "m", Str.ofString "below"] (topS 11) d_law_draw = true := by decide +kernel
theorem c_law_of : defC tb [Str.ofString "m", Str.ofString "some"] [Str.ofString "m", Str.ofString "some"] (topS 12) d_law_of = true := by decide +kernel
theorem c_law_saying : defC tb [Str.ofString "m", Str.ofString "names", Str.ofString "size", Str.ofString "way", Str.ofString "made", Str.ofString "left", Str.ofString "mark", Str.ofString "first"] [Str.ofString "m", Str.ofString "names", Str.ofString "size"] (topS 13) d_law_saying = true := by decide +kernel
theorem c_law_names_in : defC tb [Str.ofString "saying", Str.ofString "found", Str.ofString "inner"] [Str.ofString "saying", Str.ofString "found"] (topS 14) d_law_names_in = true := by decide +kernel
theorem c_law_words : defC tb [Str.ofString "saying", Str.ofString "found", Str.ofString "deep", Str.ofString "inner", Str.ofString "more", Str.ofString "down"] [Str.ofString "saying"] (topS 15) d_law_words = true := by decide +kernel
theorem c_law_leaves : defC tb [Str.ofString "saying", Str.ofString "found", Str.ofString "inner"] [Str.ofString "saying"] (topS 16) d_law_leaves = true := by decide +kernel
theorem c_law_right : defC tb [Str.ofString "saying", Str.ofString "names", Str.ofString "found", Str.ofString "deep", Str.ofString "leaves", Str.ofString "marks", Str.ofString "name", Str.ofString "word", Str.ofString "leaf"] [Str.ofString "saying", Str.ofString "names"] (topS 17) d_law_right = true := by decide +kernel
theorem c_law : defC tb [Str.ofString "script", Str.ofString "m", Str.ofString "every", Str.ofString "names", Str.ofString "sayings", Str.ofString "turn", Str.ofString "top", Str.ofString "saying", Str.ofString "due", Str.ofString "handed"] [Str.ofString "script"] (topS 18) d_k01 = true := by decide +kernel
theorem pure_law (ns : List Int) (h : ns.length ≤ 63) (hb : ∀ z ∈ ns, PySem.Builtin.Int.intBits z ≤ 1048576) : ∃ S, callK Tab 200 120 [.ro ns] [] = .ok (.bl true) S :=
  k01_law (k := 198) rfl rfl rfl rfl rfl rfl rfl rfl rfl rfl rfl rfl rfl rfl rfl rfl (by decide) ns h
end PyI

open PySem PySem.W PyProof.Rows PyI in
set_option maxHeartbeats 0 in
theorem PySem.Challenge.cw_halftruths_k01_sayings_counted_holds : PySem.Challenge.rw_halftruths_k01_sayings_counted.Holds := by
  w_on; o_law; k_head; (case hw => w_witness2)
  k_fill
  refine PyI.walk_I (l := PySem.Challenge.rw_halftruths_k01_sayings_counted) (n := 63) (k := 200) (tb := PyI.tb) (T := PyI.Tab) (nl := 120) rfl (by decide) rfl ⟨rfl, by decide, by decide⟩ (fun w h Y => PySem.W.kIn_of Y) (by decide +kernel) ?F PyI.pure_law
  case F =>
    intro w mg h KX G
    have h_parts_of : PyI.DefOk PyI.tb ⟨L2.KOf KX, fun _ => none⟩ mg (Str.ofString "parts_of") PyI.d_parts_of := by
      delta L2.KOf
      refine' PyI.def_ok (st := PyI.topS 2) [Str.ofString "saying"] [Str.ofString "saying"] KX G ?a ?l ?c ?k PyI.c_parts_of ?hb
      (case a => k_is); (case l => k_is); (case c => k_is); (case k => k_is); (case hb => exact fun _ _ _ _ _ _ => PyI.all1 fun _ => rfl)
    have h_words_in : PyI.DefOk PyI.tb ⟨L2.KOf KX, fun _ => none⟩ mg (Str.ofString "words_in") PyI.d_words_in := by
      delta L2.KOf
      refine' PyI.def_ok (st := PyI.topS 3) [Str.ofString "saying", Str.ofString "part"] [Str.ofString "saying"] KX G ?a ?l ?c ?k PyI.c_words_in ?hb
      (case a => k_is); (case l => k_is); (case c => k_is); (case k => k_is); (case hb => exact fun _ _ _ _ _ _ => PyI.all1 fun _ => rfl)
    have h_depth_of : PyI.DefOk PyI.tb ⟨L2.KOf KX, fun _ => none⟩ mg (Str.ofString "depth_of") PyI.d_depth_of := by
      delta L2.KOf
      refine' PyI.def_ok (st := PyI.topS 4) [Str.ofString "saying", Str.ofString "part"] [Str.ofString "saying"] KX G ?a ?l ?c ?k PyI.c_depth_of ?hb
      (case a => k_is); (case l => k_is); (case c => k_is); (case k => k_is); (case hb => exact fun _ _ _ _ _ _ => PyI.all1 fun _ => rfl)
    have h_marks_in : PyI.DefOk PyI.tb ⟨L2.KOf KX, fun _ => none⟩ mg (Str.ofString "marks_in") PyI.d_marks_in := by
      delta L2.KOf
      refine' PyI.def_ok (st := PyI.topS 5) [Str.ofString "saying", Str.ofString "part"] [Str.ofString "saying"] KX G ?a ?l ?c ?k PyI.c_marks_in ?hb
      (case a => k_is); (case l => k_is); (case c => k_is); (case k => k_is); (case hb => exact fun _ _ _ _ _ _ => PyI.all1 fun _ => rfl)
    have h_note_unknowns : PyI.DefOk PyI.tb ⟨L2.KOf KX, fun _ => none⟩ mg (Str.ofString "_note_unknowns") PyI.d_u_note_unknowns := by
      delta L2.KOf
      refine' PyI.def_ok (st := PyI.topS 6) [Str.ofString "saying", Str.ofString "found", Str.ofString "part"] [Str.ofString "saying", Str.ofString "found"] KX G ?a ?l ?c ?k PyI.c_note_unknowns ?hb
      (case a => k_is); (case l => k_is); (case c => k_is); (case k => k_is); (case hb => exact fun _ _ _ _ _ _ => PyI.all2 fun _ _ => rfl)
    have h_unknowns_of : PyI.DefOk PyI.tb ⟨L2.KOf KX, fun _ => none⟩ mg (Str.ofString "unknowns_of") PyI.d_unknowns_of := by
      delta L2.KOf
      refine' PyI.def_ok (st := PyI.topS 7) [Str.ofString "sayings", Str.ofString "found", Str.ofString "saying"] [Str.ofString "sayings"] KX G ?a ?l ?c ?k PyI.c_unknowns_of ?hb
      (case a => k_is); (case l => k_is); (case c => k_is); (case k => k_is); (case hb => exact fun _ _ _ _ _ _ => PyI.all1 fun _ => rfl)
    have h_occurrences : PyI.DefOk PyI.tb ⟨L2.KOf KX, fun _ => none⟩ mg (Str.ofString "occurrences") PyI.d_occurrences := by
      delta L2.KOf
      refine' PyI.def_ok (st := PyI.topS 8) [Str.ofString "saying", Str.ofString "name", Str.ofString "part"] [Str.ofString "saying", Str.ofString "name"] KX G ?a ?l ?c ?k PyI.c_occurrences ?hb
      (case a => k_is); (case l => k_is); (case c => k_is); (case k => k_is); (case hb => exact fun _ _ _ _ _ _ => PyI.all2 fun _ _ => rfl)
    have h_law_begun : PyI.DefOk PyI.tb ⟨L2.KOf KX, fun _ => none⟩ mg (Str.ofString "_law_begun") PyI.d_law_begun := by
      delta L2.KOf
      refine' PyI.def_ok (st := PyI.topS 10) [Str.ofString "script", Str.ofString "k", Str.ofString "cells", Str.ofString "great", Str.ofString "begun", Str.ofString "cell"] [Str.ofString "script", Str.ofString "k"] KX G ?a ?l ?c ?k PyI.c_law_begun ?hb
      (case a => k_is); (case l => k_is); (case c => k_is); (case k => k_is); (case hb => exact fun _ _ _ _ _ _ => PyI.all2 fun _ _ => rfl)
    have h_law_draw : PyI.DefOk PyI.tb ⟨L2.KOf KX, fun _ => none⟩ mg (Str.ofString "_law_draw") PyI.d_law_draw := by
      delta L2.KOf
      refine' PyI.def_ok (st := PyI.topS 11) [Str.ofString "m", Str.ofString "below", Str.ofString "found", Str.ofString "spot", Str.ofString "cells", Str.ofString "added", Str.ofString "cell", Str.ofString "blend"] [Str.ofString "m", Str.ofString "below"] KX G ?a ?l ?c ?k PyI.c_law_draw ?hb
      (case a => k_is); (case l => k_is); (case c => k_is); (case k => k_is); (case hb => exact fun _ _ _ _ _ _ => PyI.all2 fun _ _ => rfl)
    have h_law_of : PyI.DefOk PyI.tb ⟨L2.KOf KX, fun _ => none⟩ mg (Str.ofString "_law_of") PyI.d_law_of := by
      delta L2.KOf
      refine' PyI.def_ok (st := PyI.topS 12) [Str.ofString "m", Str.ofString "some"] [Str.ofString "m", Str.ofString "some"] KX G ?a ?l ?c ?k PyI.c_law_of ?hb
      (case a => k_is); (case l => k_is); (case c => k_is); (case k => k_is); (case hb => exact fun _ _ _ _ _ _ => PyI.all2 fun _ _ => rfl)
    have h_law_saying : PyI.DefOk PyI.tb ⟨L2.KOf KX, fun _ => none⟩ mg (Str.ofString "_law_saying") PyI.d_law_saying := by
      delta L2.KOf
      refine' PyI.def_ok (st := PyI.topS 13) [Str.ofString "m", Str.ofString "names", Str.ofString "size", Str.ofString "way", Str.ofString "made", Str.ofString "left", Str.ofString "mark", Str.ofString "first"] [Str.ofString "m", Str.ofString "names", Str.ofString "size"] KX G ?a ?l ?c ?k PyI.c_law_saying ?hb
      (case a => k_is); (case l => k_is); (case c => k_is); (case k => k_is); (case hb => exact fun _ _ _ _ _ _ => PyI.all3 fun _ _ _ => rfl)
    have h_law_names_in : PyI.DefOk PyI.tb ⟨L2.KOf KX, fun _ => none⟩ mg (Str.ofString "_law_names_in") PyI.d_law_names_in := by
      delta L2.KOf
      refine' PyI.def_ok (st := PyI.topS 14) [Str.ofString "saying", Str.ofString "found", Str.ofString "inner"] [Str.ofString "saying", Str.ofString "found"] KX G ?a ?l ?c ?k PyI.c_law_names_in ?hb
      (case a => k_is); (case l => k_is); (case c => k_is); (case k => k_is); (case hb => exact fun _ _ _ _ _ _ => PyI.all2 fun _ _ => rfl)
    have h_law_words : PyI.DefOk PyI.tb ⟨L2.KOf KX, fun _ => none⟩ mg (Str.ofString "_law_words") PyI.d_law_words := by
      delta L2.KOf
      refine' PyI.def_ok (st := PyI.topS 15) [Str.ofString "saying", Str.ofString "found", Str.ofString "deep", Str.ofString "inner", Str.ofString "more", Str.ofString "down"] [Str.ofString "saying"] KX G ?a ?l ?c ?k PyI.c_law_words ?hb
      (case a => k_is); (case l => k_is); (case c => k_is); (case k => k_is); (case hb => exact fun _ _ _ _ _ _ => PyI.all1 fun _ => rfl)
    have h_law_leaves : PyI.DefOk PyI.tb ⟨L2.KOf KX, fun _ => none⟩ mg (Str.ofString "_law_leaves") PyI.d_law_leaves := by
      delta L2.KOf
      refine' PyI.def_ok (st := PyI.topS 16) [Str.ofString "saying", Str.ofString "found", Str.ofString "inner"] [Str.ofString "saying"] KX G ?a ?l ?c ?k PyI.c_law_leaves ?hb
      (case a => k_is); (case l => k_is); (case c => k_is); (case k => k_is); (case hb => exact fun _ _ _ _ _ _ => PyI.all1 fun _ => rfl)
    have h_law_right : PyI.DefOk PyI.tb ⟨L2.KOf KX, fun _ => none⟩ mg (Str.ofString "_law_right") PyI.d_law_right := by
      delta L2.KOf
      refine' PyI.def_ok (st := PyI.topS 17) [Str.ofString "saying", Str.ofString "names", Str.ofString "found", Str.ofString "deep", Str.ofString "leaves", Str.ofString "marks", Str.ofString "name", Str.ofString "word", Str.ofString "leaf"] [Str.ofString "saying", Str.ofString "names"] KX G ?a ?l ?c ?k PyI.c_law_right ?hb
      (case a => k_is); (case l => k_is); (case c => k_is); (case k => k_is); (case hb => exact fun _ _ _ _ _ _ => PyI.all2 fun _ _ => rfl)
    have h_law : PyI.DefOk PyI.tb ⟨L2.KOf KX, fun _ => none⟩ mg (Str.ofString "law") PyI.d_k01 := by
      delta L2.KOf
      refine' PyI.def_ok (st := PyI.topS 18) [Str.ofString "script", Str.ofString "m", Str.ofString "every", Str.ofString "names", Str.ofString "sayings", Str.ofString "turn", Str.ofString "top", Str.ofString "saying", Str.ofString "due", Str.ofString "handed"] [Str.ofString "script"] KX G ?a ?l ?c ?k PyI.c_law ?hb
      (case a => k_is); (case l => k_is); (case c => k_is); (case k => k_is); (case hb => exact fun _ _ _ _ _ _ => PyI.all1 fun _ => rfl)
    have k_PAIRS : ∃ u v, mg (Str.ofString "PAIRS") = some u ∧ L2.RelV v u ∧ ∀ am H, PyI.VR (L2.KOf KX) am H v (.tup [(.str (Str.ofString "plus")), (.str (Str.ofString "times")), (.str (Str.ofString "leads")), (.str (Str.ofString "and")), (.str (Str.ofString "or")), (.str (Str.ofString "same"))]) := by
      delta L2.KOf
      refine' PyI.con_ok KX G ?a ?b
      (case a => k_is); (case b => kernel_rfl)
    have b_sum : mg (Str.ofString "sum") = none := by
      refine' PySem.W.mg_none_of KX G ?a
      (case a => k_is)
    have b_max : mg (Str.ofString "max") = none := by
      refine' PySem.W.mg_none_of KX G ?a
      (case a => k_is)
    have b_tuple : mg (Str.ofString "tuple") = none := by
      refine' PySem.W.mg_none_of KX G ?a
      (case a => k_is)
    have b_int : mg (Str.ofString "int") = none := by
      refine' PySem.W.mg_none_of KX G ?a
      (case a => k_is)
    have b_len : mg (Str.ofString "len") = none := by
      refine' PySem.W.mg_none_of KX G ?a
      (case a => k_is)
    have b_repr : mg (Str.ofString "repr") = none := by
      refine' PySem.W.mg_none_of KX G ?a
      (case a => k_is)
    have b_range : mg (Str.ofString "range") = none := by
      refine' PySem.W.mg_none_of KX G ?a
      (case a => k_is)
    exact PyI.TabOk.mk' ⟨⟨PyI.d_parts_of, rfl, h_parts_of⟩, ⟨PyI.d_words_in, rfl, h_words_in⟩, ⟨PyI.d_depth_of, rfl, h_depth_of⟩, ⟨PyI.d_marks_in, rfl, h_marks_in⟩, ⟨PyI.d_u_note_unknowns, rfl, h_note_unknowns⟩, ⟨PyI.d_unknowns_of, rfl, h_unknowns_of⟩, ⟨PyI.d_occurrences, rfl, h_occurrences⟩, ⟨PyI.d_law_begun, rfl, h_law_begun⟩, ⟨PyI.d_law_draw, rfl, h_law_draw⟩, ⟨PyI.d_law_of, rfl, h_law_of⟩, ⟨PyI.d_law_saying, rfl, h_law_saying⟩, ⟨PyI.d_law_names_in, rfl, h_law_names_in⟩, ⟨PyI.d_law_words, rfl, h_law_words⟩, ⟨PyI.d_law_leaves, rfl, h_law_leaves⟩, ⟨PyI.d_law_right, rfl, h_law_right⟩, ⟨PyI.d_k01, rfl, h_law⟩, trivial⟩ ⟨k_PAIRS, trivial⟩ ⟨b_sum, b_max, b_tuple, b_int, b_len, b_repr, b_range, trivial⟩
